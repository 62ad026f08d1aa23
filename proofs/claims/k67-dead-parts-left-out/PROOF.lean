import PyProof.Rows.All
import Wide.All
import OpenK.AllK
import Wide.FinOn
import KE.KDictItemsList
import HandS.ForMost
import PyProof.EqAt
import PyProof.EqKinds
import PyProof.EnumMake
import HandS.Exc
import HandS.Conv
import HandS.Evl
import HandS.IsInst
import HandS.Style
import HandS.TupAny
import HandS.Defaults
import HandS.HeadHook4
import HandS.Walk
import KE.KExcInit
import KE.KExcIs
import HandS.ExcOwn
import HandS.ExcInit
import HandS.ExcValue
import HandS.OwnEq
import HandS.MakeKw
import HandS.TryMany
import HandS.ExcField
import HandS.CallLocal
import HandS.Lambda
import HandS.Nested
import HandS.EndTab
import HandS.HeadWalk
import PyProof.ReprRoads
import HandS.Head0
import HandS.Head1
import HandS.Head2
import HandS.HeadEnd
import HandS.HeadHook1
import HandS.HeadHook2
import HandS.HeadHook3
import HandS.More
import KE.KDictWalk
import KE.KDictDisplayH
import HandS.Iter
import HandS.Dict
import HandS.DictTup
import HandS.Small
import KE.LtData
import KE.SortData
import KE.KDictSum
import PyProof.CallFns
import HandS.SortInts
import HandS.TupMul
import PyProof.NeKinds
import PySem.Challenge.RW_finallycopies_k67_dead_parts_left_out
set_option Elab.async false
set_option linter.all false
set_option maxRecDepth 100000
set_option maxHeartbeats 4000000
namespace FcE
open PySem PySem.W PySem.Calls PyProof.Rows PyProof.V PySem.Spec
def EnB (h:Heap) (e it a:Addr) (f:Bool) (i:Int) (item:Value):Prop :=
 h.get? e=some { cls:=.type "enumerate",dict:=none,data:=.fields #[rawInt a,.bool f,.ref it,rawInt i,.none,item],slots:=#[] }
section
variable {prog:Program} {w:World} {A:Around} {E:Value→Shared→Prop} {s:Shared}
theorem enB_next {e it l a:Addr} {f:Bool} {oa:Obj} {i:Nat} {items:Array Value} {x item:Value} {Q:Option Value→Shared→Prop}
  (he:EnB s.heap e it a f i item) (ha:s.heap.get? a=some oa) (hae:a≠e) (hai:a≠it) (hit:s.heap.IsListIter it l i) (hl:s.heap.IsList l items) (hx:items[i]?=some x) (hne:e≠it)
  (hQ:∀ h',EnB h' e it a true ((i:Int) + 1) item→h'.IsListIter it l (i + 1) →
   h'.get? s.heap.objs.size=some { cls:=.type "tuple",data:=.seq #[.int i s.toks,x] }→h'.objs.size=s.heap.objs.size + 1 →
   (∀ b o,b≠e→b≠it→s.heap.get? b=some o→h'.get? b=some o)→Q (some (.ref s.heap.objs.size)) { s with heap:=h',toks:=s.toks + 1 }) :
  wpAny (model prog w) A (pyNext (.ref e)) Q E s:=by
 obtain ⟨hp,g,d,tk,os⟩:=s
 have hT:Shared.TypeIs ⟨hp,g,d,tk,os⟩ (.ref e) "enumerate":=⟨_,he,rfl⟩
 unfold pyNext
 refine wpAny_bind (wpAny_attempt (wpAny_callSpecial?_slot (name:=Str.ofString "__next__") hT F.slot_enumerate_next
  (wpAny_call_entry F.slot_enumerate_next hT F.entry_enumerate_next ?_ (F.args_enumerate_next_1 _))))
 show wpAny _ _ (field (.ref e) 2 >>= _) _ _ _
 refine wpAny_bind (wpAny_field he rfl (x:=.ref it) rfl ?_)
 refine wpAny_bind (wpAny_nextOf_list_item hit hl hx fun h1 hit1 hs1=>?_)
 replace hs1:Heap.SameBut it hp h1:=hs1
 have he1:EnB h1 e it a f i item:=(hs1.2 e hne).trans he
 show wpAny _ _ (field (.ref e) 3 >>= _) _ _ ⟨h1,g,d,tk,os⟩
 refine wpAny_bind (wpAny_field he1 rfl (x:=rawInt i) rfl ?_)
 show wpAny _ _ (field (.ref e) 4 >>= _) _ _ ⟨h1,g,d,tk,os⟩
 refine wpAny_bind (wpAny_field he1 rfl (x:=.none) rfl ?_)
 show wpAny _ _ (mkInt i >>= _) _ _ ⟨h1,g,d,tk,os⟩
 refine wpAny_bind (wpAny_mkInt ?_)
 show wpAny _ _ (setField (.ref e) 3 (rawInt ((i:Int) + 1)) >>= _) _ _ ⟨h1,g,d,tk + 1,os⟩
 refine wpAny_bind (wpAny_setField_rec he1 (by simp) fun h2 he2 hs2=>?_)
 replace hs2:Heap.SameBut e h1 h2:=hs2
 replace he2:EnB h2 e it a f ((i:Int) + 1) item:=he2
 show wpAny _ _ (setField (.ref e) 4 .none >>= _) _ _ ⟨h2,g,d,tk + 1,os⟩
 refine wpAny_bind (wpAny_setField_rec he2 (by simp) fun h3 he3 hs3=>?_)
 replace hs3:Heap.SameBut e h2 h3:=hs3
 replace he3:EnB h3 e it a f ((i:Int) + 1) item:=he3
 show wpAny _ _ (newTuple [.int i tk,x] >>= _) _ _ ⟨h3,g,d,tk + 1,os⟩
 refine wpAny_bind (wpAny_newTuple ?_)
 have he4:EnB (h3.push { cls:=.type "tuple",data:=.seq #[.int i tk,x] }) e it a f ((i:Int) + 1) item:=Heap.get?_push_of_some _ he3
 generalize hh4:h3.push { cls:=.type "tuple",data:=.seq #[.int i tk,x] }=h4 at he4
 have hsz:h3.objs.size=hp.objs.size:=by rw [hs3.1,hs2.1,hs1.1]
 have hel:e<hp.objs.size:=Heap.lt_size he
 have ht4:h4.get? hp.objs.size=some { cls:=.type "tuple",data:=.seq #[.int i tk,x] }:=by rw [← hh4,← hsz];exact Heap.get?_push_size _ rfl
 have hz4:h4.objs.size=hp.objs.size + 1:=by rw [← hh4,Heap.size_push,hsz]
 have hk4:∀ b o,b≠e→b≠it→hp.get? b=some o→h4.get? b=some o:=fun b o hbe hbi hb=>by
  rw [← hh4];exact Heap.get?_push_of_some _ (hs3.extBut b o hbe (hs2.extBut b o hbe (hs1.extBut b o hbi hb)))
 have hit4:h4.IsListIter it l (i + 1):=by
  rw [← hh4];obtain ⟨o,ho,r⟩:=(hit1.extBut hs2.extBut (Ne.symm hne)).extBut hs3.extBut (Ne.symm hne);exact ⟨o,Heap.get?_push_of_some _ ho,r⟩
 show wpAny _ _ (Builtin.SmallTypes.ownedTupleIsFree (.ref e) >>= _) _ _ ⟨h4,g,d,tk + 1,os⟩
 rw [hsz]
 have ha4:h4.get? a=some oa:=hk4 a oa hae hai ha
 clear hh4 he3 hs3 he2 hs2 he1 hs1 hit1 hsz h3 h2 h1
 refine wpAny_bind ?_
 unfold Builtin.SmallTypes.ownedTupleIsFree
 refine wpAny_bind (wpAny_field he4 rfl (x:=rawInt a) rfl ?_)
 show wpAny _ _ (loadIfAlive ((a:Int).toNat) >>= _) _ _ _
 rw [Int.toNat_natCast]
 refine wpAny_bind (kdx_alive ha4 ?_)
 simp only [Option.isNone_some,Bool.false_eq_true,if_false]
 refine wpAny_bind (wpAny_field he4 rfl (x:=.bool f) rfl ?_)
 have fin:∀ h5:Heap,EnB h5 e it a true ((i:Int) + 1) item→Heap.SameBut e h4 h5→Q (some (.ref hp.objs.size)) ⟨h5,g,d,tk + 1,os⟩:=fun h5 he5 hs5 =>
  hQ h5 he5 (hit4.extBut hs5.extBut (Ne.symm hne)) (by exact hs5.extBut _ _ (Nat.ne_of_gt hel) ht4) (by show h5.objs.size=hp.objs.size + 1;rw [hs5.1,hz4]) fun b o hbe hbi hb=>hs5.extBut b o hbe (hk4 b o hbe hbi hb)
 cases f with
 | true =>
  rw [if_neg (show ¬ ((Value.bool true != Value.bool true)=true) from Bool.false_ne_true)]
  refine wpAny_pure ?_
  simp only [Bool.false_eq_true,if_false]
  exact wpAny_pure ⟨_,rfl,wpAny_pure (fin h4 he4 (Heap.SameBut.refl _ _))⟩
 | false =>
  rw [if_pos (show (Value.bool false != Value.bool true)=true from rfl)]
  refine wpAny_bind (wpAny_setField_rec he4 (by simp) fun h5 he5 hs5=>?_)
  replace hs5:Heap.SameBut e h4 h5:=hs5
  replace he5:EnB h5 e it a true ((i:Int) + 1) item:=he5
  refine wpAny_pure ?_
  simp only [Bool.false_eq_true,if_false]
  exact wpAny_pure ⟨_,rfl,wpAny_pure (fin h5 he5 hs5)⟩
theorem enB_done {e it l a:Addr} {f:Bool} {i:Nat} {items:Array Value} {item:Value} {Q:Option Value→Shared→Prop} (hh:A.handled=none)
  (he:EnB s.heap e it a f i item) (hit:s.heap.IsListIter it l i) (hl:s.heap.IsList l items) (hx:items[i]?=none)
  (hQ:∀ h',Heap.ExtBut it s.heap h'→Q none { s with heap:=h' }):wpAny (model prog w) A (pyNext (.ref e)) Q E s:=by
 have hT:s.TypeIs (.ref e) "enumerate":=⟨_,he,rfl⟩
 unfold pyNext
 refine wpAny_bind (wpAny_attempt (wpAny_callSpecial?_slot (name:=Str.ofString "__next__") hT F.slot_enumerate_next
  (wpAny_call_entry F.slot_enumerate_next hT F.entry_enumerate_next ?_ (F.args_enumerate_next_1 _))))
 show wpAny _ _ (field (.ref e) 2 >>= _) _ _ _
 refine wpAny_bind (wpAny_field he rfl (x:=.ref it) rfl ?_)
 refine wpAny_bind (wpAny_nextOf_list_end hh hit hl hx fun h' x he' hx'=>?_)
 obtain ⟨o,ho,hc⟩:=hx'
 refine wpAny_bind (wpAny_isInstance (T:="StopIteration") (b:=true) ⟨o,ho,hc⟩ isSubtype_stop ?_)
 exact wpAny_pure (hQ _ he')
end
def EnSt (h:Heap) (e it S:Addr) (i:Nat):Prop :=
 (i=0∧∃ old,IsEnum h e it 0 old)∨∃ a f oa item,EnB h e it a f i item∧h.get? a=some oa∧a≠e∧a≠it∧a≠S
theorem EnSt.keep {h h':Heap} {e it S:Addr} {i:Nat} (x:EnSt h e it S i) (hk:∀ b o,b≠S→h.get? b=some o→h'.get? b=some o) (hS:e≠S):EnSt h' e it S i:=by
 rcases x with ⟨z,old,q⟩ | ⟨a,f,oa,item,q,r,n1,n2,n3⟩
 ·exact .inl ⟨z,old,hk e _ hS q⟩
 ·exact .inr ⟨a,f,oa,item,hk e _ hS q,hk a oa n3 r,n1,n2,n3⟩
structure EnG (items:Array Value) (lo:Addr) (h:Heap) (as:List Addr):Prop where
 above:∀ a∈as,lo<a
 nodup:as.Nodup
 pairs:∀ (j:Nat) (a:Addr),as[j]?=some a→∃ t x,items[j]?=some x∧h.get? a=some { cls:=.type "tuple",data:=.seq #[.int j t,x] }
section
variable {prog:Program} {w:World} {A:Around} {E:Value→Shared→Prop} {s:Shared} {R:Result→Shared→Prop} {items:Array Value}
theorem en_item {e it l S:Addr} {i:Nat} {x:Value} {Q:Option Value→Shared→Prop} (hst:EnSt s.heap e it S i) (hS:S<s.heap.objs.size) (hit:s.heap.IsListIter it l i) (hl:s.heap.IsList l items) (hx:items[i]?=some x) (hne:e≠it)
  (hQ:∀ h',EnSt h' e it S (i + 1)→h'.IsListIter it l (i + 1)→h'.get? s.heap.objs.size=some { cls:=.type "tuple",data:=.seq #[.int i s.toks,x] }→h'.objs.size=s.heap.objs.size + 1 →
   (∀ b o,b≠e→b≠it→s.heap.get? b=some o→h'.get? b=some o)→Q (some (.ref s.heap.objs.size)) { s with heap:=h',toks:=s.toks + 1 }) :
  wpAny (model prog w) A (pyNext (.ref e)) Q E s:=by
 have itl:it<s.heap.objs.size:=by obtain ⟨_,q,_⟩:=hit;exact Heap.lt_size q
 rcases hst with ⟨z,old,q⟩ | ⟨a,f,oa,item,q,r,n1,n2,n3⟩
 ·subst z
  refine wpAny_pyNext_enum_item q hit hl hx hne fun h' ho h1 h2 h3 hk=>hQ h' (.inr ⟨s.heap.objs.size,false,_,x,?_,h2,Nat.ne_of_gt (Heap.lt_size q),Nat.ne_of_gt itl,Nat.ne_of_gt hS⟩) h1 h2 h3 hk
  exact ho
 ·refine enB_next q r n1 n2 hit hl hx hne fun h' ho h1 h2 h3 hk=>hQ h' (.inr ⟨a,true,oa,item,?_,hk a oa n1 n2 r,n1,n2,n3⟩) h1 h2 h3 hk
  have z:((i + 1:Nat):Int)=(i:Int) + 1:=by omega
  rw [z]
  exact ho
theorem en_done {e it l S:Addr} {i:Nat} {Q:Option Value→Shared→Prop} (hh:A.handled=none) (hst:EnSt s.heap e it S i) (hit:s.heap.IsListIter it l i) (hl:s.heap.IsList l items) (hx:items[i]?=none)
  (hQ:∀ h',Heap.ExtBut it s.heap h'→Q none { s with heap:=h' }):wpAny (model prog w) A (pyNext (.ref e)) Q E s:=by
 rcases hst with ⟨z,old,q⟩ | ⟨a,f,oa,item,q,r,n1,n2,n3⟩
 ·subst z
  exact wpAny_pyNext_enum_end hh q hit hl hx hQ
 ·exact enB_done hh q hit hl hx hQ
theorem en_loop {S e it l:Addr} (hh:A.handled=none) (hSe:e<S) (hSi:it<S) (hSl:l≠S) (hle:l≠e) (hli:l≠it) (hne:e≠it) (hn:items.size≤sizeLine) (res:Value) {h0:Heap}
  (hR:∀ h' tk acc c as,(∀ b o,b≠S→b≠e→b≠it→h0.get? b=some o→h'.get? b=some o)→h'.get? S=some { cls:=.type "list",dict:=none,data:=.seq acc c,slots:=#[] }→as.length=items.size→EnG items S h' as →
   acc.toList=as.map Value.ref→R (.ok (.ret res)) { s with heap:=h',toks:=tk }) :
  ∀ (k i:Nat) (h:Heap) (tk c:Nat) (acc:Array Value) (as:List Addr),items.size - i=k→i≤items.size→EnSt h e it S i→h.IsListIter it l i→h.IsList l items→(∀ b o,b≠S→b≠e→b≠it→h0.get? b=some o→h.get? b=some o) →
   h.get? S=some { cls:=.type "list",dict:=none,data:=.seq acc c,slots:=#[] }→acc.toList=as.map Value.ref→as.length=i→EnG items S h as →
   codeAny (model prog w) A (.builtin "list.extend.loop" ⟨[.ref S,.ref e,res],[]⟩) R { s with heap:=h,toks:=tk }:=by
 have nSe:S≠e:=Nat.ne_of_gt hSe
 have nSi:S≠it:=Nat.ne_of_gt hSi
 intro k
 induction k with
 | zero =>
  intro i h tk c acc as hk hi hst hit hl hkeep hS hacc hal hG
  have hin:i=items.size:=by omega
  refine codeAny_builtin PySem.F.entry_extend_loop ?_
  rw [Around.under_plainId PySem.F.plain_extend_loop _]
  show wpAny _ A.in1 (pyNext (.ref e) >>= _) _ _ _
  refine wpAny_bind (en_done (s:={ s with heap:=h,toks:=tk }) (A:=A.in1) hh hst hit hl (Array.getElem?_eq_none (by omega)) fun h' he=>?_)
  refine wpAny_pure (hR h' tk acc c as (fun b o h1 h2 h3 z=>he b o h3 (hkeep b o h1 h2 h3 z)) (he S _ nSi hS) (by omega) ⟨hG.above,hG.nodup,fun j a hj=>?_⟩ hacc)
  obtain ⟨t,x,e1,e2⟩:=hG.pairs j a hj
  exact ⟨t,x,e1,he a _ (Nat.ne_of_gt (Nat.lt_trans hSi (hG.above a (List.mem_of_getElem? hj)))) e2⟩
 | succ k ih =>
  intro i h tk c acc as hk hi hst hit hl hkeep hS hacc hal hG
  have hlt:i<items.size:=by omega
  have hsz:acc.size=i:=by rw [← Array.length_toList,hacc,List.length_map,hal]
  have hx:items[i]?=some items[i]:=Array.getElem?_eq_getElem hlt
  have hSz:S<h.objs.size:=Heap.lt_size hS
  refine codeAny_builtin PySem.F.entry_extend_loop ?_
  rw [Around.under_plainId PySem.F.plain_extend_loop _]
  show wpAny _ A.in1 (pyNext (.ref e) >>= _) _ _ _
  refine wpAny_bind (en_item (s:={ s with heap:=h,toks:=tk }) (S:=S) hst hSz hit hl hx hne fun h' hst' hit' ht hz hkp=>?_)
  dsimp only at ht hz hkp ⊢
  have hS':=hkp S _ nSe nSi hS
  have up:∀ b o,b≠S→h'.get? b=some o→(h'.update S (Obj.mapSeq (·.push (Value.ref h.objs.size)))).get? b=some o:=fun b o hb z=>(Heap.get?_update_other _ _ (Ne.symm hb)).trans z
  have hl':(h'.update S (Obj.mapSeq (·.push (Value.ref h.objs.size)))).IsList l items:=hl.at fun o z=>up l o hSl (hkp l o hle hli z)
  have hit2:(h'.update S (Obj.mapSeq (·.push (Value.ref h.objs.size)))).IsListIter it l (i + 1):=hit'.at fun o z=>up it o (Ne.symm nSi) z
  show wpAny _ A.in1 (updateSeq S (·.push (Value.ref h.objs.size)) >>= _) _ _ _
  refine wpAny_bind ?_
  refine wpAny_updateSeq hS' rfl (wpAny_pure ⟨plainId_quiet PySem.F.plain_extend_loop _,ih (i + 1) _ (tk + 1) _ (acc.push (Value.ref h.objs.size)) (as++[h.objs.size]) (by omega) hlt (hst'.keep up (Ne.symm nSe)) hit2 hl'
   (fun b o h1 h2 h3 z=>up b o h1 (hkp b o h2 h3 (hkeep b o h1 h2 h3 z))) (Heap.get?_update_self _ hS' rfl) (by rw [Array.toList_push,hacc,List.map_append];rfl) (by rw [List.length_append,hal];rfl) ⟨?_,?_,?_⟩⟩) (by rw [hsz];omega) (by show (acc.push (Value.ref h.objs.size)).size≤sizeLine + 1;rw [Array.size_push,hsz];omega)
  ·intro a ha
   rcases List.mem_append.mp ha with ha | ha
   ·exact hG.above a ha
   ·rw [List.mem_singleton.mp ha];exact hSz
  ·refine List.nodup_append.mpr ⟨hG.nodup,List.nodup_cons.mpr ⟨List.not_mem_nil,List.nodup_nil⟩,fun a ha b hb=>?_⟩
   rw [List.mem_singleton.mp hb]
   obtain ⟨j,hj⟩:=List.mem_iff_getElem?.mp ha
   obtain ⟨_,_,_,z⟩:=hG.pairs j a hj
   exact Nat.ne_of_lt (Heap.lt_size z)
  ·intro j b hj
   rcases Nat.lt_trichotomy j as.length with h1 | h1 | h1
   ·rw [List.getElem?_append_left h1] at hj
    obtain ⟨t,x,e1,e2⟩:=hG.pairs j b hj
    have hb:=hG.above b (List.mem_of_getElem? hj)
    exact ⟨t,x,e1,up b _ (Nat.ne_of_gt hb) (hkp b _ (Nat.ne_of_gt (Nat.lt_trans hSe hb)) (Nat.ne_of_gt (Nat.lt_trans hSi hb)) e2)⟩
   ·subst h1
    have hb:h.objs.size=b:=by simpa using hj
    subst hb
    subst hal
    exact ⟨tk,_,hx,up _ _ (Nat.ne_of_gt hSz) ht⟩
   ·have hnone:(as++[h.objs.size])[j]?=none:=List.getElem?_eq_none (by rw [List.length_append,List.length_singleton];omega)
    rw [hnone] at hj;cases hj
end
theorem nolen_enum:typeLookup (.type "enumerate") "__len__"=pure none:=by rw [typeLookup_type,builtinLookup_eq_fast];kernel_rfl
theorem nohint_enum:typeLookup (.type "enumerate") "__length_hint__"=pure none:=by rw [typeLookup_type,builtinLookup_eq_fast];kernel_rfl
section
variable {prog:Program} {w:World} {A:Around} {E:Value→Shared→Prop} {s:Shared} {items:Array Value}
theorem en_hint {r:Addr} {Q:Bool→Shared→Prop} (hT:s.TypeIs (.ref r) "enumerate") (h:Q true s):wpAny (model prog w) A (Builtin.List.listLengthHint (.ref r)) Q E s:=by
 unfold Builtin.List.listLengthHint
 refine wpAny_bind (wpAny_specialOf hT nolen_enum ?_)
 refine wpAny_ite_split (fun hab=>absurd hab (by decide)) (fun _=>?_)
 refine wpAny_ite_split (fun hab=>absurd hab (by decide)) (fun _=>?_)
 refine wpAny_bind (wpAny_specialOf hT nohint_enum ?_)
 exact wpAny_pure h
theorem en_extend {R:Result→Shared→Prop} {S e it l:Addr} (hh:A.handled=none) (hSe:e<S) (hSi:it<S) (hSl:l≠S) (hle:l≠e) (hli:l≠it) (hne:e≠it) (hst:IsEnum s.heap e it 0 .none) (hit:s.heap.IsListIter it l 0) (hl:s.heap.IsList l items)
  (res:Value) (c0:Nat) (hS:s.heap.get? S=some { cls:=.type "list",data:=.seq #[] c0 })
  (hR:∀ h' tk acc c as,(∀ b o,b≠S→b≠e→b≠it→s.heap.get? b=some o→h'.get? b=some o)→h'.get? S=some { cls:=.type "list",dict:=none,data:=.seq acc c,slots:=#[] }→as.length=items.size→EnG items S h' as →
   acc.toList=as.map Value.ref→R (.ok (.ret res)) { s with heap:=h',toks:=tk }) (hn:items.size≤sizeLine) :
  wpAny (model prog w) A.in1 (Builtin.List.listExtendWith (.ref S) (.ref e) res)
   (fun fin s'=>match fin with | .done f=>R (.ok f) s' | .again c'=>c'.quiet=true∧codeAny (model prog w) A c' R s') (fun e s'=>R (.error e) s') s:=by
 have nSe:S≠e:=Nat.ne_of_gt hSe
 have hT:s.TypeIs (.ref e) "enumerate":=⟨_,hst,rfl⟩
 have key:∀ (h:Heap) (c1 tk:Nat),(∀ b o,b≠S→s.heap.get? b=some o→h.get? b=some o)→h.get? S=some { cls:=.type "list",data:=.seq #[] c1 } →
   codeAny (model prog w) A (.builtin "list.extend.loop" ⟨[.ref S,.ref e,res],[]⟩) R { s with heap:=h,toks:=tk }:=by
  intro h c1 tk hk hS1
  exact en_loop (items:=items) (s:=s) (h0:=s.heap) hh hSe hSi hSl hle hli hne hn res hR items.size 0 h tk c1 #[] [] (Nat.sub_zero _) (Nat.zero_le _) (.inl ⟨rfl,.none,hk e _ (Ne.symm nSe) hst⟩)
   (hit.at fun o z=>hk it o (Nat.ne_of_lt hSi) z) (hl.at fun o z=>hk l o hSl z) (fun b o h1 _ _ z=>hk b o h1 z) hS1 rfl rfl ⟨(fun _ z=>nomatch z),List.nodup_nil,fun j a hj=>by simp at hj⟩
 unfold Builtin.List.listExtendWith
 refine wpAny_bind (wpAny_typeOf (T:="enumerate") hT ?_)
 have h1:Builtin.List.listSameRef (.ref S) (.ref e)=false:=by simp [Builtin.List.listSameRef,nSe]
 have h2:(Value.type "enumerate" == Value.type "list")=false:=by decide
 have h3:(Value.type "enumerate" == Value.type "tuple")=false:=by decide
 simp only [h1,h2,h3,Bool.or_false,Bool.false_eq_true,if_false]
 refine wpAny_bind (wpAny_pyIter_enum hst ?_)
 refine wpAny_bind (wpAny_holding (en_hint hT ?_))
 refine wpAny_ite_split (fun _=>?_) (fun _=>wpAny_pure ⟨plainId_quiet PySem.F.plain_extend_loop _,key _ c0 _ (fun b o _ z=>z) hS⟩)
 refine wpAny_bind (wpAny_rule ?_)
 refine wpAny_bind ?_
 show wpAny _ _ (updateSeq S (·.push .none) >>= fun _=>updateSeq S (·.pop)) _ _ _
 refine wpAny_bind (wpAny_updateSeq hS rfl ?_)
 have hS2:=Heap.get?_update_self (Obj.mapSeq (·.push Value.none)) hS rfl
 refine wpAny_updateSeq (hz:=by seq_fits) hS2 rfl ?_
 have hS3:=Heap.get?_update_self (Obj.mapSeq (·.pop)) hS2 rfl
 refine wpAny_pure ⟨plainId_quiet PySem.F.plain_extend_loop _,key _ _ _ (fun b o hb z=>?_) hS3⟩
 exact (Heap.get?_update_other _ _ (Ne.symm hb)).trans ((Heap.get?_update_other _ _ (Ne.symm hb)).trans z)
theorem en_call {Q:Value→Shared→Prop} {e it l:Addr} (hh:A.handled=none) (hle:l≠e) (hli:l≠it) (hne:e≠it) (hst:IsEnum s.heap e it 0 .none) (hit:s.heap.IsListIter it l 0) (hl:s.heap.IsList l items) (hn:items.size≤sizeLine)
  (hQ:∀ h' tk acc c as,(∀ b o,b≠e→b≠it→s.heap.get? b=some o→h'.get? b=some o)→h'.get? s.heap.objs.size=some { cls:=.type "list",dict:=none,data:=.seq acc c,slots:=#[] }→as.length=items.size→EnG items s.heap.objs.size h' as →
   acc.toList=as.map Value.ref→Q (.ref s.heap.objs.size) { s with heap:=h',toks:=tk }) :
  wpAny (model prog w) A (call (.type "list") [.ref e]) Q E s:=by
 refine callType_codes (Q₁:=fun obj s₁=>obj=.ref s.heap.objs.size∧s₁={ s with heap:=s.heap.push { cls:=.type "list",data:=.seq #[] } }) PySem.F.called_list (PySem.F.typeCall_list_1 _) PySem.F.entry_list_init
  (code_list_new _ ⟨rfl,rfl⟩) fun obj s₁ h₁=>?_
 obtain ⟨rfl,rfl⟩:=h₁
 have up:∀ b o,s.heap.get? b=some o→(s.heap.push { cls:=.type "list",data:=.seq #[] }).get? b=some o:=fun b o z=>Heap.get?_push_of_some _ z
 have hS:(s.heap.push { cls:=.type "list",data:=.seq #[] }).get? s.heap.objs.size=some { cls:=.type "list",data:=.seq #[] }:=Heap.get?_push_size _ rfl
 have le:e<s.heap.objs.size:=Heap.lt_size hst
 have li:it<s.heap.objs.size:=by obtain ⟨_,q,_⟩:=hit;exact Heap.lt_size q
 have ll:l≠s.heap.objs.size:=by obtain ⟨_,q,_⟩:=hl;exact Nat.ne_of_lt (Heap.lt_size q)
 refine ⟨⟨_,hS,rfl⟩,PySem.F.args_list_init_2 _ _,?_⟩
 show wpAny _ _ (do let old ← Builtin.List.listItems (.ref s.heap.objs.size);Builtin.List.listUpdate (.ref s.heap.objs.size) (fun _=>#[]);letGo old.toList.reverse;Builtin.List.listExtendWith (.ref s.heap.objs.size) (.ref e) .none) _ _ _
 refine wpAny_bind ?_
 unfold Builtin.List.listItems
 refine wpAny_bind (wpAny_seqItems hS rfl (wpAny_pure ?_))
 show wpAny _ _ (updateSeq s.heap.objs.size (fun _=>#[]) >>= fun _=>letGo (#[]:Array Value).toList.reverse >>= fun _=>Builtin.List.listExtendWith (.ref s.heap.objs.size) (.ref e) .none) _ _ _
 refine wpAny_bind (wpAny_updateSeq hS rfl ?_)
 have hS2:=Heap.get?_update_self (Obj.mapSeq (fun _=>(#[]:Array Value))) hS rfl
 have oth:∀ b o,b≠s.heap.objs.size→s.heap.get? b=some o→((s.heap.push { cls:=.type "list",data:=.seq #[] }).update s.heap.objs.size (Obj.mapSeq (fun _=>(#[]:Array Value)))).get? b=some o :=
  fun b o hb z=>(Heap.get?_update_other _ _ (Ne.symm hb)).trans (up b o z)
 refine wpAny_bind (wpAny_letGo ?_)
 refine en_extend (A:=A.in1) hh le li ll hle hli hne (oth e _ (Nat.ne_of_lt le) hst) (hit.at fun o z=>oth it o (Nat.ne_of_lt li) z) (hl.at fun o z=>oth l o ll z) .none _ hS2 (fun h' tk acc c as hk h1 h2 h3 h4=>?_) hn
 exact ⟨rfl,hQ h' tk acc c as (fun b o n1 n2 z=>hk b o (Nat.ne_of_lt (Heap.lt_size z)) n1 n2 (oth b o (Nat.ne_of_lt (Heap.lt_size z)) z)) h1 h2 h3 h4⟩
end
end FcE
set_option maxRecDepth 100000
set_option maxHeartbeats 4000000
namespace FcR
open PySem PySem.Spec PyProof.Rows L2
theorem passF {P:Program} {w:World} {X:Cx}:Passes (CX P w) X (fun _ _ _=>False):=fun _ _ _ _ _ _ _ h=>by
 obtain ⟨_,_,_,_,_,_,_,_,_,_,_,_,z⟩:=h
 exact z.elim
def gFld (K:PySem.W.Frag) (to:TE) (f:Str):TG:=fun v σ H Q=>to σ H fun x H1=>∃ a C dx fs,x=.ref a∧H1 a=some (.ins C dx fs)∧Cls K C∧NoAttr K C f∧fs.length<1000∧Q σ (upd H1 a (.ins C dx (putF f v fs)))
theorem pg_fld {X:Cx} {o:Expr} {f:Str} {pos:Pos} {to:TE} (ho:PE X o to):PG X (.Attribute o f pos) (gFld X.K to f):=by
 refine ⟨fun pins s σ H v u Q I r h=>?_⟩
 have ea:assign (.Attribute o f pos) X.env u=(do
   let ov ← holding [u] (eval o X.env)
   standAt pos.atName
   holding [u,ov] (setAttr ov f u)
   release [u,ov] []):=rfl
 rw [ea]
 refine wpAny_bind (wpAny_holding (thn (ho.run pins s σ H _ I h) fun ov s1 ⟨x,H1,I1,r1,a,C,dx,fs,ex,e1,c,n,l,q⟩=>?_))
 subst ex
 obtain rfl:ov=Value.ref a:=r1
 refine wpAny_bind (wpAny_standAt (wpAny_bind (wpAny_holding ?_)))
 exact setattr_ok I1 e1 c n l r fun s3 I3=>wpAny_release ⟨σ,_,I3,q⟩
def putP:Hp→List Addr→Nat→List V→Hp
 | H,a::as,j,x::xs=>putP (upd H a (.tup [.int (j:Int),x])) as (j + 1) xs
 | H,_,_,_=>H
theorem putP_off {b:Addr}:∀ (as:List Addr) (xs:List V) (j:Nat) (H:Hp),b ∉ as→putP H as j xs b=H b
 | [],_,_,_,_=>rfl
 | _::_,[],_,_,_=>rfl
 | a::as,x::xs,j,H,h=>by
  show putP (upd H a (.tup [.int (j:Int),x])) as (j + 1) xs b=H b
  rw [putP_off as xs _ _ (fun z=>h (List.mem_cons_of_mem _ z)),upd_ne (fun z=>h (by rw [z];exact List.mem_cons_self))]
theorem putP_at:∀ (as:List Addr) (xs:List V) (j:Nat) (H:Hp),as.length=xs.length→as.Nodup→∀ (i:Nat) (a:Addr) (x:V),as[i]?=some a→xs[i]?=some x→putP H as j xs a=some (.tup [.int ((j + i:Nat):Int),x])
 | [],_,_,_,_,_,i,a,x,h,_=>by simp at h
 | _::_,[],_,_,h,_,_,_,_,_,_=>by cases h
 | a0::as,x0::xs,j,H,h,hn,0,a,x,h1,h2=>by
  have hn':=List.nodup_cons.mp hn
  simp at h1 h2
  subst h1 h2
  show putP (upd H a0 (.tup [.int (j:Int),x0])) as (j + 1) xs a0=_
  rw [putP_off as xs _ _ hn'.1,upd_same]<;>rfl
 | a0::as,x0::xs,j,H,h,hn,i + 1,a,x,h1,h2=>by
  have ih:=putP_at as xs (j + 1) (upd H a0 (.tup [.int (j:Int),x0])) (Nat.succ.inj h) (List.nodup_cons.mp hn).2 i a x (by simpa using h1) (by simpa using h2)
  have e:j + 1 + i=j + (i + 1):=by omega
  rw [e] at ih
  exact ih
def rEnumL (K:PySem.W.Frag):V→Hp→VK→Prop:=fun x H Q=>∃ (a:Addr) (xs:List V),x=.ref a∧SqL K H a xs ∧
 ∀ (H':Hp) (p:Addr) (ts:List Addr),(∀ b o,H b=some o→H' b=some o)→H p=none→(∀ t∈ts,H t=none)→p ∉ ts→ts.Nodup→ts.length=xs.length→H' p=some (.lst (ts.map V.ref)) →
  (∀ (i:Nat) (t:Addr) (x:V),ts[i]?=some t→xs[i]?=some x→H' t=some (.tup [.int (i:Int),x]))→Q (.ref p) H'
def tListEnum (K:PySem.W.Frag) (te:TE):TE:=fun σ H Q=>te σ H fun x H1=>rEnumL K x H1 Q
theorem vals_refs:∀ as:List Addr,Vals (as.map V.ref) (as.map Value.ref)
 | []=>.nil
 | _::as=>.cons rfl (vals_refs as)
section
variable {X:Cx} {e:Expr} {te:TE} {p p2 pos2 pos:Pos}
theorem enum_laid {pins:List (Addr×Obj)} {σ:L2.St} {H:Hp} {s:Shared} {h':Heap} {tk:Nat} {xs:List V} {its:List Value} {acc:Array Value} {c:Nat} {as:List Addr} {S:Addr} (hge:s.heap.objs.size≤S) (I:Inv X pins σ H s) (hz:xs.length≤sizeLine) (rv:Vals xs its)
  (hk:∀ b o,s.heap.get? b=some o→h'.get? b=some o) (hS:h'.get? S=some { cls:=.type "list",dict:=none,data:=.seq acc c,slots:=#[] }) (hl:as.length=xs.length) (hG:FcE.EnG its.toArray S h' as) (hacc:acc.toList=as.map Value.ref) :
  ∃ H':Hp,(∀ b o,H b=some o→H' b=some o)∧H S=none∧(∀ t∈as,H t=none)∧S ∉ as∧H' S=some (.lst (as.map V.ref)) ∧
   (∀ (i:Nat) (t:Addr) (x:V),as[i]?=some t→xs[i]?=some x→H' t=some (.tup [.int (i:Int),x]))∧Inv X pins σ H' { s with heap:=h',toks:=tk }:=by
 have hSn:S ∉ as:=fun z=>Nat.lt_irrefl _ (hG.above _ z)
 have new:∀ t∈as,H t=none:=fun t ht=>I.hok.fresh (Nat.le_trans hge (Nat.le_of_lt (hG.above t ht)))
 have newS:H S=none:=I.hok.fresh hge
 have atP:∀ (i:Nat) (t:Addr) (x:V),as[i]?=some t→xs[i]?=some x→putP (upd H S (.lst (as.map V.ref))) as 0 xs t=some (.tup [.int (i:Int),x]):=fun i t x h1 h2=>by
  have z:=putP_at as xs 0 (upd H S (.lst (as.map V.ref))) hl hG.nodup i t x h1 h2
  rw [Nat.zero_add] at z
  exact z
 have off:∀ b,b ∉ as→b≠S→putP (upd H S (.lst (as.map V.ref))) as 0 xs b=H b:=fun b h1 h2=>by rw [putP_off as xs _ _ h1,upd_ne h2]
 have low:∀ b o,s.heap.get? b=some o→b ∉ as∧b≠S:=fun b o z=>⟨fun y=>absurd (Heap.lt_size z) (Nat.not_lt.mpr (Nat.le_trans hge (Nat.le_of_lt (hG.above b y)))),Nat.ne_of_lt (Nat.lt_of_lt_of_le (Heap.lt_size z) hge)⟩
 have kp:∀ b u,H b=some u→(putP (upd H S (.lst (as.map V.ref))) as 0 xs) b=some u:=fun b u z=>by
  rw [off b (fun y=>by rw [new b y] at z;cases z) (fun y=>by rw [y,newS] at z;cases z)]
  exact z
 have eS:putP (upd H S (.lst (as.map V.ref))) as 0 xs S=some (.lst (as.map V.ref)):=by rw [putP_off as xs _ _ hSn,upd_same]
 refine ⟨putP (upd H S (.lst (as.map V.ref))) as 0 xs,kp,newS,new,hSn,eS,atP,?_⟩
 refine I.call' (ch:=[]) rfl ⟨fun b o q _ _ _=>hk b o q,fun b o q _ _ _=>⟨o.slots,hk b o q⟩,fun b o q n _=>?_,fun b o q _=>⟨o,hk b o q⟩,fun b ys q=>kp b _ q,fun b o u q=>kp b _ q,fun b ps q=>⟨#[],by rw [kp b _ q];simp⟩⟩ (fun b u q=>?_) I.bare fun b z=>by simp at z
 ·obtain ⟨z1,z2⟩:=low b o q
  rw [off b z1 z2]
  exact n
 ·by_cases hb:b∈as
  ·obtain ⟨j,hj⟩:=List.mem_iff_getElem?.mp hb
   have jl:j<xs.length:=by rw [← hl];exact (List.getElem?_eq_some_iff.mp hj).1
   have hx:xs[j]?=some xs[j]:=List.getElem?_eq_getElem jl
   rw [atP j b _ hj hx] at q
   cases q
   obtain ⟨t,x,f1,f2⟩:=hG.pairs j b hj
   obtain ⟨u,g1,g2⟩:=rv.get hx
   have ex:x=u:=by
    have f1':its[j]?=some x:=by simpa using f1
    rw [g1] at f1'
    exact (Option.some.inj f1').symm
   exact ⟨by show 2≤sizeLine;decide,[.int (j:Int) t,x],.cons ⟨t,rfl⟩ (.cons (by rw [ex];exact g2) .nil),⟨_,f2,rfl,_,rfl⟩⟩
  ·by_cases hb2:b=S
   ·rw [hb2] at q ⊢
    rw [eS] at q
    cases q
    refine ⟨by rw [List.length_map];omega,acc.toList,c,by rw [hacc];exact vals_refs as,?_⟩
    rw [Array.toArray_toList]
    exact hS
   ·rw [off b hb hb2] at q
    exact (I.hok b u q).stay (fun d v _ y=>hk d v y) (fun d y=>kp d _ y) fun d ys y=>kp d _ y
theorem pe_listEnum (hc:X.calm=true) (he:PE X e te) (hg:Gl X "list") (hm:X.mg "list"=none) (hv:bootBuiltins "list"=some (.type "list")) (hg2:Gl X "enumerate") (hm2:X.mg "enumerate"=none) (hv2:bootBuiltins "enumerate"=some (.type "enumerate"))
  (hs:starEach [.Call (.Name "enumerate" p2) [e] [] pos2] X.env=(false,eval (.Call (.Name "enumerate" p2) [e] [] pos2) X.env)::starEach [] X.env:=by rfl) (hs2:starEach [e] X.env=(false,eval e X.env)::starEach [] X.env:=by rfl) :
  PE X (.Call (.Name "list" p) [.Call (.Name "enumerate" p2) [e] [] pos2] [] pos) (tListEnum X.K te):=by
 refine ⟨fun pins s σ H Q I hq=>?_⟩
 refine wpAny_Call_Name_kw (ld_blt I hg hm hv ?_)
 refine PyProof.Rows.callWith_type1 ?_ hs rfl
 rw [hs]
 show wpAny _ _ (spliced ((false,eval (.Call (.Name "enumerate" p2) [e] [] pos2) X.env)::backTo pos (starEach [] X.env))) _ _ s
 refine Calls.spliced_cons ?_
 refine wpAny_Call_Name_kw (ld_blt I hg2 hm2 hv2 ?_)
 refine PyProof.Rows.callWith_type1 ?_ hs2 rfl
 rw [hs2]
 show wpAny _ _ (spliced ((false,eval e X.env)::backTo pos2 (starEach [] X.env))) _ _ s
 refine Calls.spliced_cons (thn (he.run pins s σ H _ I hq) fun u s1 ⟨x,H1,I1,rx,a,xs,ex,hL,q⟩=>?_)
 subst ex
 obtain rfl:u=Value.ref a:=rx
 refine Calls.spliced_nil ?_
 obtain ⟨its,rv,hl0,hz⟩:=I1.list hL
 have hl:s1.heap.IsList a its.toArray:=hl0.isList
 have al:a<s1.heap.objs.size:=by obtain ⟨_,y,_⟩:=hl;exact Heap.lt_size y
 refine call_enumerate_list hl fun h1 hE hI hsz hk=>?_
 refine Calls.spliced_nil ?_
 have hl1:h1.IsList a its.toArray:=hl.at fun o y=>hk a o y
 have lx:xs.length=its.length:=rv.length
 have hlen:its.toArray.size=xs.length:=by simp [lx]
 refine FcE.en_call (items:=its.toArray) (I1.ok.hd hc) (Nat.ne_of_lt (Nat.lt_succ_of_lt al)) (Nat.ne_of_lt al) (Nat.succ_ne_self _) hE hI hl1 (by rw [hlen];exact hz) fun h' tk acc c as hkk hS hla hG hacc=>?_
 obtain ⟨H',k1,k2,k3,k4,k5,k6,J⟩:=enum_laid (tk:=tk) (S:=h1.objs.size) (by rw [hsz];exact Nat.le_add_right _ _) I1 hz rv
  (fun b o y=>hkk b o (Nat.ne_of_lt (Nat.lt_succ_of_lt (Heap.lt_size y))) (Nat.ne_of_lt (Heap.lt_size y)) (hk b o y)) hS (by rw [hla,hlen]) hG hacc
 exact ⟨.ref _,H',J,rfl,q H' _ as k1 k2 k3 k4 hG.nodup (by rw [hla,hlen]) k5 k6⟩
def rEqM (K:PySem.W.Frag):R2:=fun x y H Q=>∃ d e,Dp K H x d∧Dp K H y e∧PyData.canLay0 d=true∧PyData.canLay0 e=true∧min d.depth e.depth≤200∧Q (.bl (PyData.eqv d e)) H
def rNeM (K:PySem.W.Frag):R2:=fun x y H Q=>∃ d e,Dp K H x d∧Dp K H y e∧PyData.canLay0 d=true∧PyData.canLay0 e=true∧min d.depth e.depth≤200∧Q (.bl (!PyData.eqv d e)) H
theorem op_eqM {k:Nat} (hr:Room k X.A):OpR X (compareOp .Eq) (rEqM X.K):=by
 intro pins s σ H x y v u Q I rx ry h
 obtain ⟨d,e,hd,he,sd,se,hm,q⟩:=h
 obtain ⟨as,r1⟩:=Dp.reads I d x v hd rx
 obtain ⟨bs,r2⟩:=Dp.reads I e y u he ry
 exact SeqAt.compareEq_reads r1 r2 sd se (by have:=hr.un;omega) ⟨.bl _,H,I,rfl,q⟩
theorem op_neM {k:Nat} (hr:Room k X.A):OpR X (compareOp .NotEq) (rNeM X.K):=by
 intro pins s σ H x y v u Q I rx ry h
 obtain ⟨d,e,hd,he,sd,se,hm,q⟩:=h
 obtain ⟨as,r1⟩:=Dp.reads I d x v hd rx
 obtain ⟨bs,r2⟩:=Dp.reads I e y u he ry
 exact SeqAt.compareNe_reads r1 r2 sd se (by have:=hr.un;omega) ⟨.bl _,H,I,rfl,q⟩
def rInT (K:PySem.W.Frag):R2:=fun x y H Q=>∃ d ds,Dp K H x d∧Dp K H y (.tuple ds)∧PyData.canLay0 d=true∧PyData.canLayAll0 ds=true∧min (PyData.depthAll ds) d.depth≤150∧Q (.bl (ds.any fun z=>PyData.eqv z d)) H
theorem op_inT {k:Nat} (hr:Room k X.A):OpR X (compareOp .In) (rInT X.K):=by
 intro pins s σ H x y v u Q I rx ry h
 obtain ⟨d,ds,hd,he,sd,se,hm,q⟩:=h
 obtain ⟨as,r1⟩:=Dp.reads I d x v hd rx
 obtain ⟨bs,r2⟩:=Dp.reads I (.tuple ds) y u he ry
 exact SeqAt.in_tuple_reads r2 r1 se sd (by have:=hr.un;omega) ⟨.bl _,H,I,rfl,q⟩
end
end FcR
set_option maxRecDepth 100000
set_option maxHeartbeats 4000000
namespace Fc
open PySem PySem.Spec PyProof.Rows L2 FcR
open Evl (Ex)
section
theorem b_len:bootBuiltins "len"=some (.builtin "len"):=by decide +kernel
theorem b_isinstance:bootBuiltins "isinstance"=some (.builtin "isinstance"):=by decide +kernel
theorem b_all:bootBuiltins "all"=some (.builtin "all"):=by decide +kernel
theorem b_list:bootBuiltins "list"=some (.type "list"):=by decide +kernel
theorem b_tuple:bootBuiltins "tuple"=some (.type "tuple"):=by decide +kernel
theorem b_int:bootBuiltins "int"=some (.type "int"):=by decide +kernel
theorem b_bool:bootBuiltins "bool"=some (.type "bool"):=by decide +kernel
theorem b_str:bootBuiltins "str"=some (.type "str"):=by decide +kernel
theorem b_enumerate:bootBuiltins "enumerate"=some (.type "enumerate"):=by decide +kernel
def Ok (P:Program) (w:World) (K:PySem.W.Frag) (mg:Str→Option Value) (base:Heap) (k:Nat) (at_:Str×Option Str) (ps:List Str) (sp:Sp):Prop :=
 ∃ fd,FnOk P w K mg base (CX P w) k (He.fAd K at_) fd ps sp∧Binds K fd ps []∧PySem.W.keepIn K (.ref (He.fAd K at_))=true
theorem Ok.mono {P:Program} {w:World} {K:PySem.W.Frag} {mg:Str→Option Value} {base:Heap} {j k:Nat} {at_:Str×Option Str} {ps:List Str} {sp:Sp} (h:Ok P w K mg base j at_ ps sp) (e:j≤k):Ok P w K mg base k at_ ps sp:=by
 obtain ⟨fd,G,b,kp⟩:=h
 exact ⟨fd,G.mono e,b,kp⟩
theorem ite_of {c:Bool} {A B:Prop} (h1:c=true→A) (h2:c=false→B):if c=true then A else B:=by
 cases c with
 | true=>rw [if_pos rfl];exact h1 rfl
 | false=>rw [if_neg Bool.false_ne_true];exact h2 rfl
theorem itT {c:Bool} {A B:Prop} (hc:c=true) (h:A):if c=true then A else B:=by
 rw [if_pos hc]
 exact h
theorem itF {c:Bool} {A B:Prop} (hc:c=false) (h:B):if c=true then A else B:=by
 rw [hc,if_neg Bool.false_ne_true]
 exact h
theorem sz {n:Nat} (h:n≤100000):n≤sizeLine:=Evl.sz_of h
theorem szl {n:Nat} (h:n<100000):n<sizeLine:=Evl.sz_lt h
mutual
theorem dp_ex {K:PySem.W.Frag} {H H':Hp} (e:Ex H H'):∀ {d:PyData} {v:V},Dp K H v d→Dp K H' v d
 | _,_,.non=>.non
 | _,_,.bl b=>.bl b
 | _,_,.int i=>.int i
 | _,_,.str x=>.str x
 | _,_,.lst h a=>.lst (Evl.ex_l e h) (dpA_ex e a)
 | _,_,.tup h a=>.tup (Evl.ex_t e h) (dpA_ex e a)
theorem dpA_ex {K:PySem.W.Frag} {H H':Hp} (e:Ex H H'):∀ {ds:List PyData} {vs:List V},DpAll K H vs ds→DpAll K H' vs ds
 | _,_,.nil=>.nil
 | _,_,.cons h a=>.cons (dp_ex e h) (dpA_ex e a)
end
theorem dpA_len {K:PySem.W.Frag} {H:Hp}:∀ {ds:List PyData} {vs:List V},DpAll K H vs ds→vs.length=ds.length
 | _,_,.nil=>rfl
 | _,_,.cons _ a=>congrArg Nat.succ (dpA_len a)
theorem dpA_get {K:PySem.W.Frag} {H:Hp}:∀ {ds:List PyData} {vs:List V},DpAll K H vs ds→∀ {i:Nat} {d:PyData},ds[i]?=some d→∃ v,vs[i]?=some v∧Dp K H v d
 | _,_,.nil,i,d,h=>by simp at h
 | _,_,.cons h a,0,d,e=>by simp at e;subst e;exact ⟨_,rfl,h⟩
 | _,_,.cons h a,i + 1,d,e=>by
  obtain ⟨v,e1,e2⟩:=dpA_get a (i:=i) (d:=d) (by simpa using e)
  exact ⟨v,by simpa using e1,e2⟩
theorem dpA_app {K:PySem.W.Frag} {H:Hp}:∀ {ds es:List PyData} {vs ws:List V},DpAll K H vs ds→DpAll K H ws es→DpAll K H (vs++ws) (ds++es)
 | _,_,_,_,.nil,b=>b
 | _,_,_,_,.cons h a,b=>.cons h (dpA_app a b)
theorem dpA_drop {K:PySem.W.Frag} {H:Hp}:∀ {ds:List PyData} {vs:List V} (n:Nat),DpAll K H vs ds→DpAll K H (vs.drop n) (ds.drop n)
 | _,_,0,a=>a
 | _,_,_ + 1,.nil=>.nil
 | _,_,n + 1,.cons _ a=>dpA_drop n a
theorem dpA_take {K:PySem.W.Frag} {H:Hp}:∀ {ds:List PyData} {vs:List V} (n:Nat),DpAll K H vs ds→DpAll K H (vs.take n) (ds.take n)
 | _,_,0,_=>.nil
 | _,_,_ + 1,.nil=>.nil
 | _,_,n + 1,.cons h a=>.cons h (dpA_take n a)
theorem dp_tup {K:PySem.W.Frag} {H:Hp} {v:V} {ds:List PyData} (h:Dp K H v (.tuple ds)):∃ a xs,v=.ref a∧SqT K H a xs∧DpAll K H xs ds:=by
 cases h with
 | tup h a=>exact ⟨_,_,rfl,h,a⟩
theorem dp_str {K:PySem.W.Frag} {H:Hp} {v:V} {x:Str} (h:Dp K H v (.str x)):v=.str x:=by cases h;rfl
theorem dp_int {K:PySem.W.Frag} {H:Hp} {v:V} {x:Int} (h:Dp K H v (.int x)):v=.int x:=by cases h;rfl
theorem exu {F H:Hp} {p:Addr} {o:HO} (e:Ex F H) (hp:H p=none):Ex F (upd H p o):=fun a u h=>by
 rw [upd_ne (ne_of_none (e a u h) hp)]
 exact e a u h
theorem exm {F H:Hp} {p:Addr} {o:HO} (e:Ex F H) (hp:F p=none):Ex F (upd H p o):=Evl.Ex.mut e hp
theorem new_of {H H1:Hp} {p:Addr} {o:HO} (e:upd H p o=H1) (n:H p=none):Ex H H1∧H1 p=some o∧∀ b,b≠p→H1 b=H b:=by
 subst e
 exact ⟨exu (Evl.Ex.refl _) n,upd_same,fun b hb=>upd_ne hb⟩
theorem set_of {H H1:Hp} {p:Addr} {o:HO} (e:upd H p o=H1):H1 p=some o∧∀ b,b≠p→H1 b=H b:=by
 subst e
 exact ⟨upd_same,fun b hb=>upd_ne hb⟩
theorem set_ex {F H H1:Hp} {p:Addr} (x:Ex F H) (n:F p=none) (o:∀ b,b≠p→H1 b=H b):Ex F H1:=fun b u e=>by
 rw [o b (ne_of_none e n)]
 exact x b u e
theorem ex_none {F H:Hp} {p:Addr} (x:Ex F H) (n:H p=none):F p=none:=by
 cases e:F p with
 | none=>rfl
 | some u=>rw [x _ _ e] at n;cases n
end
end Fc
set_option maxRecDepth 100000
set_option maxHeartbeats 4000000
namespace FcX
open PySem PySem.Spec PyProof.Rows PySem.HandSPX
section
variable {M:Model} {A:Around} {E:Value→Shared→Prop} {h:Heap} {g:Array GenState} {d:Drawn} {t:Nat} {os:OsState}
variable {nm q:Str} {C N:Addr} {bs bm bmB:List Value} {hdct:Bool} {sn:List Str} {sub:List Value} {ab:Bool} {col:Option Bool} {dd:Option Addr} {k0 k1 k2 k3 k5:Option Value} {B newId initId:String}
end
section
variable {prog:Program} {w:World} {A:Around} {E:Value→Shared→Prop} {R:Result→Shared→Prop} {h:Heap} {g:Array GenState} {d:Drawn} {t:Nat} {os:OsState}
variable {nm q:Str} {C N:Addr} {bs bm bmB:List Value} {hdct:Bool} {sn:List Str} {sub:List Value} {ab:Bool} {col:Option Bool} {dd:Option Addr} {k0 k1 k2 k3 k5:Option Value} {B newId initId:String}
end
end FcX
set_option maxRecDepth 100000
set_option maxHeartbeats 4000000
namespace FcX
open PySem PySem.Spec PyProof.Rows L2 FcR
abbrev aeT:List Value:=[.type "ArithmeticError",.type "Exception",.type "BaseException",.type "object"]
structure XC (K:PySem.W.Frag) (C:Addr):Prop where
 ini:PySem.W.excInitIn K C aeT "ArithmeticError.__new__"=true
 over:PySem.W.excOver K C aeT=true
 sa:PySem.W.findIn K (.ref C) "__setattr__"=some (some (.builtin "object.__setattr__"))
 ga:PySem.W.findIn K (.ref C) "__getattribute__"=some (some (.builtin "BaseException.__getattribute__"))
 gt:PySem.W.findIn K (.ref C) "__getattr__"=some none
 ex:PySem.W.subIn K (.ref C) (.type "BaseException")=some true
 ty:PySem.W.typeIn K (.ref C)=some (.type "type")
 kp:PySem.W.keepIn K (.ref C)=true
 hd:PySem.W.hasDictIn K C=true
 cl:PySem.W.findIn K (.ref C) "__class__"=some (some (.builtin "object.__class__"))
 cg:PySem.W.specialIn K (.builtin "object.__class__") "__get__"=some (some (.builtin "getset_descriptor.__get__"))
 ct:PySem.W.takesIn K (.builtin "object.__class__")=some true
 mo:PySem.W.mroIn K C (.type "object")=some true
def xcB (K:PySem.W.Frag) (C:Addr):Bool:=PySem.W.excInitIn K C aeT "ArithmeticError.__new__" && (PySem.W.excOver K C aeT && (
 decide (PySem.W.findIn K (.ref C) "__setattr__"=some (some (.builtin "object.__setattr__"))) && (decide (PySem.W.findIn K (.ref C) "__getattribute__"=some (some (.builtin "BaseException.__getattribute__"))) && (
 decide (PySem.W.findIn K (.ref C) "__getattr__"=some none) && (decide (PySem.W.subIn K (.ref C) (.type "BaseException")=some true) && (decide (PySem.W.typeIn K (.ref C)=some (.type "type")) && (PySem.W.keepIn K (.ref C) && (PySem.W.hasDictIn K C && (
 decide (PySem.W.findIn K (.ref C) "__class__"=some (some (.builtin "object.__class__"))) && (decide (PySem.W.specialIn K (.builtin "object.__class__") "__get__"=some (some (.builtin "getset_descriptor.__get__"))) && (
 decide (PySem.W.takesIn K (.builtin "object.__class__")=some true) && decide (PySem.W.mroIn K C (.type "object")=some true))))))))))))
def xiB (K:PySem.W.Frag) (C fI:Addr) (f:Str):Bool:=decide (PySem.W.findIn K (.ref C) "__init__"=some (some (.ref fI))) && (decide (PySem.W.typeIn K (.ref fI)=some (.type "function")) && (decide (PySem.W.takerIn K C f=some none) && decide (PySem.W.findIn K (.ref C) f=some none)))
section
variable {X:Cx} {pins:List (Addr×Obj)} {σ:L2.St} {H:Hp} {s:Shared} {a C fI:Addr} {f:Str} {y:V} {u:Value} {A:Around} {E:Value→Shared→Prop}
end
def XV (H:Hp) (C:Addr) (f:Str) (y:V) (a:Addr):Prop:=∃ d,H a=some (exo a C (some d))∧H d=some (exd d [(f,y)])
theorem XV.ex {H H':Hp} {C:Addr} {f:Str} {y:V} {a:Addr} (h:XV H C f y a) (e:Evl.Ex H H'):XV H' C f y a:=by
 obtain ⟨d,h1,h2⟩:=h
 exact ⟨d,e _ _ h1,e _ _ h2⟩
section
variable {X:Cx} {CX:CXT} {k:Nat} {C fI:Addr} {fd:FuncData} {f n x:Str} {p pos kpos:Pos} {e:Expr} {es:List Expr} {ta:TA} {te:TE}
def tCallW (sp:Sp) (g:List V→List V) (n:Nat) (E:XK) (tk:TA):TE:=fun σ H Q=>tk σ H fun zs H1=>zs.length=n∧sp (g zs) H1 Q E
theorem pe_callW {ps ks:List Str} {sp:Sp} {E:XK} {g:List Value→List Value} {gV:List V→List V} {kws:List Keyword} {tk:TA} {fI:Addr} (G:FnOk X.prog X.w X.K X.mg X.base CX k fI fd ps sp) (hr:Room k X.A) (hg:Gl X x) (hm:X.mg x=some (.ref fI)) (hk:PySem.W.keepIn X.K (.ref fI)=true)
  (hb:∀ (s:Shared) (ws:List Value),ws.length=ks.length→BindsTo s fd ⟨[],ks.zip ws⟩ (ps.zip (g ws))) (hrel:∀ {zs:List V} {ws:List Value},Vals zs ws→zs.length=ks.length→Vals (gV zs) (g ws)) (hx:Passes CX X E) (hkw:PK X kws tk)
  (hall:(backToKw pos (keywordEach kws X.env)).all (·.1.isSome)=true:=by rfl) (hks:(backToKw pos (keywordEach kws X.env)).filterMap (·.1)=ks:=by rfl) (hdb:(x == ("__debug__":Str))=false:=by decide)
  (hpl:((backTo pos (starEach [] X.env)).any (·.1) || (backToKw pos (keywordEach kws X.env)).any (·.1.isNone))=false:=by rfl) :
  PE X (.Call (.Name x p) [] kws pos) (tCallW sp gV ks.length E tk):=by
 refine ⟨fun pins s σ H Q I h=>?_⟩
 refine wpAny_Call_Name_kw (ld_glob I hg hm ?_ hdb)
 refine PySem.W.callWith_KW0 (h₀:=X.base) I.ok.mod.kin hk hall (thn (hkw.run pos pins s σ H _ I h) fun ws s1 ⟨zs,H1,I1,r,l,q⟩=>⟨I1.kIn,?_⟩) hpl
 rw [hks]
 refine wpAny_call (codeAny_mono (G.run X.A X.stack s1 H1 ⟨[],ks.zip ws⟩ (g ws) (gV zs) Q E hr I1.env0 (hb s1 ws (r.length.symm.trans l)) (hrel r l) q) fun r s' hq=>?_)
 cases r with
 | error e=>exact hx pins σ H1 s1 e s' I1 hq
 | ok fl =>
  cases fl with
  | ret u=>exact I1.after hq
  | next=>exact False.elim hq
  | brk=>exact False.elim hq
  | cont=>exact False.elim hq
end
theorem bindsX {K:PySem.W.Frag} {x qual:Str} {params:Arguments} {body:List Stmt} {scope:Scope} {kws:List (Str×V)} {f:Addr} {fd:FuncData} {args:Args} {binds:List (Str×Value)} (F:FunD K x qual params body scope [] kws f fd)
  (h:∀ (kV doc pm:Value) (an:Option Addr) (cdv ct:Value),bindArgs (PySem.W.fnOf x qual params body scope .none kV doc pm an cdv ct) args=pure binds) (s:Shared):BindsTo s fd args binds:=by
 obtain ⟨oc,od,dV,kV,doc,pm,an,cdv,ct,osl,rfl,lk,hcd,hD,hK⟩:=F.ex
 rcases hD with ⟨_,rfl⟩ | ⟨e,_⟩
 ·exact .of_eq (h kV doc pm an cdv ct)
 ·exact absurd rfl e
def xkB (K:PySem.W.Frag) (ns:List Str):Bool:=ns.all fun c=>ns.all (fun d=>decide (PySem.W.kitOne K (.ref (He.ga K c)) (.ref (He.ga K d))=some (c == d || d == "CopyError"))) &&
 (decide (PySem.W.kitOne K (.ref (He.ga K c)) (.type "ArithmeticError")=some true) && decide (PySem.W.kitAny K (.ref (He.ga K c)) [.type "ValueError",.type "TypeError",.type "LookupError"]=some false))
end FcX
set_option maxRecDepth 100000
set_option maxHeartbeats 4000000
namespace Fc
open PySem PySem.Spec PyProof.Rows L2 FcR
open Evl (Ex)
section
def frz (F H:Hp) (L:List Addr):Hp:=fun b=>if b∈L then H b else F b
theorem frz_in {F H:Hp} {L:List Addr} {b:Addr} (h:b∈L):frz F H L b=H b:=if_pos h
theorem frz_out {F H:Hp} {L:List Addr} {b:Addr} (h:b ∉ L):frz F H L b=F b:=if_neg h
theorem frz_ex {F H:Hp} {L:List Addr} (h:∀ b∈L,F b=none):Ex F (frz F H L):=fun b o e=>by
 rw [frz_out (fun z=>by rw [h b z] at e;cases e)]
 exact e
theorem frz_le {F H:Hp} {L:List Addr} (e:Ex F H):Ex (frz F H L) H:=fun b o h=>by
 by_cases z:b∈L
 ·rw [frz_in z] at h;exact h
 ·rw [frz_out z] at h;exact e b o h
structure Gr (M:Addr→Prop) (F H F' H':Hp):Prop where
 ff:Ex F F'
 fh:Ex F' H'
 nw:∀ b,H b≠none→F b=none→¬ M b→F' b=none
 kp:∀ b o,H b=some o→¬ M b→H' b=some o
theorem Gr.refl {M:Addr→Prop} {F H:Hp} (x:Ex F H):Gr M F H F H:=⟨Evl.Ex.refl _,x,fun _ _ e _=>e,fun _ _ e _=>e⟩
theorem Gr.trans {M:Addr→Prop} {F H F1 H1 F2 H2:Hp} (a:Gr M F H F1 H1) (b:Gr M F1 H1 F2 H2):Gr M F H F2 H2 :=
 ⟨a.ff.trans b.ff,b.fh,fun c h1 h2 h3=>b.nw c (fun z=>by
  cases e:H c with
  | none=>exact h1 e
  | some o=>rw [a.kp c o e h3] at z;cases z) (a.nw c h1 h2 h3) h3,fun c o e h=>b.kp c o (a.kp c o e h) h⟩
theorem Gr.new {M:Addr→Prop} {F H H1:Hp} (x:Ex F H) (e:Ex H H1):Gr M F H F H1:=⟨Evl.Ex.refl _,x.trans e,fun _ _ h _=>h,fun b o h _=>e b o h⟩
theorem Gr.set {M:Addr→Prop} {F H H1:Hp} {p:Addr} (x:Ex F H) (hp:M p) (hf:F p=none) (o:∀ b,b≠p→H1 b=H b):Gr M F H F H1 :=
 ⟨Evl.Ex.refl _,set_ex x hf o,fun _ _ h _=>h,fun b u e hb=>by rw [o b (fun z=>hb (z ▸ hp))];exact e⟩
theorem Gr.frz {M:Addr→Prop} {F H H1:Hp} {p:Addr} {u:HO} (x:Ex F H) (n:H p=none) (s:H1 p=some u) (o:∀ b,b≠p→H1 b=H b):Gr M F H (upd F p u) H1:=by
 refine ⟨exu (Evl.Ex.refl _) (ex_none x n),fun b w e=>?_,fun b h1 h2 _=>?_,fun b w e _=>?_⟩
 ·by_cases z:b=p
  ·rw [z,upd_same] at e
   cases e
   rw [z]
   exact s
  ·rw [upd_ne z] at e
   rw [o b z]
   exact x b w e
 ·rw [upd_ne (fun z=>h1 (by rw [z];exact n))]
  exact h2
 ·rw [o b (ne_of_none e n)]
  exact e
theorem Gr.mono {M M':Addr→Prop} {F H F' H':Hp} (g:Gr M F H F' H') (h:∀ b,M b→M' b):Gr M' F H F' H' :=
 ⟨g.ff,g.fh,fun b h1 h2 h3=>g.nw b h1 h2 fun z=>h3 (h b z),fun b o e hb=>g.kp b o e fun z=>hb (h b z)⟩
theorem Gr.ex {F H F' H':Hp} (g:Gr (fun _=>False) F H F' H'):Ex H H':=fun b o e=>g.kp b o e id
theorem Gr.hide {M M':Addr→Prop} {F H F1 H1 F2 H2:Hp} (a:Gr M F H F1 H1) (b:Gr M' F1 H1 F2 H2) (h:∀ x,M' x→H x=none∨M x):Gr M F H F2 H2:=by
 have hn:∀ x,H x≠none→¬ M x→¬ M' x:=fun x h1 h2 h3=>(h x h3).elim h1 h2
 refine ⟨a.ff.trans b.ff,b.fh,fun x h1 h2 h3=>b.nw x (fun z=>?_) (a.nw x h1 h2 h3) (hn x h1 h3),fun x o e h1=>b.kp x o (a.kp x o e h1) (hn x (by rw [e];exact fun z=>nomatch z) h1)⟩
 cases e:H x with
 | none=>exact h1 e
 | some o=>rw [a.kp x o e h3] at z;cases z
theorem Gr.frzAt {M:Addr→Prop} {F H F1 H1:Hp} {p:Addr} {o:HO} (g:Gr M F H F1 H1) (hp:H p=none) (h1:H1 p=some o) (hf:F1 p=none):Gr M F H (upd F1 p o) H1:=by
 refine ⟨exu g.ff hf,fun b u e=>?_,fun b a1 a2 a3=>?_,g.kp⟩
 ·by_cases z:b=p
  ·rw [z,upd_same] at e;cases e;rw [z];exact h1
  ·rw [upd_ne z] at e;exact g.fh b u e
 ·rw [upd_ne (fun z=>a1 (by rw [z];exact hp))]
  exact g.nw b a1 a2 a3
structure Rg (M:Addr→Prop) (F0 H F R H':Hp):Prop where
 g:Gr M F0 H F H'
 rh:Ex R H'
 dj:∀ b o,R b=some o→F b=none
 rn:∀ b o,R b=some o→H b=none∧¬ M b
def hp0:Hp:=fun _=>none
section
variable {M:Addr→Prop} {F0 H F R H':Hp}
theorem Rg.start (g:Gr M F0 H F H'):Rg M F0 H F hp0 H':=⟨g,fun b o e=>(by cases e),fun b o e=>(by cases e),fun b o e=>(by cases e)⟩
theorem Rg.fresh (x:Rg M F0 H F R H') {p:Addr} (n:H' p=none):F p=none∧R p=none∧(¬ M p→H p=none):=by
 refine ⟨ex_none x.g.fh n,ex_none x.rh n,fun hm=>?_⟩
 cases e:H p with
 | none=>rfl
 | some o=>rw [x.g.kp p o e hm] at n;cases n
theorem Rg.newR (x:Rg M F0 H F R H') {H1:Hp} {p:Addr} {o:HO} (hm:¬ M p) (n:H' p=none) (s:H1 p=some o) (e:∀ b,b≠p→H1 b=H' b):Rg M F0 H F (upd R p o) H1:=by
 obtain ⟨f1,f2,f3⟩:=x.fresh n
 have ex:Ex H' H1:=fun b u h=>by rw [e b (ne_of_none h n)];exact h
 refine ⟨x.g.trans (Gr.new x.g.fh ex),fun b u h=>?_,fun b u h=>?_,fun b u h=>?_⟩
 all_goals by_cases z:b=p
 ·rw [z,upd_same] at h;cases h;rw [z];exact s
 ·rw [upd_ne z] at h;rw [e b z];exact x.rh b u h
 ·rw [z];exact f1
 ·rw [upd_ne z] at h;exact x.dj b u h
 ·rw [z];exact ⟨f3 hm,hm⟩
 ·rw [upd_ne z] at h;exact x.rn b u h
theorem Rg.newF (x:Rg M F0 H F R H') {H1:Hp} {p:Addr} {o:HO} (n:H' p=none) (s:H1 p=some o) (e:∀ b,b≠p→H1 b=H' b):Rg M F0 H (upd F p o) R H1:=by
 obtain ⟨f1,f2,f3⟩:=x.fresh n
 have ex:Ex H' H1:=fun b u h=>by rw [e b (ne_of_none h n)];exact h
 refine ⟨x.g.trans (Gr.frz x.g.fh n s e),x.rh.trans ex,fun b u h=>?_,x.rn⟩
 rw [upd_ne (ne_of_none h f2)]
 exact x.dj b u h
theorem Rg.setR (x:Rg M F0 H F R H') {H1:Hp} {p:Addr} {o u0:HO} (hp:R p=some u0) (s:H1 p=some o) (e:∀ b,b≠p→H1 b=H' b):Rg M F0 H F (upd R p o) H1:=by
 obtain ⟨r1,r2⟩:=x.rn p u0 hp
 refine ⟨⟨x.g.ff,fun b u h=>?_,x.g.nw,fun b u h hb=>?_⟩,fun b u h=>?_,fun b u h=>?_,fun b u h=>?_⟩
 ·have z:b≠p:=fun z=>by rw [z,x.dj p u0 hp] at h;cases h
  rw [e b z];exact x.g.fh b u h
 ·have z:b≠p:=fun z=>by rw [z,r1] at h;cases h
  rw [e b z];exact x.g.kp b u h hb
 all_goals by_cases z:b=p
 ·rw [z,upd_same] at h;cases h;rw [z];exact s
 ·rw [upd_ne z] at h;rw [e b z];exact x.rh b u h
 ·rw [z];exact x.dj p u0 hp
 ·rw [upd_ne z] at h;exact x.dj b u h
 ·rw [z];exact ⟨r1,r2⟩
 ·rw [upd_ne z] at h;exact x.rn b u h
theorem Rg.setM (x:Rg M F0 H F R H') {H1:Hp} {p:Addr} (hp:M p) (hf:F p=none) (e:∀ b,b≠p→H1 b=H' b):Rg M F0 H F R H1:=by
 refine ⟨x.g.trans (Gr.set x.g.fh hp hf e),fun b u h=>?_,x.dj,x.rn⟩
 rw [e b (fun z=>(x.rn b u h).2 (z ▸ hp))]
 exact x.rh b u h
theorem Rg.call {M':Addr→Prop} {F2 H2:Hp} (x:Rg M F0 H F R H') (c:Gr M' F H' F2 H2) (hM:∀ b,M' b→M b):Rg M F0 H F2 R H2:=by
 refine ⟨x.g.trans (c.mono hM),fun b o h=>c.kp b o (x.rh b o h) fun z=>(x.rn b o h).2 (hM b z),fun b o h=>?_,x.rn⟩
 exact c.nw b (by rw [x.rh b o h];exact fun z=>nomatch z) (x.dj b o h) fun z=>(x.rn b o h).2 (hM b z)
theorem Rg.only (x:Rg M F0 H F R H') {R':Hp} (e:Ex R' R):Rg M F0 H F R' H':=⟨x.g,e.trans x.rh,fun b o h=>x.dj b o (e b o h),fun b o h=>x.rn b o (e b o h)⟩
def joinH (F R:Hp):Hp:=fun b=>match R b with
 | some o=>some o
 | none=>F b
theorem joinH_r {b:Addr} {o:HO} (h:R b=some o):joinH F R b=some o:=by unfold joinH;rw [h]
theorem joinH_f (dj:∀ b o,R b=some o→F b=none):Ex F (joinH F R):=fun b o h=>by
 unfold joinH
 cases e:R b with
 | none=>exact h
 | some u=>rw [dj b u e] at h;cases h
theorem Rg.done (x:Rg M F0 H F R H'):Gr M F0 H (joinH F R) H':=by
 refine ⟨x.g.ff.trans (joinH_f x.dj),fun b o h=>?_,fun b h1 h2 h3=>?_,x.g.kp⟩
 ·unfold joinH at h
  cases e:R b with
  | none=>rw [e] at h;exact x.g.fh b o h
  | some u=>rw [e] at h;cases h;exact x.rh b _ e
 ·unfold joinH
  cases e:R b with
  | none=>exact x.g.nw b h1 h2 h3
  | some u=>exact absurd (x.rn b u e).1 h1
theorem Rg.part (x:Rg M F0 H F R H') {R1 R2:Hp} (e1:Ex R1 R) (e2:Ex R2 R) (d:∀ b o,R1 b=some o→R2 b=none):Rg M F0 H (joinH F R2) R1 H':=by
 refine ⟨(x.only e2).done,e1.trans x.rh,fun b o h=>?_,fun b o h=>x.rn b o (e1 b o h)⟩
 unfold joinH
 rw [d b o h]
 exact x.dj b o (e1 b o h)
end
end
end Fc
set_option maxRecDepth 100000
set_option maxHeartbeats 4000000
namespace FcO
open PySem PySem.Spec PyProof.Rows L2
section
variable {X:Cx} {CX:CXT} {C f:Addr} {fd:FuncData} {ps:List Str} {sp:Sp} {E:XK} {k:Nat}
theorem run_sub {A:Around} (F:FnOk X.prog X.w X.K X.mg X.base CX k f fd ps sp) (sb:Sub X k A) (hb:Binds X.K fd ps []) (hx:Passes CX X E) {pins:List (Addr×Obj)} {σ:L2.St} {H:Hp} {s:Shared} {us:List Value} {vs:List V} {Q:VK} (I:Inv X pins σ H s) (r:Vals vs us) (h:sp vs H Q E) :
  wpAny (model X.prog X.w) A (call (.ref f) us) (EP X pins σ Q) X.xe s:=by
 have e0:Env0 X.prog X.w X.K X.mg X.base A X.stack s H:=by
  have e:=I.env0
  exact ⟨by rw [sb.fr];exact e.frames,e.mod,e.bs,e.bsz,e.funs,e.frf,e.hok,e.bare⟩
 have hl:=F.len _ _ _ _ h
 refine wpAny_call (codeAny_mono (F.run A X.stack s H ⟨us,[]⟩ us vs _ E sb.room e0 (by
  have:=hb s us I.kIn (by rw [List.append_nil,← r.length];exact hl)
  rw [List.append_nil] at this
  exact this) r h) fun r s' hq=>?_)
 cases r with
 | error e=>exact hx pins σ H s e s' I hq
 | ok fl =>
  cases fl with
  | ret w=>exact I.after hq
  | next=>exact False.elim hq
  | brk=>exact False.elim hq
  | cont=>exact False.elim hq
theorem special_own {M:Model} {A:Around} {E:Value→Shared→Prop} {s:Shared} {K:PySem.W.Frag} {x C f:Addr} {ox:Obj} {od:Option Obj} {name:Str} {args:List Value} {Q:Option Value→Shared→Prop} (X:K.In s.heap) (I:PySem.W.InstAt s.heap x ox C od) (hs:PySem.W.findIn K (.ref C) name=some (some (.ref f))) (hf:PySem.W.isFn K (.ref f)=true)
  (h:wpAny M A (call (.ref f) (.ref x::args)) (fun v=>Q (some v)) E s):wpAny M A (callSpecial? (.ref x) name args) Q E s:=by
 simp only [callSpecial?]
 refine wpAny_bind (wpAny_bind (I.type.here ((PySem.W.looks_findIn X hs).here ?_)))
 refine wpAny_holding (wpAny_bind ((PySem.W.bind_fn X _ (beq_iff_eq.mp hf)).here ?_))
 exact wpAny_bind (wpAny_mono h (fun v s' h'=>wpAny_pure h') fun _ _ h'=>h')
abbrev rLenO (C:Addr) (sp:Sp) (E:XK):List V→Hp→VK→Prop:=fun xs H Q=>∃ (a dx:Addr) (fs:List (Str×V)),xs=[.ref a]∧H a=some (.ins C dx fs)∧sp [.ref a] H (fun v H'=>∃ n:Nat,v=.int (n:Int)∧(n:Int)<2 ^ 63∧Q (.int (n:Int)) H') E
theorem call_lenO (F:FnOk X.prog X.w X.K X.mg X.base CX k f fd ps sp) (hr:Room (k + 1) X.A) (hm:Meth X.K C "__len__" f) (hb:Binds X.K fd ps []) (hx:Passes CX X E):CallR X (.builtin "len") (rLenO C sp E):=by
 intro pins s σ H xs us Q I r h
 obtain ⟨a,dx,fs,rfl,ha,q⟩:=h
 obtain ⟨u,rfl,ru⟩:=vals1 r
 obtain rfl:u=Value.ref a:=ru
 obtain ⟨mA,J,_⟩:=ins_get I.hok ha
 obtain ⟨od,J,_⟩:=J.look
 refine Calls.call_function_entry kind_len plain_len entry_len (args_len1 _) ?_
 unfold Builtin.«len»
 refine wpAny_bind (m:=oneArg "len" _) (wpAny_pure ?_)
 refine wpAny_bind (m:=callSpecial? (.ref a) (PySem.Str.ofString "__len__")) (special_own I.kIn J hm.at_ hm.fn (wpAny_mono (run_sub F ⟨hr.in1,rfl⟩ hb hx I r q) (fun v s1 hv=>?_) fun _ _ e=>e))
 obtain ⟨z,H1,I1,rz,n,rfl,hn,q1⟩:=hv
 obtain ⟨t,rfl⟩:∃ t,v=Value.int (n:Int) t:=rz
 refine wpAny_bind (wpAny_holding (wpAny_pure ?_))
 refine wpAny_bind (wpAny_letGo ?_)
 show wpAny _ _ (if ((n:Nat):Int)<0 then _ else _) _ _ _
 rw [if_neg (by omega)]
 show wpAny _ _ (if ((n:Nat):Int) ≥ 2 ^ 63 then _ else _) _ _ _
 rw [if_neg (by omega)]
 exact wpAny_bind (wpAny_mkInt (wpAny_pure ⟨_,rfl,⟨.int (n:Int),H1,I1.tok _,⟨_,rfl⟩,q1⟩⟩))
end
end FcO
namespace FcO
open PySem PySem.Spec PyProof.Rows L2
structure EqC (K:PySem.W.Frag) (C:Addr):Prop where
 ne:PySem.W.findIn K (.ref C) "__ne__"=some (some (.builtin "object.__ne__"))
 ha:PySem.W.findIn K (.ref C) "__class__"=some (some (.builtin "object.__class__"))
 hn:PySem.W.specialIn K (.builtin "object.__class__") "__get__"=some (some (.builtin "getset_descriptor.__get__"))
 htk:PySem.W.takesIn K (.builtin "object.__class__")=some true
 hm:PySem.W.mroIn K C (.type "object")=some true
 same:PySem.W.kitOne K (.ref C) (.ref C)=some true
 no:∀ T∈(["NoneType","bool","int","str","list","tuple","dict"]:List String),PySem.W.kitOne K (.type T) (.ref C)=some false
def eqB (K : PySem.W.Frag) (C : Addr) : Bool :=
  (decide (PySem.W.findIn K (.ref C) "__ne__" = some (some (.builtin "object.__ne__"))) && decide (PySem.W.findIn K (.ref C) "__class__" = some (some (.builtin "object.__class__")))) &&
  ((decide (PySem.W.specialIn K (.builtin "object.__class__") "__get__" = some (some (.builtin "getset_descriptor.__get__"))) && decide (PySem.W.takesIn K (.builtin "object.__class__") = some true)) &&
  ((decide (PySem.W.mroIn K C (.type "object") = some true) && decide (PySem.W.kitOne K (.ref C) (.ref C) = some true)) &&
   ((["NoneType", "bool", "int", "str", "list", "tuple", "dict"] : List String).all fun T => decide (PySem.W.kitOne K (.type T) (.ref C) = some false))))
theorem eqB_ok {K:PySem.W.Frag} {C:Addr} (h:eqB K C=true):EqC K C:=by
 unfold eqB at h
 obtain ⟨h1,h2⟩:=Bool.and_eq_true_iff.mp h
 obtain ⟨a1,a2⟩:=Bool.and_eq_true_iff.mp h1
 obtain ⟨h3,h4⟩:=Bool.and_eq_true_iff.mp h2
 obtain ⟨a3,a4⟩:=Bool.and_eq_true_iff.mp h3
 obtain ⟨h5,h6⟩:=Bool.and_eq_true_iff.mp h4
 obtain ⟨a5,a6⟩:=Bool.and_eq_true_iff.mp h5
 exact ⟨of_decide_eq_true a1,of_decide_eq_true a2,of_decide_eq_true a3,of_decide_eq_true a4,of_decide_eq_true a5,of_decide_eq_true a6,fun T hT=>of_decide_eq_true (List.all_eq_true.mp h6 T hT)⟩
section
variable {X:Cx} {CX:CXT} {C f:Addr} {fd:FuncData} {ps:List Str} {sp:Sp} {E:XK} {k:Nat}
theorem ty_ins {K:PySem.W.Frag} {H:Hp} {a C dx:Addr} {fs:List (Str×V)} (c:Cls K C) (z:EqC K C) (h:H a=some (.ins C dx fs)):TyX K H (.ref a) (.ref C):=.base (.ins h c z.ha z.hn z.htk z.hm)
def rEqO (K:PySem.W.Frag) (C:Addr) (sp:Sp) (E:XK):R2:=fun x y H Q=>∃ (a dx:Addr) (fs:List (Str×V)) (tb:Value),x=.ref a∧H a=some (.ins C dx fs)∧TyX K H y tb∧PySem.W.notFirst K C tb=true∧sp [x,y] H (fun v H'=>∃ b,v=.bl b∧Q (.bl b) H') E
def rNeO (K:PySem.W.Frag) (C:Addr) (sp:Sp) (E:XK):R2:=fun x y H Q=>∃ (a dx:Addr) (fs:List (Str×V)) (tb:Value),x=.ref a∧H a=some (.ins C dx fs)∧TyX K H y tb∧PySem.W.notFirst K C tb=true∧sp [x,y] H (fun v H'=>∃ b,v=.bl b∧Q (.bl (!b)) H') E
theorem op_eqO (F:FnOk X.prog X.w X.K X.mg X.base CX k f fd ps sp) (hr:Room k X.A) (hm:Meth X.K C "__eq__" f) (hb:Binds X.K fd ps []) (hx:Passes CX X E):OpR X (compareOp .Eq) (rEqO X.K C sp E):=by
 intro pins s σ H x y v u Q I rx ry h
 obtain ⟨a,dx,fs,tb,rfl,ha,ty,nf,q⟩:=h
 obtain rfl:v=Value.ref a:=rx
 obtain ⟨mA,J,_⟩:=ins_get I.hok ha
 obtain ⟨od,J,_⟩:=J.look
 obtain ⟨Pk,kx,pk,_⟩:=kit_of I ry ty
 obtain ⟨m,hF⟩:=I.fr
 show wpAny (model X.prog X.w) X.A (richCompare .Eq (.ref a) u) (EP X pins σ Q) X.xe s
 refine PySem.W.cmp_K (op:=.Eq) (tb:=tb) hr.units0 hF I.ok.mod.kin J (kx.ty _ _ I.kIn pk) nf hm.at_ hm.fn ?_
 refine wpAny_mono (run_sub F ⟨hr,rfl⟩ hb hx I (.cons (show L2.RelV (.ref a) (Value.ref a) from rfl) (.cons ry .nil)) q) (fun r s1 hv=>?_) fun _ _ e=>e
 obtain ⟨z,H1,I1,rz,b,rfl,q1⟩:=hv
 cases rz
 exact ⟨.bl b,H1,I1,rfl,q1⟩
theorem op_neO (F:FnOk X.prog X.w X.K X.mg X.base CX k f fd ps sp) (hr:Room (k + 1) X.A) (hm:Meth X.K C "__eq__" f) (zc:EqC X.K C) (hb:Binds X.K fd ps []) (hx:Passes CX X E):OpR X (compareOp .NotEq) (rNeO X.K C sp E):=by
 intro pins s σ H x y v u Q I rx ry h
 obtain ⟨a,dx,fs,tb,rfl,ha,ty,nf,q⟩:=h
 obtain rfl:v=Value.ref a:=rx
 obtain ⟨mA,J,_⟩:=ins_get I.hok ha
 obtain ⟨od,J,_⟩:=J.look
 obtain ⟨Pk,kx,pk,_⟩:=kit_of I ry ty
 have hbT:=kx.ty (model X.prog X.w) s.heap I.kIn pk
 have Xk:=I.kIn
 have callE:wpAny (model X.prog X.w) X.A.in1 (call (.ref f) [.ref a,u]) (fun v s'=>∃ b,v=.bool b∧EP X pins σ Q (.bool (!b)) s') X.xe s:=by
  refine wpAny_mono (run_sub F ⟨hr.in1,rfl⟩ hb hx I (.cons (show L2.RelV (.ref a) (Value.ref a) from rfl) (.cons ry .nil)) q) (fun r s1 hv=>?_) fun _ _ e=>e
  obtain ⟨z,H1,I1,rz,b,rfl,q1⟩:=hv
  cases rz
  exact ⟨b,rfl,.bl (!b),H1,I1,rfl,q1⟩
 have inst:PySem.W.Looks (model X.prog X.w) s.heap (isInstance (.ref a) (.type "object")) true:=J.type.andThen (PySem.W.looks_mroIn Xk zc.hm)
 have hbs:bindSpecial (.builtin "object.__ne__") (.ref a)=pure (.builtin "object.__ne__",[.ref a]):=PySem.F.cmp_object.ne.bind _
 have hu1:X.A.in1.units<cLine:=hr.in1.units0
 have callN:wpAny (model X.prog X.w) X.A (call (.builtin "object.__ne__") [.ref a,u]) (fun v s'=>∃ b,v=.bool b∧EP X pins σ Q (.bool b) s') X.xe s:=by
  refine wpAny_call (codeAny_call_builtin PySem.F.cmp_object.ne.plain PySem.F.cmpEntry_ne (@PySem.W.check_slot (model X.prog X.w) _ _ _ "object.__ne__" "object" "__ne__" (.ref a) [u] [] _ PySem.F.cmpKind_ne PySem.F.cmpSplit_ne inst (PySem.F.cmpArgs_ne _ _) ?_))
  unfold Builtin.«object.__ne__»
  repeat (first
   | with_reducible refine wpAny_cRoomFor hu1 ?_
   | (refine wpAny_bind (m:=callSpecialIfBound? (.ref a) (Str.ofString "__eq__") [u]) (PySem.W.ifBound_K Xk J hm.at_ hm.fn (wpAny_mono callE (fun r s' hr=>by
      obtain ⟨b,rfl,hq⟩:=hr
      repeat (first | exact ⟨_,rfl,hq⟩ | exact wpAny_pure ⟨_,rfl,hq⟩ | exact wpAny_truthy_bool ⟨_,rfl,hq⟩ | (refine wpAny_bind (m:=truthy (.bool _)) (wpAny_truthy_bool ?_)) | wp_step)) fun _ _ e=>e)))
   | wp_step)
 have one:wpAny (model X.prog X.w) X.A (tryCompare (.ref a) (cmpInfo .NotEq).2.1 u) (fun r s'=>∃ v,r=some v∧EP X pins σ Q v s') X.xe s:=by
  unfold tryCompare
  refine wpAny_bind (m:=callSpecialIfBound? (.ref a) (Str.ofString "__ne__") [u]) ?_
  simp only [callSpecialIfBound?,bindSpecialIfBound?]
  refine wpAny_holding (wpAny_bind (wpAny_bind (wpAny_bind (J.type.here ((PySem.W.looks_findIn Xk zc.ne).here ?_)))))
  simp only [hbs]
  refine wpAny_bind (wpAny_askSetting (wpAny_ite ?_))
  split
  ·exact wpAny_bind (wpAny_pure (wpAny_pure (wpAny_bind (wpAny_mono callN (fun v s' h'=>by
    obtain ⟨b,rfl,hq⟩:=h'
    exact wpAny_pure (wpAny_pure ⟨_,rfl,hq⟩)) fun _ _ h'=>h'))))
  ·exact wpAny_tryCatch (wpAny_bind (wpAny_pure (wpAny_pure (wpAny_bind (wpAny_mono callN (fun v s' h'=>by
    obtain ⟨b,rfl,hq⟩:=h'
    exact wpAny_pure (wpAny_pure ⟨_,rfl,hq⟩)) fun _ _ h'=>h')))))
 show wpAny (model X.prog X.w) X.A (richCompare .NotEq (.ref a) u) (EP X pins σ Q) X.xe s
 unfold richCompare
 simp only [oneThing_ref]
 refine wpAny_holding (wpAny_bind (wpAny_cRoomFor hr.units0 ?_))
 refine wpAny_bind (J.type.here (wpAny_bind (hbT.here ?_)))
 split
 ·rename_i qq
  have e:PySem.W.subIn X.K tb (.ref C)=some false:=by
   rcases Bool.or_eq_true_iff.mp nf with e | e
   ·rw [beq_iff_eq.mp e] at qq;simp at qq
   ·exact beq_iff_eq.mp e
  refine wpAny_bind ((PySem.W.looks_subIn Xk e).here ?_)
  simp only [Bool.false_eq_true,if_false]
  refine wpAny_bind (wpAny_mono one (fun r s' z=>?_) fun _ _ e=>e)
  obtain ⟨v,rfl,hq⟩:=z
  exact wpAny_pure hq
 ·refine wpAny_bind (wpAny_pure ?_)
  simp only [Bool.false_eq_true,if_false]
  refine wpAny_bind (wpAny_mono one (fun r s' z=>?_) fun _ _ e=>e)
  obtain ⟨v,rfl,hq⟩:=z
  exact wpAny_pure hq
end
end FcO
namespace FcO
open PySem PySem.Spec PyProof.Rows L2
section
variable {X:Cx} {CX:CXT} {C f:Addr} {fd:FuncData} {ps ks:List Str} {sp:Sp} {E:XK} {k:Nat} {x:Str} {p pos:Pos} {kws:List Keyword} {tk:TA} {g:List Value→List Value} {gV:List V→List V}
end
end FcO
set_option maxRecDepth 100000
set_option maxHeartbeats 4000000
namespace FcX
open PySem PySem.Spec PyProof.Rows L2 FcR
section
variable {X:Cx} {CX:CXT} {k:Nat} {C fI:Addr} {fd:FuncData} {f n x:Str} {p pos:Pos} {e:Expr} {te:TE}
end
end FcX
set_option maxRecDepth 100000
set_option maxHeartbeats 4000000
namespace FcX
open PySem PySem.Spec PyProof.Rows L2 FcR
def xhB (K:PySem.W.Frag) (ns:List Str):Bool:=ns.all fun c=>ns.all fun d=>decide (PySem.W.exmOne K (.ref (He.ga K c)) (.ref (He.ga K d))=some (c == d || d == "CopyError"))
theorem XC.xf {K:PySem.W.Frag} {C:Addr} (T:XC K C):XfC K C:=⟨T.ga,T.gt,T.ex,T.hd⟩
abbrev Cl:=Value×Option Nat×(Addr→Value→Option Addr→TS)
section
variable {X:Cx} {body:List Stmt} {h₀:ExceptHandler} {hds:List ExceptHandler} {l:List Cl} {pos:Pos} {tb:WX→TS} {Wout:WX}
end
structure HeldX (P:Program) (w:World) (K:PySem.W.Frag) (mg:Str→Option Value) (base:Heap) (k:Nat) (f:Addr) (sp:Sp):Prop where
 ex:∃ (fd:FuncData) (ps:List Str),FnOk P w K mg base (L2.CX P w) k f fd ps sp∧PySem.W.keepIn K (.ref f)=true∧Binds K fd ps []
section
variable {X:Cx} {k i:Nat} {x:Str} {p pos:Pos} {e:Expr} {es:List Expr} {t:TA} {W:WX}
end
end FcX
set_option maxRecDepth 100000
set_option maxHeartbeats 4000000
namespace FcX
open PySem PySem.Spec PyProof.Rows L2 FcR
section
variable {X:Cx} {k:Nat} {f C:Addr} {S:Sp→Prop} {W:WX} {x m:Str} {p pos apos:Pos} {e o:Expr} {es:List Expr} {ta:TE} {t:TA}
end
end FcX
set_option maxRecDepth 100000
set_option maxHeartbeats 4000000
namespace FcL
open PySem PySem.Spec PyProof.Rows L2 FcR FcX LamX NdefX
structure FnG (P:Program) (w:World) (K:PySem.W.Frag) (mg:Str→Option Value) (base:Heap) (k:Nat) (f:Addr) (fd:FuncData) (ps:List Str) (sp:Sp):Prop where
 len:∀ vs H Q E,sp vs H Q E→vs.length=ps.length
 run:∀ (A:Around) (outer:List Env) (s:Shared) (H:Hp) (args:Args) (us:List Value) (vs:List V) (Q:VK) (E:XK),A.guards=some []→Room k A→Env0 P w K mg base A outer s H→BindsTo s fd args (ps.zip us)→Vals vs us→sp vs H Q E →
  codeAny (model P w) A (.call (.ref f) args) (CR (L2.CX P w) outer P w H s Q E) s
theorem FnG.of {P:Program} {w:World} {K:PySem.W.Frag} {mg:Str→Option Value} {base:Heap} {k:Nat} {f:Addr} {fd:FuncData} {ps:List Str} {sp:Sp} (F:FnOk P w K mg base (L2.CX P w) k f fd ps sp):FnG P w K mg base k f fd ps sp :=
 ⟨F.len,fun A outer s H args us vs Q E _ hr e0 b r h=>F.run A outer s H args us vs Q E hr e0 b r h⟩
theorem FnG.mono {P:Program} {w:World} {K:PySem.W.Frag} {mg:Str→Option Value} {base:Heap} {j k:Nat} {f:Addr} {fd:FuncData} {ps:List Str} {sp:Sp} (F:FnG P w K mg base j f fd ps sp) (h:j≤k):FnG P w K mg base k f fd ps sp :=
 ⟨F.len,fun A outer s H args us vs Q E hg hr=>F.run A outer s H args us vs Q E hg (hr.mono h)⟩
section
variable {P:Program} {w:World} {K:PySem.W.Frag} {mg:Str→Option Value} {base:Heap} {x qual:Str} {params:Arguments} {body:List Stmt} {scope:Scope} {dvs:List V} {kws:List (Str×V)} {fd:FuncData} {at_:Str×Option Str}
end
section
variable {X:Cx} {k:Nat} {f:Addr} {fd:FuncData} {ps:List Str} {sp:Sp} {x:Str} {p pos:Pos} {e:Expr} {es:List Expr} {t:TA}
end
end FcL
set_option maxRecDepth 100000
set_option maxHeartbeats 0
namespace Fc
open PySem PySem.Spec PyProof.Rows L2
def topS (i:Nat):Stmt:=PySem.Challenge.pw_finallycopies_k67_dead_parts_left_out.main.body.getD i (.Pass ⟨0,0,0,0⟩)
abbrev sd_wall:Stmt:=topS 0
def d_wall:He.DefD:=⟨("_wall",none),"_wall","_wall",defArgs sd_wall,defBody sd_wall,defScope sd_wall,[],[]⟩
abbrev sd_InvalidCode___init__:Stmt:=inClass (topS 3) 0
def d_InvalidCode___init__:He.DefD:=⟨("InvalidCode",some "__init__"),"__init__","InvalidCode.__init__",defArgs sd_InvalidCode___init__,defBody sd_InvalidCode___init__,defScope sd_InvalidCode___init__,[],[]⟩
abbrev sd_InvalidNumber___init__:Stmt:=inClass (topS 4) 0
def d_InvalidNumber___init__:He.DefD:=⟨("InvalidNumber",some "__init__"),"__init__","InvalidNumber.__init__",defArgs sd_InvalidNumber___init__,defBody sd_InvalidNumber___init__,defScope sd_InvalidNumber___init__,[],[]⟩
abbrev sd_InvalidAnswers___init__:Stmt:=inClass (topS 5) 0
def d_InvalidAnswers___init__:He.DefD:=⟨("InvalidAnswers",some "__init__"),"__init__","InvalidAnswers.__init__",defArgs sd_InvalidAnswers___init__,defBody sd_InvalidAnswers___init__,defScope sd_InvalidAnswers___init__,[],[]⟩
abbrev sd_LimitExceeded___init__:Stmt:=inClass (topS 6) 0
def d_LimitExceeded___init__:He.DefD:=⟨("LimitExceeded",some "__init__"),"__init__","LimitExceeded.__init__",defArgs sd_LimitExceeded___init__,defBody sd_LimitExceeded___init__,defScope sd_LimitExceeded___init__,[],[]⟩
abbrev sd_is_integer:Stmt:=topS 8
def d_is_integer:He.DefD:=⟨("is_integer",none),"is_integer","is_integer",defArgs sd_is_integer,defBody sd_is_integer,defScope sd_is_integer,[],[]⟩
abbrev sd_is_between:Stmt:=topS 9
def d_is_between:He.DefD:=⟨("is_between",none),"is_between","is_between",defArgs sd_is_between,defBody sd_is_between,defScope sd_is_between,[],[]⟩
abbrev sd_is_name:Stmt:=topS 20
def d_is_name:He.DefD:=⟨("is_name",none),"is_name","is_name",defArgs sd_is_name,defBody sd_is_name,defScope sd_is_name,[],[]⟩
abbrev sd_is_statement:Stmt:=topS 21
def d_is_statement:He.DefD:=⟨("is_statement",none),"is_statement","is_statement",defArgs sd_is_statement,defBody sd_is_statement,defScope sd_is_statement,[],[]⟩
abbrev sd_parts_in:Stmt:=topS 22
def d_parts_in:He.DefD:=⟨("parts_in",none),"parts_in","parts_in",defArgs sd_parts_in,defBody sd_parts_in,defScope sd_parts_in,[],[]⟩
abbrev sd_Code___init__:Stmt:=inClass (topS 23) 0
def d_Code___init__:He.DefD:=⟨("Code",some "__init__"),"__init__","Code.__init__",defArgs sd_Code___init__,defBody sd_Code___init__,defScope sd_Code___init__,[],[]⟩
abbrev sd_Code_check:Stmt:=inClass (topS 23) 1
def d_Code_check:He.DefD:=⟨("Code",some "check"),"check","Code.check",defArgs sd_Code_check,defBody sd_Code_check,defScope sd_Code_check,[],[]⟩
abbrev sd_Code_keep:Stmt:=inClass (topS 23) 2
def d_Code_keep:He.DefD:=⟨("Code",some "keep"),"keep","Code.keep",defArgs sd_Code_keep,defBody sd_Code_keep,defScope sd_Code_keep,[],[]⟩
abbrev sd_Code___eq__:Stmt:=inClass (topS 23) 3
def d_Code___eq__:He.DefD:=⟨("Code",some "__eq__"),"__eq__","Code.__eq__",defArgs sd_Code___eq__,defBody sd_Code___eq__,defScope sd_Code___eq__,[],[]⟩
abbrev sd_Code___len__:Stmt:=inClass (topS 23) 4
def d_Code___len__:He.DefD:=⟨("Code",some "__len__"),"__len__","Code.__len__",defArgs sd_Code___len__,defBody sd_Code___len__,defScope sd_Code___len__,[],[]⟩
abbrev sd_Code___getitem__:Stmt:=inClass (topS 23) 5
def d_Code___getitem__:He.DefD:=⟨("Code",some "__getitem__"),"__getitem__","Code.__getitem__",defArgs sd_Code___getitem__,defBody sd_Code___getitem__,defScope sd_Code___getitem__,[],[]⟩
abbrev sd_Code___iter__:Stmt:=inClass (topS 23) 6
def d_Code___iter__:He.DefD:=⟨("Code",some "__iter__"),"__iter__","Code.__iter__",defArgs sd_Code___iter__,defBody sd_Code___iter__,defScope sd_Code___iter__,[],[]⟩
abbrev sd_Code_check_number:Stmt:=inClass (topS 23) 7
def d_Code_check_number:He.DefD:=⟨("Code",some "check_number"),"check_number","Code.check_number",defArgs sd_Code_check_number,defBody sd_Code_check_number,defScope sd_Code_check_number,[],[]⟩
abbrev sd_Code_is_place:Stmt:=inClass (topS 23) 8
def d_Code_is_place:He.DefD:=⟨("Code",some "is_place"),"is_place","Code.is_place",defArgs sd_Code_is_place,defBody sd_Code_is_place,defScope sd_Code_is_place,[],[]⟩
abbrev sd_Code_check_place:Stmt:=inClass (topS 23) 9
def d_Code_check_place:He.DefD:=⟨("Code",some "check_place"),"check_place","Code.check_place",defArgs sd_Code_check_place,defBody sd_Code_check_place,defScope sd_Code_check_place,[],[]⟩
abbrev sd_Code_kind:Stmt:=inClass (topS 23) 10
def d_Code_kind:He.DefD:=⟨("Code",some "kind"),"kind","Code.kind",defArgs sd_Code_kind,defBody sd_Code_kind,defScope sd_Code_kind,[],[]⟩
abbrev sd_Code_parent:Stmt:=inClass (topS 23) 11
def d_Code_parent:He.DefD:=⟨("Code",some "parent"),"parent","Code.parent",defArgs sd_Code_parent,defBody sd_Code_parent,defScope sd_Code_parent,[],[]⟩
abbrev sd_Code_parts:Stmt:=inClass (topS 23) 12
def d_Code_parts:He.DefD:=⟨("Code",some "parts"),"parts","Code.parts",defArgs sd_Code_parts,defBody sd_Code_parts,defScope sd_Code_parts,[],[]⟩
abbrev sd_Code_places:Stmt:=inClass (topS 23) 13
def d_Code_places:He.DefD:=⟨("Code",some "places"),"places","Code.places",defArgs sd_Code_places,defBody sd_Code_places,defScope sd_Code_places,[],[]⟩
abbrev sd_Code_entry:Stmt:=inClass (topS 23) 14
def d_Code_entry:He.DefD:=⟨("Code",some "entry"),"entry","Code.entry",defArgs sd_Code_entry,defBody sd_Code_entry,defScope sd_Code_entry,[],[]⟩
abbrev sd_Code_entry_of:Stmt:=inClass (topS 23) 15
def d_Code_entry_of:He.DefD:=⟨("Code",some "entry_of"),"entry_of","Code.entry_of",defArgs sd_Code_entry_of,defBody sd_Code_entry_of,defScope sd_Code_entry_of,[],[]⟩
abbrev sd_Code_layers:Stmt:=inClass (topS 23) 16
def d_Code_layers:He.DefD:=⟨("Code",some "layers"),"layers","Code.layers",defArgs sd_Code_layers,defBody sd_Code_layers,defScope sd_Code_layers,[],[]⟩
abbrev sd_Code_layers_of:Stmt:=inClass (topS 23) 17
def d_Code_layers_of:He.DefD:=⟨("Code",some "layers_of"),"layers_of","Code.layers_of",defArgs sd_Code_layers_of,defBody sd_Code_layers_of,defScope sd_Code_layers_of,[],[]⟩
abbrev sd_comes_first:Stmt:=topS 27
def d_comes_first:He.DefD:=⟨("comes_first",none),"comes_first","comes_first",defArgs sd_comes_first,defBody sd_comes_first,defScope sd_comes_first,[],[]⟩
abbrev sd_keep_first:Stmt:=topS 28
def d_keep_first:He.DefD:=⟨("keep_first",none),"keep_first","keep_first",defArgs sd_keep_first,defBody sd_keep_first,defScope sd_keep_first,[],[]⟩
abbrev sd_first_shortest:Stmt:=topS 29
def d_first_shortest:He.DefD:=⟨("first_shortest",none),"first_shortest","first_shortest",defArgs sd_first_shortest,defBody sd_first_shortest,defScope sd_first_shortest,[],[]⟩
abbrev sd_left_by_leaf:Stmt:=topS 30
def d_left_by_leaf:He.DefD:=⟨("left_by_leaf",none),"left_by_leaf","left_by_leaf",defArgs sd_left_by_leaf,defBody sd_left_by_leaf,defScope sd_left_by_leaf,[],[]⟩
abbrev sd_left_by_if:Stmt:=topS 31
def d_left_by_if:He.DefD:=⟨("left_by_if",none),"left_by_if","left_by_if",defArgs sd_left_by_if,defBody sd_left_by_if,defScope sd_left_by_if,[],[]⟩
abbrev sd_left_by_while:Stmt:=topS 32
def d_left_by_while:He.DefD:=⟨("left_by_while",none),"left_by_while","left_by_while",defArgs sd_left_by_while,defBody sd_left_by_while,defScope sd_left_by_while,[],[]⟩
abbrev sd_left_by_seq:Stmt:=topS 33
def d_left_by_seq:He.DefD:=⟨("left_by_seq",none),"left_by_seq","left_by_seq",defArgs sd_left_by_seq,defBody sd_left_by_seq,defScope sd_left_by_seq,[],[]⟩
abbrev sd_left_by_try:Stmt:=topS 34
def d_left_by_try:He.DefD:=⟨("left_by_try",none),"left_by_try","left_by_try",defArgs sd_left_by_try,defBody sd_left_by_try,defScope sd_left_by_try,[],[]⟩
abbrev sd_left_by_final:Stmt:=topS 35
def d_left_by_final:He.DefD:=⟨("left_by_final",none),"left_by_final","left_by_final",defArgs sd_left_by_final,defBody sd_left_by_final,defScope sd_left_by_final,[],[]⟩
abbrev sd_shortest_answers:Stmt:=topS 36
def d_shortest_answers:He.DefD:=⟨("shortest_answers",none),"shortest_answers","shortest_answers",defArgs sd_shortest_answers,defBody sd_shortest_answers,defScope sd_shortest_answers,[],[]⟩
abbrev sd_begin_parts:Stmt:=topS 37
def d_begin_parts:He.DefD:=⟨("begin_parts",none),"begin_parts","begin_parts",defArgs sd_begin_parts,defBody sd_begin_parts,defScope sd_begin_parts,[],[]⟩
abbrev sd_begin_answers:Stmt:=topS 38
def d_begin_answers:He.DefD:=⟨("begin_answers",none),"begin_answers","begin_answers",defArgs sd_begin_answers,defBody sd_begin_answers,defScope sd_begin_answers,[],[]⟩
abbrev sd_all_place_answers:Stmt:=topS 39
def d_all_place_answers:He.DefD:=⟨("all_place_answers",none),"all_place_answers","all_place_answers",defArgs sd_all_place_answers,defBody sd_all_place_answers,defScope sd_all_place_answers,[],[]⟩
abbrev sd_reached:Stmt:=topS 40
def d_reached:He.DefD:=⟨("reached",none),"reached","reached",defArgs sd_reached,defBody sd_reached,defScope sd_reached,[],[]⟩
abbrev sd_dead:Stmt:=topS 41
def d_dead:He.DefD:=⟨("dead",none),"dead","dead",defArgs sd_dead,defBody sd_dead,defScope sd_dead,[],[]⟩
abbrev sd_Run___init__:Stmt:=inClass (topS 47) 0
def d_Run___init__:He.DefD:=⟨("Run",some "__init__"),"__init__","Run.__init__",defArgs sd_Run___init__,defBody sd_Run___init__,defScope sd_Run___init__,[],[]⟩
abbrev sd_Run___eq__:Stmt:=inClass (topS 47) 1
def d_Run___eq__:He.DefD:=⟨("Run",some "__eq__"),"__eq__","Run.__eq__",defArgs sd_Run___eq__,defBody sd_Run___eq__,defScope sd_Run___eq__,[],[]⟩
abbrev sd_Run_facts:Stmt:=inClass (topS 47) 2
def d_Run_facts:He.DefD:=⟨("Run",some "facts"),"facts","Run.facts",defArgs sd_Run_facts,defBody sd_Run_facts,defScope sd_Run_facts,[],[]⟩
abbrev sd_way_of:Stmt:=topS 48
def d_way_of:He.DefD:=⟨("way_of",none),"way_of","way_of",defArgs sd_way_of,defBody sd_way_of,defScope sd_way_of,[],[]⟩
abbrev sd_Walker___init__:Stmt:=inClass (topS 49) 0
def d_Walker___init__:He.DefD:=⟨("Walker",some "__init__"),"__init__","Walker.__init__",defArgs sd_Walker___init__,defBody sd_Walker___init__,defScope sd_Walker___init__,[],[]⟩
abbrev sd_Walker_is_waiting:Stmt:=inClass (topS 49) 1
def d_Walker_is_waiting:He.DefD:=⟨("Walker",some "is_waiting"),"is_waiting","Walker.is_waiting",defArgs sd_Walker_is_waiting,defBody sd_Walker_is_waiting,defScope sd_Walker_is_waiting,[],[]⟩
abbrev sd_Walker_leave:Stmt:=inClass (topS 49) 2
def d_Walker_leave:He.DefD:=⟨("Walker",some "leave"),"leave","Walker.leave",defArgs sd_Walker_leave,defBody sd_Walker_leave,defScope sd_Walker_leave,[],[]⟩
abbrev sd_Walker_do_place:Stmt:=inClass (topS 49) 3
def d_Walker_do_place:He.DefD:=⟨("Walker",some "do_place"),"do_place","Walker.do_place",defArgs sd_Walker_do_place,defBody sd_Walker_do_place,defScope sd_Walker_do_place,[],[]⟩
abbrev sd_Walker_go_on:Stmt:=inClass (topS 49) 4
def d_Walker_go_on:He.DefD:=⟨("Walker",some "go_on"),"go_on","Walker.go_on",defArgs sd_Walker_go_on,defBody sd_Walker_go_on,defScope sd_Walker_go_on,[],[]⟩
abbrev sd_Walker_answer:Stmt:=inClass (topS 49) 5
def d_Walker_answer:He.DefD:=⟨("Walker",some "answer"),"answer","Walker.answer",defArgs sd_Walker_answer,defBody sd_Walker_answer,defScope sd_Walker_answer,[],[]⟩
abbrev sd_Walker_moment:Stmt:=inClass (topS 49) 6
def d_Walker_moment:He.DefD:=⟨("Walker",some "moment"),"moment","Walker.moment",defArgs sd_Walker_moment,defBody sd_Walker_moment,defScope sd_Walker_moment,[],[]⟩
abbrev sd_check_answers:Stmt:=topS 50
def d_check_answers:He.DefD:=⟨("check_answers",none),"check_answers","check_answers",defArgs sd_check_answers,defBody sd_check_answers,defScope sd_check_answers,[],[]⟩
abbrev sd_run:Stmt:=topS 51
def d_run:He.DefD:=⟨("run",none),"run","run",defArgs sd_run,defBody sd_run,defScope sd_run,[],[]⟩
abbrev sd_rebuilt:Stmt:=topS 53
def d_rebuilt:He.DefD:=⟨("rebuilt",none),"rebuilt","rebuilt",defArgs sd_rebuilt,defBody sd_rebuilt,defScope sd_rebuilt,[],[]⟩
abbrev sd_without_dead:Stmt:=topS 54
def d_without_dead:He.DefD:=⟨("without_dead",none),"without_dead","without_dead",defArgs sd_without_dead,defBody sd_without_dead,defScope sd_without_dead,[],[]⟩
abbrev sd_law_cell_at:Stmt:=topS 56
def d_law_cell_at:He.DefD:=⟨("_law_cell_at",none),"_law_cell_at","_law_cell_at",defArgs sd_law_cell_at,defBody sd_law_cell_at,defScope sd_law_cell_at,[],[]⟩
abbrev sd_law_source_of:Stmt:=topS 57
def d_law_source_of:He.DefD:=⟨("_law_source_of",none),"_law_source_of","_law_source_of",defArgs sd_law_source_of,defBody sd_law_source_of,defScope sd_law_source_of,[],[]⟩
abbrev sd_law_draw:Stmt:=topS 58
def d_law_draw:He.DefD:=⟨("_law_draw",none),"_law_draw","_law_draw",defArgs sd_law_draw,defBody sd_law_draw,defScope sd_law_draw,[],[]⟩
abbrev sd_law_one:Stmt:=topS 59
def d_law_one:He.DefD:=⟨("_law_one",none),"_law_one","_law_one",defArgs sd_law_one,defBody sd_law_one,defScope sd_law_one,[],[]⟩
abbrev sd_law_leaf:Stmt:=topS 60
def d_law_leaf:He.DefD:=⟨("_law_leaf",none),"_law_leaf","_law_leaf",defArgs sd_law_leaf,defBody sd_law_leaf,defScope sd_law_leaf,[],[]⟩
abbrev sd_law_statement:Stmt:=topS 61
def d_law_statement:He.DefD:=⟨("_law_statement",none),"_law_statement","_law_statement",defArgs sd_law_statement,defBody sd_law_statement,defScope sd_law_statement,[],[]⟩
abbrev sd_law_answers:Stmt:=topS 62
def d_law_answers:He.DefD:=⟨("_law_answers",none),"_law_answers","_law_answers",defArgs sd_law_answers,defBody sd_law_answers,defScope sd_law_answers,[],[]⟩
abbrev sd_law_look:Stmt:=topS 63
def d_law_look:He.DefD:=⟨("_law_look",none),"_law_look","_law_look",defArgs sd_law_look,defBody sd_law_look,defScope sd_law_look,[],[]⟩
abbrev sd_law_rebuilt:Stmt:=topS 64
def d_law_rebuilt:He.DefD:=⟨("_law_rebuilt",none),"_law_rebuilt","_law_rebuilt",defArgs sd_law_rebuilt,defBody sd_law_rebuilt,defScope sd_law_rebuilt,[],[]⟩
abbrev sd_law_cut:Stmt:=topS 65
def d_law_cut:He.DefD:=⟨("_law_cut",none),"_law_cut","_law_cut",defArgs sd_law_cut,defBody sd_law_cut,defScope sd_law_cut,[],[]⟩
abbrev sd_law_wide:Stmt:=topS 66
def d_law_wide:He.DefD:=⟨("_law_wide",none),"_law_wide","_law_wide",defArgs sd_law_wide,defBody sd_law_wide,defScope sd_law_wide,[],[]⟩
abbrev sd_law_right:Stmt:=topS 67
def d_law_right:He.DefD:=⟨("_law_right",none),"_law_right","_law_right",defArgs sd_law_right,defBody sd_law_right,defScope sd_law_right,[],[]⟩
abbrev sd_law:Stmt:=topS 68
def d_law:He.DefD:=⟨("law",none),"law","law",defArgs sd_law,defBody sd_law,defScope sd_law,[],[]⟩
def fnL0:List He.DefD:=[d_wall,d_InvalidCode___init__,d_InvalidNumber___init__,d_InvalidAnswers___init__,d_LimitExceeded___init__,d_is_integer,d_is_between,d_is_name,d_is_statement,d_parts_in,d_Code___init__,d_Code_check,d_Code_keep,d_Code___eq__,d_Code___len__,d_Code___getitem__,d_Code___iter__,d_Code_check_number,d_Code_is_place,d_Code_check_place,d_Code_kind,d_Code_parent,d_Code_parts,d_Code_places,d_Code_entry,d_Code_entry_of,d_Code_layers,d_Code_layers_of,d_comes_first,d_keep_first]
def fnL1:List He.DefD:=[d_first_shortest,d_left_by_leaf,d_left_by_if,d_left_by_while,d_left_by_seq,d_left_by_try,d_left_by_final,d_shortest_answers,d_begin_parts,d_begin_answers,d_all_place_answers,d_reached,d_dead,d_Run___init__,d_Run___eq__,d_Run_facts,d_way_of,d_Walker___init__,d_Walker_is_waiting,d_Walker_leave,d_Walker_do_place,d_Walker_go_on,d_Walker_answer,d_Walker_moment,d_check_answers,d_run,d_rebuilt,d_without_dead,d_law_cell_at,d_law_source_of]
def fnL2:List He.DefD:=[d_law_draw,d_law_one,d_law_leaf,d_law_statement,d_law_answers,d_law_look,d_law_rebuilt,d_law_cut,d_law_wide,d_law_right,d_law]
def fnL:List He.DefD:=fnL0++fnL1++fnL2
def faL0:List He.Fa:=[.glo "_wall",.glo "CopyError",.glo "InvalidCode",.glo "InvalidNumber",.glo "InvalidAnswers",.glo "LimitExceeded",.glo "is_integer",.glo "is_between",.glo "SIZES",.glo "NAMED",.glo "JUMPS",.glo "ASKING",.glo "is_name",.glo "is_statement",.glo "parts_in",.glo "Code",.glo "NORMAL_ways",.glo "RAISE_ways",.glo "comes_first",.glo "keep_first",.glo "first_shortest",.glo "left_by_leaf",.glo "left_by_if",.glo "left_by_while",.glo "left_by_seq",.glo "left_by_try",.glo "left_by_final",.glo "shortest_answers",.glo "begin_parts",.glo "begin_answers"]
def faL1:List He.Fa:=[.glo "all_place_answers",.glo "reached",.glo "dead",.glo "NORMAL_runs",.glo "RAISE_runs",.glo "ENDS",.glo "Run",.glo "way_of",.glo "Walker",.glo "check_answers",.glo "run",.glo "rebuilt",.glo "without_dead",.glo "_law_cell_at",.glo "_law_source_of",.glo "_law_draw",.glo "_law_one",.glo "_law_leaf",.glo "_law_statement",.glo "_law_answers",.glo "_law_look",.glo "_law_rebuilt",.glo "_law_cut",.glo "_law_wide",.glo "_law_right",.glo "law",.free "ArithmeticError",.free "TypeError",.free "all",.free "bool"]
def faL2:List He.Fa:=[.free "enumerate",.free "int",.free "isinstance",.free "len",.free "list",.free "range",.free "reversed",.free "sorted",.free "str",.free "tuple",.int "MOST_STATEMENTS" 400,.int "MOST_DEEP" 100,.int "MOST_BLOCKS" 25,.int "MOST_LETTERS" 8,.str "LETTERS" "abcdefghijklmnopqrstuvwxyz",.int "MOST_ANSWERS" 1000,.cls "Code",.mkr "Code",.noat "Code" "children",.noat "Code" "kinds",.noat "Code" "labels",.noat "Code" "parents",.noat "Code" "statements",.meth "Code" "check",.meth "Code" "keep",.meth "Code" "__eq__",.meth "Code" "__len__",.meth "Code" "__getitem__",.meth "Code" "__iter__",.meth "Code" "check_number"]
def faL3:List He.Fa:=[.meth "Code" "is_place",.meth "Code" "check_place",.meth "Code" "kind",.meth "Code" "parent",.meth "Code" "parts",.meth "Code" "places",.meth "Code" "entry",.meth "Code" "entry_of",.meth "Code" "layers",.meth "Code" "layers_of",.cls "Run",.mkr "Run",.noat "Run" "end",.noat "Run" "used",.noat "Run" "visited",.meth "Run" "__eq__",.meth "Run" "facts",.cls "Walker",.mkr "Walker",.noat "Walker" "end",.noat "Walker" "pendings",.noat "Walker" "source",.noat "Walker" "spot",.meth "Walker" "is_waiting",.meth "Walker" "leave",.meth "Walker" "do_place",.meth "Walker" "go_on",.meth "Walker" "answer",.meth "Walker" "moment"]
def faL:List He.Fa:=faL0++faL1++faL2++faL3
def tabL:List He.Tab:=[(fun K=>He.ga K "SIZES",["do","call","if","while","seq","break","continue","return","raise","try","final"]),(fun K=>He.ga K "ENDS",["normal","return","raise"])]
def tfL:List He.Defn:=[]
def xN:List PySem.Str:=["CopyError","InvalidCode","InvalidNumber","InvalidAnswers","LimitExceeded"]
def exB (K:PySem.W.Frag):Bool:=(He.tupB K "NAMED" [.str "do",.str "call",.str "if",.str "while"]) && (He.tupB K "JUMPS" [.str "break",.str "continue"]) && (He.tupB K "ASKING" [.str "call",.str "if",.str "while"]) && (He.tupB K "NORMAL_ways" [.str "normal"]) && (He.tupB K "RAISE_ways" [.str "raise"]) && (He.tupB K "NORMAL_runs" [.str "normal"]) && (He.tupB K "RAISE_runs" [.str "raise"]) && (He.valsB K (He.ga K "SIZES") [("do",.int 2),("call",.int 2),("if",.int 4),("while",.int 3),("seq",.int 2),("break",.int 2),("continue",.int 2),("return",.int 1),("raise",.int 1),("try",.int 3),("final",.int 3)]) && (He.valsB K (He.ga K "ENDS") [("normal",.str "end"),("return",.str "return"),("raise",.str "raise")]) && (FcX.xcB K (He.ga K "CopyError") && PySem.W.excIn K (He.ga K "CopyError") FcX.aeT "ArithmeticError.__new__") && (FcX.xcB K (He.ga K "InvalidCode") && FcX.xiB K (He.ga K "InvalidCode") (He.fAd K ("InvalidCode",some "__init__")) "number") && (FcX.xcB K (He.ga K "InvalidNumber") && FcX.xiB K (He.ga K "InvalidNumber") (He.fAd K ("InvalidNumber",some "__init__")) "number") && (FcX.xcB K (He.ga K "InvalidAnswers") && FcX.xiB K (He.ga K "InvalidAnswers") (He.fAd K ("InvalidAnswers",some "__init__")) "at") && (FcX.xcB K (He.ga K "LimitExceeded") && FcX.xiB K (He.ga K "LimitExceeded") (He.fAd K ("LimitExceeded",some "__init__")) "limit") && (FcX.xkB K xN) && (FcO.eqB K (He.ga K "Code")) && (FcO.eqB K (He.ga K "Run")) && (FcX.xhB K xN)
def looseL0:List PySem.Str:=["_wall","CopyError","InvalidCode","InvalidNumber","InvalidAnswers","LimitExceeded","is_integer","is_between","SIZES","NAMED","JUMPS","ASKING","is_name","is_statement","parts_in","Code","NORMAL_ways","RAISE_ways","comes_first","keep_first","first_shortest","left_by_leaf","left_by_if","left_by_while","left_by_seq","left_by_try","left_by_final","shortest_answers","begin_parts","begin_answers"]
def looseL1:List PySem.Str:=["all_place_answers","reached","dead","NORMAL_runs","RAISE_runs","ENDS","Run","way_of","Walker","check_answers","run","rebuilt","without_dead","_law_cell_at","_law_source_of","_law_draw","_law_one","_law_leaf","_law_statement","_law_answers","_law_look","_law_rebuilt","_law_cut","_law_wide","_law_right","MOST_STATEMENTS","MOST_DEEP","MOST_BLOCKS","MOST_LETTERS","LETTERS"]
def looseL2:List PySem.Str:=["MOST_ANSWERS"]
def looseL:List PySem.Str:=looseL0++looseL1++looseL2
abbrev R:PySem.W.OpenRow:=PySem.W.OpenLaw.row PySem.Challenge.rw_finallycopies_k67_dead_parts_left_out
abbrev hk:PySem.W.Hook:=He.hookX 4 faL fnL tabL tfL exB
def ob (s:PySem.W.SharedT):He.AlX:=He.obsX 4 faL fnL tabL tfL exB (HandSHeadRun.getT s)
theorem ob_eq (s:PySem.W.SharedT):ob s=hk.obs s.abs:=He.obsX_eq (HandSHeadRun.getT_eq s)
theorem map3 {α β γ δ:Type} {o:Option α} {f:α→β} {g:α→γ} {h:α→δ} {a:β} {b:γ} {c:δ} (h1:o.map f=some a) (h2:o.map g=some b) (h3:o.map h=some c):o.map (fun s=>(f s,g s,h s))=some (a,b,c):=by
 cases o with
 | none=>cases h1
 | some x=>cases h1;cases h2;cases h3;rfl
theorem mapP {α β γ:Type} {o:Option α} {h:α→β×γ} {c:β×γ} (h1:o.map (fun s=>(h s).1)=some c.1) (h2:o.map (fun s=>(h s).2)=some c.2):o.map h=some c:=by
 cases o with
 | none=>cases h1
 | some x =>
  have e1:(h x).1=c.1:=Option.some.inj h1
  have e2:(h x).2=c.2:=Option.some.inj h2
  show some (h x)=some c
  rw [← Prod.eta (h x),← Prod.eta c,e1,e2]
theorem mapB {α:Type} {o:Option α} {f g:α→Bool} (h1:o.map f=some true) (h2:o.map g=some true):o.map (fun s=>f s && g s)=some true:=by
 cases o with
 | none=>cases h1
 | some x =>
  have e1:f x=true:=Option.some.inj h1
  have e2:g x=true:=Option.some.inj h2
  show some (f x && g x)=some true
  rw [e1,e2]<;>rfl
theorem mapA {α β:Type} {o:Option α} {l:List β} {p:α→β→Bool} (n:Nat) (h1:o.map (fun s=>(l.take n).all (p s))=some true) (h2:o.map (fun s=>(l.drop n).all (p s))=some true):o.map (fun s=>l.all (p s))=some true:=by
 cases o with
 | none=>cases h1
 | some x =>
  have e1:(l.take n).all (p x)=true:=Option.some.inj h1
  have e2:(l.drop n).all (p x)=true:=Option.some.inj h2
  show some (l.all (p x))=some true
  rw [← List.take_append_drop n l,List.all_append,e1,e2]<;>rfl
theorem mapF {α β γ:Type} {o:Option α} {f:α→β} {g:α→γ} {a:β} {b:γ} (h:o.map (fun s=>(f s,g s))=some (a,b)):o.map f=some a:=by
 cases o with
 | none=>cases h
 | some x=>cases h;rfl
theorem mapS {α β γ:Type} {o:Option α} {f:α→β} {g:α→γ} {a:β} {b:γ} (h:o.map (fun s=>(f s,g s))=some (a,b)):o.map g=some b:=by
 cases o with
 | none=>cases h
 | some x=>cases h;rfl
theorem runF_a (w:World) (os:PySem.OsState):(HandSHeadRun.endF (HandSHeadRun.stepQ (HandSHeadRun.denQ HandSHeadRun.tabQ) R.prog (w.withFollow "special-get-raises" false)) 20000 R.prog (w.withFollow "special-get-raises" false) os).map (fun s=>HandSHeadRun.looksF R.prog (PySem.W.boot_heap (w.withFollow "special-get-raises" false).params) s.abs)=some true:=by kernel_rfl
theorem runF_b (w:World) (os:PySem.OsState):(HandSHeadRun.endF (HandSHeadRun.stepQ (HandSHeadRun.denQ HandSHeadRun.tabQ) R.prog (w.withFollow "special-get-raises" false)) 20000 R.prog (w.withFollow "special-get-raises" false) os).map (fun s=>HandSHeadRun.seenQ (PySem.W.view R.prog [68]) looseL (PySem.importedModules R.prog.main.body) (fun s=>PySem.W.xlAt (PySem.W.view R.prog [68]) [] s && PySem.W.recOk R.toRowW.records s) s.abs)=some (PySem.W.openGood (PySem.W.view R.prog [68]) looseL):=by kernel_rfl
theorem runF_c1 (w:World) (os:PySem.OsState):(HandSHeadRun.endF (HandSHeadRun.stepQ (HandSHeadRun.denQ HandSHeadRun.tabQ) R.prog (w.withFollow "special-get-raises" false)) 20000 R.prog (w.withFollow "special-get-raises" false) os).map (fun s=>faL.all fun f=>f.ok (He.frT (HandSHeadRun.getT s) (He.asD (HandSHeadRun.getT s) 4)))=some true:=by kernel_rfl
theorem runF_c2a (w:World) (os:PySem.OsState):(HandSHeadRun.endF (HandSHeadRun.stepQ (HandSHeadRun.denQ HandSHeadRun.tabQ) R.prog (w.withFollow "special-get-raises" false)) 20000 R.prog (w.withFollow "special-get-raises" false) os).map (fun s=>(fnL.take (fnL.length / 2)).all fun d=>d.ok (He.frT (HandSHeadRun.getT s) (He.asD (HandSHeadRun.getT s) 4)))=some true:=by kernel_rfl
theorem runF_c2b (w:World) (os:PySem.OsState):(HandSHeadRun.endF (HandSHeadRun.stepQ (HandSHeadRun.denQ HandSHeadRun.tabQ) R.prog (w.withFollow "special-get-raises" false)) 20000 R.prog (w.withFollow "special-get-raises" false) os).map (fun s=>(fnL.drop (fnL.length / 2)).all fun d=>d.ok (He.frT (HandSHeadRun.getT s) (He.asD (HandSHeadRun.getT s) 4)))=some true:=by kernel_rfl
theorem runF_c2 (w:World) (os:PySem.OsState):(HandSHeadRun.endF (HandSHeadRun.stepQ (HandSHeadRun.denQ HandSHeadRun.tabQ) R.prog (w.withFollow "special-get-raises" false)) 20000 R.prog (w.withFollow "special-get-raises" false) os).map (fun s=>fnL.all fun d=>d.ok (He.frT (HandSHeadRun.getT s) (He.asD (HandSHeadRun.getT s) 4)))=some true:=mapA (p:=fun s (d:He.DefD)=>d.ok (He.frT (HandSHeadRun.getT s) (He.asD (HandSHeadRun.getT s) 4))) (fnL.length / 2) (runF_c2a w os) (runF_c2b w os)
theorem runF_c34 (w:World) (os:PySem.OsState):(HandSHeadRun.endF (HandSHeadRun.stepQ (HandSHeadRun.denQ HandSHeadRun.tabQ) R.prog (w.withFollow "special-get-raises" false)) 20000 R.prog (w.withFollow "special-get-raises" false) os).map (fun s=>(fnL.map fun d=>He.fnW (He.frT (HandSHeadRun.getT s) (He.asD (HandSHeadRun.getT s) 4)) d.at_,tabL.map fun t=>He.dicW (He.frT (HandSHeadRun.getT s) (He.asD (HandSHeadRun.getT s) 4)) (t.1 (He.frT (HandSHeadRun.getT s) (He.asD (HandSHeadRun.getT s) 4)))))=some (fnL.map He.DefD.val,tabL.map fun t=>some (He.keysIn (w.withFollow "special-get-raises" false).params t.2)):=by kernel_rfl
theorem runF_c3 (w:World) (os:PySem.OsState):(HandSHeadRun.endF (HandSHeadRun.stepQ (HandSHeadRun.denQ HandSHeadRun.tabQ) R.prog (w.withFollow "special-get-raises" false)) 20000 R.prog (w.withFollow "special-get-raises" false) os).map (fun s=>fnL.map fun d=>He.fnW (He.frT (HandSHeadRun.getT s) (He.asD (HandSHeadRun.getT s) 4)) d.at_)=some (fnL.map He.DefD.val):=mapF (runF_c34 w os)
theorem runF_c4 (w:World) (os:PySem.OsState):(HandSHeadRun.endF (HandSHeadRun.stepQ (HandSHeadRun.denQ HandSHeadRun.tabQ) R.prog (w.withFollow "special-get-raises" false)) 20000 R.prog (w.withFollow "special-get-raises" false) os).map (fun s=>tabL.map fun t=>He.dicW (He.frT (HandSHeadRun.getT s) (He.asD (HandSHeadRun.getT s) 4)) (t.1 (He.frT (HandSHeadRun.getT s) (He.asD (HandSHeadRun.getT s) 4))))=some (tabL.map fun t=>some (He.keysIn (w.withFollow "special-get-raises" false).params t.2)):=mapS (runF_c34 w os)
theorem runF_c (w:World) (os:PySem.OsState):(HandSHeadRun.endF (HandSHeadRun.stepQ (HandSHeadRun.denQ HandSHeadRun.tabQ) R.prog (w.withFollow "special-get-raises" false)) 20000 R.prog (w.withFollow "special-get-raises" false) os).map (fun s=>(ob s).1)=some (hk.val (w.withFollow "special-get-raises" false)).1:=mapP (h:=fun s=>(ob s).1) (c:=(hk.val (w.withFollow "special-get-raises" false)).1) (mapP (h:=fun s=>(ob s).1.1) (c:=(hk.val (w.withFollow "special-get-raises" false)).1.1) (mapB (runF_c1 w os) (runF_c2 w os)) (runF_c3 w os)) (runF_c4 w os)
theorem runF_d (w:World) (os:PySem.OsState):(HandSHeadRun.endF (HandSHeadRun.stepQ (HandSHeadRun.denQ HandSHeadRun.tabQ) R.prog (w.withFollow "special-get-raises" false)) 20000 R.prog (w.withFollow "special-get-raises" false) os).map (fun s=>(ob s).2)=some (hk.val (w.withFollow "special-get-raises" false)).2:=by kernel_rfl
theorem runF (w:World):HandSHeadRun.RunEq R (PySem.W.view R.prog [68]) hk ob 20000 looseL (w.withFollow "special-get-raises" false):=fun os=>map3 (runF_a w os) (runF_b w os) (mapP (h:=ob) (runF_c w os) (runF_d w os))
theorem runT_a (w:World) (os:PySem.OsState):(HandSHeadRun.endF (HandSHeadRun.stepQ (HandSHeadRun.denQ HandSHeadRun.tabQ) R.prog (w.withFollow "special-get-raises" true)) 20000 R.prog (w.withFollow "special-get-raises" true) os).map (fun s=>HandSHeadRun.looksF R.prog (PySem.W.boot_heap (w.withFollow "special-get-raises" true).params) s.abs)=some true:=by kernel_rfl
theorem runT_b (w:World) (os:PySem.OsState):(HandSHeadRun.endF (HandSHeadRun.stepQ (HandSHeadRun.denQ HandSHeadRun.tabQ) R.prog (w.withFollow "special-get-raises" true)) 20000 R.prog (w.withFollow "special-get-raises" true) os).map (fun s=>HandSHeadRun.seenQ (PySem.W.view R.prog [68]) looseL (PySem.importedModules R.prog.main.body) (fun s=>PySem.W.xlAt (PySem.W.view R.prog [68]) [] s && PySem.W.recOk R.toRowW.records s) s.abs)=some (PySem.W.openGood (PySem.W.view R.prog [68]) looseL):=by kernel_rfl
theorem runT_c1 (w:World) (os:PySem.OsState):(HandSHeadRun.endF (HandSHeadRun.stepQ (HandSHeadRun.denQ HandSHeadRun.tabQ) R.prog (w.withFollow "special-get-raises" true)) 20000 R.prog (w.withFollow "special-get-raises" true) os).map (fun s=>faL.all fun f=>f.ok (He.frT (HandSHeadRun.getT s) (He.asD (HandSHeadRun.getT s) 4)))=some true:=by kernel_rfl
theorem runT_c2a (w:World) (os:PySem.OsState):(HandSHeadRun.endF (HandSHeadRun.stepQ (HandSHeadRun.denQ HandSHeadRun.tabQ) R.prog (w.withFollow "special-get-raises" true)) 20000 R.prog (w.withFollow "special-get-raises" true) os).map (fun s=>(fnL.take (fnL.length / 2)).all fun d=>d.ok (He.frT (HandSHeadRun.getT s) (He.asD (HandSHeadRun.getT s) 4)))=some true:=by kernel_rfl
theorem runT_c2b (w:World) (os:PySem.OsState):(HandSHeadRun.endF (HandSHeadRun.stepQ (HandSHeadRun.denQ HandSHeadRun.tabQ) R.prog (w.withFollow "special-get-raises" true)) 20000 R.prog (w.withFollow "special-get-raises" true) os).map (fun s=>(fnL.drop (fnL.length / 2)).all fun d=>d.ok (He.frT (HandSHeadRun.getT s) (He.asD (HandSHeadRun.getT s) 4)))=some true:=by kernel_rfl
theorem runT_c2 (w:World) (os:PySem.OsState):(HandSHeadRun.endF (HandSHeadRun.stepQ (HandSHeadRun.denQ HandSHeadRun.tabQ) R.prog (w.withFollow "special-get-raises" true)) 20000 R.prog (w.withFollow "special-get-raises" true) os).map (fun s=>fnL.all fun d=>d.ok (He.frT (HandSHeadRun.getT s) (He.asD (HandSHeadRun.getT s) 4)))=some true:=mapA (p:=fun s (d:He.DefD)=>d.ok (He.frT (HandSHeadRun.getT s) (He.asD (HandSHeadRun.getT s) 4))) (fnL.length / 2) (runT_c2a w os) (runT_c2b w os)
theorem runT_c34 (w:World) (os:PySem.OsState):(HandSHeadRun.endF (HandSHeadRun.stepQ (HandSHeadRun.denQ HandSHeadRun.tabQ) R.prog (w.withFollow "special-get-raises" true)) 20000 R.prog (w.withFollow "special-get-raises" true) os).map (fun s=>(fnL.map fun d=>He.fnW (He.frT (HandSHeadRun.getT s) (He.asD (HandSHeadRun.getT s) 4)) d.at_,tabL.map fun t=>He.dicW (He.frT (HandSHeadRun.getT s) (He.asD (HandSHeadRun.getT s) 4)) (t.1 (He.frT (HandSHeadRun.getT s) (He.asD (HandSHeadRun.getT s) 4)))))=some (fnL.map He.DefD.val,tabL.map fun t=>some (He.keysIn (w.withFollow "special-get-raises" true).params t.2)):=by kernel_rfl
theorem runT_c3 (w:World) (os:PySem.OsState):(HandSHeadRun.endF (HandSHeadRun.stepQ (HandSHeadRun.denQ HandSHeadRun.tabQ) R.prog (w.withFollow "special-get-raises" true)) 20000 R.prog (w.withFollow "special-get-raises" true) os).map (fun s=>fnL.map fun d=>He.fnW (He.frT (HandSHeadRun.getT s) (He.asD (HandSHeadRun.getT s) 4)) d.at_)=some (fnL.map He.DefD.val):=mapF (runT_c34 w os)
theorem runT_c4 (w:World) (os:PySem.OsState):(HandSHeadRun.endF (HandSHeadRun.stepQ (HandSHeadRun.denQ HandSHeadRun.tabQ) R.prog (w.withFollow "special-get-raises" true)) 20000 R.prog (w.withFollow "special-get-raises" true) os).map (fun s=>tabL.map fun t=>He.dicW (He.frT (HandSHeadRun.getT s) (He.asD (HandSHeadRun.getT s) 4)) (t.1 (He.frT (HandSHeadRun.getT s) (He.asD (HandSHeadRun.getT s) 4))))=some (tabL.map fun t=>some (He.keysIn (w.withFollow "special-get-raises" true).params t.2)):=mapS (runT_c34 w os)
theorem runT_c (w:World) (os:PySem.OsState):(HandSHeadRun.endF (HandSHeadRun.stepQ (HandSHeadRun.denQ HandSHeadRun.tabQ) R.prog (w.withFollow "special-get-raises" true)) 20000 R.prog (w.withFollow "special-get-raises" true) os).map (fun s=>(ob s).1)=some (hk.val (w.withFollow "special-get-raises" true)).1:=mapP (h:=fun s=>(ob s).1) (c:=(hk.val (w.withFollow "special-get-raises" true)).1) (mapP (h:=fun s=>(ob s).1.1) (c:=(hk.val (w.withFollow "special-get-raises" true)).1.1) (mapB (runT_c1 w os) (runT_c2 w os)) (runT_c3 w os)) (runT_c4 w os)
theorem runT_d (w:World) (os:PySem.OsState):(HandSHeadRun.endF (HandSHeadRun.stepQ (HandSHeadRun.denQ HandSHeadRun.tabQ) R.prog (w.withFollow "special-get-raises" true)) 20000 R.prog (w.withFollow "special-get-raises" true) os).map (fun s=>(ob s).2)=some (hk.val (w.withFollow "special-get-raises" true)).2:=by kernel_rfl
theorem runT (w:World):HandSHeadRun.RunEq R (PySem.W.view R.prog [68]) hk ob 20000 looseL (w.withFollow "special-get-raises" true):=fun os=>map3 (runT_a w os) (runT_b w os) (mapP (h:=ob) (runT_c w os) (runT_d w os))
theorem run (w:World):HandSHeadRun.RunEq R (PySem.W.view R.prog [68]) hk ob 20000 looseL w:=PySem.W.byRow2 "special-get-raises" (P:=fun w=>HandSHeadRun.RunEq R (PySem.W.view R.prog [68]) hk ob 20000 looseL w) runF runT w
structure Tx (w:World) (h:Heap) (K:PySem.W.Frag) (mg:Str→Option Value):Prop where
 X:K.In h
 G:h.Ns mainGlobals mg
 c:He.SaysX faL fnL tabL tfL exB w h K
section
variable {w:World} {h:Heap} {K:PySem.W.Frag} {mg:Str→Option Value}
theorem g_is_integer (T:Tx w h K mg):mg "is_integer"=some (.ref (He.ga K "is_integer")):=He.glo_ok T.X T.G (T.c.t.d.fact 6 rfl)
theorem g_is_between (T:Tx w h K mg):mg "is_between"=some (.ref (He.ga K "is_between")):=He.glo_ok T.X T.G (T.c.t.d.fact 7 rfl)
theorem g_SIZES (T:Tx w h K mg):mg "SIZES"=some (.ref (He.ga K "SIZES")):=He.glo_ok T.X T.G (T.c.t.d.fact 8 rfl)
theorem g_NAMED (T:Tx w h K mg):mg "NAMED"=some (.ref (He.ga K "NAMED")):=He.glo_ok T.X T.G (T.c.t.d.fact 9 rfl)
theorem g_JUMPS (T:Tx w h K mg):mg "JUMPS"=some (.ref (He.ga K "JUMPS")):=He.glo_ok T.X T.G (T.c.t.d.fact 10 rfl)
theorem g_ASKING (T:Tx w h K mg):mg "ASKING"=some (.ref (He.ga K "ASKING")):=He.glo_ok T.X T.G (T.c.t.d.fact 11 rfl)
theorem g_is_name (T:Tx w h K mg):mg "is_name"=some (.ref (He.ga K "is_name")):=He.glo_ok T.X T.G (T.c.t.d.fact 12 rfl)
theorem g_is_statement (T:Tx w h K mg):mg "is_statement"=some (.ref (He.ga K "is_statement")):=He.glo_ok T.X T.G (T.c.t.d.fact 13 rfl)
theorem g_parts_in (T:Tx w h K mg):mg "parts_in"=some (.ref (He.ga K "parts_in")):=He.glo_ok T.X T.G (T.c.t.d.fact 14 rfl)
theorem g_Code (T:Tx w h K mg):mg "Code"=some (.ref (He.ga K "Code")):=He.glo_ok T.X T.G (T.c.t.d.fact 15 rfl)
theorem g_NORMAL_ways (T:Tx w h K mg):mg "NORMAL_ways"=some (.ref (He.ga K "NORMAL_ways")):=He.glo_ok T.X T.G (T.c.t.d.fact 16 rfl)
theorem g_RAISE_ways (T:Tx w h K mg):mg "RAISE_ways"=some (.ref (He.ga K "RAISE_ways")):=He.glo_ok T.X T.G (T.c.t.d.fact 17 rfl)
theorem g_comes_first (T:Tx w h K mg):mg "comes_first"=some (.ref (He.ga K "comes_first")):=He.glo_ok T.X T.G (T.c.t.d.fact 18 rfl)
theorem g_keep_first (T:Tx w h K mg):mg "keep_first"=some (.ref (He.ga K "keep_first")):=He.glo_ok T.X T.G (T.c.t.d.fact 19 rfl)
theorem g_first_shortest (T:Tx w h K mg):mg "first_shortest"=some (.ref (He.ga K "first_shortest")):=He.glo_ok T.X T.G (T.c.t.d.fact 20 rfl)
theorem g_left_by_leaf (T:Tx w h K mg):mg "left_by_leaf"=some (.ref (He.ga K "left_by_leaf")):=He.glo_ok T.X T.G (T.c.t.d.fact 21 rfl)
theorem g_left_by_if (T:Tx w h K mg):mg "left_by_if"=some (.ref (He.ga K "left_by_if")):=He.glo_ok T.X T.G (T.c.t.d.fact 22 rfl)
theorem g_left_by_while (T:Tx w h K mg):mg "left_by_while"=some (.ref (He.ga K "left_by_while")):=He.glo_ok T.X T.G (T.c.t.d.fact 23 rfl)
theorem g_left_by_seq (T:Tx w h K mg):mg "left_by_seq"=some (.ref (He.ga K "left_by_seq")):=He.glo_ok T.X T.G (T.c.t.d.fact 24 rfl)
theorem g_left_by_try (T:Tx w h K mg):mg "left_by_try"=some (.ref (He.ga K "left_by_try")):=He.glo_ok T.X T.G (T.c.t.d.fact 25 rfl)
theorem g_left_by_final (T:Tx w h K mg):mg "left_by_final"=some (.ref (He.ga K "left_by_final")):=He.glo_ok T.X T.G (T.c.t.d.fact 26 rfl)
theorem g_shortest_answers (T:Tx w h K mg):mg "shortest_answers"=some (.ref (He.ga K "shortest_answers")):=He.glo_ok T.X T.G (T.c.t.d.fact 27 rfl)
theorem g_begin_parts (T:Tx w h K mg):mg "begin_parts"=some (.ref (He.ga K "begin_parts")):=He.glo_ok T.X T.G (T.c.t.d.fact 28 rfl)
theorem g_begin_answers (T:Tx w h K mg):mg "begin_answers"=some (.ref (He.ga K "begin_answers")):=He.glo_ok T.X T.G (T.c.t.d.fact 29 rfl)
theorem g_all_place_answers (T:Tx w h K mg):mg "all_place_answers"=some (.ref (He.ga K "all_place_answers")):=He.glo_ok T.X T.G (T.c.t.d.fact 30 rfl)
theorem g_reached (T:Tx w h K mg):mg "reached"=some (.ref (He.ga K "reached")):=He.glo_ok T.X T.G (T.c.t.d.fact 31 rfl)
theorem g_dead (T:Tx w h K mg):mg "dead"=some (.ref (He.ga K "dead")):=He.glo_ok T.X T.G (T.c.t.d.fact 32 rfl)
theorem g_NORMAL_runs (T:Tx w h K mg):mg "NORMAL_runs"=some (.ref (He.ga K "NORMAL_runs")):=He.glo_ok T.X T.G (T.c.t.d.fact 33 rfl)
theorem g_RAISE_runs (T:Tx w h K mg):mg "RAISE_runs"=some (.ref (He.ga K "RAISE_runs")):=He.glo_ok T.X T.G (T.c.t.d.fact 34 rfl)
theorem g_ENDS (T:Tx w h K mg):mg "ENDS"=some (.ref (He.ga K "ENDS")):=He.glo_ok T.X T.G (T.c.t.d.fact 35 rfl)
theorem g_Run (T:Tx w h K mg):mg "Run"=some (.ref (He.ga K "Run")):=He.glo_ok T.X T.G (T.c.t.d.fact 36 rfl)
theorem g_way_of (T:Tx w h K mg):mg "way_of"=some (.ref (He.ga K "way_of")):=He.glo_ok T.X T.G (T.c.t.d.fact 37 rfl)
theorem g_Walker (T:Tx w h K mg):mg "Walker"=some (.ref (He.ga K "Walker")):=He.glo_ok T.X T.G (T.c.t.d.fact 38 rfl)
theorem g_check_answers (T:Tx w h K mg):mg "check_answers"=some (.ref (He.ga K "check_answers")):=He.glo_ok T.X T.G (T.c.t.d.fact 39 rfl)
theorem g_run (T:Tx w h K mg):mg "run"=some (.ref (He.ga K "run")):=He.glo_ok T.X T.G (T.c.t.d.fact 40 rfl)
theorem g_rebuilt (T:Tx w h K mg):mg "rebuilt"=some (.ref (He.ga K "rebuilt")):=He.glo_ok T.X T.G (T.c.t.d.fact 41 rfl)
theorem g_without_dead (T:Tx w h K mg):mg "without_dead"=some (.ref (He.ga K "without_dead")):=He.glo_ok T.X T.G (T.c.t.d.fact 42 rfl)
theorem g_law_cell_at (T:Tx w h K mg):mg "_law_cell_at"=some (.ref (He.ga K "_law_cell_at")):=He.glo_ok T.X T.G (T.c.t.d.fact 43 rfl)
theorem g_law_source_of (T:Tx w h K mg):mg "_law_source_of"=some (.ref (He.ga K "_law_source_of")):=He.glo_ok T.X T.G (T.c.t.d.fact 44 rfl)
theorem g_law_draw (T:Tx w h K mg):mg "_law_draw"=some (.ref (He.ga K "_law_draw")):=He.glo_ok T.X T.G (T.c.t.d.fact 45 rfl)
theorem g_law_one (T:Tx w h K mg):mg "_law_one"=some (.ref (He.ga K "_law_one")):=He.glo_ok T.X T.G (T.c.t.d.fact 46 rfl)
theorem g_law_leaf (T:Tx w h K mg):mg "_law_leaf"=some (.ref (He.ga K "_law_leaf")):=He.glo_ok T.X T.G (T.c.t.d.fact 47 rfl)
theorem g_law_statement (T:Tx w h K mg):mg "_law_statement"=some (.ref (He.ga K "_law_statement")):=He.glo_ok T.X T.G (T.c.t.d.fact 48 rfl)
theorem g_law_answers (T:Tx w h K mg):mg "_law_answers"=some (.ref (He.ga K "_law_answers")):=He.glo_ok T.X T.G (T.c.t.d.fact 49 rfl)
theorem g_law_look (T:Tx w h K mg):mg "_law_look"=some (.ref (He.ga K "_law_look")):=He.glo_ok T.X T.G (T.c.t.d.fact 50 rfl)
theorem g_law_rebuilt (T:Tx w h K mg):mg "_law_rebuilt"=some (.ref (He.ga K "_law_rebuilt")):=He.glo_ok T.X T.G (T.c.t.d.fact 51 rfl)
theorem g_law_cut (T:Tx w h K mg):mg "_law_cut"=some (.ref (He.ga K "_law_cut")):=He.glo_ok T.X T.G (T.c.t.d.fact 52 rfl)
theorem g_law_wide (T:Tx w h K mg):mg "_law_wide"=some (.ref (He.ga K "_law_wide")):=He.glo_ok T.X T.G (T.c.t.d.fact 53 rfl)
theorem g_law_right (T:Tx w h K mg):mg "_law_right"=some (.ref (He.ga K "_law_right")):=He.glo_ok T.X T.G (T.c.t.d.fact 54 rfl)
theorem g_law (T:Tx w h K mg):mg "law"=some (.ref (He.ga K "law")):=He.glo_ok T.X T.G (T.c.t.d.fact 55 rfl)
theorem fr_all (T:Tx w h K mg):mg "all"=none:=He.free_ok T.X T.G (T.c.t.d.fact 58 rfl)
theorem fr_bool (T:Tx w h K mg):mg "bool"=none:=He.free_ok T.X T.G (T.c.t.d.fact 59 rfl)
theorem fr_enumerate (T:Tx w h K mg):mg "enumerate"=none:=He.free_ok T.X T.G (T.c.t.d.fact 60 rfl)
theorem fr_int (T:Tx w h K mg):mg "int"=none:=He.free_ok T.X T.G (T.c.t.d.fact 61 rfl)
theorem fr_isinstance (T:Tx w h K mg):mg "isinstance"=none:=He.free_ok T.X T.G (T.c.t.d.fact 62 rfl)
theorem fr_len (T:Tx w h K mg):mg "len"=none:=He.free_ok T.X T.G (T.c.t.d.fact 63 rfl)
theorem fr_list (T:Tx w h K mg):mg "list"=none:=He.free_ok T.X T.G (T.c.t.d.fact 64 rfl)
theorem fr_range (T:Tx w h K mg):mg "range"=none:=He.free_ok T.X T.G (T.c.t.d.fact 65 rfl)
theorem fr_reversed (T:Tx w h K mg):mg "reversed"=none:=He.free_ok T.X T.G (T.c.t.d.fact 66 rfl)
theorem fr_sorted (T:Tx w h K mg):mg "sorted"=none:=He.free_ok T.X T.G (T.c.t.d.fact 67 rfl)
theorem fr_str (T:Tx w h K mg):mg "str"=none:=He.free_ok T.X T.G (T.c.t.d.fact 68 rfl)
theorem fr_tuple (T:Tx w h K mg):mg "tuple"=none:=He.free_ok T.X T.G (T.c.t.d.fact 69 rfl)
theorem i_MOST_STATEMENTS (T:Tx w h K mg):∃ t,mg "MOST_STATEMENTS"=some (.int 400 t):=He.int_ok T.X T.G (T.c.t.d.fact 70 rfl)
theorem i_MOST_DEEP (T:Tx w h K mg):∃ t,mg "MOST_DEEP"=some (.int 100 t):=He.int_ok T.X T.G (T.c.t.d.fact 71 rfl)
theorem i_MOST_BLOCKS (T:Tx w h K mg):∃ t,mg "MOST_BLOCKS"=some (.int 25 t):=He.int_ok T.X T.G (T.c.t.d.fact 72 rfl)
theorem i_MOST_LETTERS (T:Tx w h K mg):∃ t,mg "MOST_LETTERS"=some (.int 8 t):=He.int_ok T.X T.G (T.c.t.d.fact 73 rfl)
theorem i_LETTERS (T:Tx w h K mg):∃ t,mg "LETTERS"=some (.str "abcdefghijklmnopqrstuvwxyz" t):=He.str_ok T.X T.G (T.c.t.d.fact 74 rfl)
theorem i_MOST_ANSWERS (T:Tx w h K mg):∃ t,mg "MOST_ANSWERS"=some (.int 1000 t):=He.int_ok T.X T.G (T.c.t.d.fact 75 rfl)
theorem c_Code (T:Tx w h K mg):Cls K (He.ga K "Code"):=He.cls_ok (T.c.t.d.fact 76 rfl)
theorem mk_Code (T:Tx w h K mg):Mk K (He.ga K "Code") (He.ma K (He.ga K "Code") "__init__"):=He.mkr_ok (T.c.t.d.fact 77 rfl)
theorem na_Code_children (T:Tx w h K mg):NoAttr K (He.ga K "Code") "children":=He.noat_ok (T.c.t.d.fact 78 rfl)
theorem na_Code_kinds (T:Tx w h K mg):NoAttr K (He.ga K "Code") "kinds":=He.noat_ok (T.c.t.d.fact 79 rfl)
theorem na_Code_labels (T:Tx w h K mg):NoAttr K (He.ga K "Code") "labels":=He.noat_ok (T.c.t.d.fact 80 rfl)
theorem na_Code_parents (T:Tx w h K mg):NoAttr K (He.ga K "Code") "parents":=He.noat_ok (T.c.t.d.fact 81 rfl)
theorem na_Code_statements (T:Tx w h K mg):NoAttr K (He.ga K "Code") "statements":=He.noat_ok (T.c.t.d.fact 82 rfl)
theorem me_Code_check (T:Tx w h K mg):Meth K (He.ga K "Code") "check" (He.ma K (He.ga K "Code") "check"):=He.meth_ok (T.c.t.d.fact 83 rfl)
theorem me_Code_keep (T:Tx w h K mg):Meth K (He.ga K "Code") "keep" (He.ma K (He.ga K "Code") "keep"):=He.meth_ok (T.c.t.d.fact 84 rfl)
theorem me_Code___eq__ (T:Tx w h K mg):Meth K (He.ga K "Code") "__eq__" (He.ma K (He.ga K "Code") "__eq__"):=He.meth_ok (T.c.t.d.fact 85 rfl)
theorem me_Code___len__ (T:Tx w h K mg):Meth K (He.ga K "Code") "__len__" (He.ma K (He.ga K "Code") "__len__"):=He.meth_ok (T.c.t.d.fact 86 rfl)
theorem me_Code___getitem__ (T:Tx w h K mg):Meth K (He.ga K "Code") "__getitem__" (He.ma K (He.ga K "Code") "__getitem__"):=He.meth_ok (T.c.t.d.fact 87 rfl)
theorem me_Code_check_number (T:Tx w h K mg):Meth K (He.ga K "Code") "check_number" (He.ma K (He.ga K "Code") "check_number"):=He.meth_ok (T.c.t.d.fact 89 rfl)
theorem me_Code_is_place (T:Tx w h K mg):Meth K (He.ga K "Code") "is_place" (He.ma K (He.ga K "Code") "is_place"):=He.meth_ok (T.c.t.d.fact 90 rfl)
theorem me_Code_kind (T:Tx w h K mg):Meth K (He.ga K "Code") "kind" (He.ma K (He.ga K "Code") "kind"):=He.meth_ok (T.c.t.d.fact 92 rfl)
theorem me_Code_parts (T:Tx w h K mg):Meth K (He.ga K "Code") "parts" (He.ma K (He.ga K "Code") "parts"):=He.meth_ok (T.c.t.d.fact 94 rfl)
theorem me_Code_places (T:Tx w h K mg):Meth K (He.ga K "Code") "places" (He.ma K (He.ga K "Code") "places"):=He.meth_ok (T.c.t.d.fact 95 rfl)
theorem me_Code_entry (T:Tx w h K mg):Meth K (He.ga K "Code") "entry" (He.ma K (He.ga K "Code") "entry"):=He.meth_ok (T.c.t.d.fact 96 rfl)
theorem me_Code_entry_of (T:Tx w h K mg):Meth K (He.ga K "Code") "entry_of" (He.ma K (He.ga K "Code") "entry_of"):=He.meth_ok (T.c.t.d.fact 97 rfl)
theorem c_Run (T:Tx w h K mg):Cls K (He.ga K "Run"):=He.cls_ok (T.c.t.d.fact 100 rfl)
theorem mk_Run (T:Tx w h K mg):Mk K (He.ga K "Run") (He.ma K (He.ga K "Run") "__init__"):=He.mkr_ok (T.c.t.d.fact 101 rfl)
theorem na_Run_end (T:Tx w h K mg):NoAttr K (He.ga K "Run") "end":=He.noat_ok (T.c.t.d.fact 102 rfl)
theorem na_Run_used (T:Tx w h K mg):NoAttr K (He.ga K "Run") "used":=He.noat_ok (T.c.t.d.fact 103 rfl)
theorem na_Run_visited (T:Tx w h K mg):NoAttr K (He.ga K "Run") "visited":=He.noat_ok (T.c.t.d.fact 104 rfl)
theorem c_Walker (T:Tx w h K mg):Cls K (He.ga K "Walker"):=He.cls_ok (T.c.t.d.fact 107 rfl)
theorem mk_Walker (T:Tx w h K mg):Mk K (He.ga K "Walker") (He.ma K (He.ga K "Walker") "__init__"):=He.mkr_ok (T.c.t.d.fact 108 rfl)
theorem na_Walker_end (T:Tx w h K mg):NoAttr K (He.ga K "Walker") "end":=He.noat_ok (T.c.t.d.fact 109 rfl)
theorem na_Walker_pendings (T:Tx w h K mg):NoAttr K (He.ga K "Walker") "pendings":=He.noat_ok (T.c.t.d.fact 110 rfl)
theorem na_Walker_source (T:Tx w h K mg):NoAttr K (He.ga K "Walker") "source":=He.noat_ok (T.c.t.d.fact 111 rfl)
theorem na_Walker_spot (T:Tx w h K mg):NoAttr K (He.ga K "Walker") "spot":=He.noat_ok (T.c.t.d.fact 112 rfl)
theorem me_Walker_is_waiting (T:Tx w h K mg):Meth K (He.ga K "Walker") "is_waiting" (He.ma K (He.ga K "Walker") "is_waiting"):=He.meth_ok (T.c.t.d.fact 113 rfl)
theorem me_Walker_leave (T:Tx w h K mg):Meth K (He.ga K "Walker") "leave" (He.ma K (He.ga K "Walker") "leave"):=He.meth_ok (T.c.t.d.fact 114 rfl)
theorem me_Walker_do_place (T:Tx w h K mg):Meth K (He.ga K "Walker") "do_place" (He.ma K (He.ga K "Walker") "do_place"):=He.meth_ok (T.c.t.d.fact 115 rfl)
theorem me_Walker_go_on (T:Tx w h K mg):Meth K (He.ga K "Walker") "go_on" (He.ma K (He.ga K "Walker") "go_on"):=He.meth_ok (T.c.t.d.fact 116 rfl)
theorem me_Walker_answer (T:Tx w h K mg):Meth K (He.ga K "Walker") "answer" (He.ma K (He.ga K "Walker") "answer"):=He.meth_ok (T.c.t.d.fact 117 rfl)
theorem F_is_integer (T:Tx w h K mg):∃ fd,FunD K "is_integer" "is_integer" (defArgs sd_is_integer) (defBody sd_is_integer) (defScope sd_is_integer) [] [] (He.fAd K ("is_integer",none)) fd:=T.c.t.d.def_ 5 rfl
theorem F_is_between (T:Tx w h K mg):∃ fd,FunD K "is_between" "is_between" (defArgs sd_is_between) (defBody sd_is_between) (defScope sd_is_between) [] [] (He.fAd K ("is_between",none)) fd:=T.c.t.d.def_ 6 rfl
theorem F_is_name (T:Tx w h K mg):∃ fd,FunD K "is_name" "is_name" (defArgs sd_is_name) (defBody sd_is_name) (defScope sd_is_name) [] [] (He.fAd K ("is_name",none)) fd:=T.c.t.d.def_ 7 rfl
theorem F_is_statement (T:Tx w h K mg):∃ fd,FunD K "is_statement" "is_statement" (defArgs sd_is_statement) (defBody sd_is_statement) (defScope sd_is_statement) [] [] (He.fAd K ("is_statement",none)) fd:=T.c.t.d.def_ 8 rfl
theorem F_parts_in (T:Tx w h K mg):∃ fd,FunD K "parts_in" "parts_in" (defArgs sd_parts_in) (defBody sd_parts_in) (defScope sd_parts_in) [] [] (He.fAd K ("parts_in",none)) fd:=T.c.t.d.def_ 9 rfl
theorem F_Code___init__ (T:Tx w h K mg):∃ fd,FunD K "__init__" "Code.__init__" (defArgs sd_Code___init__) (defBody sd_Code___init__) (defScope sd_Code___init__) [] [] (He.fAd K ("Code",some "__init__")) fd:=T.c.t.d.def_ 10 rfl
theorem F_Code_check (T:Tx w h K mg):∃ fd,FunD K "check" "Code.check" (defArgs sd_Code_check) (defBody sd_Code_check) (defScope sd_Code_check) [] [] (He.fAd K ("Code",some "check")) fd:=T.c.t.d.def_ 11 rfl
theorem F_Code_keep (T:Tx w h K mg):∃ fd,FunD K "keep" "Code.keep" (defArgs sd_Code_keep) (defBody sd_Code_keep) (defScope sd_Code_keep) [] [] (He.fAd K ("Code",some "keep")) fd:=T.c.t.d.def_ 12 rfl
theorem F_Code___eq__ (T:Tx w h K mg):∃ fd,FunD K "__eq__" "Code.__eq__" (defArgs sd_Code___eq__) (defBody sd_Code___eq__) (defScope sd_Code___eq__) [] [] (He.fAd K ("Code",some "__eq__")) fd:=T.c.t.d.def_ 13 rfl
theorem F_Code___len__ (T:Tx w h K mg):∃ fd,FunD K "__len__" "Code.__len__" (defArgs sd_Code___len__) (defBody sd_Code___len__) (defScope sd_Code___len__) [] [] (He.fAd K ("Code",some "__len__")) fd:=T.c.t.d.def_ 14 rfl
theorem F_Code___getitem__ (T:Tx w h K mg):∃ fd,FunD K "__getitem__" "Code.__getitem__" (defArgs sd_Code___getitem__) (defBody sd_Code___getitem__) (defScope sd_Code___getitem__) [] [] (He.fAd K ("Code",some "__getitem__")) fd:=T.c.t.d.def_ 15 rfl
theorem F_Code_check_number (T:Tx w h K mg):∃ fd,FunD K "check_number" "Code.check_number" (defArgs sd_Code_check_number) (defBody sd_Code_check_number) (defScope sd_Code_check_number) [] [] (He.fAd K ("Code",some "check_number")) fd:=T.c.t.d.def_ 17 rfl
theorem F_Code_is_place (T:Tx w h K mg):∃ fd,FunD K "is_place" "Code.is_place" (defArgs sd_Code_is_place) (defBody sd_Code_is_place) (defScope sd_Code_is_place) [] [] (He.fAd K ("Code",some "is_place")) fd:=T.c.t.d.def_ 18 rfl
theorem F_Code_kind (T:Tx w h K mg):∃ fd,FunD K "kind" "Code.kind" (defArgs sd_Code_kind) (defBody sd_Code_kind) (defScope sd_Code_kind) [] [] (He.fAd K ("Code",some "kind")) fd:=T.c.t.d.def_ 20 rfl
theorem F_Code_parts (T:Tx w h K mg):∃ fd,FunD K "parts" "Code.parts" (defArgs sd_Code_parts) (defBody sd_Code_parts) (defScope sd_Code_parts) [] [] (He.fAd K ("Code",some "parts")) fd:=T.c.t.d.def_ 22 rfl
theorem F_Code_places (T:Tx w h K mg):∃ fd,FunD K "places" "Code.places" (defArgs sd_Code_places) (defBody sd_Code_places) (defScope sd_Code_places) [] [] (He.fAd K ("Code",some "places")) fd:=T.c.t.d.def_ 23 rfl
theorem F_Code_entry (T:Tx w h K mg):∃ fd,FunD K "entry" "Code.entry" (defArgs sd_Code_entry) (defBody sd_Code_entry) (defScope sd_Code_entry) [] [] (He.fAd K ("Code",some "entry")) fd:=T.c.t.d.def_ 24 rfl
theorem F_Code_entry_of (T:Tx w h K mg):∃ fd,FunD K "entry_of" "Code.entry_of" (defArgs sd_Code_entry_of) (defBody sd_Code_entry_of) (defScope sd_Code_entry_of) [] [] (He.fAd K ("Code",some "entry_of")) fd:=T.c.t.d.def_ 25 rfl
theorem F_comes_first (T:Tx w h K mg):∃ fd,FunD K "comes_first" "comes_first" (defArgs sd_comes_first) (defBody sd_comes_first) (defScope sd_comes_first) [] [] (He.fAd K ("comes_first",none)) fd:=T.c.t.d.def_ 28 rfl
theorem F_keep_first (T:Tx w h K mg):∃ fd,FunD K "keep_first" "keep_first" (defArgs sd_keep_first) (defBody sd_keep_first) (defScope sd_keep_first) [] [] (He.fAd K ("keep_first",none)) fd:=T.c.t.d.def_ 29 rfl
theorem F_first_shortest (T:Tx w h K mg):∃ fd,FunD K "first_shortest" "first_shortest" (defArgs sd_first_shortest) (defBody sd_first_shortest) (defScope sd_first_shortest) [] [] (He.fAd K ("first_shortest",none)) fd:=T.c.t.d.def_ 30 rfl
theorem F_left_by_leaf (T:Tx w h K mg):∃ fd,FunD K "left_by_leaf" "left_by_leaf" (defArgs sd_left_by_leaf) (defBody sd_left_by_leaf) (defScope sd_left_by_leaf) [] [] (He.fAd K ("left_by_leaf",none)) fd:=T.c.t.d.def_ 31 rfl
theorem F_left_by_if (T:Tx w h K mg):∃ fd,FunD K "left_by_if" "left_by_if" (defArgs sd_left_by_if) (defBody sd_left_by_if) (defScope sd_left_by_if) [] [] (He.fAd K ("left_by_if",none)) fd:=T.c.t.d.def_ 32 rfl
theorem F_left_by_while (T:Tx w h K mg):∃ fd,FunD K "left_by_while" "left_by_while" (defArgs sd_left_by_while) (defBody sd_left_by_while) (defScope sd_left_by_while) [] [] (He.fAd K ("left_by_while",none)) fd:=T.c.t.d.def_ 33 rfl
theorem F_left_by_seq (T:Tx w h K mg):∃ fd,FunD K "left_by_seq" "left_by_seq" (defArgs sd_left_by_seq) (defBody sd_left_by_seq) (defScope sd_left_by_seq) [] [] (He.fAd K ("left_by_seq",none)) fd:=T.c.t.d.def_ 34 rfl
theorem F_left_by_try (T:Tx w h K mg):∃ fd,FunD K "left_by_try" "left_by_try" (defArgs sd_left_by_try) (defBody sd_left_by_try) (defScope sd_left_by_try) [] [] (He.fAd K ("left_by_try",none)) fd:=T.c.t.d.def_ 35 rfl
theorem F_left_by_final (T:Tx w h K mg):∃ fd,FunD K "left_by_final" "left_by_final" (defArgs sd_left_by_final) (defBody sd_left_by_final) (defScope sd_left_by_final) [] [] (He.fAd K ("left_by_final",none)) fd:=T.c.t.d.def_ 36 rfl
theorem F_shortest_answers (T:Tx w h K mg):∃ fd,FunD K "shortest_answers" "shortest_answers" (defArgs sd_shortest_answers) (defBody sd_shortest_answers) (defScope sd_shortest_answers) [] [] (He.fAd K ("shortest_answers",none)) fd:=T.c.t.d.def_ 37 rfl
theorem F_begin_parts (T:Tx w h K mg):∃ fd,FunD K "begin_parts" "begin_parts" (defArgs sd_begin_parts) (defBody sd_begin_parts) (defScope sd_begin_parts) [] [] (He.fAd K ("begin_parts",none)) fd:=T.c.t.d.def_ 38 rfl
theorem F_begin_answers (T:Tx w h K mg):∃ fd,FunD K "begin_answers" "begin_answers" (defArgs sd_begin_answers) (defBody sd_begin_answers) (defScope sd_begin_answers) [] [] (He.fAd K ("begin_answers",none)) fd:=T.c.t.d.def_ 39 rfl
theorem F_all_place_answers (T:Tx w h K mg):∃ fd,FunD K "all_place_answers" "all_place_answers" (defArgs sd_all_place_answers) (defBody sd_all_place_answers) (defScope sd_all_place_answers) [] [] (He.fAd K ("all_place_answers",none)) fd:=T.c.t.d.def_ 40 rfl
theorem F_reached (T:Tx w h K mg):∃ fd,FunD K "reached" "reached" (defArgs sd_reached) (defBody sd_reached) (defScope sd_reached) [] [] (He.fAd K ("reached",none)) fd:=T.c.t.d.def_ 41 rfl
theorem F_dead (T:Tx w h K mg):∃ fd,FunD K "dead" "dead" (defArgs sd_dead) (defBody sd_dead) (defScope sd_dead) [] [] (He.fAd K ("dead",none)) fd:=T.c.t.d.def_ 42 rfl
theorem F_Run___init__ (T:Tx w h K mg):∃ fd,FunD K "__init__" "Run.__init__" (defArgs sd_Run___init__) (defBody sd_Run___init__) (defScope sd_Run___init__) [] [] (He.fAd K ("Run",some "__init__")) fd:=T.c.t.d.def_ 43 rfl
theorem F_way_of (T:Tx w h K mg):∃ fd,FunD K "way_of" "way_of" (defArgs sd_way_of) (defBody sd_way_of) (defScope sd_way_of) [] [] (He.fAd K ("way_of",none)) fd:=T.c.t.d.def_ 46 rfl
theorem F_Walker___init__ (T:Tx w h K mg):∃ fd,FunD K "__init__" "Walker.__init__" (defArgs sd_Walker___init__) (defBody sd_Walker___init__) (defScope sd_Walker___init__) [] [] (He.fAd K ("Walker",some "__init__")) fd:=T.c.t.d.def_ 47 rfl
theorem F_Walker_is_waiting (T:Tx w h K mg):∃ fd,FunD K "is_waiting" "Walker.is_waiting" (defArgs sd_Walker_is_waiting) (defBody sd_Walker_is_waiting) (defScope sd_Walker_is_waiting) [] [] (He.fAd K ("Walker",some "is_waiting")) fd:=T.c.t.d.def_ 48 rfl
theorem F_Walker_leave (T:Tx w h K mg):∃ fd,FunD K "leave" "Walker.leave" (defArgs sd_Walker_leave) (defBody sd_Walker_leave) (defScope sd_Walker_leave) [] [] (He.fAd K ("Walker",some "leave")) fd:=T.c.t.d.def_ 49 rfl
theorem F_Walker_do_place (T:Tx w h K mg):∃ fd,FunD K "do_place" "Walker.do_place" (defArgs sd_Walker_do_place) (defBody sd_Walker_do_place) (defScope sd_Walker_do_place) [] [] (He.fAd K ("Walker",some "do_place")) fd:=T.c.t.d.def_ 50 rfl
theorem F_Walker_go_on (T:Tx w h K mg):∃ fd,FunD K "go_on" "Walker.go_on" (defArgs sd_Walker_go_on) (defBody sd_Walker_go_on) (defScope sd_Walker_go_on) [] [] (He.fAd K ("Walker",some "go_on")) fd:=T.c.t.d.def_ 51 rfl
theorem F_Walker_answer (T:Tx w h K mg):∃ fd,FunD K "answer" "Walker.answer" (defArgs sd_Walker_answer) (defBody sd_Walker_answer) (defScope sd_Walker_answer) [] [] (He.fAd K ("Walker",some "answer")) fd:=T.c.t.d.def_ 52 rfl
theorem F_check_answers (T:Tx w h K mg):∃ fd,FunD K "check_answers" "check_answers" (defArgs sd_check_answers) (defBody sd_check_answers) (defScope sd_check_answers) [] [] (He.fAd K ("check_answers",none)) fd:=T.c.t.d.def_ 54 rfl
theorem F_run (T:Tx w h K mg):∃ fd,FunD K "run" "run" (defArgs sd_run) (defBody sd_run) (defScope sd_run) [] [] (He.fAd K ("run",none)) fd:=T.c.t.d.def_ 55 rfl
theorem F_rebuilt (T:Tx w h K mg):∃ fd,FunD K "rebuilt" "rebuilt" (defArgs sd_rebuilt) (defBody sd_rebuilt) (defScope sd_rebuilt) [] [] (He.fAd K ("rebuilt",none)) fd:=T.c.t.d.def_ 56 rfl
theorem F_without_dead (T:Tx w h K mg):∃ fd,FunD K "without_dead" "without_dead" (defArgs sd_without_dead) (defBody sd_without_dead) (defScope sd_without_dead) [] [] (He.fAd K ("without_dead",none)) fd:=T.c.t.d.def_ 57 rfl
theorem F_law_cell_at (T:Tx w h K mg):∃ fd,FunD K "_law_cell_at" "_law_cell_at" (defArgs sd_law_cell_at) (defBody sd_law_cell_at) (defScope sd_law_cell_at) [] [] (He.fAd K ("_law_cell_at",none)) fd:=T.c.t.d.def_ 58 rfl
theorem F_law_source_of (T:Tx w h K mg):∃ fd,FunD K "_law_source_of" "_law_source_of" (defArgs sd_law_source_of) (defBody sd_law_source_of) (defScope sd_law_source_of) [] [] (He.fAd K ("_law_source_of",none)) fd:=T.c.t.d.def_ 59 rfl
theorem F_law_draw (T:Tx w h K mg):∃ fd,FunD K "_law_draw" "_law_draw" (defArgs sd_law_draw) (defBody sd_law_draw) (defScope sd_law_draw) [] [] (He.fAd K ("_law_draw",none)) fd:=T.c.t.d.def_ 60 rfl
theorem F_law_one (T:Tx w h K mg):∃ fd,FunD K "_law_one" "_law_one" (defArgs sd_law_one) (defBody sd_law_one) (defScope sd_law_one) [] [] (He.fAd K ("_law_one",none)) fd:=T.c.t.d.def_ 61 rfl
theorem F_law_leaf (T:Tx w h K mg):∃ fd,FunD K "_law_leaf" "_law_leaf" (defArgs sd_law_leaf) (defBody sd_law_leaf) (defScope sd_law_leaf) [] [] (He.fAd K ("_law_leaf",none)) fd:=T.c.t.d.def_ 62 rfl
theorem F_law_statement (T:Tx w h K mg):∃ fd,FunD K "_law_statement" "_law_statement" (defArgs sd_law_statement) (defBody sd_law_statement) (defScope sd_law_statement) [] [] (He.fAd K ("_law_statement",none)) fd:=T.c.t.d.def_ 63 rfl
theorem F_law_answers (T:Tx w h K mg):∃ fd,FunD K "_law_answers" "_law_answers" (defArgs sd_law_answers) (defBody sd_law_answers) (defScope sd_law_answers) [] [] (He.fAd K ("_law_answers",none)) fd:=T.c.t.d.def_ 64 rfl
theorem F_law_look (T:Tx w h K mg):∃ fd,FunD K "_law_look" "_law_look" (defArgs sd_law_look) (defBody sd_law_look) (defScope sd_law_look) [] [] (He.fAd K ("_law_look",none)) fd:=T.c.t.d.def_ 65 rfl
theorem F_law_rebuilt (T:Tx w h K mg):∃ fd,FunD K "_law_rebuilt" "_law_rebuilt" (defArgs sd_law_rebuilt) (defBody sd_law_rebuilt) (defScope sd_law_rebuilt) [] [] (He.fAd K ("_law_rebuilt",none)) fd:=T.c.t.d.def_ 66 rfl
theorem F_law_cut (T:Tx w h K mg):∃ fd,FunD K "_law_cut" "_law_cut" (defArgs sd_law_cut) (defBody sd_law_cut) (defScope sd_law_cut) [] [] (He.fAd K ("_law_cut",none)) fd:=T.c.t.d.def_ 67 rfl
theorem F_law_wide (T:Tx w h K mg):∃ fd,FunD K "_law_wide" "_law_wide" (defArgs sd_law_wide) (defBody sd_law_wide) (defScope sd_law_wide) [] [] (He.fAd K ("_law_wide",none)) fd:=T.c.t.d.def_ 68 rfl
theorem F_law_right (T:Tx w h K mg):∃ fd,FunD K "_law_right" "_law_right" (defArgs sd_law_right) (defBody sd_law_right) (defScope sd_law_right) [] [] (He.fAd K ("_law_right",none)) fd:=T.c.t.d.def_ 69 rfl
theorem F_law (T:Tx w h K mg):∃ fd,FunD K "law" "law" (defArgs sd_law) (defBody sd_law) (defScope sd_law) [] [] (He.fAd K ("law",none)) fd:=T.c.t.d.def_ 70 rfl
theorem t_NAMED (T:Tx w h K mg) (H:Hp):SqT K H (He.ga K "NAMED") [.str "do",.str "call",.str "if",.str "while"]:=He.tupB_ok (x:="NAMED") (vs:=[.str "do",.str "call",.str "if",.str "while"]) (He.ba (He.ba (He.ba (He.ba (He.ba (He.ba (He.ba (He.ba (He.ba (He.ba (He.ba (He.ba (He.ba (He.ba (He.ba (He.ba (He.ba T.c.more).1).1).1).1).1).1).1).1).1).1).1).1).1).1).1).1).1 H
theorem t_JUMPS (T:Tx w h K mg) (H:Hp):SqT K H (He.ga K "JUMPS") [.str "break",.str "continue"]:=He.tupB_ok (x:="JUMPS") (vs:=[.str "break",.str "continue"]) (He.ba (He.ba (He.ba (He.ba (He.ba (He.ba (He.ba (He.ba (He.ba (He.ba (He.ba (He.ba (He.ba (He.ba (He.ba (He.ba (He.ba T.c.more).1).1).1).1).1).1).1).1).1).1).1).1).1).1).1).1).2 H
theorem t_ASKING (T:Tx w h K mg) (H:Hp):SqT K H (He.ga K "ASKING") [.str "call",.str "if",.str "while"]:=He.tupB_ok (x:="ASKING") (vs:=[.str "call",.str "if",.str "while"]) (He.ba (He.ba (He.ba (He.ba (He.ba (He.ba (He.ba (He.ba (He.ba (He.ba (He.ba (He.ba (He.ba (He.ba (He.ba (He.ba T.c.more).1).1).1).1).1).1).1).1).1).1).1).1).1).1).1).2 H
theorem t_NORMAL_ways (T:Tx w h K mg) (H:Hp):SqT K H (He.ga K "NORMAL_ways") [.str "normal"]:=He.tupB_ok (x:="NORMAL_ways") (vs:=[.str "normal"]) (He.ba (He.ba (He.ba (He.ba (He.ba (He.ba (He.ba (He.ba (He.ba (He.ba (He.ba (He.ba (He.ba (He.ba (He.ba T.c.more).1).1).1).1).1).1).1).1).1).1).1).1).1).1).2 H
theorem t_RAISE_ways (T:Tx w h K mg) (H:Hp):SqT K H (He.ga K "RAISE_ways") [.str "raise"]:=He.tupB_ok (x:="RAISE_ways") (vs:=[.str "raise"]) (He.ba (He.ba (He.ba (He.ba (He.ba (He.ba (He.ba (He.ba (He.ba (He.ba (He.ba (He.ba (He.ba (He.ba T.c.more).1).1).1).1).1).1).1).1).1).1).1).1).1).2 H
theorem t_NORMAL_runs (T:Tx w h K mg) (H:Hp):SqT K H (He.ga K "NORMAL_runs") [.str "normal"]:=He.tupB_ok (x:="NORMAL_runs") (vs:=[.str "normal"]) (He.ba (He.ba (He.ba (He.ba (He.ba (He.ba (He.ba (He.ba (He.ba (He.ba (He.ba (He.ba (He.ba T.c.more).1).1).1).1).1).1).1).1).1).1).1).1).2 H
theorem t_RAISE_runs (T:Tx w h K mg) (H:Hp):SqT K H (He.ga K "RAISE_runs") [.str "raise"]:=He.tupB_ok (x:="RAISE_runs") (vs:=[.str "raise"]) (He.ba (He.ba (He.ba (He.ba (He.ba (He.ba (He.ba (He.ba (He.ba (He.ba (He.ba (He.ba T.c.more).1).1).1).1).1).1).1).1).1).1).1).2 H
theorem d_SIZES (T:Tx w h K mg):∃ es n,KDict K w (He.ga K "SIZES") es n:=T.c.t.tab 0 rfl
theorem dk_SIZES (T:Tx w h K mg):He.dicW K (He.ga K "SIZES")=some (He.keysIn w.params ["do","call","if","while","seq","break","continue","return","raise","try","final"]):=Option.some.inj (show some (He.dicW K (He.ga K "SIZES"))=some (some (He.keysIn w.params ["do","call","if","while","seq","break","continue","return","raise","try","final"])) from congrArg (fun z:He.AlT=>z.2[0]?) T.c.t)
theorem v_SIZES (T:Tx w h K mg) {q:Str×He.Dv} (hq:q∈([("do",.int 2),("call",.int 2),("if",.int 4),("while",.int 3),("seq",.int 2),("break",.int 2),("continue",.int 2),("return",.int 1),("raise",.int 1),("try",.int 3),("final",.int 3)]:List (Str×He.Dv))):∃ u,PySem.W.nsIn K (He.ga K "SIZES") q.1=some (some u)∧RelV (q.2.v K) u:=He.valsB_ok (He.ba (He.ba (He.ba (He.ba (He.ba (He.ba (He.ba (He.ba (He.ba (He.ba (He.ba T.c.more).1).1).1).1).1).1).1).1).1).1).2 hq
theorem d_ENDS (T:Tx w h K mg):∃ es n,KDict K w (He.ga K "ENDS") es n:=T.c.t.tab 1 rfl
theorem v_ENDS (T:Tx w h K mg) {q:Str×He.Dv} (hq:q∈([("normal",.str "end"),("return",.str "return"),("raise",.str "raise")]:List (Str×He.Dv))):∃ u,PySem.W.nsIn K (He.ga K "ENDS") q.1=some (some u)∧RelV (q.2.v K) u:=He.valsB_ok (He.ba (He.ba (He.ba (He.ba (He.ba (He.ba (He.ba (He.ba (He.ba (He.ba T.c.more).1).1).1).1).1).1).1).1).1).2 hq
theorem eq_Code (T:Tx w h K mg):FcO.EqC K (He.ga K "Code"):=FcO.eqB_ok (He.ba (He.ba (He.ba T.c.more).1).1).2
end
end Fc
set_option maxRecDepth 100000
set_option maxHeartbeats 4000000
namespace Fc
open PySem PySem.Spec PyProof.Rows L2 FcR
open Evl (Ex)
section
theorem find_none_of {P:Params} {z:Str}:∀ {l:List DictEntry} {ks:List Str},l.map He.keyOf=He.keysIn P ks→z ∉ ks→l.find? (·.key.isStr z)=none∧l.any (·.refKey)=false
 | [],_,_,_=>⟨rfl,rfl⟩
 | e::r,[],h,_=>by cases h
 | e::r,k::ks,h,hz=>by
  have h1:He.keyOf e::r.map He.keyOf=some (k,PyData.keyHash P k)::He.keysIn P ks:=h
  injection h1 with h2 h3
  obtain ⟨i1,i2⟩:=find_none_of (z:=z) h3 fun y=>hz (List.mem_cons_of_mem _ y)
  unfold He.keyOf at h2
  split at h2
  ·rename_i x t q
   have h4:=Option.some.inj h2
   obtain ⟨h5,h6⟩:=Prod.mk.inj h4
   have ne:x≠z:=fun y=>hz (by rw [← y,h5];exact List.mem_cons_self)
   constructor
   ·rw [List.find?_cons]
    have e1:e.key.isStr z=false:=by
     rw [q]
     show (x == z)=false
     simpa using ne
    rw [e1]
    exact i1
   ·rw [List.any_cons,i2]
    have e2:e.refKey=false:=by
     unfold DictEntry.refKey
     rw [q]<;>rfl
    rw [e2]<;>rfl
  ·cases h2
theorem ns_none {K:PySem.W.Frag} {P:Params} {a:Addr} {ks:List Str} {z:Str} (h:He.dicW K a=some (He.keysIn P ks)) (hz:z ∉ ks):PySem.W.nsIn K a z=some none:=by
 unfold He.dicW at h
 unfold PySem.W.nsIn
 cases q:K.lookup a with
 | none=>rw [q] at h;cases h
 | some o =>
  obtain ⟨oc,od,dt,osl⟩:=o
  rw [q] at h
  cases oc with
  | type c =>
   cases od with
   | none =>
    cases dt with
    | dict es n =>
     have h1:(match decide (c="dict") && (osl.isEmpty && !(a == sysModules)) with
      | true=>some (es.toList.map He.keyOf)
      | false=>none)=some (He.keysIn P ks):=h
     split at h1
     ·obtain ⟨i1,i2⟩:=find_none_of (z:=z) (Option.some.inj h1) hz
      show (match es.toList.find? (·.key.isStr z) with
       | some e=>some (some e.val)
       | none=>if es.toList.any (·.refKey) then none else some none)=some none
      rw [i1,i2]
      rfl
     ·cases h1
    | _=>cases h
   | some b=>cases dt<;>cases h
  | _=>cases od<;>cases dt<;>cases h
def tyD:PyData→String
 | .none=>"NoneType"
 | .bool _=>"bool"
 | .int _=>"int"
 | .str _=>"str"
 | .list _=>"list"
 | .tuple _=>"tuple"
 | .dict _=>"dict"
theorem ty_lst {K:PySem.W.Frag} {H:Hp} {a:Addr} {xs:List V} (h:SqL K H a xs):TyX K H (.ref a) (.type "list"):=by
 rcases h with (h | ⟨o,h⟩) | ⟨o,its,n,hk,hc,_⟩
 ·exact .base (.lst h)
 ·exact .base (.frz h)
 ·exact .kList hk hc
theorem ty_tup {K:PySem.W.Frag} {H:Hp} {a:Addr} {xs:List V} (h:SqT K H a xs):TyX K H (.ref a) (.type "tuple"):=by
 rcases h with (h | ⟨o,h⟩) | ⟨o,its,n,hk,hc,_⟩
 ·exact .base (.tup h)
 ·exact .fTuple h
 ·exact .kTuple hk hc
theorem dp_ty {K:PySem.W.Frag} {H:Hp} {v:V} {d:PyData} (h:Dp K H v d):TyX K H v (.type (tyD d)):=by
 cases h with
 | non=>exact .base .non
 | bl b=>exact .base (.bl b)
 | int i=>exact .base (.int i)
 | str x=>exact .base (.str x)
 | lst h _=>exact ty_lst h
 | tup h _=>exact ty_tup h
def isT (n:String) (d:PyData):Bool:=tyD d == n
theorem k_str {K:PySem.W.Frag}:∀ d:PyData,PySem.W.kitOne K (.type (tyD d)) (.type "str")=some (isT "str" d)
 | .none=>kit_ty (show kitB "NoneType" "str"=some false by decide +kernel)
 | .bool _=>kit_ty (show kitB "bool" "str"=some false by decide +kernel)
 | .int _=>kit_ty (show kitB "int" "str"=some false by decide +kernel)
 | .str _=>kit_ty (show kitB "str" "str"=some true by decide +kernel)
 | .list _=>kit_ty (show kitB "list" "str"=some false by decide +kernel)
 | .tuple _=>kit_ty (show kitB "tuple" "str"=some false by decide +kernel)
 | .dict _=>kit_ty (show kitB "dict" "str"=some false by decide +kernel)
theorem k_tuple {K:PySem.W.Frag}:∀ d:PyData,PySem.W.kitOne K (.type (tyD d)) (.type "tuple")=some (isT "tuple" d)
 | .none=>kit_ty (show kitB "NoneType" "tuple"=some false by decide +kernel)
 | .bool _=>kit_ty (show kitB "bool" "tuple"=some false by decide +kernel)
 | .int _=>kit_ty (show kitB "int" "tuple"=some false by decide +kernel)
 | .str _=>kit_ty (show kitB "str" "tuple"=some false by decide +kernel)
 | .list _=>kit_ty (show kitB "list" "tuple"=some false by decide +kernel)
 | .tuple _=>kit_ty (show kitB "tuple" "tuple"=some true by decide +kernel)
 | .dict _=>kit_ty (show kitB "dict" "tuple"=some false by decide +kernel)
theorem k_list {K:PySem.W.Frag}:∀ d:PyData,PySem.W.kitOne K (.type (tyD d)) (.type "list")=some (isT "list" d)
 | .none=>kit_ty (show kitB "NoneType" "list"=some false by decide +kernel)
 | .bool _=>kit_ty (show kitB "bool" "list"=some false by decide +kernel)
 | .int _=>kit_ty (show kitB "int" "list"=some false by decide +kernel)
 | .str _=>kit_ty (show kitB "str" "list"=some false by decide +kernel)
 | .list _=>kit_ty (show kitB "list" "list"=some true by decide +kernel)
 | .tuple _=>kit_ty (show kitB "tuple" "list"=some false by decide +kernel)
 | .dict _=>kit_ty (show kitB "dict" "list"=some false by decide +kernel)
theorem k_bool {K:PySem.W.Frag}:∀ d:PyData,PySem.W.kitOne K (.type (tyD d)) (.type "bool")=some (isT "bool" d)
 | .none=>kit_ty (show kitB "NoneType" "bool"=some false by decide +kernel)
 | .bool _=>kit_ty (show kitB "bool" "bool"=some true by decide +kernel)
 | .int _=>kit_ty (show kitB "int" "bool"=some false by decide +kernel)
 | .str _=>kit_ty (show kitB "str" "bool"=some false by decide +kernel)
 | .list _=>kit_ty (show kitB "list" "bool"=some false by decide +kernel)
 | .tuple _=>kit_ty (show kitB "tuple" "bool"=some false by decide +kernel)
 | .dict _=>kit_ty (show kitB "dict" "bool"=some false by decide +kernel)
def isIntB:PyData→Bool
 | .int _=>true
 | .bool _=>true
 | _=>false
theorem k_int {K:PySem.W.Frag}:∀ d:PyData,PySem.W.kitOne K (.type (tyD d)) (.type "int")=some (isIntB d)
 | .none=>kit_ty (show kitB "NoneType" "int"=some false by decide +kernel)
 | .bool _=>kit_ty (show kitB "bool" "int"=some true by decide +kernel)
 | .int _=>kit_ty (show kitB "int" "int"=some true by decide +kernel)
 | .str _=>kit_ty (show kitB "str" "int"=some false by decide +kernel)
 | .list _=>kit_ty (show kitB "list" "int"=some false by decide +kernel)
 | .tuple _=>kit_ty (show kitB "tuple" "int"=some false by decide +kernel)
 | .dict _=>kit_ty (show kitB "dict" "int"=some false by decide +kernel)
def letters:List Nat:=(Str.ofString "abcdefghijklmnopqrstuvwxyz").cps.toList
def nameOk (x:Str):Bool:=(decide ((1:Int)≤x.length) && decide ((x.length:Int)≤8)) && x.cps.toList.all fun c=>decide (c∈letters)
def isName:PyData→Bool
 | .str x=>nameOk x
 | _=>false
def isNum (lo hi:Int):PyData→Bool
 | .int n=>decide (lo≤n) && decide (n≤hi)
 | _=>false
def kNamed:List Str:=["do","call","if","while"]
def kJumps:List Str:=["break","continue"]
def kSizes:List (Str×Int):=[("do",2),("call",2),("if",4),("while",3),("seq",2),("break",2),("continue",2),("return",1),("raise",1),("try",3),("final",3)]
def nonEmptyT:PyData→Bool
 | .tuple (_::_)=>true
 | _=>false
def isStm:PyData→Int→Bool
 | .tuple (.str k::r),loops=>(match kSizes.lookup k with
  | none=>false
  | some n=>if (r.length:Int) + 1≠n then false else
   if k∈kNamed then isName (r.getD 0 .none) else if k∈kJumps then isNum 1 loops (r.getD 0 .none) else
    (if k≠"seq" then true else nonEmptyT (r.getD 0 .none)))
 | _,_=>false
def partsD:PyData→List PyData
 | .tuple (.str k::r)=>if k="seq" then (match r with
   | .tuple ps::_=>ps.take 401
   | _=>[]) else if k∈kNamed then r.drop 1 else if k="try"∨k="final" then r else []
 | _=>[]
end
section
def sp_is_integer (K:PySem.W.Frag):Sp:=fun vs H Q _=>∃ (v:V) (t:Value) (b1 b2:Bool),vs=[v]∧TyX K H v t∧PySem.W.kitOne K t (.type "int")=some b1∧PySem.W.kitOne K t (.type "bool")=some b2∧Q (.bl (b1 && !b2)) H
def sp_is_between (K:PySem.W.Frag):Sp:=fun vs H Q _=>∃ (v:V) (i j:Int),vs=[v,.int i,.int j] ∧
 ((∃ n,v=.int n∧Q (.bl (decide (i≤n) && decide (n≤j))) H)∨(∃ t b1 b2,TyX K H v t∧PySem.W.kitOne K t (.type "int")=some b1∧PySem.W.kitOne K t (.type "bool")=some b2∧(b1 && !b2)=false∧Q (.bl false) H))
theorem k_ii {K:PySem.W.Frag}:PySem.W.kitOne K (.type "int") (.type "int")=some true:=kit_ty (by decide +kernel)
theorem k_ib {K:PySem.W.Frag}:PySem.W.kitOne K (.type "int") (.type "bool")=some false:=kit_ty (by decide +kernel)
section
variable {P:Program} {w:World} {h:Heap} {K:PySem.W.Frag} {mg:Str→Option Value} {base:Heap}
abbrev N_is_integer:List Str:=["value"]
theorem sc_is_integer:FnScope N_is_integer ["value"] (defScope sd_is_integer):=⟨rfl,rfl,rfl,by decide +kernel,rfl,by decide +kernel,by decide +kernel⟩
theorem ok_is_integer (T:Tx w h K mg):Ok P w K mg base 1 ("is_integer",none) ["value"] (sp_is_integer K):=by
 obtain ⟨fd,F⟩:=F_is_integer T
 refine ⟨fd,?_,F.bindsN (fun _ _ _ _ _ _ us hl=>match us,hl with | [_],_=>rfl),F.kp⟩
 refine F.ok sc_is_integer (fun vs H Q E h=>?_) (fun cdv A outer s H vs Q E hr h=>?_)
 ·obtain ⟨v,t,b1,b2,rfl,ty,k1,k2,q⟩:=h
  rfl
 ·obtain ⟨v,t,b1,b2,rfl,ty,k1,k2,q⟩:=h
  refine ⟨_,PSs.nox (pss_one (ps_ret (pe_and (pe_callB call_isi rfl (fr_isinstance T) b_isinstance (pa_cons (pv 0) (pa_cons (pe_bltn (v:=.ty "int") rfl (fr_int T) b_int rfl) pa_nil))) (pe_one (pe_not (pe_callB call_isi rfl (fr_isinstance T) b_isinstance (pa_cons (pv 0) (pa_cons (pe_bltn (v:=.ty "bool") rfl (fr_bool T) b_bool rfl) pa_nil)))))))),?_⟩
  refine ⟨_,rfl,v,.ty "int",t,_,b1,rfl,.ty _,ty,k1,_,rfl,ite_of (fun h1=>?_) (fun h1=>?_)⟩
  ·subst h1
   exact ⟨_,rfl,v,.ty "bool",t,_,b2,rfl,.ty _,ty,k2,_,rfl,q⟩
  ·subst h1
   exact q
abbrev N_is_between:List Str:=["value","low","high"]
theorem sc_is_between:FnScope N_is_between ["value","low","high"] (defScope sd_is_between):=⟨rfl,rfl,rfl,by decide +kernel,rfl,by decide +kernel,by decide +kernel⟩
theorem ok_is_between (T:Tx w h K mg):Ok P w K mg base 2 ("is_between",none) ["value","low","high"] (sp_is_between K):=by
 obtain ⟨fd,F⟩:=F_is_between T
 refine ⟨fd,?_,F.bindsN (fun _ _ _ _ _ _ us hl=>match us,hl with | [_,_,_],_=>rfl),F.kp⟩
 obtain ⟨fd_is_integer,G_is_integer,bi_is_integer,kp_is_integer⟩:=ok_is_integer (P:=P) (base:=base) T
 refine F.ok sc_is_between (fun vs H Q E h=>?_) (fun cdv A outer s H vs Q E hr h=>?_)
 ·obtain ⟨v,i,j,rfl,q⟩:=h
  rfl
 ·obtain ⟨v,i,j,rfl,q⟩:=h
  refine ⟨_,PSs.nox (pss_one (ps_ret (pe_and (pe_call G_is_integer (hr.mono (by decide)) rfl (g_is_integer T) kp_is_integer bi_is_integer .nil passF (pa_cons (pv 0) pa_nil)) (pe_one (pe_chain op_le op_le (pv 1) (pv 0) (pv 2)))))),?_⟩
  rcases q with ⟨n,rfl,q⟩ | ⟨t,b1,b2,ty,k1,k2,hb,q⟩
  ·refine ⟨_,rfl,.int n,.type "int",true,false,rfl,.base (.int n),k_ii,k_ib,_,rfl,itT rfl ?_⟩
   refine ⟨_,rfl,_,rfl,_,_,rfl,rfl,_,rfl,ite_of (fun h1=>?_) (fun h1=>?_)⟩
   ·refine ⟨_,rfl,_,_,rfl,rfl,?_⟩
    rw [h1] at q
    exact q
   ·rw [h1] at q
    exact q
  ·refine ⟨_,rfl,v,t,b1,b2,rfl,ty,k1,k2,_,rfl,itF hb q⟩
end
end
section
def sp_is_name (K:PySem.W.Frag):Sp:=fun vs H Q _=>∃ (v:V) (d:PyData),vs=[v]∧Dp K H v d∧(∀ x,d=.str x→x.length≤100000)∧∀ H',Ex H H'→Q (.bl (isName d)) H'
theorem take_one {α:Type} {l:List α} {i:Nat} {x:α} (h:l[i]?=some x):l.take (i + 1)=l.take i++[x]:=by
 rw [List.take_add_one,h]<;>rfl
section
variable {P:Program} {w:World} {h:Heap} {K:PySem.W.Frag} {mg:Str→Option Value} {base:Heap}
abbrev N_is_name:List Str:=["value","sign"]
theorem sc_is_name:FnScope N_is_name ["value"] (defScope sd_is_name):=⟨rfl,rfl,rfl,by decide +kernel,rfl,by decide +kernel,by decide +kernel⟩
theorem ok_is_name (T:Tx w h K mg):Ok P w K mg base 1 ("is_name",none) ["value"] (sp_is_name K):=by
 obtain ⟨fd,F⟩:=F_is_name T
 refine ⟨fd,?_,F.bindsN (fun _ _ _ _ _ _ us hl=>match us,hl with | [_],_=>rfl),F.kp⟩
 obtain ⟨tm_LETTERS,m_LETTERS⟩:=i_LETTERS T
 obtain ⟨tm_MOST_LETTERS,m_MOST_LETTERS⟩:=i_MOST_LETTERS T
 refine F.ok sc_is_name (fun vs H Q E h=>?_) (fun cdv A outer s H vs Q E hr h=>?_)
 ·obtain ⟨v,d,rfl,hd,hl,q⟩:=h
  rfl
 ·obtain ⟨v,d,rfl,hd,hl,q⟩:=h
  refine ⟨_,PSs.nox (pss_one (ps_ret (pe_and (pe_callB call_isi rfl (fr_isinstance T) b_isinstance (pa_cons (pv 0) (pa_cons (pe_bltn (v:=.ty "str") rfl (fr_str T) b_str rfl) pa_nil))) (pe_and (pe_chain op_le op_le pe_int (pe_callB call_len_str rfl (fr_len T) b_len (pa_cons (pv 0) pa_nil)) (pe_glob (v:=.int 8) rfl m_MOST_LETTERS ⟨_,rfl⟩)) (pe_one (pe_callB (cr_all rfl) rfl (fr_all T) b_all (pa_cons (pe_lc (own:=[("sign",1)]) rfl sc_is_name.nd (pi_str (pv 0)) (blkOk_by (N:=N_is_name) (sc:=defScope sd_is_name) (by decide +kernel)) (fun _ _ _ _ _=>(pg_name (i:=1) sc_is_name.nd rfl (Or.inl rfl))) (fun _ _ _ _ _=>pts_nil) (fun _ _ _ _ _=>(pe_cmpR op_in_sign (pv 1) (pe_glob (v:=.str "abcdefghijklmnopqrstuvwxyz") rfl m_LETTERS ⟨_,rfl⟩) (by rfl)))) pa_nil))))))),?_⟩
  refine ⟨_,rfl,v,.ty "str",_,_,_,rfl,.ty _,dp_ty hd,k_str d,_,rfl,ite_of (fun h1=>?_) (fun h1=>?_)⟩
  ·obtain ⟨x,rfl⟩:∃ x,d=.str x:=by cases d<;>first | exact ⟨_,rfl⟩ | cases h1
   obtain rfl:=dp_str hd
   have hx:=hl x rfl
   have e1:isName (.str x)=((decide ((1:Int)≤x.length) && decide ((x.length:Int)≤8)) && x.cps.toList.all fun c=>decide (c∈letters)):=rfl
   rw [e1] at q
   refine ⟨_,rfl,x,rfl,sz hx,_,_,rfl,rfl,_,rfl,ite_of (fun h2=>?_) (fun h2=>?_)⟩
   ·refine ⟨_,_,rfl,rfl,_,rfl,ite_of (fun h3=>?_) (fun h3=>?_)⟩
    ·refine ⟨_,rfl,x,rfl,fun D hD=>lc_it walk_str (fun i H'=>Ex H H'∧H' D=some (.lst ((x.cps.toList.take i).map fun c=>V.bl (decide (c∈letters))))) ?_ (fun _ _ _ _=>True.intro) ?_ ?_⟩
     ·exact ⟨exu (Evl.Ex.refl H) hD,upd_same⟩
     ·rintro i y H1 H2 hi ⟨k1,k2⟩ ⟨rfl,c,hc,rfl⟩
      refine ⟨rfl,?_⟩
      refine ⟨_,rfl,c,_,rfl,rfl,_,k2,szl ?_,exm k1 hD,?_⟩
      ·have e2:x.cps.size=x.length:=rfl
       rw [List.length_map,List.length_take]
       omega
      ·have hc':x.cps.toList[i]?=some c:=by simpa using hc
       rw [take_one hc',List.map_append,upd_same]<;>rfl
     ·rintro H1 ⟨k1,k2⟩
      refine ⟨D,x.cps.toList.map fun c=>decide (c∈letters),rfl,Evl.sq_of ?_,?_⟩
      ·have e4:x.cps.size=x.cps.toList.length:=by simp
       rw [k2,e4,List.take_length,List.map_map]<;>rfl
      ·rw [h2,h3] at q
       have e3:((x.cps.toList.map fun c=>decide (c∈letters)).all id)=x.cps.toList.all fun c=>decide (c∈letters):=by simp [List.all_map]
       rw [e3]
       exact q H1 k1
    ·rw [h2,h3] at q
     exact q H (Evl.Ex.refl H)
   ·refine ⟨_,rfl,itF rfl ?_⟩
    rw [h2] at q
    exact q H (Evl.Ex.refl H)
  ·have e:isName d=false:=by cases d<;>first | rfl | cases h1
   rw [e] at q
   exact q H (Evl.Ex.refl H)
end
end
section
theorem at0 {α:Type} {v:α} {r:List α}:atI (v::r) 0=some v:=atI_nat (j:=0) rfl
theorem at1 {α:Type} {u v:α} {r:List α}:atI (u::v::r) 1=some v:=atI_nat (j:=1) rfl
def szD (d:PyData):Prop:=∀ k x r,d=.tuple (k::.str x::r)→x.length≤100000
def sp_is_statement (K:PySem.W.Frag):Sp:=fun vs H Q _=>∃ (v:V) (d:PyData) (loops:Int),vs=[v,.int loops]∧Dp K H v d∧PyData.canLay0 d=true∧szD d∧∀ H',Ex H H'→Q (.bl (isStm d loops)) H'
theorem eqv_nil (ds:List PyData):PyData.eqv (.tuple ds) (.tuple [])=ds.isEmpty:=by
 cases ds<;>simp [PyData.eqv,PyData.eqvAll]
theorem min_nil (d:PyData):min d.depth (PyData.tuple []).depth≤200:=Nat.le_trans (Nat.min_le_right _ _) (by decide)
theorem inV_strs (k:Str) (l:List Str):inV (.str k) (l.map V.str)=decide (k∈l):=by
 unfold inV
 rw [List.any_map]
 induction l with
 | nil=>rfl
 | cons a l ih =>
  rw [List.any_cons,ih]
  show ((a == k) || decide (k∈l))=decide (k∈a::l)
  by_cases h:a=k
  ·subst h;simp
  ·have h2:(a == k)=false:=by simpa using h
   have h3:¬ k=a:=fun e=>h e.symm
   simp [h2,h3]
theorem flat_strs (l:List Str):(l.map V.str).all flatV=true:=by
 rw [List.all_map]
 exact List.all_eq_true.mpr fun _ _=>rfl
theorem named_two {k:Str} {n:Int} (h:k∈kNamed) (e:kSizes.lookup k=some n):2≤n:=by
 simp only [kNamed,List.mem_cons,List.not_mem_nil,or_false] at h
 rcases h with rfl | rfl | rfl | rfl
 ·have:kSizes.lookup ("do":Str)=some 2:=by decide +kernel
  rw [this] at e;cases e;decide
 ·have:kSizes.lookup ("call":Str)=some 2:=by decide +kernel
  rw [this] at e;cases e;decide
 ·have:kSizes.lookup ("if":Str)=some 4:=by decide +kernel
  rw [this] at e;cases e;decide
 ·have:kSizes.lookup ("while":Str)=some 3:=by decide +kernel
  rw [this] at e;cases e;decide
theorem jumps_two {k:Str} {n:Int} (h:k∈kJumps) (e:kSizes.lookup k=some n):n=2:=by
 simp only [kJumps,List.mem_cons,List.not_mem_nil,or_false] at h
 rcases h with rfl | rfl
 ·have:kSizes.lookup ("break":Str)=some 2:=by decide +kernel
  rw [this] at e;cases e;rfl
 ·have:kSizes.lookup ("continue":Str)=some 2:=by decide +kernel
  rw [this] at e;cases e;rfl
theorem seq_two {n:Int} (e:kSizes.lookup ("seq":Str)=some n):n=2:=by
 have:kSizes.lookup ("seq":Str)=some 2:=by decide +kernel
 rw [this] at e;cases e;rfl
theorem lookup_mem {k:Str} {n:Int}:∀ {l:List (Str×Int)},l.lookup k=some n→(k,n)∈l
 | [],h=>by cases h
 | (a,b)::l,h=>by
  rw [List.lookup_cons] at h
  by_cases e:k=a
  ·subst e
   have e2:(k == k)=true:=by simp
   rw [e2] at h
   cases h
   exact List.mem_cons_self
  ·have e2:(k == a)=false:=by simpa using e
   rw [e2] at h
   exact List.mem_cons_of_mem _ (lookup_mem h)
theorem lookup_none {k:Str}:∀ {l:List (Str×Int)},l.lookup k=none→k ∉ l.map (·.1)
 | [],_=>fun h=>by cases h
 | (a,b)::l,h=>by
  rw [List.lookup_cons] at h
  by_cases e:k=a
  ·subst e
   have e2:(k == k)=true:=by simp
   rw [e2] at h
   cases h
  ·have e2:(k == a)=false:=by simpa using e
   rw [e2] at h
   intro m
   rcases List.mem_cons.mp m with m | m
   ·exact e m
   ·exact lookup_none h m
section
variable {P:Program} {w:World} {h:Heap} {K:PySem.W.Frag} {mg:Str→Option Value} {base:Heap}
theorem sizes_ns (T:Tx w h K mg) (k:Str):∃ r,PySem.W.nsIn K (He.ga K "SIZES") k=some r∧(match kSizes.lookup k with
  | none=>r=none
  | some n=>∃ u,r=some u∧RelV (.int n) u):=by
 cases e:kSizes.lookup k with
 | none=>exact ⟨none,ns_none (dk_SIZES T) (lookup_none e),rfl⟩
 | some n =>
  have m:=lookup_mem e
  have m2:(k,He.Dv.int n)∈([("do",.int 2),("call",.int 2),("if",.int 4),("while",.int 3),("seq",.int 2),("break",.int 2),("continue",.int 2),("return",.int 1),("raise",.int 1),("try",.int 3),("final",.int 3)]:List (Str×He.Dv)) :=
   List.mem_map_of_mem (f:=fun q:Str×Int=>(q.1,He.Dv.int q.2)) m
  obtain ⟨u,e1,e2⟩:=v_SIZES T m2
  exact ⟨some u,e1,u,rfl,e2⟩
abbrev N_is_statement:List Str:=["value","loops"]
theorem sc_is_statement:FnScope N_is_statement ["value","loops"] (defScope sd_is_statement):=⟨rfl,rfl,rfl,by decide +kernel,rfl,by decide +kernel,by decide +kernel⟩
theorem ok_is_statement (T:Tx w h K mg):Ok P w K mg base 3 ("is_statement",none) ["value","loops"] (sp_is_statement K):=by
 obtain ⟨fd,F⟩:=F_is_statement T
 refine ⟨fd,?_,F.bindsN (fun _ _ _ _ _ _ us hl=>match us,hl with | [_,_],_=>rfl),F.kp⟩
 obtain ⟨fd_is_between,G_is_between,bi_is_between,kp_is_between⟩:=ok_is_between (P:=P) (base:=base) T
 obtain ⟨fd_is_name,G_is_name,bi_is_name,kp_is_name⟩:=ok_is_name (P:=P) (base:=base) T
 obtain ⟨es,nE,D⟩:=d_SIZES T
 refine F.ok sc_is_statement (fun vs H Q E h=>?_) (fun cdv A outer s H vs Q E hr h=>?_)
 ·obtain ⟨v,d,loops,rfl,hd,hc,hz,q⟩:=h
  rfl
 ·obtain ⟨v,d,loops,rfl,hd,hc,hz,q⟩:=h
  refine ⟨_,PSs.nox (pss_cons (ps_if (PW.pt (pw_or (pt_not (pt_val (pe_callB call_isi rfl (fr_isinstance T) b_isinstance (pa_cons (pv 0) (pa_cons (pe_bltn (v:=.ty "tuple") rfl (fr_tuple T) b_tuple rfl) pa_nil))))) (pw_or (pt_cmpR (op_eqM hr) (pv 0) (pe_tup pa_nil) (nomark _)) (pw_or1 (pt_not (pt_val (pe_callB call_isi rfl (fr_isinstance T) b_isinstance (pa_cons (pe_ix ix_tup (pv 0) pe_int (fun _ _=>rfl)) (pa_cons (pe_bltn (v:=.ty "str") rfl (fr_str T) b_str rfl) pa_nil))))))))) (pss_one (ps_ret pe_bl)) pss_nil) (pss_cons (ps_if (PW.pt (pw_or (pt_cmpR (op_notIn_kd D) (pe_ix ix_tup (pv 0) pe_int (fun _ _=>rfl)) (pe_glob (v:=.ref (He.ga K "SIZES")) rfl (g_SIZES T) rfl) (by rfl)) (pw_or1 (pt_cmpR op_ne (pe_callB call_len_seq rfl (fr_len T) b_len (pa_cons (pv 0) pa_nil)) (pe_ix ix_kdict (pe_glob (v:=.ref (He.ga K "SIZES")) rfl (g_SIZES T) rfl) (pe_ix ix_tup (pv 0) pe_int (fun _ _=>rfl)) (fun _ _=>rfl)) (nomark _))))) (pss_one (ps_ret pe_bl)) pss_nil) (pss_cons (ps_if (pt_cmpR op_in_seq (pe_ix ix_tup (pv 0) pe_int (fun _ _=>rfl)) (pe_glob (v:=.ref (He.ga K "NAMED")) rfl (g_NAMED T) rfl) (by rfl)) (pss_one (ps_ret (pe_call G_is_name (hr.mono (by decide)) rfl (g_is_name T) kp_is_name bi_is_name .nil passF (pa_cons (pe_ix ix_tup (pv 0) pe_int (fun _ _=>rfl)) pa_nil)))) pss_nil) (pss_cons (ps_if (pt_cmpR op_in_seq (pe_ix ix_tup (pv 0) pe_int (fun _ _=>rfl)) (pe_glob (v:=.ref (He.ga K "JUMPS")) rfl (g_JUMPS T) rfl) (by rfl)) (pss_one (ps_ret (pe_call G_is_between (hr.mono (by decide)) rfl (g_is_between T) kp_is_between bi_is_between .nil passF (pa_cons (pe_ix ix_tup (pv 0) pe_int (fun _ _=>rfl)) (pa_cons pe_int (pa_cons (pv 1) pa_nil)))))) pss_nil) (pss_one (ps_ret (pe_or (pe_cmpR op_ne (pe_ix ix_tup (pv 0) pe_int (fun _ _=>rfl)) pe_str (nomark _)) (pe_one (pe_and (pe_callB call_isi rfl (fr_isinstance T) b_isinstance (pa_cons (pe_ix ix_tup (pv 0) pe_int (fun _ _=>rfl)) (pa_cons (pe_bltn (v:=.ty "tuple") rfl (fr_tuple T) b_tuple rfl) pa_nil))) (pe_one (pe_cmpR (op_neM hr) (pe_ix ix_tup (pv 0) pe_int (fun _ _=>rfl)) (pe_tup pa_nil) (nomark _)))))))))))),?_⟩
  refine ⟨_,rfl,v,.ty "tuple",_,_,_,rfl,.ty _,dp_ty hd,k_tuple d,_,rfl,ite_of (fun h1=>?_) (fun h1=>?_)⟩
  ·have e:isStm d loops=false:=by cases d<;>first | rfl | cases h1
   rw [e] at q
   exact q H (Evl.Ex.refl H)
  obtain ⟨ds,rfl⟩:∃ ds,d=.tuple ds:=by cases d<;>first | exact ⟨_,rfl⟩ | cases h1
  obtain ⟨a,xs,rfl,hS,hA⟩:=dp_tup hd
  refine ⟨_,rfl,sz (by decide),fun p hp=>?_⟩
  have x1:Ex H (upd H p (.tup [])):=exu (Evl.Ex.refl H) hp
  refine ⟨.tuple ds,.tuple [],dp_ex x1 hd,.tup (Evl.st_of upd_same) .nil,hc,rfl,min_nil _,_,rfl,ite_of (fun h2=>?_) (fun h2=>?_)⟩
  ·rw [eqv_nil] at h2
   cases ds with
   | nil=>exact q _ x1
   | cons _ _=>cases h2
  rw [eqv_nil] at h2
  cases hA with
  | nil=>cases h2
  | @cons v0 xr d0 dr h0 hA =>
  have hS1:=Evl.ex_t x1 hS
  refine ⟨_,rfl,a,_,_,_,rfl,rfl,hS1,at0,v0,.ty "str",_,_,_,rfl,.ty _,dp_ty (dp_ex x1 h0),k_str d0,_,rfl,ite_of (fun h3=>?_) (fun h3=>?_)⟩
  ·have e:isStm (.tuple (d0::dr)) loops=false:=by cases d0<;>first | rfl | cases h3
   rw [e] at q
   exact q _ x1
  obtain ⟨k,rfl⟩:∃ k,d0=.str k:=by cases d0<;>first | exact ⟨_,rfl⟩ | cases h3
  obtain rfl:=dp_str h0
  have el:=dpA_len hA
  obtain ⟨r,n1,n2⟩:=sizes_ns T k
  refine ⟨_,rfl,a,_,_,_,rfl,rfl,hS1,at0,k,r,rfl,rfl,n1,_,rfl,ite_of (fun h4=>?_) (fun h4=>?_)⟩
  ·have e:isStm (.tuple (.str k::dr)) loops=false:=by
    cases e1:kSizes.lookup k with
    | none=>simp only [isStm,e1]
    | some n =>
     rw [e1] at n2
     obtain ⟨u,rfl,_⟩:=n2
     cases h4
   rw [e] at q
   exact q _ x1
  cases e1:kSizes.lookup k with
  | none =>
   rw [e1] at n2
   subst n2
   cases h4
  | some n =>
  rw [e1] at n2
  obtain ⟨u,rfl,ru⟩:=n2
  have q':∀ b,(isStm (.tuple (.str k::dr)) loops=b)→∀ H',Ex H H'→Q (.bl b) H':=fun b e=>by rw [← e];exact q
  refine ⟨_,rfl,a,_,rfl,.inr hS1,_,rfl,a,_,_,_,rfl,rfl,hS1,at0,_,k,.int n,rfl,rfl,⟨es,nE,u,D.at_,D.lit,n1,ru⟩,rfl,_,rfl,ite_of (fun h5=>?_) (fun h5=>?_)⟩
  ·refine q' false ?_ _ x1
   have h6:¬ ((dr.length:Int) + 1=n):=by
    intro e
    have:decide (V.int ((V.str k::xr).length:Int)=V.int n)=true:=decide_eq_true (by rw [List.length_cons,el];congr 1)
    rw [this] at h5
    cases h5
   simp only [isStm,e1,if_pos h6]
  have hn:(dr.length:Int) + 1=n:=by
   have h6:decide (V.int ((V.str k::xr).length:Int)=V.int n)=true:=by
    cases z:decide (V.int ((V.str k::xr).length:Int)=V.int n) with
    | true=>rfl
    | false=>rw [z] at h5;cases h5
   have h7:=V.int.inj (of_decide_eq_true h6)
   rw [List.length_cons,el] at h7
   omega
  have es0:isStm (.tuple (.str k::dr)) loops=(if k∈kNamed then isName (dr.getD 0 .none) else if k∈kJumps then isNum 1 loops (dr.getD 0 .none) else (if k≠"seq" then true else nonEmptyT (dr.getD 0 .none))):=by
   simp only [isStm,e1,if_neg (show ¬ ((dr.length:Int) + 1≠n) from fun z=>z hn)]
  refine ⟨_,rfl,a,_,_,_,rfl,rfl,hS1,at0,He.ga K "NAMED",_,rfl,.inr (t_NAMED T _),rfl,flat_strs kNamed,_,rfl,ite_of (fun h6=>?_) (fun h6=>?_)⟩
  ·have h6:inV (.str k) (kNamed.map V.str)=true:=h6
   rw [inV_strs] at h6
   have hk:=of_decide_eq_true h6
   have n2:=named_two hk e1
   cases hA with
   | nil=>simp at hn;omega
   | @cons v1 xr d1 dr g1 hA =>
   refine ⟨_,rfl,a,_,_,_,rfl,rfl,hS1,at1,v1,d1,rfl,dp_ex x1 g1,fun x e=>hz (.str k) x dr (by rw [e]),fun H' x2=>q' _ ?_ H' (x1.trans x2)⟩
   rw [es0,if_pos hk]<;>rfl
  have h6:inV (.str k) (kNamed.map V.str)=false:=h6
  rw [inV_strs] at h6
  have hk:¬ k∈kNamed:=of_decide_eq_false h6
  refine ⟨_,rfl,a,_,_,_,rfl,rfl,hS1,at0,He.ga K "JUMPS",_,rfl,.inr (t_JUMPS T _),rfl,flat_strs kJumps,_,rfl,ite_of (fun h7=>?_) (fun h7=>?_)⟩
  ·have h7:inV (.str k) (kJumps.map V.str)=true:=h7
   rw [inV_strs] at h7
   have hj:=of_decide_eq_true h7
   have n2:=jumps_two hj e1
   cases hA with
   | nil=>simp at hn;omega
   | @cons v1 xr d1 dr g1 hA =>
   have e2:isStm (.tuple (.str k::d1::dr)) loops=isNum 1 loops d1:=by rw [es0,if_neg hk,if_pos hj]<;>rfl
   refine ⟨_,rfl,a,_,_,_,rfl,rfl,hS1,at1,_,rfl,v1,1,loops,rfl,?_⟩
   cases d1 with
   | int m =>
    obtain rfl:=dp_int g1
    exact .inl ⟨m,rfl,q' _ e2 _ x1⟩
   | _=>exact .inr ⟨_,_,_,dp_ty (dp_ex x1 g1),k_int _,k_bool _,rfl,q' _ e2 _ x1⟩
  have h7:inV (.str k) (kJumps.map V.str)=false:=h7
  rw [inV_strs] at h7
  have hj:¬ k∈kJumps:=of_decide_eq_false h7
  rw [if_neg hk,if_neg hj] at es0
  refine ⟨_,rfl,a,_,_,_,rfl,rfl,hS1,at0,rfl,_,rfl,ite_of (fun h8=>?_) (fun h8=>?_)⟩
  ·have hs:k≠"seq":=by
    intro e
    subst e
    have z:decide (V.str "seq"=V.str "seq")=true:=decide_eq_true rfl
    rw [z] at h8
    cases h8
   exact q' true (by rw [es0,if_pos hs]) _ x1
  have hs:k="seq":=by
   cases z:decide (V.str k=V.str "seq") with
   | true=>exact V.str.inj (of_decide_eq_true z)
   | false=>rw [z] at h8;cases h8
  subst hs
  have n2:=seq_two e1
  cases hA with
  | nil=>simp at hn;omega
  | @cons v1 xr d1 dr g1 hA =>
  rw [if_neg (fun z=>z rfl)] at es0
  refine ⟨_,rfl,a,_,_,_,rfl,rfl,hS1,at1,v1,.ty "tuple",_,_,_,rfl,.ty _,dp_ty (dp_ex x1 g1),k_tuple d1,_,rfl,ite_of (fun h9=>?_) (fun h9=>?_)⟩
  ·obtain ⟨es2,rfl⟩:∃ ds,d1=.tuple ds:=by cases d1<;>first | exact ⟨_,rfl⟩ | cases h9
   refine ⟨_,rfl,a,_,_,_,rfl,rfl,hS1,at1,sz (by decide),fun p2 hp2=>?_⟩
   have x2:Ex H (upd (upd H p (.tup [])) p2 (.tup [])):=exu x1 hp2
   have hc1:PyData.canLay0 (.tuple es2)=true:=by
    have z:(PyData.canLay0 (.str "seq") && (PyData.canLay0 (.tuple es2) && PyData.canLayAll0 dr))=true:=hc
    exact (Bool.and_eq_true_iff.mp (Bool.and_eq_true_iff.mp z).2).1
   refine ⟨.tuple es2,.tuple [],dp_ex x2 g1,.tup (Evl.st_of upd_same) .nil,hc1,rfl,min_nil _,q' _ ?_ _ x2⟩
   rw [es0,eqv_nil]
   cases es2<;>rfl
  ·refine q' false ?_ _ x1
   rw [es0]
   cases d1<;>first | rfl | cases h9
end
end
section
theorem sl_any {K:PySem.W.Frag} {H:Hp} {a:Addr} {xs:List V} {lo hi:Option Int} {Q:VK} (hS:SqT K H a xs) (k:∀ p H',Ex H H'→SqT K H' p (cutV xs lo hi)→Q (.ref p) H'):rSlA K (.ref a) lo hi H Q:=by
 refine ⟨a,xs,rfl,hS,fun h=>k a H (Evl.Ex.refl H) ?_,fun _ p hp=>k p _ (exu (Evl.Ex.refl H) hp) (Evl.st_of upd_same)⟩
 have e:cutV xs lo hi=xs:=by
  unfold cutV
  rw [h.1,h.2]
  simp
 rw [e]
 exact hS
theorem cut_from (xs:List V) (n:Nat):cutV xs (some (n:Int)) none=xs.drop n:=by
 unfold cutV
 rw [HT.sIx_none,HT.sIx_nat]
 by_cases h:n≤xs.length
 ·rw [Nat.min_eq_left h,List.take_of_length_le (by rw [List.length_drop];omega)]
 ·rw [Nat.min_eq_right (by omega),List.drop_eq_nil_of_le (by omega),List.drop_eq_nil_of_le (by omega)]
  simp
theorem cut_to (xs:List V) (n:Nat):cutV xs none (some (n:Int))=xs.take n:=by
 unfold cutV
 rw [HT.sIx_none,HT.sIx_nat]
 simp only [List.drop_zero,Nat.sub_zero]
 by_cases h:n≤xs.length
 ·rw [Nat.min_eq_left h]
 ·rw [Nat.min_eq_right (by omega),List.take_of_length_le (Nat.le_refl _),List.take_of_length_le (by omega)]
def sp_parts_in (K:PySem.W.Frag):Sp:=fun vs H Q _=>∃ (F:Hp) (v:V) (d:PyData) (loops:Int),vs=[v]∧Ex F H∧Dp K F v d∧isStm d loops=true ∧
 ∀ p H' xs,H p=none→Ex H H'→H' p=some (.lst xs)→DpAll K F xs (partsD d)→Q (.ref p) H'
theorem isStm_shape {d:PyData} {loops:Int} (h:isStm d loops=true):∃ k r n,d=.tuple (.str k::r)∧kSizes.lookup k=some n∧(r.length:Int) + 1=n ∧
  (if k∈kNamed then isName (r.getD 0 .none) else if k∈kJumps then isNum 1 loops (r.getD 0 .none) else (if k≠"seq" then true else nonEmptyT (r.getD 0 .none)))=true:=by
 unfold isStm at h
 split at h
 ·rename_i k r
  split at h
  ·cases h
  ·rename_i n e
   split at h
   ·cases h
   ·rename_i hn
    exact ⟨k,r,n,rfl,e,Decidable.not_not.mp hn,h⟩
 ·cases h
theorem fresh_up {H H':Hp} {p:Addr} (e:Ex H H') (h:H' p=none):H p=none:=Evl.fresh_back e h
section
variable {P:Program} {w:World} {h:Heap} {K:PySem.W.Frag} {mg:Str→Option Value} {base:Heap}
abbrev N_parts_in:List Str:=["statement"]
theorem sc_parts_in:FnScope N_parts_in ["statement"] (defScope sd_parts_in):=⟨rfl,rfl,rfl,by decide +kernel,rfl,by decide +kernel,by decide +kernel⟩
theorem ok_parts_in (T:Tx w h K mg):Ok P w K mg base 1 ("parts_in",none) ["statement"] (sp_parts_in K):=by
 obtain ⟨fd,F⟩:=F_parts_in T
 refine ⟨fd,?_,F.bindsN (fun _ _ _ _ _ _ us hl=>match us,hl with | [_],_=>rfl),F.kp⟩
 obtain ⟨tm_MOST_STATEMENTS,m_MOST_STATEMENTS⟩:=i_MOST_STATEMENTS T
 refine F.ok sc_parts_in (fun vs H Q E h=>?_) (fun cdv A outer s H vs Q E hr h=>?_)
 ·obtain ⟨F0,v,d,loops,rfl,xF,hd,hs,q⟩:=h
  rfl
 ·obtain ⟨F0,v,d,loops,rfl,xF,hd,hs,q⟩:=h
  refine ⟨_,PSs.nox (pss_cons (ps_if (pt_cmpR op_eq (pe_ix ix_tup (pv 0) pe_int (fun _ _=>rfl)) pe_str (nomark _)) (pss_one (ps_ret (pe_callTy call_list_of rfl (fr_list T) b_list (pa_cons (pe_slice sl_tupA (pe_ix ix_tup (pv 0) pe_int (fun _ _=>rfl)) po_none (po_some (pe_op op_add (pe_glob (v:=.int 400) rfl m_MOST_STATEMENTS ⟨_,rfl⟩) pe_int))) pa_nil)))) pss_nil) (pss_cons (ps_if (pt_cmpR op_in_seq (pe_ix ix_tup (pv 0) pe_int (fun _ _=>rfl)) (pe_glob (v:=.ref (He.ga K "NAMED")) rfl (g_NAMED T) rfl) (by rfl)) (pss_one (ps_ret (pe_callTy call_list_of rfl (fr_list T) b_list (pa_cons (pe_slice sl_tupA (pv 0) (po_some pe_int) po_none) pa_nil)))) pss_nil) (pss_one (ps_ret (pe_ifExp (pt_cmpR op_in_seq (pe_ix ix_tup (pv 0) pe_int (fun _ _=>rfl)) (pe_tup (pa_cons pe_str (pa_cons pe_str pa_nil))) (by rfl)) (pe_callTy call_list_of rfl (fr_list T) b_list (pa_cons (pe_slice sl_tupA (pv 0) (po_some pe_int) po_none) pa_nil)) (pe_lst pa_nil)))))),?_⟩
  obtain ⟨k,r,n,rfl,e1,hn,hs⟩:=isStm_shape hs
  obtain ⟨a,xs,rfl,hS,hA⟩:=dp_tup hd
  have hS:=Evl.ex_t xF hS
  cases hA with
  | @cons v0 xr _ _ h0 hA =>
  obtain rfl:=dp_str h0
  refine ⟨_,rfl,a,_,_,_,rfl,rfl,hS,at0,rfl,_,rfl,ite_of (fun h1=>?_) (fun h1=>?_)⟩
  ·have hk:k="seq":=V.str.inj (of_decide_eq_true h1)
   subst hk
   have n2:=seq_two e1
   have nn:¬ (("seq":Str)∈kNamed):=by decide +kernel
   have nj:¬ (("seq":Str)∈kJumps):=by decide +kernel
   rw [if_neg nn,if_neg nj,if_neg (fun z=>z rfl)] at hs
   cases hA with
   | nil=>simp at hn;omega
   | @cons v1 xr d1 dr g1 hA =>
   obtain ⟨ps,rfl⟩:∃ ps,d1=.tuple ps:=by cases d1<;>first | exact ⟨_,rfl⟩ | cases hs
   obtain ⟨b,ys,rfl,gS,gA⟩:=dp_tup g1
   have gS:=Evl.ex_t xF gS
   refine ⟨_,rfl,a,_,_,_,rfl,rfl,hS,at1,_,_,rfl,rfl,_,rfl,?_⟩
   refine sl_any (lo:=none) gS fun p H1 x1 s1=>?_
   refine ⟨p,_,rfl,.inr s1,fun l hl=>q l _ _ (fresh_up x1 hl) (exu x1 hl) upd_same ?_⟩
   rw [show ((400:Int) + 1)=((401:Nat):Int) from rfl,cut_to]
   exact dpA_take 401 gA
  have hk:¬ k="seq":=fun e=>by
   have z:decide (V.str k=V.str "seq")=true:=decide_eq_true (by rw [e])
   rw [z] at h1
   cases h1
  refine ⟨_,rfl,a,_,_,_,rfl,rfl,hS,at0,He.ga K "NAMED",_,rfl,.inr (t_NAMED T _),rfl,flat_strs kNamed,_,rfl,ite_of (fun h2=>?_) (fun h2=>?_)⟩
  ·have h2:inV (.str k) (kNamed.map V.str)=true:=h2
   rw [inV_strs] at h2
   have hm:=of_decide_eq_true h2
   refine ⟨_,rfl,_,rfl,?_⟩
   dsimp only [tNoPart]
   refine sl_any (hi:=none) hS fun p H1 x1 s1=>?_
   refine ⟨p,_,rfl,.inr s1,fun l hl=>q l _ _ (fresh_up x1 hl) (exu x1 hl) upd_same ?_⟩
   rw [show (2:Int)=((2:Nat):Int) from rfl,cut_from]
   show DpAll K F0 (xr.drop 1) (partsD (.tuple (.str k::r)))
   rw [show partsD (.tuple (.str k::r))=r.drop 1 from by simp only [partsD,if_neg hk,if_pos hm]]
   exact dpA_drop 1 hA
  have h2:inV (.str k) (kNamed.map V.str)=false:=h2
  rw [inV_strs] at h2
  have hm:¬ k∈kNamed:=of_decide_eq_false h2
  refine ⟨_,rfl,a,_,_,_,rfl,rfl,hS,at0,sz (by decide),fun p0 hp0=>⟨p0,_,rfl,.inr (Evl.st_of upd_same),rfl,flat_strs ["try","final"],_,rfl,ite_of (fun h3=>?_) (fun h3=>?_)⟩⟩
  ·have h3:inV (.str k) ((["try","final"]:List Str).map V.str)=true:=h3
   rw [inV_strs] at h3
   have ht:k="try"∨k="final":=by simpa using of_decide_eq_true h3
   have x0:Ex H (upd H p0 (.tup [.str "try",.str "final"])):=exu (Evl.Ex.refl H) hp0
   refine ⟨_,rfl,_,rfl,?_⟩
   dsimp only [tNoPart]
   refine sl_any (hi:=none) (Evl.ex_t x0 hS) fun p H1 x1 s1=>?_
   have x2:=x0.trans x1
   refine ⟨p,_,rfl,.inr s1,fun l hl=>q l _ _ (fresh_up x2 hl) (exu x2 hl) upd_same ?_⟩
   rw [show (1:Int)=((1:Nat):Int) from rfl,cut_from]
   show DpAll K F0 xr (partsD (.tuple (.str k::r)))
   rw [show partsD (.tuple (.str k::r))=r from by simp only [partsD,if_neg hk,if_neg hm,if_pos ht]]
   exact hA
  ·have h3:inV (.str k) ((["try","final"]:List Str).map V.str)=false:=h3
   rw [inV_strs] at h3
   have ht:¬ (k="try"∨k="final"):=by simpa using of_decide_eq_false h3
   have x0:Ex H (upd H p0 (.tup [.str "try",.str "final"])):=exu (Evl.Ex.refl H) hp0
   refine ⟨sz (by decide),fun l hl=>q l _ _ (fresh_up x0 hl) (exu x0 hl) upd_same ?_⟩
   rw [show partsD (.tuple (.str k::r))=[] from by simp only [partsD,if_neg hk,if_neg hm,if_neg ht]]
   exact .nil
end
end
section
def fl_Code (v0 v1 v2 v3 v4:V):List (Str×V):=[("statements",v0),("kinds",v1),("labels",v2),("parents",v3),("children",v4)]
theorem fl_Code_statements (v0 v1 v2 v3 v4:V):(fl_Code v0 v1 v2 v3 v4).lookup ("statements":Str)=some v0:=by kernel_rfl
theorem fl_Code_kinds (v0 v1 v2 v3 v4:V):(fl_Code v0 v1 v2 v3 v4).lookup ("kinds":Str)=some v1:=by kernel_rfl
theorem fl_Code_labels (v0 v1 v2 v3 v4:V):(fl_Code v0 v1 v2 v3 v4).lookup ("labels":Str)=some v2:=by kernel_rfl
theorem fl_Code_parents (v0 v1 v2 v3 v4:V):(fl_Code v0 v1 v2 v3 v4).lookup ("parents":Str)=some v3:=by kernel_rfl
theorem fl_Code_children (v0 v1 v2 v3 v4:V):(fl_Code v0 v1 v2 v3 v4).lookup ("children":Str)=some v4:=by kernel_rfl
theorem fm_Code_check (v0 v1 v2 v3 v4:V):(fl_Code v0 v1 v2 v3 v4).lookup ("check":Str)=none:=by kernel_rfl
theorem fm_Code_keep (v0 v1 v2 v3 v4:V):(fl_Code v0 v1 v2 v3 v4).lookup ("keep":Str)=none:=by kernel_rfl
theorem fm_Code_check_number (v0 v1 v2 v3 v4:V):(fl_Code v0 v1 v2 v3 v4).lookup ("check_number":Str)=none:=by kernel_rfl
theorem fm_Code_kind (v0 v1 v2 v3 v4:V):(fl_Code v0 v1 v2 v3 v4).lookup ("kind":Str)=none:=by kernel_rfl
theorem fm_Code_entry_of (v0 v1 v2 v3 v4:V):(fl_Code v0 v1 v2 v3 v4).lookup ("entry_of":Str)=none:=by kernel_rfl
theorem fm_Code_is_place (v0 v1 v2 v3 v4:V):(fl_Code v0 v1 v2 v3 v4).lookup ("is_place":Str)=none:=by kernel_rfl
theorem fm_Code_parts (v0 v1 v2 v3 v4:V):(fl_Code v0 v1 v2 v3 v4).lookup ("parts":Str)=none:=by kernel_rfl
theorem fm_Code_places (v0 v1 v2 v3 v4:V):(fl_Code v0 v1 v2 v3 v4).lookup ("places":Str)=none:=by kernel_rfl
theorem fm_Code_entry (v0 v1 v2 v3 v4:V):(fl_Code v0 v1 v2 v3 v4).lookup ("entry":Str)=none:=by kernel_rfl
theorem fi_Code_0 (v0:V):putF "statements" v0 ([]:List (Str×V))=([(("statements":Str),v0)]:List (Str×V)):=by kernel_rfl
theorem fi_Code_1 (v0 v1:V):putF "kinds" v1 ([(("statements":Str),v0)]:List (Str×V))=([(("statements":Str),v0),(("kinds":Str),v1)]:List (Str×V)):=by kernel_rfl
theorem fi_Code_2 (v0 v1 v2:V):putF "labels" v2 ([(("statements":Str),v0),(("kinds":Str),v1)]:List (Str×V))=([(("statements":Str),v0),(("kinds":Str),v1),(("labels":Str),v2)]:List (Str×V)):=by kernel_rfl
theorem fi_Code_3 (v0 v1 v2 v3:V):putF "parents" v3 ([(("statements":Str),v0),(("kinds":Str),v1),(("labels":Str),v2)]:List (Str×V))=([(("statements":Str),v0),(("kinds":Str),v1),(("labels":Str),v2),(("parents":Str),v3)]:List (Str×V)):=by kernel_rfl
theorem fi_Code_4 (v0 v1 v2 v3 v4:V):putF "children" v4 ([(("statements":Str),v0),(("kinds":Str),v1),(("labels":Str),v2),(("parents":Str),v3)]:List (Str×V))=([(("statements":Str),v0),(("kinds":Str),v1),(("labels":Str),v2),(("parents":Str),v3),(("children":Str),v4)]:List (Str×V)):=by kernel_rfl
end
section
structure Row where
 d:PyData
 par:Option Nat
 ch:List Nat
def kindD:PyData→Str
 | .tuple (.str k::_)=>k
 | _=>""
def kLab:List Str:=kNamed++kJumps
def labD:PyData→V
 | .tuple (.str k::r)=>if k∈kLab then (match r with
   | .str x::_=>.str x
   | .int n::_=>.int n
   | _=>.non) else .non
 | _=>.non
def parV:Option Nat→V
 | none=>.non
 | some i=>.int (i:Int)
def intsV (l:List Nat):List V:=l.map fun n:Nat=>V.int (n:Int)
structure CAd where
 p:Addr
 dx:Addr
 a1:Addr
 a2:Addr
 a3:Addr
 a4:Addr
 a5:Addr
 cs:List Addr
def CAd.all (A:CAd):List Addr:=A.p::A.a1::A.a2::A.a3::A.a4::A.a5::A.cs
def cFs (A:CAd):List (Str×V):=fl_Code (.ref A.a1) (.ref A.a2) (.ref A.a3) (.ref A.a4) (.ref A.a5)
structure CL (K:PySem.W.Frag) (H:Hp) (A:CAd) (L1 L2 L3 L4:List V) (Cs:List (List V)):Prop where
 ob:H A.p=some (.ins (He.ga K "Code") A.dx (cFs A))
 h1:H A.a1=some (.lst L1)
 h2:H A.a2=some (.lst L2)
 h3:H A.a3=some (.lst L3)
 h4:H A.a4=some (.lst L4)
 h5:H A.a5=some (.lst (A.cs.map V.ref))
 cl:A.cs.length=Cs.length
 cc:∀ (i:Nat) (c:Addr) (x:List V),A.cs[i]?=some c→Cs[i]?=some x→H c=some (.lst x)
 nd:A.all.Nodup
section
variable {K:PySem.W.Frag} {F H H':Hp} {A:CAd} {L1 L2 L3 L4:List V} {Cs:List (List V)}
theorem CL.ex (x:CL K H A L1 L2 L3 L4 Cs) (e:Ex H H'):CL K H' A L1 L2 L3 L4 Cs :=
 ⟨e _ _ x.ob,e _ _ x.h1,e _ _ x.h2,e _ _ x.h3,e _ _ x.h4,e _ _ x.h5,x.cl,fun i c y h1 h2=>e _ _ (x.cc i c y h1 h2),x.nd⟩
theorem CL.ne (x:CL K H A L1 L2 L3 L4 Cs) :
  (A.p≠A.a1∧A.p≠A.a2∧A.p≠A.a3∧A.p≠A.a4∧A.p≠A.a5∧A.p ∉ A.cs)∧(A.a1≠A.a2∧A.a1≠A.a3∧A.a1≠A.a4∧A.a1≠A.a5∧A.a1 ∉ A.cs) ∧
  (A.a2≠A.a3∧A.a2≠A.a4∧A.a2≠A.a5∧A.a2 ∉ A.cs)∧(A.a3≠A.a4∧A.a3≠A.a5∧A.a3 ∉ A.cs)∧(A.a4≠A.a5∧A.a4 ∉ A.cs)∧A.a5 ∉ A.cs∧A.cs.Nodup:=by
 have z:=x.nd
 simp only [CAd.all,List.nodup_cons,List.mem_cons,not_or] at z
 exact ⟨z.1,z.2.1,z.2.2.1,z.2.2.2.1,z.2.2.2.2.1,z.2.2.2.2.2⟩
theorem CL.there (x:CL K H A L1 L2 L3 L4 Cs) {b:Addr} (hb:b∈A.all):∃ o,H b=some o:=by
 simp only [CAd.all,List.mem_cons] at hb
 rcases hb with rfl | rfl | rfl | rfl | rfl | rfl | hb
 ·exact ⟨_,x.ob⟩
 ·exact ⟨_,x.h1⟩
 ·exact ⟨_,x.h2⟩
 ·exact ⟨_,x.h3⟩
 ·exact ⟨_,x.h4⟩
 ·exact ⟨_,x.h5⟩
 ·obtain ⟨i,hi⟩:=List.mem_iff_getElem?.mp hb
  have l:i<Cs.length:=by rw [← x.cl];exact (List.getElem?_eq_some_iff.mp hi).1
  exact ⟨_,x.cc i b _ hi (List.getElem?_eq_getElem l)⟩
theorem CL.fresh (x:CL K H A L1 L2 L3 L4 Cs) {q:Addr} (h:H q=none):q ∉ A.all:=fun z=>by
 obtain ⟨o,e⟩:=x.there z
 rw [h] at e
 cases e
theorem CL.off (x:CL K H A L1 L2 L3 L4 Cs) {q:Addr} {o:HO} (h:q ∉ A.all):CL K (upd H q o) A L1 L2 L3 L4 Cs:=by
 have n:∀ {b:Addr},b∈A.all→b≠q:=fun hb e=>h (e ▸ hb)
 have mc:∀ {c:Addr},c∈A.cs→c∈A.all:=fun hc=>by simp [CAd.all,hc]
 exact ⟨by rw [upd_ne (n (by simp [CAd.all]))];exact x.ob,by rw [upd_ne (n (by simp [CAd.all]))];exact x.h1,by rw [upd_ne (n (by simp [CAd.all]))];exact x.h2,by rw [upd_ne (n (by simp [CAd.all]))];exact x.h3,
  by rw [upd_ne (n (by simp [CAd.all]))];exact x.h4,by rw [upd_ne (n (by simp [CAd.all]))];exact x.h5,x.cl,fun i c y h1 h2=>by rw [upd_ne (n (mc (List.mem_of_getElem? h1)))];exact x.cc i c y h1 h2,x.nd⟩
theorem nin {c b:Addr} {l:List Addr} (h:b ∉ l) (hc:c∈l):c≠b:=fun e=>h (e ▸ hc)
theorem CL.s1 (x:CL K H A L1 L2 L3 L4 Cs) (y:List V):CL K (upd H A.a1 (.lst y)) A y L2 L3 L4 Cs:=by
 obtain ⟨⟨n1,n2,n3,n4,n5,n6⟩,⟨m12,m13,m14,m15,m1⟩,⟨m23,m24,m25,m2⟩,⟨m34,m35,m3⟩,⟨m45,m4⟩,m5,m6⟩:=x.ne
 exact ⟨by rw [upd_ne n1];exact x.ob,upd_same,by rw [upd_ne m12.symm];exact x.h2,by rw [upd_ne m13.symm];exact x.h3,by rw [upd_ne m14.symm];exact x.h4,by rw [upd_ne m15.symm];exact x.h5,x.cl,
  fun i c z g1 g2=>by rw [upd_ne (nin m1 (List.mem_of_getElem? g1))];exact x.cc i c z g1 g2,x.nd⟩
theorem CL.s2 (x:CL K H A L1 L2 L3 L4 Cs) (y:List V):CL K (upd H A.a2 (.lst y)) A L1 y L3 L4 Cs:=by
 obtain ⟨⟨n1,n2,n3,n4,n5,n6⟩,⟨m12,m13,m14,m15,m1⟩,⟨m23,m24,m25,m2⟩,⟨m34,m35,m3⟩,⟨m45,m4⟩,m5,m6⟩:=x.ne
 exact ⟨by rw [upd_ne n2];exact x.ob,by rw [upd_ne m12];exact x.h1,upd_same,by rw [upd_ne m23.symm];exact x.h3,by rw [upd_ne m24.symm];exact x.h4,by rw [upd_ne m25.symm];exact x.h5,x.cl,
  fun i c z g1 g2=>by rw [upd_ne (nin m2 (List.mem_of_getElem? g1))];exact x.cc i c z g1 g2,x.nd⟩
theorem CL.s3 (x:CL K H A L1 L2 L3 L4 Cs) (y:List V):CL K (upd H A.a3 (.lst y)) A L1 L2 y L4 Cs:=by
 obtain ⟨⟨n1,n2,n3,n4,n5,n6⟩,⟨m12,m13,m14,m15,m1⟩,⟨m23,m24,m25,m2⟩,⟨m34,m35,m3⟩,⟨m45,m4⟩,m5,m6⟩:=x.ne
 exact ⟨by rw [upd_ne n3];exact x.ob,by rw [upd_ne m13];exact x.h1,by rw [upd_ne m23];exact x.h2,upd_same,by rw [upd_ne m34.symm];exact x.h4,by rw [upd_ne m35.symm];exact x.h5,x.cl,
  fun i c z g1 g2=>by rw [upd_ne (nin m3 (List.mem_of_getElem? g1))];exact x.cc i c z g1 g2,x.nd⟩
theorem CL.s4 (x:CL K H A L1 L2 L3 L4 Cs) (y:List V):CL K (upd H A.a4 (.lst y)) A L1 L2 L3 y Cs:=by
 obtain ⟨⟨n1,n2,n3,n4,n5,n6⟩,⟨m12,m13,m14,m15,m1⟩,⟨m23,m24,m25,m2⟩,⟨m34,m35,m3⟩,⟨m45,m4⟩,m5,m6⟩:=x.ne
 exact ⟨by rw [upd_ne n4];exact x.ob,by rw [upd_ne m14];exact x.h1,by rw [upd_ne m24];exact x.h2,by rw [upd_ne m34];exact x.h3,upd_same,by rw [upd_ne m45.symm];exact x.h5,x.cl,
  fun i c z g1 g2=>by rw [upd_ne (nin m4 (List.mem_of_getElem? g1))];exact x.cc i c z g1 g2,x.nd⟩
theorem nd_get {α:Type} {l:List α} (h:l.Nodup) {i j:Nat} {x:α} (hi:l[i]?=some x) (hj:l[j]?=some x):i=j:=by
 obtain ⟨h1,e1⟩:=List.getElem?_eq_some_iff.mp hi
 obtain ⟨h2,e2⟩:=List.getElem?_eq_some_iff.mp hj
 exact (List.getElem_inj h).mp (e1.trans e2.symm)
theorem CL.child (x:CL K H A L1 L2 L3 L4 Cs) {i:Nat} {c:Addr} (hc:A.cs[i]?=some c) (y:List V):CL K (upd H c (.lst y)) A L1 L2 L3 L4 (Cs.set i y):=by
 obtain ⟨⟨n1,n2,n3,n4,n5,n6⟩,⟨m12,m13,m14,m15,m1⟩,⟨m23,m24,m25,m2⟩,⟨m34,m35,m3⟩,⟨m45,m4⟩,m5,m6⟩:=x.ne
 have hm:c∈A.cs:=List.mem_of_getElem? hc
 refine ⟨by rw [upd_ne (nin n6 hm).symm];exact x.ob,by rw [upd_ne (nin m1 hm).symm];exact x.h1,by rw [upd_ne (nin m2 hm).symm];exact x.h2,by rw [upd_ne (nin m3 hm).symm];exact x.h3,by rw [upd_ne (nin m4 hm).symm];exact x.h4,
  by rw [upd_ne (nin m5 hm).symm];exact x.h5,by rw [List.length_set];exact x.cl,fun j c' z g1 g2=>?_,x.nd⟩
 by_cases e:i=j
 ·subst e
  rw [hc] at g1
  cases g1
  have l:i<Cs.length:=by rw [← x.cl];exact (List.getElem?_eq_some_iff.mp hc).1
  rw [List.getElem?_set_self l] at g2
  cases g2
  exact upd_same
 ·rw [List.getElem?_set_ne e] at g2
  have nc:c'≠c:=fun q=>e (nd_get m6 hc (by rw [← q];exact g1))
  rw [upd_ne nc]
  exact x.cc j c' z g1 g2
theorem CL.push (x:CL K H A L1 L2 L3 L4 Cs) {c:Addr} (hc:H c=none):CL K (upd (upd H c (.lst [])) A.a5 (.lst (A.cs.map V.ref++[.ref c]))) { A with cs:=A.cs++[c] } L1 L2 L3 L4 (Cs++[[]]):=by
 obtain ⟨⟨n1,n2,n3,n4,n5,n6⟩,⟨m12,m13,m14,m15,m1⟩,⟨m23,m24,m25,m2⟩,⟨m34,m35,m3⟩,⟨m45,m4⟩,m5,m6⟩:=x.ne
 have f:=x.fresh hc
 have y:=x.off (o:=.lst []) f
 simp only [CAd.all,List.mem_cons,not_or] at f
 obtain ⟨f0,f1,f2,f3,f4,f5,f6⟩:=f
 refine ⟨by rw [upd_ne n5];exact y.ob,by rw [upd_ne m15];exact y.h1,by rw [upd_ne m25];exact y.h2,by rw [upd_ne m35];exact y.h3,by rw [upd_ne m45];exact y.h4,?_,by simp [x.cl],fun i c' z g1 g2=>?_,?_⟩
 ·show upd _ A.a5 _ A.a5=some (HO.lst ((A.cs++[c]).map V.ref))
  rw [upd_same,List.map_append]<;>rfl
 ·have g1:(A.cs++[c])[i]?=some c':=g1
  rcases Nat.lt_or_ge i A.cs.length with l | l
  ·rw [List.getElem?_append_left l] at g1
   rw [List.getElem?_append_left (by rw [← x.cl];exact l)] at g2
   rw [upd_ne (nin m5 (List.mem_of_getElem? g1))]
   exact y.cc i c' z g1 g2
  ·rw [List.getElem?_append_right l] at g1
   rw [List.getElem?_append_right (by rw [← x.cl];exact l)] at g2
   have e1:i - A.cs.length=0:=by
    have:=(List.getElem?_eq_some_iff.mp g1).1
    simp at this
    omega
   rw [e1] at g1
   rw [← x.cl,e1] at g2
   cases g1
   cases g2
   rw [upd_ne f5]
   exact upd_same
 ·show (A.p::A.a1::A.a2::A.a3::A.a4::A.a5::(A.cs++[c])).Nodup
  simp only [List.nodup_cons,List.mem_cons,List.mem_append,List.mem_singleton,not_or,List.not_mem_nil,or_false]
  refine ⟨⟨n1,n2,n3,n4,n5,n6,fun e=>f0 e.symm⟩,⟨m12,m13,m14,m15,m1,fun e=>f1 e.symm⟩,⟨m23,m24,m25,m2,fun e=>f2 e.symm⟩,⟨m34,m35,m3,fun e=>f3 e.symm⟩,⟨m45,m4,fun e=>f4 e.symm⟩,⟨m5,fun e=>f5 e.symm⟩,?_⟩
  exact List.nodup_append.mpr ⟨m6,List.nodup_cons.mpr ⟨List.not_mem_nil,List.nodup_nil⟩,fun a ha b hb=>by rw [List.mem_singleton.mp hb];exact fun e=>f6 (e ▸ ha)⟩
end
def CodeH (K:PySem.W.Frag) (F H:Hp) (A:CAd) (rows:List Row):Prop :=
 ∃ vs,CL K H A vs (rows.map fun r=>V.str (kindD r.d)) (rows.map fun r=>labD r.d) (rows.map fun r=>parV r.par) (rows.map fun r=>intsV r.ch)∧DpAll K F vs (rows.map Row.d)
def addCh (rows:List Row) (i n:Nat):List Row:=rows.modify i fun r=>{ r with ch:=r.ch++[n] }
def addRow (rows:List Row) (d:PyData) (par:Option Nat):List Row:=(match par with
 | none=>rows
 | some i=>addCh rows i rows.length)++[⟨d,par,[]⟩]
def sp_Code_check (K:PySem.W.Frag):Sp:=fun vs H Q _=>∃ (v0 v:V) (d:PyData) (n deep loops blocks:Int),vs=[v0,v,.int n,.int deep,.int loops,.int blocks]∧Dp K H v d∧PyData.canLay0 d=true∧szD d∧n<400∧deep≤100∧blocks≤25∧isStm d loops=true ∧
 ∀ H',Ex H H'→Q .non H'
section
variable {P:Program} {w:World} {h:Heap} {K:PySem.W.Frag} {mg:Str→Option Value} {base:Heap}
abbrev N_Code_check:List Str:=["self","value","number","deep","loops","blocks"]
theorem sc_Code_check:FnScope N_Code_check ["self","value","number","deep","loops","blocks"] (defScope sd_Code_check):=⟨rfl,rfl,rfl,by decide +kernel,rfl,by decide +kernel,by decide +kernel⟩
theorem ok_Code_check (T:Tx w h K mg):Ok P w K mg base 4 ("Code",some "check") ["self","value","number","deep","loops","blocks"] (sp_Code_check K):=by
 obtain ⟨fd,F⟩:=F_Code_check T
 refine ⟨fd,?_,F.bindsN (fun _ _ _ _ _ _ us hl=>match us,hl with | [_,_,_,_,_,_],_=>rfl),F.kp⟩
 obtain ⟨fd_is_statement,G_is_statement,bi_is_statement,kp_is_statement⟩:=ok_is_statement (P:=P) (base:=base) T
 obtain ⟨tm_MOST_BLOCKS,m_MOST_BLOCKS⟩:=i_MOST_BLOCKS T
 obtain ⟨tm_MOST_DEEP,m_MOST_DEEP⟩:=i_MOST_DEEP T
 obtain ⟨tm_MOST_STATEMENTS,m_MOST_STATEMENTS⟩:=i_MOST_STATEMENTS T
 refine F.ok sc_Code_check (fun vs H Q E h=>?_) (fun cdv A outer s H vs Q E hr h=>?_)
 ·obtain ⟨v0,v,d,n,deep,loops,blocks,rfl,hd,hc,hz,l1,l2,l3,hs,q⟩:=h
  rfl
 ·obtain ⟨v0,v,d,n,deep,loops,blocks,rfl,hd,hc,hz,l1,l2,l3,hs,q⟩:=h
  refine ⟨_,PSs.nox (pss_cons (ps_if (pt_cmpR op_ge (pv 2) (pe_glob (v:=.int 400) rfl m_MOST_STATEMENTS ⟨_,rfl⟩) (nomark _)) (pss_one ps_never) pss_nil) (pss_cons (ps_if (pt_cmpR op_gt (pv 3) (pe_glob (v:=.int 100) rfl m_MOST_DEEP ⟨_,rfl⟩) (nomark _)) (pss_one ps_never) pss_nil) (pss_cons (ps_if (pt_cmpR op_gt (pv 5) (pe_glob (v:=.int 25) rfl m_MOST_BLOCKS ⟨_,rfl⟩) (nomark _)) (pss_one ps_never) pss_nil) (pss_one (ps_if (pt_not (pt_val (pe_call G_is_statement (hr.mono (by decide)) rfl (g_is_statement T) kp_is_statement bi_is_statement .nil passF (pa_cons (pv 1) (pa_cons (pv 4) pa_nil))))) (pss_one ps_never) pss_nil))))),?_⟩
  refine ⟨_,rfl,_,_,rfl,rfl,_,rfl,itF (decide_eq_false (by omega)) ?_⟩
  refine ⟨_,rfl,_,_,rfl,rfl,_,rfl,itF (decide_eq_false (by omega)) ?_⟩
  refine ⟨_,rfl,_,_,rfl,rfl,_,rfl,itF (decide_eq_false (by omega)) ?_⟩
  refine ⟨_,rfl,_,rfl,v,d,loops,rfl,hd,hc,hz,fun H' x=>⟨_,rfl,itF (by rw [hs]<;>rfl) (q H' x)⟩⟩
end
end
section
theorem map_modify_same {α β:Type} (f:α→β) (g:α→α) (h:∀ x,f (g x)=f x) (l:List α) (i:Nat):(l.modify i g).map f=l.map f:=by
 apply List.ext_getElem?
 intro j
 rw [List.getElem?_map,List.getElem?_map,List.getElem?_modify]
 cases l[j]? with
 | none=>rfl
 | some x=>by_cases e:i=j<;>simp [e,h]
def noteCh (n:Nat) (r:Row):Row:={ r with ch:=r.ch++[n] }
theorem addCh_eq (rows:List Row) (i n:Nat):addCh rows i n=rows.modify i (noteCh n):=rfl
theorem addCh_len (rows:List Row) (i n:Nat):(addCh rows i n).length=rows.length:=by simp [addCh]
theorem addCh_map {β:Type} (f:Row→β) (rows:List Row) (i n:Nat) (h:∀ r,f (noteCh n r)=f r):(addCh rows i n).map f=rows.map f:=map_modify_same f (noteCh n) h rows i
theorem addCh_ch (rows:List Row) (i n:Nat) (r:Row) (h:rows[i]?=some r):(addCh rows i n).map (fun r=>intsV r.ch)=(rows.map fun r=>intsV r.ch).set i (intsV r.ch++[.int (n:Int)]):=by
 apply List.ext_getElem?
 intro j
 rw [addCh_eq,List.getElem?_map,List.getElem?_modify,List.getElem?_set,List.getElem?_map]
 have li:i<rows.length:=(List.getElem?_eq_some_iff.mp h).1
 by_cases e:i=j
 ·subst e
  rw [h]
  simp [noteCh,intsV,li]
 ·cases rows[j]?<;>simp [e]
def stepRows (rows:List Row) (par:Option Nat):List Row:=match par with
 | none=>rows
 | some i=>addCh rows i rows.length
theorem stepRows_len (rows:List Row) (par:Option Nat):(stepRows rows par).length=rows.length:=by
 cases par with
 | none=>rfl
 | some i=>exact addCh_len _ _ _
def sp_Code_keep (K:PySem.W.Frag):Sp:=fun vs H Q _=>∃ (F:Hp) (A:CAd) (rows:List Row) (v:V) (d:PyData) (loops:Int) (par:Option Nat),vs=[.ref A.p,v,parV par]∧Ex F H∧CodeH K F H A rows∧(∀ b∈A.all,F b=none)∧Dp K F v d∧isStm d loops=true ∧
 rows.length<1000∧(∀ i,par=some i→∃ r,rows[i]?=some r∧r.ch.length<1000) ∧
 ∀ c H',H c=none→CodeH K F H' { A with cs:=A.cs++[c] } (addRow rows d par)→(∀ b o,H b=some o→b ∉ A.all→H' b=some o)→Q .non H'
theorem stm_lab {k:Str} {r:List PyData} {loops:Int} (h:isStm (.tuple (.str k::r)) loops=true) (hk:k∈kLab):(∃ x r',r=.str x::r')∨∃ n r',r=.int n::r':=by
 obtain ⟨k',r',n,e,e1,hn,hs⟩:=isStm_shape h
 cases e
 rcases List.mem_append.mp hk with hk | hk
 ·rw [if_pos hk] at hs
  cases r with
  | nil=>cases hs
  | cons d r'=>cases d with
   | str x=>exact .inl ⟨x,r',rfl⟩
   | _=>cases hs
 ·by_cases h2:k∈kNamed
  ·rw [if_pos h2] at hs
   cases r with
   | nil=>cases hs
   | cons d r'=>cases d with
    | str x=>exact .inl ⟨x,r',rfl⟩
    | _=>cases hs
  ·rw [if_neg h2,if_pos hk] at hs
   cases r with
   | nil=>cases hs
   | cons d r'=>cases d with
    | int x=>exact .inr ⟨x,r',rfl⟩
    | _=>cases hs
theorem in_all1 (A:CAd):A.a1∈A.all:=by simp [CAd.all]
theorem in_all2 (A:CAd):A.a2∈A.all:=by simp [CAd.all]
theorem in_all3 (A:CAd):A.a3∈A.all:=by simp [CAd.all]
theorem in_all4 (A:CAd):A.a4∈A.all:=by simp [CAd.all]
theorem in_all5 (A:CAd):A.a5∈A.all:=by simp [CAd.all]
theorem in_allc {A:CAd} {c:Addr} (h:c∈A.cs):c∈A.all:=by simp [CAd.all,h]
section
variable {P:Program} {w:World} {h:Heap} {K:PySem.W.Frag} {mg:Str→Option Value} {base:Heap}
abbrev N_Code_keep:List Str:=["self","statement","parent"]
theorem sc_Code_keep:FnScope N_Code_keep ["self","statement","parent"] (defScope sd_Code_keep):=⟨rfl,rfl,rfl,by decide +kernel,rfl,by decide +kernel,by decide +kernel⟩
theorem ok_Code_keep (T:Tx w h K mg):Ok P w K mg base 1 ("Code",some "keep") ["self","statement","parent"] (sp_Code_keep K):=by
 obtain ⟨fd,F⟩:=F_Code_keep T
 refine ⟨fd,?_,F.bindsN (fun _ _ _ _ _ _ us hl=>match us,hl with | [_,_,_],_=>rfl),F.kp⟩
 refine F.ok sc_Code_keep (fun vs H Q E h=>?_) (fun cdv A outer s H vs Q E hr h=>?_)
 ·obtain ⟨F0,A,rows,v,d,loops,par,rfl,xF,⟨L1,C,dL⟩,nw,hd,hs,hl,hpar,q⟩:=h
  rfl
 ·obtain ⟨F0,A,rows,v,d,loops,par,rfl,xF,⟨L1,C,dL⟩,nw,hd,hs,hl,hpar,q⟩:=h
  refine ⟨_,PSs.nox (Evl.pss_cut (ps_if (pt_cmpR op_notN (pv 2) pe_non (nomark _)) (pss_one (ps_expr (pe_bm PySem.F.plainAttrs_list PySem.F.slot_list_append PySem.F.type_list_append mt_append (pe_ix ix_list (pe_fld (pv 0) rfl) (pv 2) (fun _ _=>rfl)) (pa_cons (pe_callB call_len_seq rfl (fr_len T) b_len (pa_cons (pe_fld (pv 0) rfl) pa_nil)) pa_nil)))) pss_nil) (pss_cons (ps_expr (pe_bm PySem.F.plainAttrs_list PySem.F.slot_list_append PySem.F.type_list_append mt_append (pe_fld (pv 0) rfl) (pa_cons (pv 1) pa_nil))) (pss_cons (ps_expr (pe_bm PySem.F.plainAttrs_list PySem.F.slot_list_append PySem.F.type_list_append mt_append (pe_fld (pv 0) rfl) (pa_cons (pe_ix ix_tup (pv 1) pe_int (fun _ _=>rfl)) pa_nil))) (Evl.pss_cut (ps_expr (pe_bm PySem.F.plainAttrs_list PySem.F.slot_list_append PySem.F.type_list_append mt_append (pe_fld (pv 0) rfl) (pa_cons (pe_ifExp (pt_cmpR op_in_seq (pe_ix ix_tup (pv 1) pe_int (fun _ _=>rfl)) (pe_op op_catT (pe_glob (v:=.ref (He.ga K "NAMED")) rfl (g_NAMED T) rfl) (pe_glob (v:=.ref (He.ga K "JUMPS")) rfl (g_JUMPS T) rfl)) (by rfl)) (pe_ix ix_tup (pv 1) pe_int (fun _ _=>rfl)) pe_non) pa_nil))) (pss_cons (ps_expr (pe_bm PySem.F.plainAttrs_list PySem.F.slot_list_append PySem.F.type_list_append mt_append (pe_fld (pv 0) rfl) (pa_cons (pv 2) pa_nil))) (pss_one (ps_expr (pe_bm PySem.F.plainAttrs_list PySem.F.slot_list_append PySem.F.type_list_append mt_append (pe_fld (pv 0) rfl) (pa_cons (pe_lst pa_nil) pa_nil))))))))),?_⟩
  obtain ⟨k,r,n,rfl,_,_,_⟩:=isStm_shape hs
  obtain ⟨a,xs,rfl,hS,hA⟩:=dp_tup hd
  cases hA with
  | @cons v0 xr _ _ h0 hA =>
  obtain rfl:=dp_str h0
  refine ⟨fun σ' H'=>σ'=L2.start N_Code_keep [.ref A.p,.ref a,parV par]∧CL K H' A L1 (rows.map fun r=>V.str (kindD r.d)) (rows.map fun r=>labD r.d) (rows.map fun r=>parV r.par) ((stepRows rows par).map fun r=>intsV r.ch)∧Ex F0 H'∧(∀ b o,H b=some o→b ∉ A.all→H' b=some o)∧(∀ b,H' b=none→H b=none),?_,?_⟩
  ·refine ⟨_,rfl,rfl,_,rfl,ite_of (fun h1=>?_) (fun h1=>?_)⟩
   ·cases par with
    | none=>cases h1
    | some i =>
    obtain ⟨ri,e1,e2⟩:=hpar i rfl
    have li:i<A.cs.length:=by rw [C.cl,List.length_map];exact (List.getElem?_eq_some_iff.mp e1).1
    have hci:A.cs[i]?=some A.cs[i]:=List.getElem?_eq_getElem li
    have hcm:A.cs[i]∈A.cs:=List.getElem_mem li
    have hcc:=C.cc i _ _ hci (show (rows.map fun r=>intsV r.ch)[i]?=some (intsV ri.ch) from by rw [List.getElem?_map,e1]<;>rfl)
    refine ⟨_,rfl,A.p,_,_,_,_,rfl,C.ob,c_Code T,na_Code_children T,fl_Code_children _ _ _ _ _,_,rfl,A.a5,_,_,.ref A.cs[i],rfl,rfl,Evl.sq_of C.h5,atI_nat (by rw [List.getElem?_map,hci]<;>rfl),Or.inl ⟨rfl,_,Evl.sq_of hcc⟩,?_⟩
    refine ⟨_,rfl,A.p,_,_,_,_,rfl,C.ob,c_Code T,na_Code_kinds T,fl_Code_kinds _ _ _ _ _,A.a2,_,rfl,.inl (Evl.sq_of C.h2),A.cs[i],_,_,rfl,rfl,hcc,szl (by rw [intsV,List.length_map];omega),?_⟩
    refine ⟨rfl,?_,exm xF (nw _ (in_allc hcm)),fun b o e hb=>by rw [upd_ne (fun z=>hb (by rw [z];exact in_allc hcm))];exact e,fun b e=>?_⟩
    ·have y:=C.child hci (intsV ri.ch++[.int ((rows.map fun r=>V.str (kindD r.d)).length:Int)])
     have e3:(stepRows rows (some i)).map (fun r=>intsV r.ch)=(rows.map fun r=>intsV r.ch).set i (intsV ri.ch++[.int ((rows.map fun r=>V.str (kindD r.d)).length:Int)]):=by
      rw [List.length_map]
      exact addCh_ch rows i rows.length ri e1
     rw [e3]
     exact y
    ·by_cases z:b=A.cs[i]
     ·rw [z,upd_same] at e
      cases e
     ·rw [upd_ne z] at e
      exact e
   ·cases par with
    | some i=>cases h1
    | none=>exact ⟨rfl,C,xF,fun b o e _=>e,fun b e=>e⟩
  rintro σ' H1 ⟨rfl,C1,xF1,kp1,fr1⟩
  have es:(stepRows rows par).map (fun r=>V.str (kindD r.d))=rows.map (fun r=>V.str (kindD r.d)):=by cases par with
   | none=>rfl
   | some i=>exact addCh_map _ rows i _ fun _=>rfl
  have el:(stepRows rows par).map (fun r=>labD r.d)=rows.map (fun r=>labD r.d):=by cases par with
   | none=>rfl
   | some i=>exact addCh_map _ rows i _ fun _=>rfl
  have ep:(stepRows rows par).map (fun r=>parV r.par)=rows.map (fun r=>parV r.par):=by cases par with
   | none=>rfl
   | some i=>exact addCh_map _ rows i _ fun _=>rfl
  have ed:(stepRows rows par).map Row.d=rows.map Row.d:=by cases par with
   | none=>rfl
   | some i=>exact addCh_map _ rows i _ fun _=>rfl
  have l1:L1.length=rows.length:=by rw [dpA_len dL,List.length_map]
  refine ⟨_,rfl,A.p,_,_,_,_,rfl,C1.ob,c_Code T,na_Code_statements T,fl_Code_statements _ _ _ _ _,Or.inl ⟨rfl,_,Evl.sq_of C1.h1⟩,_,rfl,A.a1,_,_,rfl,rfl,C1.h1,szl (by omega),?_⟩
  have C2:=C1.s1 (L1++[.ref a])
  have xF2:=exm (o:=.lst (L1++[.ref a])) xF1 (nw _ (in_all1 A))
  refine ⟨_,rfl,A.p,_,_,_,_,rfl,C2.ob,c_Code T,na_Code_kinds T,fl_Code_kinds _ _ _ _ _,Or.inl ⟨rfl,_,Evl.sq_of C2.h2⟩,_,rfl,a,_,_,_,rfl,rfl,Evl.ex_t xF2 hS,at0,A.a2,_,_,rfl,rfl,C2.h2,szl (by rw [List.length_map];omega),?_⟩
  have C3:=C2.s2 (rows.map (fun r=>V.str (kindD r.d))++[.str k])
  have xF3:=exm (o:=.lst (rows.map (fun r=>V.str (kindD r.d))++[.str k])) xF2 (nw _ (in_all2 A))
  refine ⟨fun σ' H'=>σ'=L2.start N_Code_keep [.ref A.p,.ref a,parV par]∧CL K H' A (L1++[.ref a]) (rows.map (fun r=>V.str (kindD r.d))++[.str k]) (rows.map (fun r=>labD r.d)++[labD (.tuple (.str k::r))]) (rows.map fun r=>parV r.par) ((stepRows rows par).map fun r=>intsV r.ch)∧Ex F0 H'∧(∀ b o,H b=some o→b ∉ A.all→H' b=some o)∧(∀ b,H' b=none→H b=none),?_,?_⟩
  ·refine ⟨_,rfl,A.p,_,_,_,_,rfl,C3.ob,c_Code T,na_Code_labels T,fl_Code_labels _ _ _ _ _,Or.inl ⟨rfl,_,Evl.sq_of C3.h3⟩,_,rfl,a,_,_,_,rfl,rfl,Evl.ex_t xF3 hS,at0,He.ga K "NAMED",He.ga K "JUMPS",_,_,rfl,rfl,t_NAMED T _,t_JUMPS T _,(by simp),sz (by decide),(fun z=>by cases z),fun _ p0 hp0=>?_⟩
   have C4:=C3.off (o:=.tup (kLab.map V.str)) (C3.fresh hp0)
   have xF4:Ex F0 _:=exu (o:=.tup (kLab.map V.str)) xF3 hp0
   have fin:∀ (o1 o2 o4:HO) (H5:Hp),H5=upd (upd (upd (upd H1 A.a1 o1) A.a2 o2) p0 (.tup (kLab.map V.str))) A.a3 o4→(∀ b o,H b=some o→b ∉ A.all→H5 b=some o)∧(∀ b,H5 b=none→H b=none):=by
    intro o1 o2 o4 H5 e5
    subst e5
    have back:∀ {Hx:Hp} {q b:Addr} {o:HO},upd Hx q o b=none→Hx b=none:=fun {Hx q b o} e=>by
     by_cases z:b=q
     ·rw [z,upd_same] at e;cases e
     ·rw [upd_ne z] at e;exact e
    refine ⟨fun b o e hb=>?_,fun b e=>fr1 b (back (back (back (back e))))⟩
    have e1:=kp1 b o e hb
    have np:b≠p0:=fun z=>by
     have y:H1 p0=none:=by
      have y1:=back (back hp0)
      exact y1
     rw [z,y] at e1
     cases e1
    rw [upd_ne (fun z=>hb (by rw [z];exact in_all3 A)),upd_ne np,upd_ne (fun z=>hb (by rw [z];exact in_all2 A)),upd_ne (fun z=>hb (by rw [z];exact in_all1 A))]
    exact e1
   have tail:∀ u,u=labD (.tuple (.str k::r))→rAppend (.ref A.a3) [u] (upd (upd (upd H1 A.a1 (.lst (L1++[.ref a]))) A.a2 (.lst (rows.map (fun r=>V.str (kindD r.d))++[.str k]))) p0 (.tup (kLab.map V.str))) (fun _ H'=>L2.start N_Code_keep [.ref A.p,.ref a,parV par]=L2.start N_Code_keep [.ref A.p,.ref a,parV par]∧CL K H' A (L1++[.ref a]) (rows.map (fun r=>V.str (kindD r.d))++[.str k]) (rows.map (fun r=>labD r.d)++[labD (.tuple (.str k::r))]) (rows.map fun r=>parV r.par) ((stepRows rows par).map fun r=>intsV r.ch)∧Ex F0 H'∧(∀ b o,H b=some o→b ∉ A.all→H' b=some o)∧(∀ b,H' b=none→H b=none)):=by
    rintro u rfl
    obtain ⟨f1,f2⟩:=fin (.lst (L1++[.ref a])) (.lst (rows.map (fun r=>V.str (kindD r.d))++[.str k])) (.lst (rows.map (fun r=>labD r.d)++[labD (.tuple (.str k::r))])) _ rfl
    exact ⟨A.a3,_,_,rfl,rfl,C4.h3,szl (by rw [List.length_map];omega),rfl,C4.s3 _,exm xF4 (nw _ (in_all3 A)),f1,f2⟩
   refine ⟨p0,kLab.map V.str,rfl,.inr (Evl.st_of upd_same),rfl,flat_strs kLab,_,rfl,ite_of (fun h2=>?_) (fun h2=>?_)⟩
   ·have h2:inV (.str k) (kLab.map V.str)=true:=h2
    rw [inV_strs] at h2
    have hm:=of_decide_eq_true h2
    rcases stm_lab hs hm with ⟨x,r',rfl⟩ | ⟨x,r',rfl⟩
    ·cases hA with
     | @cons v1 xr' _ _ g1 hA =>
     obtain rfl:=dp_str g1
     refine ⟨_,rfl,a,_,_,_,rfl,rfl,Evl.ex_t xF4 hS,at1,tail _ ?_⟩
     simp only [labD,if_pos hm]
    ·cases hA with
     | @cons v1 xr' _ _ g1 hA =>
     obtain rfl:=dp_int g1
     refine ⟨_,rfl,a,_,_,_,rfl,rfl,Evl.ex_t xF4 hS,at1,tail _ ?_⟩
     simp only [labD,if_pos hm]
   ·have h2:inV (.str k) (kLab.map V.str)=false:=h2
    rw [inV_strs] at h2
    have hm:¬ k∈kLab:=of_decide_eq_false h2
    refine tail _ ?_
    simp only [labD,if_neg hm]
  rintro σ' H5 ⟨rfl,C5,xF5,kp5,fr5⟩
  refine ⟨_,rfl,A.p,_,_,_,_,rfl,C5.ob,c_Code T,na_Code_parents T,fl_Code_parents _ _ _ _ _,Or.inl ⟨rfl,_,Evl.sq_of C5.h4⟩,_,rfl,A.a4,_,_,rfl,rfl,C5.h4,szl (by rw [List.length_map];omega),?_⟩
  have C6:=C5.s4 (rows.map (fun r=>parV r.par)++[parV par])
  refine ⟨_,rfl,A.p,_,_,_,_,rfl,C6.ob,c_Code T,na_Code_children T,fl_Code_children _ _ _ _ _,Or.inl ⟨rfl,_,Evl.sq_of C6.h5⟩,sz (by decide),fun c hc=>?_⟩
  have nc5:A.a5≠c:=fun z=>C6.fresh hc (by rw [← z];exact in_all5 A)
  refine ⟨A.a5,_,_,rfl,rfl,by rw [upd_ne nc5];exact C6.h5,szl (by rw [List.length_map,C6.cl,List.length_map,stepRows_len];omega),?_⟩
  have C7:=C6.push hc
  have nc4:c≠A.a4:=fun z=>C6.fresh hc (by rw [z];exact in_all4 A)
  have hcH:H c=none:=fr5 c (by rw [upd_ne nc4] at hc;exact hc)
  have ea:addRow rows (.tuple (.str k::r)) par=stepRows rows par++[⟨.tuple (.str k::r),par,[]⟩]:=by cases par<;>rfl
  refine q c _ hcH ⟨L1++[.ref a],?_,?_⟩ fun b o e hb=>?_
  ·rw [ea,List.map_append,List.map_append,List.map_append,List.map_append,es,el,ep]
   exact C7
  ·rw [ea,List.map_append,ed]
   exact dpA_app dL (.cons hd .nil)
  ·have e5:=kp5 b o e hb
   have ncb:b≠c:=fun z=>by rw [z,hcH] at e;cases e
   rw [upd_ne (fun z=>hb (by rw [z];exact in_all5 A)),upd_ne ncb,upd_ne (fun z=>hb (by rw [z];exact in_all4 A))]
   exact e5
end
end
section
structure WIt where
 d:PyData
 par:Option Nat
 deep:Nat
 loops:Nat
 blocks:Nat
def okIt (it:WIt) (n:Nat):Prop:=n<400∧it.deep≤100∧it.blocks≤25∧isStm it.d (it.loops:Int)=true
def newIt (it:WIt) (n:Nat) (at_:Nat) (part:PyData):WIt :=
 ⟨part,some n,it.deep + 1,it.loops + (if kindD it.d="while" then 1 else 0),it.blocks + (if kindD it.d="final"∧at_=1 then 1 else 0)⟩
def newIts (it:WIt) (n:Nat):List WIt:=(partsD it.d).mapIdx fun i p=>newIt it n i p
inductive Builds:Nat→List WIt→List Row→List Row→Prop
 | done (rows:List Row):Builds 0 [] rows rows
 | step {n:Nat} {it:WIt} {st:List WIt} {rows fin:List Row} (ok:okIt it rows.length) (h:Builds n (newIts it rows.length++st) (addRow rows it.d it.par) fin):Builds (n + 1) (it::st) rows fin
theorem Builds.len {m:Nat} {st:List WIt} {rows fin:List Row} (b:Builds m st rows fin):st.length≤m:=by
 induction b with
 | done=>exact Nat.le_refl _
 | step ok h ih =>
  rw [List.length_append] at ih
  rw [List.length_cons]
  omega
def wV (v:V) (it:WIt):List V:=[v,parV it.par,.int (it.deep:Int),.int (it.loops:Int),.int (it.blocks:Int)]
def parD:Option Nat→PyData
 | none=>.none
 | some i=>.int (i:Int)
def wD (it:WIt):PyData:=.tuple [it.d,parD it.par,.int (it.deep:Int),.int (it.loops:Int),.int (it.blocks:Int)]
inductive WAt (K:PySem.W.Frag) (F:Hp):List Addr→List WIt→Prop
 | nil:WAt K F [] []
 | cons {t:Addr} {ts:List Addr} {it:WIt} {st:List WIt} {v:V} (h:F t=some (.tup (wV v it))) (hd:Dp K F v it.d) (r:WAt K F ts st):WAt K F (t::ts) (it::st)
theorem WAt.ex {K:PySem.W.Frag} {F F':Hp} (e:Ex F F'):∀ {ts:List Addr} {st:List WIt},WAt K F ts st→WAt K F' ts st
 | _,_,.nil=>.nil
 | _,_,.cons h hd r=>.cons (e _ _ h) (dp_ex e hd) (WAt.ex e r)
theorem WAt.len {K:PySem.W.Frag} {F:Hp}:∀ {ts:List Addr} {st:List WIt},WAt K F ts st→ts.length=st.length
 | _,_,.nil=>rfl
 | _,_,.cons _ _ r=>congrArg Nat.succ (WAt.len r)
theorem dp_par {K:PySem.W.Frag} {F:Hp} (o:Option Nat):Dp K F (parV o) (parD o):=by
 cases o with
 | none=>exact .non
 | some i=>exact .int _
theorem WAt.dp {K:PySem.W.Frag} {F:Hp}:∀ {ts:List Addr} {st:List WIt},WAt K F ts st→DpAll K F (ts.map V.ref) (st.map wD)
 | _,_,.nil=>.nil
 | _,_,.cons h hd r=>.cons (.tup (Evl.st_of h) (.cons hd (.cons (dp_par _) (.cons (.int _) (.cons (.int _) (.cons (.int _) .nil)))))) (WAt.dp r)
theorem dpA_rev {K:PySem.W.Frag} {F:Hp}:∀ {ds:List PyData} {vs:List V},DpAll K F vs ds→DpAll K F vs.reverse ds.reverse
 | _,_,.nil=>.nil
 | _,_,.cons h a=>by
  rw [List.reverse_cons,List.reverse_cons]
  exact dpA_app (dpA_rev a) (.cons h .nil)
theorem canAll {l:List PyData} (h:∀ d∈l,PyData.canLay0 d=true):PyData.canLayAll0 l=true:=by
 induction l with
 | nil=>rfl
 | cons a l ih =>
  show (PyData.canLay0 a && PyData.canLayAll0 l)=true
  rw [h a List.mem_cons_self,ih fun d hd=>h d (List.mem_cons_of_mem _ hd)]<;>rfl
theorem can_wD {it:WIt} (h:PyData.canLay0 it.d=true):PyData.canLay0 (wD it)=true:=by
 show (PyData.canLay0 it.d && (PyData.canLay0 (parD it.par) && (PyData.canLay0 (.int _) && (PyData.canLay0 (.int _) && (PyData.canLay0 (.int _) && PyData.canLayAll0 [])))))=true
 rw [h]
 cases it.par<;>rfl
theorem eqv_lnil (ds:List PyData):PyData.eqv (.list ds) (.list [])=ds.isEmpty:=by
 cases ds<;>simp [PyData.eqv,PyData.eqvAll]
theorem min_lnil (d:PyData):min d.depth (PyData.list []).depth≤200:=Nat.le_trans (Nat.min_le_right _ _) (by decide)
def sp_Code___init__ (K:PySem.W.Frag):Sp:=fun vs H Q _=>∃ (F:Hp) (p dx:Addr) (v:V) (d:PyData) (G:PyData→Prop) (N:Nat) (fin:List Row),vs=[.ref p,v]∧H p=some (.ins (He.ga K "Code") dx [])∧Ex F H∧F p=none∧Dp K F v d ∧
 (∀ e,G e→PyData.canLay0 e=true∧szD e∧∀ x∈partsD e,G x)∧G d∧Builds N [⟨d,none,1,0,0⟩] [] fin ∧
 ∀ A F' H',A.p=p→Gr (fun b=>b=p) F H F' H'→CodeH K F' F' A fin→Q .non H'
theorem nn_of {H:Hp} {a b:Addr} {o:HO} (h:H a=none) (h':H b=some o):b≠a:=ne_of_none h' h
theorem up_none {H:Hp} {a b:Addr} {o:HO} (h:upd H a o b=none):b≠a∧H b=none:=by
 by_cases z:b=a
 ·rw [z,upd_same] at h;cases h
 ·rw [upd_ne z] at h;exact ⟨z,h⟩
structure InW (K:PySem.W.Frag) (F0 H:Hp) (p wq:Addr) (Gd:PyData→Prop) (st:List WIt) (rows:List Row) (A:CAd) (ts:List Addr) (F' H':Hp):Prop where
 ap:A.p=p
 code:CodeH K F' H' A rows
 na:∀ b∈A.all,F' b=none
 wa:wq ∉ A.all
 fw:F' wq=none
 wl:H' wq=some (.lst (ts.map V.ref).reverse)
 wi:WAt K F' ts st
 ff:Ex F0 F'
 fh:Ex F' H'
 nw:∀ b,H b≠none→F0 b=none→F' b=none
 kp:∀ b o,H b=some o→b≠p→H' b=some o
 nh:∀ b∈A.all,b=p∨H b=none
 hw:H wq=none
 it:∀ i∈st,Gd i.d∧∀ j,i.par=some j→j<rows.length
 ch:∀ r∈rows,r.ch.length≤rows.length
theorem InW.fresh {K:PySem.W.Frag} {F0 H F' H':Hp} {p wq:Addr} {Gd:PyData→Prop} {st:List WIt} {rows:List Row} {A:CAd} {ts:List Addr} (x:InW K F0 H p wq Gd st rows A ts F' H') {c:Addr} (h:H' c=none):H c=none∧F' c=none∧c ∉ A.all∧c≠wq:=by
 obtain ⟨vs,C,_⟩:=x.code
 have n:c ∉ A.all:=C.fresh h
 have np:c≠p:=fun z=>n (by rw [z,← x.ap];simp [CAd.all])
 refine ⟨?_,?_,n,fun z=>by rw [z,x.wl] at h;cases h⟩
 ·cases e:H c with
  | none=>rfl
  | some o=>rw [x.kp c o e np] at h;cases h
 ·cases e:F' c with
  | none=>rfl
  | some o=>rw [x.fh c o e] at h;cases h
section
variable {K:PySem.W.Frag} {F0 H F' H' F2 H2:Hp} {p wq:Addr} {Gd:PyData→Prop} {st:List WIt} {rows:List Row} {A:CAd} {ts:List Addr}
theorem CodeH.ex {F F2 H H2:Hp} (c:CodeH K F H A rows) (e1:Ex F F2) (e2:Ex H H2):CodeH K F2 H2 A rows:=by
 obtain ⟨vs,C,dL⟩:=c
 exact ⟨vs,C.ex e2,dpA_ex e1 dL⟩
theorem InW.tr (x:InW K F0 H p wq Gd st rows A ts F' H') {b:Addr} (hb:b∈A.all):H' b≠none:=fun z=>by
 obtain ⟨vs,C,_⟩:=x.code
 exact C.fresh z hb
theorem InW.there (x:InW K F0 H p wq Gd st rows A ts F' H') {b:Addr} (hb:H b≠none):H' b≠none:=by
 by_cases z:b=p
 ·exact x.tr (by rw [z,← x.ap];simp [CAd.all])
 ·intro y
  cases e:H b with
  | none=>exact hb e
  | some o=>rw [x.kp b o e z] at y;cases y
theorem InW.ext (x:InW K F0 H p wq Gd st rows A ts F' H') (e1:Ex F' F2) (e2:Ex F2 H2) (e3:Ex H' H2) (e4:∀ b,H' b≠none→F' b=none→F2 b=none):InW K F0 H p wq Gd st rows A ts F2 H2 :=
 ⟨x.ap,x.code.ex e1 e3,fun b hb=>e4 b (x.tr hb) (x.na b hb),x.wa,e4 wq (by rw [x.wl];exact fun z=>nomatch z) x.fw,e3 _ _ x.wl,x.wi.ex e1,x.ff.trans e1,e2,fun b h1 h2=>e4 b (x.there h1) (x.nw b h1 h2),fun b o e hb=>e3 b o (x.kp b o e hb),x.nh,x.hw,x.it,x.ch⟩
theorem InW.new (x:InW K F0 H p wq Gd st rows A ts F' H') {q:Addr} {o:HO} (h:H' q=none):InW K F0 H p wq Gd st rows A ts F' (upd H' q o) :=
 x.ext (Evl.Ex.refl _) (exu x.fh h) (exu (Evl.Ex.refl _) h) fun _ _ e=>e
theorem InW.pop {it:WIt} {t:Addr} (x:InW K F0 H p wq Gd (it::st) rows A (t::ts) F' H'):InW K F0 H p wq Gd st rows A ts F' (upd H' wq (.lst (ts.map V.ref).reverse)):=by
 obtain ⟨vs,C,dL⟩:=x.code
 refine ⟨x.ap,⟨vs,C.off x.wa,dL⟩,x.na,x.wa,x.fw,upd_same,?_,x.ff,exm x.fh x.fw,x.nw,fun b o e hb=>?_,x.nh,x.hw,fun i hi=>x.it i (List.mem_cons_of_mem _ hi),x.ch⟩
 ·cases x.wi with
  | cons _ _ r=>exact r
 ·rw [upd_ne (nn_of x.hw e)]
  exact x.kp b o e hb
theorem addRow_len (rows:List Row) (d:PyData) (par:Option Nat):(addRow rows d par).length=rows.length + 1:=by
 cases par with
 | none=>simp [addRow]
 | some i=>simp [addRow,addCh]
theorem Builds.bd {m:Nat} {st:List WIt} {rows fin:List Row} (b:Builds m st rows fin):m=0∨rows.length + m≤400:=by
 induction b with
 | done=>exact .inl rfl
 | step ok h ih =>
  rw [addRow_len] at ih
  have:=ok.1
  omega
theorem addRow_ch {rows:List Row} {d:PyData} {par:Option Nat} (h:∀ r∈rows,r.ch.length≤rows.length):∀ r∈addRow rows d par,r.ch.length≤(addRow rows d par).length:=by
 rw [addRow_len]
 intro r hr
 rcases List.mem_append.mp hr with hr | hr
 ·cases par with
  | none =>
   have:=h r hr
   omega
  | some i =>
   have hr:r∈addCh rows i rows.length:=hr
   obtain ⟨j,hj⟩:=List.mem_iff_getElem?.mp hr
   rw [addCh_eq,List.getElem?_modify] at hj
   cases e:rows[j]? with
   | none=>rw [e] at hj;simp at hj
   | some r0 =>
    rw [e] at hj
    have h0:=h r0 (List.mem_of_getElem? e)
    by_cases z:i=j
    ·simp [z] at hj
     rw [← hj]
     simp [noteCh]
     omega
    ·simp [z] at hj
     rw [← hj]
     omega
 ·rw [List.mem_singleton.mp hr]
  simp
theorem InW.kept (x:InW K F0 H p wq Gd st rows A ts F' H') {c:Addr} {d:PyData} {par:Option Nat} (hc:H' c=none) (cd:CodeH K F' H2 { A with cs:=A.cs++[c] } (addRow rows d par)) (kp:∀ b o,H' b=some o→b ∉ A.all→H2 b=some o) :
  InW K F0 H p wq Gd st (addRow rows d par) { A with cs:=A.cs++[c] } ts F' H2:=by
 obtain ⟨f1,f2,f3,f4⟩:=x.fresh hc
 have mem:∀ b,b∈({ A with cs:=A.cs++[c] }:CAd).all→b∈A.all∨b=c:=fun b hb=>by
  simp only [CAd.all,List.mem_cons,List.mem_append,List.not_mem_nil,or_false] at hb ⊢
  rcases hb with h | h | h | h | h | h | h | h<;>simp [h]
 refine ⟨x.ap,cd,fun b hb=>?_,fun hb=>?_,x.fw,kp _ _ x.wl x.wa,x.wi,x.ff,fun b o e=>kp b o (x.fh b o e) (fun z=>by rw [x.na b z] at e;cases e),x.nw,fun b o e hb=>?_,fun b hb=>?_,x.hw,fun i hi=>⟨(x.it i hi).1,fun j e=>?_⟩,addRow_ch x.ch⟩
 ·rcases mem b hb with h | h
  ·exact x.na b h
  ·rw [h];exact f2
 ·rcases mem wq hb with h | h
  ·exact x.wa h
  ·exact f4 h.symm
 ·refine kp b o (x.kp b o e hb) fun z=>?_
  rcases x.nh b z with y | y
  ·exact hb y
  ·rw [y] at e;cases e
 ·rcases mem b hb with h | h
  ·exact x.nh b h
  ·rw [h];exact .inr f1
 ·rw [addRow_len]
  have:=(x.it i hi).2 j e
  omega
theorem InW.push {it:WIt} {t:Addr} {v:V} (x:InW K F0 H p wq Gd st rows A ts F' H') (ht:H' t=none) (hd:Dp K F' v it.d) (hit:Gd it.d∧∀ j,it.par=some j→j<rows.length) :
  InW K F0 H p wq Gd (it::st) rows A (t::ts) (upd F' t (.tup (wV v it))) (upd (upd H' t (.tup (wV v it))) wq (.lst (((t::ts).map V.ref).reverse))):=by
 obtain ⟨f1,f2,f3,f4⟩:=x.fresh ht
 have x1:=x.ext (F2:=upd F' t (.tup (wV v it))) (H2:=upd H' t (.tup (wV v it))) (exu (Evl.Ex.refl _) f2) (fun b o e=>by
   by_cases z:b=t
   ·rw [z,upd_same] at e ⊢;exact e
   ·rw [upd_ne z] at e ⊢;exact x.fh b o e) (exu (Evl.Ex.refl _) ht) (fun b h1 h2=>by rw [upd_ne (fun z=>h1 (by rw [z];exact ht))];exact h2)
 obtain ⟨vs,C,dL⟩:=x1.code
 refine ⟨x.ap,⟨vs,C.off x.wa,dL⟩,x1.na,x.wa,x1.fw,upd_same,.cons upd_same (dp_ex (exu (Evl.Ex.refl _) f2) hd) x1.wi,x1.ff,exm x1.fh x1.fw,x1.nw,fun b o e hb=>?_,x.nh,x.hw,fun i hi=>?_,x.ch⟩
 ·rw [upd_ne (nn_of x.hw e)]
  exact x1.kp b o e hb
 ·rcases List.mem_cons.mp hi with rfl | hi
  ·exact hit
  ·exact x.it i hi
end
theorem newIts_len (it:WIt) (n:Nat):(newIts it n).length=(partsD it.d).length:=by simp [newIts]
theorem newIts_get {it:WIt} {n j:Nat} {d:PyData} (h:(partsD it.d)[j]?=some d):(newIts it n)[j]?=some (newIt it n j d):=by
 unfold newIts
 rw [List.getElem?_mapIdx,h]<;>rfl
theorem wV_new (v:V) (it:WIt) (n j:Nat) (d:PyData):wV v (newIt it n j d)=[v,.int (n:Int),.int ((it.deep:Int) + 1),.int ((it.loops:Int) + (if decide (V.str (kindD it.d)=V.str "while")=true then 1 else 0)),
  .int ((it.blocks:Int) + (if kindD it.d="final"∧j=1 then 1 else 0))]:=by
 have e1:((it.deep + 1:Nat):Int)=(it.deep:Int) + 1:=by omega
 have e2:((it.loops + (if kindD it.d="while" then 1 else 0):Nat):Int)=(it.loops:Int) + (if decide (V.str (kindD it.d)=V.str "while")=true then 1 else 0):=by
  by_cases z:kindD it.d="while"
  ·rw [if_pos z,if_pos (decide_eq_true (by rw [z]))]<;>omega
  ·rw [if_neg z,if_neg (fun y=>z (V.str.inj (of_decide_eq_true y)))]<;>omega
 have e3:((it.blocks + (if kindD it.d="final"∧j=1 then 1 else 0):Nat):Int)=(it.blocks:Int) + (if kindD it.d="final"∧j=1 then 1 else 0):=by
  by_cases z:kindD it.d="final"∧j=1
  ·rw [if_pos z,if_pos z]<;>omega
  ·rw [if_neg z,if_neg z]<;>omega
 show [v,V.int (n:Int),V.int ((it.deep + 1:Nat):Int),V.int ((it.loops + (if kindD it.d="while" then 1 else 0):Nat):Int),V.int ((it.blocks + (if kindD it.d="final"∧j=1 then 1 else 0):Nat):Int)]=_
 rw [e1,e2,e3]
section
variable {P:Program} {w:World} {h:Heap} {K:PySem.W.Frag} {mg:Str→Option Value} {base:Heap}
abbrev N_Code___init__:List Str:=["self","statement","waiting","value","parent","deep","loops","blocks","number","at","part","inside"]
theorem sc_Code___init__:FnScope N_Code___init__ ["self","statement"] (defScope sd_Code___init__):=⟨rfl,rfl,rfl,by decide +kernel,rfl,by decide +kernel,by decide +kernel⟩
theorem okF_Code___init__ (T:Tx w h K mg):∃ fd,FnOk P w K mg base (CX P w) 6 (He.fAd K ("Code",some "__init__")) fd ["self","statement"] (sp_Code___init__ K)∧Binds K fd ["self","statement"] []∧PySem.W.keepIn K (.ref (He.fAd K ("Code",some "__init__")))=true∧FunD K "__init__" "Code.__init__" (defArgs sd_Code___init__) (defBody sd_Code___init__) (defScope sd_Code___init__) [] [] (He.fAd K ("Code",some "__init__")) fd:=by
 obtain ⟨fd,F⟩:=F_Code___init__ T
 refine ⟨fd,?_,F.bindsN (fun _ _ _ _ _ _ us hl=>match us,hl with | [_,_],_=>rfl),F.kp,F⟩
 obtain ⟨fd_parts_in,G_parts_in,bi_parts_in,kp_parts_in⟩:=ok_parts_in (P:=P) (base:=base) T
 obtain ⟨fd_Code_check,G_Code_check,bi_Code_check,kp_Code_check⟩:=ok_Code_check (P:=P) (base:=base) T
 obtain ⟨fd_Code_keep,G_Code_keep,bi_Code_keep,kp_Code_keep⟩:=ok_Code_keep (P:=P) (base:=base) T
 refine F.ok sc_Code___init__ (fun vs H Q E h=>?_) (fun cdv A outer s H vs Q E hr h=>?_)
 ·obtain ⟨F0,p,dx,v,d,Gd,N,fin,rfl,hp,xF,Fp,hd,hG,hGd,hB,q⟩:=h
  rfl
 ·obtain ⟨F0,p,dx,v,d,Gd,N,fin,rfl,hp,xF,Fp,hd,hG,hGd,hB,q⟩:=h
  refine ⟨_,PSs.nox (Evl.pss_cut (ps_asg (pe_tup (pa_cons (pe_lst pa_nil) (pa_cons (pe_lst pa_nil) (pa_cons (pe_lst pa_nil) pa_nil)))) (pg_tup rfl (pgs_cons (FcR.pg_fld (pv 0)) (pgs_cons (FcR.pg_fld (pv 0)) (pgs_cons (FcR.pg_fld (pv 0)) pgs_nil))))) (Evl.pss_cut (ps_asg (pe_tup (pa_cons (pe_lst pa_nil) (pa_cons (pe_lst pa_nil) pa_nil))) (pg_tup rfl (pgs_cons (FcR.pg_fld (pv 0)) (pgs_cons (FcR.pg_fld (pv 0)) pgs_nil)))) (pss_cons (ps_set (i:=2) sc_Code___init__.nd rfl (Or.inl rfl) (pe_lst (pa_cons (pe_tup (pa_cons (pv 1) (pa_cons pe_non (pa_cons pe_int (pa_cons pe_int (pa_cons pe_int pa_nil)))))) pa_nil))) (pss_one (ps_while PassesOwn.never (pt_cmpR (op_neM hr) (pv 2) (pe_lst pa_nil) (nomark _)) (pss_cons (ps_asg (pe_bm0 PySem.F.plainAttrs_list PySem.F.slot_list_pop PySem.F.type_list_pop mt_pop (pv 2)) (pg_tup rfl (pgs_cons (pg_name (i:=3) sc_Code___init__.nd rfl (Or.inl rfl)) (pgs_cons (pg_name (i:=4) sc_Code___init__.nd rfl (Or.inl rfl)) (pgs_cons (pg_name (i:=5) sc_Code___init__.nd rfl (Or.inl rfl)) (pgs_cons (pg_name (i:=6) sc_Code___init__.nd rfl (Or.inl rfl)) (pgs_cons (pg_name (i:=7) sc_Code___init__.nd rfl (Or.inl rfl)) pgs_nil))))))) (pss_cons (ps_set (i:=8) sc_Code___init__.nd rfl (Or.inl rfl) (pe_callB call_len_seq rfl (fr_len T) b_len (pa_cons (pe_fld (pv 0) rfl) pa_nil))) (pss_cons (ps_expr (pe_meth (pv 0) (c_Code T) (me_Code_check T) G_Code_check (hr.mono (by decide)) bi_Code_check .nil passF (pa_cons (pv 3) (pa_cons (pv 8) (pa_cons (pv 5) (pa_cons (pv 6) (pa_cons (pv 7) pa_nil))))))) (pss_cons (ps_expr (pe_meth (pv 0) (c_Code T) (me_Code_keep T) G_Code_keep (hr.mono (by decide)) bi_Code_keep .nil passF (pa_cons (pv 3) (pa_cons (pv 4) pa_nil)))) (pss_one (ps_for PassesOwn.never rfl (pi_reversed rfl (fr_reversed T) (pa_cons (FcR.pe_listEnum rfl (pe_call G_parts_in (hr.mono (by decide)) rfl (g_parts_in T) kp_parts_in bi_parts_in .nil passF (pa_cons (pv 3) pa_nil)) rfl (fr_list T) b_list rfl (fr_enumerate T) b_enumerate) pa_nil)) (pg_tup rfl (pgs_cons (pg_name (i:=9) sc_Code___init__.nd rfl (Or.inl rfl)) (pgs_cons (pg_name (i:=10) sc_Code___init__.nd rfl (Or.inl rfl)) pgs_nil))) (Evl.pss_cut (ps_set (i:=11) sc_Code___init__.nd rfl (Or.inl rfl) (pe_op op_add (pv 7) (pe_callTy call_int1 rfl (fr_int T) b_int (pa_cons (pe_and (pe_cmpR op_eq (pe_ix ix_tup (pv 3) pe_int (fun _ _=>rfl)) pe_str (nomark _)) (pe_one (pe_cmpR op_eq (pv 9) pe_int (nomark _)))) pa_nil)))) (pss_one (ps_expr (pe_bm PySem.F.plainAttrs_list PySem.F.slot_list_append PySem.F.type_list_append mt_append (pv 2) (pa_cons (pe_tup (pa_cons (pv 10) (pa_cons (pv 8) (pa_cons (pe_op op_add (pv 5) pe_int) (pa_cons (pe_op op_add (pv 6) (pe_callTy call_int1 rfl (fr_int T) b_int (pa_cons (pe_cmpR op_eq (pe_ix ix_tup (pv 3) pe_int (fun _ _=>rfl)) pe_str (nomark _)) pa_nil))) (pa_cons (pv 11) pa_nil)))))) pa_nil)))))))))))))))),?_⟩
  refine ⟨fun σ' H'=>σ'=L2.start N_Code___init__ [.ref p,v]∧∃ q1 q2 q3,H q1=none∧H q2=none∧H q3=none∧q2≠q1∧q3≠q1∧q3≠q2∧H' q1=some (.lst [])∧H' q2=some (.lst [])∧H' q3=some (.lst []) ∧
   H' p=some (.ins (He.ga K "Code") dx [("statements",.ref q1),("kinds",.ref q2),("labels",.ref q3)])∧(∀ b o,H b=some o→b≠p→H' b=some o)∧(∀ b,H' b=none→H b=none),?_,?_⟩
  ·refine ⟨sz (by simp),fun q1 f1=>⟨sz (by simp),fun q2 f2=>⟨sz (by simp),fun q3 f3=>⟨sz (by simp),fun t1 g1=>?_⟩⟩⟩⟩
   obtain ⟨n2a,f2⟩:=up_none f2
   obtain ⟨n3b,f3⟩:=up_none f3
   obtain ⟨n3a,f3⟩:=up_none f3
   obtain ⟨n1c,g1⟩:=up_none g1
   obtain ⟨n1b,g1⟩:=up_none g1
   obtain ⟨n1a,g1⟩:=up_none g1
   have p1:=nn_of f1 hp
   have p2:=nn_of f2 hp
   have p3:=nn_of f3 hp
   have p4:=nn_of g1 hp
   refine ⟨t1,_,rfl,Evl.st_of upd_same,rfl,_,_,rfl,_,rfl,p,_,dx,_,rfl,(by rw [upd_ne p4,upd_ne p3,upd_ne p2,upd_ne p1];exact hp),c_Code T,na_Code_statements T,(by simp),?_⟩
   rw [fi_Code_0]
   refine ⟨_,_,rfl,_,rfl,p,_,dx,_,rfl,upd_same,c_Code T,na_Code_kinds T,(by simp),?_⟩
   rw [fi_Code_1,upd_upd]
   refine ⟨_,_,rfl,_,rfl,p,_,dx,_,rfl,upd_same,c_Code T,na_Code_labels T,(by simp),rfl,?_⟩
   rw [fi_Code_2,upd_upd]
   refine ⟨rfl,q1,q2,q3,f1,f2,f3,n2a,n3a,n3b,?_,?_,?_,upd_same,fun b o e hb=>?_,fun b e=>?_⟩
   ·rw [upd_ne p1.symm,upd_ne n1a.symm,upd_ne n3a.symm,upd_ne n2a.symm,upd_same]
   ·rw [upd_ne p2.symm,upd_ne n1b.symm,upd_ne n3b.symm,upd_same]
   ·rw [upd_ne p3.symm,upd_ne n1c.symm,upd_same]
   ·rw [upd_ne hb,upd_ne (nn_of g1 e),upd_ne (nn_of f3 e),upd_ne (nn_of f2 e),upd_ne (nn_of f1 e)]
    exact e
   ·exact (up_none (up_none (up_none (up_none (up_none e).2).2).2).2).2
  rintro σ' H1 ⟨rfl,q1,q2,q3,f1,f2,f3,n21,n31,n32,h1,h2,h3,hp1,kp1,fr1⟩
  refine ⟨fun σ' H'=>σ'=L2.start N_Code___init__ [.ref p,v]∧∃ A:CAd,A.p=p∧A.dx=dx∧A.cs=[]∧CL K H' A [] [] [] [] []∧(∀ b∈A.all,b=p∨H b=none)∧(∀ b o,H b=some o→b≠p→H' b=some o)∧(∀ b,H' b=none→H b=none),?_,?_⟩
  ·refine ⟨sz (by simp),fun q4 f4=>⟨sz (by simp),fun q5 f5=>⟨sz (by simp),fun t2 g2=>?_⟩⟩⟩
   obtain ⟨n54,f5⟩:=up_none f5
   obtain ⟨m5,g2⟩:=up_none g2
   obtain ⟨m4,g2⟩:=up_none g2
   have p4:=nn_of f4 hp1
   have p5:=nn_of f5 hp1
   have pt:=nn_of g2 hp1
   refine ⟨t2,_,rfl,Evl.st_of upd_same,rfl,_,_,rfl,_,rfl,p,_,dx,_,rfl,(by rw [upd_ne pt,upd_ne p5,upd_ne p4];exact hp1),c_Code T,na_Code_parents T,(by simp),?_⟩
   rw [fi_Code_3]
   refine ⟨_,_,rfl,_,rfl,p,_,dx,_,rfl,upd_same,c_Code T,na_Code_children T,(by simp),rfl,?_⟩
   rw [fi_Code_4,upd_upd]
   have a1:=nn_of f4 h1
   have a2:=nn_of f4 h2
   have a3:=nn_of f4 h3
   have b1:=nn_of f5 h1
   have b2:=nn_of f5 h2
   have b3:=nn_of f5 h3
   have c1:=nn_of g2 h1
   have c2:=nn_of g2 h2
   have c3:=nn_of g2 h3
   have pn1:p≠q1:=nn_of f1 hp
   have pn2:p≠q2:=nn_of f2 hp
   have pn3:p≠q3:=nn_of f3 hp
   refine ⟨rfl,⟨p,dx,q1,q2,q3,q4,q5,[]⟩,rfl,rfl,rfl,⟨upd_same,?_,?_,?_,?_,?_,rfl,fun i c x e=>by simp at e,?_⟩,?_,fun b o e hb=>?_,fun b e=>?_⟩
   ·show upd _ p _ q1=_
    rw [upd_ne pn1.symm,upd_ne c1,upd_ne b1,upd_ne a1]
    exact h1
   ·show upd _ p _ q2=_
    rw [upd_ne pn2.symm,upd_ne c2,upd_ne b2,upd_ne a2]
    exact h2
   ·show upd _ p _ q3=_
    rw [upd_ne pn3.symm,upd_ne c3,upd_ne b3,upd_ne a3]
    exact h3
   ·show upd _ p _ q4=_
    rw [upd_ne p4.symm,upd_ne m4.symm,upd_ne n54.symm,upd_same]
   ·show upd _ p _ q5=_
    rw [upd_ne p5.symm,upd_ne m5.symm,upd_same]<;>rfl
   ·show [p,q1,q2,q3,q4,q5].Nodup
    simp only [List.nodup_cons,List.mem_cons,List.not_mem_nil,or_false,not_or,List.nodup_nil,and_true,not_false_eq_true]
    exact ⟨⟨pn1,pn2,pn3,p4,p5⟩,⟨n21.symm,n31.symm,a1,b1⟩,⟨n32.symm,a2,b2⟩,⟨a3,b3⟩,n54.symm⟩
   ·intro b hb
    have hb:b∈[p,q1,q2,q3,q4,q5]:=hb
    simp only [List.mem_cons,List.not_mem_nil,or_false] at hb
    rcases hb with rfl | rfl | rfl | rfl | rfl | rfl
    ·exact .inl rfl
    ·exact .inr f1
    ·exact .inr f2
    ·exact .inr f3
    ·exact .inr (fr1 _ f4)
    ·exact .inr (fr1 _ f5)
   ·have e1:=kp1 b o e hb
    rw [upd_ne hb,upd_ne (nn_of g2 e1),upd_ne (nn_of f5 e1),upd_ne (nn_of f4 e1)]
    exact e1
   ·exact fr1 _ (up_none (up_none (up_none (up_none e).2).2).2).2
  rintro σ' H2 ⟨rfl,A,rfl,rfl,ac,C,nA,kp2,fr2⟩
  refine ⟨_,rfl,sz (by simp),fun t3 g3=>⟨sz (by simp),fun wq gw=>?_⟩⟩
  obtain ⟨nwt,gw⟩:=up_none gw
  have gt:H2 t3=none:=g3
  have ft:F0 t3=none:=Evl.fresh_back xF (fr2 t3 gt)
  have v0:InW K F0 H A.p wq Gd [⟨d,none,1,0,0⟩] [] A [t3] (upd F0 t3 (.tup [v,.non,.int 1,.int 0,.int 0])) (upd (upd H2 t3 (.tup [v,.non,.int 1,.int 0,.int 0])) wq (.lst [.ref t3])):=by
   have C1:=(C.off (o:=.tup [v,.non,.int 1,.int 0,.int 0]) (C.fresh gt))
   have nwA:wq ∉ A.all:=C.fresh gw
   have C2:=C1.off (o:=.lst [.ref t3]) nwA
   have xx:Ex F0 (upd F0 t3 (.tup [v,.non,.int 1,.int 0,.int 0])):=exu (Evl.Ex.refl F0) ft
   have fA:∀ b∈A.all,F0 b=none:=fun b hb=>by
    rcases nA b hb with rfl | e
    ·exact Fp
    ·exact Evl.fresh_back xF e
   have ntA:t3 ∉ A.all:=C.fresh gt
   refine ⟨rfl,⟨[],C2,.nil⟩,fun b hb=>?_,nwA,?_,upd_same,.cons upd_same (dp_ex xx hd) .nil,xx,fun b o e=>?_,fun b e1 e2=>?_,fun b o e hb=>?_,nA,fr2 wq gw,fun i hi=>?_,fun r hr=>by cases hr⟩
   ·rw [upd_ne (fun z=>ntA (by rw [← z];exact hb))]
    exact fA b hb
   ·rw [upd_ne nwt]
    exact Evl.fresh_back xF (fr2 wq gw)
   ·by_cases z:b=t3
    ·rw [z,upd_same] at e
     cases e
     rw [z,upd_ne nwt.symm,upd_same]
    ·rw [upd_ne z] at e
     have e2:=xF b o e
     have nb:b≠A.p:=fun y=>by rw [y,Fp] at e;cases e
     rw [upd_ne (nn_of (fr2 wq gw) e2),upd_ne z]
     exact kp2 b o e2 nb
   ·rw [upd_ne (fun z=>e1 (by rw [z];exact fr2 t3 gt))]
    exact e2
   ·rw [upd_ne (nn_of (fr2 wq gw) e),upd_ne (nn_of (fr2 t3 gt) e)]
    exact kp2 b o e hb
   ·rw [List.mem_singleton.mp hi]
    exact ⟨hGd,fun j e=>by cases e⟩
  refine ⟨fun m σ' H'=>∃ st rows B ts F' o3 o4 o5 o6 o7 o8 o9 o10 o11,Builds m st rows fin∧σ'=[some (.ref A.p),some v,some (.ref wq),o3,o4,o5,o6,o7,o8,o9,o10,o11]∧InW K F0 H A.p wq Gd st rows B ts F' H',⟨N,_,_,_,_,_,_,_,_,_,_,_,_,_,_,hB,rfl,v0⟩,?_⟩
  rintro m σ' H3 ⟨st,rows,B,ts,F3,o3,o4,o5,o6,o7,o8,o9,o10,o11,bd,rfl,I3⟩
  have hcan:PyData.canLay0 (.list (st.map wD).reverse)=true:=canAll fun e he=>by
   obtain ⟨i,hi,rfl⟩:=List.mem_map.mp (List.mem_reverse.mp he)
   exact can_wD (hG _ (I3.it i hi).1).1
  refine ⟨_,rfl,sz (by simp),fun p4 g4=>?_⟩
  obtain ⟨r1,r2,r3,r4⟩:=I3.fresh g4
  have hdl:Dp K (upd H3 p4 (.lst [])) (.ref wq) (.list (st.map wD).reverse):=.lst (Evl.sq_of (by rw [upd_ne r4.symm];exact I3.wl)) (dpA_rev (dpA_ex (exu I3.fh g4) I3.wi.dp))
  refine ⟨_,_,hdl,.lst (Evl.sq_of upd_same) .nil,hcan,rfl,min_lnil _,_,rfl,ite_of (fun h4=>?_) (fun h4=>?_)⟩
  ·cases bd with
   | done=>simp [PyData.eqv,PyData.eqvAll] at h4
   | @step n it st' _ _ ok bd =>
   cases hts:I3.wi with
   | @cons t ts' _ _ v1 ht hv1 hr =>
   have I4:=(I3.new (o:=.lst []) g4).pop
   refine ⟨fun σ' H'=>∃ st rows B ts F' o3 o4 o5 o6 o7 o8 o9 o10 o11,Builds n st rows fin∧σ'=[some (.ref A.p),some v,some (.ref wq),o3,o4,o5,o6,o7,o8,o9,o10,o11]∧InW K F0 H A.p wq Gd st rows B ts F' H',fun σ' H' w=>⟨n,Nat.lt_succ_self _,w⟩,?_⟩
   have wl4:upd H3 p4 (.lst []) wq=some (.lst ((ts'.map V.ref).reverse++[.ref t])):=by
    rw [upd_ne r4.symm,I3.wl]<;>simp
   refine ⟨_,rfl,Or.inl ⟨rfl,_,Evl.sq_of wl4⟩,wq,_,.ref t,rfl,rfl,wl4,by simp,?_⟩
   rw [List.dropLast_concat]
   refine ⟨t,wV v1 it,rfl,Evl.st_of (I4.fh _ _ ht),rfl,_,_,rfl,_,_,rfl,_,_,rfl,_,_,rfl,_,_,rfl,rfl,?_⟩
   obtain ⟨L1,C4,dL4⟩:=id I4.code
   have ob4:∀ {H':Hp} {L1 L2 L3 L4:List V} {Cs:List (List V)},CL K H' B L1 L2 L3 L4 Cs→H' A.p=some (.ins (He.ga K "Code") B.dx (cFs B)):=fun C=>by rw [← I3.ap];exact C.ob
   refine ⟨_,rfl,A.p,_,_,_,_,rfl,ob4 C4,c_Code T,na_Code_kinds T,fl_Code_kinds _ _ _ _ _,B.a2,_,rfl,.inl (Evl.sq_of C4.h2),?_⟩
   have hgi:=hG _ (I3.it it List.mem_cons_self).1
   obtain ⟨k1,k2,k3,k4⟩:=id ok
   have ln:(rows.map fun r=>V.str (kindD r.d)).length=rows.length:=List.length_map _
   refine ⟨_,rfl,A.p,_,_,rfl,ob4 C4,fm_Code_check _ _ _ _ _,_,rfl,_,rfl,_,rfl,_,rfl,_,rfl,.ref A.p,v1,it.d,_,_,_,_,rfl,dp_ex I4.fh hv1,hgi.1,hgi.2.1,(by rw [ln];omega),(by omega),(by omega),k4,fun H5 x5=>?_⟩
   have I5:=I4.ext (Evl.Ex.refl _) (I4.fh.trans x5) x5 fun _ _ e=>e
   obtain ⟨L1',C5,dL5⟩:=id I5.code
   refine ⟨_,rfl,A.p,_,_,rfl,ob4 C5,fm_Code_keep _ _ _ _ _,_,rfl,_,rfl,F3,B,rows,v1,it.d,_,it.par,(by rw [← I3.ap]<;>rfl),I5.fh,I5.code,I5.na,hv1,k4,(by omega),fun i e=>?_,fun c H6 hc6 cd6 kp6=>?_⟩
   ·have li:=(I3.it it List.mem_cons_self).2 i e
    refine ⟨rows[i],List.getElem?_eq_getElem li,?_⟩
    have:=I3.ch rows[i] (List.getElem_mem li)
    omega
   have I6:=I5.kept hc6 cd6 kp6
   refine ⟨_,rfl,F3,v1,it.d,_,rfl,I6.fh,hv1,k4,fun pp H7 xs fp7 x7 hl7 dA7=>?_⟩
   have I7:=I6.ext (Evl.Ex.refl _) (I6.fh.trans x7) x7 fun _ _ e=>e
   refine ⟨pp,xs,rfl,Evl.sq_of hl7,fun H8 pe te k8 fpe fte npe nd8 lte hpe hte=>?_⟩
   have L8:∀ b∈pe::te,H7 b=none:=fun b hb=>by
    rcases List.mem_cons.mp hb with e | hb
    ·rw [e];exact fpe
    ·exact fte b hb
   have I8:InW K F0 H A.p wq Gd st' (addRow rows it.d it.par) { B with cs:=B.cs++[c] } ts' (frz F3 H8 (pe::te)) H8 :=
    I7.ext (frz_ex fun b hb=>(I7.fresh (L8 b hb)).2.1) (frz_le (I7.fh.trans k8)) k8 fun b h1 h2=>by rw [frz_out (fun z=>h1 (L8 b z))];exact h2
   have lx:xs.length=(partsD it.d).length:=dpA_len dA7
   have x38:Ex F3 (frz F3 H8 (pe::te)):=frz_ex fun b hb=>(I7.fresh (L8 b hb)).2.1
   obtain ⟨kk,rr,_,ek,_,_,_⟩:=isStm_shape k4
   obtain ⟨va,vxs,rfl,vS,vA⟩:=dp_tup (ek ▸ hv1)
   cases vA with
   | @cons vk vxr _ _ vk0 vA =>
   obtain rfl:=dp_str vk0
   have ekd:kindD it.d=kk:=by rw [ek]<;>rfl
   refine ⟨pe,_,rfl,Evl.sq_of hpe,for_it walk_rev (fun i σ' H'=>∃ ts'' F'' o9 o10 o11,σ'=[some (.ref A.p),some v,some (.ref wq),some (.ref va),some (parV it.par),some (.int (it.deep:Int)),some (.int (it.loops:Int)),some (.int (it.blocks:Int)),some (.int ((rows.map fun r=>V.str (kindD r.d)).length:Int)),o9,o10,o11] ∧
    InW K F0 H A.p wq Gd ((newIts it rows.length).drop (te.length - i)++st') (addRow rows it.d it.par) { B with cs:=B.cs++[c] } ts'' F'' H'∧Ex (frz F3 H8 (pe::te)) F'') ?_ ?_ ?_ ?_⟩
   ·refine ⟨ts',_,o9,o10,o11,rfl,?_,Evl.Ex.refl _⟩
    rw [Nat.sub_zero,List.drop_eq_nil_of_le (by rw [newIts_len,lte,lx];exact Nat.le_refl _)]
    exact I8
   ·rintro i σ' H' _ ⟨ts'',F'',_,_,_,_,I9,x9⟩
    exact Evl.sq_of (I9.fh _ _ (x9 _ _ (by rw [frz_in List.mem_cons_self];exact hpe)))
   ·rintro i x σ' H9x H9 hi ⟨ts'',F'',u9,u10,u11,rfl,I9,x9⟩ ⟨rfl,hx⟩
    rw [List.length_map] at hi hx
    have lj:te.length - 1 - i<te.length:=by omega
    have htj:te[te.length - 1 - i]?=some te[te.length - 1 - i]:=List.getElem?_eq_getElem lj
    rw [List.getElem?_map,htj] at hx
    cases hx
    have lxj:te.length - 1 - i<xs.length:=by rw [← lte];exact lj
    have hxj:xs[te.length - 1 - i]?=some xs[te.length - 1 - i]:=List.getElem?_eq_getElem lxj
    have lpj:te.length - 1 - i<(partsD it.d).length:=by rw [← lx];exact lxj
    have hpj:(partsD it.d)[te.length - 1 - i]?=some (partsD it.d)[te.length - 1 - i]:=List.getElem?_eq_getElem lpj
    obtain ⟨u,hu,hdu⟩:=dpA_get dA7 hpj
    rw [hxj] at hu
    cases hu
    have htu:=hte _ _ _ htj hxj
    have htF:H9 te[te.length - 1 - i]=some (.tup [.int ((te.length - 1 - i:Nat):Int),xs[te.length - 1 - i]]):=I9.fh _ _ (x9 _ _ (by rw [frz_in (List.mem_cons_of_mem _ (List.getElem_mem lj))];exact htu))
    have vS9:SqT K H9 va (V.str kk::vxr):=Evl.ex_t ((x38.trans x9).trans I9.fh) vS
    refine ⟨_,_,rfl,Evl.st_of htF,rfl,_,_,rfl,_,_,rfl,rfl,?_⟩
    refine ⟨fun σ' H'=>H'=H9∧σ'=[some (.ref A.p),some v,some (.ref wq),some (.ref va),some (parV it.par),some (.int (it.deep:Int)),some (.int (it.loops:Int)),some (.int (it.blocks:Int)),some (.int ((rows.map fun r=>V.str (kindD r.d)).length:Int)),some (.int ((te.length - 1 - i:Nat):Int)),some xs[te.length - 1 - i],some (.int ((it.blocks:Int) + (if kindD it.d="final"∧te.length - 1 - i=1 then 1 else 0)))],?_,?_⟩
    ·refine ⟨_,rfl,_,rfl,va,_,_,_,rfl,rfl,vS9,at0,rfl,_,rfl,ite_of (fun h5=>?_) (fun h5=>?_)⟩
     ·have e5:kk="final":=V.str.inj (of_decide_eq_true h5)
      refine ⟨_,rfl,rfl,.inr ⟨_,rfl,_,_,rfl,rfl,rfl,?_⟩⟩
      by_cases z:te.length - 1 - i=1
      ·rw [if_pos (show kindD it.d="final"∧te.length - 1 - i=1 from ⟨by rw [ekd,e5],z⟩),if_pos (decide_eq_true (by rw [z]<;>rfl))]<;>rfl
      ·rw [if_neg (show ¬ (kindD it.d="final"∧te.length - 1 - i=1) from fun y=>z y.2),if_neg (fun y=>z (by have:=V.int.inj (of_decide_eq_true y);omega))]<;>rfl
     ·have e5:¬ kk="final":=fun e=>by
       have y:decide (V.str kk=V.str "final")=true:=decide_eq_true (by rw [e])
       rw [y] at h5
       cases h5
      refine .inr ⟨_,rfl,_,_,rfl,rfl,rfl,?_⟩
      rw [if_neg (show ¬ (kindD it.d="final"∧te.length - 1 - i=1) from fun y=>e5 (by rw [← ekd];exact y.1))]<;>rfl
    rintro σ' H' ⟨rfl,rfl⟩
    refine ⟨_,rfl,Or.inl ⟨rfl,_,Evl.sq_of I9.wl⟩,_,rfl,_,rfl,_,rfl,_,_,rfl,rfl,_,rfl,_,rfl,va,_,_,_,rfl,rfl,vS9,at0,rfl,.inr ⟨_,rfl,_,_,rfl,rfl,_,rfl,sz (by simp),fun tn htn=>?_⟩⟩
    obtain ⟨z1,z2,z3,z4⟩:=I9.fresh htn
    refine ⟨wq,_,_,rfl,rfl,(by rw [upd_ne z4.symm];exact I9.wl),szl ?_,?_⟩
    ·have b1:=bd.len
     have b2:=bd.bd
     rw [List.length_append] at b1
     rw [List.length_reverse,List.length_map,I9.wi.len,List.length_append,List.length_drop]
     omega
    have I10:=I9.push (it:=newIt it rows.length (te.length - 1 - i) (partsD it.d)[te.length - 1 - i]) (v:=xs[te.length - 1 - i]) htn (dp_ex (x38.trans x9) hdu) ⟨hgi.2.2 _ (List.getElem_mem lpj),fun j e=>by cases e;rw [addRow_len];omega⟩
    have e6:(newIts it rows.length).drop (te.length - (i + 1))=newIt it rows.length (te.length - 1 - i) (partsD it.d)[te.length - 1 - i]::(newIts it rows.length).drop (te.length - i):=by
     have e7:te.length - (i + 1)=te.length - 1 - i:=by omega
     have l7:te.length - 1 - i<(newIts it rows.length).length:=by rw [newIts_len];exact lpj
     have g7:(newIts it rows.length)[te.length - 1 - i]=newIt it rows.length (te.length - 1 - i) (partsD it.d)[te.length - 1 - i]:=by
      have y:=newIts_get (n:=rows.length) hpj
      rw [List.getElem?_eq_getElem l7] at y
      exact Option.some.inj y
     rw [e7,List.drop_eq_getElem_cons l7,g7]
     congr 2
     omega
    refine ⟨tn::ts'',upd F'' tn (.tup (wV xs[te.length - 1 - i] (newIt it rows.length (te.length - 1 - i) (partsD it.d)[te.length - 1 - i]))),_,_,_,rfl,?_,x9.trans (exu (Evl.Ex.refl _) z2)⟩
    rw [e6,List.cons_append]
    have eH:upd (upd H' tn (.tup (wV xs[te.length - 1 - i] (newIt it rows.length (te.length - 1 - i) (partsD it.d)[te.length - 1 - i])))) wq (.lst (((tn::ts'').map V.ref).reverse)) =
      upd (upd H' tn (.tup [xs[te.length - 1 - i],.int ((rows.map fun r=>V.str (kindD r.d)).length:Int),.int ((it.deep:Int) + 1),.int ((it.loops:Int) + (if decide (V.str kk=V.str "while")=true then 1 else 0)),.int ((it.blocks:Int) + (if kindD it.d="final"∧te.length - 1 - i=1 then 1 else 0))])) wq (.lst ((ts''.map V.ref).reverse++[.ref tn])):=by
     rw [wV_new,ln,ekd,List.map_cons,List.reverse_cons]
    rw [eH] at I10
    exact I10
   ·rintro σ' H9 ⟨ts'',F'',u9,u10,u11,rfl,I9,x9⟩
    rw [List.length_map,Nat.sub_self,List.drop_zero] at I9
    exact ⟨_,_,_,_,_,_,_,_,_,_,_,_,_,_,bd,rfl,I9⟩
  ·rw [eqv_lnil] at h4
   cases bd with
   | step ok bd=>simp at h4
   | done =>
   have I5:=I3.new (o:=.lst []) g4
   obtain ⟨vs,C5,dL5⟩:=id I5.code
   have xf:Ex F3 (frz F3 (upd H3 p4 (.lst [])) B.all):=frz_ex I5.na
   refine q B (frz F3 (upd H3 p4 (.lst [])) B.all) _ I5.ap ⟨I5.ff.trans xf,frz_le I5.fh,fun b h1 h2 h3=>?_,fun b o e hb=>I5.kp b o e hb⟩ ⟨vs,?_,dpA_ex xf dL5⟩
   ·rw [frz_out (fun z=>by
     rcases I5.nh b z with y | y
     ·exact h3 y
     ·exact h1 y)]
    exact I5.nw b h1 h2
   ·have at_:∀ {b:Addr} {o:HO},b∈B.all→upd H3 p4 (.lst []) b=some o→frz F3 (upd H3 p4 (.lst [])) B.all b=some o:=fun hb e=>by rw [frz_in hb];exact e
    exact ⟨at_ (by simp [CAd.all]) C5.ob,at_ (in_all1 B) C5.h1,at_ (in_all2 B) C5.h2,at_ (in_all3 B) C5.h3,at_ (in_all4 B) C5.h4,at_ (in_all5 B) C5.h5,C5.cl,fun i c x h1 h2=>at_ (in_allc (List.mem_of_getElem? h1)) (C5.cc i c x h1 h2),C5.nd⟩
theorem ok_Code___init__ (T:Tx w h K mg):Ok P w K mg base 6 ("Code",some "__init__") ["self","statement"] (sp_Code___init__ K):=by
 obtain ⟨fd,a,b,c,_⟩:=okF_Code___init__ (P:=P) (base:=base) T
 exact ⟨fd,a,b,c⟩
end
theorem make_of {H H2:Hp} {q dx C:Addr} {fs:List (Str×V)} (e:upd (upd H dx (.own q)) q (.ins C dx fs)=H2) (nq:H q=none) (nd:H dx=none):Ex H H2∧H2 q=some (.ins C dx fs):=by
 subst e
 refine ⟨fun b o hb=>?_,upd_same⟩
 rw [upd_ne (ne_of_none hb nq),upd_ne (ne_of_none hb nd)]
 exact hb
end
end Fc
set_option maxRecDepth 100000
set_option maxHeartbeats 4000000
namespace FcM
inductive Way where
 | nrm
 | ret
 | rai
 | brk (k:Nat)
 | cnt (k:Nat)
 deriving DecidableEq
inductive Node where
 | do_
 | call
 | ret
 | rai
 | brk (k:Nat)
 | cnt (k:Nat)
 | iff (a b:Nat)
 | whl (a:Nat)
 | seq (l:List Nat)
 | tr (a b:Nat)
 | fin (a b:Nat)
def Node.ch:Node→List Nat
 | .iff a b=>[a,b]
 | .whl a=>[a]
 | .seq l=>l
 | .tr a b=>[a,b]
 | .fin a b=>[a,b]
 | _=>[]
structure Tab where
 len:Nat
 nd:Nat→Node
 pr:Nat→Option Nat
structure Tab.WF (t:Tab) (lp:Nat→Nat):Prop where
 ne:0<t.len
 root:t.pr 0=none
 lp0:lp 0=0
 dn:∀ n,n<t.len→∀ c∈(t.nd n).ch,n<c∧c<t.len∧t.pr c=some n∧lp c=lp n + (match t.nd n with | .whl _=>1 | _=>0)
 nd:∀ n,n<t.len→(t.nd n).ch.Nodup
 pu:∀ n p,n<t.len→t.pr n=some p→p<t.len
 sq:∀ n l,n<t.len→t.nd n=.seq l→l≠[]
 bk:∀ n k,n<t.len→t.nd n=.brk k→1≤k∧k≤lp n
 ct:∀ n k,n<t.len→t.nd n=.cnt k→1≤k∧k≤lp n
inductive Ent (t:Tab):Nat→Nat→Nat→Prop
 | here {n:Nat} (h:∀ l,t.nd n≠.seq l) (h2:∀ a b,t.nd n≠.tr a b) (h3:∀ a b,t.nd n≠.fin a b):Ent t 0 n n
 | seq {k n c e:Nat} {l:List Nat} (h:t.nd n=.seq (c::l)) (r:Ent t k c e):Ent t (k + 1) n e
 | tr {k n a b e:Nat} (h:t.nd n=.tr a b) (r:Ent t k a e):Ent t (k + 1) n e
 | fin {k n a b e:Nat} (h:t.nd n=.fin a b) (r:Ent t k a e):Ent t (k + 1) n e
inductive Hg (t:Tab):Nat→Nat→Prop
 | mk {h n:Nat} (r:∀ c∈(t.nd n).ch,Hg t h c):Hg t (h + 1) n
def decW:Way→Way
 | .brk k=>if k=1 then .nrm else .brk (k - 1)
 | .cnt k=>.cnt (k - 1)
 | w=>w
def again (w:Way):Bool:=decide (w=.nrm) || decide (w=.cnt 1)
abbrev Pd:=List (Nat×Way)
inductive Lv (t:Tab):Nat→Way→Pd→Nat ⊕ Way→Pd→Prop
 | top {n:Nat} {w:Way} {P:Pd} (h:t.pr n=none):Lv t n w P (.inr w) P
 | seqN {n p m k e:Nat} {l l1 l2:List Nat} {P:Pd} (h:t.pr n=some p) (hd:t.nd p=.seq l) (hl:l=l1++n::m::l2) (he:Ent t k m e):Lv t n .nrm P (.inl e) P
 | seqU {n p:Nat} {w:Way} {l:List Nat} {P P':Pd} {r:Nat ⊕ Way} (h:t.pr n=some p) (hd:t.nd p=.seq l) (hw:w≠.nrm∨l.getLast?=some n) (up:Lv t p w P r P'):Lv t n w P r P'
 | whlA {n p:Nat} {w:Way} {P:Pd} (h:t.pr n=some p) (hd:t.nd p=.whl n) (hw:again w=true):Lv t n w P (.inl p) P
 | whlU {n p:Nat} {w:Way} {P P':Pd} {r:Nat ⊕ Way} (h:t.pr n=some p) (hd:t.nd p=.whl n) (hw:again w=false) (up:Lv t p (decW w) P r P'):Lv t n w P r P'
 | tryH {n p b k e:Nat} {P:Pd} (h:t.pr n=some p) (hd:t.nd p=.tr n b) (he:Ent t k b e):Lv t n .rai P (.inl e) P
 | tryU {n p a b:Nat} {w:Way} {P P':Pd} {r:Nat ⊕ Way} (h:t.pr n=some p) (hd:t.nd p=.tr a b) (hw:w≠.rai∨n≠a) (up:Lv t p w P r P'):Lv t n w P r P'
 | iffU {n p a b:Nat} {w:Way} {P P':Pd} {r:Nat ⊕ Way} (h:t.pr n=some p) (hd:t.nd p=.iff a b) (up:Lv t p w P r P'):Lv t n w P r P'
 | finB {n p b k e:Nat} {w:Way} {P:Pd} (h:t.pr n=some p) (hd:t.nd p=.fin n b) (he:Ent t k b e):Lv t n w P (.inl e) (P++[(p,w)])
 | finE {n p a:Nat} {P:Pd} (h:t.pr n=some p) (hd:t.nd p=.fin a n) (hn:n≠a):Lv t n .nrm P (.inl p) P
 | finO {n p a:Nat} {w:Way} {P P':Pd} {x:Nat×Way} {r:Nat ⊕ Way} (h:t.pr n=some p) (hd:t.nd p=.fin a n) (hn:n≠a) (hw:w≠.nrm) (up:Lv t p w P r P'):Lv t n w (P++[x]) r P'
structure Cfg where
 at_:Nat ⊕ Way
 pd:Pd
 us:Nat
 vs:List Nat
def asks:Node→Bool
 | .call=>true
 | .iff _ _=>true
 | .whl _=>true
 | _=>false
def wayN:Node→Way
 | .ret=>.ret
 | .rai=>.rai
 | .brk k=>.brk k
 | .cnt k=>.cnt k
 | _=>.nrm
def quiet:Node→Prop
 | .do_=>True
 | .ret=>True
 | .rai=>True
 | .brk _=>True
 | .cnt _=>True
 | _=>False
inductive Dp1 (t:Tab) (s:Nat) (x:Bool):Pd→Nat ⊕ Way→Pd→Prop
 | iff {a b k e:Nat} {P:Pd} (h:t.nd s=.iff a b) (he:Ent t k (if x then b else a) e):Dp1 t s x P (.inl e) P
 | whlT {a k e:Nat} {P:Pd} (h:t.nd s=.whl a) (hx:x=true) (he:Ent t k a e):Dp1 t s x P (.inl e) P
 | whlF {a:Nat} {P P':Pd} {r:Nat ⊕ Way} (h:t.nd s=.whl a) (hx:x=false) (l:Lv t s .nrm P r P'):Dp1 t s x P r P'
 | call {P P':Pd} {r:Nat ⊕ Way} (h:t.nd s=.call) (l:Lv t s (if x then .rai else .nrm) P r P'):Dp1 t s x P r P'
 | fin {a b q:Nat} {w:Way} {P P':Pd} {r:Nat ⊕ Way} (h:t.nd s=.fin a b) (l:Lv t s w P r P'):Dp1 t s x (P++[(q,w)]) r P'
 | quiet {P P':Pd} {r:Nat ⊕ Way} (h:quiet (t.nd s)) (l:Lv t s (wayN (t.nd s)) P r P'):Dp1 t s x P r P'
inductive Step (t:Tab) (bits:List Bool):Cfg→Cfg→Prop
 | ask {s:Nat} {x:Bool} {P P':Pd} {u:Nat} {v:List Nat} {r:Nat ⊕ Way} (h:asks (t.nd s)=true) (hu:bits[u]?=some x) (d:Dp1 t s x P r P'):Step t bits ⟨.inl s,P,u,v⟩ ⟨r,P',u + 1,v++[s]⟩
 | on {s:Nat} {P P':Pd} {u:Nat} {v:List Nat} {r:Nat ⊕ Way} (h:asks (t.nd s)=false) (d:Dp1 t s false P r P'):Step t bits ⟨.inl s,P,u,v⟩ ⟨r,P',u,v++[s]⟩
inductive Stop (t:Tab) (bits:List Bool):Cfg→Prop
 | fin {w:Way} {P:Pd} {u:Nat} {v:List Nat}:Stop t bits ⟨.inr w,P,u,v⟩
 | wait {s:Nat} {P:Pd} {u:Nat} {v:List Nat} (h:asks (t.nd s)=true) (hu:bits[u]?=none):Stop t bits ⟨.inl s,P,u,v⟩
inductive Re (t:Tab) (bits:List Bool) (B:Nat):Nat→Cfg→Cfg→Prop
 | stop {c:Cfg} (h:Stop t bits c) (hb:c.pd.length≤B):Re t bits B 0 c c
 | step {n:Nat} {c d e:Cfg} (h:Step t bits c d) (hb:c.pd.length≤B) (r:Re t bits B n d e):Re t bits B (n + 1) c e
abbrev Wt:=(Nat×Pd) ⊕ Way
abbrev Rs:=Wt×Nat×List Nat
def loopF (bits:List Bool) (n:Nat) (P:Pd) (body:Nat→List Nat→Rs):Nat→Nat→List Nat→Rs
 | 0,u,v=>(.inl (n,P),u,v)
 | f + 1,u,v=>match bits[u]? with
  | none=>(.inl (n,P),u,v)
  | some false=>(.inr .nrm,u + 1,v++[n])
  | some true=>match body (u + 1) (v++[n]) with
   | (.inl x,u',v')=>(.inl x,u',v')
   | (.inr w,u',v')=>if again w=true then loopF bits n P body f u' v' else (.inr (decW w),u',v')
def seqF (go:Nat→Nat→List Nat→Rs):List Nat→Rs→Rs
 | [],r=>r
 | c::cs,(w,u,v)=>if w=.inr .nrm then seqF go cs (go c u v) else seqF go cs (w,u,v)
def finF (n:Nat) (w:Way):Rs→Rs
 | (.inl x,u,v)=>(.inl x,u,v)
 | (.inr w2,u,v)=>if w2=.nrm then (.inr w,u,v++[n]) else (.inr w2,u,v)
def goF (t:Tab) (bits:List Bool):Nat→Nat→Pd→Nat→List Nat→Rs
 | 0,n,P,u,v=>(.inl (n,P),u,v)
 | h + 1,n,P,u,v=>match t.nd n with
  | .whl a=>loopF bits n P (goF t bits h a P) (bits.length + 1) u v
  | .fin a b=>match goF t bits h a P u v with
   | (.inl x,u1,v1)=>(.inl x,u1,v1)
   | (.inr w,u1,v1)=>finF n w (goF t bits h b (P++[(n,w)]) u1 v1)
  | .call=>match bits[u]? with
   | none=>(.inl (n,P),u,v)
   | some x=>(.inr (if x then .rai else .nrm),u + 1,v++[n])
  | .iff a b=>match bits[u]? with
   | none=>(.inl (n,P),u,v)
   | some x=>goF t bits h (if x then b else a) P (u + 1) (v++[n])
  | .seq l=>seqF (fun c=>goF t bits h c P) l (.inr .nrm,u,v)
  | .tr a b=>match goF t bits h a P u v with
   | (.inr .rai,u1,v1)=>goF t bits h b P u1 v1
   | r=>r
  | d=>(.inr (wayN d),u,v++[n])
def WOk (l:Nat):Way→Prop
 | .brk k=>1≤k∧k≤l
 | .cnt k=>1≤k∧k≤l
 | _=>True
section
variable {t:Tab} {lp:Nat→Nat} {bits:List Bool}
def After (t:Tab) (bits:List Bool) (B n:Nat) (w:Way) (P:Pd) (u:Nat) (v:List Nat) (cf:Cfg):Prop:=∃ r P' N,Lv t n w P r P'∧Re t bits B N ⟨r,P',u,v⟩ cf
def From (t:Tab) (bits:List Bool) (B n:Nat) (P:Pd) (u:Nat) (v:List Nat) (cf:Cfg):Prop:=∃ k e N,Ent t k n e∧Re t bits B N ⟨.inl e,P,u,v⟩ cf
def Good (t:Tab) (bits:List Bool) (B:Nat) (lp:Nat→Nat) (n:Nat) (P:Pd) (u:Nat) (v:List Nat):Rs→Prop
 | (.inr w,u',v')=>u≤u'∧u'≤bits.length∧WOk (lp n) w∧∀ cf,After t bits B n w P u' v' cf→From t bits B n P u v cf
 | (.inl x,u',v')=>u≤u'∧u'≤bits.length∧∃ cf,From t bits B n P u v cf∧cf.vs=v'∧cf.us=u'∧cf.at_=.inl x.1∧cf.pd=x.2
end
end FcM
set_option maxRecDepth 100000
set_option maxHeartbeats 4000000
namespace FcW
open PySem PySem.Spec PyProof.Rows L2
abbrev Ent:=List Key×Addr×V
def RelE (p:Ent) (q:List Key×Addr×Value):Prop:=p.1=q.1∧p.2.1=q.2.1∧RelV p.2.2 q.2.2
def dW (P:Program) (w:World) (d:Addr) (o:Obj) (xs:List Ent):HO:=.ext fun h=>h.get? d=some o∧(d == sysModules)=false∧xs.length≤sizeLine∧o.ExactDict ∧
 ∃ ys:List (List Key×Addr×Value),Paired RelE xs ys∧(∃ es ep,o.data=.dict es ep∧es.toList=ys.map (entryOfKey (tupleKind (mixKind P w))))∧(ys.map (·.1)).Nodup
def kvs (xs:List Ent):List (List Key×V):=xs.map fun x=>(x.1,x.2.2)
def putW (xs:List Ent) (k:List Key) (b:Addr) (v:V):List Ent :=
 if (valV (kvs xs) k).isSome=true then xs.map (fun x=>if x.1=k then (x.1,x.2.1,v) else x) else xs++[(k,b,v)]
def KeysT (K:PySem.W.Frag) (H:Hp) (xs:List Ent):Prop:=∀ x∈xs,SqT K H x.2.1 (x.1.map kV)
def WD (P:Program) (w:World) (K:PySem.W.Frag) (H:Hp) (d:Addr) (o:Obj) (xs:List Ent):Prop:=H d=some (dW P w d o xs)∧KeysT K H xs
theorem len_putW (xs:List Ent) (k:List Key) (b:Addr) (v:V):(putW xs k b v).length≤xs.length + 1:=by
 unfold putW
 split
 ·rw [List.length_map];omega
 ·rw [List.length_append];simp
theorem keysT_put {K:PySem.W.Frag} {H H':Hp} {xs:List Ent} {k:List Key} {b:Addr} {v:V} (h:KeysT K H xs) (hb:SqT K H b (k.map kV)) (e:∀ c ys,SqT K H c ys→SqT K H' c ys):KeysT K H' (putW xs k b v):=by
 intro x hx
 unfold putW at hx
 split at hx
 ·obtain ⟨y,hy,rfl⟩:=List.mem_map.mp hx
  by_cases z:y.1=k
  ·simp only [z,if_true];rw [← z];exact e _ _ (h y hy)
  ·simp only [z,if_false];exact e _ _ (h y hy)
 ·rcases List.mem_append.mp hx with hx | hx
  ·exact e _ _ (h x hx)
  ·obtain rfl:=List.mem_singleton.mp hx
   exact e _ _ hb
section
variable {P:Program} {w:World} {H:Hp} {h:Heap} {d:Addr} {o:Obj} {xs:List Ent}
theorem dw_ok {ys:List (List Key×Addr×Value)} {es:Array DictEntry} {ep:Nat} (h1:h.get? d=some o) (h2:(d == sysModules)=false) (h3:xs.length≤sizeLine) (h4:o.ExactDict) (h5:Paired RelE xs ys) (h6:o.data=.dict es ep)
  (h7:es.toList=ys.map (entryOfKey (tupleKind (mixKind P w)))) (h8:(ys.map (·.1)).Nodup):ObjOk P w H h d (dW P w d o xs) :=
 ⟨⟨h1,h2,h3,h4,ys,h5,⟨es,ep,h6,h7⟩,h8⟩,⟨o,h1⟩,fun _ _ z k=>⟨k _ z.1,z.2⟩⟩
theorem dw_of (ok:HOk P w H h) (e:H d=some (dW P w d o xs)):h.get? d=some o∧(d == sysModules)=false∧xs.length≤sizeLine∧o.ExactDict ∧
  ∃ ys:List (List Key×Addr×Value),Paired RelE xs ys∧(∃ es ep,o.data=.dict es ep∧es.toList=ys.map (entryOfKey (tupleKind (mixKind P w))))∧(ys.map (·.1)).Nodup :=
 (show ObjOk P w H h d (dW P w d o xs) from ok d _ e).1
theorem relE_val {ys:List (List Key×Addr×Value)} (r:Paired RelE xs ys) (k:List Key):RelO (valV (kvs xs) k) ((atKey ys k).map (·.2)):=by
 induction r with
 | nil=>exact True.intro
 | @cons p q ps qs z t ih =>
  obtain ⟨z1,z2,z3⟩:=z
  by_cases e:p.1=k
  ·have e':q.1=k:=z1.symm.trans e
   have b:atKey (q::qs) k=some q.2:=by simp [atKey,List.find?_cons,e']
   rw [show kvs (p::ps)=(p.1,p.2.2)::kvs ps from rfl,valV_pos (p:=(p.1,p.2.2)) e,b];exact z3
  ·have e':¬ q.1=k:=fun y=>e (z1.trans y)
   have b:atKey (q::qs) k=atKey qs k:=by simp [atKey,List.find?_cons,e']
   rw [show kvs (p::ps)=(p.1,p.2.2)::kvs ps from rfl,valV_neg (p:=(p.1,p.2.2)) e,b];exact ih
theorem relE_put {ys:List (List Key×Addr×Value)} (r:Paired RelE xs ys) (k:List Key) (b:Addr) {v:V} {u:Value} (rv:RelV v u):Paired RelE (putW xs k b v) (storedH ys k b u):=by
 have e:(valV (kvs xs) k).isSome=(atKey ys k).isSome:=by rw [(relE_val r k).isSome_eq,Option.isSome_map]
 unfold putW storedH
 rw [e]
 by_cases q:(atKey ys k).isSome=true
 ·rw [if_pos q,if_pos q]
  clear e q
  induction r with
  | nil=>exact .nil
  | @cons p q ps qs z t ih =>
   rw [List.map_cons,List.map_cons]
   refine .cons ?_ ih
   obtain ⟨z1,z2,z3⟩:=z
   unfold putAt
   by_cases e:p.1=k
   ·rw [if_pos e,if_pos (z1.symm.trans e)];exact ⟨z1,z2,rv⟩
   ·rw [if_neg e,if_neg (fun y=>e (z1.trans y))];exact ⟨z1,z2,z3⟩
 ·rw [if_neg q,if_neg q];exact Paired.snoc r ⟨rfl,rfl,rv⟩
end
section
variable {X:Cx} {pins:List (Addr×Obj)} {σ:L2.St} {H:Hp} {s:Shared} {d b:Addr} {o:Obj} {xs:List Ent} {k:List Key} {v:V} {u:Value} {A:Around} {E:Value→Shared→Prop}
theorem key_is (I:Inv X pins σ H s) (e:SqT X.K H b (k.map kV)):(tupleKind (mixKind X.prog X.w)).is s.heap k b:=by
 obtain ⟨its,r,⟨ob,h1,h2,n,h3⟩,_⟩:=I.tuple e
 exact ⟨ob,its.toArray,n,h1,h2,h3,by simpa using items_are r⟩
theorem mem_pair {ys:List (List Key×Addr×Value)} (r:Paired RelE xs ys):∀ y∈ys,∃ x∈xs,RelE x y:=by
 induction r with
 | nil=>intro y hy;exact nomatch hy
 | @cons p q ps qs z t ih =>
  intro y hy
  rcases List.mem_cons.mp hy with rfl | hy
  ·exact ⟨p,List.mem_cons_self,z⟩
  ·obtain ⟨x,hx,e⟩:=ih y hy
   exact ⟨x,List.mem_cons_of_mem _ hx,e⟩
theorem Inv.way (I:Inv X pins σ H s) (D:WD X.prog X.w X.K H d o xs):s.heap.get? d=some o∧(d == sysModules)=false∧xs.length≤sizeLine∧o.ExactDict ∧
  ∃ (ys:List (List Key×Addr×Value)) (es:Array DictEntry) (ep:Nat),Paired RelE xs ys∧o.data=.dict es ep∧es.toList=ys.map (entryOfKey (tupleKind (mixKind X.prog X.w)))∧s.heap.DictOfH (tupleKind (mixKind X.prog X.w)) d ys:=by
 obtain ⟨h1,h2,h3,h4,ys,h5,⟨es,ep,h6,h7⟩,h8⟩:=dw_of I.hok D.1
 refine ⟨h1,h2,h3,h4,ys,es,ep,h5,h6,h7,o,es,ep,h1,h4,h6,h7,fun y hy=>?_,h8⟩
 obtain ⟨x,hx,e1,e2,_⟩:=mem_pair h5 y hy
 have z:=key_is I (D.2 x hx)
 rw [e1,e2] at z
 exact z
theorem w_getItem {Q:Value→Shared→Prop} (hu:A.units + 1<cLine) (I:Inv X pins σ H s) (D:WD X.prog X.w X.K H d o xs) (hb:SqT X.K H b (k.map kV)) (g:valV (kvs xs) k=some v) (h:∀ w' s',Inv X pins σ H s'→RelV v w'→Q w' s') :
  wpAny (model X.prog X.w) A (getItem (.ref d) (.ref b)) Q E s:=by
 obtain ⟨_,hd,_,_,ys,es,ep,rel,_,_,dd⟩:=Inv.way I D
 obtain ⟨w',hw,rw'⟩:=RelO.some_of (v:=v) (o:=(atKey ys k).map (·.2)) (by rw [← g];exact relE_val rel k)
 obtain ⟨p,hp,hp2⟩:=Option.map_eq_some_iff.mp hw
 refine wpAny_getItem_heap (tupleKind_room_in1 hu) (key_is I hb) dd hp ?_
 rw [hp2]
 exact h w' _ (I.tok _) rw'
theorem w_some (I:Inv X pins σ H s) (D:WD X.prog X.w X.K H d o xs) {ys:List (List Key×Addr×Value)} (rel:Paired RelE xs ys) (k:List Key):(atKey ys k).isSome=(valV (kvs xs) k).isSome:=by
 have q:=(relE_val rel k).isSome_eq
 rw [Option.isSome_map] at q
 exact q.symm
def rWIn (P:Program) (w:World) (K:PySem.W.Frag):R2:=fun y x H Q=>∃ (d b:Addr) (o:Obj) (xs:List Ent) (k:List Key),x=.ref d∧y=.ref b∧WD P w K H d o xs∧SqT K H b (k.map kV)∧Q (.bl (valV (kvs xs) k).isSome) H
def rWNotIn (P:Program) (w:World) (K:PySem.W.Frag):R2:=fun y x H Q=>∃ (d b:Addr) (o:Obj) (xs:List Ent) (k:List Key),x=.ref d∧y=.ref b∧WD P w K H d o xs∧SqT K H b (k.map kV)∧Q (.bl (!(valV (kvs xs) k).isSome)) H
theorem op_inW (hu:X.A.units + 1<cLine):OpR X (compareOp .In) (rWIn X.prog X.w X.K):=by
 intro pins s σ H y x u v Q I ry rx h
 obtain ⟨d,b,o,xs,k,rfl,rfl,D,hb,q⟩:=h
 cases rx;cases ry
 obtain ⟨_,hd,_,_,ys,es,ep,rel,_,_,dd⟩:=Inv.way I D
 refine wpAny_in_heap (tupleKind_room_in1 hu) (key_is I hb) hd dd ?_
 rw [w_some I D rel]
 exact ⟨.bl _,H,I.tok _,rfl,q⟩
theorem op_notinW (hu:X.A.units + 1<cLine):OpR X (compareOp .NotIn) (rWNotIn X.prog X.w X.K):=by
 intro pins s σ H y x u v Q I ry rx h
 obtain ⟨d,b,o,xs,k,rfl,rfl,D,hb,q⟩:=h
 cases rx;cases ry
 obtain ⟨_,hd,_,_,ys,es,ep,rel,_,_,dd⟩:=Inv.way I D
 refine wpAny_notIn_heap (tupleKind_room_in1 hu) (key_is I hb) hd dd ?_
 rw [w_some I D rel]
 exact ⟨.bl _,H,I.tok _,rfl,q⟩
def rWIx (P:Program) (w:World) (K:PySem.W.Frag):R2:=fun x y H Q=>∃ (d b:Addr) (o:Obj) (xs:List Ent) (k:List Key) (v:V),x=.ref d∧y=.ref b∧WD P w K H d o xs∧SqT K H b (k.map kV)∧valV (kvs xs) k=some v∧Q v H
theorem ix_way (hu:X.A.units + 1<cLine):IxR X (rWIx X.prog X.w X.K):=by
 intro value slice pins s σ H x y v u Q I rx ry h hs
 obtain ⟨d,b,o,xs,k,z,rfl,rfl,D,hb,g,q⟩:=h
 cases rx;cases ry
 obtain ⟨_,hd,_,_,ys,es,ep,rel,_,_,dd⟩:=Inv.way I D
 have hT:s.TypeIs (.ref d) "dict":=dd.typeIs
 unfold subscriptTail
 refine wpAny_bind ?_
 rw [getitemInPython_of_ne hT.not_modules]
 refine wpAny_bind (wpAny_specialOf hT PySem.F.slot_dict_getitem.lookup ?_)
 have fin:wpAny (model X.prog X.w) X.A (subscripted slice false (.ref d) (.ref b)) (fun r s₃=>wpAny (model X.prog X.w) X.A (letTemporaryGo value (.ref d) r >>= fun _=>pure r) (EP X pins σ Q) X.xe s₃) X.xe s:=by
  rw [hs]
  exact wpAny_operating (w_getItem hu I D hb g fun w' s' I' rw'=>wpAny_bind (wpAny_letTemporaryGo (wpAny_pure ⟨z,H,I',rw',q⟩)))
 first
  | exact wpAny_pure (wpAny_bind fin)
  | exact wpAny_bind (wpAny_pure (wpAny_bind fin))
  | exact wpAny_bind fin
def rWSet (P:Program) (w:World) (K:PySem.W.Frag):TSet:=fun x y v H Q=>∃ (d b:Addr) (o:Obj) (xs:List Ent) (k:List Key),x=.ref d∧y=.ref b∧WD P w K H d o xs∧SqT K H b (k.map kV)∧xs.length<sizeLine ∧
 ∀ o',Q (upd H d (dW P w d o' (putW xs k b v)))
theorem set_way (hu:X.A.units + 1<cLine):PSet X (rWSet X.prog X.w X.K):=by
 intro pins s σ H x y v ov iv u Q I ro ri rv h
 obtain ⟨d,b,o,xs,k,rfl,rfl,D,hb,hl,q⟩:=h
 cases ro;cases ri
 obtain ⟨_,hd,hz,_,ys,es,ep,rel,_,_,dd⟩:=Inv.way I D
 refine wpAny_setItem_heap (hsz:=by rw [← Paired.length rel];exact hz) (tupleKind_room_in1 hu) (key_is I hb) dd fun h' dd' hs=>?_
 obtain ⟨o',es',ep',hq,h2,h3,h4,_,h5⟩:=dd'
 refine ⟨_,d_write (ob:=dW X.prog X.w d o' (putW xs k b v)) I (by rw [D.1];exact True.intro) hs ⟨_,hq⟩ (dw_ok hq hd ?_ h2 (relE_put rel k b rv) h3 h4 h5),q o'⟩
 have:=len_putW xs k b v
 omega
def rWGet (P:Program) (w:World) (K:PySem.W.Frag):V→List V→Hp→VK→Prop:=fun x vs H Q=>∃ (d b:Addr) (o:Obj) (xs:List Ent) (k:List Key),x=.ref d∧vs=[.ref b]∧WD P w K H d o xs∧SqT K H b (k.map kV)∧Q ((valV (kvs xs) k).getD .non) H
theorem mt_getW (hu:X.A.units + 1<cLine):MtR X "dict.get" (rWGet X.prog X.w X.K):=by
 intro pins s σ H x vs v us Q I rx r h
 obtain ⟨d,b,o,xs,k,rfl,rfl,D,hb,q⟩:=h
 cases rx
 obtain rfl:=Vals.ref1 r
 obtain ⟨_,hd,hz,_,ys,es,ep,rel,_,_,dd⟩:=Inv.way I D
 refine call_meetsIn PySem.F.slot_dict_get dd.typeIs PySem.F.entry_dict_get (PySem.F.args_dict_get_2 _ _) (meetsH_dict_get (tupleKind (mixKind X.prog X.w)) d b hd) ⟨tupleKind_room_in1 hu,k,ys,key_is I hb,dd,?_⟩
 exact ⟨_,H,I.tok _,(relE_val rel k).getD (d:=.non) rfl,q⟩
def tWNew (P:Program) (w:World):TE:=fun _ H Q=>∀ p o,H p=none→Q (.ref p) (upd H p (dW P w p o []))
theorem dw_empty (h:Heap) (hb:sysModules<h.objs.size):ObjOk X.prog X.w H (h.push { cls:=.type "dict",data:=.dict #[] }) h.objs.size (dW X.prog X.w h.objs.size { cls:=.type "dict",data:=.dict #[] } []) :=
 dw_ok (ys:=[]) (es:=#[]) (ep:=0) (Heap.get?_push_size _ rfl) (beq_eq_false_iff_ne.mpr (Ne.symm (Nat.ne_of_lt hb))) (Nat.zero_le _) ⟨rfl,rfl,rfl⟩ .nil rfl rfl List.nodup_nil
theorem pe_wnew {pos:Pos}:PE X (.Dict [] [] pos) (tWNew X.prog X.w):=⟨fun pins s σ H Q I h =>
 wpAny_Dict_empty ⟨.ref s.heap.objs.size,_,I.laid (a:=s.heap.objs.size) (o:=dW X.prog X.w s.heap.objs.size _ []) (t':=s.toks) (fun _ _ q=>Heap.get?_push_of_some _ q) (Nat.le_refl _) (dw_empty s.heap I.big),rfl,h _ _ (I.hok.fresh (Nat.le_refl _))⟩⟩
end
end FcW
set_option maxRecDepth 100000
set_option maxHeartbeats 4000000
namespace FcW
open PySem PySem.Spec PyProof.Rows L2
section
variable {X:Cx} {pins:List (Addr×Obj)} {σ:L2.St} {H:Hp} {s:Shared} {d b:Addr} {o:Obj} {xs:List Ent} {k:List Key} {v:V} {u:Value} {A:Around} {E:Value→Shared→Prop}
theorem Dict_walkH {prog:Program} {w:World} {κ:Type} [DecidableEq κ] {knd:HeapKind prog w κ} {env:Env} {keys:List (Option Expr)} {values:List Expr} {pos:Pos} {Q:Value→Shared→Prop} (hu:knd.room A)
  (hall:keys.all (·.isSome)=true) (hl:keys.length=values.length) (h0:keys≠[]) (hlen:keys.length≤15)
  (h:wpAny (model prog w) A (evalPairs (pairTrees keys values env pos)) (fun vs s₁=>∃ ps,CarriesH knd s₁.heap vs ps∧s₁.heap.DictOfH knd s.heap.objs.size [] ∧
   ∀ h' tk,h'.DictOfH knd s.heap.objs.size (storedAllH [] ps)→Heap.SameBut s.heap.objs.size s₁.heap h'→Q (.ref s.heap.objs.size) { s₁ with heap:=h',toks:=tk }) E
   { s with heap:=s.heap.push { cls:=.type "dict",data:=.dict #[] } }) :
  wpAny (model prog w) A (eval (.Dict keys values pos) env) Q E s:=by
 have hn:=pairTrees_length keys values env pos hall hl
 have h0':pairTrees keys values env pos≠[]:=fun he=>by
  rw [he] at hn
  exact h0 (List.eq_nil_of_length_eq_zero hn.symm)
 rw [arm_eval_Dict,zip_pairTrees keys values env pos hall hl,dictDisplay_pairs (pairTrees keys values env pos) h0' (by omega)]
 exact wpAny_bind (wpAny_standAt (wpAny_bind (wpAny_subDictH (knd:=knd) (Q:=fun d s'=>wpAny (model prog w) A (pure (Value.ref d)) Q E s') hu (by omega)
  (wpAny_mono h (fun vs s₁ h₁=>by obtain ⟨ps,hc,hm,hq⟩:=h₁;exact ⟨ps,hc,hm,fun h' tk a b=>wpAny_pure (hq h' tk a b)⟩) fun _ _ e=>e))))
theorem stored_nodup {κ:Type} [DecidableEq κ]:∀ (ps acc:List (κ×Addr×Value)),((acc++ps).map (·.1)).Nodup→storedAllH acc ps=acc++ps
 | [],acc,_=>by simp [storedAllH]
 | p::ps,acc,h=>by
  have hn:atKey acc p.1=none:=by
   unfold atKey
   rw [Option.map_eq_none_iff,List.find?_eq_none]
   intro x hx e
   rw [List.map_append,List.map_cons] at h
   have:=(List.nodup_append.mp h).2.2 x.1 (List.mem_map.mpr ⟨x,hx,rfl⟩) p.1 List.mem_cons_self
   exact this (by simpa using e)
  show storedAllH (storedH acc p.1 p.2.1 p.2.2) ps=_
  rw [storedH_new hn,stored_nodup ps (acc++[(p.1,p.2.1,p.2.2)]) (by simpa [List.append_assoc] using h),List.append_assoc]
  rfl
def tWDisp (P:Program) (w:World) (K:PySem.W.Frag) (trs:List (TE×TE)):TE:=fun σ H Q=>∀ p o,H p=none→tPairs trs σ (upd H p (dW P w p o [])) fun ps H2 =>
 H2 p=some (dW P w p o [])∧∃ xs:List Ent,ps=xs.map (fun x=>(V.ref x.2.1,x.2.2))∧xs.length≤15∧KeysT K H2 xs∧(xs.map (·.1)).Nodup∧∀ o',Q (.ref p) (upd H2 p (dW P w p o' xs))
theorem carries_way (I:Inv X pins σ H s):∀ {xs:List Ent} {ws:List (Value×Value)},VV (xs.map fun x=>(V.ref x.2.1,x.2.2)) ws→KeysT X.K H xs→∃ ys,CarriesH (tupleKind (mixKind X.prog X.w)) s.heap ws ys∧Paired RelE xs ys
 | [],_,r,_=>by rw [List.map_nil] at r;cases r;exact ⟨[],True.intro,.nil⟩
 | x::xs,_,r,hk=>by
  rw [List.map_cons] at r
  cases r with
  | @cons _ b _ bs h t =>
   obtain ⟨ys,c,q⟩:=carries_way I t (fun y hy=>hk y (List.mem_cons_of_mem _ hy))
   obtain ⟨b1,b2⟩:=b
   obtain ⟨z1,z2⟩:=h
   cases (show b1=Value.ref x.2.1 from z1)
   exact ⟨(x.1,x.2.1,b2)::ys,⟨rfl,rfl,key_is I (hk x List.mem_cons_self),c⟩,.cons ⟨rfl,rfl,z2⟩ q⟩
theorem relE_keys {ys:List (List Key×Addr×Value)} (r:Paired RelE xs ys):ys.map (·.1)=xs.map (·.1):=by
 induction r with
 | nil=>rfl
 | @cons p q ps qs z t ih=>rw [List.map_cons,List.map_cons,ih,z.1]
theorem pe_wdisp {pos:Pos} {keys:List (Option Expr)} {values:List Expr} {trs:List (TE×TE)} (hu:X.A.units<cLine) (h:PPs X pos keys values trs) (hall:keys.all (·.isSome)=true) (hl:keys.length=values.length) (h0:keys≠[])
  (h15:keys.length≤15):PE X (.Dict keys values pos) (tWDisp X.prog X.w X.K trs):=by
 refine ⟨fun pins s σ H Q I q=>?_⟩
 have hn:=I.hok.fresh (Nat.le_refl s.heap.objs.size)
 have I1:=I.laid (a:=s.heap.objs.size) (o:=dW X.prog X.w s.heap.objs.size _ []) (h':=s.heap.push { cls:=.type "dict",data:=.dict #[] }) (t':=s.toks) (fun _ _ q=>Heap.get?_push_of_some _ q) (Nat.le_refl _) (dw_empty s.heap I.big)
 refine Dict_walkH (knd:=tupleKind (mixKind X.prog X.w)) hu hall hl h0 h15 (thn (h.run pins _ σ _ _ I1 (q _ _ hn)) fun ws s2 ⟨ps,H2,I2,rel,e,xs,ep,lk,kt,nd,q2⟩=>?_)
 subst ep
 obtain ⟨ys,c,rk⟩:=carries_way I2 rel kt
 obtain ⟨_,hd,_,_,ys0,_,_,r0,_,_,dd⟩:=Inv.way I2 ⟨e,fun x hx=>nomatch hx⟩
 cases r0
 refine ⟨ys,c,dd,fun h' tk dd' hs=>?_⟩
 rw [stored_nodup ys [] (by rw [List.nil_append,relE_keys rk];exact nd),List.nil_append] at dd'
 obtain ⟨o',es',ep',hq,h2,h3,h4,_,h5⟩:=dd'
 exact ⟨.ref s.heap.objs.size,_,d_write (t':=tk) (ob:=dW X.prog X.w s.heap.objs.size o' xs) I2 (by rw [e];exact True.intro) hs ⟨_,hq⟩ (dw_ok hq hd (by rw [sizeLine_eq];omega) h2 rk h3 h4 h5),rfl,q2 o'⟩
end
def ItwI (P:Program) (w:World) (d:Addr) (o:Obj) (xs:List Ent):It :=
 ⟨fun i H=>H d=some (dW P w d o xs)∧i<xs.length,fun i H x H'=>∃ T e,xs[i]?=some e∧x=.ref T∧H T=none∧H'=upd H T (.tup [.ref e.2.1,e.2.2]),fun i H=>H d=some (dW P w d o xs)∧xs.length≤i⟩
def ItwV (P:Program) (w:World) (d:Addr) (o:Obj) (xs:List Ent):It :=
 ⟨fun i H=>H d=some (dW P w d o xs)∧i<xs.length,fun i H x H'=>H'=H∧∃ e,xs[i]?=some e∧x=e.2.2,fun i H=>H d=some (dW P w d o xs)∧xs.length≤i⟩
section
variable {P:Program} {w:World} {K:PySem.W.Frag} {tg:Expr} {d:Addr} {o:Obj} {es:Array DictEntry} {ep:Nat} {xs:List Ent}
theorem Inv.wraw {X:Cx} {pins:List (Addr×Obj)} {σ:L2.St} {H:Hp} {s:Shared} (I:Inv X pins σ H s) (h:H d=some (dW X.prog X.w d o xs)) (hod:o.data=.dict es ep) :
  (d == sysModules)=false∧s.heap.DictRaw d es ep∧es.size=xs.length∧∀ (i:Nat) (e:Ent),xs[i]?=some e→∃ en,es[i]?=some en∧en.key=.ref e.2.1∧RelV e.2.2 en.val:=by
 obtain ⟨h1,h2,h3,h4,ys,h5,⟨es',ep',h6,h7⟩,h8⟩:=dw_of I.hok h
 obtain ⟨rfl,rfl⟩:=dict_ep hod h6
 have l1:es'.size=ys.length:=size_of_entries h7
 have l2:xs.length=ys.length:=Paired.length h5
 refine ⟨h2,⟨o,h1,h4,hod⟩,by omega,fun i e he=>?_⟩
 obtain ⟨y,hy,e1,e2,e3⟩:=paired_get h5 he
 have q:=entry_at h7 i
 rw [hy] at q
 exact ⟨_,q,by rw [e2]<;>rfl,e3⟩
theorem turn_wvals (it:Addr) (hod:o.data=.dict es ep):Turn P w K tg (ItwV P w d o xs) [it] it (fun i h=>h.IsValIter it d i es.size ep) where
 mem:=by simp
 obj:=fun i h st b hb=>by
  have e:b=it:=by simpa using hb
  subst e
  obtain ⟨oi,e,c,dd⟩:=st
  exact ⟨oi,e,fun v z=>by rw [dd] at z;cases z⟩
 keep:=fun i h h' st k=>st.at fun oi e=>k it (by simp) oi e
 item:=by
  intro X hP hw hK hc i pins s σ H E I hf st hg
  subst hP hw hK
  obtain ⟨hd,hi⟩:=hg
  obtain ⟨f0,f1,f2,f3,f4,f5⟩:=hf it (by simp)
  obtain ⟨hs,hm,hsz,ent⟩:=Inv.wraw I hd hod
  obtain ⟨e,hxe⟩:∃ p,xs[i]?=some p:=⟨xs[i],List.getElem?_eq_getElem hi⟩
  obtain ⟨en,hen,ek,ev⟩:=ent i e hxe
  obtain ⟨hlt,hen'⟩:=Array.getElem?_eq_some_iff.mp hen
  refine wpAny_pyNext_values_item_raw st hm hlt fun h' st' sb=>?_
  rw [hen']
  have I1:Inv X pins σ H { s with heap:=h' }:=I.turned (t':=s.toks) (fun b ob hb e=>(sb.2 b hb).trans e) f0 f1 f3 f4 f5
  obtain ⟨oi,e',c,dd⟩:=id st'
  exact ⟨_,rfl,go_of (s:={ s with heap:=h' }) e' c dd (by decide) ⟨e.2.2,H,I1,ev,⟨rfl,e,hxe,rfl⟩,st',fun b hb=>(hf b hb).1⟩⟩
 done:=by
  intro X hP hw hK hc i pins s σ H E I hf st hg
  subst hP hw hK
  obtain ⟨hd,hi⟩:=hg
  obtain ⟨f0,f1,f2,f3,f4,f5⟩:=hf it (by simp)
  obtain ⟨hs,hm,hsz,ent⟩:=Inv.wraw I hd hod
  exact wpAny_pyNext_values_end_raw (I.ok.hd hc) st hm (by omega) fun h' eb=>⟨rfl,I.turned (t':=s.toks) (fun b ob hb e=>eb b ob hb e) f0 f1 f3 f4 f5⟩
 self:=fun A i s Q E st h=>wpAny_pyIter_valiter st h
theorem turn_witems {elts:List Expr} {kk:Nat} {tpos:Pos} (it:Addr) (hod:o.data=.dict es ep) :
  Turn P w K (.Tuple elts kk tpos) (ItwI P w d o xs) [it] it (fun i h=>∃ ok ov,IsItemIter h it d i es.size ep ok ov) where
 mem:=by simp
 obj:=fun i h st b hb=>by
  have e:b=it:=by simpa using hb
  subst e
  obtain ⟨ok,ov,e⟩:=st
  exact ⟨_,e,fun v z=>nomatch z⟩
 keep:=fun i h h' st k=>let ⟨ok,ov,e⟩:=st;⟨ok,ov,k it (by simp) _ e⟩
 item:=by
  intro X hP hw hK hc i pins s σ H E I hf st hg
  subst hP hw hK
  obtain ⟨hd,hi⟩:=hg
  obtain ⟨hs,hm,hsz,ent⟩:=Inv.wraw I hd hod
  obtain ⟨e,hxe⟩:∃ p,xs[i]?=some p:=⟨xs[i],List.getElem?_eq_getElem hi⟩
  obtain ⟨en,hen,ek,ev⟩:=ent i e hxe
  obtain ⟨hlt',hen'⟩:=Array.getElem?_eq_some_iff.mp hen
  obtain ⟨ok,ov,he⟩:=st
  have hlt:it<s.heap.objs.size:=Heap.lt_size he
  refine wpAny_pyNext_items_item_raw he hm hlt' fun h' ho hT hz hk=>?_
  rw [hen'] at ho hT
  refine ⟨_,rfl,wpAny_letOwnedTupleGo_items (s:={ s with heap:=h' }) ho fun h'' he' sb=>?_⟩
  have hT2:h''.get? s.heap.objs.size=some { cls:=.type "tuple",data:=.seq #[en.key,en.val] }:=(sb.2 _ (Nat.ne_of_gt hlt)).trans hT
  have new:ObjOk X.prog X.w (upd H s.heap.objs.size (.tup [.ref e.2.1,e.2.2])) h'' s.heap.objs.size (.tup [.ref e.2.1,e.2.2]) :=
   ⟨by show 2≤sizeLine;decide,[en.key,en.val],.cons ek (.cons ev .nil),⟨_,hT2,rfl,_,rfl⟩⟩
  have I1:Inv X pins σ (upd H s.heap.objs.size (.tup [.ref e.2.1,e.2.2])) { s with heap:=h'' } :=
   I.turnedNew (t':=s.toks) (ch:=[it]) (fun b ob hb e=>(sb.2 b (by simpa using hb)).trans (hk b ob (by simpa using hb) e)) hf (Nat.le_refl _) new
  refine ⟨.ref s.heap.objs.size,_,I1,rfl,⟨_,e,hxe,rfl,I.hok.fresh (Nat.le_refl _),rfl⟩,⟨en.key,en.val,he'⟩,fun b hb=>?_⟩
  have e:b=it:=by simpa using hb
  rw [e,upd_ne (Nat.ne_of_lt hlt)]
  exact (hf it (by simp)).1
 done:=by
  intro X hP hw hK hc i pins s σ H E I hf st hg
  subst hP hw hK
  obtain ⟨hd,hi⟩:=hg
  obtain ⟨f0,f1,f2,f3,f4,f5⟩:=hf it (by simp)
  obtain ⟨hs,hm,hsz,ent⟩:=Inv.wraw I hd hod
  obtain ⟨ok,ov,he⟩:=st
  exact wpAny_pyNext_items_end_raw (I.ok.hd hc) he hm (by omega) fun h' eb=>⟨rfl,I.turned (t':=s.toks) (fun b ob hb e=>eb b ob hb e) f0 f1 f3 f4 f5⟩
 self:=fun A i s Q E st h=>let ⟨_,_,e⟩:=st;PySem.W.kcp_self e h
end
def iWVals (P:Program) (w:World) (td:TE):TI:=fun σ H R=>td σ H fun x H1=>∃ d o xs,x=.ref d∧H1 d=some (dW P w d o xs)∧R (ItwV P w d o xs) H1
def iWItems (P:Program) (w:World) (td:TE):TI:=fun σ H R=>td σ H fun x H1=>∃ d o xs,x=.ref d∧H1 d=some (dW P w d o xs)∧R (ItwI P w d o xs) H1
section
variable {X:Cx} {tg e:Expr} {td:TE} {apos cpos:Pos}
theorem raw_noDict {h:Heap} {d:Addr} {es:Array DictEntry} {ep:Nat} (hm:h.DictRaw d es ep):∀ b,Value.ref d=.ref b→∃ ob,h.get? b=some ob∧ob.dict=none:=fun b q=>by
 cases q
 obtain ⟨o,h1,h2,_⟩:=hm
 exact ⟨o,h1,h2.2.1⟩
theorem pi_wvals (he:PE X e td) (hbase:attributeBase e "values" X.env (eval e X.env)=eval e X.env:=by rfl) (hline:(apos.endLine == cpos.line)=true:=by rfl):PI X tg (.Call (.Attribute e "values" apos) [] [] cpos) (iWVals X.prog X.w td):=by
 refine ⟨fun pins s σ H R I h=>?_⟩
 refine wpAny_Call_method (T:="dict") (id:="dict.values") hbase rfl hline F.plainAttrs_dict F.slot_dict_values F.type_dict_values (thn (he.run pins s σ H _ I h) fun u s1 ⟨x,H1,I1,rx,d,o,xs,ex,hd,q⟩=>?_)
 subst ex
 obtain rfl:u=Value.ref d:=rx
 obtain ⟨_,_,_,_,_,_,⟨es,ep,hod,_⟩,_⟩:=dw_of I1.hok hd
 obtain ⟨hs,hm,hsz,ent⟩:=Inv.wraw I1 hd hod
 refine ⟨hm.typeIs,raw_noDict hm,?_⟩
 have I2:Inv X pins σ H1 { s1 with heap:=s1.heap.push { cls:=.type "dict_values",data:=.fields #[.ref d] } }:=I1.kept (t':=s1.toks) fun b ob q=>Heap.get?_push_of_some _ q
 have fin:wpAny (model X.prog X.w) X.A (pyIter (.ref s1.heap.objs.size)) (PIE X pins σ tg R) X.xe { s1 with heap:=s1.heap.push { cls:=.type "dict_values",data:=.fields #[.ref d] } } :=
  wpAny_pyIter_values_raw (d:=d) ⟨_,Heap.get?_push_size _ rfl,rfl,rfl⟩ (hm.at fun o q=>Heap.get?_push_of_some _ q) (pi_one (tk:=s1.toks) I2 _ (turn_wvals _ hod) ⟨_,Heap.get?_push_size _ rfl,rfl,rfl⟩ q)
 show wpAny _ _ (callWith cpos (.builtin "dict.values") [.ref d] [] []) _ X.xe s1
 exact method_meetsIn F.slot_dict_values F.entry_dict_values rfl (PySem.evalArgs_none ⟨rfl,hm.typeIs,F.args_dict_values_1 _,_,meets_dict_values_raw d hs,⟨es,ep,hm⟩,fin⟩)
theorem pi_witems {elts:List Expr} {kk:Nat} {tpos:Pos} (he:PE X e td) (hbase:attributeBase e "items" X.env (eval e X.env)=eval e X.env:=by rfl) (hline:(apos.endLine == cpos.line)=true:=by rfl) :
  PI X (.Tuple elts kk tpos) (.Call (.Attribute e "items" apos) [] [] cpos) (iWItems X.prog X.w td):=by
 refine ⟨fun pins s σ H R I h=>?_⟩
 refine wpAny_Call_method (T:="dict") (id:="dict.items") hbase rfl hline F.plainAttrs_dict F.slot_dict_items F.type_dict_items (thn (he.run pins s σ H _ I h) fun u s1 ⟨x,H1,I1,rx,d,o,xs,ex,hd,q⟩=>?_)
 subst ex
 obtain rfl:u=Value.ref d:=rx
 obtain ⟨_,_,_,_,_,_,⟨es,ep,hod,_⟩,_⟩:=dw_of I1.hok hd
 obtain ⟨hs,hm,hsz,ent⟩:=Inv.wraw I1 hd hod
 refine ⟨hm.typeIs,raw_noDict hm,?_⟩
 have I2:Inv X pins σ H1 { s1 with heap:=s1.heap.push { cls:=.type "dict_items",data:=.fields #[.ref d] } }:=I1.kept (t':=s1.toks) fun b ob q=>Heap.get?_push_of_some _ q
 have fin:wpAny (model X.prog X.w) X.A (pyIter (.ref s1.heap.objs.size)) (PIE X pins σ (.Tuple elts kk tpos) R) X.xe { s1 with heap:=s1.heap.push { cls:=.type "dict_items",data:=.fields #[.ref d] } } :=
  wpAny_pyIter_items_raw (d:=d) ⟨_,Heap.get?_push_size _ rfl,rfl,rfl⟩ (hm.at fun o q=>Heap.get?_push_of_some _ q) (pi_one (tk:=s1.toks) I2 _ (turn_witems _ hod) ⟨.none,.none,Heap.get?_push_size _ rfl⟩ q)
 show wpAny _ _ (callWith cpos (.builtin "dict.items") [.ref d] [] []) _ X.xe s1
 exact method_meetsIn F.slot_dict_items F.entry_dict_items rfl (PySem.evalArgs_none ⟨rfl,hm.typeIs,F.args_dict_items_1 _,_,meets_dict_items_raw d hs,⟨es,ep,hm⟩,fin⟩)
end
section
variable {P:Program} {w:World} {d:Addr} {o:Obj} {xs:List Ent}
theorem walk_wvals:Walk (ItwV P w d o xs) xs.length (fun H=>H d=some (dW P w d o xs)) (fun i H x H'=>H'=H∧∃ e,xs[i]?=some e∧x=e.2.2) :=
 ⟨fun _ _ hi q=>⟨q,hi⟩,fun _ q=>⟨q,Nat.le_refl _⟩,fun _ _ _ _ _ _ y=>y⟩
theorem walk_witems:Walk (ItwI P w d o xs) xs.length (fun H=>H d=some (dW P w d o xs)) (YPair (fun i=>xs[i]?.map fun e=>V.ref e.2.1) (fun i=>xs[i]?.map fun e=>e.2.2)):=by
 refine ⟨fun _ _ hi q=>⟨q,hi⟩,fun _ q=>⟨q,Nat.le_refl _⟩,fun i H x H' _ _ y=>?_⟩
 obtain ⟨T,e,h1,h2,h3,h4⟩:=y
 exact ⟨T,.ref e.2.1,e.2.2,h2,h3,h4,by simp [h1],by simp [h1]⟩
end
end FcW
set_option maxRecDepth 100000
set_option maxHeartbeats 4000000
namespace FcW
open PySem PySem.Spec PyProof.Rows L2
section
variable {X:Cx}
def rLtM (K:PySem.W.Frag):R2:=fun x y H Q=>∃ d e,Dp K H x d∧Dp K H y e∧PySem.W.alike d e=true∧d≠.none∧min d.depth e.depth≤150∧Q (.bl (PySem.W.dataLt d e)) H
theorem op_ltM {k:Nat} (hr:Room k X.A):OpR X (compareOp .Lt) (rLtM X.K):=by
 intro pins s σ H x y v u Q I rx ry h
 obtain ⟨d,e,hd,he,sd,se,hm,q⟩:=h
 obtain ⟨as,r1⟩:=Dp.reads I d x v hd rx
 obtain ⟨bs,r2⟩:=Dp.reads I e y u he ry
 exact PySem.W.rcLt_alike d e X.A s v u as bs r1 r2 sd se (by have:=hr.un;omega) X.prog X.w X.xe _ ⟨.bl _,H,I,rfl,q⟩
def kD:Key→PyData
 | .inl i=>.int i
 | .inr x=>.str x
def keyD (k:List Key):PyData:=.tuple (k.map kD)
theorem dp_kV {K:PySem.W.Frag} {H:Hp}:∀ k:Key,Dp K H (kV k) (kD k)
 | .inl i=>.int i
 | .inr x=>.str x
theorem dpA_kV {K:PySem.W.Frag} {H:Hp}:∀ ks:List Key,DpAll K H (ks.map kV) (ks.map kD)
 | []=>.nil
 | k::ks=>.cons (dp_kV k) (dpA_kV ks)
theorem dp_key {K:PySem.W.Frag} {H:Hp} {b:Addr} {k:List Key} (h:SqT K H b (k.map kV)):Dp K H (.ref b) (keyD k):=.tup h (dpA_kV k)
theorem depth_kD:∀ ks:List Key,PyData.depthAll (ks.map kD)=0
 | []=>rfl
 | .inl i::ks=>by have:=depth_kD ks;simp [PyData.depthAll,kD,PyData.depth] at this ⊢;exact this
 | .inr x::ks=>by have:=depth_kD ks;simp [PyData.depthAll,kD,PyData.depth] at this ⊢;exact this
theorem vals_refs:∀ as:List Addr,Vals (as.map V.ref) (as.map Value.ref)
 | []=>.nil
 | _::as=>.cons rfl (vals_refs as)
theorem gather {prog:Program} {w:World} {A:Around} {E:Value→Shared→Prop} {s:Shared} {T:String} {r d:Addr} {n:Nat} {P:Nat→Value→Prop} {OK:Heap→Prop} {R:List Value→Shared→Prop} (K:PySem.W.KdlSrc prog w T r d n P OK)
  (hh:A.handled=none) (hok:OK s.heap) (hn:n≤sizeLine)
  (h:∀ (h':Heap) (tk:Nat) (acc:Array Value),(∀ b o,s.heap.get? b=some o→h'.get? b=some o)→s.heap.objs.size<h'.objs.size→ItemsOf P acc n→R acc.toList { s with heap:=h',toks:=tk }) :
  wpAny (model prog w) A (collect (.ref r)) R E s:=by
 obtain ⟨l1,l2⟩:=K.there _ hok
 unfold collect
 refine wpAny_bind (wpAny_runValue (codeAny_builtin entry_proto_collect' ?_))
 rw [Around.under_plainId PySem.F.plain_proto_collect _]
 refine wpAny_bind (m:=newList []) (wpAny_newObj_type (wpAny_pure ⟨plainId_quiet PySem.F.plain_list_iadd _,codeAny_builtin entry_list_iadd' ?_⟩))
 rw [Around.under_plainId PySem.F.plain_list_iadd _]
 show wpAny _ A.in1 (Builtin.List.listExtendWith (.ref s.heap.objs.size) (.ref r) (.ref s.heap.objs.size)) _ _ _
 have e0:(s.heap.push { cls:=.type "list",data:=.seq ([]:List Value).toArray }).get? s.heap.objs.size=some { cls:=.type "list",data:=.seq #[] }:=Heap.get?_push_size _ rfl
 refine wpAny_mono (PySem.W.kdl_extend (A:=A) (s:={ s with heap:=s.heap.push { cls:=.type "list",data:=.seq ([]:List Value).toArray } })
  (R:=fun q s'=>q=.ok (.ret (.ref s.heap.objs.size))∧∃ acc' c',(∀ b o,s.heap.get? b=some o→s'.heap.get? b=some o)∧s'.heap.get? s.heap.objs.size=some { cls:=.type "list",dict:=none,data:=.seq acc' c',slots:=#[] }∧ItemsOf P acc' n∧∃ h' tk,s'={ s with heap:=h',toks:=tk })
  K hh (K.keep _ _ hok fun b _ o e=>Heap.get?_push_of_some _ e) s.heap.objs.size (Nat.ne_of_gt l1) (Nat.ne_of_gt l2) (.ref s.heap.objs.size) 0 e0
  (fun h' tk acc' c' k1 k2 k3=>⟨rfl,acc',c',fun b o e=>k1 b o (Nat.ne_of_lt (Heap.lt_size e)) (Heap.get?_push_of_some _ e),k2,k3,h',tk,rfl⟩) hn) (fun fin s' x=>?_) fun e s' x=>nomatch x.1
 have last:∀ (q:Result) (s':Shared),(q=.ok (.ret (.ref s.heap.objs.size))∧∃ acc' c',(∀ b o,s.heap.get? b=some o→s'.heap.get? b=some o)∧s'.heap.get? s.heap.objs.size=some { cls:=.type "list",dict:=none,data:=.seq acc' c',slots:=#[] }∧ItemsOf P acc' n∧∃ h' tk,s'={ s with heap:=h',toks:=tk }) →
   ∃ acc' c',q=.ok (.ret (.ref s.heap.objs.size))∧s'.heap.get? s.heap.objs.size=some { cls:=.type "list",dict:=none,data:=.seq acc' c',slots:=#[] }∧R acc'.toList s':=by
  rintro q s' ⟨e1,acc',c',k1,k2,k3,h',tk,rfl⟩
  exact ⟨acc',c',e1,k2,h h' tk acc' k1 (Heap.lt_size k2) k3⟩
 cases fin with
 | done f =>
  obtain ⟨acc',c',e1,k2,k3⟩:=last _ _ x
  cases e1
  exact wpAny_bind (wpAny_load k2 (wpAny_pure k3))
 | again c₁ =>
  refine ⟨x.1,codeAny_mono x.2 fun q s₂ y=>?_⟩
  obtain ⟨acc',c',e1,k2,k3⟩:=last _ _ y
  subst e1
  exact wpAny_bind (wpAny_load k2 (wpAny_pure k3))
end
end FcW
set_option maxRecDepth 100000
set_option maxHeartbeats 4000000
namespace Fc
open PySem PySem.Spec PyProof.Rows L2 FcR
open Evl (Ex)
section
open FcM (Way)
def wk:Way→List Key
 | .nrm=>[.inr "normal"]
 | .ret=>[.inr "return"]
 | .rai=>[.inr "raise"]
 | .brk k=>[.inr "break",.inl (k:Int)]
 | .cnt k=>[.inr "continue",.inl (k:Int)]
theorem wk_inj:∀ {a b:Way},wk a=wk b→a=b:=by
 have n1:¬ ("break":Str)="continue":=by decide
 intro a b h
 cases a with
 | nrm=>cases b<;>first | rfl | exact absurd h (by decide) | (unfold wk at h;injection h with h1 h2;exact nomatch h2)
 | ret=>cases b<;>first | rfl | exact absurd h (by decide) | (unfold wk at h;injection h with h1 h2;exact nomatch h2)
 | rai=>cases b<;>first | rfl | exact absurd h (by decide) | (unfold wk at h;injection h with h1 h2;exact nomatch h2)
 | brk k =>
  cases b with
  | brk j =>
   unfold wk at h
   injection h with h1 h2
   injection h2 with h3 h4
   have h5:(k:Int)=(j:Int):=Sum.inl.inj h3
   rw [Int.ofNat.inj h5]
  | cnt j =>
   unfold wk at h
   injection h with h1 h2
   exact absurd (Sum.inr.inj h1) n1
  | _=>unfold wk at h;injection h with h1 h2;exact nomatch h2
 | cnt k =>
  cases b with
  | cnt j =>
   unfold wk at h
   injection h with h1 h2
   injection h2 with h3 h4
   have h5:(k:Int)=(j:Int):=Sum.inl.inj h3
   rw [Int.ofNat.inj h5]
  | brk j =>
   unfold wk at h
   injection h with h1 h2
   exact absurd (Sum.inr.inj h1).symm n1
  | _=>unfold wk at h;injection h with h1 h2;exact nomatch h2
abbrev Tw:=List (Way×List Int)
def lk (t:Tw) (v:Way):Option (List Int):=(t.find? fun p=>decide (p.1=v)).map (·.2)
def putT (t:Tw) (v:Way) (ans:List Int):Tw:=if (lk t v).isSome=true then t.map (fun p=>if p.1=v then (p.1,ans) else p) else t++[(v,ans)]
def befL (xs ys:List Int):Bool:=decide (xs.length<ys.length∨(xs.length=ys.length∧xs<ys))
def keepT (t:Tw) (v:Way) (ans:List Int):Tw :=
 match lk t v with
 | none=>putT t v ans
 | some old=>if befL ans old=true then putT t v ans else t
theorem lk_pos {p:Way×List Int} {t:Tw} {v:Way} (e:p.1=v):lk (p::t) v=some p.2:=by simp [lk,List.find?_cons,e]
theorem lk_neg {p:Way×List Int} {t:Tw} {v:Way} (e:¬ p.1=v):lk (p::t) v=lk t v:=by simp [lk,List.find?_cons,e]
theorem len_putT (t:Tw) (v:Way) (ans:List Int):(putT t v ans).length≤t.length + 1:=by
 unfold putT
 split
 ·rw [List.length_map];omega
 ·simp
theorem len_keepT (t:Tw) (v:Way) (ans:List Int):(keepT t v ans).length≤t.length + 1:=by
 have:=len_putT t v ans
 unfold keepT
 split
 ·exact this
 ·split
  ·exact this
  ·omega
def TbR (K:PySem.W.Frag) (N H:Hp):List FcW.Ent→Tw→Prop:=Paired fun x p=>x.1=wk p.1∧∃ a,x.2.2=.ref a∧H a=some (.lst (p.2.map V.int))∧N a=none
theorem tbr_mono {K:PySem.W.Frag} {N H H':Hp} {xs:List FcW.Ent} {t:Tw} (h:TbR K N H xs t) (e:∀ c l,H c=some (.lst l)→H' c=some (.lst l)):TbR K N H' xs t :=
 L2.Paired.mapP h fun _ _ z=>⟨z.1,let ⟨a,e1,e2,e3⟩:=z.2;⟨a,e1,e _ _ e2,e3⟩⟩
theorem tbr_old {K:PySem.W.Frag} {N M H:Hp} {xs:List FcW.Ent} {t:Tw} (h:TbR K N H xs t) (e:Ex M N):TbR K M H xs t :=
 L2.Paired.mapP h fun _ _ z=>⟨z.1,let ⟨a,e1,e2,e3⟩:=z.2;⟨a,e1,e2,ex_none e e3⟩⟩
theorem tbr_valN {K:PySem.W.Frag} {N H:Hp} {xs:List FcW.Ent} {t:Tw} (h:TbR K N H xs t) (v:Way) :
  (valV (FcW.kvs xs) (wk v)=none∧lk t v=none)∨∃ c old,valV (FcW.kvs xs) (wk v)=some (.ref c)∧lk t v=some old∧H c=some (.lst (List.map V.int old))∧N c=none:=by
 unfold TbR at h
 induction h with
 | nil=>exact .inl ⟨rfl,rfl⟩
 | @cons x p xs t z r ih =>
  obtain ⟨z1,a,z2,z3⟩:=z
  by_cases e:p.1=v
  ·refine .inr ⟨a,p.2,?_,lk_pos e,z3⟩
   rw [show FcW.kvs (x::xs)=(x.1,x.2.2)::FcW.kvs xs from rfl,valV_pos (p:=(x.1,x.2.2)) (by show x.1=wk v;rw [z1,e]),z2]
  ·rw [lk_neg e,show FcW.kvs (x::xs)=(x.1,x.2.2)::FcW.kvs xs from rfl,valV_neg (p:=(x.1,x.2.2)) (by show ¬ x.1=wk v;rw [z1];exact fun y=>e (wk_inj y))]
   exact ih
theorem tbr_val {K:PySem.W.Frag} {N H:Hp} {xs:List FcW.Ent} {t:Tw} (h:TbR K N H xs t) (v:Way) :
  (valV (FcW.kvs xs) (wk v)=none∧lk t v=none)∨∃ c old,valV (FcW.kvs xs) (wk v)=some (.ref c)∧lk t v=some old∧H c=some (.lst (List.map V.int old)):=by
 rcases tbr_valN h v with z | ⟨c,old,h1,h2,h3,_⟩
 ·exact .inl z
 ·exact .inr ⟨c,old,h1,h2,h3⟩
theorem tbr_put {K:PySem.W.Frag} {N H:Hp} {xs:List FcW.Ent} {t:Tw} (h:TbR K N H xs t) (v:Way) (b:Addr) {a:Addr} {ans:List Int} (ha:H a=some (.lst (ans.map V.int))) (na:N a=none):TbR K N H (FcW.putW xs (wk v) b (.ref a)) (putT t v ans):=by
 have e:(valV (FcW.kvs xs) (wk v)).isSome=(lk t v).isSome:=by
  rcases tbr_val h v with ⟨e1,e2⟩ | ⟨c,old,e1,e2,_⟩<;>rw [e1,e2]<;>rfl
 unfold FcW.putW putT
 rw [e]
 by_cases q:(lk t v).isSome=true
 ·rw [if_pos q,if_pos q]
  clear e q
  unfold TbR at h ⊢
  induction h with
  | nil=>exact .nil
  | @cons x p xs t z r ih =>
   rw [List.map_cons,List.map_cons]
   refine .cons ?_ ih
   by_cases e:p.1=v
   ·rw [if_pos e,if_pos (by rw [z.1,e])]
    exact ⟨z.1,a,rfl,ha,na⟩
   ·rw [if_neg e,if_neg (by rw [z.1];exact fun y=>e (wk_inj y))]
    exact z
 ·rw [if_neg q,if_neg q]
  exact Paired.snoc h ⟨rfl,a,rfl,ha,na⟩
def Wt (P:Program) (w:World) (K:PySem.W.Frag) (N H:Hp) (d:Addr) (t:Tw):Prop:=∃ o xs,FcW.WD P w K H d o xs∧TbR K N H xs t
def ExB (d:Addr) (H H':Hp):Prop:=∀ c o,c≠d→H c=some o→H' c=some o
theorem sqT_upd {P:Program} {w:World} {K:PySem.W.Frag} {H:Hp} {d c:Addr} {o o':Obj} {xs xs':List FcW.Ent} {l:List V} (e:H d=some (FcW.dW P w d o xs)) (h:SqT K H c l):SqT K (upd H d (FcW.dW P w d o' xs')) c l:=by
 rcases h with h | h
 ·refine .inl ?_
  rcases h with h | ⟨ob,h⟩
  ·exact .inl (by rw [upd_ne (ne_of h e (fun z=>nomatch z))];exact h)
  ·exact .inr ⟨ob,by rw [upd_ne (ne_of h e (fun z=>nomatch z))];exact h⟩
 ·exact .inr h
theorem lst_upd {P:Program} {w:World} {H:Hp} {d c:Addr} {o o':Obj} {xs xs':List FcW.Ent} {l:List V} (e:H d=some (FcW.dW P w d o xs)) (h:H c=some (.lst l)):upd H d (FcW.dW P w d o' xs') c=some (.lst l):=by
 rw [upd_ne (ne_of h e (fun z=>nomatch z))];exact h
theorem wd_ex {P:Program} {w:World} {K:PySem.W.Frag} {H H':Hp} {d:Addr} {o:Obj} {xs:List FcW.Ent} (e:Ex H H') (D:FcW.WD P w K H d o xs):FcW.WD P w K H' d o xs:=⟨e _ _ D.1,fun x hx=>Evl.ex_t e (D.2 x hx)⟩
theorem wt_ex {P:Program} {w:World} {K:PySem.W.Frag} {N H H':Hp} {d:Addr} {t:Tw} (e:Ex H H') (D:Wt P w K N H d t):Wt P w K N H' d t:=let ⟨o,xs,h1,h2⟩:=D;⟨o,xs,wd_ex e h1,tbr_mono h2 fun _ _ z=>e _ _ z⟩
theorem wt_old {P:Program} {w:World} {K:PySem.W.Frag} {N M H:Hp} {d:Addr} {t:Tw} (D:Wt P w K N H d t) (e:Ex M N):Wt P w K M H d t:=let ⟨o,xs,h1,h2⟩:=D;⟨o,xs,h1,tbr_old h2 e⟩
theorem wt_put {P:Program} {w:World} {K:PySem.W.Frag} {N H:Hp} {d b a:Addr} {o o':Obj} {xs:List FcW.Ent} {t:Tw} {v:Way} {ans:List Int} (D:FcW.WD P w K H d o xs) (R:TbR K N H xs t) (hb:SqT K H b ((wk v).map kV)) (ha:H a=some (.lst (ans.map V.int))) (na:N a=none) :
  Wt P w K N (upd H d (FcW.dW P w d o' (FcW.putW xs (wk v) b (.ref a)))) d (putT t v ans)∧ExB d H (upd H d (FcW.dW P w d o' (FcW.putW xs (wk v) b (.ref a)))) :=
 ⟨⟨o',_,⟨upd_same,FcW.keysT_put D.2 hb fun _ _ z=>sqT_upd D.1 z⟩,tbr_mono (tbr_put R v b ha na) fun _ _ z=>lst_upd D.1 z⟩,fun c u hc e=>by rw [upd_ne hc];exact e⟩
end
section
open FcM (Way)
theorem eqv_ints:∀ xs ys:List Int,PyData.eqvAll (xs.map .int) (ys.map .int)=decide (xs=ys)
 | [],[]=>by simp [PyData.eqvAll]
 | [],_::_=>by simp [PyData.eqvAll]
 | _::_,[]=>by simp [PyData.eqvAll]
 | x::xs,y::ys=>by
  rw [List.map_cons,List.map_cons,PyData.eqvAll,eqv_ints xs ys]
  by_cases e:x=y
  ·subst e;simp [PyData.eqv,beq_self_eq_true]
  ·simp [PyData.eqv,e]
theorem lt_pairL (xs ys:List Int):PySem.W.dataLt (.tuple [.int (xs.length:Int),.list (xs.map .int)]) (.tuple [.int (ys.length:Int),.list (ys.map .int)])=befL xs ys:=by
 rw [PySem.W.dataLt_pair rfl (by rw [PySem.W.alike];exact PySem.W.alike_ints xs ys)]
 unfold befL
 have e1:PyData.eqv (.int (xs.length:Int)) (.int (ys.length:Int))=decide (xs.length=ys.length):=by
  by_cases e:xs.length=ys.length
  ·rw [e];simp [PyData.eqv]
  ·have:¬ (xs.length:Int)=(ys.length:Int):=by omega
   simp [PyData.eqv,e,this]
 rw [e1]
 by_cases e:xs.length=ys.length
 ·rw [if_pos (by simp [e])]
  have e2:PyData.eqv (.list (xs.map .int)) (.list (ys.map .int))=decide (xs=ys):=by rw [PyData.eqv,eqv_ints]
  rw [e2]
  by_cases z:xs=ys
  ·subst z;simp
  ·rw [if_neg (by simp [z]),PySem.W.dataLt_list]
   have:=PySem.W.dataLt_ints xs ys
   unfold PySem.W.rowLt at this
   rw [this]
   simp [e]
 ·rw [if_neg (by simp [e]),PySem.W.dataLt_int]
  simp [e]
def sp_first (K:PySem.W.Frag):Sp:=fun vs H Q _=>∃ (a b:Addr) (xs ys:List Int),vs=[.ref a,.ref b]∧SqL K H a (xs.map V.int)∧SqL K H b (ys.map V.int)∧∀ H',Ex H H'→Q (.bl (befL xs ys)) H'
theorem dpA_ints {K:PySem.W.Frag} {H:Hp}:∀ l:List Int,DpAll K H (l.map V.int) (l.map PyData.int)
 | []=>.nil
 | _::l=>.cons (.int _) (dpA_ints l)
theorem depA_ints:∀ l:List Int,PyData.depthAll (l.map PyData.int)=0
 | []=>rfl
 | _::l=>by have:=depA_ints l;simp [PyData.depthAll,PyData.depth] at this ⊢;exact this
def sp_keep (P:Program) (w:World) (K:PySem.W.Frag):Sp:=fun vs H Q _=>∃ (N:Hp) (d b a:Addr) (t:Tw) (v:Way) (ans:List Int),vs=[.ref d,.ref b,.ref a]∧N a=none∧Wt P w K N H d t∧SqT K H b ((wk v).map kV)∧H a=some (.lst (ans.map V.int))∧t.length≤2000 ∧
 ∀ H',ExB d H H'→Wt P w K N H' d (keepT t v ans)→Q .non H'
def shortT (t:Tw):Option (List Int):=t.foldl (fun b p=>match b with | none=>some p.2 | some y=>if befL p.2 y=true then some p.2 else some y) none
def AnsV (K:PySem.W.Frag) (H:Hp) (v:V):Option (List Int)→Prop
 | none=>v=.non
 | some l=>∃ a,v=.ref a∧H a=some (.lst (l.map V.int))
def sp_shortest (P:Program) (w:World) (K:PySem.W.Frag):Sp:=fun vs H Q _=>∃ (N:Hp) (d:Addr) (t:Tw),vs=[.ref d]∧Wt P w K N H d t∧∀ H' v,Ex H H'→AnsV K H' v (shortT t)→Q v H'
theorem exB_of {d:Addr} {H H':Hp} (e:Ex H H'):ExB d H H':=fun c o _ h=>e c o h
theorem exB_trans {d:Addr} {H H' H'':Hp} (e:ExB d H H') (e':ExB d H' H''):ExB d H H'':=fun c o hc h=>e' c o hc (e c o hc h)
section
variable {P:Program} {w:World} {h:Heap} {K:PySem.W.Frag} {mg:Str→Option Value} {base:Heap}
abbrev N_comes_first:List Str:=["one","other"]
theorem sc_comes_first:FnScope N_comes_first ["one","other"] (defScope sd_comes_first):=⟨rfl,rfl,rfl,by decide +kernel,rfl,by decide +kernel,by decide +kernel⟩
theorem ok_comes_first (T:Tx w h K mg):Ok P w K mg base 1 ("comes_first",none) ["one","other"] (sp_first K):=by
 obtain ⟨fd,F⟩:=F_comes_first T
 refine ⟨fd,?_,F.bindsN (fun _ _ _ _ _ _ us hl=>match us,hl with | [_,_],_=>rfl),F.kp⟩
 refine F.ok sc_comes_first (fun vs H Q E h=>?_) (fun cdv A outer s H vs Q E hr h=>?_)
 ·obtain ⟨a,b,xs,ys,rfl,ha,hb,q⟩:=h
  rfl
 ·obtain ⟨a,b,xs,ys,rfl,ha,hb,q⟩:=h
  refine ⟨_,PSs.nox (pss_one (ps_ret (pe_cmpR (FcW.op_ltM hr) (pe_tup (pa_cons (pe_callB call_len_seq rfl (fr_len T) b_len (pa_cons (pv 0) pa_nil)) (pa_cons (pv 0) pa_nil))) (pe_tup (pa_cons (pe_callB call_len_seq rfl (fr_len T) b_len (pa_cons (pv 1) pa_nil)) (pa_cons (pv 1) pa_nil))) (nomark _)))),?_⟩
  refine ⟨_,rfl,a,_,rfl,.inl ha,_,rfl,sz (by simp),?_⟩
  intro p1 n1
  generalize e1:upd _ p1 _=H1
  obtain ⟨x1,s1,o1⟩:=new_of e1 n1
  clear e1
  refine ⟨_,rfl,b,_,rfl,.inl (Evl.ex_l x1 hb),_,rfl,sz (by simp),?_⟩
  intro p2 n2
  generalize e2:upd _ p2 _=H2
  obtain ⟨x2,s2,o2⟩:=new_of e2 n2
  clear e2
  refine ⟨_,_,.tup (SqT.of (x2 _ _ s1)) (.cons (.int _) (.cons (.lst (Evl.ex_l x2 (Evl.ex_l x1 ha)) (dpA_ints xs)) .nil)),.tup (SqT.of s2) (.cons (.int _) (.cons (.lst (Evl.ex_l x2 (Evl.ex_l x1 hb)) (dpA_ints ys)) .nil)),?_,(fun z=>nomatch z),?_,?_⟩
  ·simp only [PySem.W.alike,PySem.W.alikeAll,PySem.W.alike_ints,Bool.and_self,Bool.and_true]
  ·simp only [PyData.depth,PyData.depthAll,depA_ints];decide
  ·rw [List.length_map,List.length_map,lt_pairL]
   exact q _ (Evl.Ex.trans x1 x2)
abbrev N_keep_first:List Str:=["found","way","answers"]
theorem sc_keep_first:FnScope N_keep_first ["found","way","answers"] (defScope sd_keep_first):=⟨rfl,rfl,rfl,by decide +kernel,rfl,by decide +kernel,by decide +kernel⟩
theorem ok_keep_first (T:Tx w h K mg):Ok P w K mg base 2 ("keep_first",none) ["found","way","answers"] (sp_keep P w K):=by
 obtain ⟨fd,F⟩:=F_keep_first T
 refine ⟨fd,?_,F.bindsN (fun _ _ _ _ _ _ us hl=>match us,hl with | [_,_,_],_=>rfl),F.kp⟩
 obtain ⟨fd_comes_first,G_comes_first,bi_comes_first,kp_comes_first⟩:=ok_comes_first (P:=P) (base:=base) T
 refine F.ok sc_keep_first (fun vs H Q E h=>?_) (fun cdv A outer s H vs Q E hr h=>?_)
 ·obtain ⟨N,d,b,a,t,v,ans,rfl,na,⟨o,xs,D,R⟩,hb,ha,hl0,q⟩:=h
  rfl
 ·obtain ⟨N,d,b,a,t,v,ans,rfl,na,⟨o,xs,D,R⟩,hb,ha,hl0,q⟩:=h
  refine ⟨_,PSs.nox (pss_one (ps_if (PW.pt (pw_or (pt_cmpR (FcW.op_notinW (hu_of hr)) (pv 1) (pv 0) (by rfl)) (pw_or1 (pt_val (pe_call G_comes_first (hr.mono (by decide)) rfl (g_comes_first T) kp_comes_first bi_comes_first .nil passF (pa_cons (pv 2) (pa_cons (pe_ix (FcW.ix_way (hu_of hr)) (pv 0) (pv 1) (fun _ _=>rfl)) pa_nil))))))) (pss_one (ps_asg (pv 2) (pg_sub (pv 0) (pv 1) (FcW.set_way (hu_of hr))))) pss_nil)),?_⟩
  have hl:xs.length<sizeLine:=by have:=Paired.length R;rw [sizeLine_eq];omega
  rcases tbr_val R v with ⟨hval,e2⟩ | ⟨c,old,hval,e2,hold⟩
  ·refine ⟨_,rfl,_,rfl,d,b,o,xs,wk v,rfl,rfl,D,hb,?_⟩
   rw [hval]
   refine ⟨_,rfl,itT rfl ?_⟩
   refine ⟨_,rfl,_,rfl,_,rfl,d,b,o,xs,wk v,rfl,rfl,D,hb,hl,fun o'=>?_⟩
   obtain ⟨z1,z2⟩:=wt_put (o':=o') D R hb ha na
   refine q _ z2 ?_
   unfold keepT
   rw [e2]
   exact z1
  ·refine ⟨_,rfl,_,rfl,d,b,o,xs,wk v,rfl,rfl,D,hb,?_⟩
   rw [hval]
   refine ⟨_,rfl,itF rfl ?_⟩
   refine ⟨_,rfl,_,rfl,_,rfl,d,b,o,xs,wk v,_,rfl,rfl,D,hb,hval,a,c,ans,old,rfl,SqL.of ha,SqL.of hold,fun H1 x1=>⟨_,rfl,ite_of (fun h1=>?_) (fun h1=>?_)⟩⟩
   ·refine ⟨_,rfl,_,rfl,_,rfl,d,b,o,xs,wk v,rfl,rfl,wd_ex x1 D,Evl.ex_t x1 hb,hl,fun o'=>?_⟩
    obtain ⟨z1,z2⟩:=wt_put (o':=o') (wd_ex x1 D) (tbr_mono R fun _ _ z=>x1 _ _ z) (Evl.ex_t x1 hb) (x1 _ _ ha) na
    refine q _ (exB_trans (exB_of x1) z2) ?_
    unfold keepT
    rw [e2]
    show Wt P w K N _ d (if befL ans old=true then _ else _)
    rw [if_pos h1]
    exact z1
   ·refine q _ (exB_of x1) ?_
    unfold keepT
    rw [e2]
    show Wt P w K N _ d (if befL ans old=true then _ else _)
    rw [if_neg (by rw [h1];exact Bool.false_ne_true)]
    exact wt_ex x1 ⟨o,xs,D,R⟩
abbrev N_first_shortest:List Str:=["found","best","answers"]
theorem sc_first_shortest:FnScope N_first_shortest ["found"] (defScope sd_first_shortest):=⟨rfl,rfl,rfl,by decide +kernel,rfl,by decide +kernel,by decide +kernel⟩
theorem ok_first_shortest (T:Tx w h K mg):Ok P w K mg base 2 ("first_shortest",none) ["found"] (sp_shortest P w K):=by
 obtain ⟨fd,F⟩:=F_first_shortest T
 refine ⟨fd,?_,F.bindsN (fun _ _ _ _ _ _ us hl=>match us,hl with | [_],_=>rfl),F.kp⟩
 obtain ⟨fd_comes_first,G_comes_first,bi_comes_first,kp_comes_first⟩:=ok_comes_first (P:=P) (base:=base) T
 refine F.ok sc_first_shortest (fun vs H Q E h=>?_) (fun cdv A outer s H vs Q E hr h=>?_)
 ·obtain ⟨N,d,t,rfl,⟨o,xs,D,R⟩,q⟩:=h
  rfl
 ·obtain ⟨N,d,t,rfl,⟨o,xs,D,R⟩,q⟩:=h
  refine ⟨_,PSs.nox (pss_cons (ps_set (i:=1) sc_first_shortest.nd rfl (Or.inl rfl) pe_non) (pss_cons (ps_for PassesOwn.never rfl (FcW.pi_wvals (pv 0)) (pg_name (i:=2) sc_first_shortest.nd rfl (Or.inl rfl)) (pss_one (ps_if (PW.pt (pw_or (pt_cmpR op_isN (pv 1) pe_non (nomark _)) (pw_or1 (pt_val (pe_call G_comes_first (hr.mono (by decide)) rfl (g_comes_first T) kp_comes_first bi_comes_first .nil passF (pa_cons (pv 2) (pa_cons (pv 1) pa_nil))))))) (pss_one (ps_set (i:=1) sc_first_shortest.nd rfl (Or.inl rfl) (pv 2))) pss_nil))) (pss_one (ps_ret (pv 1))))),?_⟩
  refine ⟨_,rfl,d,o,xs,rfl,D.1,for_it FcW.walk_wvals (fun i σ' H'=>∃ v o2,Ex H H'∧AnsV K H' v (shortT (t.take i))∧σ'=[some (.ref d),some v,o2]) ?_ ?_ ?_ ?_⟩
  ·exact ⟨_,_,Evl.Ex.refl _,rfl,rfl⟩
  ·rintro i σ' H' _ ⟨v,o2,x1,_,rfl⟩
   exact x1 _ _ D.1
  ·rintro i v σ' H1 H2 hi ⟨b,o2,x1,hv,rfl⟩ ⟨rfl,e,he,rfl⟩
   obtain ⟨p,hp,e1,a,e2,e3,_⟩:=paired_get R he
   have ts:t.take (i + 1)=t.take i++[p]:=by rw [List.take_add_one,hp];rfl
   have step:shortT (t.take (i + 1))=match shortT (t.take i) with | none=>some p.2 | some y=>if befL p.2 y=true then some p.2 else some y:=by
    unfold shortT
    rw [ts,List.foldl_append]
    rfl
   have hs:=x1 _ _ e3
   rw [e2]
   cases hb:shortT (t.take i) with
   | none =>
    rw [hb] at hv step
    cases hv
    refine ⟨_,rfl,rfl,_,rfl,itT rfl ⟨_,rfl,.ref a,_,x1,?_,rfl⟩⟩
    rw [step]
    exact ⟨a,rfl,hs⟩
   | some y =>
    rw [hb] at hv step
    obtain ⟨c,rfl,hc⟩:=hv
    refine ⟨_,rfl,rfl,_,rfl,itF rfl ⟨_,rfl,_,rfl,a,c,p.2,y,rfl,SqL.of hs,SqL.of hc,fun H3 x3=>⟨_,rfl,ite_of (fun h1=>?_) (fun h1=>?_)⟩⟩⟩
    ·refine ⟨_,rfl,.ref a,_,Evl.Ex.trans x1 x3,?_,rfl⟩
     rw [step]
     show AnsV K H3 _ (if befL p.2 y=true then _ else _)
     rw [if_pos h1]
     exact ⟨a,rfl,x3 _ _ hs⟩
    ·refine ⟨.ref c,_,Evl.Ex.trans x1 x3,?_,rfl⟩
     rw [step]
     show AnsV K H3 _ (if befL p.2 y=true then _ else _)
     rw [if_neg (by rw [h1];exact Bool.false_ne_true)]
     exact ⟨c,rfl,x3 _ _ hc⟩
  ·rintro σ' H' ⟨b,o2,x1,hv,rfl⟩
   have hl:t.take xs.length=t:=by rw [Paired.length R,List.take_length]
   rw [hl] at hv
   exact ⟨_,rfl,q _ _ x1 hv⟩
end
end
end Fc
set_option maxRecDepth 100000
set_option maxHeartbeats 4000000
namespace FcM
section
variable {t:Tab} {lp:Nat→Nat} {bits:List Bool} {B:Nat}
theorem bit_lt {u:Nat} {x:Bool} (h:bits[u]?=some x):u + 1≤bits.length:=(List.getElem?_eq_some_iff.mp h).1
theorem from_wait {n:Nat} {P:Pd} {u:Nat} {v:List Nat} (he:Ent t 0 n n) (ha:asks (t.nd n)=true) (hu:bits[u]?=none) (hB:P.length≤B):From t bits B n P u v ⟨.inl n,P,u,v⟩:=⟨0,n,0,he,.stop (.wait ha hu) hB⟩
theorem Ent.self {k n e:Nat} (h:Ent t k n e) (h1:∀ l,t.nd n≠.seq l) (h2:∀ a b,t.nd n≠.tr a b) (h3:∀ a b,t.nd n≠.fin a b):e=n:=by
 cases h with
 | here=>rfl
 | seq h _=>exact absurd h (h1 _)
 | tr h _=>exact absurd h (h2 _ _)
 | fin h _=>exact absurd h (h3 _ _)
theorem seqF_stop {go:Nat→Nat→List Nat→Rs} {w:Wt} {u:Nat} {v:List Nat} (hw:w≠.inr .nrm):∀ cs:List Nat,seqF go cs (w,u,v)=(w,u,v)
 | []=>rfl
 | c::cs=>by
  show (if w=.inr .nrm then _ else seqF go cs (w,u,v))=_
  rw [if_neg hw,seqF_stop hw cs]
theorem dec_ok {l:Nat} {w:Way} (h:WOk (l + 1) w) (ha:again w=false):WOk l (decW w):=by
 cases w with
 | nrm=>trivial
 | ret=>trivial
 | rai=>trivial
 | brk k =>
  show WOk l (if k=1 then .nrm else .brk (k - 1))
  by_cases hk:k=1
  ·rw [if_pos hk];trivial
  ·rw [if_neg hk]
   have h1:1≤k∧k≤l + 1:=h
   show 1≤k - 1∧k - 1≤l
   omega
 | cnt k =>
  have h1:1≤k∧k≤l + 1:=h
  have hk:k≠1:=fun z=>by subst z;simp [again] at ha
  show 1≤k - 1∧k - 1≤l
  omega
theorem loop_good (W:t.WF lp) {n a:Nat} (hn:n<t.len) (hd:t.nd n=.whl a) {body:Nat→List Nat→Rs} {P:Pd} (hB:P.length≤B) (hb:∀ u v,u≤bits.length→Good t bits B lp a P u v (body u v)) :
  ∀ f u v,bits.length - u<f→u≤bits.length→Good t bits B lp n P u v (loopF bits n P body f u v):=by
 have he:Ent t 0 n n:=.here (fun l=>by rw [hd];exact fun z=>nomatch z) (fun a b=>by rw [hd];exact fun z=>nomatch z) (fun a b=>by rw [hd];exact fun z=>nomatch z)
 have ha:asks (t.nd n)=true:=by rw [hd];rfl
 obtain ⟨c1,c2,c3,c4⟩:=W.dn n hn a (by rw [hd];exact List.mem_singleton.mpr rfl)
 rw [hd] at c4
 have c4:lp a=lp n + 1:=c4
 intro f
 induction f with
 | zero=>exact fun u v h=>absurd h (Nat.not_lt_zero _)
 | succ f ih =>
  intro u v hf hu
  cases hx:bits[u]? with
  | none =>
   have e:loopF bits n P body (f + 1) u v=(.inl (n,P),u,v):=by simp only [loopF,hx]
   rw [e]
   exact ⟨Nat.le_refl _,hu,_,from_wait he ha hx hB,rfl,rfl,rfl,rfl⟩
  | some x =>
   have hl:=bit_lt hx
   cases x with
   | false =>
    have e:loopF bits n P body (f + 1) u v=(.inr .nrm,u + 1,v++[n]):=by simp only [loopF,hx]
    rw [e]
    refine ⟨by omega,hl,trivial,fun cf h=>?_⟩
    obtain ⟨r,P',N,l,re⟩:=h
    exact ⟨0,n,N + 1,he,.step (.ask ha hx (.whlF hd rfl l)) hB re⟩
   | true =>
    have g:=hb (u + 1) (v++[n]) hl
    have up:∀ cf,From t bits B a P (u + 1) (v++[n]) cf→From t bits B n P u v cf:=fun cf h=>by
     obtain ⟨k,e,N,en,re⟩:=h
     exact ⟨0,n,N + 1,he,.step (.ask ha hx (.whlT hd rfl en)) hB re⟩
    rcases hr:body (u + 1) (v++[n]) with ⟨w,u',v'⟩
    rw [hr] at g
    cases w with
    | inl x =>
     have e:loopF bits n P body (f + 1) u v=(.inl x,u',v'):=by simp only [loopF,hx,hr]
     rw [e]
     obtain ⟨g1,g2,cf,g3,g4⟩:=g
     exact ⟨by omega,g2,cf,up cf g3,g4⟩
    | inr w =>
     obtain ⟨g1,g2,g3,g4⟩:=g
     by_cases hw:again w=true
     ·have e:loopF bits n P body (f + 1) u v=loopF bits n P body f u' v':=by simp only [loopF,hx,hr,hw,if_true]
      rw [e]
      have g:=ih u' v' (by omega) g2
      have go:∀ cf,From t bits B n P u' v' cf→From t bits B n P u v cf:=fun cf h=>by
       obtain ⟨k,e',N,en,re⟩:=h
       have z:=en.self (fun l=>by rw [hd];exact fun z=>nomatch z) (fun a b=>by rw [hd];exact fun z=>nomatch z) (fun a b=>by rw [hd];exact fun z=>nomatch z)
       subst z
       exact up cf (g4 cf ⟨_,_,_,.whlA c3 hd hw,re⟩)
      rcases hr2:loopF bits n P body f u' v' with ⟨w2,u2,v2⟩
      rw [hr2] at g
      cases w2 with
      | inl x =>
       obtain ⟨k1,k2,cf,k3,k4⟩:=g
       exact ⟨by omega,k2,cf,go cf k3,k4⟩
      | inr w2 =>
       obtain ⟨k1,k2,k3,k4⟩:=g
       exact ⟨by omega,k2,k3,fun cf h=>go cf (k4 cf h)⟩
     ·have hw:again w=false:=by simpa using hw
      have e:loopF bits n P body (f + 1) u v=(.inr (decW w),u',v'):=by simp [loopF,hx,hr,hw]
      rw [e]
      refine ⟨by omega,g2,dec_ok (by rw [c4] at g3;exact g3) hw,fun cf h=>?_⟩
      obtain ⟨r,P',N,l,re⟩:=h
      exact up cf (g4 cf ⟨r,P',N,.whlU c3 hd hw l,re⟩)
theorem seq_good (W:t.WF lp) {n:Nat} {l:List Nat} (hn:n<t.len) (hd:t.nd n=.seq l) {go:Nat→Nat→List Nat→Rs} {P:Pd} (hb:∀ c∈l,∀ u v,u≤bits.length→Good t bits B lp c P u v (go c u v)) :
  ∀ (cs l1:List Nat) (c u:Nat) (v:List Nat),l=l1++c::cs→u≤bits.length→(match seqF go (c::cs) (.inr .nrm,u,v) with
   | (.inr w,u',v')=>u≤u'∧u'≤bits.length∧WOk (lp n) w∧∀ cf,After t bits B n w P u' v' cf→From t bits B c P u v cf
   | (.inl x,u',v')=>u≤u'∧u'≤bits.length∧∃ cf,From t bits B c P u v cf∧cf.vs=v'∧cf.us=u'∧cf.at_=.inl x.1∧cf.pd=x.2):=by
 intro cs
 induction cs with
 | nil =>
  intro l1 c u v hl hu
  have hc:c∈l:=by rw [hl];simp
  obtain ⟨c1,c2,c3,c4⟩:=W.dn n hn c (by rw [hd];exact hc)
  rw [hd] at c4
  have c4:lp c=lp n:=c4
  have g:=hb c hc u v hu
  have e:seqF go [c] (.inr .nrm,u,v)=go c u v:=by simp [seqF]
  rw [e]
  rcases hr:go c u v with ⟨w,u',v'⟩
  rw [hr] at g
  cases w with
  | inl x=>exact g
  | inr w =>
   obtain ⟨g1,g2,g3,g4⟩:=g
   refine ⟨g1,g2,by rw [← c4];exact g3,fun cf h=>?_⟩
   obtain ⟨r,P',N,lv,re⟩:=h
   exact g4 cf ⟨r,P',N,.seqU c3 hd (.inr (by rw [hl];simp)) lv,re⟩
 | cons m cs ih =>
  intro l1 c u v hl hu
  have hc:c∈l:=by rw [hl];simp
  obtain ⟨c1,c2,c3,c4⟩:=W.dn n hn c (by rw [hd];exact hc)
  rw [hd] at c4
  have c4:lp c=lp n:=c4
  have g:=hb c hc u v hu
  have e:seqF go (c::m::cs) (.inr .nrm,u,v)=seqF go (m::cs) (go c u v):=by simp [seqF]
  rw [e]
  rcases hr:go c u v with ⟨w,u',v'⟩
  rw [hr] at g
  cases w with
  | inl x =>
   rw [seqF_stop (w:=.inl x) (fun z=>nomatch z)]
   exact g
  | inr w =>
   obtain ⟨g1,g2,g3,g4⟩:=g
   by_cases hw:w=.nrm
   ·subst hw
    have i:=ih (l1++[c]) m u' v' (by rw [hl];simp) g2
    rcases hr2:seqF go (m::cs) (.inr .nrm,u',v') with ⟨w2,u2,v2⟩
    rw [hr2] at i
    have go':∀ cf,From t bits B m P u' v' cf→From t bits B c P u v cf:=fun cf h=>by
     obtain ⟨k,e',N,en,re⟩:=h
     exact g4 cf ⟨_,_,_,.seqN c3 hd hl en,re⟩
    cases w2 with
    | inl x =>
     obtain ⟨k1,k2,cf,k3,k4⟩:=i
     exact ⟨by omega,k2,cf,go' cf k3,k4⟩
    | inr w2 =>
     obtain ⟨k1,k2,k3,k4⟩:=i
     exact ⟨by omega,k2,k3,fun cf h=>go' cf (k4 cf h)⟩
   ·rw [seqF_stop (fun z=>hw (Sum.inr.inj z))]
    refine ⟨g1,g2,by rw [← c4];exact g3,fun cf h=>?_⟩
    obtain ⟨r,P',N,lv,re⟩:=h
    exact g4 cf ⟨r,P',N,.seqU c3 hd (.inl hw) lv,re⟩
theorem quiet_good (W:t.WF lp) {n:Nat} (hn:n<t.len) (hq:quiet (t.nd n)) {P:Pd} {u:Nat} {v:List Nat} (hB:P.length≤B) (hu:u≤bits.length):Good t bits B lp n P u v (.inr (wayN (t.nd n)),u,v++[n]):=by
 have he:Ent t 0 n n:=.here (fun l e=>by rw [e] at hq;exact hq) (fun a b e=>by rw [e] at hq;exact hq) (fun a b e=>by rw [e] at hq;exact hq)
 have ha:asks (t.nd n)=false:=by
  cases e:t.nd n<;>rw [e] at hq<;>first | rfl | exact hq.elim
 refine ⟨Nat.le_refl _,hu,?_,fun cf h=>?_⟩
 ·cases e:t.nd n with
  | brk k=>exact W.bk n k hn e
  | cnt k=>exact W.ct n k hn e
  | do_=>trivial
  | ret=>trivial
  | rai=>trivial
  | call=>trivial
  | iff a b=>trivial
  | whl a=>trivial
  | seq l=>trivial
  | tr a b=>trivial
  | fin a b=>trivial
 ·obtain ⟨r,P',N,lv,re⟩:=h
  exact ⟨0,n,N + 1,he,.step (.on ha (.quiet hq lv)) hB re⟩
theorem main (W:t.WF lp):∀ h n,Hg t h n→n<t.len→∀ (P:Pd) (u:Nat) (v:List Nat),P.length + h≤B→u≤bits.length→Good t bits B lp n P u v (goF t bits h n P u v):=by
 intro h
 induction h with
 | zero=>exact fun n hg=>nomatch hg
 | succ h ih =>
  intro n hg hn P u v hPB hu
  have hB:P.length≤B:=by omega
  have hP:P.length + h≤B:=by omega
  cases hg with
  | mk hg =>
  have q:∀ d,t.nd n=d→quiet d→goF t bits (h + 1) n P u v=(.inr (wayN d),u,v++[n])→Good t bits B lp n P u v (goF t bits (h + 1) n P u v):=fun d e hq e2=>by
   rw [e2,← e]
   exact quiet_good W hn (by rw [e];exact hq) hB hu
  cases hd:t.nd n with
  | do_=>exact q _ hd trivial (by simp only [goF,hd])
  | ret=>exact q _ hd trivial (by simp only [goF,hd])
  | rai=>exact q _ hd trivial (by simp only [goF,hd])
  | brk k=>exact q _ hd trivial (by simp only [goF,hd])
  | cnt k=>exact q _ hd trivial (by simp only [goF,hd])
  | whl a =>
   have e:goF t bits (h + 1) n P u v=loopF bits n P (goF t bits h a P) (bits.length + 1) u v:=by simp only [goF,hd]
   rw [e]
   have ma:a∈(t.nd n).ch:=by rw [hd];exact List.mem_singleton.mpr rfl
   obtain ⟨c1,c2,c3,c4⟩:=W.dn n hn a ma
   exact loop_good W hn hd hB (fun u v hu=>ih a (hg a ma) c2 P u v hP hu) _ u v (by omega) hu
  | call =>
   have he:Ent t 0 n n:=.here (fun l=>by rw [hd];exact fun z=>nomatch z) (fun a b=>by rw [hd];exact fun z=>nomatch z) (fun a b=>by rw [hd];exact fun z=>nomatch z)
   have ha:asks (t.nd n)=true:=by rw [hd];rfl
   cases hx:bits[u]? with
   | none =>
    have e:goF t bits (h + 1) n P u v=(.inl (n,P),u,v):=by simp only [goF,hd,hx]
    rw [e]
    exact ⟨Nat.le_refl _,hu,_,from_wait he ha hx hB,rfl,rfl,rfl,rfl⟩
   | some x =>
    have e:goF t bits (h + 1) n P u v=(.inr (if x then .rai else .nrm),u + 1,v++[n]):=by simp only [goF,hd,hx]
    rw [e]
    refine ⟨by omega,bit_lt hx,by cases x<;>trivial,fun cf h=>?_⟩
    obtain ⟨r,P',N,lv,re⟩:=h
    exact ⟨0,n,N + 1,he,.step (.ask ha hx (.call hd lv)) hB re⟩
  | iff a b =>
   have he:Ent t 0 n n:=.here (fun l=>by rw [hd];exact fun z=>nomatch z) (fun a b=>by rw [hd];exact fun z=>nomatch z) (fun a b=>by rw [hd];exact fun z=>nomatch z)
   have ha:asks (t.nd n)=true:=by rw [hd];rfl
   cases hx:bits[u]? with
   | none =>
    have e:goF t bits (h + 1) n P u v=(.inl (n,P),u,v):=by simp only [goF,hd,hx]
    rw [e]
    exact ⟨Nat.le_refl _,hu,_,from_wait he ha hx hB,rfl,rfl,rfl,rfl⟩
   | some x =>
    have e:goF t bits (h + 1) n P u v=goF t bits h (if x then b else a) P (u + 1) (v++[n]):=by simp only [goF,hd,hx]
    rw [e]
    have mc:(if x then b else a)∈(t.nd n).ch:=by rw [hd];cases x<;>simp [Node.ch]
    obtain ⟨c1,c2,c3,c4⟩:=W.dn n hn _ mc
    rw [hd] at c4
    have c4:lp (if x then b else a)=lp n:=c4
    have g:=ih _ (hg _ mc) c2 P (u + 1) (v++[n]) hP (bit_lt hx)
    have up:∀ cf,From t bits B (if x then b else a) P (u + 1) (v++[n]) cf→From t bits B n P u v cf:=fun cf h=>by
     obtain ⟨k,e',N,en,re⟩:=h
     exact ⟨0,n,N + 1,he,.step (.ask ha hx (.iff hd en)) hB re⟩
    rcases hr:goF t bits h (if x then b else a) P (u + 1) (v++[n]) with ⟨w,u',v'⟩
    rw [hr] at g
    cases w with
    | inl x =>
     obtain ⟨g1,g2,cf,g3,g4⟩:=g
     exact ⟨by omega,g2,cf,up cf g3,g4⟩
    | inr w =>
     obtain ⟨g1,g2,g3,g4⟩:=g
     refine ⟨by omega,g2,by rw [← c4];exact g3,fun cf h=>?_⟩
     obtain ⟨r,P',N,lv,re⟩:=h
     exact up cf (g4 cf ⟨r,P',N,.iffU c3 hd lv,re⟩)
  | seq l =>
   have e:goF t bits (h + 1) n P u v=seqF (fun c=>goF t bits h c P) l (.inr .nrm,u,v):=by simp only [goF,hd]
   rw [e]
   have hne:=W.sq n l hn hd
   obtain ⟨c,cs,rfl⟩:∃ c cs,l=c::cs:=by
    cases l with
    | nil=>exact absurd rfl hne
    | cons c cs=>exact ⟨c,cs,rfl⟩
   have mem:∀ c'∈c::cs,c'∈(t.nd n).ch:=fun c' hc=>by rw [hd];exact hc
   have g:=seq_good W hn hd (go:=fun c=>goF t bits h c P) (P:=P) (fun c' hc u v hu=>ih c' (hg c' (mem c' hc)) (W.dn n hn c' (mem c' hc)).2.1 P u v hP hu) cs [] c u v rfl hu
   have up:∀ cf,From t bits B c P u v cf→From t bits B n P u v cf:=fun cf h=>by
    obtain ⟨k,e',N,en,re⟩:=h
    exact ⟨k + 1,e',N,.seq hd en,re⟩
   rcases hr:seqF (fun c=>goF t bits h c P) (c::cs) (.inr .nrm,u,v) with ⟨w,u',v'⟩
   rw [hr] at g
   cases w with
   | inl x =>
    obtain ⟨g1,g2,cf,g3,g4⟩:=g
    exact ⟨g1,g2,cf,up cf g3,g4⟩
   | inr w =>
    obtain ⟨g1,g2,g3,g4⟩:=g
    exact ⟨g1,g2,g3,fun cf h=>up cf (g4 cf h)⟩
  | tr a b =>
   have ma:a∈(t.nd n).ch:=by rw [hd];simp [Node.ch]
   have mb:b∈(t.nd n).ch:=by rw [hd];simp [Node.ch]
   obtain ⟨c1,c2,c3,c4⟩:=W.dn n hn a ma
   obtain ⟨b1,b2,b3,b4⟩:=W.dn n hn b mb
   rw [hd] at c4 b4
   have c4:lp a=lp n:=c4
   have b4:lp b=lp n:=b4
   have nab:b≠a:=by
    have z:=W.nd n hn
    rw [hd] at z
    simp [Node.ch] at z
    exact fun y=>z y.symm
   have g:=ih a (hg a ma) c2 P u v hP hu
   have up:∀ cf,From t bits B a P u v cf→From t bits B n P u v cf:=fun cf h=>by
    obtain ⟨k,e',N,en,re⟩:=h
    exact ⟨k + 1,e',N,.tr hd en,re⟩
   rcases hr:goF t bits h a P u v with ⟨w,u',v'⟩
   rw [hr] at g
   cases w with
   | inl x =>
    have e:goF t bits (h + 1) n P u v=(.inl x,u',v'):=by simp only [goF,hd,hr]
    rw [e]
    obtain ⟨g1,g2,cf,g3,g4⟩:=g
    exact ⟨g1,g2,cf,up cf g3,g4⟩
   | inr w =>
    obtain ⟨g1,g2,g3,g4⟩:=g
    by_cases hw:w=.rai
    ·subst hw
     have e:goF t bits (h + 1) n P u v=goF t bits h b P u' v':=by simp only [goF,hd,hr]
     rw [e]
     have i:=ih b (hg b mb) b2 P u' v' hP g2
     have go':∀ cf,From t bits B b P u' v' cf→From t bits B n P u v cf:=fun cf h=>by
      obtain ⟨k,e',N,en,re⟩:=h
      exact up cf (g4 cf ⟨_,_,_,.tryH c3 hd en,re⟩)
     rcases hr2:goF t bits h b P u' v' with ⟨w2,u2,v2⟩
     rw [hr2] at i
     cases w2 with
     | inl x =>
      obtain ⟨k1,k2,cf,k3,k4⟩:=i
      exact ⟨by omega,k2,cf,go' cf k3,k4⟩
     | inr w2 =>
      obtain ⟨k1,k2,k3,k4⟩:=i
      refine ⟨by omega,k2,by rw [← b4];exact k3,fun cf h=>?_⟩
      obtain ⟨r,P',N,lv,re⟩:=h
      exact go' cf (k4 cf ⟨r,P',N,.tryU b3 hd (.inr nab) lv,re⟩)
    ·have e:goF t bits (h + 1) n P u v=(.inr w,u',v'):=by
      simp only [goF,hd,hr]
      cases w<;>first | rfl | exact absurd rfl hw
     rw [e]
     refine ⟨g1,g2,by rw [← c4];exact g3,fun cf h=>?_⟩
     obtain ⟨r,P',N,lv,re⟩:=h
     exact up cf (g4 cf ⟨r,P',N,.tryU c3 hd (.inl hw) lv,re⟩)
  | fin a b =>
   have ma:a∈(t.nd n).ch:=by rw [hd];simp [Node.ch]
   have mb:b∈(t.nd n).ch:=by rw [hd];simp [Node.ch]
   obtain ⟨c1,c2,c3,c4⟩:=W.dn n hn a ma
   obtain ⟨b1,b2,b3,b4⟩:=W.dn n hn b mb
   rw [hd] at c4 b4
   have c4:lp a=lp n:=c4
   have b4:lp b=lp n:=b4
   have nab:b≠a:=by
    have z:=W.nd n hn
    rw [hd] at z
    simp [Node.ch] at z
    exact fun y=>z y.symm
   have g:=ih a (hg a ma) c2 P u v hP hu
   have up:∀ cf,From t bits B a P u v cf→From t bits B n P u v cf:=fun cf h=>by
    obtain ⟨k,e',N,en,re⟩:=h
    exact ⟨k + 1,e',N,.fin hd en,re⟩
   rcases hr:goF t bits h a P u v with ⟨w,u',v'⟩
   rw [hr] at g
   cases w with
   | inl x =>
    have e:goF t bits (h + 1) n P u v=(.inl x,u',v'):=by simp only [goF,hd,hr]
    rw [e]
    obtain ⟨g1,g2,cf,g3,g4⟩:=g
    exact ⟨g1,g2,cf,up cf g3,g4⟩
   | inr w =>
    obtain ⟨g1,g2,g3,g4⟩:=g
    have e:goF t bits (h + 1) n P u v=finF n w (goF t bits h b (P++[(n,w)]) u' v'):=by simp only [goF,hd,hr]
    rw [e]
    have i:=ih b (hg b mb) b2 (P++[(n,w)]) u' v' (by simp;omega) g2
    have go':∀ cf,From t bits B b (P++[(n,w)]) u' v' cf→From t bits B n P u v cf:=fun cf h=>by
     obtain ⟨k,e',N,en,re⟩:=h
     exact up cf (g4 cf ⟨_,_,_,.finB c3 hd en,re⟩)
    rcases hr2:goF t bits h b (P++[(n,w)]) u' v' with ⟨w2,u2,v2⟩
    rw [hr2] at i
    cases w2 with
    | inl x =>
     obtain ⟨k1,k2,cf,k3,k4⟩:=i
     exact ⟨by omega,k2,cf,go' cf k3,k4⟩
    | inr w2 =>
     obtain ⟨k1,k2,k3,k4⟩:=i
     by_cases hw:w2=.nrm
     ·subst hw
      have e2:finF n w (.inr .nrm,u2,v2)=(.inr w,u2,v2++[n]):=by simp [finF]
      rw [e2]
      refine ⟨by omega,k2,by rw [← c4];exact g3,fun cf h=>?_⟩
      obtain ⟨r,P',N,lv,re⟩:=h
      exact go' cf (k4 cf ⟨_,_,_,.finE b3 hd nab,.step (.on (by rw [hd];rfl) (.fin hd lv)) (by simp;omega) re⟩)
     ·have e2:finF n w (.inr w2,u2,v2)=(.inr w2,u2,v2):=by simp [finF,hw]
      rw [e2]
      refine ⟨by omega,k2,by rw [← b4];exact k3,fun cf h=>?_⟩
      obtain ⟨r,P',N,lv,re⟩:=h
      exact go' cf (k4 cf ⟨r,P',N,.finO b3 hd nab hw lv,re⟩)
theorem whole (W:t.WF lp) {h:Nat} (hg:Hg t h 0) (hB:h≤B):∃ k e N cf,Ent t k 0 e∧Re t bits B N ⟨.inl e,[],0,[]⟩ cf∧cf.vs=(goF t bits h 0 [] 0 []).2.2∧cf.us=(goF t bits h 0 [] 0 []).2.1 ∧
  (match (goF t bits h 0 [] 0 []).1 with | .inl x=>cf.at_=.inl x.1∧cf.pd=x.2 | .inr w=>cf.at_=.inr w∧WOk 0 w):=by
 have g:=main (bits:=bits) (B:=B) W h 0 hg W.ne [] 0 [] (by simpa using hB) (Nat.zero_le _)
 rcases hr:goF t bits h 0 [] 0 [] with ⟨w,u',v'⟩
 rw [hr] at g
 cases w with
 | inl x =>
  obtain ⟨_,_,cf,⟨k,e,N,en,re⟩,g4⟩:=g
  exact ⟨k,e,N,cf,en,re,g4.1,g4.2.1,g4.2.2⟩
 | inr w =>
  obtain ⟨_,_,g3,g4⟩:=g
  obtain ⟨k,e,N,en,re⟩:=g4 _ ⟨_,_,_,.top W.root,.stop .fin (Nat.zero_le _)⟩
  exact ⟨k,e,N,_,en,re,rfl,rfl,rfl,by rw [W.lp0] at g3;exact g3⟩
theorem ent_lt (W:t.WF lp) {k n e:Nat} (h:Ent t k n e) (hn:n<t.len):e<t.len:=by
 induction h with
 | here=>exact hn
 | seq h r ih=>exact ih (W.dn _ hn _ (by rw [h];exact List.mem_cons_self)).2.1
 | tr h r ih=>exact ih (W.dn _ hn _ (by rw [h];exact List.mem_cons_self)).2.1
 | fin h r ih=>exact ih (W.dn _ hn _ (by rw [h];exact List.mem_cons_self)).2.1
theorem lv_lt (W:t.WF lp) {n:Nat} {w:Way} {P P':Pd} {r:Nat ⊕ Way} (h:Lv t n w P r P') (hn:n<t.len):∀ e,r=.inl e→e<t.len:=by
 induction h with
 | top=>exact fun e z=>nomatch z
 | seqN h hd hl he=>intro e z;cases z;exact ent_lt W he (W.dn _ (W.pu _ _ hn h) _ (by rw [hd,hl];exact List.mem_append_right _ (List.mem_cons_of_mem _ List.mem_cons_self))).2.1
 | seqU h hd hw up ih=>exact ih (W.pu _ _ hn h)
 | whlA h hd hw=>intro e z;cases z;exact W.pu _ _ hn h
 | whlU h hd hw up ih=>exact ih (W.pu _ _ hn h)
 | tryH h hd he=>intro e z;cases z;exact ent_lt W he (W.dn _ (W.pu _ _ hn h) _ (by rw [hd];simp [Node.ch])).2.1
 | tryU h hd hw up ih=>exact ih (W.pu _ _ hn h)
 | iffU h hd up ih=>exact ih (W.pu _ _ hn h)
 | finB h hd he=>intro e z;cases z;exact ent_lt W he (W.dn _ (W.pu _ _ hn h) _ (by rw [hd];simp [Node.ch])).2.1
 | finE h hd=>intro e z;cases z;exact W.pu _ _ hn h
 | finO h hd hn' hw up ih=>exact ih (W.pu _ _ hn h)
theorem dp_lt (W:t.WF lp) {s:Nat} {x:Bool} {P P':Pd} {r:Nat ⊕ Way} (h:Dp1 t s x P r P') (hs:s<t.len):∀ e,r=.inl e→e<t.len:=by
 cases h with
 | iff h he=>intro e z;cases z;exact ent_lt W he (W.dn _ hs _ (by rw [h];cases x<;>simp [Node.ch])).2.1
 | whlT h hx he=>intro e z;cases z;exact ent_lt W he (W.dn _ hs _ (by rw [h];simp [Node.ch])).2.1
 | whlF h hx l=>exact lv_lt W l hs
 | call h l=>exact lv_lt W l hs
 | fin h l=>exact lv_lt W l hs
 | quiet h l=>exact lv_lt W l hs
theorem Re.vs {N:Nat} {c d:Cfg} (h:Re t bits B N c d):c.vs.length≤d.vs.length:=by
 induction h with
 | stop=>exact Nat.le_refl _
 | step h hb r ih =>
  cases h with
  | ask _ _ _=>exact Nat.le_trans (by simp) ih
  | on _ _=>exact Nat.le_trans (by simp) ih
theorem Re.pdl {N:Nat} {c d:Cfg} (h:Re t bits B N c d):c.pd.length≤B:=by
 cases h with
 | stop _ hb=>exact hb
 | step _ hb _=>exact hb
theorem Re.ended {N:Nat} {w:Way} {P:Pd} {u:Nat} {v:List Nat} {d:Cfg} (h:Re t bits B N ⟨.inr w,P,u,v⟩ d):d=⟨.inr w,P,u,v⟩:=by
 cases h with
 | stop=>rfl
 | step h=>cases h
theorem Re.quiet {N s:Nat} {P:Pd} {u:Nat} {v:List Nat} {d:Cfg} (h:Re t bits B N ⟨.inl s,P,u,v⟩ d) (ha:asks (t.nd s)=false):∃ M r P',N=M + 1∧Dp1 t s false P r P'∧Re t bits B M ⟨r,P',u,v++[s]⟩ d:=by
 cases h with
 | stop h =>
  cases h with
  | wait h _=>rw [ha] at h;cases h
 | step h _ r =>
  cases h with
  | ask h _ _=>rw [ha] at h;cases h
  | on _ d=>exact ⟨_,_,_,rfl,d,r⟩
theorem Re.asked {N s:Nat} {P:Pd} {u:Nat} {v:List Nat} {d:Cfg} {x:Bool} (h:Re t bits B N ⟨.inl s,P,u,v⟩ d) (ha:asks (t.nd s)=true) (hu:bits[u]?=some x):∃ M r P',N=M + 1∧Dp1 t s x P r P'∧Re t bits B M ⟨r,P',u + 1,v++[s]⟩ d:=by
 cases h with
 | stop h =>
  cases h with
  | wait _ h=>rw [hu] at h;cases h
 | step h _ r =>
  cases h with
  | ask _ h d =>
   rw [hu] at h
   cases h
   exact ⟨_,_,_,rfl,d,r⟩
  | on h _=>rw [ha] at h;cases h
theorem Re.waits {N s:Nat} {P:Pd} {u:Nat} {v:List Nat} {d:Cfg} (h:Re t bits B N ⟨.inl s,P,u,v⟩ d) (ha:asks (t.nd s)=true) (hu:bits[u]?=none):d=⟨.inl s,P,u,v⟩:=by
 cases h with
 | stop h=>rfl
 | step h _ r =>
  cases h with
  | ask _ h d=>rw [hu] at h;cases h
  | on h _=>rw [ha] at h;cases h
end
end FcM
set_option maxRecDepth 100000
set_option maxHeartbeats 4000000
namespace Fc
open PySem PySem.Spec PyProof.Rows L2 FcR
open Evl (Ex)
section
open FcM (Way Node Tab)
inductive SV (l:Int):PyData→Prop
 | do_ (x:Str):SV l (.tuple [.str "do",.str x])
 | call (x:Str):SV l (.tuple [.str "call",.str x])
 | iff (x:Str) (a b:PyData):SV l (.tuple [.str "if",.str x,a,b])
 | whl (x:Str) (a:PyData):SV l (.tuple [.str "while",.str x,a])
 | seq (p:PyData) (ps:List PyData):SV l (.tuple [.str "seq",.tuple (p::ps)])
 | brk (n:Int) (h1:1≤n) (h2:n≤l):SV l (.tuple [.str "break",.int n])
 | cnt (n:Int) (h1:1≤n) (h2:n≤l):SV l (.tuple [.str "continue",.int n])
 | ret:SV l (.tuple [.str "return"])
 | rai:SV l (.tuple [.str "raise"])
 | tr (a b:PyData):SV l (.tuple [.str "try",a,b])
 | fin (a b:PyData):SV l (.tuple [.str "final",a,b])
theorem lk_mem {l:List (Str×Int)} {k:Str} {n:Int} (h:l.lookup k=some n):(k,n)∈l:=by
 induction l with
 | nil=>cases h
 | cons p l ih =>
  obtain ⟨a,b⟩:=p
  by_cases e:k == a
  ·rw [List.lookup,e] at h
   cases h
   have z:k=a:=by simpa using e
   rw [z]
   exact List.mem_cons_self
  ·have e':(k == a)=false:=by simpa using e
   rw [List.lookup,e'] at h
   exact List.mem_cons_of_mem _ (ih h)
theorem isName_str {d:PyData} (h:isName d=true):∃ x,d=.str x:=by
 cases d<;>first | exact ⟨_,rfl⟩ | cases h
theorem isNum_int {d:PyData} {a b:Int} (h:isNum a b d=true):∃ n,d=.int n∧a≤n∧n≤b:=by
 cases d<;>first | (refine ⟨_,rfl,?_⟩;simpa [isNum] using h) | cases h
theorem ne_tup {d:PyData} (h:nonEmptyT d=true):∃ p ps,d=.tuple (p::ps):=by
 cases d with
 | tuple l=>cases l with
  | nil=>cases h
  | cons p ps=>exact ⟨p,ps,rfl⟩
 | _=>cases h
theorem len_of {r:List PyData} {n:Int} {m:Nat} (h:(r.length:Int) + 1=n) (e:n=(m:Int) + 1):r.length=m:=by omega
theorem sv_of {d:PyData} {l:Int} (h:isStm d l=true):SV l d:=by
 obtain ⟨k,r,n,rfl,hk,hl,h⟩:=isStm_shape h
 have hm:=lk_mem hk
 simp only [kSizes,List.mem_cons,List.not_mem_nil,or_false,Prod.mk.injEq] at hm
 rcases hm with ⟨rfl,rfl⟩ | ⟨rfl,rfl⟩ | ⟨rfl,rfl⟩ | ⟨rfl,rfl⟩ | ⟨rfl,rfl⟩ | ⟨rfl,rfl⟩ | ⟨rfl,rfl⟩ | ⟨rfl,rfl⟩ | ⟨rfl,rfl⟩ | ⟨rfl,rfl⟩ | ⟨rfl,rfl⟩
 ·rw [if_pos (by decide)] at h
  match r,len_of (m:=1) hl rfl,h with
  | [a],_,h=>obtain ⟨x,rfl⟩:=isName_str h;exact .do_ x
 ·rw [if_pos (by decide)] at h
  match r,len_of (m:=1) hl rfl,h with
  | [a],_,h=>obtain ⟨x,rfl⟩:=isName_str h;exact .call x
 ·rw [if_pos (by decide)] at h
  match r,len_of (m:=3) hl rfl,h with
  | [a,b,c],_,h=>obtain ⟨x,rfl⟩:=isName_str h;exact .iff x b c
 ·rw [if_pos (by decide)] at h
  match r,len_of (m:=2) hl rfl,h with
  | [a,b],_,h=>obtain ⟨x,rfl⟩:=isName_str h;exact .whl x b
 ·rw [if_neg (by decide),if_neg (by decide),if_neg (by decide)] at h
  match r,len_of (m:=1) hl rfl,h with
  | [a],_,h=>obtain ⟨p,ps,rfl⟩:=ne_tup h;exact .seq p ps
 ·rw [if_neg (by decide),if_pos (by decide)] at h
  match r,len_of (m:=1) hl rfl,h with
  | [a],_,h=>obtain ⟨x,rfl,h1,h2⟩:=isNum_int h;exact .brk x h1 h2
 ·rw [if_neg (by decide),if_pos (by decide)] at h
  match r,len_of (m:=1) hl rfl,h with
  | [a],_,h=>obtain ⟨x,rfl,h1,h2⟩:=isNum_int h;exact .cnt x h1 h2
 ·match r,len_of (m:=0) hl rfl with
  | [],_=>exact .ret
 ·match r,len_of (m:=0) hl rfl with
  | [],_=>exact .rai
 ·match r,len_of (m:=2) hl rfl with
  | [a,b],_=>exact .tr a b
 ·match r,len_of (m:=2) hl rfl with
  | [a,b],_=>exact .fin a b
def numD:PyData→Nat
 | .tuple [_,.int n]=>n.toNat
 | _=>0
def ndOf (r:Row):Node :=
 if kindD r.d="do" then .do_ else if kindD r.d="call" then .call else if kindD r.d="return" then .ret else if kindD r.d="raise" then .rai else
 if kindD r.d="break" then .brk (numD r.d) else if kindD r.d="continue" then .cnt (numD r.d) else if kindD r.d="seq" then .seq r.ch else
 if kindD r.d="while" then .whl (r.ch.getD 0 0) else if kindD r.d="if" then .iff (r.ch.getD 0 0) (r.ch.getD 1 0) else
 if kindD r.d="try" then .tr (r.ch.getD 0 0) (r.ch.getD 1 0) else .fin (r.ch.getD 0 0) (r.ch.getD 1 0)
def tabOf (rows:List Row):Tab:=⟨rows.length,fun n=>match rows[n]? with | some r=>ndOf r | none=>.do_,fun n=>rows[n]?.bind Row.par⟩
def wl (d:PyData):Nat:=if kindD d="while" then 1 else 0
structure BI (st:List WIt) (rows:List Row) (ls:List Nat):Prop where
 ll:ls.length=rows.length
 dn:∀ (n:Nat) (r:Row) (l:Nat),rows[n]?=some r→ls[n]?=some l→∀ c∈r.ch,n<c∧∃ r':Row,rows[c]?=some r'∧r'.par=some n∧ls[c]?=some (l + wl r.d)
 as:∀ (n:Nat) (r:Row),rows[n]?=some r→r.ch.Pairwise (·<·)
 pt:∀ (n:Nat) (r:Row),rows[n]?=some r→(r.ch.map fun c=>(rows[c]?.map Row.d).getD .none)++(st.filter fun i=>decide (i.par=some n)).map WIt.d=partsD r.d
 sm:∀ (n:Nat) (r:Row) (l:Nat),rows[n]?=some r→ls[n]?=some l→isStm r.d (l:Int)=true
 it:∀ i∈st,(i.par=none→rows=[]∧i.loops=0∧st.length=1)∧∀ p:Nat,i.par=some p→∃ (r:Row) (l:Nat),rows[p]?=some r∧ls[p]?=some l∧i.loops=l + wl r.d
 up:∀ (n:Nat) (r:Row) (p:Nat),rows[n]?=some r→r.par=some p→p<n∧∃ rp:Row,rows[p]?=some rp∧n∈rp.ch
 rt:∀ r:Row,rows[0]?=some r→r.par=none
 l0:∀ l:Nat,ls[0]?=some l→l=0
theorem addRow_get {rows:List Row} {d:PyData} {par:Option Nat} {n:Nat} {r:Row} (h:(addRow rows d par)[n]?=some r) :
  (n=rows.length∧r=⟨d,par,[]⟩)∨(∃ r0,rows[n]?=some r0∧r.d=r0.d∧r.par=r0.par∧((par=some n∧r.ch=r0.ch++[rows.length])∨(par≠some n∧r=r0))):=by
 obtain ⟨bs,hb,hl,hg⟩:∃ bs:List Row,addRow rows d par=bs++[⟨d,par,[]⟩]∧bs.length=rows.length∧∀ (n:Nat) (r:Row),bs[n]?=some r→∃ r0,rows[n]?=some r0∧r.d=r0.d∧r.par=r0.par∧((par=some n∧r.ch=r0.ch++[rows.length])∨(par≠some n∧r=r0)):=by
  cases par with
  | none=>exact ⟨rows,rfl,rfl,fun n r h=>⟨r,h,rfl,rfl,.inr ⟨(fun z=>nomatch z),rfl⟩⟩⟩
  | some i =>
   refine ⟨addCh rows i rows.length,rfl,addCh_len _ _ _,fun n r h=>?_⟩
   rw [addCh_eq,List.getElem?_modify] at h
   cases e:rows[n]? with
   | none=>rw [e] at h;simp at h
   | some r0 =>
    rw [e] at h
    by_cases z:i=n
    ·subst z
     simp at h
     refine ⟨r0,rfl,?_,?_,.inl ⟨rfl,?_⟩⟩<;>rw [← h]<;>rfl
    ·simp [z] at h
     exact ⟨r0,rfl,by rw [h],by rw [h],.inr ⟨fun y=>z (Option.some.inj y),h.symm⟩⟩
 rw [hb] at h
 rcases Nat.lt_or_ge n rows.length with lt | ge
 ·rw [List.getElem?_append_left (by rw [hl];exact lt)] at h
  exact .inr (hg n r h)
 ·rw [List.getElem?_append_right (by rw [hl];exact ge),hl] at h
  have e:n - rows.length=0:=by
   have:=(List.getElem?_eq_some_iff.mp h).1
   simp at this
   omega
  rw [e] at h
  simp at h
  exact .inl ⟨by omega,h.symm⟩
theorem addRow_old {rows:List Row} {d:PyData} {par:Option Nat} {n:Nat} {r0:Row} (h:rows[n]?=some r0):∃ r,(addRow rows d par)[n]?=some r∧r.d=r0.d∧r.par=r0.par:=by
 have lt:=(List.getElem?_eq_some_iff.mp h).1
 have lt2:n<(addRow rows d par).length:=by rw [addRow_len];omega
 refine ⟨_,List.getElem?_eq_getElem lt2,?_⟩
 rcases addRow_get (List.getElem?_eq_getElem lt2) with ⟨e,_⟩ | ⟨r1,h1,h2,h3,_⟩
 ·omega
 ·rw [h] at h1
  cases h1
  exact ⟨h2,h3⟩
theorem addRow_new {rows:List Row} {d:PyData} {par:Option Nat}:(addRow rows d par)[rows.length]?=some ⟨d,par,[]⟩:=by
 have lt2:rows.length<(addRow rows d par).length:=by rw [addRow_len];omega
 rw [List.getElem?_eq_getElem lt2]
 rcases addRow_get (List.getElem?_eq_getElem lt2) with ⟨_,e⟩ | ⟨r1,h1,_⟩
 ·rw [e]
 ·have:=(List.getElem?_eq_some_iff.mp h1).1
  omega
theorem addRow_d {rows:List Row} {d:PyData} {par:Option Nat} {c:Nat} (hc:c<rows.length):((addRow rows d par)[c]?.map Row.d)=rows[c]?.map Row.d:=by
 obtain ⟨r,h1,h2,_⟩:=addRow_old (d:=d) (par:=par) (List.getElem?_eq_getElem hc)
 rw [h1,List.getElem?_eq_getElem hc,Option.map_some,Option.map_some,h2]
theorem BI.step {it:WIt} {st:List WIt} {rows:List Row} {ls:List Nat} (b:BI (it::st) rows ls) (ok:okIt it rows.length):BI (newIts it rows.length++st) (addRow rows it.d it.par) (ls++[it.loops]):=by
 have lsl:∀ {n l:Nat},ls[n]?=some l→(ls++[it.loops])[n]?=some l:=fun {n l} h=>by
  rw [List.getElem?_append_left (List.getElem?_eq_some_iff.mp h).1]
  exact h
 have lsn:(ls++[it.loops])[rows.length]?=some it.loops:=by rw [List.getElem?_append_right (by rw [b.ll];exact Nat.le_refl _),b.ll,Nat.sub_self]<;>rfl
 have lso:∀ {n l:Nat},n<rows.length→(ls++[it.loops])[n]?=some l→ls[n]?=some l:=fun {n l} hn h=>by
  rw [List.getElem?_append_left (by rw [b.ll];exact hn)] at h
  exact h
 obtain ⟨i1,i2⟩:=b.it it List.mem_cons_self
 have new_par:∀ i∈newIts it rows.length,i.par=some rows.length∧i.loops=it.loops + wl it.d:=fun i hi=>by
  obtain ⟨j,hj,rfl⟩:=List.mem_mapIdx.mp hi
  exact ⟨rfl,rfl⟩
 refine ⟨by rw [List.length_append,addRow_len,b.ll]<;>rfl,fun n r l hr hl c hc=>?_,fun n r hr=>?_,fun n r hr=>?_,fun n r l hr hl=>?_,fun i hi=>?_,fun n r p hr hp=>?_,fun r hr=>?_,fun l hl=>?_⟩
 ·rcases addRow_get hr with ⟨rfl,rfl⟩ | ⟨r0,h0,hd,hp,h⟩
  ·cases hc
  ·have lt:=(List.getElem?_eq_some_iff.mp h0).1
   have hl0:=lso lt hl
   have old:∀ c∈r0.ch,n<c∧∃ r':Row,(addRow rows it.d it.par)[c]?=some r'∧r'.par=some n∧(ls++[it.loops])[c]?=some (l + wl r.d):=fun c hc=>by
    obtain ⟨x1,r',x2,x3,x4⟩:=b.dn n r0 l h0 hl0 c hc
    obtain ⟨r2,y1,y2,y3⟩:=addRow_old (d:=it.d) (par:=it.par) x2
    exact ⟨x1,r2,y1,y3.trans x3,by rw [hd];exact lsl x4⟩
   rcases h with ⟨hp,hch⟩ | ⟨_,e⟩
   ·rw [hch] at hc
    rcases List.mem_append.mp hc with hc | hc
    ·exact old c hc
    ·have e:=List.mem_singleton.mp hc
     subst e
     refine ⟨lt,_,addRow_new,hp,?_⟩
     obtain ⟨r1,l1,z1,z2,z3⟩:=i2 n hp
     rw [h0] at z1
     cases z1
     rw [hl0] at z2
     cases z2
     rw [lsn,z3,hd]
   ·rw [e] at hc
    exact old c hc
 ·rcases addRow_get hr with ⟨rfl,rfl⟩ | ⟨r0,h0,hd,hp,h⟩
  ·exact .nil
  ·rcases h with ⟨hp,hch⟩ | ⟨_,e⟩
   ·rw [hch,List.pairwise_append]
    refine ⟨b.as n r0 h0,List.pairwise_singleton _ _,fun c hc y hy=>?_⟩
    rw [List.mem_singleton.mp hy]
    obtain ⟨l,hl⟩:∃ l,ls[n]?=some l:=⟨_,List.getElem?_eq_getElem (by rw [b.ll];exact (List.getElem?_eq_some_iff.mp h0).1)⟩
    obtain ⟨_,r',x2,_⟩:=b.dn n r0 l h0 hl c hc
    exact (List.getElem?_eq_some_iff.mp x2).1
   ·rw [e]
    exact b.as n r0 h0
 ·rcases addRow_get hr with ⟨rfl,rfl⟩ | ⟨r0,h0,hd,hp,h⟩
  ·show ([]:List Nat).map _++_=_
   rw [List.map_nil,List.nil_append,List.filter_append,List.map_append]
   have e1:(newIts it rows.length).filter (fun i=>decide (i.par=some rows.length))=newIts it rows.length:=List.filter_eq_self.mpr fun i hi=>decide_eq_true (new_par i hi).1
   have e2:st.filter (fun i=>decide (i.par=some rows.length))=[]:=List.filter_eq_nil_iff.mpr fun i hi z=>by
    obtain ⟨r1,l1,z1,_⟩:=(b.it i (List.mem_cons_of_mem _ hi)).2 _ (of_decide_eq_true z)
    have:=(List.getElem?_eq_some_iff.mp z1).1
    omega
   rw [e1,e2,List.map_nil,List.append_nil]
   show (newIts it rows.length).map WIt.d=partsD it.d
   unfold newIts
   apply List.ext_getElem?
   intro j
   rw [List.getElem?_map,List.getElem?_mapIdx]
   cases (partsD it.d)[j]?<;>rfl
  ·have lt:=(List.getElem?_eq_some_iff.mp h0).1
   obtain ⟨l,hl⟩:∃ l,ls[n]?=some l:=⟨_,List.getElem?_eq_getElem (by rw [b.ll];exact lt)⟩
   have p0:=b.pt n r0 h0
   have e1:(newIts it rows.length).filter (fun i=>decide (i.par=some n))=[]:=List.filter_eq_nil_iff.mpr fun i hi z=>by
    have z1:=(new_par i hi).1
    rw [of_decide_eq_true z] at z1
    have:=Option.some.inj z1
    omega
   have e3:(r0.ch.map fun c=>((addRow rows it.d it.par)[c]?.map Row.d).getD .none)=r0.ch.map fun c=>(rows[c]?.map Row.d).getD .none:=List.map_congr_left fun c hc=>by
    obtain ⟨_,r',x2,_⟩:=b.dn n r0 l h0 hl c hc
    rw [addRow_d (List.getElem?_eq_some_iff.mp x2).1]
   rw [List.filter_append,e1,List.nil_append,hd]
   rcases h with ⟨hp,hch⟩ | ⟨hp,e⟩
   ·rw [hch,List.map_append,e3,← p0,List.filter_cons,if_pos (decide_eq_true hp),List.map_cons,List.append_assoc]
    congr 1
    show [(((addRow rows it.d it.par)[rows.length]?).map Row.d).getD .none]++_=_
    rw [addRow_new]<;>rfl
   ·rw [e,e3,← p0,List.filter_cons,if_neg (by simpa using hp)]
 ·rcases addRow_get hr with ⟨rfl,rfl⟩ | ⟨r0,h0,hd,hp,h⟩
  ·rw [lsn] at hl
   cases hl
   exact ok.2.2.2
  ·rw [hd]
   exact b.sm n r0 l h0 (lso (List.getElem?_eq_some_iff.mp h0).1 hl)
 ·rcases List.mem_append.mp hi with hi | hi
  ·obtain ⟨z1,z2⟩:=new_par i hi
   refine ⟨(fun e=>by rw [z1] at e;cases e),fun p hp=>?_⟩
   rw [z1] at hp
   cases hp
   exact ⟨_,_,addRow_new,lsn,z2⟩
  ·obtain ⟨z1,z2⟩:=b.it i (List.mem_cons_of_mem _ hi)
   refine ⟨fun e=>?_,fun p hp=>?_⟩
   ·have z3:=(z1 e).2.2
    have:=List.length_pos_of_mem hi
    rw [List.length_cons] at z3
    omega
   ·obtain ⟨r,l,y1,y2,y3⟩:=z2 p hp
    obtain ⟨r2,x1,x2,_⟩:=addRow_old (d:=it.d) (par:=it.par) y1
    exact ⟨r2,l,x1,lsl y2,by rw [x2];exact y3⟩
 ·have keep:∀ {rp:Row} {x:Nat},rows[p]?=some rp→x∈rp.ch→∃ rp':Row,(addRow rows it.d it.par)[p]?=some rp'∧x∈rp'.ch:=fun {rp x} h1 h2=>by
   obtain ⟨r2,y1,_⟩:=addRow_old (d:=it.d) (par:=it.par) h1
   refine ⟨r2,y1,?_⟩
   rcases addRow_get y1 with ⟨e,_⟩ | ⟨r3,z1,_,_,z4⟩
   ·have:=(List.getElem?_eq_some_iff.mp h1).1
    omega
   ·rw [h1] at z1
    cases z1
    rcases z4 with ⟨_,e⟩ | ⟨_,e⟩
    ·rw [e];exact List.mem_append_left _ h2
    ·rw [e];exact h2
  rcases addRow_get hr with ⟨e,rfl⟩ | ⟨r0,h0,hd,hp2,h⟩
  ·obtain ⟨rp,l,y1,_⟩:=i2 p hp
   have lt:=(List.getElem?_eq_some_iff.mp y1).1
   obtain ⟨r2,y2,_⟩:=addRow_old (d:=it.d) (par:=it.par) y1
   refine ⟨by omega,r2,y2,?_⟩
   rcases addRow_get y2 with ⟨e2,_⟩ | ⟨r3,z1,_,_,z4⟩
   ·omega
   ·rcases z4 with ⟨_,e2⟩ | ⟨e2,_⟩
    ·rw [e2,e];exact List.mem_append_right _ (List.mem_singleton.mpr rfl)
    ·exact absurd hp e2
  ·rw [hp2] at hp
   obtain ⟨y1,rp,y2,y3⟩:=b.up n r0 p h0 hp
   exact ⟨y1,keep y2 y3⟩
 ·rcases addRow_get hr with ⟨e,rfl⟩ | ⟨r0,h0,hd,hp,h⟩
  ·show it.par=none
   cases e2:it.par with
   | none=>rfl
   | some p =>
    obtain ⟨r,l,y1,_⟩:=i2 p e2
    have:=(List.getElem?_eq_some_iff.mp y1).1
    omega
  ·rw [hp]
   exact b.rt r0 h0
 ·by_cases hz:rows.length=0
  ·have e:ls=[]:=List.eq_nil_of_length_eq_zero (by rw [b.ll];exact hz)
   subst e
   simp at hl
   cases e2:it.par with
   | none=>rw [← hl];exact (i1 e2).2.1
   | some p =>
    obtain ⟨r,l,y1,_⟩:=i2 p e2
    have:=(List.getElem?_eq_some_iff.mp y1).1
    omega
  ·exact b.l0 l (lso (by omega) hl)
theorem BI.all:∀ {m:Nat} {st:List WIt} {rows fin:List Row},Builds m st rows fin→∀ {ls:List Nat},BI st rows ls→∃ ls',BI [] fin ls'
 | _,_,_,_,.done _,ls,b=>⟨ls,b⟩
 | _,_,_,_,.step ok h,_,b=>BI.all h (b.step ok)
theorem BI.start (d:PyData):BI [⟨d,none,1,0,0⟩] [] [] :=
 ⟨rfl,fun n r l h=>by simp at h,fun n r h=>by simp at h,fun n r h=>by simp at h,fun n r l h=>by simp at h,fun i hi=>by
  rw [List.mem_singleton.mp hi]
  exact ⟨fun _=>⟨rfl,rfl,rfl⟩,fun p hp=>nomatch hp⟩,fun n r p h=>by simp at h,fun r h=>by simp at h,fun l h=>by simp at h⟩
structure TW (rows:List Row) (lp:Nat→Nat):Prop where
 wf:(tabOf rows).WF lp
 sv:∀ (n:Nat) (r:Row),rows[n]?=some r→SV (lp n:Int) r.d∧r.ch.length=(partsD r.d).length∧r.ch=(ndOf r).ch
 pu:∀ (n:Nat) (r:Row) (p:Nat),rows[n]?=some r→r.par=some p→p<n∧p<rows.length∧n∈((tabOf rows).nd p).ch
 pr:∀ (n:Nat) (r:Row),rows[n]?=some r→∀ (j c:Nat),r.ch[j]?=some c→∃ r':Row,rows[c]?=some r'∧(partsD r.d)[j]?=some r'.d
theorem len_two {α:Type} {l:List α} (h:l.length=2):∃ a b,l=[a,b]:=by
 match l,h with
 | [a,b],_=>exact ⟨a,b,rfl⟩
theorem len_one {α:Type} {l:List α} (h:l.length=1):∃ a,l=[a]:=by
 match l,h with
 | [a],_=>exact ⟨a,rfl⟩
theorem nd_ch {r:Row} {l:Int} (h:SV l r.d) (hl:r.ch.length=(partsD r.d).length):r.ch=(ndOf r).ch:=by
 obtain ⟨d,par,ch⟩:=r
 cases h with
 | do_ x=>exact List.eq_nil_of_length_eq_zero (hl.trans rfl)
 | call x=>exact List.eq_nil_of_length_eq_zero (hl.trans rfl)
 | ret=>exact List.eq_nil_of_length_eq_zero (hl.trans rfl)
 | rai=>exact List.eq_nil_of_length_eq_zero (hl.trans rfl)
 | brk n h1 h2=>exact List.eq_nil_of_length_eq_zero (hl.trans rfl)
 | cnt n h1 h2=>exact List.eq_nil_of_length_eq_zero (hl.trans rfl)
 | iff x a b =>
  obtain ⟨a,b,rfl⟩:=len_two (hl.trans rfl)
  rfl
 | whl x a =>
  obtain ⟨a,rfl⟩:=len_one (hl.trans rfl)
  rfl
 | seq p ps=>rfl
 | tr a b =>
  obtain ⟨a,b,rfl⟩:=len_two (hl.trans rfl)
  rfl
 | fin a b =>
  obtain ⟨a,b,rfl⟩:=len_two (hl.trans rfl)
  rfl
theorem nd_wl {r:Row} {l:Int} (h:SV l r.d):wl r.d=(match ndOf r with | .whl _=>1 | _=>0):=by
 obtain ⟨d,par,ch⟩:=r
 cases h<;>rfl
theorem tab_nd {rows:List Row} {n:Nat} {r:Row} (h:rows[n]?=some r):(tabOf rows).nd n=ndOf r:=by
 show (match rows[n]? with | some r=>ndOf r | none=>.do_)=ndOf r
 rw [h]
theorem nd_seq {r:Row} {l:Int} {cs:List Nat} (h:SV l r.d) (hl:r.ch.length=(partsD r.d).length) (e:ndOf r=.seq cs):cs≠[]:=by
 obtain ⟨d,par,ch⟩:=r
 cases h with
 | seq p ps =>
  cases e
  intro z
  rw [show ch=[] from z] at hl
  cases hl
 | _=>cases e
theorem nd_brk {r:Row} {l:Nat} {k:Nat} (h:SV (l:Int) r.d) (e:ndOf r=.brk k):1≤k∧k≤l:=by
 obtain ⟨d,par,ch⟩:=r
 cases h with
 | brk n h1 h2 =>
  cases e
  show 1≤n.toNat∧n.toNat≤l
  omega
 | _=>cases e
theorem nd_cnt {r:Row} {l:Nat} {k:Nat} (h:SV (l:Int) r.d) (e:ndOf r=.cnt k):1≤k∧k≤l:=by
 obtain ⟨d,par,ch⟩:=r
 cases h with
 | cnt n h1 h2 =>
  cases e
  show 1≤n.toNat∧n.toNat≤l
  omega
 | _=>cases e
theorem tw_of {fin:List Row} {ls:List Nat} (b:BI [] fin ls) (hne:0<fin.length):TW fin (fun n=>ls.getD n 0):=by
 have lpn:∀ {n l:Nat},ls[n]?=some l→ls.getD n 0=l:=fun h=>by rw [List.getD_eq_getElem?_getD,h]<;>rfl
 have lex:∀ {n:Nat} {r:Row},fin[n]?=some r→∃ l,ls[n]?=some l:=fun {n r} h=>⟨_,List.getElem?_eq_getElem (by rw [b.ll];exact (List.getElem?_eq_some_iff.mp h).1)⟩
 have pt:∀ (n:Nat) (r:Row),fin[n]?=some r→(r.ch.map fun c=>(fin[c]?.map Row.d).getD .none)=partsD r.d:=fun n r h=>by
  have z:=b.pt n r h
  rw [List.filter_nil,List.map_nil,List.append_nil] at z
  exact z
 have sv:∀ (n:Nat) (r:Row),fin[n]?=some r→SV (ls.getD n 0:Int) r.d∧r.ch.length=(partsD r.d).length∧r.ch=(ndOf r).ch:=fun n r h=>by
  obtain ⟨l,hl⟩:=lex h
  rw [lpn hl]
  have s:=sv_of (b.sm n r l h hl)
  have e:r.ch.length=(partsD r.d).length:=by rw [← pt n r h,List.length_map]
  exact ⟨s,e,nd_ch s e⟩
 have at_:∀ n,n<fin.length→∃ r,fin[n]?=some r∧(tabOf fin).nd n=ndOf r:=fun n hn=>⟨_,List.getElem?_eq_getElem hn,tab_nd (List.getElem?_eq_getElem hn)⟩
 refine ⟨⟨hne,?_,?_,fun n hn c hc=>?_,fun n hn=>?_,fun n p hn hp=>?_,fun n l hn hd=>?_,fun n k hn hd=>?_,fun n k hn hd=>?_⟩,sv,fun n r p h hp=>?_,fun n r h j c hj=>?_⟩
 ·show fin[0]?.bind Row.par=none
  rw [List.getElem?_eq_getElem hne]
  exact b.rt _ (List.getElem?_eq_getElem hne)
 ·obtain ⟨l,hl⟩:=lex (List.getElem?_eq_getElem hne)
  rw [lpn hl]
  exact b.l0 l hl
 ·obtain ⟨r,hr,e⟩:=at_ n hn
  obtain ⟨s1,s2,s3⟩:=sv n r hr
  rw [e,← s3] at hc
  obtain ⟨l,hl⟩:=lex hr
  obtain ⟨x1,r',x2,x3,x4⟩:=b.dn n r l hr hl c hc
  refine ⟨x1,(List.getElem?_eq_some_iff.mp x2).1,?_,?_⟩
  ·show fin[c]?.bind Row.par=some n
   rw [x2]
   exact x3
  ·rw [e,lpn x4,lpn hl,nd_wl s1]
   try (cases ndOf r<;>rfl)
 ·obtain ⟨r,hr,e⟩:=at_ n hn
  rw [e,← (sv n r hr).2.2]
  exact (b.as n r hr).imp fun h=>Nat.ne_of_lt h
 ·obtain ⟨r,hr,e⟩:=at_ n hn
  have hp:fin[n]?.bind Row.par=some p:=hp
  rw [hr] at hp
  obtain ⟨_,rp,y2,_⟩:=b.up n r p hr hp
  exact (List.getElem?_eq_some_iff.mp y2).1
 ·obtain ⟨r,hr,e⟩:=at_ n hn
  rw [e] at hd
  exact nd_seq (sv n r hr).1 (sv n r hr).2.1 hd
 ·obtain ⟨r,hr,e⟩:=at_ n hn
  rw [e] at hd
  exact nd_brk (sv n r hr).1 hd
 ·obtain ⟨r,hr,e⟩:=at_ n hn
  rw [e] at hd
  exact nd_cnt (sv n r hr).1 hd
 ·obtain ⟨y1,rp,y2,y3⟩:=b.up n r p h hp
  exact ⟨y1,(List.getElem?_eq_some_iff.mp y2).1,by rw [tab_nd y2,← (sv p rp y2).2.2];exact y3⟩
 ·obtain ⟨l,hl⟩:=lex h
  obtain ⟨_,r',x2,_⟩:=b.dn n r l h hl c (List.mem_of_getElem? hj)
  refine ⟨r',x2,?_⟩
  rw [← pt n r h,List.getElem?_map,hj,Option.map_some,x2]<;>rfl
inductive HD:Nat→PyData→Prop
 | mk {h:Nat} {d:PyData} (r:∀ p∈partsD d,HD h p):HD (h + 1) d
theorem hg_of {rows:List Row} {lp:Nat→Nat} (W:TW rows lp):∀ {h:Nat} {d:PyData},HD h d→∀ {n:Nat} {r:Row},rows[n]?=some r→r.d=d→FcM.Hg (tabOf rows) h n:=by
 intro h d hd
 induction hd with
 | mk r ih =>
  intro n r hr e
  refine .mk fun c hc=>?_
  rw [tab_nd hr,← (W.sv n r hr).2.2] at hc
  obtain ⟨j,hj⟩:=List.mem_iff_getElem?.mp hc
  obtain ⟨r',x1,x2⟩:=W.pr n r hr j c hj
  exact ih r'.d (by rw [← e];exact List.mem_of_getElem? x2) x1 rfl
end
section
open FcM (Way Node Tab)
def kindN:Node→Str
 | .do_=>"do"
 | .call=>"call"
 | .ret=>"return"
 | .rai=>"raise"
 | .brk _=>"break"
 | .cnt _=>"continue"
 | .iff _ _=>"if"
 | .whl _=>"while"
 | .seq _=>"seq"
 | .tr _ _=>"try"
 | .fin _ _=>"final"
theorem kd_nd {r:Row} {l:Int} (h:SV l r.d):kindD r.d=kindN (ndOf r):=by
 obtain ⟨d,par,ch⟩:=r
 cases h<;>rfl
structure At (K:PySem.W.Frag) (H:Hp) (A:CAd) (rows:List Row) (n:Nat) (r:Row) (c:Addr):Prop where
 kd:(rows.map fun r=>V.str (kindD r.d))[n]?=some (.str (kindN (ndOf r)))
 lb:(rows.map fun r=>labD r.d)[n]?=some (labD r.d)
 pr:(rows.map fun r=>parV r.par)[n]?=some (parV r.par)
 cs:(A.cs.map V.ref)[n]?=some (.ref c)
 ch:H c=some (.lst (intsV r.ch))
theorem at_of {K:PySem.W.Frag} {H:Hp} {A:CAd} {rows:List Row} {lp:Nat→Nat} {L1 L2 L3 L4:List V} (W:TW rows lp) (C:CL K H A L1 L2 L3 L4 (rows.map fun r=>intsV r.ch)) {n:Nat} {r:Row} (h:rows[n]?=some r):∃ c,At K H A rows n r c:=by
 have lt:=(List.getElem?_eq_some_iff.mp h).1
 have lc:n<A.cs.length:=by rw [C.cl,List.length_map];exact lt
 refine ⟨A.cs[n],by rw [List.getElem?_map,h,← kd_nd (W.sv n r h).1]<;>rfl,by rw [List.getElem?_map,h]<;>rfl,by rw [List.getElem?_map,h]<;>rfl,by rw [List.getElem?_map,List.getElem?_eq_getElem lc]<;>rfl,?_⟩
 exact C.cc n _ _ (List.getElem?_eq_getElem lc) (by rw [List.getElem?_map,h]<;>rfl)
theorem row_at {rows:List Row} {n:Nat} (h:n<rows.length):∃ r,rows[n]?=some r:=⟨_,List.getElem?_eq_getElem h⟩
theorem ints_at {l:List Nat} {j c:Nat} (h:l[j]?=some c):(intsV l)[j]?=some (.int (c:Int)):=by
 unfold intsV
 rw [List.getElem?_map,h]<;>rfl
def kDown:List Str:=["seq","try","final"]
theorem down_case {t:Tab} {m n e:Nat} (h:FcM.Ent t m n e):(e=n∧decide (kindN (t.nd n)∈kDown)=false)∨∃ m' c,m=m' + 1∧(t.nd n).ch[0]?=some c∧FcM.Ent t m' c e∧decide (kindN (t.nd n)∈kDown)=true:=by
 cases h with
 | here h1 h2 h3 =>
  refine .inl ⟨rfl,decide_eq_false fun z=>?_⟩
  cases hd:t.nd n with
  | seq l=>exact h1 l hd
  | tr a b=>exact h2 a b hd
  | fin a b=>exact h3 a b hd
  | do_=>rw [hd] at z;exact absurd z (by decide +kernel)
  | call=>rw [hd] at z;exact absurd z (by decide +kernel)
  | ret=>rw [hd] at z;exact absurd z (by decide +kernel)
  | rai=>rw [hd] at z;exact absurd z (by decide +kernel)
  | brk k=>rw [hd] at z;exact absurd z (show ¬ ("break":Str)∈kDown by decide +kernel)
  | cnt k=>rw [hd] at z;exact absurd z (show ¬ ("continue":Str)∈kDown by decide +kernel)
  | iff a b=>rw [hd] at z;exact absurd z (show ¬ ("if":Str)∈kDown by decide +kernel)
  | whl a=>rw [hd] at z;exact absurd z (show ¬ ("while":Str)∈kDown by decide +kernel)
 | @seq k _ c _ l hd r=>exact .inr ⟨k,c,rfl,by rw [hd]<;>rfl,r,by rw [hd];exact decide_eq_true (show ("seq":Str)∈kDown by decide +kernel)⟩
 | @tr k _ a b _ hd r=>exact .inr ⟨k,a,rfl,by rw [hd]<;>rfl,r,by rw [hd];exact decide_eq_true (show ("try":Str)∈kDown by decide +kernel)⟩
 | @fin k _ a b _ hd r=>exact .inr ⟨k,a,rfl,by rw [hd]<;>rfl,r,by rw [hd];exact decide_eq_true (show ("final":Str)∈kDown by decide +kernel)⟩
theorem in_strs {k:Str} {l:List Str} {b:Bool} (h:decide (k∈l)=b):inV (.str k) (l.map V.str)=b:=by rw [inV_strs];exact h
def sp_entry (K:PySem.W.Frag):Sp:=fun vs H Q _=>∃ (F:Hp) (A:CAd) (rows:List Row) (lp:Nat→Nat) (n k e:Nat),vs=[.ref A.p,.int (n:Int)]∧CodeH K F F A rows∧TW rows lp∧Ex F H∧n<rows.length∧FcM.Ent (tabOf rows) k n e∧∀ H',Ex H H'→Q (.int (e:Int)) H'
end
section
open FcM (Way Node Tab)
def leafT:Node→Tw
 | .do_=>[(.nrm,[])]
 | .call=>[(.nrm,[0]),(.rai,[1])]
 | .ret=>[(.ret,[])]
 | .rai=>[(.rai,[])]
 | .brk k=>[(.brk k,[])]
 | .cnt k=>[(.cnt k,[])]
 | _=>[]
def keepAll (t:Tw) (ps:Tw) (f:List Int→List Int):Tw:=ps.foldl (fun t p=>keepT t p.1 (f p.2)) t
def ifT (a b:Tw):Tw:=keepAll (keepAll [] a (fun x=>0::x)) b (fun x=>1::x)
def whileStep (t:Tw) (p:Way×List Int):Tw :=
 match p.1 with
 | .brk (k + 2)=>putT t (.brk (k + 1)) (1::p.2)
 | .cnt (k + 2)=>putT t (.cnt (k + 1)) (1::p.2)
 | .ret=>putT t .ret (1::p.2)
 | .rai=>putT t .rai (1::p.2)
 | _=>t
def whileT (a:Tw):Tw:=a.foldl whileStep [(.nrm,[0])]
def seqT:List Tw→Tw→List Int→Tw
 | [],t,before=>putT t .nrm before
 | p::ps,t,before =>
  let t':=keepAll t (p.filter fun e=>decide (e.1≠.nrm)) (fun x=>before++x)
  match lk p .nrm with
  | none=>t'
  | some a=>seqT ps t' (before++a)
def tryT (a b:Tw):Tw :=
 let t:=keepAll [] (a.filter fun e=>decide (e.1≠.rai)) id
 match lk a .rai with
 | none=>t
 | some x=>keepAll t b (fun y=>x++y)
def finT (a b:Tw):Tw :=
 let t:=match lk b .nrm with
  | none=>[]
  | some y=>keepAll [] a (fun x=>x++y)
 keepAll t (b.filter fun e=>decide (e.1≠.nrm)) (fun y=>(shortT a).getD []++y)
def IsLeaf:Node→Prop
 | .do_ | .call | .ret | .rai | .brk _ | .cnt _=>True
 | _=>False
def sp_leafW (P:Program) (w:World) (K:PySem.W.Frag):Sp:=fun vs H Q _=>∃ (N:Hp) (nd:Node) (lab:V),Ex N H∧vs=[.str (kindN nd),lab]∧IsLeaf nd∧(∀ k:Nat,nd=.brk k∨nd=.cnt k→lab=.int (k:Int))∧∀ H' d,Ex H H'→H d=none→Wt P w K N H' d (leafT nd)→Q (.ref d) H'
theorem can_bc:PyData.canLayAll0 [.str (Str.ofString "break"),.str (Str.ofString "continue")]=true:=by kernel_rfl
theorem ex_put {H H':Hp} {p:Addr} {u:HO} (e:Ex H H') (hp:H p=none):Ex H (upd H' p u):=fun c o h=>by rw [upd_ne (ne_of_none h hp)];exact e c o h
theorem wt_disp {P:Program} {w:World} {K:PySem.W.Frag} {N H:Hp} {p:Addr} {o o':Obj} {xs0 xs:List FcW.Ent} {t:Tw} (e:H p=some (FcW.dW P w p o xs0)) (kt:FcW.KeysT K H xs) (r:TbR K N H xs t):Wt P w K N (upd H p (FcW.dW P w p o' xs)) p t :=
 ⟨o',xs,⟨upd_same,fun x hx=>sqT_upd e (kt x hx)⟩,tbr_mono r fun _ _ z=>lst_upd e z⟩
section
variable {P:Program} {w:World} {h:Heap} {K:PySem.W.Frag} {mg:Str→Option Value} {base:Heap}
abbrev N_left_by_leaf:List Str:=["kind","label"]
theorem sc_left_by_leaf:FnScope N_left_by_leaf ["kind","label"] (defScope sd_left_by_leaf):=⟨rfl,rfl,rfl,by decide +kernel,rfl,by decide +kernel,by decide +kernel⟩
theorem ok_left_by_leaf (T:Tx w h K mg):Ok P w K mg base 1 ("left_by_leaf",none) ["kind","label"] (sp_leafW P w K):=by
 obtain ⟨fd,F⟩:=F_left_by_leaf T
 refine ⟨fd,?_,F.bindsN (fun _ _ _ _ _ _ us hl=>match us,hl with | [_,_],_=>rfl),F.kp⟩
 refine F.ok sc_left_by_leaf (fun vs H Q E h=>?_) (fun cdv A outer s H vs Q E hr h=>?_)
 ·obtain ⟨N,nd,lab,xN,rfl,lf,hlab,q⟩:=h
  rfl
 ·obtain ⟨N,nd,lab,xN,rfl,lf,hlab,q⟩:=h
  refine ⟨_,PSs.nox (pss_cons (ps_if (pt_cmpR op_eq (pv 0) pe_str (nomark _)) (pss_one (ps_ret (FcW.pe_wdisp (Nat.lt_of_succ_lt (hu_of hr)) (pps_cons (pe_glob (v:=.ref (He.ga K "NORMAL_ways")) rfl (g_NORMAL_ways T) rfl) (pe_lst pa_nil) pps_nil) (by rfl) (by rfl) (fun z=>by cases z) (by decide)))) pss_nil) (pss_cons (ps_if (pt_cmpR op_eq (pv 0) pe_str (nomark _)) (pss_one (ps_ret (FcW.pe_wdisp (Nat.lt_of_succ_lt (hu_of hr)) (pps_cons (pe_glob (v:=.ref (He.ga K "NORMAL_ways")) rfl (g_NORMAL_ways T) rfl) (pe_lst (pa_cons pe_int pa_nil)) (pps_cons (pe_glob (v:=.ref (He.ga K "RAISE_ways")) rfl (g_RAISE_ways T) rfl) (pe_lst (pa_cons pe_int pa_nil)) pps_nil)) (by rfl) (by rfl) (fun z=>by cases z) (by decide)))) pss_nil) (pss_cons (ps_if (pt_cmpR (op_inT hr) (pv 0) (pe_tup (pa_cons pe_str (pa_cons pe_str pa_nil))) (by rfl)) (pss_one (ps_ret (FcW.pe_wdisp (Nat.lt_of_succ_lt (hu_of hr)) (pps_cons (pe_tup (pa_cons (pv 0) (pa_cons (pv 1) pa_nil))) (pe_lst pa_nil) pps_nil) (by rfl) (by rfl) (fun z=>by cases z) (by decide)))) pss_nil) (pss_one (ps_ret (FcW.pe_wdisp (Nat.lt_of_succ_lt (hu_of hr)) (pps_cons (pe_tup (pa_cons (pv 0) pa_nil)) (pe_lst pa_nil) pps_nil) (by rfl) (by rfl) (fun z=>by cases z) (by decide))))))),?_⟩
  cases nd with
  | do_ =>
   refine ⟨_,rfl,rfl,_,rfl,itT (decide_eq_true rfl) ?_⟩
   intro p o hp
   generalize e0:upd _ p _=H0
   obtain ⟨x0,s0,o0⟩:=new_of e0 hp
   clear e0
   refine ⟨sz (by simp),?_⟩
   intro p1 n1
   generalize e1:upd _ p1 _=H1
   obtain ⟨x1,s1,o1⟩:=new_of e1 n1
   clear e1
   have kt:FcW.KeysT K H1 [(wk .nrm,He.ga K "NORMAL_ways",.ref p1)]:=fun x hx=>by
    obtain rfl:=List.mem_singleton.mp hx
    exact t_NORMAL_ways T _
   exact ⟨x1 _ _ s0,_,rfl,by simp,kt,by simp,fun o'=>q _ p (ex_put (Evl.Ex.trans x0 x1) hp) hp (wt_disp (x1 _ _ s0) kt (.cons ⟨rfl,p1,rfl,s1,ex_none (xN.trans x0) n1⟩ .nil))⟩
  | call =>
   refine ⟨_,rfl,rfl,_,rfl,itF (decide_eq_false (by decide)) ⟨_,rfl,rfl,_,rfl,itT (decide_eq_true rfl) ?_⟩⟩
   intro p o hp
   generalize e0:upd _ p _=H0
   obtain ⟨x0,s0,o0⟩:=new_of e0 hp
   clear e0
   refine ⟨sz (by simp),?_⟩
   intro p1 n1
   generalize e1:upd _ p1 _=H1
   obtain ⟨x1,s1,o1⟩:=new_of e1 n1
   clear e1
   refine ⟨sz (by simp),?_⟩
   intro p2 n2
   generalize e2:upd _ p2 _=H2
   obtain ⟨x2,s2,o2⟩:=new_of e2 n2
   clear e2
   have kt:FcW.KeysT K H2 [(wk .nrm,He.ga K "NORMAL_ways",.ref p1),(wk .rai,He.ga K "RAISE_ways",.ref p2)]:=fun x hx=>by
    rcases List.mem_cons.mp hx with rfl | hx
    ·exact t_NORMAL_ways T _
    ·obtain rfl:=List.mem_singleton.mp hx
     exact t_RAISE_ways T _
   exact ⟨x2 _ _ (x1 _ _ s0),_,rfl,by simp,kt,(show ([wk Way.nrm,wk Way.rai]:List (List L2.Key)).Nodup from by decide),fun o'=>q _ p (ex_put (Evl.Ex.trans x0 (Evl.Ex.trans x1 x2)) hp) hp (wt_disp (x2 _ _ (x1 _ _ s0)) kt (.cons ⟨rfl,p1,rfl,x2 _ _ s1,ex_none (xN.trans x0) n1⟩ (.cons ⟨rfl,p2,rfl,s2,ex_none (xN.trans (x0.trans x1)) n2⟩ .nil)))⟩
  | ret =>
   refine ⟨_,rfl,rfl,_,rfl,itF (decide_eq_false (by decide)) ⟨_,rfl,rfl,_,rfl,itF (decide_eq_false (by decide)) ⟨_,rfl,sz (by simp),?_⟩⟩⟩
   intro p9 n9
   generalize e9:upd _ p9 _=H9
   obtain ⟨x9,s9,o9⟩:=new_of e9 n9
   clear e9
   refine ⟨_,_,.str _,.tup (SqT.of s9) (.cons (.str _) (.cons (.str _) .nil)),(by kernel_rfl),can_bc,(Nat.le_trans (Nat.min_le_right _ _) (show 0≤150 from by decide)),_,rfl,itF (by kernel_rfl) ?_⟩
   intro p o hp
   have hp0:H p=none:=by
    cases z:H p with
    | none=>rfl
    | some u=>rw [x9 _ _ z] at hp;cases hp
   generalize e0:upd _ p _=H0
   obtain ⟨x0,s0,o0⟩:=new_of e0 hp
   clear e0
   refine ⟨_,rfl,sz (by simp),?_⟩
   intro p1 n1
   generalize e1:upd _ p1 _=H1
   obtain ⟨x1,s1,o1⟩:=new_of e1 n1
   clear e1
   refine ⟨sz (by simp),?_⟩
   intro p2 n2
   generalize e2:upd _ p2 _=H2
   obtain ⟨x2,s2,o2⟩:=new_of e2 n2
   clear e2
   have kt:FcW.KeysT K H2 [(wk .ret,p1,.ref p2)]:=fun x hx=>by
    obtain rfl:=List.mem_singleton.mp hx
    exact SqT.of (x2 _ _ s1)
   exact ⟨x2 _ _ (x1 _ _ s0),_,rfl,by simp,kt,by simp,fun o'=>q _ p (ex_put (Evl.Ex.trans x9 (Evl.Ex.trans x0 (Evl.Ex.trans x1 x2))) hp0) hp0 (wt_disp (x2 _ _ (x1 _ _ s0)) kt (.cons ⟨rfl,p2,rfl,s2,ex_none (xN.trans (x9.trans (x0.trans x1))) n2⟩ .nil))⟩
  | rai =>
   refine ⟨_,rfl,rfl,_,rfl,itF (decide_eq_false (by decide)) ⟨_,rfl,rfl,_,rfl,itF (decide_eq_false (by decide)) ⟨_,rfl,sz (by simp),?_⟩⟩⟩
   intro p9 n9
   generalize e9:upd _ p9 _=H9
   obtain ⟨x9,s9,o9⟩:=new_of e9 n9
   clear e9
   refine ⟨_,_,.str _,.tup (SqT.of s9) (.cons (.str _) (.cons (.str _) .nil)),(by kernel_rfl),can_bc,(Nat.le_trans (Nat.min_le_right _ _) (show 0≤150 from by decide)),_,rfl,itF (by kernel_rfl) ?_⟩
   intro p o hp
   have hp0:H p=none:=by
    cases z:H p with
    | none=>rfl
    | some u=>rw [x9 _ _ z] at hp;cases hp
   generalize e0:upd _ p _=H0
   obtain ⟨x0,s0,o0⟩:=new_of e0 hp
   clear e0
   refine ⟨_,rfl,sz (by simp),?_⟩
   intro p1 n1
   generalize e1:upd _ p1 _=H1
   obtain ⟨x1,s1,o1⟩:=new_of e1 n1
   clear e1
   refine ⟨sz (by simp),?_⟩
   intro p2 n2
   generalize e2:upd _ p2 _=H2
   obtain ⟨x2,s2,o2⟩:=new_of e2 n2
   clear e2
   have kt:FcW.KeysT K H2 [(wk .rai,p1,.ref p2)]:=fun x hx=>by
    obtain rfl:=List.mem_singleton.mp hx
    exact SqT.of (x2 _ _ s1)
   exact ⟨x2 _ _ (x1 _ _ s0),_,rfl,by simp,kt,by simp,fun o'=>q _ p (ex_put (Evl.Ex.trans x9 (Evl.Ex.trans x0 (Evl.Ex.trans x1 x2))) hp0) hp0 (wt_disp (x2 _ _ (x1 _ _ s0)) kt (.cons ⟨rfl,p2,rfl,s2,ex_none (xN.trans (x9.trans (x0.trans x1))) n2⟩ .nil))⟩
  | brk k =>
   refine ⟨_,rfl,rfl,_,rfl,itF (decide_eq_false (show ¬ V.str "break"=V.str "do" from by decide)) ⟨_,rfl,rfl,_,rfl,itF (decide_eq_false (show ¬ V.str "break"=V.str "call" from by decide)) ⟨_,rfl,sz (by simp),?_⟩⟩⟩
   intro p9 n9
   generalize e9:upd _ p9 _=H9
   obtain ⟨x9,s9,o9⟩:=new_of e9 n9
   clear e9
   refine ⟨_,_,.str _,.tup (SqT.of s9) (.cons (.str _) (.cons (.str _) .nil)),(by kernel_rfl),can_bc,(Nat.le_trans (Nat.min_le_right _ _) (show 0≤150 from by decide)),_,rfl,itT (by kernel_rfl) ?_⟩
   obtain rfl:=hlab k (.inl rfl)
   intro p o hp
   have hp0:H p=none:=by
    cases z:H p with
    | none=>rfl
    | some u=>rw [x9 _ _ z] at hp;cases hp
   generalize e0:upd _ p _=H0
   obtain ⟨x0,s0,o0⟩:=new_of e0 hp
   clear e0
   refine ⟨_,rfl,_,rfl,sz (by simp),?_⟩
   intro p1 n1
   generalize e1:upd _ p1 _=H1
   obtain ⟨x1,s1,o1⟩:=new_of e1 n1
   clear e1
   refine ⟨sz (by simp),?_⟩
   intro p2 n2
   generalize e2:upd _ p2 _=H2
   obtain ⟨x2,s2,o2⟩:=new_of e2 n2
   clear e2
   have kt:FcW.KeysT K H2 [(wk (.brk k),p1,.ref p2)]:=fun x hx=>by
    obtain rfl:=List.mem_singleton.mp hx
    exact SqT.of (x2 _ _ s1)
   exact ⟨x2 _ _ (x1 _ _ s0),_,rfl,by simp,kt,by simp,fun o'=>q _ p (ex_put (Evl.Ex.trans x9 (Evl.Ex.trans x0 (Evl.Ex.trans x1 x2))) hp0) hp0 (wt_disp (x2 _ _ (x1 _ _ s0)) kt (.cons ⟨rfl,p2,rfl,s2,ex_none (xN.trans (x9.trans (x0.trans x1))) n2⟩ .nil))⟩
  | cnt k =>
   refine ⟨_,rfl,rfl,_,rfl,itF (decide_eq_false (show ¬ V.str "continue"=V.str "do" from by decide)) ⟨_,rfl,rfl,_,rfl,itF (decide_eq_false (show ¬ V.str "continue"=V.str "call" from by decide)) ⟨_,rfl,sz (by simp),?_⟩⟩⟩
   intro p9 n9
   generalize e9:upd _ p9 _=H9
   obtain ⟨x9,s9,o9⟩:=new_of e9 n9
   clear e9
   refine ⟨_,_,.str _,.tup (SqT.of s9) (.cons (.str _) (.cons (.str _) .nil)),(by kernel_rfl),can_bc,(Nat.le_trans (Nat.min_le_right _ _) (show 0≤150 from by decide)),_,rfl,itT (by kernel_rfl) ?_⟩
   obtain rfl:=hlab k (.inr rfl)
   intro p o hp
   have hp0:H p=none:=by
    cases z:H p with
    | none=>rfl
    | some u=>rw [x9 _ _ z] at hp;cases hp
   generalize e0:upd _ p _=H0
   obtain ⟨x0,s0,o0⟩:=new_of e0 hp
   clear e0
   refine ⟨_,rfl,_,rfl,sz (by simp),?_⟩
   intro p1 n1
   generalize e1:upd _ p1 _=H1
   obtain ⟨x1,s1,o1⟩:=new_of e1 n1
   clear e1
   refine ⟨sz (by simp),?_⟩
   intro p2 n2
   generalize e2:upd _ p2 _=H2
   obtain ⟨x2,s2,o2⟩:=new_of e2 n2
   clear e2
   have kt:FcW.KeysT K H2 [(wk (.cnt k),p1,.ref p2)]:=fun x hx=>by
    obtain rfl:=List.mem_singleton.mp hx
    exact SqT.of (x2 _ _ s1)
   exact ⟨x2 _ _ (x1 _ _ s0),_,rfl,by simp,kt,by simp,fun o'=>q _ p (ex_put (Evl.Ex.trans x9 (Evl.Ex.trans x0 (Evl.Ex.trans x1 x2))) hp0) hp0 (wt_disp (x2 _ _ (x1 _ _ s0)) kt (.cons ⟨rfl,p2,rfl,s2,ex_none (xN.trans (x9.trans (x0.trans x1))) n2⟩ .nil))⟩
  | _=>exact lf.elim
end
end
section
open FcM (Way Node Tab)
theorem ex_exB {d:Addr} {H H1 H2:Hp} (e:Ex H H1) (hd:H d=none) (b:ExB d H1 H2):Ex H H2:=fun c o h=>b c o (ne_of_none h hd) (e c o h)
theorem len_keepAll (f:List Int→List Int):∀ (ps t:Tw),(keepAll t ps f).length≤t.length + ps.length
 | [],t=>by simp [keepAll]
 | p::ps,t=>by
  have h1:=len_keepAll f ps (keepT t p.1 (f p.2))
  have h2:=len_keepT t p.1 (f p.2)
  show (keepAll (keepT t p.1 (f p.2)) ps f).length≤_
  rw [List.length_cons]
  omega
theorem keepAll_snoc (t ps:Tw) (p:Way×List Int) (f:List Int→List Int):keepAll t (ps++[p]) f=keepT (keepAll t ps f) p.1 (f p.2):=by
 unfold keepAll
 rw [List.foldl_append]<;>rfl
def ifN (ps:List Tw):Tw:=((List.range ps.length).zip ps).foldl (fun t q=>keepAll t q.2 (fun x=>(q.1:Int)::x)) []
theorem ifN_take {ps:List Tw} {i:Nat} {p:Tw} (h:ps[i]?=some p):ifN (ps.take (i + 1))=keepAll (ifN (ps.take i)) p (fun x=>(i:Int)::x):=by
 have hi:=(List.getElem?_eq_some_iff.mp h).1
 unfold ifN
 rw [List.take_add_one,h]
 have e1:(List.take i ps++(some p).toList).length=i + 1:=by simp;omega
 have e2:(List.take i ps).length=i:=by simp;omega
 rw [e1,e2,List.range_succ,show (some p).toList=[p] from rfl,List.zip_append (by simp;omega),List.foldl_append]<;>rfl
theorem len_ifN:∀ (ps:List Tw) (i:Nat),i≤ps.length→(ifN (ps.take i)).length≤((ps.take i).map List.length).sum
 | ps,0,_=>by simp [ifN]
 | ps,i + 1,h=>by
  have ih:=len_ifN ps i (by omega)
  have hp:ps[i]?=some (ps[i]'(by omega)):=List.getElem?_eq_getElem _
  rw [ifN_take hp,List.take_add_one,hp]
  have:=len_keepAll (fun x=>(i:Int)::x) (ps[i]'(by omega)) (ifN (ps.take i))
  simp only [Option.toList_some,List.map_append,List.map_cons,List.map_nil,List.sum_append,List.sum_cons,List.sum_nil]
  omega
theorem sum_at:∀ {ps:List Tw} {i:Nat} {p:Tw},ps[i]?=some p→((ps.take i).map List.length).sum + p.length≤(ps.map List.length).sum
 | [],_,_,h=>by simp at h
 | q::ps,0,p,h=>by
  simp at h
  subst h
  simp
 | q::ps,i + 1,p,h=>by
  have:=sum_at (ps:=ps) (i:=i) (p:=p) (by simpa using h)
  simp only [List.take_succ_cons,List.map_cons,List.sum_cons]
  omega
def sp_ifW (P:Program) (w:World) (K:PySem.W.Frag):Sp:=fun vs H Q _=>∃ (N:Hp) (a:Addr) (ds:List Addr) (ps:List Tw),Ex N H∧vs=[.ref a]∧SqL K H a (ds.map V.ref)∧Paired (fun d t=>Wt P w K N H d t) ds ps∧(ps.map List.length).sum≤2000∧(∀ t∈ps,∀ p∈t,p.2.length≤5000) ∧
 ∀ H' d,Ex H H'→H d=none→Wt P w K N H' d (ifN ps)→Q (.ref d) H'
section
variable {P:Program} {w:World} {h:Heap} {K:PySem.W.Frag} {mg:Str→Option Value} {base:Heap}
abbrev N_left_by_if:List Str:=["parts","found","answer","part","way","answers"]
theorem sc_left_by_if:FnScope N_left_by_if ["parts"] (defScope sd_left_by_if):=⟨rfl,rfl,rfl,by decide +kernel,rfl,by decide +kernel,by decide +kernel⟩
theorem ok_left_by_if (T:Tx w h K mg):Ok P w K mg base 3 ("left_by_if",none) ["parts"] (sp_ifW P w K):=by
 obtain ⟨fd,F⟩:=F_left_by_if T
 refine ⟨fd,?_,F.bindsN (fun _ _ _ _ _ _ us hl=>match us,hl with | [_],_=>rfl),F.kp⟩
 obtain ⟨fd_keep_first,G_keep_first,bi_keep_first,kp_keep_first⟩:=ok_keep_first (P:=P) (base:=base) T
 refine F.ok sc_left_by_if (fun vs H Q E h=>?_) (fun cdv A outer s H vs Q E hr h=>?_)
 ·obtain ⟨N,a,ds,ps,xN,rfl,ha,pr,hl,hn,q⟩:=h
  rfl
 ·obtain ⟨N,a,ds,ps,xN,rfl,ha,pr,hl,hn,q⟩:=h
  refine ⟨_,PSs.nox (pss_cons (ps_set (i:=1) sc_left_by_if.nd rfl (Or.inl rfl) FcW.pe_wnew) (pss_cons (ps_for PassesOwn.never rfl (pi_enum rfl (fr_enumerate T) (pa_cons (pv 0) pa_nil)) (pg_tup rfl (pgs_cons (pg_name (i:=2) sc_left_by_if.nd rfl (Or.inl rfl)) (pgs_cons (pg_name (i:=3) sc_left_by_if.nd rfl (Or.inl rfl)) pgs_nil))) (pss_one (ps_for PassesOwn.never rfl (FcW.pi_witems (pv 3)) (pg_tup rfl (pgs_cons (pg_name (i:=4) sc_left_by_if.nd rfl (Or.inl rfl)) (pgs_cons (pg_name (i:=5) sc_left_by_if.nd rfl (Or.inl rfl)) pgs_nil))) (pss_one (ps_expr (pe_call G_keep_first (hr.mono (by decide)) rfl (g_keep_first T) kp_keep_first bi_keep_first .nil passF (pa_cons (pv 1) (pa_cons (pv 4) (pa_cons (pe_op op_cat (pe_lst (pa_cons (pv 2) pa_nil)) (pv 5)) pa_nil))))))))) (pss_one (ps_ret (pv 1))))),?_⟩
  intro d o hd
  generalize e0:upd _ d _=H0
  obtain ⟨x0,s0,o0⟩:=new_of e0 hd
  clear e0
  refine ⟨_,rfl,a,_,rfl,Evl.ex_l x0 ha,for_it (walk_enum (xs:=ds.map V.ref)) (fun i σ' H'=>∃ o2 o3 o4 o5,Ex H H'∧Wt P w K N H' d (ifN (ps.take i))∧σ'=[some (.ref a),some (.ref d),o2,o3,o4,o5]) ?_ ?_ ?_ ?_⟩
  ·exact ⟨_,_,_,_,x0,⟨o,[],⟨s0,fun x hx=>nomatch hx⟩,.nil⟩,rfl⟩
  ·rintro i σ' H' _ ⟨o2,o3,o4,o5,x1,_,rfl⟩
   exact Evl.ex_l x1 ha
  ·rintro i v σ' H1 H2 hi ⟨o2,o3,o4,o5,x1,w1,rfl⟩ ⟨tp,u1,u2,rfl,n2,rfl,z1,z2⟩
   cases z1
   obtain ⟨dp,hdp,rfl⟩:∃ dp,ds[i]?=some dp∧u2=.ref dp:=by
    replace z2:(ds.map V.ref)[i]?=some u2:=z2
    rw [List.getElem?_map] at z2
    obtain ⟨dp,e1,e2⟩:=Option.map_eq_some_iff.mp z2
    exact ⟨dp,e1,e2.symm⟩
   obtain ⟨tb,htb,wd⟩:=paired_get pr hdp
   have e2:Ex H1 (upd H1 tp (.tup [.int (i:Nat),.ref dp])):=exu (Evl.Ex.refl _) n2
   refine ⟨tp,_,rfl,Evl.st_of upd_same,rfl,_,_,rfl,_,_,rfl,rfl,?_⟩
   generalize upd H1 tp (.tup [.int (i:Nat),.ref dp])=H3 at e2
   have x3:=Evl.Ex.trans x1 e2
   obtain ⟨ob,xs,D,R⟩:=wd
   have D3:=wd_ex x3 D
   refine ⟨_,rfl,dp,ob,xs,rfl,D3.1,for_it FcW.walk_witems (fun j σ' H'=>∃ o4 o5,Ex H H'∧Wt P w K N H' d (keepAll (ifN (ps.take i)) (tb.take j) (fun x=>(i:Int)::x))∧σ'=[some (.ref a),some (.ref d),some (.int (i:Nat)),some (.ref dp),o4,o5]) ?_ ?_ ?_ ?_⟩
   ·exact ⟨_,_,x3,wt_ex e2 w1,rfl⟩
   ·rintro j σ' H' _ ⟨o4,o5,y1,_,rfl⟩
    exact y1 _ _ D.1
   ·rintro j v σ' H4 H5 hj ⟨o4,o5,y1,y2,rfl⟩ ⟨tq,u1,u2,rfl,n4,rfl,z1,z2⟩
    obtain ⟨e,he,rfl⟩:=Option.map_eq_some_iff.mp z1
    replace z2:(xs[j]?).map (fun e=>e.2.2)=some u2:=z2
    rw [he] at z2
    cases z2
    obtain ⟨p,hp,k1,al,k2,k3,k4⟩:=paired_get R he
    have e4:Ex H4 (upd H4 tq (.tup [.ref e.2.1,e.2.2])):=exu (Evl.Ex.refl _) n4
    refine ⟨tq,_,rfl,Evl.st_of upd_same,rfl,_,_,rfl,_,_,rfl,rfl,?_⟩
    generalize upd H4 tq (.tup [.ref e.2.1,e.2.2])=H6 at e4
    have x6:=Evl.Ex.trans y1 e4
    refine ⟨_,rfl,_,rfl,_,rfl,sz (by simp),?_⟩
    intro p7 n7
    generalize e7:upd _ p7 _=H7
    obtain ⟨x7,s7,o7⟩:=new_of e7 n7
    clear e7
    have y7:=Evl.Ex.trans x6 x7
    have l5:p.2.length≤5000:=hn tb (List.mem_of_getElem? htb) p (List.mem_of_getElem? hp)
    refine ⟨_,rfl,p7,al,_,_,rfl,k2,s7,y7 _ _ k3,sz (by simp;omega),?_⟩
    intro p8 n8
    generalize e8:upd _ p8 _=H8
    obtain ⟨x8,s8,o8⟩:=new_of e8 n8
    clear e8
    have y8:=Evl.Ex.trans y7 x8
    have w8:=wt_ex (Evl.Ex.trans e4 (Evl.Ex.trans x7 x8)) y2
    have s8':H8 p8=some (.lst ((((i:Int)::p.2)).map V.int)):=s8
    have lt:(keepAll (ifN (ps.take i)) (tb.take j) (fun x=>(i:Int)::x)).length≤2000:=by
     have h1:=len_keepAll (fun x=>(i:Int)::x) (tb.take j) (ifN (ps.take i))
     have h2:=len_ifN ps i (Nat.le_of_lt (List.getElem?_eq_some_iff.mp htb).1)
     have h3:=sum_at htb
     rw [List.length_take] at h1
     omega
    have kq:SqT K H8 e.2.1 ((wk p.1).map kV):=by rw [← k1];exact Evl.ex_t y8 (D.2 e (List.mem_of_getElem? he))
    refine ⟨N,d,e.2.1,p8,_,p.1,_,rfl,ex_none (xN.trans y7) n8,w8,kq,s8',lt,fun H9 b9 w9=>⟨_,_,ex_exB y8 hd b9,?_,rfl⟩⟩
    rw [List.take_add_one,hp]
    show Wt P w K N H9 d (keepAll _ (tb.take j++[p]) _)
    rw [keepAll_snoc]
    exact w9
   ·rintro σ' H' ⟨o4,o5,y1,y2,rfl⟩
    refine ⟨_,_,_,_,y1,?_,rfl⟩
    rw [ifN_take htb]
    rw [Paired.length R,List.take_length] at y2
    exact y2
  ·rintro σ' H' ⟨o2,o3,o4,o5,y1,y2,rfl⟩
   rw [List.length_map,Paired.length pr,List.take_length] at y2
   exact ⟨_,rfl,q _ _ y1 hd y2⟩
end
end
section
open FcM (Way Node Tab)
def sp_whileW (P:Program) (w:World) (K:PySem.W.Frag):Sp:=fun vs H Q _=>∃ (N:Hp) (c:Addr) (tb:Tw),Ex N H∧vs=[.ref c]∧Wt P w K N H c tb∧tb.length≤1500∧(∀ p∈tb,p.2.length≤5000)∧(∀ p∈tb,∀ k,p.1=.brk k∨p.1=.cnt k→1≤k) ∧
 ∀ H' d,Ex H H'→H d=none→Wt P w K N H' d (whileT tb)→Q (.ref d) H'
theorem whileT_take {tb:Tw} {j:Nat} {p:Way×List Int} (h:tb[j]?=some p):whileT (tb.take (j + 1))=whileStep (whileT (tb.take j)) p:=by
 unfold whileT
 rw [List.take_add_one,h,show (some p).toList=[p] from rfl,List.foldl_append]<;>rfl
theorem len_whileT:∀ (tb:Tw) (j:Nat),j≤tb.length→(whileT (tb.take j)).length≤j + 1
 | tb,0,_=>by simp [whileT]
 | tb,j + 1,h=>by
  have ih:=len_whileT tb j (by omega)
  have hp:tb[j]?=some (tb[j]'(by omega)):=List.getElem?_eq_getElem _
  rw [whileT_take hp]
  unfold whileStep
  split
  ·exact Nat.le_trans (len_putT _ _ _) (by omega)
  ·exact Nat.le_trans (len_putT _ _ _) (by omega)
  ·exact Nat.le_trans (len_putT _ _ _) (by omega)
  ·exact Nat.le_trans (len_putT _ _ _) (by omega)
  ·omega
section
variable {P:Program} {w:World} {h:Heap} {K:PySem.W.Frag} {mg:Str→Option Value} {base:Heap}
abbrev N_left_by_while:List Str:=["body","found","way","answers"]
theorem sc_left_by_while:FnScope N_left_by_while ["body"] (defScope sd_left_by_while):=⟨rfl,rfl,rfl,by decide +kernel,rfl,by decide +kernel,by decide +kernel⟩
theorem ok_left_by_while (T:Tx w h K mg):Ok P w K mg base 3 ("left_by_while",none) ["body"] (sp_whileW P w K):=by
 obtain ⟨fd,F⟩:=F_left_by_while T
 refine ⟨fd,?_,F.bindsN (fun _ _ _ _ _ _ us hl=>match us,hl with | [_],_=>rfl),F.kp⟩
 refine F.ok sc_left_by_while (fun vs H Q E h=>?_) (fun cdv A outer s H vs Q E hr h=>?_)
 ·obtain ⟨N,c,tb,xN,rfl,⟨ob,xs,D,R⟩,hl,hn,hk,q⟩:=h
  rfl
 ·obtain ⟨N,c,tb,xN,rfl,⟨ob,xs,D,R⟩,hl,hn,hk,q⟩:=h
  refine ⟨_,PSs.nox (pss_cons (ps_set (i:=1) sc_left_by_while.nd rfl (Or.inl rfl) (FcW.pe_wdisp (Nat.lt_of_succ_lt (hu_of hr)) (pps_cons (pe_glob (v:=.ref (He.ga K "NORMAL_ways")) rfl (g_NORMAL_ways T) rfl) (pe_lst (pa_cons pe_int pa_nil)) pps_nil) (by rfl) (by rfl) (fun z=>by cases z) (by decide))) (pss_cons (ps_for PassesOwn.never rfl (FcW.pi_witems (pv 0)) (pg_tup rfl (pgs_cons (pg_name (i:=2) sc_left_by_while.nd rfl (Or.inl rfl)) (pgs_cons (pg_name (i:=3) sc_left_by_while.nd rfl (Or.inl rfl)) pgs_nil))) (pss_one (ps_if (PW.pt (pw_and (pt_cmpR op_eq (pe_callB call_len_seq rfl (fr_len T) b_len (pa_cons (pv 2) pa_nil)) pe_int (nomark _)) (pw_and1 (pt_cmpR op_gt (pe_ix ix_tup (pv 2) pe_int (fun _ _=>rfl)) pe_int (nomark _))))) (pss_one (ps_asg (pe_op op_cat (pe_lst (pa_cons pe_int pa_nil)) (pv 3)) (pg_sub (pv 1) (pe_tup (pa_cons (pe_ix ix_tup (pv 2) pe_int (fun _ _=>rfl)) (pa_cons (pe_op op_sub (pe_ix ix_tup (pv 2) pe_int (fun _ _=>rfl)) pe_int) pa_nil))) (FcW.set_way (hu_of hr))))) (pss_one (ps_if (pt_cmpR (op_inT hr) (pe_ix ix_tup (pv 2) pe_int (fun _ _=>rfl)) (pe_tup (pa_cons pe_str (pa_cons pe_str pa_nil))) (by rfl)) (pss_one (ps_asg (pe_op op_cat (pe_lst (pa_cons pe_int pa_nil)) (pv 3)) (pg_sub (pv 1) (pv 2) (FcW.set_way (hu_of hr))))) pss_nil))))) (pss_one (ps_ret (pv 1))))),?_⟩
  intro d o hd
  generalize e0:upd _ d _=H0
  obtain ⟨x0,s0,o0⟩:=new_of e0 hd
  clear e0
  refine ⟨sz (by simp),?_⟩
  intro p1 n1
  generalize e1:upd _ p1 _=H1
  obtain ⟨x1,s1,o1⟩:=new_of e1 n1
  clear e1
  have kt:FcW.KeysT K H1 [(wk .nrm,He.ga K "NORMAL_ways",.ref p1)]:=fun x hx=>by
   obtain rfl:=List.mem_singleton.mp hx
   exact t_NORMAL_ways T _
  refine ⟨x1 _ _ s0,_,rfl,by simp,kt,by simp,fun o'=>?_⟩
  have y0:=ex_put (u:=FcW.dW P w d o' [(wk .nrm,He.ga K "NORMAL_ways",.ref p1)]) (Evl.Ex.trans x0 x1) hd
  have w0:=wt_disp (o':=o') (x1 _ _ s0) kt (t:=[(.nrm,[0])]) (.cons ⟨rfl,p1,rfl,s1,ex_none (xN.trans x0) n1⟩ .nil)
  refine ⟨_,rfl,c,ob,xs,rfl,y0 _ _ D.1,for_it FcW.walk_witems (fun j σ' H'=>∃ o2 o3,Ex H H'∧Wt P w K N H' d (whileT (tb.take j))∧σ'=[some (.ref c),some (.ref d),o2,o3]) ?_ ?_ ?_ ?_⟩
  ·exact ⟨_,_,y0,w0,rfl⟩
  ·rintro j σ' H' _ ⟨o2,o3,y1,_,rfl⟩
   exact y1 _ _ D.1
  ·rintro j v σ' H4 H5 hj ⟨o4,o5,y1,y2,rfl⟩ ⟨tq,u1,u2,rfl,n4,rfl,z1,z2⟩
   obtain ⟨e,he,rfl⟩:=Option.map_eq_some_iff.mp z1
   replace z2:(xs[j]?).map (fun e=>e.2.2)=some u2:=z2
   rw [he] at z2
   cases z2
   obtain ⟨p,hp,k1,al,k2,k3,k4⟩:=paired_get R he
   have e4:Ex H4 (upd H4 tq (.tup [.ref e.2.1,e.2.2])):=exu (Evl.Ex.refl _) n4
   refine ⟨tq,_,rfl,Evl.st_of upd_same,rfl,_,_,rfl,_,_,rfl,rfl,?_⟩
   generalize upd H4 tq (.tup [.ref e.2.1,e.2.2])=H6 at e4
   have x6:=Evl.Ex.trans y1 e4
   have w6:=wt_ex e4 y2
   have kq:SqT K H6 e.2.1 ((wk p.1).map kV):=by rw [← k1];exact Evl.ex_t x6 (D.2 e (List.mem_of_getElem? he))
   rw [whileT_take hp]
   have l5:p.2.length≤5000:=hn p (List.mem_of_getElem? hp)
   have lt:(whileT (tb.take j)).length≤2000:=by
    have:=len_whileT tb j (Nat.le_of_lt (List.getElem?_eq_some_iff.mp hp).1)
    have:=(List.getElem?_eq_some_iff.mp hp).1
    omega
   obtain ⟨pw,pa⟩:=p
   replace l5:pa.length≤5000:=l5
   have kk:=hk _ (List.mem_of_getElem? hp)
   cases pw with
   | nrm =>
    refine ⟨_,rfl,e.2.1,_,rfl,.inr kq,rfl,_,rfl,itF (decide_eq_false (show ¬ V.int 1=V.int 2 from by decide)) ?_⟩
    refine ⟨_,rfl,e.2.1,_,_,_,rfl,rfl,kq,atI_nat (j:=0) rfl,sz (by simp),?_⟩
    intro p7 n7
    generalize e7:upd _ p7 _=H7
    obtain ⟨x7,s7,o7⟩:=new_of e7 n7
    clear e7
    refine ⟨_,_,.str _,.tup (SqT.of s7) (.cons (.str _) (.cons (.str _) .nil)),(by kernel_rfl),(by kernel_rfl),(Nat.le_trans (Nat.min_le_right _ _) (show 0≤150 from by decide)),_,rfl,itF (by kernel_rfl) ?_⟩
    exact ⟨_,_,Evl.Ex.trans x6 x7,wt_ex x7 w6,rfl⟩
   | ret =>
    refine ⟨_,rfl,e.2.1,_,rfl,.inr kq,rfl,_,rfl,itF (decide_eq_false (show ¬ V.int 1=V.int 2 from by decide)) ?_⟩
    refine ⟨_,rfl,e.2.1,_,_,_,rfl,rfl,kq,atI_nat (j:=0) rfl,sz (by simp),?_⟩
    intro p7 n7
    generalize e7:upd _ p7 _=H7
    obtain ⟨x7,s7,o7⟩:=new_of e7 n7
    clear e7
    refine ⟨_,_,.str _,.tup (SqT.of s7) (.cons (.str _) (.cons (.str _) .nil)),(by kernel_rfl),(by kernel_rfl),(Nat.le_trans (Nat.min_le_right _ _) (show 0≤150 from by decide)),_,rfl,itT (by kernel_rfl) ?_⟩
    refine ⟨sz (by simp),?_⟩
    intro p8 n8
    generalize e8:upd _ p8 _=H8
    obtain ⟨x8,s8,o8⟩:=new_of e8 n8
    clear e8
    have y8:=Evl.Ex.trans x6 (Evl.Ex.trans x7 x8)
    refine ⟨_,rfl,p8,al,_,_,rfl,k2,s8,y8 _ _ k3,sz (by simp;omega),?_⟩
    intro p9 n9
    generalize e9:upd _ p9 _=H9
    obtain ⟨x9,s9,o9⟩:=new_of e9 n9
    clear e9
    obtain ⟨o9,xs9,D9,R9⟩:=wt_ex (Evl.Ex.trans x7 (Evl.Ex.trans x8 x9)) w6
    have kq9:=Evl.ex_t (Evl.Ex.trans x7 (Evl.Ex.trans x8 x9)) kq
    refine ⟨_,rfl,_,rfl,d,e.2.1,o9,xs9,wk .ret,rfl,rfl,D9,kq9,(by have:=Paired.length R9;rw [sizeLine_eq];omega),fun o'=>?_⟩
    obtain ⟨v1,v2⟩:=wt_put (o':=o') (v:=.ret) (ans:=1::pa) D9 R9 kq9 s9 (ex_none (xN.trans y8) n9)
    exact ⟨_,_,ex_exB (Evl.Ex.trans y8 x9) hd v2,v1,rfl⟩
   | rai =>
    refine ⟨_,rfl,e.2.1,_,rfl,.inr kq,rfl,_,rfl,itF (decide_eq_false (show ¬ V.int 1=V.int 2 from by decide)) ?_⟩
    refine ⟨_,rfl,e.2.1,_,_,_,rfl,rfl,kq,atI_nat (j:=0) rfl,sz (by simp),?_⟩
    intro p7 n7
    generalize e7:upd _ p7 _=H7
    obtain ⟨x7,s7,o7⟩:=new_of e7 n7
    clear e7
    refine ⟨_,_,.str _,.tup (SqT.of s7) (.cons (.str _) (.cons (.str _) .nil)),(by kernel_rfl),(by kernel_rfl),(Nat.le_trans (Nat.min_le_right _ _) (show 0≤150 from by decide)),_,rfl,itT (by kernel_rfl) ?_⟩
    refine ⟨sz (by simp),?_⟩
    intro p8 n8
    generalize e8:upd _ p8 _=H8
    obtain ⟨x8,s8,o8⟩:=new_of e8 n8
    clear e8
    have y8:=Evl.Ex.trans x6 (Evl.Ex.trans x7 x8)
    refine ⟨_,rfl,p8,al,_,_,rfl,k2,s8,y8 _ _ k3,sz (by simp;omega),?_⟩
    intro p9 n9
    generalize e9:upd _ p9 _=H9
    obtain ⟨x9,s9,o9⟩:=new_of e9 n9
    clear e9
    obtain ⟨o9,xs9,D9,R9⟩:=wt_ex (Evl.Ex.trans x7 (Evl.Ex.trans x8 x9)) w6
    have kq9:=Evl.ex_t (Evl.Ex.trans x7 (Evl.Ex.trans x8 x9)) kq
    refine ⟨_,rfl,_,rfl,d,e.2.1,o9,xs9,wk .rai,rfl,rfl,D9,kq9,(by have:=Paired.length R9;rw [sizeLine_eq];omega),fun o'=>?_⟩
    obtain ⟨v1,v2⟩:=wt_put (o':=o') (v:=.rai) (ans:=1::pa) D9 R9 kq9 s9 (ex_none (xN.trans y8) n9)
    exact ⟨_,_,ex_exB (Evl.Ex.trans y8 x9) hd v2,v1,rfl⟩
   | brk k =>
    have k1':1≤k:=kk k (.inl rfl)
    refine ⟨_,rfl,e.2.1,_,rfl,.inr kq,rfl,_,rfl,itT (decide_eq_true (show V.int 2=V.int 2 from rfl)) ?_⟩
    refine ⟨_,rfl,e.2.1,_,_,_,rfl,rfl,kq,atI_nat (j:=1) rfl,_,_,rfl,rfl,_,rfl,ite_of (fun h1=>?_) (fun h1=>?_)⟩
    ·obtain ⟨m,rfl⟩:∃ m,k=m + 2:=⟨k - 2,by have:=of_decide_eq_true h1;omega⟩
     refine ⟨sz (by simp),?_⟩
     intro p8 n8
     generalize e8:upd _ p8 _=H8
     obtain ⟨x8,s8,o8⟩:=new_of e8 n8
     clear e8
     have y8:=Evl.Ex.trans x6 x8
     refine ⟨_,rfl,p8,al,_,_,rfl,k2,s8,y8 _ _ k3,sz (by simp;omega),?_⟩
     intro p9 n9
     generalize e9:upd _ p9 _=H9
     obtain ⟨x9,s9,o9⟩:=new_of e9 n9
     clear e9
     have z9:=Evl.Ex.trans x8 x9
     have kq9:=Evl.ex_t z9 kq
     refine ⟨_,rfl,_,rfl,e.2.1,_,_,_,rfl,rfl,kq9,atI_nat (j:=0) rfl,_,rfl,e.2.1,_,_,_,rfl,rfl,kq9,atI_nat (j:=1) rfl,_,_,rfl,rfl,sz (by simp),?_⟩
     intro p3 n3
     generalize e3:upd _ p3 _=H3
     obtain ⟨x3,s3,o3⟩:=new_of e3 n3
     clear e3
     have z3:=Evl.Ex.trans z9 x3
     obtain ⟨o9,xs9,D9,R9⟩:=wt_ex z3 w6
     have kq3:SqT K H3 p3 ((wk (.brk (m + 1))).map kV):=by
      refine SqT.of ?_
      rw [s3]
      show some (HO.tup [V.str "break",V.int (((m + 2:Nat):Int) - 1)])=some (HO.tup [V.str "break",V.int ((m + 1:Nat):Int)])
      rw [show ((m + 2:Nat):Int) - 1=((m + 1:Nat):Int) from by omega]
     refine ⟨d,p3,o9,xs9,wk (.brk (m + 1)),rfl,rfl,D9,kq3,(by have:=Paired.length R9;rw [sizeLine_eq];omega),fun o'=>?_⟩
     obtain ⟨v1,v2⟩:=wt_put (o':=o') (v:=.brk (m + 1)) (ans:=1::pa) D9 R9 kq3 (x3 _ _ s9) (ex_none (xN.trans y8) n9)
     exact ⟨_,_,ex_exB (Evl.Ex.trans x6 z3) hd v2,v1,rfl⟩
    ·obtain rfl:k=1:=by have:=of_decide_eq_false h1;omega
     refine ⟨_,rfl,e.2.1,_,_,_,rfl,rfl,kq,atI_nat (j:=0) rfl,sz (by simp),?_⟩
     intro p7 n7
     generalize e7:upd _ p7 _=H7
     obtain ⟨x7,s7,o7⟩:=new_of e7 n7
     clear e7
     refine ⟨_,_,.str _,.tup (SqT.of s7) (.cons (.str _) (.cons (.str _) .nil)),(by kernel_rfl),(by kernel_rfl),(Nat.le_trans (Nat.min_le_right _ _) (show 0≤150 from by decide)),_,rfl,itF (by kernel_rfl) ?_⟩
     exact ⟨_,_,Evl.Ex.trans x6 x7,wt_ex x7 w6,rfl⟩
   | cnt k =>
    have k1':1≤k:=kk k (.inr rfl)
    refine ⟨_,rfl,e.2.1,_,rfl,.inr kq,rfl,_,rfl,itT (decide_eq_true (show V.int 2=V.int 2 from rfl)) ?_⟩
    refine ⟨_,rfl,e.2.1,_,_,_,rfl,rfl,kq,atI_nat (j:=1) rfl,_,_,rfl,rfl,_,rfl,ite_of (fun h1=>?_) (fun h1=>?_)⟩
    ·obtain ⟨m,rfl⟩:∃ m,k=m + 2:=⟨k - 2,by have:=of_decide_eq_true h1;omega⟩
     refine ⟨sz (by simp),?_⟩
     intro p8 n8
     generalize e8:upd _ p8 _=H8
     obtain ⟨x8,s8,o8⟩:=new_of e8 n8
     clear e8
     have y8:=Evl.Ex.trans x6 x8
     refine ⟨_,rfl,p8,al,_,_,rfl,k2,s8,y8 _ _ k3,sz (by simp;omega),?_⟩
     intro p9 n9
     generalize e9:upd _ p9 _=H9
     obtain ⟨x9,s9,o9⟩:=new_of e9 n9
     clear e9
     have z9:=Evl.Ex.trans x8 x9
     have kq9:=Evl.ex_t z9 kq
     refine ⟨_,rfl,_,rfl,e.2.1,_,_,_,rfl,rfl,kq9,atI_nat (j:=0) rfl,_,rfl,e.2.1,_,_,_,rfl,rfl,kq9,atI_nat (j:=1) rfl,_,_,rfl,rfl,sz (by simp),?_⟩
     intro p3 n3
     generalize e3:upd _ p3 _=H3
     obtain ⟨x3,s3,o3⟩:=new_of e3 n3
     clear e3
     have z3:=Evl.Ex.trans z9 x3
     obtain ⟨o9,xs9,D9,R9⟩:=wt_ex z3 w6
     have kq3:SqT K H3 p3 ((wk (.cnt (m + 1))).map kV):=by
      refine SqT.of ?_
      rw [s3]
      show some (HO.tup [V.str "continue",V.int (((m + 2:Nat):Int) - 1)])=some (HO.tup [V.str "continue",V.int ((m + 1:Nat):Int)])
      rw [show ((m + 2:Nat):Int) - 1=((m + 1:Nat):Int) from by omega]
     refine ⟨d,p3,o9,xs9,wk (.cnt (m + 1)),rfl,rfl,D9,kq3,(by have:=Paired.length R9;rw [sizeLine_eq];omega),fun o'=>?_⟩
     obtain ⟨v1,v2⟩:=wt_put (o':=o') (v:=.cnt (m + 1)) (ans:=1::pa) D9 R9 kq3 (x3 _ _ s9) (ex_none (xN.trans y8) n9)
     exact ⟨_,_,ex_exB (Evl.Ex.trans x6 z3) hd v2,v1,rfl⟩
    ·obtain rfl:k=1:=by have:=of_decide_eq_false h1;omega
     refine ⟨_,rfl,e.2.1,_,_,_,rfl,rfl,kq,atI_nat (j:=0) rfl,sz (by simp),?_⟩
     intro p7 n7
     generalize e7:upd _ p7 _=H7
     obtain ⟨x7,s7,o7⟩:=new_of e7 n7
     clear e7
     refine ⟨_,_,.str _,.tup (SqT.of s7) (.cons (.str _) (.cons (.str _) .nil)),(by kernel_rfl),(by kernel_rfl),(Nat.le_trans (Nat.min_le_right _ _) (show 0≤150 from by decide)),_,rfl,itF (by kernel_rfl) ?_⟩
     exact ⟨_,_,Evl.Ex.trans x6 x7,wt_ex x7 w6,rfl⟩
  ·rintro σ' H' ⟨o2,o3,y1,y2,rfl⟩
   rw [Paired.length R,List.take_length] at y2
   exact ⟨_,rfl,q _ _ y1 hd y2⟩
end
end
section
open FcM (Way Node Tab)
theorem nrm_dpW {w:World} {h:Heap} {K:PySem.W.Frag} {mg:Str→Option Value} (T:Tx w h K mg) (F:Hp):Dp K F (.ref (He.ga K "NORMAL_ways")) (FcW.keyD (wk .nrm)):=.tup (t_NORMAL_ways T F) (.cons (.str _) .nil)
theorem rai_dpW {w:World} {h:Heap} {K:PySem.W.Frag} {mg:Str→Option Value} (T:Tx w h K mg) (F:Hp):Dp K F (.ref (He.ga K "RAISE_ways")) (FcW.keyD (wk .rai)):=.tup (t_RAISE_ways T F) (.cons (.str _) .nil)
theorem eqv_key (a b : Key) : PyData.eqv (FcW.kD a) (FcW.kD b) = decide (a = b) := by
  cases a with
  | inl i => cases b with
    | inl j => by_cases e : i = j
               · subst e; simp [FcW.kD, PyData.eqv]
               · simp [FcW.kD, PyData.eqv, e]
    | inr y => simp [FcW.kD, PyData.eqv]
  | inr x => cases b with
    | inl j => simp [FcW.kD, PyData.eqv]
    | inr y => by_cases e : x = y
               · subst e; simp [FcW.kD, PyData.eqv]
               · simp [FcW.kD, PyData.eqv, e]
theorem eqv_keys:∀ a b:List Key,PyData.eqvAll (a.map FcW.kD) (b.map FcW.kD)=decide (a=b)
 | [],[]=>by simp [PyData.eqvAll]
 | [],_::_=>by simp [PyData.eqvAll]
 | _::_,[]=>by simp [PyData.eqvAll]
 | x::xs,y::ys=>by
  rw [List.map_cons,List.map_cons,PyData.eqvAll,eqv_keys xs ys,eqv_key]
  by_cases e:x=y
  ·subst e;simp
  ·simp [e]
theorem eqv_wk (a b:Way):PyData.eqv (FcW.keyD (wk a)) (FcW.keyD (wk b))=decide (a=b):=by
 show PyData.eqv (.tuple _) (.tuple _)=_
 rw [PyData.eqv,eqv_keys]
 by_cases e:a=b
 ·subst e;simp
 ·rw [decide_eq_false e,decide_eq_false fun z=>e (wk_inj z)]
theorem can_wk (a:Way):PyData.canLay0 (FcW.keyD (wk a))=true:=by
 cases a<;>kernel_rfl
theorem dep_wk (a:Way):(FcW.keyD (wk a)).depth=1:=by simp only [FcW.keyD,PyData.depth,FcW.depth_kD]
theorem filter_take {tb:Tw} {j:Nat} {p:Way×List Int} (q:Way×List Int→Bool) (h:tb[j]?=some p):(tb.take (j + 1)).filter q=(tb.take j).filter q++(if q p=true then [p] else []):=by
 rw [List.take_add_one,h,show (some p).toList=[p] from rfl,List.filter_append]
 congr 1
 by_cases e:q p=true
 ·rw [if_pos e,List.filter_cons_of_pos e]<;>rfl
 ·rw [if_neg e,List.filter_cons_of_neg e]<;>rfl
theorem lkT_mem {t:Tw} {v:Way} {l:List Int} (h:lk t v=some l):∃ p∈t,p.2=l:=by
 obtain ⟨p,h1,h2⟩:=Option.map_eq_some_iff.mp h
 exact ⟨p,List.mem_of_find?_eq_some h1,h2⟩
def sp_tryW (P:Program) (w:World) (K:PySem.W.Frag):Sp:=fun vs H Q _=>∃ (N:Hp) (c e:Addr) (tb th:Tw),Ex N H∧vs=[.ref c,.ref e]∧Wt P w K N H c tb∧Wt P w K N H e th∧tb.length + th.length≤2000∧(∀ p∈tb,p.2.length≤5000)∧(∀ p∈th,p.2.length≤5000) ∧
 ∀ H' d,Ex H H'→H d=none→Wt P w K N H' d (tryT tb th)→Q (.ref d) H'
section
variable {P:Program} {w:World} {h:Heap} {K:PySem.W.Frag} {mg:Str→Option Value} {base:Heap}
abbrev N_left_by_try:List Str:=["body","handler","found","way","answers"]
theorem sc_left_by_try:FnScope N_left_by_try ["body","handler"] (defScope sd_left_by_try):=⟨rfl,rfl,rfl,by decide +kernel,rfl,by decide +kernel,by decide +kernel⟩
theorem ok_left_by_try (T:Tx w h K mg):Ok P w K mg base 3 ("left_by_try",none) ["body","handler"] (sp_tryW P w K):=by
 obtain ⟨fd,F⟩:=F_left_by_try T
 refine ⟨fd,?_,F.bindsN (fun _ _ _ _ _ _ us hl=>match us,hl with | [_,_],_=>rfl),F.kp⟩
 obtain ⟨fd_keep_first,G_keep_first,bi_keep_first,kp_keep_first⟩:=ok_keep_first (P:=P) (base:=base) T
 refine F.ok sc_left_by_try (fun vs H Q E h=>?_) (fun cdv A outer s H vs Q E hr h=>?_)
 ·obtain ⟨N,c,e,tb,th,xN,rfl,⟨oc,xc,Dc,Rc⟩,⟨oe,xe,De,Re⟩,hl,hn,hm,q⟩:=h
  rfl
 ·obtain ⟨N,c,e,tb,th,xN,rfl,⟨oc,xc,Dc,Rc⟩,⟨oe,xe,De,Re⟩,hl,hn,hm,q⟩:=h
  refine ⟨_,PSs.nox (pss_cons (ps_set (i:=2) sc_left_by_try.nd rfl (Or.inl rfl) FcW.pe_wnew) (pss_cons (ps_for PassesOwn.never rfl (FcW.pi_witems (pv 0)) (pg_tup rfl (pgs_cons (pg_name (i:=3) sc_left_by_try.nd rfl (Or.inl rfl)) (pgs_cons (pg_name (i:=4) sc_left_by_try.nd rfl (Or.inl rfl)) pgs_nil))) (pss_one (ps_if (pt_cmpR (op_neM hr) (pv 3) (pe_glob (v:=.ref (He.ga K "RAISE_ways")) rfl (g_RAISE_ways T) rfl) (nomark _)) (pss_one (ps_expr (pe_call G_keep_first (hr.mono (by decide)) rfl (g_keep_first T) kp_keep_first bi_keep_first .nil passF (pa_cons (pv 2) (pa_cons (pv 3) (pa_cons (pv 4) pa_nil)))))) pss_nil))) (pss_cons (ps_if (pt_cmpR (FcW.op_inW (hu_of hr)) (pe_glob (v:=.ref (He.ga K "RAISE_ways")) rfl (g_RAISE_ways T) rfl) (pv 0) (by rfl)) (pss_one (ps_for PassesOwn.never rfl (FcW.pi_witems (pv 1)) (pg_tup rfl (pgs_cons (pg_name (i:=3) sc_left_by_try.nd rfl (Or.inl rfl)) (pgs_cons (pg_name (i:=4) sc_left_by_try.nd rfl (Or.inl rfl)) pgs_nil))) (pss_one (ps_expr (pe_call G_keep_first (hr.mono (by decide)) rfl (g_keep_first T) kp_keep_first bi_keep_first .nil passF (pa_cons (pv 2) (pa_cons (pv 3) (pa_cons (pe_op op_cat (pe_ix (FcW.ix_way (hu_of hr)) (pv 0) (pe_glob (v:=.ref (He.ga K "RAISE_ways")) rfl (g_RAISE_ways T) rfl) (fun _ _=>rfl)) (pv 4)) pa_nil)))))))) pss_nil) (pss_one (ps_ret (pv 2)))))),?_⟩
  intro d o hd
  generalize e0:upd _ d _=H0
  obtain ⟨x0,s0,o0⟩:=new_of e0 hd
  clear e0
  refine ⟨_,rfl,c,oc,xc,rfl,x0 _ _ Dc.1,for_it FcW.walk_witems (fun j σ' H'=>∃ o3 o4,Ex H H'∧Wt P w K N H' d (keepAll [] ((tb.take j).filter fun e=>decide (e.1≠.rai)) id)∧σ'=[some (.ref c),some (.ref e),some (.ref d),o3,o4]) ?_ ?_ ?_ ?_⟩
  ·exact ⟨_,_,x0,⟨o,[],⟨s0,fun x hx=>nomatch hx⟩,.nil⟩,rfl⟩
  ·rintro j σ' H' _ ⟨o3,o4,y1,_,rfl⟩
   exact y1 _ _ Dc.1
  ·rintro j v σ' H4 H5 hj ⟨o3,o4,y1,y2,rfl⟩ ⟨tq,u1,u2,rfl,n4,rfl,z1,z2⟩
   obtain ⟨en,he,rfl⟩:=Option.map_eq_some_iff.mp z1
   replace z2:(xc[j]?).map (fun e=>e.2.2)=some u2:=z2
   rw [he] at z2
   cases z2
   obtain ⟨p,hp,k1,al,k2,k3,k4⟩:=paired_get Rc he
   have e4:Ex H4 (upd H4 tq (.tup [.ref en.2.1,en.2.2])):=exu (Evl.Ex.refl _) n4
   refine ⟨tq,_,rfl,Evl.st_of upd_same,rfl,_,_,rfl,_,_,rfl,rfl,?_⟩
   generalize upd H4 tq (.tup [.ref en.2.1,en.2.2])=H6 at e4
   have x6:=Evl.Ex.trans y1 e4
   have w6:=wt_ex e4 y2
   have kq:SqT K H6 en.2.1 ((wk p.1).map kV):=by rw [← k1];exact Evl.ex_t x6 (Dc.2 en (List.mem_of_getElem? he))
   rw [filter_take _ hp]
   have lt:(keepAll [] ((tb.take j).filter fun e=>decide (e.1≠.rai)) id).length≤2000:=by
    have h1:=len_keepAll id ((tb.take j).filter fun e=>decide (e.1≠.rai)) []
    have h2:=List.length_filter_le (fun e:Way×List Int=>decide (e.1≠.rai)) (tb.take j)
    rw [List.length_take] at h2
    simp only [List.length_nil] at h1
    omega
   refine ⟨_,rfl,_,_,FcW.dp_key kq,rai_dpW T _,can_wk _,can_wk _,(Nat.le_trans (Nat.min_le_left _ _) (by rw [dep_wk];decide)),_,rfl,ite_of (fun h1=>?_) (fun h1=>?_)⟩
   ·have hv:p.1≠.rai:=fun z=>by rw [eqv_wk,z] at h1;simp at h1
    rw [if_pos (decide_eq_true hv)]
    refine ⟨_,rfl,_,rfl,_,rfl,N,d,en.2.1,al,_,p.1,p.2,(by show [V.ref d,V.ref en.2.1,en.2.2]=_;rw [k2]),k4,w6,kq,x6 _ _ k3,lt,fun H9 b9 w9=>⟨_,_,ex_exB x6 hd b9,?_,rfl⟩⟩
    rw [keepAll_snoc]
    exact w9
   ·have hv:p.1=.rai:=by
     rw [eqv_wk] at h1
     exact of_decide_eq_true (by simpa using h1)
    rw [if_neg (by simp [hv]),List.append_nil]
    exact ⟨_,_,x6,w6,rfl⟩
  ·rintro σ' H' ⟨o3,o4,y1,y2,rfl⟩
   rw [Paired.length Rc,List.take_length] at y2
   have D1:=wd_ex y1 Dc
   rcases tbr_val Rc .rai with ⟨hval,e2⟩ | ⟨cc,old,hval,e2,hold⟩
   ·refine ⟨_,rfl,c,He.ga K "RAISE_ways",oc,xc,wk .rai,rfl,rfl,D1,t_RAISE_ways T _,?_⟩
    rw [hval]
    refine ⟨_,rfl,itF rfl ⟨_,rfl,q _ _ y1 hd ?_⟩⟩
    unfold tryT
    rw [e2]
    exact y2
   ·refine ⟨_,rfl,c,He.ga K "RAISE_ways",oc,xc,wk .rai,rfl,rfl,D1,t_RAISE_ways T _,?_⟩
    rw [hval]
    refine ⟨_,rfl,itT rfl ⟨_,rfl,e,oe,xe,rfl,y1 _ _ De.1,for_it FcW.walk_witems (fun j σ' H'=>∃ o3 o4,Ex H H'∧Wt P w K N H' d (keepAll (keepAll [] (tb.filter fun e=>decide (e.1≠.rai)) id) (th.take j) (fun y=>old++y))∧σ'=[some (.ref c),some (.ref e),some (.ref d),o3,o4]) ?_ ?_ ?_ ?_⟩⟩
    ·exact ⟨_,_,y1,y2,rfl⟩
    ·rintro j σ' H' _ ⟨o3,o4,y1,_,rfl⟩
     exact y1 _ _ De.1
    ·rintro j v σ' H4 H5 hj ⟨o3,o4,y1,y2,rfl⟩ ⟨tq,u1,u2,rfl,n4,rfl,z1,z2⟩
     obtain ⟨en,he,rfl⟩:=Option.map_eq_some_iff.mp z1
     replace z2:(xe[j]?).map (fun e=>e.2.2)=some u2:=z2
     rw [he] at z2
     cases z2
     obtain ⟨p,hp,k1,al,k2,k3,k4⟩:=paired_get Re he
     have e4:Ex H4 (upd H4 tq (.tup [.ref en.2.1,en.2.2])):=exu (Evl.Ex.refl _) n4
     refine ⟨tq,_,rfl,Evl.st_of upd_same,rfl,_,_,rfl,_,_,rfl,rfl,?_⟩
     generalize upd H4 tq (.tup [.ref en.2.1,en.2.2])=H6 at e4
     have x6:=Evl.Ex.trans y1 e4
     have l5:p.2.length≤5000:=hm p (List.mem_of_getElem? hp)
     have l6:old.length≤5000:=by
      obtain ⟨z,hz,ez⟩:=lkT_mem e2
      rw [← ez]
      exact hn z hz
     refine ⟨_,rfl,_,rfl,_,rfl,c,He.ga K "RAISE_ways",oc,xc,wk .rai,_,rfl,rfl,wd_ex x6 Dc,t_RAISE_ways T _,hval,_,rfl,cc,al,_,_,rfl,k2,x6 _ _ hold,x6 _ _ k3,sz (by simp;omega),?_⟩
     intro p8 n8
     generalize e8:upd _ p8 _=H8
     obtain ⟨x8,s8,o8⟩:=new_of e8 n8
     clear e8
     have y8:=Evl.Ex.trans x6 x8
     have w8:=wt_ex (Evl.Ex.trans e4 x8) y2
     have s8':H8 p8=some (.lst ((old++p.2).map V.int)):=by rw [s8,List.map_append]
     have lt:(keepAll (keepAll [] (tb.filter fun e=>decide (e.1≠.rai)) id) (th.take j) (fun y=>old++y)).length≤2000:=by
      have h1:=len_keepAll id (tb.filter fun e=>decide (e.1≠.rai)) []
      have h2:=List.length_filter_le (fun e:Way×List Int=>decide (e.1≠.rai)) tb
      have h3:=len_keepAll (fun y=>old++y) (th.take j) (keepAll [] (tb.filter fun e=>decide (e.1≠.rai)) id)
      rw [List.length_take] at h3
      simp only [List.length_nil] at h1
      omega
     have kq:SqT K H8 en.2.1 ((wk p.1).map kV):=by rw [← k1];exact Evl.ex_t y8 (De.2 en (List.mem_of_getElem? he))
     refine ⟨N,d,en.2.1,p8,_,p.1,_,rfl,ex_none (xN.trans x6) n8,w8,kq,s8',lt,fun H9 b9 w9=>⟨_,_,ex_exB y8 hd b9,?_,rfl⟩⟩
     rw [List.take_add_one,hp]
     show Wt P w K N H9 d (keepAll _ (th.take j++[p]) _)
     rw [keepAll_snoc]
     exact w9
    ·rintro σ' H' ⟨o3,o4,y1,y2,rfl⟩
     rw [Paired.length Re,List.take_length] at y2
     refine ⟨_,rfl,q _ _ y1 hd ?_⟩
     unfold tryT
     rw [e2]
     exact y2
end
end
section
open FcM (Way Node Tab)
theorem shortF:∀ (t:Tw) (b:Option (List Int)),b.isSome=true∨t≠[]→∃ l,t.foldl (fun b p=>match b with | none=>some p.2 | some y=>if befL p.2 y=true then some p.2 else some y) b=some l∧(b=some l∨∃ p∈t,p.2=l)
 | [],b,h=>by
  rcases h with h | h
  ·obtain ⟨l,e⟩:=Option.isSome_iff_exists.mp h
   exact ⟨l,e,.inl e⟩
  ·exact absurd rfl h
 | p::t,b,_=>by
  have key:∃ l',(match b with | none=>some p.2 | some y=>if befL p.2 y=true then some p.2 else some y)=some l'∧(b=some l'∨p.2=l'):=by
   cases b with
   | none=>exact ⟨_,rfl,.inr rfl⟩
   | some y =>
    by_cases e:befL p.2 y=true
    ·exact ⟨p.2,if_pos e,.inr rfl⟩
    ·exact ⟨y,if_neg e,.inl rfl⟩
  obtain ⟨l',e1,e2⟩:=key
  rw [List.foldl_cons,e1]
  obtain ⟨l,e3,e4⟩:=shortF t (some l') (.inl rfl)
  refine ⟨l,e3,?_⟩
  rcases e4 with e4 | ⟨q,hq,eq⟩
  ·cases e4
   rcases e2 with e2 | e2
   ·exact .inl e2
   ·exact .inr ⟨p,List.mem_cons_self,e2⟩
  ·exact .inr ⟨q,List.mem_cons_of_mem _ hq,eq⟩
theorem shortT_some {t:Tw} (h:t≠[]):∃ l,shortT t=some l∧∃ p∈t,p.2=l:=by
 obtain ⟨l,e1,e2⟩:=shortF t none (.inr h)
 rcases e2 with e2 | e2
 ·exact nomatch e2
 ·exact ⟨l,e1,e2⟩
def sp_finW (P:Program) (w:World) (K:PySem.W.Frag):Sp:=fun vs H Q _=>∃ (N:Hp) (c e:Addr) (tb th:Tw),Ex N H∧vs=[.ref c,.ref e]∧Wt P w K N H c tb∧Wt P w K N H e th∧tb≠[]∧tb.length + th.length≤2000∧(∀ p∈tb,p.2.length≤5000)∧(∀ p∈th,p.2.length≤5000) ∧
 ∀ H' d,Ex H H'→H d=none→Wt P w K N H' d (finT tb th)→Q (.ref d) H'
section
variable {P:Program} {w:World} {h:Heap} {K:PySem.W.Frag} {mg:Str→Option Value} {base:Heap}
abbrev N_left_by_final:List Str:=["body","block","found","way","answers","begun"]
theorem sc_left_by_final:FnScope N_left_by_final ["body","block"] (defScope sd_left_by_final):=⟨rfl,rfl,rfl,by decide +kernel,rfl,by decide +kernel,by decide +kernel⟩
theorem ok_left_by_final (T:Tx w h K mg):Ok P w K mg base 3 ("left_by_final",none) ["body","block"] (sp_finW P w K):=by
 obtain ⟨fd,F⟩:=F_left_by_final T
 refine ⟨fd,?_,F.bindsN (fun _ _ _ _ _ _ us hl=>match us,hl with | [_,_],_=>rfl),F.kp⟩
 obtain ⟨fd_first_shortest,G_first_shortest,bi_first_shortest,kp_first_shortest⟩:=ok_first_shortest (P:=P) (base:=base) T
 obtain ⟨fd_keep_first,G_keep_first,bi_keep_first,kp_keep_first⟩:=ok_keep_first (P:=P) (base:=base) T
 refine F.ok sc_left_by_final (fun vs H Q E h=>?_) (fun cdv A outer s H vs Q E hr h=>?_)
 ·obtain ⟨N,c,e,tb,th,xN,rfl,⟨oc,xc,Dc,Rc⟩,⟨oe,xe,De,Re⟩,hne,hl,hn,hm,q⟩:=h
  rfl
 ·obtain ⟨N,c,e,tb,th,xN,rfl,⟨oc,xc,Dc,Rc⟩,⟨oe,xe,De,Re⟩,hne,hl,hn,hm,q⟩:=h
  refine ⟨_,PSs.nox (pss_cons (ps_set (i:=2) sc_left_by_final.nd rfl (Or.inl rfl) FcW.pe_wnew) (Evl.pss_cut (ps_if (pt_cmpR (FcW.op_inW (hu_of hr)) (pe_glob (v:=.ref (He.ga K "NORMAL_ways")) rfl (g_NORMAL_ways T) rfl) (pv 1) (by rfl)) (pss_one (ps_for PassesOwn.never rfl (FcW.pi_witems (pv 0)) (pg_tup rfl (pgs_cons (pg_name (i:=3) sc_left_by_final.nd rfl (Or.inl rfl)) (pgs_cons (pg_name (i:=4) sc_left_by_final.nd rfl (Or.inl rfl)) pgs_nil))) (pss_one (ps_expr (pe_call G_keep_first (hr.mono (by decide)) rfl (g_keep_first T) kp_keep_first bi_keep_first .nil passF (pa_cons (pv 2) (pa_cons (pv 3) (pa_cons (pe_op op_cat (pv 4) (pe_ix (FcW.ix_way (hu_of hr)) (pv 1) (pe_glob (v:=.ref (He.ga K "NORMAL_ways")) rfl (g_NORMAL_ways T) rfl) (fun _ _=>rfl))) pa_nil)))))))) pss_nil) (pss_cons (ps_set (i:=5) sc_left_by_final.nd rfl (Or.inl rfl) (pe_call G_first_shortest (hr.mono (by decide)) rfl (g_first_shortest T) kp_first_shortest bi_first_shortest .nil passF (pa_cons (pv 0) pa_nil))) (pss_cons (ps_for PassesOwn.never rfl (FcW.pi_witems (pv 1)) (pg_tup rfl (pgs_cons (pg_name (i:=3) sc_left_by_final.nd rfl (Or.inl rfl)) (pgs_cons (pg_name (i:=4) sc_left_by_final.nd rfl (Or.inl rfl)) pgs_nil))) (pss_one (ps_if (pt_cmpR (op_neM hr) (pv 3) (pe_glob (v:=.ref (He.ga K "NORMAL_ways")) rfl (g_NORMAL_ways T) rfl) (nomark _)) (pss_one (ps_expr (pe_call G_keep_first (hr.mono (by decide)) rfl (g_keep_first T) kp_keep_first bi_keep_first .nil passF (pa_cons (pv 2) (pa_cons (pv 3) (pa_cons (pe_op op_cat (pv 5) (pv 4)) pa_nil)))))) pss_nil))) (pss_one (ps_ret (pv 2))))))),?_⟩
  intro d o hd
  generalize e0:upd _ d _=H0
  obtain ⟨x0,s0,o0⟩:=new_of e0 hd
  clear e0
  have t1:∃ t1:Tw,(t1=match lk th .nrm with | none=>[] | some y=>keepAll [] tb (fun x=>x++y)):=⟨_,rfl⟩
  obtain ⟨t1,et⟩:=t1
  refine ⟨fun σ' H'=>∃ o3 o4,Ex H H'∧Wt P w K N H' d t1∧σ'=[some (.ref c),some (.ref e),some (.ref d),o3,o4,none],?_,?_⟩
  ·rcases tbr_val Re .nrm with ⟨hval,e2⟩ | ⟨cc,old,hval,e2,hold⟩
   ·refine ⟨_,rfl,e,He.ga K "NORMAL_ways",oe,xe,wk .nrm,rfl,rfl,wd_ex x0 De,t_NORMAL_ways T _,?_⟩
    rw [hval]
    refine ⟨_,rfl,itF rfl ⟨_,_,x0,?_,rfl⟩⟩
    rw [e2] at et
    rw [et]
    exact ⟨o,[],⟨s0,fun x hx=>nomatch hx⟩,.nil⟩
   ·rw [e2] at et
    replace et:t1=keepAll [] tb (fun x=>x++old):=et
    have l6:old.length≤5000:=by
     obtain ⟨z,hz,ez⟩:=lkT_mem e2
     rw [← ez]
     exact hm z hz
    refine ⟨_,rfl,e,He.ga K "NORMAL_ways",oe,xe,wk .nrm,rfl,rfl,wd_ex x0 De,t_NORMAL_ways T _,?_⟩
    rw [hval]
    refine ⟨_,rfl,itT rfl ⟨_,rfl,c,oc,xc,rfl,x0 _ _ Dc.1,for_it FcW.walk_witems (fun j σ' H'=>∃ o3 o4,Ex H H'∧Wt P w K N H' d (keepAll [] (tb.take j) (fun x=>x++old))∧σ'=[some (.ref c),some (.ref e),some (.ref d),o3,o4,none]) ?_ ?_ ?_ ?_⟩⟩
    ·exact ⟨_,_,x0,⟨o,[],⟨s0,fun x hx=>nomatch hx⟩,.nil⟩,rfl⟩
    ·rintro j σ' H' _ ⟨o3,o4,y1,_,rfl⟩
     exact y1 _ _ Dc.1
    ·rintro j v σ' H4 H5 hj ⟨o3,o4,y1,y2,rfl⟩ ⟨tq,u1,u2,rfl,n4,rfl,z1,z2⟩
     obtain ⟨en,he,rfl⟩:=Option.map_eq_some_iff.mp z1
     replace z2:(xc[j]?).map (fun e=>e.2.2)=some u2:=z2
     rw [he] at z2
     cases z2
     obtain ⟨p,hp,k1,al,k2,k3,k4⟩:=paired_get Rc he
     have e4:Ex H4 (upd H4 tq (.tup [.ref en.2.1,en.2.2])):=exu (Evl.Ex.refl _) n4
     refine ⟨tq,_,rfl,Evl.st_of upd_same,rfl,_,_,rfl,_,_,rfl,rfl,?_⟩
     generalize upd H4 tq (.tup [.ref en.2.1,en.2.2])=H6 at e4
     have x6:=Evl.Ex.trans y1 e4
     have l5:p.2.length≤5000:=hn p (List.mem_of_getElem? hp)
     refine ⟨_,rfl,_,rfl,_,rfl,_,rfl,e,He.ga K "NORMAL_ways",oe,xe,wk .nrm,_,rfl,rfl,wd_ex x6 De,t_NORMAL_ways T _,hval,al,cc,_,_,k2,rfl,x6 _ _ k3,x6 _ _ hold,sz (by simp;omega),?_⟩
     intro p8 n8
     generalize e8:upd _ p8 _=H8
     obtain ⟨x8,s8,o8⟩:=new_of e8 n8
     clear e8
     have y8:=Evl.Ex.trans x6 x8
     have w8:=wt_ex (Evl.Ex.trans e4 x8) y2
     have s8':H8 p8=some (.lst ((p.2++old).map V.int)):=by rw [s8,List.map_append]
     have lt:(keepAll [] (tb.take j) (fun x=>x++old)).length≤2000:=by
      have h3:=len_keepAll (fun x=>x++old) (tb.take j) []
      rw [List.length_take] at h3
      simp only [List.length_nil] at h3
      omega
     have kq:SqT K H8 en.2.1 ((wk p.1).map kV):=by rw [← k1];exact Evl.ex_t y8 (Dc.2 en (List.mem_of_getElem? he))
     refine ⟨N,d,en.2.1,p8,_,p.1,_,rfl,ex_none (xN.trans x6) n8,w8,kq,s8',lt,fun H9 b9 w9=>⟨_,_,ex_exB y8 hd b9,?_,rfl⟩⟩
     rw [List.take_add_one,hp]
     show Wt P w K N H9 d (keepAll _ (tb.take j++[p]) _)
     rw [keepAll_snoc]
     exact w9
    ·rintro σ' H' ⟨o3,o4,y1,y2,rfl⟩
     rw [Paired.length Rc,List.take_length,← et] at y2
     exact ⟨_,_,y1,y2,rfl⟩
  ·rintro σ' H1 ⟨o3,o4,y1,y2,rfl⟩
   obtain ⟨bg,ebg,pb,hpb,epb⟩:=shortT_some hne
   refine ⟨_,rfl,N,c,tb,rfl,wt_ex y1 ⟨oc,xc,Dc,Rc⟩,fun H2 bv x2 hb=>?_⟩
   rw [ebg] at hb
   obtain ⟨ba,rfl,hba⟩:=hb
   have l6:bg.length≤5000:=by rw [← epb];exact hn pb hpb
   have lt1:t1.length≤tb.length:=by
    rw [et]
    split
    ·simp
    ·rename_i y _
     have h3:=len_keepAll (fun x=>x++y) tb []
     simpa using h3
   have yy:=Evl.Ex.trans y1 x2
   refine ⟨_,rfl,e,oe,xe,rfl,yy _ _ De.1,for_it FcW.walk_witems (fun j σ' H'=>∃ o3 o4,Ex H H'∧H' ba=some (.lst (bg.map V.int))∧Wt P w K N H' d (keepAll t1 ((th.take j).filter fun e=>decide (e.1≠.nrm)) (fun y=>bg++y))∧σ'=[some (.ref c),some (.ref e),some (.ref d),o3,o4,some (.ref ba)]) ?_ ?_ ?_ ?_⟩
   ·exact ⟨_,_,yy,hba,wt_ex x2 y2,rfl⟩
   ·rintro j σ' H' _ ⟨o3,o4,y1,_,_,rfl⟩
    exact y1 _ _ De.1
   ·rintro j v σ' H4 H5 hj ⟨o3,o4,y1,y3,y2,rfl⟩ ⟨tq,u1,u2,rfl,n4,rfl,z1,z2⟩
    obtain ⟨en,he,rfl⟩:=Option.map_eq_some_iff.mp z1
    replace z2:(xe[j]?).map (fun e=>e.2.2)=some u2:=z2
    rw [he] at z2
    cases z2
    obtain ⟨p,hp,k1,al,k2,k3,k4⟩:=paired_get Re he
    have e4:Ex H4 (upd H4 tq (.tup [.ref en.2.1,en.2.2])):=exu (Evl.Ex.refl _) n4
    refine ⟨tq,_,rfl,Evl.st_of upd_same,rfl,_,_,rfl,_,_,rfl,rfl,?_⟩
    generalize upd H4 tq (.tup [.ref en.2.1,en.2.2])=H6 at e4
    have x6:=Evl.Ex.trans y1 e4
    have w6:=wt_ex e4 y2
    have kq:SqT K H6 en.2.1 ((wk p.1).map kV):=by rw [← k1];exact Evl.ex_t x6 (De.2 en (List.mem_of_getElem? he))
    have l5:p.2.length≤5000:=hm p (List.mem_of_getElem? hp)
    rw [filter_take _ hp]
    have lt:(keepAll t1 ((th.take j).filter fun e=>decide (e.1≠.nrm)) (fun y=>bg++y)).length≤2000:=by
     have h1:=len_keepAll (fun y=>bg++y) ((th.take j).filter fun e=>decide (e.1≠.nrm)) t1
     have h2:=List.length_filter_le (fun e:Way×List Int=>decide (e.1≠.nrm)) (th.take j)
     rw [List.length_take] at h2
     omega
    refine ⟨_,rfl,_,_,FcW.dp_key kq,nrm_dpW T _,can_wk _,can_wk _,(Nat.le_trans (Nat.min_le_left _ _) (by rw [dep_wk];decide)),_,rfl,ite_of (fun h1=>?_) (fun h1=>?_)⟩
    ·have hv:p.1≠.nrm:=fun z=>by rw [eqv_wk,z] at h1;simp at h1
     rw [if_pos (decide_eq_true hv)]
     refine ⟨_,rfl,_,rfl,_,rfl,_,rfl,ba,al,_,_,rfl,k2,e4 _ _ y3,x6 _ _ k3,sz (by simp;omega),?_⟩
     intro p8 n8
     generalize e8:upd _ p8 _=H8
     obtain ⟨x8,s8,o8⟩:=new_of e8 n8
     clear e8
     have s8':H8 p8=some (.lst ((bg++p.2).map V.int)):=by rw [s8,List.map_append]
     have y8:=Evl.Ex.trans x6 x8
     refine ⟨N,d,en.2.1,p8,_,p.1,_,rfl,ex_none (xN.trans x6) n8,wt_ex x8 w6,Evl.ex_t x8 kq,s8',lt,fun H9 b9 w9=>⟨_,_,ex_exB y8 hd b9,?_,?_,rfl⟩⟩
     ·exact b9 _ _ (fun z=>by
       obtain ⟨o7,xs7,D7,_⟩:=wt_ex x8 w6
       have a1:=x8 _ _ (e4 _ _ y3)
       rw [z,D7.1] at a1
       cases a1) (x8 _ _ (e4 _ _ y3))
     ·rw [keepAll_snoc]
      exact w9
    ·have hv:p.1=.nrm:=by
      rw [eqv_wk] at h1
      exact of_decide_eq_true (by simpa using h1)
     rw [if_neg (by simp [hv]),List.append_nil]
     exact ⟨_,_,x6,e4 _ _ y3,w6,rfl⟩
   ·rintro σ' H' ⟨o3,o4,y1,_,y2,rfl⟩
    rw [Paired.length Re,List.take_length] at y2
    refine ⟨_,rfl,q _ _ y1 hd ?_⟩
    unfold finT
    rw [ebg]
    subst et
    exact y2
end
end
section
open FcM (Way Node Tab)
def sp_seqW (P:Program) (w:World) (K:PySem.W.Frag):Sp:=fun vs H Q _=>∃ (N:Hp) (a:Addr) (ds:List Addr) (ps:List Tw),Ex N H∧vs=[.ref a]∧SqL K H a (ds.map V.ref)∧Paired (fun d t=>Wt P w K N H d t) ds ps∧(ps.map List.length).sum≤2000∧(∀ t∈ps,∀ p∈t,p.2.length≤5000)∧ps.length≤400 ∧
 ∀ H' d,Ex H H'→H d=none→Wt P w K N H' d (seqT ps [] [])→Q (.ref d) H'
section
variable {P:Program} {w:World} {h:Heap} {K:PySem.W.Frag} {mg:Str→Option Value} {base:Heap}
abbrev N_left_by_seq:List Str:=["parts","found","before","part","way","answers"]
theorem sc_left_by_seq:FnScope N_left_by_seq ["parts"] (defScope sd_left_by_seq):=⟨rfl,rfl,rfl,by decide +kernel,rfl,by decide +kernel,by decide +kernel⟩
theorem ok_left_by_seq (T:Tx w h K mg):Ok P w K mg base 3 ("left_by_seq",none) ["parts"] (sp_seqW P w K):=by
 obtain ⟨fd,F⟩:=F_left_by_seq T
 refine ⟨fd,?_,F.bindsN (fun _ _ _ _ _ _ us hl=>match us,hl with | [_],_=>rfl),F.kp⟩
 obtain ⟨fd_keep_first,G_keep_first,bi_keep_first,kp_keep_first⟩:=ok_keep_first (P:=P) (base:=base) T
 refine F.ok sc_left_by_seq (fun vs H Q E h=>?_) (fun cdv A outer s H vs Q E hr h=>?_)
 ·obtain ⟨N,a,ds,ps,xN,rfl,ha,pr,hl,hn,hc,q⟩:=h
  rfl
 ·obtain ⟨N,a,ds,ps,xN,rfl,ha,pr,hl,hn,hc,q⟩:=h
  refine ⟨_,PSs.nox (pss_cons (ps_set (i:=1) sc_left_by_seq.nd rfl (Or.inl rfl) FcW.pe_wnew) (pss_cons (ps_set (i:=2) sc_left_by_seq.nd rfl (Or.inl rfl) (pe_lst pa_nil)) (pss_cons (ps_for PassesOwn.never rfl (pi_list (pv 0)) (pg_name (i:=3) sc_left_by_seq.nd rfl (Or.inl rfl)) (pss_cons (ps_for PassesOwn.never rfl (FcW.pi_witems (pv 3)) (pg_tup rfl (pgs_cons (pg_name (i:=4) sc_left_by_seq.nd rfl (Or.inl rfl)) (pgs_cons (pg_name (i:=5) sc_left_by_seq.nd rfl (Or.inl rfl)) pgs_nil))) (pss_one (ps_if (pt_cmpR (op_neM hr) (pv 4) (pe_glob (v:=.ref (He.ga K "NORMAL_ways")) rfl (g_NORMAL_ways T) rfl) (nomark _)) (pss_one (ps_expr (pe_call G_keep_first (hr.mono (by decide)) rfl (g_keep_first T) kp_keep_first bi_keep_first .nil passF (pa_cons (pv 1) (pa_cons (pv 4) (pa_cons (pe_op op_cat (pv 2) (pv 5)) pa_nil)))))) pss_nil))) (pss_cons (ps_if (pt_cmpR (FcW.op_notinW (hu_of hr)) (pe_glob (v:=.ref (He.ga K "NORMAL_ways")) rfl (g_NORMAL_ways T) rfl) (pv 3) (by rfl)) (pss_one (ps_ret (pv 1))) pss_nil) (pss_one (ps_set (i:=2) sc_left_by_seq.nd rfl (Or.inl rfl) (pe_op op_cat (pv 2) (pe_ix (FcW.ix_way (hu_of hr)) (pv 3) (pe_glob (v:=.ref (He.ga K "NORMAL_ways")) rfl (g_NORMAL_ways T) rfl) (fun _ _=>rfl)))))))) (pss_cons (ps_asg (pv 2) (pg_sub (pv 1) (pe_glob (v:=.ref (He.ga K "NORMAL_ways")) rfl (g_NORMAL_ways T) rfl) (FcW.set_way (hu_of hr)))) (pss_one (ps_ret (pv 1))))))),?_⟩
  intro d o hd
  generalize e0:upd _ d _=H0
  obtain ⟨x0,s0,o0⟩:=new_of e0 hd
  clear e0
  refine ⟨sz (by simp),?_⟩
  intro p1 n1
  generalize e1:upd _ p1 _=H1
  obtain ⟨x1,s1,o1⟩:=new_of e1 n1
  clear e1
  refine ⟨_,rfl,a,rfl,⟨_,Evl.ex_l (Evl.Ex.trans x0 x1) ha⟩,for_it (walk_list (xs:=ds.map V.ref)) (fun i σ' H'=>∃ (o3 o4 o5:Option V) (bf:Addr) (t:Tw) (b:List Int),Ex H H'∧H' bf=some (.lst (b.map V.int))∧Wt P w K N H' d t∧b.length≤5000 * i∧t.length≤((ps.take i).map List.length).sum∧seqT ps [] []=seqT (ps.drop i) t b∧N bf=none∧σ'=[some (.ref a),some (.ref d),some (.ref bf),o3,o4,o5]) ?_ ?_ ?_ ?_⟩
  ·exact ⟨_,_,_,p1,[],[],Evl.Ex.trans x0 x1,s1,wt_ex x1 ⟨o,[],⟨s0,fun x hx=>nomatch hx⟩,.nil⟩,by simp,by simp,by simp,ex_none (xN.trans x0) n1,rfl⟩
  ·rintro i σ' H' _ ⟨o3,o4,o5,bf,t,b,y1,_,_,_,_,_,_,rfl⟩
   exact Evl.ex_l y1 ha
  ·rintro i v σ' H2 H3 hi ⟨o3,o4,o5,bf,t,b,y1,y2,y3,y4,y5,y6,yN,rfl⟩ ⟨rfl,z⟩
   obtain ⟨dp,hdp,rfl⟩:∃ dp,ds[i]?=some dp∧v=.ref dp:=by
    rw [List.getElem?_map] at z
    obtain ⟨dp,e1,e2⟩:=Option.map_eq_some_iff.mp z
    exact ⟨dp,e1,e2.symm⟩
   obtain ⟨tb,htb,ob,xs,D,R⟩:=paired_get pr hdp
   have hil:=(List.getElem?_eq_some_iff.mp htb).1
   have hb2:b.length≤2000000:=by omega
   have hs:=sum_at htb
   have dr:ps.drop i=tb::ps.drop (i + 1):=by
    rw [List.drop_eq_getElem_cons hil]
    congr 1
    exact (List.getElem?_eq_some_iff.mp htb).2
   refine ⟨_,rfl,dp,ob,xs,rfl,y1 _ _ D.1,for_it FcW.walk_witems (fun j σ' H'=>∃ o4 o5,Ex H H'∧H' bf=some (.lst (b.map V.int))∧Wt P w K N H' d (keepAll t ((tb.take j).filter fun e=>decide (e.1≠.nrm)) (fun x=>b++x))∧σ'=[some (.ref a),some (.ref d),some (.ref bf),some (.ref dp),o4,o5]) ?_ ?_ ?_ ?_⟩
   ·exact ⟨_,_,y1,y2,y3,rfl⟩
   ·rintro j σ' H' _ ⟨o3,o4,y1,_,_,rfl⟩
    exact y1 _ _ D.1
   ·rintro j v σ' H4 H5 hj ⟨o3,o4,y1,y3,y2,rfl⟩ ⟨tq,u1,u2,rfl,n4,rfl,z1,z2⟩
    obtain ⟨en,he,rfl⟩:=Option.map_eq_some_iff.mp z1
    replace z2:(xs[j]?).map (fun e=>e.2.2)=some u2:=z2
    rw [he] at z2
    cases z2
    obtain ⟨p,hp,k1,al,k2,k3,k4⟩:=paired_get R he
    have e4:Ex H4 (upd H4 tq (.tup [.ref en.2.1,en.2.2])):=exu (Evl.Ex.refl _) n4
    refine ⟨tq,_,rfl,Evl.st_of upd_same,rfl,_,_,rfl,_,_,rfl,rfl,?_⟩
    generalize upd H4 tq (.tup [.ref en.2.1,en.2.2])=H6 at e4
    have x6:=Evl.Ex.trans y1 e4
    have w6:=wt_ex e4 y2
    have kq:SqT K H6 en.2.1 ((wk p.1).map kV):=by rw [← k1];exact Evl.ex_t x6 (D.2 en (List.mem_of_getElem? he))
    have l5:p.2.length≤5000:=hn tb (List.mem_of_getElem? htb) p (List.mem_of_getElem? hp)
    rw [filter_take _ hp]
    have lt:(keepAll t ((tb.take j).filter fun e=>decide (e.1≠.nrm)) (fun x=>b++x)).length≤2000:=by
     have h1:=len_keepAll (fun x=>b++x) ((tb.take j).filter fun e=>decide (e.1≠.nrm)) t
     have h2:=List.length_filter_le (fun e:Way×List Int=>decide (e.1≠.nrm)) (tb.take j)
     rw [List.length_take] at h2
     omega
    refine ⟨_,rfl,_,_,FcW.dp_key kq,nrm_dpW T _,can_wk _,can_wk _,(Nat.le_trans (Nat.min_le_left _ _) (by rw [dep_wk];decide)),_,rfl,ite_of (fun h1=>?_) (fun h1=>?_)⟩
    ·have hv:p.1≠.nrm:=fun z=>by rw [eqv_wk,z] at h1;simp at h1
     rw [if_pos (decide_eq_true hv)]
     refine ⟨_,rfl,_,rfl,_,rfl,_,rfl,bf,al,_,_,rfl,k2,e4 _ _ y3,x6 _ _ k3,(by rw [List.length_map,List.length_map,sizeLine_eq];omega),?_⟩
     intro p8 n8
     generalize e8:upd _ p8 _=H8
     obtain ⟨x8,s8,o8⟩:=new_of e8 n8
     clear e8
     have s8':H8 p8=some (.lst ((b++p.2).map V.int)):=by rw [s8,List.map_append]
     have y8:=Evl.Ex.trans x6 x8
     refine ⟨N,d,en.2.1,p8,_,p.1,_,rfl,ex_none (xN.trans x6) n8,wt_ex x8 w6,Evl.ex_t x8 kq,s8',lt,fun H9 b9 w9=>⟨_,_,ex_exB y8 hd b9,?_,?_,rfl⟩⟩
     ·exact b9 _ _ (fun z=>by
       obtain ⟨o7,xs7,D7,_⟩:=wt_ex x8 w6
       have a1:=x8 _ _ (e4 _ _ y3)
       rw [z,D7.1] at a1
       cases a1) (x8 _ _ (e4 _ _ y3))
     ·rw [keepAll_snoc]
      exact w9
    ·have hv:p.1=.nrm:=by
      rw [eqv_wk] at h1
      exact of_decide_eq_true (by simpa using h1)
     rw [if_neg (by simp [hv]),List.append_nil]
     exact ⟨_,_,x6,e4 _ _ y3,w6,rfl⟩
   ·rintro σ' H4 ⟨o4,o5,y1,y3,y2,rfl⟩
    rw [Paired.length R,List.take_length] at y2
    rw [dr] at y6
    have lk1:(keepAll t (tb.filter fun e=>decide (e.1≠.nrm)) (fun x=>b++x)).length≤((ps.take (i + 1)).map List.length).sum:=by
     have h1:=len_keepAll (fun x=>b++x) (tb.filter fun e=>decide (e.1≠.nrm)) t
     have h2:=List.length_filter_le (fun e:Way×List Int=>decide (e.1≠.nrm)) tb
     rw [List.take_add_one,htb]
     simp only [Option.toList_some,List.map_append,List.map_cons,List.map_nil,List.sum_append,List.sum_cons,List.sum_nil]
     omega
    have kn:SqT K H4 (He.ga K "NORMAL_ways") ((wk .nrm).map kV):=t_NORMAL_ways T _
    rcases tbr_val R .nrm with ⟨hval,e2⟩ | ⟨cc,old,hval,e2,hold⟩
    ·refine ⟨_,rfl,dp,He.ga K "NORMAL_ways",ob,xs,wk .nrm,rfl,rfl,wd_ex y1 D,kn,?_⟩
     rw [hval]
     refine ⟨_,rfl,itT rfl ⟨_,rfl,q _ _ y1 hd ?_⟩⟩
     rw [y6]
     unfold seqT
     rw [e2]
     exact y2
    ·have l6:old.length≤5000:=by
      obtain ⟨z,hz,ez⟩:=lkT_mem e2
      rw [← ez]
      exact hn tb (List.mem_of_getElem? htb) z hz
     refine ⟨_,rfl,dp,He.ga K "NORMAL_ways",ob,xs,wk .nrm,rfl,rfl,wd_ex y1 D,kn,?_⟩
     rw [hval]
     refine ⟨_,rfl,itF rfl ⟨_,rfl,_,rfl,dp,He.ga K "NORMAL_ways",ob,xs,wk .nrm,_,rfl,rfl,wd_ex y1 D,kn,hval,bf,cc,_,_,rfl,rfl,y3,y1 _ _ hold,(by rw [List.length_map,List.length_map,sizeLine_eq];omega),?_⟩⟩
     intro p8 n8
     generalize e8:upd _ p8 _=H8
     obtain ⟨x8,s8,o8⟩:=new_of e8 n8
     clear e8
     refine ⟨_,_,_,p8,_,b++old,Evl.Ex.trans y1 x8,(by rw [s8,List.map_append]),wt_ex x8 y2,(by rw [List.length_append];omega),lk1,?_,ex_none (xN.trans y1) n8,rfl⟩
     rw [y6]
     conv=>lhs;unfold seqT
     rw [e2]
  ·rintro σ' H' ⟨o3,o4,o5,bf,t,b,y1,y2,y3,y4,y5,y6,yN,rfl⟩
   rw [List.length_map,Paired.length pr,List.drop_length] at y6
   rw [List.length_map,Paired.length pr,List.take_length] at y5
   obtain ⟨o9,xs9,D9,R9⟩:=y3
   have kn:SqT K H' (He.ga K "NORMAL_ways") ((wk .nrm).map kV):=t_NORMAL_ways T _
   refine ⟨_,rfl,_,rfl,d,He.ga K "NORMAL_ways",o9,xs9,wk .nrm,rfl,rfl,D9,kn,(by have:=Paired.length R9;rw [sizeLine_eq];omega),fun o'=>?_⟩
   obtain ⟨v1,v2⟩:=wt_put (o':=o') (v:=.nrm) (ans:=b) D9 R9 kn y2 yN
   exact ⟨_,rfl,q _ _ (ex_exB y1 hd v2) hd (by rw [y6];exact v1)⟩
end
end
section
inductive OkS:Nat→Nat→Nat→Nat→PyData→Prop
 | mk {loops deep blocks:Nat} {d:PyData} (wt:Nat→Nat) (st:isStm d (loops:Int)=true) (hd:deep≤100) (hb:blocks≤25) (ps:∀ i p,(partsD d)[i]?=some p→OkS (loops + wl d) (deep + 1) (blocks + (if kindD d="final"∧i=1 then 1 else 0)) (wt i) p):OkS loops deep blocks (1 + ((List.range (partsD d).length).map wt).sum) d
inductive OkL:List WIt→Nat→Prop
 | nil:OkL [] 0
 | cons {it:WIt} {st:List WIt} {w n:Nat} (h:OkS it.loops it.deep it.blocks w it.d) (r:OkL st n):OkL (it::st) (w + n)
theorem OkL.app {b:List WIt} {y:Nat} (hb:OkL b y):∀ {a:List WIt} {x:Nat},OkL a x→OkL (a++b) (x + y)
 | _,_,.nil=>by rw [Nat.zero_add];exact hb
 | _,_,.cons h r=>by rw [Nat.add_assoc];exact .cons h (OkL.app hb r)
theorem okL_parts {it:WIt} {n:Nat}:∀ (ps:List PyData) (k:Nat) (wt:Nat→Nat),(∀ i p,ps[i]?=some p→OkS (it.loops + wl it.d) (it.deep + 1) (it.blocks + (if kindD it.d="final"∧k + i=1 then 1 else 0)) (wt i) p)→OkL (ps.mapIdx fun i p=>newIt it n (k + i) p) (((List.range ps.length).map wt).sum)
 | [],_,_,_=>.nil
 | p::ps,k,wt,h=>by
  rw [List.mapIdx_cons,List.length_cons,List.range_succ_eq_map,List.map_cons,List.sum_cons,List.map_map]
  refine .cons (h 0 p rfl) ?_
  have z:=okL_parts (it:=it) (n:=n) ps (k + 1) (fun i=>wt (i + 1)) fun i q hq=>by
   have y:=h (i + 1) q (by simpa using hq)
   have e:k + (i + 1)=k + 1 + i:=by omega
   rw [e] at y
   exact y
  have e2:(ps.mapIdx fun i p=>newIt it n (k + (i + 1)) p)=ps.mapIdx fun i p=>newIt it n (k + 1 + i) p:=by
   congr 1
   funext i p
   rw [show k + (i + 1)=k + 1 + i by omega]
  rw [e2]
  exact z
theorem builds_of:∀ (N:Nat) (st:List WIt) (rows:List Row),OkL st N→rows.length + N≤400→∃ fin,Builds N st rows fin∧fin.length=rows.length + N:=by
 intro N
 induction N with
 | zero =>
  intro st rows h _
  have:st=[]:=by
   generalize e:0=z at h
   cases h with
   | nil=>rfl
   | cons h r=>cases h;omega
  subst this
  exact ⟨rows,.done rows,rfl⟩
 | succ N ih =>
  intro st rows h hl
  generalize e:N + 1=z at h
  cases h with
  | nil=>cases e
  | @cons it st w n h r =>
   obtain ⟨d,par,deep,loops,blocks⟩:=it
   dsimp only at h
   cases h with
   | mk wt s1 s2 s3 s4 =>
    have nw:OkL (newIts ⟨d,par,deep,loops,blocks⟩ rows.length) (((List.range (partsD d).length).map wt).sum):=by
     have z:=okL_parts (it:=⟨d,par,deep,loops,blocks⟩) (n:=rows.length) (partsD d) 0 wt fun i p hp=>by
      rw [Nat.zero_add]
      exact s4 i p hp
     have e2:((partsD d).mapIdx fun i p=>newIt ⟨d,par,deep,loops,blocks⟩ rows.length (0 + i) p)=newIts ⟨d,par,deep,loops,blocks⟩ rows.length:=by
      unfold newIts
      congr 1
      funext i p
      rw [Nat.zero_add]
     rw [e2] at z
     exact z
    have eN:((List.range (partsD d).length).map wt).sum + n=N:=by omega
    have nw2:=OkL.app r nw
    rw [eN] at nw2
    obtain ⟨fin,b,l⟩:=ih _ (addRow rows d par) nw2 (by rw [addRow_len];omega)
    have eZ:1 + ((List.range (partsD d).length).map wt).sum + n=N + 1:=by omega
    rw [eZ]
    exact ⟨fin,.step ⟨by omega,s2,s3,s1⟩ b,by rw [l,addRow_len];omega⟩
end
end Fc
set_option maxRecDepth 100000
set_option maxHeartbeats 4000000
namespace FcM
section
variable {t:Tab} {bits:List Bool}
inductive Wg (t:Tab):Nat→Nat→Prop
 | mk {n:Nat} (wt:Nat→Nat) (r:∀ c∈(t.nd n).ch,Wg t (wt c) c):Wg t (1 + ((t.nd n).ch.map wt).sum) n
def Bd (w u:Nat) (v:List Nat) (r:Rs):Prop:=u≤r.2.1∧r.2.2.length≤v.length + w * (r.2.1 - u + 1)
theorem Bd.mono {w w' u:Nat} {v:List Nat} {r:Rs} (h:Bd w u v r) (e:w≤w'):Bd w' u v r:=⟨h.1,Nat.le_trans h.2 (Nat.add_le_add_left (Nat.mul_le_mul_right _ e) _)⟩
theorem Bd.seq {w1 w2 u u1 u2:Nat} {v v1 v2:List Nat} {x y:Wt} (a:Bd w1 u v (x,u1,v1)) (b:Bd w2 u1 v1 (y,u2,v2)):Bd (w1 + w2) u v (y,u2,v2):=by
 obtain ⟨a1,a2⟩:=a
 obtain ⟨b1,b2⟩:=b
 dsimp only at a1 a2 b1 b2
 refine ⟨Nat.le_trans a1 b1,?_⟩
 dsimp only
 have e1:w1 * (u1 - u + 1)≤w1 * (u2 - u + 1):=Nat.mul_le_mul_left _ (by omega)
 have e2:w2 * (u2 - u1 + 1)≤w2 * (u2 - u + 1):=Nat.mul_le_mul_left _ (by omega)
 rw [Nat.add_mul]
 omega
theorem loopF_bd {n w:Nat} {P:Pd} {body:Nat→List Nat→Rs} (hb:∀ u v,Bd w u v (body u v)):∀ f u v,u≤(loopF bits n P body f u v).2.1∧(loopF bits n P body f u v).2.2.length≤v.length + (1 + w) * ((loopF bits n P body f u v).2.1 - u):=by
 intro f
 induction f with
 | zero=>exact fun u v=>⟨Nat.le_refl _,Nat.le_add_right _ _⟩
 | succ f ih =>
  intro u v
  unfold loopF
  split
  ·exact ⟨Nat.le_refl _,Nat.le_add_right _ _⟩
  ·refine ⟨Nat.le_succ _,?_⟩
   simp
  ·have h:=hb (u + 1) (v++[n])
   rcases hr:body (u + 1) (v++[n]) with ⟨x,u',v'⟩
   rw [hr] at h
   obtain ⟨h1,h2⟩:=h
   dsimp only at h1 h2
   have e0:u' - (u + 1) + 1=u' - u:=by omega
   rw [e0,List.length_append] at h2
   simp at h2
   have e1:(1 + w) * (u' - u)=(u' - u) + w * (u' - u):=by rw [Nat.add_mul,Nat.one_mul]
   cases x with
   | inl x =>
    refine ⟨by dsimp only;omega,?_⟩
    dsimp only
    omega
   | inr y =>
    dsimp only
    split
    ·obtain ⟨k1,k2⟩:=ih u' v'
     refine ⟨by omega,?_⟩
     generalize (loopF bits n P body f u' v').2.1=u2 at *
     have e2:u2 - u=(u' - u) + (u2 - u'):=by omega
     rw [e2,Nat.mul_add]
     omega
    ·refine ⟨by dsimp only;omega,?_⟩
     dsimp only
     omega
theorem seqF_bd {go:Nat→Nat→List Nat→Rs} {wt:Nat→Nat}:∀ (cs:List Nat),(∀ c∈cs,∀ u v,Bd (wt c) u v (go c u v))→∀ (r:Rs),Bd ((cs.map wt).sum) r.2.1 r.2.2 (seqF go cs r)
 | [],_,r=>⟨Nat.le_refl _,Nat.le_add_right _ _⟩
 | c::cs,hg,(w,u,v)=>by
  unfold seqF
  split
  ·have h1:=hg c List.mem_cons_self u v
   have h2:=seqF_bd cs (fun c hc=>hg c (List.mem_cons_of_mem _ hc)) (go c u v)
   rcases hr:go c u v with ⟨x,u',v'⟩
   rw [hr] at h1 h2
   rcases hr2:seqF go cs (x,u',v') with ⟨x2,u2,v2⟩
   rw [hr2] at h2
   exact h1.seq h2
  ·exact (seqF_bd cs (fun c hc=>hg c (List.mem_cons_of_mem _ hc)) (w,u,v)).mono (by simp)
theorem goF_bd:∀ h n P u v w,Wg t w n→Bd w u v (goF t bits h n P u v):=by
 intro h
 induction h with
 | zero=>exact fun n P u v w _=>⟨Nat.le_refl _,Nat.le_add_right _ _⟩
 | succ h ih =>
  intro n P u v w hw
  cases hw with
  | mk wt hw =>
  cases hd:t.nd n with
  | whl a =>
   rw [hd] at hw
   have e:goF t bits (h + 1) n P u v=loopF bits n P (goF t bits h a P) (bits.length + 1) u v:=by simp only [goF,hd]
   rw [e]
   obtain ⟨k1,k2⟩:=loopF_bd (bits:=bits) (n:=n) (P:=P) (fun u v=>ih a P u v (wt a) (hw a (List.mem_singleton.mpr rfl))) (bits.length + 1) u v
   refine ⟨k1,Nat.le_trans k2 (Nat.add_le_add_left ?_ _)⟩
   have:((Node.whl a).ch.map wt).sum=wt a:=by simp [Node.ch]
   rw [this]
   exact Nat.mul_le_mul_left _ (Nat.le_succ _)
  | fin a b =>
   rw [hd] at hw
   have ha:=ih a P u v (wt a) (hw a (by simp [Node.ch]))
   have:((Node.fin a b).ch.map wt).sum=wt a + wt b:=by simp [Node.ch]
   rw [this]
   rcases hr:goF t bits h a P u v with ⟨x,u',v'⟩
   rw [hr] at ha
   cases x with
   | inl x =>
    have e:goF t bits (h + 1) n P u v=(.inl x,u',v'):=by simp only [goF,hd,hr]
    rw [e]
    exact ha.mono (by omega)
   | inr y =>
    have e:goF t bits (h + 1) n P u v=finF n y (goF t bits h b (P++[(n,y)]) u' v'):=by simp only [goF,hd,hr]
    rw [e]
    have hb:=ih b (P++[(n,y)]) u' v' (wt b) (hw b (by simp [Node.ch]))
    rcases hr2:goF t bits h b (P++[(n,y)]) u' v' with ⟨x2,u2,v2⟩
    rw [hr2] at hb
    have hab:=ha.seq hb
    cases x2 with
    | inl x2=>exact hab.mono (by omega)
    | inr y2 =>
     show Bd _ _ _ (if y2=.nrm then ((.inr y,u2,v2++[n]):Rs) else (.inr y2,u2,v2))
     by_cases hw:y2=.nrm
     ·rw [if_pos hw]
      obtain ⟨k1,k2⟩:=hab
      dsimp only at k1 k2
      refine ⟨k1,?_⟩
      dsimp only
      rw [List.length_append,Nat.add_mul]
      simp
      omega
     ·rw [if_neg hw]
      exact hab.mono (by omega)
  | call =>
   cases hx:bits[u]? with
   | none =>
    have e:goF t bits (h + 1) n P u v=(.inl (n,P),u,v):=by simp only [goF,hd,hx]
    rw [e]
    exact ⟨Nat.le_refl _,Nat.le_add_right _ _⟩
   | some x =>
    have e:goF t bits (h + 1) n P u v=(.inr (if x then .rai else .nrm),u + 1,v++[n]):=by simp only [goF,hd,hx]
    rw [e]
    refine ⟨Nat.le_succ _,?_⟩
    simp [Node.ch]
  | iff a b =>
   rw [hd] at hw
   cases hx:bits[u]? with
   | none =>
    have e:goF t bits (h + 1) n P u v=(.inl (n,P),u,v):=by simp only [goF,hd,hx]
    rw [e]
    exact ⟨Nat.le_refl _,Nat.le_add_right _ _⟩
   | some x =>
    have e:goF t bits (h + 1) n P u v=goF t bits h (if x then b else a) P (u + 1) (v++[n]):=by simp only [goF,hd,hx]
    rw [e]
    have i:=ih (if x then b else a) P (u + 1) (v++[n]) _ (hw (if x then b else a) (by cases x<;>simp [Node.ch]))
    have e3:wt (if x then b else a)≤wt a + wt b:=by cases x<;>simp
    have:((Node.iff a b).ch.map wt).sum=wt a + wt b:=by simp [Node.ch]
    rw [this]
    obtain ⟨k1,k2⟩:=i.mono e3
    generalize goF t bits h (if x then b else a) P (u + 1) (v++[n])=r at *
    refine ⟨by omega,Nat.le_trans k2 ?_⟩
    rw [List.length_append]
    have e4:(wt a + wt b) * (r.2.1 - (u + 1) + 1)≤(wt a + wt b) * (r.2.1 - u + 1):=Nat.mul_le_mul_left _ (by omega)
    rw [Nat.add_mul 1]
    simp
    omega
  | seq l =>
   rw [hd] at hw
   have e:goF t bits (h + 1) n P u v=seqF (fun c=>goF t bits h c P) l (.inr .nrm,u,v):=by simp only [goF,hd]
   rw [e]
   exact (seqF_bd (go:=fun c=>goF t bits h c P) (wt:=wt) l (fun c hc u v=>ih c P u v (wt c) (hw c hc)) (.inr .nrm,u,v)).mono (by simp [Node.ch])
  | tr a b =>
   rw [hd] at hw
   have ha:=ih a P u v (wt a) (hw a (by simp [Node.ch]))
   have:((Node.tr a b).ch.map wt).sum=wt a + wt b:=by simp [Node.ch]
   rw [this]
   rcases hr:goF t bits h a P u v with ⟨x,u',v'⟩
   rw [hr] at ha
   by_cases hx:x=.inr .rai
   ·subst hx
    have e:goF t bits (h + 1) n P u v=goF t bits h b P u' v':=by simp only [goF,hd,hr]
    rw [e]
    have hb:=ih b P u' v' (wt b) (hw b (by simp [Node.ch]))
    rcases hr2:goF t bits h b P u' v' with ⟨x2,u2,v2⟩
    rw [hr2] at hb
    exact (ha.seq hb).mono (by omega)
   ·have e:goF t bits (h + 1) n P u v=(x,u',v'):=by
     simp only [goF,hd,hr]
     cases x with
     | inl x=>rfl
     | inr w=>cases w<;>first | rfl | exact absurd rfl hx
    rw [e]
    exact ha.mono (by omega)
  | _ =>
   have e:∃ y,goF t bits (h + 1) n P u v=(.inr y,u,v++[n]):=⟨wayN (t.nd n),by simp only [goF,hd]⟩
   obtain ⟨y,e⟩:=e
   rw [e]
   refine ⟨Nat.le_refl _,?_⟩
   simp [Node.ch]
end
end FcM
set_option maxRecDepth 100000
set_option maxHeartbeats 4000000
namespace Fc
open PySem PySem.Spec PyProof.Rows L2 FcR
open Evl (Ex)
section
open FcM (Way Node Tab)
def stepT (nd:Node) (g:Nat→Tw):Tw :=
 match nd with
 | .iff a b=>ifT (g a) (g b)
 | .whl a=>whileT (g a)
 | .seq l=>seqT (l.map g) [] []
 | .tr a b=>tryT (g a) (g b)
 | .fin a b=>finT (g a) (g b)
 | .do_=>leafT .do_
 | .call=>leafT .call
 | .ret=>leafT .ret
 | .rai=>leafT .rai
 | .brk k=>leafT (.brk k)
 | .cnt k=>leafT (.cnt k)
def tbF (t:Tab):Nat→Nat→Tw
 | 0,_=>[]
 | f + 1,n=>stepT (t.nd n) (tbF t f)
def tbN (t:Tab) (n:Nat):Tw:=tbF t t.len n
theorem stepT_congr {nd:Node} {g g':Nat→Tw} (h:∀ c∈nd.ch,g c=g' c):stepT nd g=stepT nd g':=by
 cases nd with
 | iff a b=>show ifT (g a) (g b)=ifT (g' a) (g' b);rw [h a (by simp [Node.ch]),h b (by simp [Node.ch])]
 | whl a=>show whileT (g a)=whileT (g' a);rw [h a (by simp [Node.ch])]
 | seq l=>show seqT (l.map g) [] []=seqT (l.map g') [] [];rw [List.map_congr_left (l:=l) h]
 | tr a b=>show tryT (g a) (g b)=tryT (g' a) (g' b);rw [h a (by simp [Node.ch]),h b (by simp [Node.ch])]
 | fin a b=>show finT (g a) (g b)=finT (g' a) (g' b);rw [h a (by simp [Node.ch]),h b (by simp [Node.ch])]
 | _=>rfl
theorem tbF_eq {t:Tab} {lp:Nat→Nat} (W:t.WF lp):∀ (f f' n:Nat),n<t.len→t.len - n≤f→t.len - n≤f'→tbF t f n=tbF t f' n
 | 0,_,n,h,h1,_=>by omega
 | _,0,n,h,_,h2=>by omega
 | f + 1,f' + 1,n,h,h1,h2=>by
  show stepT _ _=stepT _ _
  refine stepT_congr fun c hc=>?_
  obtain ⟨h3,h4,_⟩:=W.dn n h c hc
  exact tbF_eq W f f' c h4 (by omega) (by omega)
theorem tbN_eq {t:Tab} {lp:Nat→Nat} (W:t.WF lp) {n:Nat} (h:n<t.len):tbN t n=stepT (t.nd n) (tbN t):=by
 show tbF t t.len n=_
 rw [tbF_eq W t.len (t.len + 1) n h (by omega) (by omega)]<;>rfl
theorem mem_putT {t:Tw} {v:Way} {ans:List Int} {p:Way×List Int} (h:p∈putT t v ans):p=(v,ans)∨p∈t:=by
 unfold putT at h
 split at h
 ·obtain ⟨q,hq,e⟩:=List.mem_map.mp h
  by_cases z:q.1=v
  ·rw [if_pos z] at e;rw [← e,z];exact .inl rfl
  ·rw [if_neg z] at e;rw [← e];exact .inr hq
 ·rcases List.mem_append.mp h with h | h
  ·exact .inr h
  ·exact .inl (List.mem_singleton.mp h)
theorem mem_keepT {t:Tw} {v:Way} {ans:List Int} {p:Way×List Int} (h:p∈keepT t v ans):p=(v,ans)∨p∈t:=by
 unfold keepT at h
 split at h
 ·exact mem_putT h
 ·split at h
  ·exact mem_putT h
  ·exact .inr h
theorem mem_keepAll {f:List Int→List Int} {p:Way×List Int}:∀ {ps t:Tw},p∈keepAll t ps f→p∈t∨∃ q∈ps,p=(q.1,f q.2)
 | [],t,h=>.inl h
 | q::ps,t,h=>by
  rcases mem_keepAll (ps:=ps) (t:=keepT t q.1 (f q.2)) h with h | ⟨r,hr,e⟩
  ·rcases mem_keepT h with h | h
   ·exact .inr ⟨q,List.mem_cons_self,h⟩
   ·exact .inl h
  ·exact .inr ⟨r,List.mem_cons_of_mem _ hr,e⟩
theorem putT_ne (t:Tw) (v:Way) (ans:List Int):putT t v ans≠[]:=by
 unfold putT
 split
 ·rename_i h
  cases t with
  | nil=>exact absurd h (by simp [lk])
  | cons p t=>simp
 ·simp
theorem keepT_ne (t:Tw) (v:Way) (ans:List Int):keepT t v ans≠[]:=by
 unfold keepT
 split
 ·exact putT_ne _ _ _
 ·rename_i old h
  split
  ·exact putT_ne _ _ _
  ·intro z;rw [z] at h;exact nomatch h
theorem keepAll_ne (f:List Int→List Int):∀ (ps t:Tw),t≠[]∨ps≠[]→keepAll t ps f≠[]
 | [],t,h=>by
  rcases h with h | h
  ·exact h
  ·exact absurd rfl h
 | q::ps,t,_=>keepAll_ne f ps (keepT t q.1 (f q.2)) (.inl (keepT_ne _ _ _))
theorem mem_whileStep {t:Tw} {q p:Way×List Int} (h:p∈whileStep t q):p∈t∨(p.2=1::q.2∧((∃ k,q.1=.brk (k + 2)∧p.1=.brk (k + 1))∨(∃ k,q.1=.cnt (k + 2)∧p.1=.cnt (k + 1))∨(q.1=.ret∧p.1=.ret)∨(q.1=.rai∧p.1=.rai))):=by
 obtain ⟨v,a⟩:=q
 unfold whileStep at h
 split at h<;>rename_i e<;>try dsimp only at e
 ·rcases mem_putT h with h | h
  ·subst h;exact .inr ⟨rfl,.inl ⟨_,e,rfl⟩⟩
  ·exact .inl h
 ·rcases mem_putT h with h | h
  ·subst h;exact .inr ⟨rfl,.inr (.inl ⟨_,e,rfl⟩)⟩
  ·exact .inl h
 ·rcases mem_putT h with h | h
  ·subst h;exact .inr ⟨rfl,.inr (.inr (.inl ⟨e,rfl⟩))⟩
  ·exact .inl h
 ·rcases mem_putT h with h | h
  ·subst h;exact .inr ⟨rfl,.inr (.inr (.inr ⟨e,rfl⟩))⟩
  ·exact .inl h
 ·exact .inl h
theorem len_whileStep (t:Tw) (q:Way×List Int):(whileStep t q).length≤t.length + 1:=by
 unfold whileStep
 split<;>first | exact len_putT _ _ _ | omega
theorem whileStep_ne {t:Tw} (q:Way×List Int) (h:t≠[]):whileStep t q≠[]:=by
 unfold whileStep
 split<;>first | exact putT_ne _ _ _ | exact h
structure TG (m l:Nat) (t:Tw):Prop where
 ne:t≠[]
 len:t.length≤2 * m
 an:∀ p∈t,p.2.length≤m
 ok:∀ p∈t,FcM.WOk l p.1
theorem tg_if {l x y:Nat} {a b:Tw} (ha:TG x l a) (hb:TG y l b):TG (1 + (x + y)) l (ifT a b):=by
 unfold ifT
 have l1:=len_keepAll (fun x=>0::x) a []
 have l2:=len_keepAll (fun x=>1::x) b (keepAll [] a (fun x=>0::x))
 have l3:=ha.len
 have l4:=hb.len
 simp only [List.length_nil] at l1
 have mm:∀ p∈keepAll (keepAll [] a (fun x=>0::x)) b (fun x=>1::x),(∃ q∈a,p=(q.1,0::q.2))∨∃ q∈b,p=(q.1,1::q.2):=fun p h=>by
  rcases mem_keepAll h with h | h
  ·rcases mem_keepAll h with h | h
   ·exact nomatch h
   ·exact .inl h
  ·exact .inr h
 refine ⟨keepAll_ne _ _ _ (.inr hb.ne),by omega,fun p h=>?_,fun p h=>?_⟩
 ·rcases mm p h with ⟨q,hq,rfl⟩ | ⟨q,hq,rfl⟩
  ·have:=ha.an q hq;simp;omega
  ·have:=hb.an q hq;simp;omega
 ·rcases mm p h with ⟨q,hq,rfl⟩ | ⟨q,hq,rfl⟩
  ·exact ha.ok q hq
  ·exact hb.ok q hq
theorem tg_while {l x:Nat} {a:Tw} (ha:TG x (l + 1) a):TG (1 + x) l (whileT a):=by
 have key:∀ (ps t:Tw),t≠[]→(∀ p∈ps,p∈a)→(∀ p∈t,p.2.length≤1 + x)→(∀ p∈t,FcM.WOk l p.1) →
   ps.foldl whileStep t≠[]∧(ps.foldl whileStep t).length≤t.length + ps.length∧(∀ p∈ps.foldl whileStep t,p.2.length≤1 + x)∧∀ p∈ps.foldl whileStep t,FcM.WOk l p.1:=by
  intro ps
  induction ps with
  | nil=>exact fun t h1 _ h2 h3=>⟨h1,Nat.le_refl _,h2,h3⟩
  | cons q ps ih =>
   intro t h1 h0 h2 h3
   have hq:=h0 q List.mem_cons_self
   have hx:=ha.an q hq
   have hw:=ha.ok q hq
   obtain ⟨i1,i2,i3,i4⟩:=ih (whileStep t q) (whileStep_ne q h1) (fun p hp=>h0 p (List.mem_cons_of_mem _ hp)) (fun p hp=>by
    rcases mem_whileStep hp with hp | ⟨e,_⟩
    ·exact h2 p hp
    ·rw [e,List.length_cons];omega) (fun p hp=>by
    rcases mem_whileStep hp with hp | ⟨_,⟨k,e1,e2⟩ | ⟨k,e1,e2⟩ | ⟨e1,e2⟩ | ⟨e1,e2⟩⟩
    ·exact h3 p hp
    ·rw [e1] at hw;rw [e2];exact ⟨by omega,by have:=hw.2;omega⟩
    ·rw [e1] at hw;rw [e2];exact ⟨by omega,by have:=hw.2;omega⟩
    ·rw [e2];exact True.intro
    ·rw [e2];exact True.intro)
   have:=len_whileStep t q
   refine ⟨i1,?_,i3,i4⟩
   rw [List.foldl_cons,List.length_cons]
   omega
 obtain ⟨k1,k2,k3,k4⟩:=key a [(.nrm,[0])] (by simp) (fun p hp=>hp) (fun p hp=>by rw [List.mem_singleton.mp hp];simp) (fun p hp=>by rw [List.mem_singleton.mp hp];exact True.intro)
 have:=ha.len
 simp only [List.length_cons,List.length_nil] at k2
 exact ⟨k1,by unfold whileT;omega,k3,k4⟩
theorem tg_try {l x y:Nat} {a b:Tw} (ha:TG x l a) (hb:TG y l b):TG (1 + (x + y)) l (tryT a b):=by
 unfold tryT
 have l1:=len_keepAll id (a.filter fun e=>decide (e.1≠.rai)) []
 have l0:=List.length_filter_le (fun e:Way×List Int=>decide (e.1≠.rai)) a
 have l3:=ha.len
 have l4:=hb.len
 simp only [List.length_nil] at l1
 have m1:∀ p∈keepAll [] (a.filter fun e=>decide (e.1≠.rai)) id,p∈a:=fun p h=>by
  rcases mem_keepAll h with h | ⟨q,hq,rfl⟩
  ·exact nomatch h
  ·exact (List.mem_filter.mp hq).1
 dsimp only
 split
 ·rename_i e
  refine ⟨keepAll_ne _ _ _ (.inr fun z=>?_),by omega,fun p h=>by have:=ha.an p (m1 p h);omega,fun p h=>ha.ok p (m1 p h)⟩
  obtain ⟨q,ta,rfl⟩:=List.exists_cons_of_ne_nil ha.ne
  by_cases v:q.1=.rai
  ·rw [lk_pos v] at e;exact nomatch e
  ·rw [List.filter_cons_of_pos (by simp [v])] at z;exact nomatch z
 ·rename_i r e
  have l2:=len_keepAll (fun y=>r++y) b (keepAll [] (a.filter fun e=>decide (e.1≠.rai)) id)
  obtain ⟨z,hz,ez⟩:=lkT_mem e
  have lr:=ha.an z hz
  rw [ez] at lr
  refine ⟨keepAll_ne _ _ _ (.inr hb.ne),by omega,fun p h=>?_,fun p h=>?_⟩
  ·rcases mem_keepAll h with h | ⟨q,hq,rfl⟩
   ·have:=ha.an p (m1 p h);omega
   ·have:=hb.an q hq;simp;omega
  ·rcases mem_keepAll h with h | ⟨q,hq,rfl⟩
   ·exact ha.ok p (m1 p h)
   ·exact hb.ok q hq
theorem tg_fin {l x y:Nat} {a b:Tw} (ha:TG x l a) (hb:TG y l b):TG (1 + (x + y)) l (finT a b):=by
 obtain ⟨s,es,z,hz,ez⟩:=shortT_some ha.ne
 have ls:=ha.an z hz
 rw [ez] at ls
 have l3:=ha.len
 have l4:=hb.len
 have l0:=List.length_filter_le (fun e:Way×List Int=>decide (e.1≠.nrm)) b
 unfold finT
 rw [es]
 dsimp only [Option.getD_some]
 have mb:∀ (t:Tw),(∀ p∈t,p.2.length≤x + y∧FcM.WOk l p.1)→∀ p∈keepAll t (b.filter fun e=>decide (e.1≠.nrm)) (fun y=>s++y),p.2.length≤x + y∧FcM.WOk l p.1:=fun t ht p h=>by
  rcases mem_keepAll h with h | ⟨q,hq,rfl⟩
  ·exact ht p h
  ·have hq:=(List.mem_filter.mp hq).1
   have:=hb.an q hq
   exact ⟨by simp;omega,hb.ok q hq⟩
 split
 ·rename_i e
  have l1:=len_keepAll (fun y=>s++y) (b.filter fun e=>decide (e.1≠.nrm)) []
  simp only [List.length_nil] at l1
  have m:=mb [] (fun p h=>nomatch h)
  refine ⟨keepAll_ne _ _ _ (.inr fun z=>?_),by omega,fun p h=>by have:=(m p h).1;omega,fun p h=>(m p h).2⟩
  obtain ⟨q,tb,rfl⟩:=List.exists_cons_of_ne_nil hb.ne
  by_cases v:q.1=.nrm
  ·rw [lk_pos v] at e;exact nomatch e
  ·rw [List.filter_cons_of_pos (by simp [v])] at z;exact nomatch z
 ·rename_i r e
  have l1:=len_keepAll (fun x=>x++r) a []
  simp only [List.length_nil] at l1
  have l2:=len_keepAll (fun y=>s++y) (b.filter fun e=>decide (e.1≠.nrm)) (keepAll [] a (fun x=>x++r))
  obtain ⟨z',hz',ez'⟩:=lkT_mem e
  have lr:=hb.an z' hz'
  rw [ez'] at lr
  have m:=mb (keepAll [] a (fun x=>x++r)) (fun p h=>by
   rcases mem_keepAll h with h | ⟨q,hq,rfl⟩
   ·exact nomatch h
   ·have:=ha.an q hq
    exact ⟨by simp;omega,ha.ok q hq⟩)
  exact ⟨keepAll_ne _ _ _ (.inl (keepAll_ne _ _ _ (.inr ha.ne))),by omega,fun p h=>by have:=(m p h).1;omega,fun p h=>(m p h).2⟩
theorem tg_seq {l:Nat} (wt:Nat→Nat) (g:Nat→Tw):∀ (cs:List Nat) (t:Tw) (bf:List Int) (s:Nat),(∀ c∈cs,TG (wt c) l (g c))→t.length≤2 * s→bf.length≤s→(∀ p∈t,p.2.length≤1 + s)→(∀ p∈t,FcM.WOk l p.1)→TG (1 + (s + (cs.map wt).sum)) l (seqT (cs.map g) t bf)
 | [],t,bf,s,_,h1,h2,h3,h4=>by
  have:=len_putT t .nrm bf
  refine ⟨putT_ne _ _ _,by show (putT t .nrm bf).length≤_;simp;omega,fun p hp=>?_,fun p hp=>?_⟩
  ·rcases mem_putT hp with rfl | hp
   ·simp;omega
   ·have:=h3 p hp;simp;omega
  ·rcases mem_putT hp with rfl | hp
   ·exact True.intro
   ·exact h4 p hp
 | c::cs,t,bf,s,h0,h1,h2,h3,h4=>by
  have G:=h0 c List.mem_cons_self
  have l0:=List.length_filter_le (fun e:Way×List Int=>decide (e.1≠.nrm)) (g c)
  have l1:=len_keepAll (fun x=>bf++x) ((g c).filter fun e=>decide (e.1≠.nrm)) t
  have lg:=G.len
  have m:∀ p∈keepAll t ((g c).filter fun e=>decide (e.1≠.nrm)) (fun x=>bf++x),p.2.length≤1 + (s + wt c)∧FcM.WOk l p.1:=fun p hp=>by
   rcases mem_keepAll hp with hp | ⟨q,hq,rfl⟩
   ·have:=h3 p hp;exact ⟨by omega,h4 p hp⟩
   ·have hq:=(List.mem_filter.mp hq).1
    have:=G.an q hq
    exact ⟨by simp;omega,G.ok q hq⟩
  rw [List.map_cons,List.map_cons,List.sum_cons]
  unfold seqT
  dsimp only
  split
  ·rename_i e
   refine ⟨keepAll_ne _ _ _ (.inr fun z=>?_),by omega,fun p hp=>by have:=(m p hp).1;omega,fun p hp=>(m p hp).2⟩
   obtain ⟨q,tb,eq⟩:=List.exists_cons_of_ne_nil G.ne
   rw [eq] at e z
   by_cases v:q.1=.nrm
   ·rw [lk_pos v] at e;exact nomatch e
   ·rw [List.filter_cons_of_pos (by simp [v])] at z;exact nomatch z
  ·rename_i r e
   obtain ⟨z',hz',ez'⟩:=lkT_mem e
   have lr:=G.an z' hz'
   rw [ez'] at lr
   have:=tg_seq wt g cs (keepAll t ((g c).filter fun e=>decide (e.1≠.nrm)) (fun x=>bf++x)) (bf++r) (s + wt c) (fun d hd=>h0 d (List.mem_cons_of_mem _ hd)) (by omega) (by rw [List.length_append];omega) (fun p hp=>(m p hp).1) (fun p hp=>(m p hp).2)
   rw [show 1 + (s + (wt c + (cs.map wt).sum))=1 + (s + wt c + (cs.map wt).sum) from by omega]
   exact this
theorem tg_all {t:Tab} {lp:Nat→Nat} (W:t.WF lp):∀ {m n:Nat},FcM.Wg t m n→n<t.len→TG m (lp n) (tbN t n):=by
 intro m n h
 induction h with
 | @mk n wt r ih =>
  intro hn
  have D:=fun c hc=>W.dn n hn c hc
  rw [tbN_eq W hn]
  have lpq:∀ c∈(t.nd n).ch,(∀ a,t.nd n≠.whl a)→TG (wt c) (lp n) (tbN t c):=fun c hc hw=>by
   obtain ⟨_,d2,_,d4⟩:=D c hc
   have e:lp c=lp n:=by
    rw [d4]
    cases hd:t.nd n with
    | whl a=>exact absurd hd (hw a)
    | _=>rfl
   rw [← e]
   exact ih c hc d2
  cases hd:t.nd n with
  | iff a b =>
   rw [hd] at lpq
   have:=tg_if (lpq a (by simp [Node.ch]) (fun _=>nofun)) (lpq b (by simp [Node.ch]) (fun _=>nofun))
   simpa [Node.ch,stepT] using this
  | whl a =>
   obtain ⟨_,d2,_,d4⟩:=D a (by rw [hd];simp [Node.ch])
   rw [hd] at d4
   have:=ih a (by rw [hd];simp [Node.ch]) d2
   rw [d4] at this
   have:=tg_while this
   simpa [Node.ch,stepT] using this
  | seq l =>
   rw [hd] at lpq
   have:=tg_seq wt (tbN t) l [] [] 0 (fun c hc=>lpq c hc (fun _=>nofun)) (by simp) (by simp) (fun p hp=>nomatch hp) (fun p hp=>nomatch hp)
   simpa [Node.ch,stepT] using this
  | tr a b =>
   rw [hd] at lpq
   have:=tg_try (lpq a (by simp [Node.ch]) (fun _=>nofun)) (lpq b (by simp [Node.ch]) (fun _=>nofun))
   simpa [Node.ch,stepT] using this
  | fin a b =>
   rw [hd] at lpq
   have:=tg_fin (lpq a (by simp [Node.ch]) (fun _=>nofun)) (lpq b (by simp [Node.ch]) (fun _=>nofun))
   simpa [Node.ch,stepT] using this
  | do_=>exact ⟨by simp [stepT,leafT],by simp [stepT,leafT,Node.ch],fun p hp=>by rw [List.mem_singleton.mp hp];simp,fun p hp=>by rw [List.mem_singleton.mp hp];exact True.intro⟩
  | call=>exact ⟨by simp [stepT,leafT],by simp [stepT,leafT,Node.ch],fun p hp=>by
    rcases List.mem_cons.mp hp with rfl | hp
    ·simp
    ·rw [List.mem_singleton.mp hp];simp,fun p hp=>by
    rcases List.mem_cons.mp hp with rfl | hp
    ·exact True.intro
    ·rw [List.mem_singleton.mp hp];exact True.intro⟩
  | ret=>exact ⟨by simp [stepT,leafT],by simp [stepT,leafT,Node.ch],fun p hp=>by rw [List.mem_singleton.mp hp];simp,fun p hp=>by rw [List.mem_singleton.mp hp];exact True.intro⟩
  | rai=>exact ⟨by simp [stepT,leafT],by simp [stepT,leafT,Node.ch],fun p hp=>by rw [List.mem_singleton.mp hp];simp,fun p hp=>by rw [List.mem_singleton.mp hp];exact True.intro⟩
  | brk k=>exact ⟨by simp [stepT,leafT],by simp [stepT,leafT,Node.ch],fun p hp=>by rw [List.mem_singleton.mp hp];simp,fun p hp=>by rw [List.mem_singleton.mp hp];exact W.bk n k hn hd⟩
  | cnt k=>exact ⟨by simp [stepT,leafT],by simp [stepT,leafT,Node.ch],fun p hp=>by rw [List.mem_singleton.mp hp];simp,fun p hp=>by rw [List.mem_singleton.mp hp];exact W.ct n k hn hd⟩
theorem sum_le_of_mem (f:Nat→Nat):∀ {l:List Nat} {c:Nat},c∈l→f c≤(l.map f).sum
 | d::l,c,h=>by
  rw [List.map_cons,List.sum_cons]
  rcases List.mem_cons.mp h with rfl | h
  ·omega
  ·have:=sum_le_of_mem f h;omega
def RT (rows:List Row):Prop:=∀ (n:Nat) (r:Row),rows[n]?=some r→r.par=none→n=0
theorem rt_all {m:Nat} {st:List WIt} {rows fin:List Row} (h:Builds m st rows fin):∀ {ls:List Nat},BI st rows ls→RT rows→RT fin:=by
 induction h with
 | done rows=>exact fun _ h=>h
 | @step m it st rows fin ok _ ih =>
  intro ls b h
  refine ih (b.step ok) fun n r hr hp=>?_
  rcases addRow_get hr with ⟨e1,e2⟩ | ⟨r0,h1,_,h3,_⟩
  ·rw [e2] at hp
   rw [e1,((b.it it List.mem_cons_self).1 hp).1]
   rfl
  ·exact h n r0 h1 (by rw [← h3];exact hp)
theorem wg_at {rows:List Row} {lp:Nat→Nat} (W:TW rows lp) (R:RT rows) {m:Nat} (h0:FcM.Wg (tabOf rows) m 0):∀ (k n:Nat),n<k→n<rows.length→∃ x,x≤m∧FcM.Wg (tabOf rows) x n
 | 0,n,h,_=>by omega
 | k + 1,n,h,hn=>by
  obtain ⟨r,hr⟩:=row_at hn
  cases hp:r.par with
  | none =>
   rw [R n r hr hp];exact ⟨m,Nat.le_refl _,h0⟩
  | some p =>
   obtain ⟨h1,h2,h3⟩:=W.pu n r p hr hp
   obtain ⟨x,hx,g⟩:=wg_at W R h0 k p (by omega) h2
   cases g with
   | mk wt g =>
    have:=sum_le_of_mem wt h3
    exact ⟨wt n,by omega,g n h3⟩
def WgA (rows:List Row):Prop:=∀ n,n<rows.length→∃ x,x≤400∧FcM.Wg (tabOf rows) x n
theorem wga_of {rows:List Row} {lp:Nat→Nat} {m:Nat} {d:PyData} {N:Nat} (W:TW rows lp) (bd:Builds N [⟨d,none,1,0,0⟩] [] rows) (h0:FcM.Wg (tabOf rows) m 0) (hm:m≤400):WgA rows:=fun n hn=>by
 obtain ⟨x,hx,g⟩:=wg_at W (rt_all bd (BI.start d) (fun n r h=>by simp at h)) h0 (n + 1) n (Nat.lt_succ_self n) hn
 exact ⟨x,by omega,g⟩
theorem wg_ch {t:Tab} {m n:Nat} (h:FcM.Wg t m n):∃ wt:Nat→Nat,m=1 + ((t.nd n).ch.map wt).sum∧∀ c∈(t.nd n).ch,FcM.Wg t (wt c) c:=by
 cases h with
 | mk wt g=>exact ⟨wt,rfl,g⟩
theorem sum_map_le {f g:Nat→Nat}:∀ {l:List Nat},(∀ c∈l,f c≤g c)→(l.map f).sum≤(l.map g).sum
 | [],_=>Nat.le_refl _
 | c::l,h=>by
  have h1:=h c List.mem_cons_self
  have h2:=sum_map_le (f:=f) (g:=g) (l:=l) fun d hd=>h d (List.mem_cons_of_mem _ hd)
  simp only [List.map_cons,List.sum_cons]
  omega
theorem sum_two (f:Nat→Nat):∀ l:List Nat,(l.map fun c=>2 * f c).sum=2 * (l.map f).sum
 | []=>rfl
 | c::l=>by simp only [List.map_cons,List.sum_cons,sum_two f l];omega
theorem parts_ok {rows:List Row} {lp:Nat→Nat} (W:TW rows lp) (G:WgA rows) {n:Nat} (hn:n<rows.length) :
  ((((tabOf rows).nd n).ch.map (tbN (tabOf rows))).map List.length).sum≤800∧∀ c∈((tabOf rows).nd n).ch,tbN (tabOf rows) c≠[]∧(∀ p∈tbN (tabOf rows) c,p.2.length≤400∧∀ k,p.1=.brk k∨p.1=.cnt k→1≤k):=by
 obtain ⟨x,hx,g⟩:=G n hn
 obtain ⟨wt,e,gc⟩:=wg_ch g
 have T:=fun c hc=>tg_all W.wf (gc c hc) (W.wf.dn n hn c hc).2.1
 refine ⟨?_,fun c hc=>⟨(T c hc).ne,fun p hp=>⟨?_,fun k hk=>?_⟩⟩⟩
 ·rw [List.map_map]
  have:=sum_map_le (f:=List.length ∘ tbN (tabOf rows)) (g:=fun c=>2 * wt c) (l:=((tabOf rows).nd n).ch) fun c hc=>(T c hc).len
  rw [sum_two] at this
  omega
 ·have h1:=(T c hc).an p hp
  have h2:=sum_le_of_mem wt hc
  omega
 ·have:=(T c hc).ok p hp
  rcases hk with hk | hk<;>rw [hk] at this<;>exact this.1
end
section
def sp_len (K:PySem.W.Frag):Sp:=fun vs H Q _=>∃ (F:Hp) (A:CAd) (rows:List Row),vs=[.ref A.p]∧CodeH K F F A rows∧Ex F H∧Q (.int (rows.length:Int)) H
section
variable {P:Program} {w:World} {h:Heap} {K:PySem.W.Frag} {mg:Str→Option Value} {base:Heap}
abbrev N_Code___len__:List Str:=["self"]
theorem sc_Code___len__:FnScope N_Code___len__ ["self"] (defScope sd_Code___len__):=⟨rfl,rfl,rfl,by decide +kernel,rfl,by decide +kernel,by decide +kernel⟩
theorem ok_Code___len__ (T:Tx w h K mg):Ok P w K mg base 1 ("Code",some "__len__") ["self"] (sp_len K):=by
 obtain ⟨fd,F⟩:=F_Code___len__ T
 refine ⟨fd,?_,F.bindsN (fun _ _ _ _ _ _ us hl=>match us,hl with | [_],_=>rfl),F.kp⟩
 refine F.ok sc_Code___len__ (fun vs H Q E h=>?_) (fun cdv A outer s H vs Q E hr h=>?_)
 ·obtain ⟨F,A,rows,rfl,C,xF,q⟩:=h
  rfl
 ·obtain ⟨F,A,rows,rfl,C,xF,q⟩:=h
  refine ⟨_,PSs.nox (pss_one (ps_ret (pe_callB call_len_seq rfl (fr_len T) b_len (pa_cons (pe_fld (pv 0) rfl) pa_nil)))),?_⟩
  obtain ⟨vs,C1,_⟩:=C.ex (Evl.Ex.refl _) xF
  refine ⟨_,rfl,A.p,_,_,_,_,rfl,C1.ob,c_Code T,na_Code_kinds T,fl_Code_kinds _ _ _ _ _,A.a2,_,rfl,.inl (Evl.sq_of C1.h2),?_⟩
  rw [List.length_map]
  exact q
end
end
section
open FcM (Way Node Tab)
structure CK (K:PySem.W.Frag) (F:Hp) (A:CAd) (rows:List Row) (lp:Nat→Nat):Prop where
 c:CodeH K F F A rows
 w:TW rows lp
 l:rows.length≤400
 g:WgA rows
 r:RT rows
theorem CK.at {K:PySem.W.Frag} {F H:Hp} {A:CAd} {rows:List Row} {lp:Nat→Nat} (x:CK K F A rows lp) (e:Ex F H) {n:Nat} {r:Row} (h:rows[n]?=some r) :
  ∃ (vs:List V) (c:Addr),CL K H A vs (rows.map fun r=>V.str (kindD r.d)) (rows.map fun r=>labD r.d) (rows.map fun r=>parV r.par) (rows.map fun r=>intsV r.ch)∧At K H A rows n r c:=by
 obtain ⟨vs,C1,_⟩:=x.c.ex (Evl.Ex.refl _) e
 obtain ⟨c,a⟩:=at_of x.w C1 h
 exact ⟨vs,c,C1,a⟩
abbrev WtA (P:Program) (w:World) (K:PySem.W.Frag) (N H:Hp):List Addr→List Tw→Prop:=Paired (fun d t=>Wt P w K N H d t)
theorem wta_ex {P:Program} {w:World} {K:PySem.W.Frag} {N H H':Hp} {ds:List Addr} {ts:List Tw} (e:Ex H H') (h:WtA P w K N H ds ts):WtA P w K N H' ds ts:=L2.Paired.mapP h fun _ _ z=>wt_ex e z
theorem wta_hp0 {P:Program} {w:World} {K:PySem.W.Frag} {N H:Hp} {ds:List Addr} {ts:List Tw} (h:WtA P w K N H ds ts):WtA P w K hp0 H ds ts:=L2.Paired.mapP h fun _ _ z=>wt_old z fun b o e=>by cases e
def sp_shorts (P:Program) (w:World) (K:PySem.W.Frag):Sp:=fun vs H Q _=>∃ (F:Hp) (A:CAd) (rows:List Row) (lp:Nat→Nat),vs=[.ref A.p]∧CK K F A rows lp∧Ex F H ∧
 ∀ (H':Hp) (a:Addr) (ds:List Addr),Ex H H'→H a=none→H' a=some (.lst (ds.map V.ref))→WtA P w K H H' ds ((List.range rows.length).map (tbN (tabOf rows)))→Q (.ref a) H'
theorem lab_nd {r:Row} {l:Nat} {k:Nat} (h:SV (l:Int) r.d) (e:ndOf r=.brk k∨ndOf r=.cnt k):labD r.d=.int (k:Int):=by
 obtain ⟨d,par,ch⟩:=r
 cases h with
 | brk n h1 h2 =>
  rcases e with e | e
  ·cases e
   show V.int n=V.int (n.toNat:Int)
   rw [show ((n.toNat:Nat):Int)=n from by omega]
  ·cases e
 | cnt n h1 h2 =>
  rcases e with e | e
  ·cases e
  ·cases e
   show V.int n=V.int (n.toNat:Int)
   rw [show ((n.toNat:Nat):Int)=n from by omega]
 | _=>rcases e with e | e<;>cases e
theorem wg_pos {t:Tab} {m n:Nat} (h:FcM.Wg t m n):1≤m:=by cases h;omega
theorem sum_ge (wt:Nat→Nat):∀ l:List Nat,(∀ c∈l,1≤wt c)→l.length≤(l.map wt).sum
 | [],_=>Nat.le_refl _
 | c::l,h=>by
  have h1:=h c List.mem_cons_self
  have h2:=sum_ge wt l fun d hd=>h d (List.mem_cons_of_mem _ hd)
  simp only [List.map_cons,List.sum_cons,List.length_cons]
  omega
theorem wg_len {t:Tab} {m n:Nat} (h:FcM.Wg t m n):(t.nd n).ch.length + 1≤m:=by
 obtain ⟨wt,e,g⟩:=wg_ch h
 have:=sum_ge wt _ fun c hc=>wg_pos (g c hc)
 omega
theorem paired1 {α β:Type} {R:α→β→Prop} {xs:List α} {y:β} {ys:List β} (h:Paired R xs (y::ys)):∃ x xs',xs=x::xs'∧R x y∧Paired R xs' ys:=by
 cases h with
 | cons r h=>exact ⟨_,_,rfl,r,h⟩
theorem rep1 {α:Type} (x:α):∀ n:Nat,(List.replicate n [x]).flatten=List.replicate n x
 | 0=>rfl
 | n + 1=>by rw [List.replicate_succ,List.replicate_succ,List.flatten_cons,rep1 x n]<;>rfl
theorem set_rep {α:Type} (x y:α) (zs:List α):∀ m:Nat,(List.replicate (m + 1) x++zs).set m y=List.replicate m x++y::zs
 | 0=>rfl
 | m + 1=>by
  have:=set_rep x y zs m
  rw [List.replicate_succ,List.cons_append,List.set_cons_succ,this,List.replicate_succ (n:=m)]
  rfl
theorem rep_at {α:Type} (x:α) (zs:List α) {m c:Nat} (h:m≤c):(List.replicate m x++zs)[c]?=zs[c - m]?:=by
 rw [List.getElem?_append_right (by rw [List.length_replicate];exact h),List.length_replicate]
theorem paired_map {α β γ:Type} {R:β→γ→Prop} {g:α→β} {f:α→γ}:∀ {l:List α},(∀ c∈l,R (g c) (f c))→Paired R (l.map g) (l.map f)
 | [],_=>.nil
 | c::l,h=>.cons (h c List.mem_cons_self) (paired_map fun d hd=>h d (List.mem_cons_of_mem _ hd))
theorem wt_lst {P:Program} {w:World} {K:PySem.W.Frag} {N H:Hp} {p d:Addr} {xs ys:List V} {t:Tw} (e:H p=some (.lst xs)) (hx:∃ x∈xs,∀ k,x≠.int k) (D:Wt P w K N H d t):Wt P w K N (upd H p (.lst ys)) d t:=by
 obtain ⟨o,es,⟨D1,D2⟩,R⟩:=D
 refine ⟨o,es,⟨by rw [upd_ne (ne_of D1 e (fun z=>nomatch z))];exact D1,fun x h=>?_⟩,L2.Paired.mapP R fun _ _ z=>?_⟩
 ·rcases D2 x h with h | h
  ·refine .inl ?_
   rcases h with h | ⟨ob,h⟩
   ·exact .inl (by rw [upd_ne (ne_of h e (fun z=>nomatch z))];exact h)
   ·exact .inr ⟨ob,by rw [upd_ne (ne_of h e (fun z=>nomatch z))];exact h⟩
  ·exact .inr h
 ·obtain ⟨z1,a,z2,z3,z4⟩:=z
  refine ⟨z1,a,z2,?_,z4⟩
  have:a≠p:=fun y=>by
   rw [y,e] at z3
   injection z3 with z3
   injection z3 with z3
   obtain ⟨x,h1,h2⟩:=hx
   rw [z3] at h1
   obtain ⟨k,_,h3⟩:=List.mem_map.mp h1
   exact h2 k h3.symm
  rw [upd_ne this]
  exact z3
section
variable {P:Program} {w:World} {h:Heap} {K:PySem.W.Frag} {mg:Str→Option Value} {base:Heap}
abbrev N_shortest_answers:List Str:=["code","found","number","kind","parts","part"]
theorem sc_shortest_answers:FnScope N_shortest_answers ["code"] (defScope sd_shortest_answers):=⟨rfl,rfl,rfl,by decide +kernel,rfl,by decide +kernel,by decide +kernel⟩
theorem ok_shortest_answers (T:Tx w h K mg):Ok P w K mg base 4 ("shortest_answers",none) ["code"] (sp_shorts P w K):=by
 obtain ⟨fd,F⟩:=F_shortest_answers T
 refine ⟨fd,?_,F.bindsN (fun _ _ _ _ _ _ us hl=>match us,hl with | [_],_=>rfl),F.kp⟩
 obtain ⟨fd_left_by_final,G_left_by_final,bi_left_by_final,kp_left_by_final⟩:=ok_left_by_final (P:=P) (base:=base) T
 obtain ⟨fd_left_by_if,G_left_by_if,bi_left_by_if,kp_left_by_if⟩:=ok_left_by_if (P:=P) (base:=base) T
 obtain ⟨fd_left_by_leaf,G_left_by_leaf,bi_left_by_leaf,kp_left_by_leaf⟩:=ok_left_by_leaf (P:=P) (base:=base) T
 obtain ⟨fd_left_by_seq,G_left_by_seq,bi_left_by_seq,kp_left_by_seq⟩:=ok_left_by_seq (P:=P) (base:=base) T
 obtain ⟨fd_left_by_try,G_left_by_try,bi_left_by_try,kp_left_by_try⟩:=ok_left_by_try (P:=P) (base:=base) T
 obtain ⟨fd_left_by_while,G_left_by_while,bi_left_by_while,kp_left_by_while⟩:=ok_left_by_while (P:=P) (base:=base) T
 obtain ⟨fd_Code___len__,G_Code___len__,bi_Code___len__,kp_Code___len__⟩:=ok_Code___len__ (P:=P) (base:=base) T
 refine F.ok sc_shortest_answers (fun vs H Q E h=>?_) (fun cdv A outer s H vs Q E hr h=>?_)
 ·obtain ⟨F,A,rows,lp,rfl,X,xF,q⟩:=h
  rfl
 ·obtain ⟨F,A,rows,lp,rfl,X,xF,q⟩:=h
  refine ⟨_,PSs.nox (pss_cons (ps_set (i:=1) sc_shortest_answers.nd rfl (Or.inr rfl) (pe_op op_rep (pe_lst (pa_cons pe_non pa_nil)) (pe_callB (FcO.call_lenO G_Code___len__ (hr.mono (by decide)) (me_Code___len__ T) bi_Code___len__ passF) rfl (fr_len T) b_len (pa_cons (pv 0) pa_nil)))) (pss_cons (ps_for PassesOwn.never rfl (pi_range3 rfl (fr_range T) (pa_cons (pe_op op_sub (pe_callB (FcO.call_lenO G_Code___len__ (hr.mono (by decide)) (me_Code___len__ T) bi_Code___len__ passF) rfl (fr_len T) b_len (pa_cons (pv 0) pa_nil)) pe_int) (pa_cons (pe_un un_neg pe_int) (pa_cons (pe_un un_neg pe_int) pa_nil)))) (pg_name (i:=2) sc_shortest_answers.nd rfl (Or.inl rfl)) (pss_cons (ps_set (i:=3) sc_shortest_answers.nd rfl (Or.inl rfl) (pe_ix ix_list (pe_fld (pv 0) rfl) (pv 2) (fun _ _=>rfl))) (pss_cons (ps_setLc (i:=4) (own:=[("part",5)]) rfl sc_shortest_answers.nd rfl rfl (sw_true rfl rfl rfl (by decide +kernel)) (pi_list (pe_ix ix_list (pe_fld (pv 0) rfl) (pv 2) (fun _ _=>rfl))) (blkOk_by (N:=N_shortest_answers) (sc:=defScope sd_shortest_answers) (by decide +kernel)) (fun _ _ _ _ _=>(pg_name (i:=5) sc_shortest_answers.nd rfl (Or.inl rfl))) (fun _ _ _ _ _=>pts_nil) (fun _ _ _ _ _=>(pe_ix (show IxR _ (rIxL K) from ix_list) (pv 1) (pv 5) (fun _ _=>rfl)))) (pss_one (ps_if (pt_cmpR op_eq (pv 3) pe_str (nomark _)) (pss_one (ps_asg (pe_call G_left_by_if (hr.mono (by decide)) rfl (g_left_by_if T) kp_left_by_if bi_left_by_if .nil passF (pa_cons (pv 4) pa_nil)) (pg_sub (pv 1) (pv 2) set_list))) (pss_one (ps_if (pt_cmpR op_eq (pv 3) pe_str (nomark _)) (pss_one (ps_asg (pe_call G_left_by_while (hr.mono (by decide)) rfl (g_left_by_while T) kp_left_by_while bi_left_by_while .nil passF (pa_cons (pe_ix ix_list (pv 4) pe_int (fun _ _=>rfl)) pa_nil)) (pg_sub (pv 1) (pv 2) set_list))) (pss_one (ps_if (pt_cmpR op_eq (pv 3) pe_str (nomark _)) (pss_one (ps_asg (pe_call G_left_by_seq (hr.mono (by decide)) rfl (g_left_by_seq T) kp_left_by_seq bi_left_by_seq .nil passF (pa_cons (pv 4) pa_nil)) (pg_sub (pv 1) (pv 2) set_list))) (pss_one (ps_if (pt_cmpR op_eq (pv 3) pe_str (nomark _)) (pss_one (ps_asg (pe_call G_left_by_try (hr.mono (by decide)) rfl (g_left_by_try T) kp_left_by_try bi_left_by_try .nil passF (pa_cons (pe_ix ix_list (pv 4) pe_int (fun _ _=>rfl)) (pa_cons (pe_ix ix_list (pv 4) pe_int (fun _ _=>rfl)) pa_nil))) (pg_sub (pv 1) (pv 2) set_list))) (pss_one (ps_if (pt_cmpR op_eq (pv 3) pe_str (nomark _)) (pss_one (ps_asg (pe_call G_left_by_final (hr.mono (by decide)) rfl (g_left_by_final T) kp_left_by_final bi_left_by_final .nil passF (pa_cons (pe_ix ix_list (pv 4) pe_int (fun _ _=>rfl)) (pa_cons (pe_ix ix_list (pv 4) pe_int (fun _ _=>rfl)) pa_nil))) (pg_sub (pv 1) (pv 2) set_list))) (pss_one (ps_asg (pe_call G_left_by_leaf (hr.mono (by decide)) rfl (g_left_by_leaf T) kp_left_by_leaf bi_left_by_leaf .nil passF (pa_cons (pv 3) (pa_cons (pe_ix ix_list (pe_fld (pv 0) rfl) (pv 2) (fun _ _=>rfl)) pa_nil))) (pg_sub (pv 1) (pv 2) set_list)))))))))))))))) (pss_one (ps_ret (pv 1))))),?_⟩
  refine ⟨sz (by simp),?_⟩
  intro p1 n1
  generalize e1:upd _ p1 _=H1
  obtain ⟨x1,s1,o1⟩:=new_of e1 n1
  clear e1
  have xF1:=xF.trans x1
  have hl4:=X.l
  obtain ⟨vs,C1,_⟩:=X.c.ex (Evl.Ex.refl _) xF1
  refine ⟨_,rfl,A.p,_,_,rfl,C1.ob,F,A,rows,rfl,X.c,xF1,rows.length,rfl,(by omega),?_⟩
  refine ⟨p1,_,_,rfl,rfl,s1,by omega,by omega,sz (by simp;omega),?_⟩
  intro p2 n2
  generalize e2:upd _ p2 _=H2
  obtain ⟨x2,s2,o2⟩:=new_of e2 n2
  clear e2
  have xF2:=xF1.trans x2
  obtain ⟨vs2,C2,_⟩:=X.c.ex (Evl.Ex.refl _) xF2
  have rg:RgC ((rows.length:Int) - 1) (-1) (-1) rows.length:=by
   have:=RgC.neg (i:=(rows.length:Int) - 1) (j:=-1) (by omega) (by omega) (by omega) (by omega)
   rwa [show ((rows.length:Int) - 1 - -1).toNat=rows.length from by omega] at this
  rw [show ((rows.length:Int)).toNat=rows.length from by omega,rep1] at s2
  refine ⟨_,rfl,A.p,_,_,rfl,C2.ob,F,A,rows,rfl,X.c,xF2,rows.length,rfl,(by omega),_,_,rfl,rfl,_,rfl,_,rfl,_,_,_,_,rfl,rg,?_⟩
  refine for_it walk_rangeC (fun i σ' H'=>∃ (o2 o3 o4 o5:Option V) (ds:List Addr),Ex H H'∧H' p2=some (.lst (List.replicate (rows.length - i) V.non++ds.map V.ref))∧WtA P w K H H' ds ((List.range' (rows.length - i) i).map (tbN (tabOf rows)))∧σ'=[some (.ref A.p),some (.ref p2),o2,o3,o4,o5]) ?_ ?_ ?_ ?_
  ·exact ⟨_,_,_,_,[],Evl.Ex.trans x1 x2,by simpa using s2,.nil,rfl⟩
  ·exact fun _ _ _ _ _=>True.intro
  ·rintro i v σ' H5 H6 hi ⟨o2,o3,o4,o5,ds,y1,s3,wa,rfl⟩ ⟨rfl,hv⟩
   obtain ⟨m,hm⟩:∃ m,rows.length=m + 1 + i:=⟨rows.length - i - 1,by omega⟩
   have e1:rows.length - i=m + 1:=by omega
   have ev:((rows.length:Int) - 1) + ((i:Nat):Int) * (-1)=((m:Nat):Int):=by omega
   obtain rfl:v=V.int ((m:Nat):Int):=hv.trans (congrArg V.int ev)
   rw [e1] at s3 wa
   have hmN:m<rows.length:=by omega
   obtain ⟨r,hr⟩:=row_at hmN
   have hnd:=tab_nd hr
   have hch:=(X.w.sv m r hr).2.2
   have xF5:=xF.trans y1
   obtain ⟨vs5,c,C5,a5⟩:=X.at xF5 hr
   have dl:ds.length=i:=by have:=Paired.length wa;simpa using this
   have hc1:∀ c∈r.ch,m + 1≤c∧c<rows.length:=fun c hc=>by
    have:=X.w.wf.dn m hmN c (by rw [hnd,← hch];exact hc)
    exact ⟨this.1,this.2.1⟩
   have hc2:∀ c∈r.ch,∃ e,ds[c - (m + 1)]?=some e∧Wt P w K H H6 e (tbN (tabOf rows) c):=fun c hc=>by
    obtain ⟨z1,z2⟩:=hc1 c hc
    have lt:c - (m + 1)<ds.length:=by omega
    refine ⟨_,List.getElem?_eq_getElem lt,?_⟩
    obtain ⟨tb,h1,h2⟩:=paired_get wa (List.getElem?_eq_getElem lt)
    rw [List.getElem?_map,List.getElem?_range' (by omega)] at h1
    simp only [Option.map_some,Option.some.injEq] at h1
    rw [show m + 1 + 1 * (c - (m + 1))=c from by omega] at h1
    rw [h1]
    exact h2
   have cl:r.ch.length≤400:=by
    obtain ⟨x,hx,g⟩:=X.g m hmN
    have:=wg_len g
    rw [hnd,← hch] at this
    omega
   obtain ⟨pk1,pk2⟩:=parts_ok X.w X.g hmN
   rw [hnd,← hch] at pk1 pk2
   have kd5:=a5.kd
   generalize hk:kindN (ndOf r)=kk at kd5
   refine ⟨_,rfl,A.p,_,_,_,_,rfl,C5.ob,c_Code T,na_Code_kinds T,fl_Code_kinds _ _ _ _ _,_,rfl,A.a2,_,_,_,rfl,rfl,Evl.sq_of C5.h2,atI_nat kd5,_,rfl,A.p,_,_,_,_,rfl,C5.ob,c_Code T,na_Code_children T,fl_Code_children _ _ _ _ _,_,rfl,A.a5,_,_,_,rfl,rfl,Evl.sq_of C5.h5,atI_nat a5.cs,c,rfl,⟨_,Evl.sq_of a5.ch⟩,fun D nD=>?_⟩
   have hL:∀ c∈r.ch,(List.replicate (m + 1) V.non++ds.map V.ref)[c]?=some (.ref (ds.getD (c - (m + 1)) 0)):=fun c hc=>by
    obtain ⟨e,h1,_⟩:=hc2 c hc
    rw [rep_at _ _ (hc1 c hc).1,List.getElem?_map,h1,List.getD_eq_getElem?_getD,h1]<;>rfl
   refine lc_it (walk_list (xs:=intsV r.ch)) (fun j H'=>Ex H6 H'∧H' D=some (.lst (((r.ch.take j).map fun c=>ds.getD (c - (m + 1)) 0).map V.ref))) ?_ ?_ ?_ ?_
   ·exact ⟨exu (Evl.Ex.refl _) nD,upd_same⟩
   ·exact fun j H' _ z=>Evl.ex_l z.1 (Evl.sq_of a5.ch)
   ·rintro j v2 Ja Jb hj ⟨z1,z2⟩ ⟨rfl,hv2⟩
    obtain ⟨c2,hc,rfl⟩:∃ c2,r.ch[j]?=some c2∧v2=.int (c2:Int):=by
     replace hv2:(intsV r.ch)[j]?=some v2:=hv2
     unfold intsV at hv2
     rw [List.getElem?_map] at hv2
     obtain ⟨c2,g1,g2⟩:=Option.map_eq_some_iff.mp hv2
     exact ⟨c2,g1,g2.symm⟩
    have hL2:=hL c2 (List.mem_of_getElem? hc)
    refine ⟨rfl,_,rfl,_,rfl,p2,_,_,_,rfl,rfl,Evl.sq_of (z1 _ _ s3),atI_nat hL2,_,z2,szl (by simp;omega),?_,?_⟩
    ·exact exm z1 nD
    ·rw [upd_same,List.take_add_one,hc]
     simp
   rintro H7 ⟨x7,s7⟩
   have tk:r.ch.take (intsV r.ch).length=r.ch:=by unfold intsV;simp
   rw [tk] at s7
   have s37:=x7 _ _ s3
   have wes:WtA P w K H H7 (r.ch.map fun c=>ds.getD (c - (m + 1)) 0) (r.ch.map (tbN (tabOf rows))):=wta_ex x7 (paired_map fun c hc=>by
    obtain ⟨e,h1,h2⟩:=hc2 c hc
    rw [List.getD_eq_getElem?_getD,h1]
    exact h2)
   generalize r.ch.map (fun c=>ds.getD (c - (m + 1)) 0)=es at s7 wes
   have sq7:=Evl.sq_of (K:=K) s7
   have ht:tbN (tabOf rows) m=stepT (ndOf r) (tbN (tabOf rows)):=by rw [tbN_eq X.w.wf hmN,hnd]
   have fin:∀ (H9:Hp) (d:Addr),Ex H7 H9→Wt P w K H H9 d (stepT (ndOf r) (tbN (tabOf rows)))→Ex H (upd H9 p2 (.lst ((List.replicate (m + 1) V.non++ds.map V.ref).set m (.ref d)))) ∧
     (upd H9 p2 (.lst ((List.replicate (m + 1) V.non++ds.map V.ref).set m (.ref d)))) p2=some (.lst (List.replicate (rows.length - (i + 1)) V.non++(d::ds).map V.ref)) ∧
     WtA P w K H (upd H9 p2 (.lst ((List.replicate (m + 1) V.non++ds.map V.ref).set m (.ref d)))) (d::ds) ((List.range' (rows.length - (i + 1)) (i + 1)).map (tbN (tabOf rows))):=fun H9 d x9 wt9=>by
    rw [← ht] at wt9
    have hx:∃ x∈List.replicate (m + 1) V.non++ds.map V.ref,∀ k,x≠V.int k:=⟨.non,by simp,fun k z=>nomatch z⟩
    have e2:rows.length - (i + 1)=m:=by omega
    refine ⟨exm (Evl.Ex.trans y1 (Evl.Ex.trans x7 x9)) (ex_none x1 n2),?_,?_⟩
    ·rw [upd_same,set_rep,e2]<;>rfl
    ·rw [e2,List.range'_succ,List.map_cons]
     refine .cons (wt_lst (x9 _ _ s37) hx wt9) (L2.Paired.mapP wa fun _ _ z=>wt_lst (x9 _ _ s37) hx (wt_ex (Evl.Ex.trans x7 x9) z))
   have sm:((r.ch.map (tbN (tabOf rows))).map List.length).sum≤800:=by omega
   have ll:∀ t∈r.ch.map (tbN (tabOf rows)),∀ p∈t,p.2.length≤5000:=fun t ht p hp=>by
    obtain ⟨c,hc,rfl⟩:=List.mem_map.mp ht
    have:=((pk2 c hc).2 p hp).1
    omega
   cases e:ndOf r with
   | iff a b =>
    rw [e] at hk hch fin
    replace hk:kk="if":=hk.symm
    subst hk
    have hch:r.ch=[a,b]:=hch
    rw [hch] at wes sm ll pk2
    refine ⟨_,rfl,rfl,_,rfl,itT (decide_eq_true rfl) ?_⟩
    refine ⟨_,rfl,H,D,es,_,y1.trans x7,rfl,sq7,wes,Nat.le_trans sm (by decide),ll,fun H9 d x9 nd9 wt9=>?_⟩
    refine ⟨_,rfl,_,rfl,p2,_,_,m,rfl,rfl,x9 _ _ s37,Evl.ixN_nat (by simp;omega),?_⟩
    obtain ⟨f1,f2,f3⟩:=fin H9 d x9 wt9
    exact ⟨_,_,_,_,d::ds,f1,f2,f3,rfl⟩
   | whl a =>
    rw [e] at hk hch fin
    replace hk:kk="while":=hk.symm
    subst hk
    have hch:r.ch=[a]:=hch
    rw [hch] at wes sm ll pk2
    obtain ⟨d1,es1,rfl,wd1,_⟩:=paired1 wes
    refine ⟨_,rfl,rfl,_,rfl,itF (decide_eq_false (by decide)) ?_⟩
    refine ⟨_,rfl,rfl,_,rfl,itT (decide_eq_true rfl) ?_⟩
    refine ⟨_,rfl,D,_,_,_,rfl,rfl,sq7,atI_nat (j:=0) rfl,H,d1,_,y1.trans x7,rfl,wd1,(by simp at sm;omega),ll _ (by simp),fun p hp k hk=>((pk2 a (by simp)).2 p hp).2 k hk,fun H9 d x9 nd9 wt9=>?_⟩
    refine ⟨_,rfl,_,rfl,p2,_,_,m,rfl,rfl,x9 _ _ s37,Evl.ixN_nat (by simp;omega),?_⟩
    obtain ⟨f1,f2,f3⟩:=fin H9 d x9 wt9
    exact ⟨_,_,_,_,d::ds,f1,f2,f3,rfl⟩
   | seq l =>
    rw [e] at hk hch fin
    replace hk:kk="seq":=hk.symm
    subst hk
    have hch:r.ch=l:=hch
    rw [hch] at wes sm ll pk2
    refine ⟨_,rfl,rfl,_,rfl,itF (decide_eq_false (by decide)) ?_⟩
    refine ⟨_,rfl,rfl,_,rfl,itF (decide_eq_false (by decide)) ?_⟩
    refine ⟨_,rfl,rfl,_,rfl,itT (decide_eq_true rfl) ?_⟩
    refine ⟨_,rfl,H,D,es,_,y1.trans x7,rfl,sq7,wes,Nat.le_trans sm (by decide),ll,(by rw [← hch];simp;omega),fun H9 d x9 nd9 wt9=>?_⟩
    refine ⟨_,rfl,_,rfl,p2,_,_,m,rfl,rfl,x9 _ _ s37,Evl.ixN_nat (by simp;omega),?_⟩
    obtain ⟨f1,f2,f3⟩:=fin H9 d x9 wt9
    exact ⟨_,_,_,_,d::ds,f1,f2,f3,rfl⟩
   | tr a b =>
    rw [e] at hk hch fin
    replace hk:kk="try":=hk.symm
    subst hk
    have hch:r.ch=[a,b]:=hch
    rw [hch] at wes sm ll pk2
    obtain ⟨d1,es1,rfl,wd1,we1⟩:=paired1 wes
    obtain ⟨d2,es2,rfl,wd2,_⟩:=paired1 we1
    refine ⟨_,rfl,rfl,_,rfl,itF (decide_eq_false (by decide)) ?_⟩
    refine ⟨_,rfl,rfl,_,rfl,itF (decide_eq_false (by decide)) ?_⟩
    refine ⟨_,rfl,rfl,_,rfl,itF (decide_eq_false (by decide)) ?_⟩
    refine ⟨_,rfl,rfl,_,rfl,itT (decide_eq_true rfl) ?_⟩
    refine ⟨_,rfl,D,_,_,_,rfl,rfl,sq7,atI_nat (j:=0) rfl,_,rfl,D,_,_,_,rfl,rfl,sq7,atI_nat (j:=1) rfl,H,d1,d2,_,_,y1.trans x7,rfl,wd1,wd2,(by simp at sm;omega),ll _ (by simp),ll _ (by simp),fun H9 d x9 nd9 wt9=>?_⟩
    refine ⟨_,rfl,_,rfl,p2,_,_,m,rfl,rfl,x9 _ _ s37,Evl.ixN_nat (by simp;omega),?_⟩
    obtain ⟨f1,f2,f3⟩:=fin H9 d x9 wt9
    exact ⟨_,_,_,_,d::ds,f1,f2,f3,rfl⟩
   | fin a b =>
    rw [e] at hk hch fin
    replace hk:kk="final":=hk.symm
    subst hk
    have hch:r.ch=[a,b]:=hch
    rw [hch] at wes sm ll pk2
    obtain ⟨d1,es1,rfl,wd1,we1⟩:=paired1 wes
    obtain ⟨d2,es2,rfl,wd2,_⟩:=paired1 we1
    refine ⟨_,rfl,rfl,_,rfl,itF (decide_eq_false (by decide)) ?_⟩
    refine ⟨_,rfl,rfl,_,rfl,itF (decide_eq_false (by decide)) ?_⟩
    refine ⟨_,rfl,rfl,_,rfl,itF (decide_eq_false (by decide)) ?_⟩
    refine ⟨_,rfl,rfl,_,rfl,itF (decide_eq_false (by decide)) ?_⟩
    refine ⟨_,rfl,rfl,_,rfl,itT (decide_eq_true rfl) ?_⟩
    refine ⟨_,rfl,D,_,_,_,rfl,rfl,sq7,atI_nat (j:=0) rfl,_,rfl,D,_,_,_,rfl,rfl,sq7,atI_nat (j:=1) rfl,H,d1,d2,_,_,y1.trans x7,rfl,wd1,wd2,(pk2 a (by simp)).1,(by simp at sm;omega),ll _ (by simp),ll _ (by simp),fun H9 d x9 nd9 wt9=>?_⟩
    refine ⟨_,rfl,_,rfl,p2,_,_,m,rfl,rfl,x9 _ _ s37,Evl.ixN_nat (by simp;omega),?_⟩
    obtain ⟨f1,f2,f3⟩:=fin H9 d x9 wt9
    exact ⟨_,_,_,_,d::ds,f1,f2,f3,rfl⟩
   | do_ =>
    rw [e] at hk fin
    replace hk:kk="do":=hk.symm
    subst hk
    refine ⟨_,rfl,rfl,_,rfl,itF (decide_eq_false (by decide)) ?_⟩
    refine ⟨_,rfl,rfl,_,rfl,itF (decide_eq_false (by decide)) ?_⟩
    refine ⟨_,rfl,rfl,_,rfl,itF (decide_eq_false (by decide)) ?_⟩
    refine ⟨_,rfl,rfl,_,rfl,itF (decide_eq_false (by decide)) ?_⟩
    refine ⟨_,rfl,rfl,_,rfl,itF (decide_eq_false (by decide)) ?_⟩
    obtain ⟨vs7,c7,C7,a7⟩:=X.at (xF5.trans x7) hr
    refine ⟨_,rfl,_,rfl,A.p,_,_,_,_,rfl,C7.ob,c_Code T,na_Code_labels T,fl_Code_labels _ _ _ _ _,_,rfl,A.a3,_,_,_,rfl,rfl,Evl.sq_of C7.h3,atI_nat a7.lb,H,.do_,labD r.d,y1.trans x7,rfl,True.intro,fun k hk=>lab_nd (X.w.sv m r hr).1 (by rw [e];exact hk),fun H9 d x9 nd9 wt9=>?_⟩
    refine ⟨_,rfl,_,rfl,p2,_,_,m,rfl,rfl,x9 _ _ s37,Evl.ixN_nat (by simp;omega),?_⟩
    obtain ⟨f1,f2,f3⟩:=fin H9 d x9 wt9
    exact ⟨_,_,_,_,d::ds,f1,f2,f3,rfl⟩
   | call =>
    rw [e] at hk fin
    replace hk:kk="call":=hk.symm
    subst hk
    refine ⟨_,rfl,rfl,_,rfl,itF (decide_eq_false (by decide)) ?_⟩
    refine ⟨_,rfl,rfl,_,rfl,itF (decide_eq_false (by decide)) ?_⟩
    refine ⟨_,rfl,rfl,_,rfl,itF (decide_eq_false (by decide)) ?_⟩
    refine ⟨_,rfl,rfl,_,rfl,itF (decide_eq_false (by decide)) ?_⟩
    refine ⟨_,rfl,rfl,_,rfl,itF (decide_eq_false (by decide)) ?_⟩
    obtain ⟨vs7,c7,C7,a7⟩:=X.at (xF5.trans x7) hr
    refine ⟨_,rfl,_,rfl,A.p,_,_,_,_,rfl,C7.ob,c_Code T,na_Code_labels T,fl_Code_labels _ _ _ _ _,_,rfl,A.a3,_,_,_,rfl,rfl,Evl.sq_of C7.h3,atI_nat a7.lb,H,.call,labD r.d,y1.trans x7,rfl,True.intro,fun k hk=>lab_nd (X.w.sv m r hr).1 (by rw [e];exact hk),fun H9 d x9 nd9 wt9=>?_⟩
    refine ⟨_,rfl,_,rfl,p2,_,_,m,rfl,rfl,x9 _ _ s37,Evl.ixN_nat (by simp;omega),?_⟩
    obtain ⟨f1,f2,f3⟩:=fin H9 d x9 wt9
    exact ⟨_,_,_,_,d::ds,f1,f2,f3,rfl⟩
   | ret =>
    rw [e] at hk fin
    replace hk:kk="return":=hk.symm
    subst hk
    refine ⟨_,rfl,rfl,_,rfl,itF (decide_eq_false (by decide)) ?_⟩
    refine ⟨_,rfl,rfl,_,rfl,itF (decide_eq_false (by decide)) ?_⟩
    refine ⟨_,rfl,rfl,_,rfl,itF (decide_eq_false (by decide)) ?_⟩
    refine ⟨_,rfl,rfl,_,rfl,itF (decide_eq_false (by decide)) ?_⟩
    refine ⟨_,rfl,rfl,_,rfl,itF (decide_eq_false (by decide)) ?_⟩
    obtain ⟨vs7,c7,C7,a7⟩:=X.at (xF5.trans x7) hr
    refine ⟨_,rfl,_,rfl,A.p,_,_,_,_,rfl,C7.ob,c_Code T,na_Code_labels T,fl_Code_labels _ _ _ _ _,_,rfl,A.a3,_,_,_,rfl,rfl,Evl.sq_of C7.h3,atI_nat a7.lb,H,.ret,labD r.d,y1.trans x7,rfl,True.intro,fun k hk=>lab_nd (X.w.sv m r hr).1 (by rw [e];exact hk),fun H9 d x9 nd9 wt9=>?_⟩
    refine ⟨_,rfl,_,rfl,p2,_,_,m,rfl,rfl,x9 _ _ s37,Evl.ixN_nat (by simp;omega),?_⟩
    obtain ⟨f1,f2,f3⟩:=fin H9 d x9 wt9
    exact ⟨_,_,_,_,d::ds,f1,f2,f3,rfl⟩
   | rai =>
    rw [e] at hk fin
    replace hk:kk="raise":=hk.symm
    subst hk
    refine ⟨_,rfl,rfl,_,rfl,itF (decide_eq_false (by decide)) ?_⟩
    refine ⟨_,rfl,rfl,_,rfl,itF (decide_eq_false (by decide)) ?_⟩
    refine ⟨_,rfl,rfl,_,rfl,itF (decide_eq_false (by decide)) ?_⟩
    refine ⟨_,rfl,rfl,_,rfl,itF (decide_eq_false (by decide)) ?_⟩
    refine ⟨_,rfl,rfl,_,rfl,itF (decide_eq_false (by decide)) ?_⟩
    obtain ⟨vs7,c7,C7,a7⟩:=X.at (xF5.trans x7) hr
    refine ⟨_,rfl,_,rfl,A.p,_,_,_,_,rfl,C7.ob,c_Code T,na_Code_labels T,fl_Code_labels _ _ _ _ _,_,rfl,A.a3,_,_,_,rfl,rfl,Evl.sq_of C7.h3,atI_nat a7.lb,H,.rai,labD r.d,y1.trans x7,rfl,True.intro,fun k hk=>lab_nd (X.w.sv m r hr).1 (by rw [e];exact hk),fun H9 d x9 nd9 wt9=>?_⟩
    refine ⟨_,rfl,_,rfl,p2,_,_,m,rfl,rfl,x9 _ _ s37,Evl.ixN_nat (by simp;omega),?_⟩
    obtain ⟨f1,f2,f3⟩:=fin H9 d x9 wt9
    exact ⟨_,_,_,_,d::ds,f1,f2,f3,rfl⟩
   | brk k =>
    rw [e] at hk fin
    replace hk:kk="break":=hk.symm
    subst hk
    refine ⟨_,rfl,rfl,_,rfl,itF (decide_eq_false (by decide)) ?_⟩
    refine ⟨_,rfl,rfl,_,rfl,itF (decide_eq_false (by decide)) ?_⟩
    refine ⟨_,rfl,rfl,_,rfl,itF (decide_eq_false (by decide)) ?_⟩
    refine ⟨_,rfl,rfl,_,rfl,itF (decide_eq_false (by decide)) ?_⟩
    refine ⟨_,rfl,rfl,_,rfl,itF (decide_eq_false (by decide)) ?_⟩
    obtain ⟨vs7,c7,C7,a7⟩:=X.at (xF5.trans x7) hr
    refine ⟨_,rfl,_,rfl,A.p,_,_,_,_,rfl,C7.ob,c_Code T,na_Code_labels T,fl_Code_labels _ _ _ _ _,_,rfl,A.a3,_,_,_,rfl,rfl,Evl.sq_of C7.h3,atI_nat a7.lb,H,.brk k,labD r.d,y1.trans x7,rfl,True.intro,fun k hk=>lab_nd (X.w.sv m r hr).1 (by rw [e];exact hk),fun H9 d x9 nd9 wt9=>?_⟩
    refine ⟨_,rfl,_,rfl,p2,_,_,m,rfl,rfl,x9 _ _ s37,Evl.ixN_nat (by simp;omega),?_⟩
    obtain ⟨f1,f2,f3⟩:=fin H9 d x9 wt9
    exact ⟨_,_,_,_,d::ds,f1,f2,f3,rfl⟩
   | cnt k =>
    rw [e] at hk fin
    replace hk:kk="continue":=hk.symm
    subst hk
    refine ⟨_,rfl,rfl,_,rfl,itF (decide_eq_false (by decide)) ?_⟩
    refine ⟨_,rfl,rfl,_,rfl,itF (decide_eq_false (by decide)) ?_⟩
    refine ⟨_,rfl,rfl,_,rfl,itF (decide_eq_false (by decide)) ?_⟩
    refine ⟨_,rfl,rfl,_,rfl,itF (decide_eq_false (by decide)) ?_⟩
    refine ⟨_,rfl,rfl,_,rfl,itF (decide_eq_false (by decide)) ?_⟩
    obtain ⟨vs7,c7,C7,a7⟩:=X.at (xF5.trans x7) hr
    refine ⟨_,rfl,_,rfl,A.p,_,_,_,_,rfl,C7.ob,c_Code T,na_Code_labels T,fl_Code_labels _ _ _ _ _,_,rfl,A.a3,_,_,_,rfl,rfl,Evl.sq_of C7.h3,atI_nat a7.lb,H,.cnt k,labD r.d,y1.trans x7,rfl,True.intro,fun k hk=>lab_nd (X.w.sv m r hr).1 (by rw [e];exact hk),fun H9 d x9 nd9 wt9=>?_⟩
    refine ⟨_,rfl,_,rfl,p2,_,_,m,rfl,rfl,x9 _ _ s37,Evl.ixN_nat (by simp;omega),?_⟩
    obtain ⟨f1,f2,f3⟩:=fin H9 d x9 wt9
    exact ⟨_,_,_,_,d::ds,f1,f2,f3,rfl⟩
  ·rintro σ' H' ⟨o2,o3,o4,o5,ds,y1,y2,y3,rfl⟩
   rw [Nat.sub_self] at y2 y3
   rw [← List.range_eq_range'] at y3
   exact ⟨_,rfl,q _ _ _ y1 (ex_none x1 n2) y2 y3⟩
end
end
section
def sp_cn (K:PySem.W.Frag):Sp:=fun vs H Q _=>∃ (F:Hp) (A:CAd) (rows:List Row) (n:Nat),vs=[.ref A.p,.int (n:Int)]∧CodeH K F F A rows∧Ex F H∧n<rows.length∧Q .non H
section
variable {P:Program} {w:World} {h:Heap} {K:PySem.W.Frag} {mg:Str→Option Value} {base:Heap}
abbrev N_Code_check_number:List Str:=["self","number"]
theorem sc_Code_check_number:FnScope N_Code_check_number ["self","number"] (defScope sd_Code_check_number):=⟨rfl,rfl,rfl,by decide +kernel,rfl,by decide +kernel,by decide +kernel⟩
theorem ok_Code_check_number (T:Tx w h K mg):Ok P w K mg base 3 ("Code",some "check_number") ["self","number"] (sp_cn K):=by
 obtain ⟨fd,F⟩:=F_Code_check_number T
 refine ⟨fd,?_,F.bindsN (fun _ _ _ _ _ _ us hl=>match us,hl with | [_,_],_=>rfl),F.kp⟩
 obtain ⟨fd_is_between,G_is_between,bi_is_between,kp_is_between⟩:=ok_is_between (P:=P) (base:=base) T
 refine F.ok sc_Code_check_number (fun vs H Q E h=>?_) (fun cdv A outer s H vs Q E hr h=>?_)
 ·obtain ⟨F,A,rows,n,rfl,C,xF,hn,q⟩:=h
  rfl
 ·obtain ⟨F,A,rows,n,rfl,C,xF,hn,q⟩:=h
  refine ⟨_,PSs.nox (pss_one (ps_if (pt_not (pt_val (pe_call G_is_between (hr.mono (by decide)) rfl (g_is_between T) kp_is_between bi_is_between .nil passF (pa_cons (pv 1) (pa_cons pe_int (pa_cons (pe_op op_sub (pe_callB call_len_seq rfl (fr_len T) b_len (pa_cons (pe_fld (pv 0) rfl) pa_nil)) pe_int) pa_nil)))))) (pss_one ps_never) pss_nil)),?_⟩
  obtain ⟨vs,C1,_⟩:=C.ex (Evl.Ex.refl _) xF
  refine ⟨_,rfl,_,rfl,A.p,_,_,_,_,rfl,C1.ob,c_Code T,na_Code_kinds T,fl_Code_kinds _ _ _ _ _,A.a2,_,rfl,.inl (Evl.sq_of C1.h2),_,_,rfl,rfl,?_⟩
  refine ⟨_,_,_,rfl,.inl ⟨_,rfl,?_⟩⟩
  have e:(decide ((0:Int)≤(n:Int)) && decide ((n:Int)≤((rows.map fun r=>V.str (kindD r.d)).length:Int) - 1))=true:=by
   rw [List.length_map]
   simp
   omega
  refine ⟨_,rfl,?_⟩
  refine itF (by rw [e]<;>rfl) q
end
end
section
def sp_kind (K:PySem.W.Frag):Sp:=fun vs H Q _=>∃ (F:Hp) (A:CAd) (rows:List Row) (n:Nat) (r:Row),vs=[.ref A.p,.int (n:Int)]∧CodeH K F F A rows∧Ex F H∧rows[n]?=some r∧Q (.str (kindD r.d)) H
section
variable {P:Program} {w:World} {h:Heap} {K:PySem.W.Frag} {mg:Str→Option Value} {base:Heap}
abbrev N_Code_kind:List Str:=["self","number"]
theorem sc_Code_kind:FnScope N_Code_kind ["self","number"] (defScope sd_Code_kind):=⟨rfl,rfl,rfl,by decide +kernel,rfl,by decide +kernel,by decide +kernel⟩
theorem okF_Code_kind (T:Tx w h K mg):∃ fd,FnOk P w K mg base (CX P w) 4 (He.fAd K ("Code",some "kind")) fd ["self","number"] (sp_kind K)∧Binds K fd ["self","number"] []∧PySem.W.keepIn K (.ref (He.fAd K ("Code",some "kind")))=true∧FunD K "kind" "Code.kind" (defArgs sd_Code_kind) (defBody sd_Code_kind) (defScope sd_Code_kind) [] [] (He.fAd K ("Code",some "kind")) fd:=by
 obtain ⟨fd,F⟩:=F_Code_kind T
 refine ⟨fd,?_,F.bindsN (fun _ _ _ _ _ _ us hl=>match us,hl with | [_,_],_=>rfl),F.kp,F⟩
 obtain ⟨fd_Code_check_number,G_Code_check_number,bi_Code_check_number,kp_Code_check_number⟩:=ok_Code_check_number (P:=P) (base:=base) T
 refine F.ok sc_Code_kind (fun vs H Q E h=>?_) (fun cdv A outer s H vs Q E hr h=>?_)
 ·obtain ⟨F,A,rows,n,r,rfl,C,xF,hw,q⟩:=h
  rfl
 ·obtain ⟨F,A,rows,n,r,rfl,C,xF,hw,q⟩:=h
  refine ⟨_,PSs.nox (pss_cons (ps_expr (pe_meth (pv 0) (c_Code T) (me_Code_check_number T) G_Code_check_number (hr.mono (by decide)) bi_Code_check_number .nil passF (pa_cons (pv 1) pa_nil))) (pss_one (ps_ret (pe_ix ix_list (pe_fld (pv 0) rfl) (pv 1) (fun _ _=>rfl))))),?_⟩
  obtain ⟨vs,C1,_⟩:=C.ex (Evl.Ex.refl _) xF
  refine ⟨_,rfl,A.p,_,_,rfl,C1.ob,fm_Code_check_number _ _ _ _ _,_,rfl,F,A,rows,n,rfl,C,xF,(List.getElem?_eq_some_iff.mp hw).1,?_⟩
  refine ⟨_,rfl,A.p,_,_,_,_,rfl,C1.ob,c_Code T,na_Code_kinds T,fl_Code_kinds _ _ _ _ _,_,rfl,A.a2,_,_,.str (kindD r.d),rfl,rfl,Evl.sq_of C1.h2,atI_nat (by rw [List.getElem?_map,hw]<;>rfl),q⟩
theorem ok_Code_kind (T:Tx w h K mg):Ok P w K mg base 4 ("Code",some "kind") ["self","number"] (sp_kind K):=by
 obtain ⟨fd,a,b,c,_⟩:=okF_Code_kind (P:=P) (base:=base) T
 exact ⟨fd,a,b,c⟩
end
end
end Fc
set_option maxRecDepth 100000
set_option maxHeartbeats 4000000
namespace FcW
open PySem PySem.Spec PyProof.Rows L2
theorem b_sorted:bootBuiltins "sorted"=some (.builtin "sorted"):=by decide +kernel
section
variable {X:Cx}
def tBMW (P:Program) (w:World) (r:V→List V→Hp→VK→Prop) (to:TE) (t:TA):TE:=fun σ H Q=>to σ H fun x H1=>(∃ d o xs,x=.ref d∧H1 d=some (dW P w d o xs))∧t σ H1 fun xs H2=>r x xs H2 Q
variable {o e:Expr} {es:List Expr} {to:TE} {t:TA} {name:Str} {apos cpos:Pos} {id:String} {r:V→List V→Hp→VK→Prop}
theorem pe_bmW (pa:PlainAttrs "dict") (slot:Slot "dict" name id) (hty:typeOf (.builtin id)=pure (.type "method_descriptor")) (hm:MtR X id r) (ho:PE X o to) (ha:PA X (e::es) t)
  (hbase:attributeBase o name X.env (eval o X.env)=eval o X.env:=by rfl)
  (hfew:((backTo cpos (starEach (e::es) X.env)).all (fun x=>!x.1) && (backToKw cpos (keywordEach [] X.env)).all (fun x=>x.1.isSome)
   && decide ((e::es).length + ([]:List Keyword).length + (if ([]:List Keyword).isEmpty then 0 else 1)<30))=true:=by rfl)
  (hline:(apos.endLine == cpos.line)=true:=by rfl) (hs:starEach (e::es) X.env=(false,eval e X.env)::starEach es X.env:=by rfl) (hplain:(backTo cpos (starEach es X.env)).any (·.1)=false:=by rfl) :
  PE X (.Call (.Attribute o name apos) (e::es) [] cpos) (tBMW X.prog X.w r to t):=by
 refine ⟨fun pins s σ H Q I h=>?_⟩
 refine wpAny_Call_method_late hbase hfew hline rfl (thn (ho.run pins s σ H _ I h) fun v s1 ⟨x,H1,I1,r1,ty,q1⟩=>?_)
 obtain ⟨d,ob,xs,rfl,hd⟩:=ty
 obtain rfl:v=Value.ref d:=r1
 obtain ⟨_,_,_,_,_,_,⟨es',ep,hod,_⟩,_⟩:=dw_of I1.hok hd
 obtain ⟨_,hm',_,_⟩:=Inv.wraw I1 hd hod
 refine ⟨"dict",id,pa,slot,hty,hm'.typeIs,raw_noDict hm',?_⟩
 have hA:=ha.run cpos pins s1 σ H1 _ I1 q1
 rw [hs] at hA ⊢
 refine Calls.callWith_builtin (by show (false || (backTo cpos (starEach es X.env)).any (·.1))=false;rw [hplain]<;>rfl) (Calls.evalArgs_plain ?_)
 exact thn hA fun us s2 ⟨vs,H2,I2,r2,q2⟩=>hm pins s2 σ H2 (.ref d) vs (.ref d) us Q I2 rfl r2 q2
end
end FcW
set_option maxRecDepth 100000
set_option maxHeartbeats 4000000
namespace Fc
open PySem PySem.Spec PyProof.Rows L2 FcR
open Evl (Ex)
section
open FcM (Way Node Tab)
theorem b_sorted:bootBuiltins "sorted"=some (.builtin "sorted"):=FcW.b_sorted
theorem paired_getR {α β:Type} {R:α→β→Prop}:∀ {xs:List α} {ys:List β},Paired R xs ys→∀ {i:Nat} {y:β},ys[i]?=some y→∃ x,xs[i]?=some x∧R x y
 | _,_,.cons r h,0,y,e=>by cases e;exact ⟨_,rfl,r⟩
 | _,_,.cons r h,i + 1,y,e=>by
  obtain ⟨x,h1,h2⟩:=paired_getR h (i:=i) (y:=y) (by simpa using e)
  exact ⟨x,by simpa using h1,h2⟩
 | _,_,.nil,i,y,e=>by simp at e
section
variable {P:Program} {w:World} {h:Heap} {K:PySem.W.Frag} {mg:Str→Option Value} {base:Heap}
end
end
section
open FcM (Way Node Tab)
abbrev Bg:=List (Option (List Int))
def bgSeq (lf:Nat→Tw):List Nat→List Int→List (Nat×Option (List Int))
 | [],_=>[]
 | c::cs,before=>(c,some before)::match lk (lf c) .nrm with
  | none=>[]
  | some x=>bgSeq lf cs (before++x)
def bgParts (lf:Nat→Tw) (nd:Node) (before:List Int):List (Nat×Option (List Int)) :=
 match nd with
 | .iff a b=>[(a,some (before++[0])),(b,some (before++[1]))]
 | .whl a=>[(a,some (before++[1]))]
 | .seq l=>bgSeq lf l before
 | .tr a b=>[(a,some before),(b,(lk (lf a) .rai).map (before++·))]
 | .fin a b=>[(a,some before),(b,(shortT (lf a)).map (before++·))]
 | _=>[]
def setAll (L:Bg) (ps:List (Nat×Option (List Int))):Bg:=ps.foldl (fun L p=>L.set p.1 p.2) L
def bgStep (t:Tab) (L:Bg) (n:Nat):Bg :=
 match L[n]? with
 | some (some before)=>setAll L (bgParts (tbN t) (t.nd n) before)
 | _=>L
def bg0 (N:Nat):Bg:=(List.replicate N none).set 0 (some [])
def bgTo (t:Tab) (i:Nat):Bg:=(List.range i).foldl (bgStep t) (bg0 t.len)
def bgAll (t:Tab):Bg:=bgTo t t.len
theorem bgTo_succ (t:Tab) (i:Nat):bgTo t (i + 1)=bgStep t (bgTo t i) i:=by
 unfold bgTo
 rw [List.range_succ,List.foldl_append]<;>rfl
theorem len_setAll:∀ (ps:List (Nat×Option (List Int))) (L:Bg),(setAll L ps).length=L.length
 | [],_=>rfl
 | p::ps,L=>by
  show (setAll (L.set p.1 p.2) ps).length=_
  rw [len_setAll ps,List.length_set]
theorem len_bgStep (t:Tab) (L:Bg) (n:Nat):(bgStep t L n).length=L.length:=by
 unfold bgStep
 split
 ·exact len_setAll _ _
 ·rfl
theorem len_bgTo (t:Tab):∀ i,(bgTo t i).length=t.len
 | 0=>by simp [bgTo,bg0]
 | i + 1=>by rw [bgTo_succ,len_bgStep,len_bgTo t i]
theorem setAll_get:∀ (ps:List (Nat×Option (List Int))) (L:Bg) (c:Nat),(setAll L ps)[c]?=L[c]?∨∃ v,(c,v)∈ps∧(setAll L ps)[c]?=some v
 | [],L,c=>.inl rfl
 | p::ps,L,c=>by
  rcases setAll_get ps (L.set p.1 p.2) c with h | ⟨v,h1,h2⟩
  ·by_cases e:p.1=c
   ·by_cases z:c<L.length
    ·refine .inr ⟨p.2,?_,?_⟩
     ·rw [← e];exact List.mem_cons_self
     ·show (setAll (L.set p.1 p.2) ps)[c]?=_
      rw [h,e,List.getElem?_set_self z]
    ·refine .inl ?_
     show (setAll (L.set p.1 p.2) ps)[c]?=_
     rw [h,List.getElem?_eq_none (by rw [List.length_set];omega),List.getElem?_eq_none (by omega)]
   ·refine .inl ?_
    show (setAll (L.set p.1 p.2) ps)[c]?=_
    rw [h,List.getElem?_set_ne e]
  ·exact .inr ⟨v,List.mem_cons_of_mem _ h1,h2⟩
theorem bgSeq_mem {lf:Nat→Tw} {wt:Nat→Nat}:∀ (l:List Nat) (before:List Int),(∀ c∈l,∀ p∈lf c,p.2.length≤wt c)→∀ q∈bgSeq lf l before,q.1∈l∧∀ v,q.2=some v→v.length≤before.length + (l.map wt).sum
 | [],_,_,q,h=>nomatch h
 | c::cs,before,hw,q,h=>by
  rw [List.map_cons,List.sum_cons]
  unfold bgSeq at h
  rcases List.mem_cons.mp h with rfl | h
  ·refine ⟨List.mem_cons_self,fun v e=>?_⟩
   cases e
   omega
  ·split at h
   ·exact nomatch h
   ·rename_i x e
    obtain ⟨h1,h2⟩:=bgSeq_mem cs (before++x) (fun d hd=>hw d (List.mem_cons_of_mem _ hd)) q h
    obtain ⟨z,hz,ez⟩:=lkT_mem e
    have:=hw c List.mem_cons_self z hz
    rw [ez] at this
    refine ⟨List.mem_cons_of_mem _ h1,fun v e=>?_⟩
    have:=h2 v e
    rw [List.length_append] at this
    omega
theorem bgParts_mem {lf:Nat→Tw} {wt:Nat→Nat} {nd:Node} {before:List Int} (hw:∀ c∈nd.ch,∀ p∈lf c,p.2.length≤wt c):∀ q∈bgParts lf nd before,q.1∈nd.ch∧∀ v,q.2=some v→v.length≤before.length + 1 + (nd.ch.map wt).sum:=by
 intro q h
 cases nd with
 | iff a b =>
  rcases List.mem_cons.mp h with rfl | h
  ·exact ⟨by simp [Node.ch],fun v e=>by cases e;simp [Node.ch]<;>omega⟩
  ·obtain rfl:=List.mem_singleton.mp h
   exact ⟨by simp [Node.ch],fun v e=>by cases e;simp [Node.ch]<;>omega⟩
 | whl a =>
  obtain rfl:=List.mem_singleton.mp h
  exact ⟨by simp [Node.ch],fun v e=>by cases e;simp [Node.ch]<;>omega⟩
 | seq l =>
  obtain ⟨h1,h2⟩:=bgSeq_mem l before hw q h
  exact ⟨h1,fun v e=>by have:=h2 v e;show _≤_ + 1 + (l.map wt).sum;omega⟩
 | tr a b =>
  rcases List.mem_cons.mp h with rfl | h
  ·exact ⟨by simp [Node.ch],fun v e=>by cases e;omega⟩
  ·obtain rfl:=List.mem_singleton.mp h
   refine ⟨by simp [Node.ch],fun v e=>?_⟩
   obtain ⟨x,e1,e2⟩:=Option.map_eq_some_iff.mp e
   obtain ⟨z,hz,ez⟩:=lkT_mem e1
   have:=hw a (by simp [Node.ch]) z hz
   rw [← e2,List.length_append,← ez]
   simp [Node.ch]
   omega
 | fin a b =>
  rcases List.mem_cons.mp h with rfl | h
  ·exact ⟨by simp [Node.ch],fun v e=>by cases e;omega⟩
  ·obtain rfl:=List.mem_singleton.mp h
   refine ⟨by simp [Node.ch],fun v e=>?_⟩
   obtain ⟨x,e1,e2⟩:=Option.map_eq_some_iff.mp e
   have ne:lf a≠[]:=fun z=>by rw [z] at e1;exact nomatch e1
   obtain ⟨y,ey,z,hz,ez⟩:=shortT_some ne
   rw [ey] at e1
   cases e1
   have:=hw a (by simp [Node.ch]) z hz
   rw [← e2,List.length_append,← ez]
   simp [Node.ch];omega
 | _=>exact nomatch h
def BgB (L:Bg):Prop:=∀ (n:Nat) (l:List Int),L[n]?=some (some l)→l.length≤401 * n
theorem bgParts_bd {rows:List Row} {lp:Nat→Nat} (W:TW rows lp) (G:WgA rows) {n:Nat} (hn:n<rows.length) (before:List Int):∀ q∈bgParts (tbN (tabOf rows)) ((tabOf rows).nd n) before,q.1∈((tabOf rows).nd n).ch∧∀ v,q.2=some v→v.length≤before.length + 401:=by
 obtain ⟨x,hx,g⟩:=G n hn
 obtain ⟨wt,e,gc⟩:=wg_ch g
 intro q hq
 obtain ⟨h1,h2⟩:=bgParts_mem (wt:=wt) (fun c hc p hp=>(tg_all W.wf (gc c hc) (W.wf.dn n hn c hc).2.1).an p hp) q hq
 exact ⟨h1,fun v e=>by have:=h2 v e;omega⟩
theorem bgB_step {rows:List Row} {lp:Nat→Nat} (W:TW rows lp) (G:WgA rows) {L:Bg} (h:BgB L) {n:Nat} (hn:n<rows.length):BgB (bgStep (tabOf rows) L n):=by
 unfold bgStep
 split
 ·rename_i before e
  intro m l hl
  rcases setAll_get (bgParts (tbN (tabOf rows)) ((tabOf rows).nd n) before) L m with z | ⟨v,z1,z2⟩
  ·rw [z] at hl
   exact h m l hl
  ·obtain ⟨k1,k2⟩:=bgParts_bd W G hn before _ z1
   rw [z2] at hl
   have k3:=k2 l (Option.some.inj hl)
   have k4:=h n before e
   have k5:=(W.wf.dn n hn m k1).1
   omega
 ·exact h
theorem bgB_to {rows:List Row} {lp:Nat→Nat} (W:TW rows lp) (G:WgA rows):∀ i,i≤rows.length→BgB (bgTo (tabOf rows) i)
 | 0,_=>fun n l h=>by
  show l.length≤_
  unfold bgTo bg0 at h
  rw [List.range_zero,List.foldl_nil,List.getElem?_set] at h
  split at h
  ·split at h
   ·cases h;simp
   ·cases h
  ·rw [List.getElem?_replicate] at h
   split at h<;>cases h
 | i + 1,hi=>by
  rw [bgTo_succ]
  exact bgB_step W G (bgB_to W G i (by omega)) (by omega)
def Odd (xs:List V):Prop:=∃ x∈xs,∀ k,x≠V.int k
theorem sqT_exb {K:PySem.W.Frag} {H H':Hp} {p b:Addr} {xs l:List V} (e:H p=some (.lst xs)) (x:ExB p H H') (h:SqT K H b l):SqT K H' b l:=by
 rcases h with h | h
 ·refine .inl ?_
  rcases h with h | ⟨ob,h⟩
  ·exact .inl (x _ _ (ne_of h e (fun z=>nomatch z)) h)
  ·exact .inr ⟨ob,x _ _ (ne_of h e (fun z=>nomatch z)) h⟩
 ·exact .inr h
theorem ints_exb {H H':Hp} {p a:Addr} {xs:List V} {l:List Int} (e:H p=some (.lst xs)) (hx:Odd xs) (x:ExB p H H') (h:H a=some (.lst (l.map V.int))):H' a=some (.lst (l.map V.int)) :=
 x _ _ (fun y=>by
  rw [y,e] at h
  injection h with h
  injection h with h
  obtain ⟨x,h1,h2⟩:=hx
  rw [h] at h1
  obtain ⟨k,_,h3⟩:=List.mem_map.mp h1
  exact h2 k h3.symm) h
theorem wt_exb {P:Program} {w:World} {K:PySem.W.Frag} {H H':Hp} {p d:Addr} {xs:List V} {t:Tw} (e:H p=some (.lst xs)) (hx:Odd xs) (x:ExB p H H') (D:Wt P w K hp0 H d t):Wt P w K hp0 H' d t:=by
 obtain ⟨o,es,⟨D1,D2⟩,R⟩:=D
 exact ⟨o,es,⟨x _ _ (ne_of D1 e (fun z=>nomatch z)) D1,fun y h=>sqT_exb e x (D2 y h)⟩,L2.Paired.mapP R fun _ _ z=>⟨z.1,let ⟨a,e1,e2,e3⟩:=z.2;⟨a,e1,ints_exb e hx x e2,e3⟩⟩⟩
theorem ansV_ex {K:PySem.W.Frag} {H H':Hp} {v:V}:∀ {l:Option (List Int)},Ex H H'→AnsV K H v l→AnsV K H' v l
 | none,_,h=>h
 | some l,e,⟨a,h1,h2⟩=>⟨a,h1,e _ _ h2⟩
theorem ansV_exb {K:PySem.W.Frag} {H H':Hp} {p:Addr} {xs:List V} {v:V} (e:H p=some (.lst xs)) (hx:Odd xs) (x:ExB p H H'):∀ {l:Option (List Int)},AnsV K H v l→AnsV K H' v l
 | none,h=>h
 | some l,⟨a,h1,h2⟩=>⟨a,h1,ints_exb e hx x h2⟩
theorem ansV_odd {K:PySem.W.Frag} {H:Hp} {bs:List V} {L:Bg} (h:Paired (AnsV K H) bs L) (hl:0<L.length):Odd bs:=by
 cases h with
 | nil=>simp at hl
 | @cons x y xs ys r t =>
  refine ⟨x,List.mem_cons_self,fun k z=>?_⟩
  cases y with
  | none=>cases (show x=V.non from r).symm.trans z
  | some l =>
   obtain ⟨a,h1,_⟩:=r
   cases h1.symm.trans z
theorem paired_set {α β:Type} {R:α→β→Prop} {x:α} {y:β} (r:R x y):∀ {xs:List α} {ys:List β},Paired R xs ys→∀ n,Paired R (xs.set n x) (ys.set n y)
 | _,_,.nil,_=>.nil
 | _,_,.cons _ t,0=>.cons r t
 | _,_,.cons r' t,n + 1=>.cons r' (paired_set r t n)
def FrV (N:Hp) (u:V):Prop:=∀ a,u=.ref a→N a=none
theorem FrV.of {N:Hp} {a:Addr} (h:N a=none):FrV N (.ref a):=fun b e=>by cases e;exact h
theorem FrV.non {N:Hp}:FrV N .non:=fun b e=>by cases e
def BgL (K:PySem.W.Frag) (F H:Hp) (p:Addr) (L:Bg):Prop:=∃ bs,H p=some (.lst bs)∧Paired (AnsV K H) bs L∧0<L.length∧∀ u∈bs,FrV F u
theorem bgL_ex {K:PySem.W.Frag} {F H H':Hp} {p:Addr} {L:Bg} (e:Ex H H') (h:BgL K F H p L):BgL K F H' p L:=let ⟨bs,h1,h2,h3⟩:=h;⟨bs,e _ _ h1,L2.Paired.mapP h2 fun _ _ z=>ansV_ex e z,h3⟩
theorem bgL_set {K:PySem.W.Frag} {F H:Hp} {p:Addr} {L:Bg} {v:V} {o:Option (List Int)} {bs:List V} {n:Nat} (h1:H p=some (.lst bs)) (h2:Paired (AnsV K H) bs L) (h3:0<L.length) (h4:∀ u∈bs,FrV F u) (hf:FrV F v) (hv:AnsV K H v o):BgL K F (upd H p (.lst (bs.set n v))) p (L.set n o)∧ExB p H (upd H p (.lst (bs.set n v))):=by
 have x:ExB p H (upd H p (.lst (bs.set n v))):=fun c u hc e=>by rw [upd_ne hc];exact e
 have od:=ansV_odd h2 h3
 exact ⟨⟨_,upd_same,paired_set (ansV_exb h1 od x hv) (L2.Paired.mapP h2 fun _ _ z=>ansV_exb h1 od x z) n,by rw [List.length_set];exact h3,fun u hu=>by
  rcases List.mem_or_eq_of_mem_set hu with z | z
  ·exact h4 u z
  ·rw [z];exact hf⟩,x⟩
theorem ex_exB' {F H H':Hp} {p:Addr} (e:Ex F H) (hp:F p=none) (b:ExB p H H'):Ex F H':=fun c o h=>b c o (ne_of_none h hp) (e c o h)
theorem paired_rep {α β:Type} {R:α→β→Prop} {x:α} {y:β} (r:R x y):∀ n,Paired R (List.replicate n x) (List.replicate n y)
 | 0=>.nil
 | n + 1=>.cons r (paired_rep r n)
structure BgK (P:Program) (w:World) (K:PySem.W.Frag) (F:Hp) (A:CAd) (rows:List Row) (lp:Nat→Nat) (a p:Addr) (ds:List Addr) (L:Bg) (H:Hp):Prop where
 x:CK K F A rows lp
 e:Ex F H
 f:F p=none
 la:H a=some (.lst (ds.map V.ref))
 n:a≠p
 w:WtA P w K hp0 H ds ((List.range rows.length).map (tbN (tabOf rows)))
 b:BgL K F H p L
theorem BgK.exb {P:Program} {w:World} {K:PySem.W.Frag} {F H H':Hp} {A:CAd} {rows:List Row} {lp:Nat→Nat} {a p:Addr} {ds:List Addr} {L L':Bg} (z:BgK P w K F A rows lp a p ds L H) (b:ExB p H H') (l:BgL K F H' p L'):BgK P w K F A rows lp a p ds L' H':=by
 obtain ⟨bs,h1,h2,h3,_⟩:=z.b
 have od:=ansV_odd h2 h3
 exact ⟨z.x,ex_exB' z.e z.f b,z.f,b _ _ z.n z.la,z.n,L2.Paired.mapP z.w fun _ _ y=>wt_exb h1 od b y,l⟩
theorem BgK.ex {P:Program} {w:World} {K:PySem.W.Frag} {F H H':Hp} {A:CAd} {rows:List Row} {lp:Nat→Nat} {a p:Addr} {ds:List Addr} {L:Bg} (z:BgK P w K F A rows lp a p ds L H) (e:Ex H H'):BgK P w K F A rows lp a p ds L H':=z.exb (exB_of e) (bgL_ex e z.b)
theorem BgK.dict {P:Program} {w:World} {K:PySem.W.Frag} {F H:Hp} {A:CAd} {rows:List Row} {lp:Nat→Nat} {a p:Addr} {ds:List Addr} {L:Bg} (z:BgK P w K F A rows lp a p ds L H) {c:Nat} (hc:c<rows.length):∃ d,(ds.map V.ref)[c]?=some (.ref d)∧Wt P w K hp0 H d (tbN (tabOf rows) c):=by
 obtain ⟨d,h1,h2⟩:=paired_getR z.w (show ((List.range rows.length).map (tbN (tabOf rows)))[c]?=some (tbN (tabOf rows) c) from by rw [List.getElem?_map,List.getElem?_range hc]<;>rfl)
 exact ⟨d,by rw [List.getElem?_map,h1]<;>rfl,h2⟩
theorem bg_put {P:Program} {w:World} {K:PySem.W.Frag} {F H:Hp} {A:CAd} {rows:List Row} {lp:Nat→Nat} {a p:Addr} {ds:List Addr} {L:Bg} {c:Nat} {v:V} {o:Option (List Int)} {Q:Hp→Prop} (Z:BgK P w K F A rows lp a p ds L H) (hc:c<L.length) (hv:AnsV K H v o) (hf:FrV F v) (q:∀ H',ExB p H H'→BgK P w K F A rows lp a p ds (L.set c o) H'→Q H'):rSetL (.ref p) (.int (c:Int)) v H Q:=by
 obtain ⟨bs,h1,h2,h3,h4⟩:=Z.b
 obtain ⟨k1,k2⟩:=bgL_set h1 h2 h3 h4 hf hv (n:=c)
 exact ⟨p,bs,_,c,rfl,rfl,h1,Evl.ixN_nat (by rw [Paired.length h2];exact hc),q _ k2 (Z.exb k2 k1)⟩
def bgRest (lf:Nat→Tw) (l:List Nat):Option (List Int)→List (Nat×Option (List Int))
 | none=>[]
 | some x=>bgSeq lf l x
theorem intsV_eq (l:List Nat):intsV l=(l.map fun n:Nat=>(n:Int)).map V.int:=by unfold intsV;rw [List.map_map]<;>rfl
theorem ints_exb' {H H':Hp} {p c:Addr} {xs:List V} {l:List Nat} (e:H p=some (.lst xs)) (hx:Odd xs) (x:ExB p H H') (h:H c=some (.lst (intsV l))):H' c=some (.lst (intsV l)):=by
 rw [intsV_eq] at h ⊢
 exact ints_exb e hx x h
def sp_bparts (P:Program) (w:World) (K:PySem.W.Frag):Sp:=fun vs H Q _=>∃ (F:Hp) (A:CAd) (rows:List Row) (lp:Nat→Nat) (a p:Addr) (ds:List Addr) (L:Bg) (n:Nat) (before:List Int),vs=[.ref A.p,.ref a,.ref p,.int (n:Int)]∧BgK P w K F A rows lp a p ds L H∧L.length=rows.length∧n<rows.length∧L[n]?=some (some before)∧before.length≤200000 ∧
 ∀ H',ExB p H H'→BgL K F H' p (setAll L (bgParts (tbN (tabOf rows)) ((tabOf rows).nd n) before))→Q .non H'
def sp_begin (P:Program) (w:World) (K:PySem.W.Frag):Sp:=fun vs H Q _=>∃ (F:Hp) (A:CAd) (rows:List Row) (lp:Nat→Nat),vs=[.ref A.p]∧CK K F A rows lp∧Ex F H∧∀ H' p,Ex H H'→H p=none→BgL K F H' p (bgAll (tabOf rows))→Q (.ref p) H'
section
variable {P:Program} {w:World} {h:Heap} {K:PySem.W.Frag} {mg:Str→Option Value} {base:Heap}
abbrev N_begin_parts:List Str:=["code","left","begun","number","kind","parts","before","part","after"]
theorem sc_begin_parts:FnScope N_begin_parts ["code","left","begun","number"] (defScope sd_begin_parts):=⟨rfl,rfl,rfl,by decide +kernel,rfl,by decide +kernel,by decide +kernel⟩
theorem ok_begin_parts (T:Tx w h K mg):Ok P w K mg base 3 ("begin_parts",none) ["code","left","begun","number"] (sp_bparts P w K):=by
 obtain ⟨fd,F⟩:=F_begin_parts T
 refine ⟨fd,?_,F.bindsN (fun _ _ _ _ _ _ us hl=>match us,hl with | [_,_,_,_],_=>rfl),F.kp⟩
 obtain ⟨fd_first_shortest,G_first_shortest,bi_first_shortest,kp_first_shortest⟩:=ok_first_shortest (P:=P) (base:=base) T
 refine F.ok sc_begin_parts (fun vs H Q E h=>?_) (fun cdv A outer s H vs Q E hr h=>?_)
 ·obtain ⟨F,A,rows,lp,a,p,ds,L,n,before,rfl,Z,hL,hn,hb,hbl,q⟩:=h
  rfl
 ·obtain ⟨F,A,rows,lp,a,p,ds,L,n,before,rfl,Z,hL,hn,hb,hbl,q⟩:=h
  refine ⟨_,PSs.nox (pss_cons (ps_par3 rfl sc_begin_parts.nd (i:=4) (j:=5) (l:=6) rfl rfl rfl (by decide) (by decide) (by decide) rfl rfl rfl (pa_cons (pe_ix ix_list (pe_fld (pv 0) rfl) (pv 3) (fun _ _=>rfl)) (pa_cons (pe_ix ix_list (pe_fld (pv 0) rfl) (pv 3) (fun _ _=>rfl)) (pa_cons (pe_ix ix_list (pv 2) (pv 3) (fun _ _=>rfl)) pa_nil))) (by rfl)) (pss_one (ps_if (pt_cmpR op_eq (pv 4) pe_str (nomark _)) (pss_cons (ps_asg (pe_op op_cat (pv 6) (pe_lst (pa_cons pe_int pa_nil))) (pg_sub (pv 2) (pe_ix ix_list (pv 5) pe_int (fun _ _=>rfl)) set_list)) (pss_one (ps_asg (pe_op op_cat (pv 6) (pe_lst (pa_cons pe_int pa_nil))) (pg_sub (pv 2) (pe_ix ix_list (pv 5) pe_int (fun _ _=>rfl)) set_list)))) (pss_one (ps_if (pt_cmpR op_eq (pv 4) pe_str (nomark _)) (pss_one (ps_asg (pe_op op_cat (pv 6) (pe_lst (pa_cons pe_int pa_nil))) (pg_sub (pv 2) (pe_ix ix_list (pv 5) pe_int (fun _ _=>rfl)) set_list))) (pss_one (ps_if (pt_cmpR op_eq (pv 4) pe_str (nomark _)) (pss_one (ps_for PassesOwn.never rfl (pi_list (pv 5)) (pg_name (i:=7) sc_begin_parts.nd rfl (Or.inl rfl)) (pss_one (ps_if (pt_cmpR op_notN (pv 6) pe_non (nomark _)) (pss_cons (ps_asg (pv 6) (pg_sub (pv 2) (pv 7) set_list)) (pss_one (ps_set (i:=6) sc_begin_parts.nd rfl (Or.inl rfl) (pe_ifExp (pt_cmpR (FcW.op_inW (hu_of hr)) (pe_glob (v:=.ref (He.ga K "NORMAL_ways")) rfl (g_NORMAL_ways T) rfl) (pe_ix ix_list (pv 1) (pv 7) (fun _ _=>rfl)) (by rfl)) (pe_op op_cat (pv 6) (pe_ix (FcW.ix_way (hu_of hr)) (pe_ix ix_list (pv 1) (pv 7) (fun _ _=>rfl)) (pe_glob (v:=.ref (He.ga K "NORMAL_ways")) rfl (g_NORMAL_ways T) rfl) (fun _ _=>rfl))) pe_non)))) pss_nil)))) (pss_one (ps_if (pt_cmpR op_in_seq (pv 4) (pe_tup (pa_cons pe_str (pa_cons pe_str pa_nil))) (by rfl)) (pss_cons (ps_asg (pv 6) (pg_sub (pv 2) (pe_ix ix_list (pv 5) pe_int (fun _ _=>rfl)) set_list)) (pss_cons (ps_set (i:=8) sc_begin_parts.nd rfl (Or.inl rfl) (pe_ifExp (pt_cmpR op_eq (pv 4) pe_str (nomark _)) (FcW.pe_bmW PySem.F.plainAttrs_dict PySem.F.slot_dict_get PySem.F.type_dict_get (FcW.mt_getW (hu_of hr)) (pe_ix ix_list (pv 1) (pe_ix ix_list (pv 5) pe_int (fun _ _=>rfl)) (fun _ _=>rfl)) (pa_cons (pe_glob (v:=.ref (He.ga K "RAISE_ways")) rfl (g_RAISE_ways T) rfl) pa_nil)) (pe_call G_first_shortest (hr.mono (by decide)) rfl (g_first_shortest T) kp_first_shortest bi_first_shortest .nil passF (pa_cons (pe_ix ix_list (pv 1) (pe_ix ix_list (pv 5) pe_int (fun _ _=>rfl)) (fun _ _=>rfl)) pa_nil)))) (pss_one (ps_asg (pe_ifExp (pt_cmpR op_isN (pv 8) pe_non (nomark _)) pe_non (pe_op op_cat (pv 6) (pv 8))) (pg_sub (pv 2) (pe_ix ix_list (pv 5) pe_int (fun _ _=>rfl)) set_list))))) pss_nil))))))))),?_⟩
  obtain ⟨bs,hp,pbs,lpos,frs⟩:=Z.b
  have od:=ansV_odd pbs lpos
  obtain ⟨r,hr⟩:=row_at hn
  have hnd:=tab_nd hr
  have hch:=(Z.x.w.sv n r hr).2.2
  obtain ⟨vs5,c,C5,a5⟩:=Z.x.at Z.e hr
  obtain ⟨vB,hvB,aB,rfl,hB⟩:=paired_getR pbs hb
  have frB:FrV F (.ref aB):=frs _ (List.mem_of_getElem? hvB)
  have hc1:∀ d∈r.ch,d<L.length∧d<rows.length:=fun d hd=>by
   have:=(Z.x.w.wf.dn n hn d (by rw [hnd,← hch];exact hd)).2.1
   exact ⟨by rw [hL];exact this,this⟩
  obtain ⟨_,pk2⟩:=parts_ok Z.x.w Z.x.g hn
  rw [hnd] at q pk2
  rw [← hch] at pk2
  have kd5:=a5.kd
  have hC:=a5.ch
  generalize hk:kindN (ndOf r)=kk at kd5
  refine ⟨_,rfl,A.p,_,_,_,_,rfl,C5.ob,c_Code T,na_Code_kinds T,fl_Code_kinds _ _ _ _ _,_,rfl,A.a2,_,_,_,rfl,rfl,Evl.sq_of C5.h2,atI_nat kd5,_,rfl,A.p,_,_,_,_,rfl,C5.ob,c_Code T,na_Code_children T,fl_Code_children _ _ _ _ _,_,rfl,A.a5,_,_,_,rfl,rfl,Evl.sq_of C5.h5,atI_nat a5.cs,_,rfl,_,rfl,p,_,_,_,rfl,rfl,Evl.sq_of hp,atI_nat hvB,_,_,_,rfl,?_⟩
  cases e:ndOf r with
  | iff x y =>
   rw [e] at hk hch q
   replace hk:kk="if":=hk.symm
   subst hk
   replace hch:r.ch=[x,y]:=hch
   rw [hch] at hC pk2 hc1
   refine ⟨_,rfl,rfl,_,rfl,itT (decide_eq_true rfl) ?_⟩
   refine ⟨_,rfl,sz (by simp),?_⟩
   intro p1 n1
   generalize e1:upd _ p1 _=H1
   obtain ⟨x1,s1,o1⟩:=new_of e1 n1
   clear e1
   refine ⟨aB,p1,_,_,rfl,rfl,x1 _ _ hB,s1,(by rw [List.length_map,sizeLine_eq];simp;omega),?_⟩
   intro p2 n2
   generalize e2:upd _ p2 _=H2
   obtain ⟨x2,s2,o2⟩:=new_of e2 n2
   clear e2
   have Z2:=Z.ex (Evl.Ex.trans x1 x2)
   refine ⟨_,rfl,_,rfl,c,_,_,_,rfl,rfl,Evl.sq_of (x2 _ _ (x1 _ _ hC)),atI_nat (ints_at (j:=0) rfl),bg_put Z2 (hc1 x (by simp)).1 (o:=some (before++[0])) ⟨p2,rfl,by rw [s2,List.map_append]<;>rfl⟩ (.of (ex_none (Z.e.trans x1) n2)) fun H3 b3 Z3=>?_⟩
   have b03:=exB_trans (exB_of (Evl.Ex.trans x1 x2)) b3
   refine ⟨_,rfl,sz (by simp),?_⟩
   intro p4 n4
   generalize e4:upd _ p4 _=H4
   obtain ⟨x4,s4,o4⟩:=new_of e4 n4
   clear e4
   refine ⟨aB,p4,_,_,rfl,rfl,x4 _ _ (ints_exb hp od b03 hB),s4,(by rw [List.length_map,sizeLine_eq];simp;omega),?_⟩
   intro p5 n5
   generalize e5:upd _ p5 _=H5
   obtain ⟨x5,s5,o5⟩:=new_of e5 n5
   clear e5
   have Z5:=Z3.ex (Evl.Ex.trans x4 x5)
   refine ⟨_,rfl,_,rfl,c,_,_,_,rfl,rfl,Evl.sq_of (x5 _ _ (x4 _ _ (ints_exb' hp od b03 hC))),atI_nat (ints_at (j:=1) rfl),bg_put Z5 (by rw [List.length_set];exact (hc1 y (by simp)).1) (o:=some (before++[1])) ⟨p5,rfl,by rw [s5,List.map_append]<;>rfl⟩ (.of (ex_none (Z3.e.trans x4) n5)) fun H6 b6 Z6=>?_⟩
   exact q _ (exB_trans b03 (exB_trans (exB_of (Evl.Ex.trans x4 x5)) b6)) Z6.b
  | whl x =>
   rw [e] at hk hch q
   replace hk:kk="while":=hk.symm
   subst hk
   replace hch:r.ch=[x]:=hch
   rw [hch] at hC pk2 hc1
   refine ⟨_,rfl,rfl,_,rfl,itF (decide_eq_false (by decide)) ?_⟩
   refine ⟨_,rfl,rfl,_,rfl,itT (decide_eq_true rfl) ?_⟩
   refine ⟨_,rfl,sz (by simp),?_⟩
   intro p1 n1
   generalize e1:upd _ p1 _=H1
   obtain ⟨x1,s1,o1⟩:=new_of e1 n1
   clear e1
   refine ⟨aB,p1,_,_,rfl,rfl,x1 _ _ hB,s1,(by rw [List.length_map,sizeLine_eq];simp;omega),?_⟩
   intro p2 n2
   generalize e2:upd _ p2 _=H2
   obtain ⟨x2,s2,o2⟩:=new_of e2 n2
   clear e2
   have Z2:=Z.ex (Evl.Ex.trans x1 x2)
   refine ⟨_,rfl,_,rfl,c,_,_,_,rfl,rfl,Evl.sq_of (x2 _ _ (x1 _ _ hC)),atI_nat (ints_at (j:=0) rfl),bg_put Z2 (hc1 x (by simp)).1 (o:=some (before++[1])) ⟨p2,rfl,by rw [s2,List.map_append]<;>rfl⟩ (.of (ex_none (Z.e.trans x1) n2)) fun H3 b3 Z3=>?_⟩
   exact q _ (exB_trans (exB_of (Evl.Ex.trans x1 x2)) b3) Z3.b
  | seq l =>
   rw [e] at hk hch q
   replace hk:kk="seq":=hk.symm
   subst hk
   replace hch:r.ch=l:=hch
   rw [hch] at hC pk2 hc1
   refine ⟨_,rfl,rfl,_,rfl,itF (decide_eq_false (by decide)) ?_⟩
   refine ⟨_,rfl,rfl,_,rfl,itF (decide_eq_false (by decide)) ?_⟩
   refine ⟨_,rfl,rfl,_,rfl,itT (decide_eq_true rfl) ?_⟩
   have cl:l.length≤400:=by
    obtain ⟨x,hx,g⟩:=Z.x.g n hn
    have:=wg_len g
    rw [hnd,e] at this
    show l.length≤400
    have z:(Node.seq l).ch=l:=rfl
    rw [z] at this
    omega
   refine ⟨_,rfl,c,rfl,⟨_,Evl.sq_of hC⟩,?_⟩
   refine for_it (walk_list (xs:=intsV l)) (fun j σ' H'=>∃ (o7:Option V) (u:V) (bf:Option (List Int)) (L':Bg),ExB p H H'∧BgK P w K F A rows lp a p ds L' H'∧L'.length=rows.length∧FrV F u∧AnsV K H' u bf∧(∀ x,bf=some x→x.length≤200000 + 400 * j) ∧
    setAll L (bgSeq (tbN (tabOf rows)) l before)=setAll L' (bgRest (tbN (tabOf rows)) (l.drop j) bf)∧σ'=[some (.ref A.p),some (.ref a),some (.ref p),some (.int (n:Int)),some (.str "seq"),some (.ref c),some u,o7,none]) ?_ ?_ ?_ ?_
   ·exact ⟨_,_,some before,L,exB_of (Evl.Ex.refl _),Z,hL,frB,⟨aB,rfl,hB⟩,fun x z=>by cases z;omega,rfl,rfl⟩
   ·rintro j σ' H' _ ⟨o7,u,bf,L',b1,_,_,_,_,_,_,rfl⟩
    exact Evl.sq_of (ints_exb' hp od b1 hC)
   ·rintro j v σ' H1 H2 hj ⟨o7,u,bf,L',b1,Z1,l1,fru,au,bd,eq,rfl⟩ ⟨rfl,hv⟩
    obtain ⟨d,hd,rfl⟩:∃ d,l[j]?=some d∧v=.int (d:Int):=by
     unfold intsV at hv
     rw [List.getElem?_map] at hv
     obtain ⟨d,g1,g2⟩:=Option.map_eq_some_iff.mp hv
     exact ⟨d,g1,g2.symm⟩
    have hjl:=(List.getElem?_eq_some_iff.mp hd).1
    have dr:l.drop j=d::l.drop (j + 1):=by
     rw [List.drop_eq_getElem_cons hjl]
     congr 1
     exact (List.getElem?_eq_some_iff.mp hd).2
    cases bf with
    | none =>
     obtain rfl:u=.non:=au
     exact ⟨_,rfl,rfl,_,rfl,itF rfl ⟨_,_,none,L',b1,Z1,l1,.non,rfl,(fun x z=>nomatch z),eq,rfl⟩⟩
    | some x =>
     obtain ⟨ax,rfl,hx⟩:=au
     have bx:=bd x rfl
     refine ⟨_,rfl,rfl,_,rfl,itT rfl ?_⟩
     have dm:=List.mem_of_getElem? hd
     refine ⟨_,rfl,_,rfl,_,rfl,bg_put Z1 (by rw [l1];exact (hc1 d dm).2) (o:=some x) ⟨ax,rfl,hx⟩ fru fun H3 b3 Z3=>?_⟩
     obtain ⟨bs1,hp1,pb1,lp1,_⟩:=Z1.b
     have hx3:=ints_exb hp1 (ansV_odd pb1 lp1) b3 hx
     obtain ⟨dd,hdd,o,xs,D,R⟩:=Z3.dict (hc1 d dm).2
     have kn:SqT K H3 (He.ga K "NORMAL_ways") ((wk .nrm).map kV):=t_NORMAL_ways T _
     have st:∀ bf':Option (List Int),(bgSeq (tbN (tabOf rows)) (l.drop j) x=(d,some x)::bgRest (tbN (tabOf rows)) (l.drop (j + 1)) bf')→setAll L (bgSeq (tbN (tabOf rows)) l before)=setAll (L'.set d (some x)) (bgRest (tbN (tabOf rows)) (l.drop (j + 1)) bf'):=fun bf' z=>by
      rw [eq]
      show setAll L' (bgSeq (tbN (tabOf rows)) (l.drop j) x)=_
      rw [z]<;>rfl
     rcases tbr_val R .nrm with ⟨hval,e2⟩ | ⟨cc,old,hval,e2,hold⟩
     ·refine ⟨_,rfl,_,rfl,a,_,_,_,rfl,rfl,Evl.sq_of Z3.la,atI_nat hdd,dd,He.ga K "NORMAL_ways",o,xs,wk .nrm,rfl,rfl,D,kn,?_⟩
      rw [hval]
      refine ⟨_,rfl,itF rfl ⟨_,_,none,_,exB_trans b1 b3,Z3,by rw [List.length_set];exact l1,.non,rfl,(fun x z=>nomatch z),st none ?_,rfl⟩⟩
      rw [dr]
      unfold bgSeq
      rw [e2]<;>rfl
     ·refine ⟨_,rfl,_,rfl,a,_,_,_,rfl,rfl,Evl.sq_of Z3.la,atI_nat hdd,dd,He.ga K "NORMAL_ways",o,xs,wk .nrm,rfl,rfl,D,kn,?_⟩
      rw [hval]
      have ol:old.length≤400:=by
       obtain ⟨z,hz,ez⟩:=lkT_mem e2
       rw [← ez]
       exact ((pk2 d dm).2 z hz).1
      refine ⟨_,rfl,itT rfl ⟨_,rfl,_,rfl,_,rfl,a,_,_,_,rfl,rfl,Evl.sq_of Z3.la,atI_nat hdd,dd,He.ga K "NORMAL_ways",o,xs,wk .nrm,_,rfl,rfl,D,kn,hval,ax,cc,_,_,rfl,rfl,hx3,hold,(by rw [List.length_map,List.length_map,sizeLine_eq];omega),?_⟩⟩
      intro p8 n8
      generalize e8:upd _ p8 _=H8
      obtain ⟨x8,s8,o8⟩:=new_of e8 n8
      clear e8
      refine ⟨_,_,some (x++old),_,exB_trans b1 (exB_trans b3 (exB_of x8)),Z3.ex x8,by rw [List.length_set];exact l1,.of (ex_none Z3.e n8),⟨p8,rfl,by rw [s8,List.map_append]⟩,fun y z=>?_,st _ ?_,rfl⟩
      ·cases z
       rw [List.length_append]
       omega
      ·rw [dr]
       conv=>lhs;unfold bgSeq
       rw [e2]<;>rfl
   ·rintro σ' H' ⟨o7,u,bf,L',b1,Z1,l1,fru,au,bd,eq,rfl⟩
    have z:l.drop (intsV l).length=[]:=by unfold intsV;simp
    rw [z] at eq
    refine q _ b1 ?_
    show BgL K F H' p (setAll L (bgSeq (tbN (tabOf rows)) l before))
    rw [eq]
    cases bf with
    | none=>exact Z1.b
    | some x=>exact Z1.b
  | tr x y =>
   rw [e] at hk hch q
   replace hk:kk="try":=hk.symm
   subst hk
   replace hch:r.ch=[x,y]:=hch
   rw [hch] at hC pk2 hc1
   refine ⟨_,rfl,rfl,_,rfl,itF (decide_eq_false (by decide)) ?_⟩
   refine ⟨_,rfl,rfl,_,rfl,itF (decide_eq_false (by decide)) ?_⟩
   refine ⟨_,rfl,rfl,_,rfl,itF (decide_eq_false (by decide)) ?_⟩
   refine ⟨_,rfl,sz (by simp),?_⟩
   intro p1 n1
   generalize e1:upd _ p1 _=H1
   obtain ⟨x1,s1,o1⟩:=new_of e1 n1
   clear e1
   refine ⟨p1,_,rfl,.inr (Evl.st_of s1),rfl,flat_strs ["try","final"],_,rfl,itT (in_strs (k:="try") (l:=["try","final"]) (by decide)) ?_⟩
   refine ⟨_,rfl,_,rfl,_,rfl,c,_,_,_,rfl,rfl,Evl.sq_of (x1 _ _ hC),atI_nat (ints_at (j:=0) rfl),bg_put (Z.ex x1) (hc1 x (by simp)).1 (o:=some before) ⟨aB,rfl,x1 _ _ hB⟩ frB fun H3 b3 Z3=>?_⟩
   have b03:=exB_trans (exB_of x1) b3
   have hC3:=ints_exb' hp od b03 hC
   have hB3:=ints_exb hp od b03 hB
   obtain ⟨dd,hdd,o,xs,D,R⟩:=Z3.dict (hc1 x (by simp)).2
   refine ⟨_,rfl,rfl,_,rfl,itT (decide_eq_true rfl) ?_⟩
   refine ⟨_,rfl,_,rfl,c,_,_,_,rfl,rfl,Evl.sq_of hC3,atI_nat (ints_at (j:=0) rfl),a,_,_,_,rfl,rfl,Evl.sq_of Z3.la,atI_nat hdd,⟨dd,o,xs,rfl,D.1⟩,dd,He.ga K "RAISE_ways",o,xs,wk .rai,rfl,rfl,D,t_RAISE_ways T _,?_⟩
   rcases tbr_val R .rai with ⟨hval,e2⟩ | ⟨cc,old,hval,e2,hold⟩
   ·rw [hval]
    refine ⟨_,rfl,rfl,_,rfl,itT rfl ?_⟩
    refine ⟨_,rfl,_,rfl,c,_,_,_,rfl,rfl,Evl.sq_of hC3,atI_nat (ints_at (j:=1) rfl),bg_put Z3 (by rw [List.length_set];exact (hc1 y (by simp)).1) (o:=none) rfl .non fun H6 b6 Z6=>?_⟩
    refine q _ (exB_trans b03 b6) ?_
    show BgL K F H6 p ((L.set x (some before)).set y ((lk (tbN (tabOf rows) x) .rai).map (before++·)))
    rw [e2]
    exact Z6.b
   ·rw [hval]
    refine ⟨_,rfl,rfl,_,rfl,itF rfl ?_⟩
    have ol:old.length≤400:=by
     obtain ⟨z,hz,ez⟩:=lkT_mem e2
     rw [← ez]
     exact ((pk2 x (by simp)).2 z hz).1
    refine ⟨_,rfl,_,rfl,aB,cc,_,_,rfl,rfl,hB3,hold,(by rw [List.length_map,List.length_map,sizeLine_eq];omega),?_⟩
    intro p8 n8
    generalize e8:upd _ p8 _=H8
    obtain ⟨x8,s8,o8⟩:=new_of e8 n8
    clear e8
    refine ⟨_,rfl,_,rfl,c,_,_,_,rfl,rfl,Evl.sq_of (x8 _ _ hC3),atI_nat (ints_at (j:=1) rfl),bg_put (Z3.ex x8) (by rw [List.length_set];exact (hc1 y (by simp)).1) (o:=some (before++old)) ⟨p8,rfl,by rw [s8,List.map_append]⟩ (.of (ex_none Z3.e n8)) fun H6 b6 Z6=>?_⟩
    refine q _ (exB_trans b03 (exB_trans (exB_of x8) b6)) ?_
    show BgL K F H6 p ((L.set x (some before)).set y ((lk (tbN (tabOf rows) x) .rai).map (before++·)))
    rw [e2]
    exact Z6.b
  | fin x y =>
   rw [e] at hk hch q
   replace hk:kk="final":=hk.symm
   subst hk
   replace hch:r.ch=[x,y]:=hch
   rw [hch] at hC pk2 hc1
   refine ⟨_,rfl,rfl,_,rfl,itF (decide_eq_false (by decide)) ?_⟩
   refine ⟨_,rfl,rfl,_,rfl,itF (decide_eq_false (by decide)) ?_⟩
   refine ⟨_,rfl,rfl,_,rfl,itF (decide_eq_false (by decide)) ?_⟩
   refine ⟨_,rfl,sz (by simp),?_⟩
   intro p1 n1
   generalize e1:upd _ p1 _=H1
   obtain ⟨x1,s1,o1⟩:=new_of e1 n1
   clear e1
   refine ⟨p1,_,rfl,.inr (Evl.st_of s1),rfl,flat_strs ["try","final"],_,rfl,itT (in_strs (k:="final") (l:=["try","final"]) (by decide)) ?_⟩
   refine ⟨_,rfl,_,rfl,_,rfl,c,_,_,_,rfl,rfl,Evl.sq_of (x1 _ _ hC),atI_nat (ints_at (j:=0) rfl),bg_put (Z.ex x1) (hc1 x (by simp)).1 (o:=some before) ⟨aB,rfl,x1 _ _ hB⟩ frB fun H3 b3 Z3=>?_⟩
   have b03:=exB_trans (exB_of x1) b3
   have hC3:=ints_exb' hp od b03 hC
   have hB3:=ints_exb hp od b03 hB
   obtain ⟨dd,hdd,o,xs,D,R⟩:=Z3.dict (hc1 x (by simp)).2
   refine ⟨_,rfl,rfl,_,rfl,itF (decide_eq_false (by decide)) ?_⟩
   refine ⟨_,rfl,_,rfl,c,_,_,_,rfl,rfl,Evl.sq_of hC3,atI_nat (ints_at (j:=0) rfl),a,_,_,_,rfl,rfl,Evl.sq_of Z3.la,atI_nat hdd,hp0,dd,_,rfl,⟨o,xs,D,R⟩,fun H4 u x4 au=>?_⟩
   have hC4:=x4 _ _ hC3
   have Z4:=Z3.ex x4
   obtain ⟨sh,esh,z,hz,ez⟩:=shortT_some (pk2 x (by simp)).1
   have ol:=((pk2 x (by simp)).2 z hz).1
   rw [ez] at ol
   rw [esh] at au
   obtain ⟨cc,rfl,hold⟩:=au
   refine ⟨_,rfl,rfl,_,rfl,itF rfl ?_⟩
   refine ⟨_,rfl,_,rfl,aB,cc,_,_,rfl,rfl,x4 _ _ hB3,hold,(by rw [List.length_map,List.length_map,sizeLine_eq];omega),?_⟩
   intro p8 n8
   generalize e8:upd _ p8 _=H8
   obtain ⟨x8,s8,o8⟩:=new_of e8 n8
   clear e8
   refine ⟨_,rfl,_,rfl,c,_,_,_,rfl,rfl,Evl.sq_of (x8 _ _ hC4),atI_nat (ints_at (j:=1) rfl),bg_put (Z4.ex x8) (by rw [List.length_set];exact (hc1 y (by simp)).1) (o:=some (before++sh)) ⟨p8,rfl,by rw [s8,List.map_append]⟩ (.of (ex_none Z4.e n8)) fun H6 b6 Z6=>?_⟩
   refine q _ (exB_trans b03 (exB_trans (exB_of (Evl.Ex.trans x4 x8)) b6)) ?_
   show BgL K F H6 p ((L.set x (some before)).set y ((shortT (tbN (tabOf rows) x)).map (before++·)))
   rw [esh]
   exact Z6.b
  | do_ =>
   rw [e] at hk q
   replace hk:kk="do":=hk.symm
   subst hk
   refine ⟨_,rfl,rfl,_,rfl,itF (decide_eq_false (by decide)) ?_⟩
   refine ⟨_,rfl,rfl,_,rfl,itF (decide_eq_false (by decide)) ?_⟩
   refine ⟨_,rfl,rfl,_,rfl,itF (decide_eq_false (by decide)) ?_⟩
   refine ⟨_,rfl,sz (by simp),?_⟩
   intro p1 n1
   generalize e1:upd _ p1 _=H1
   obtain ⟨x1,s1,o1⟩:=new_of e1 n1
   clear e1
   refine ⟨p1,_,rfl,.inr (Evl.st_of s1),rfl,flat_strs ["try","final"],_,rfl,itF (in_strs (k:="do") (l:=["try","final"]) (by decide)) ?_⟩
   exact q _ (exB_of x1) (bgL_ex x1 Z.b)
  | call =>
   rw [e] at hk q
   replace hk:kk="call":=hk.symm
   subst hk
   refine ⟨_,rfl,rfl,_,rfl,itF (decide_eq_false (by decide)) ?_⟩
   refine ⟨_,rfl,rfl,_,rfl,itF (decide_eq_false (by decide)) ?_⟩
   refine ⟨_,rfl,rfl,_,rfl,itF (decide_eq_false (by decide)) ?_⟩
   refine ⟨_,rfl,sz (by simp),?_⟩
   intro p1 n1
   generalize e1:upd _ p1 _=H1
   obtain ⟨x1,s1,o1⟩:=new_of e1 n1
   clear e1
   refine ⟨p1,_,rfl,.inr (Evl.st_of s1),rfl,flat_strs ["try","final"],_,rfl,itF (in_strs (k:="call") (l:=["try","final"]) (by decide)) ?_⟩
   exact q _ (exB_of x1) (bgL_ex x1 Z.b)
  | ret =>
   rw [e] at hk q
   replace hk:kk="return":=hk.symm
   subst hk
   refine ⟨_,rfl,rfl,_,rfl,itF (decide_eq_false (by decide)) ?_⟩
   refine ⟨_,rfl,rfl,_,rfl,itF (decide_eq_false (by decide)) ?_⟩
   refine ⟨_,rfl,rfl,_,rfl,itF (decide_eq_false (by decide)) ?_⟩
   refine ⟨_,rfl,sz (by simp),?_⟩
   intro p1 n1
   generalize e1:upd _ p1 _=H1
   obtain ⟨x1,s1,o1⟩:=new_of e1 n1
   clear e1
   refine ⟨p1,_,rfl,.inr (Evl.st_of s1),rfl,flat_strs ["try","final"],_,rfl,itF (in_strs (k:="return") (l:=["try","final"]) (by decide)) ?_⟩
   exact q _ (exB_of x1) (bgL_ex x1 Z.b)
  | rai =>
   rw [e] at hk q
   replace hk:kk="raise":=hk.symm
   subst hk
   refine ⟨_,rfl,rfl,_,rfl,itF (decide_eq_false (by decide)) ?_⟩
   refine ⟨_,rfl,rfl,_,rfl,itF (decide_eq_false (by decide)) ?_⟩
   refine ⟨_,rfl,rfl,_,rfl,itF (decide_eq_false (by decide)) ?_⟩
   refine ⟨_,rfl,sz (by simp),?_⟩
   intro p1 n1
   generalize e1:upd _ p1 _=H1
   obtain ⟨x1,s1,o1⟩:=new_of e1 n1
   clear e1
   refine ⟨p1,_,rfl,.inr (Evl.st_of s1),rfl,flat_strs ["try","final"],_,rfl,itF (in_strs (k:="raise") (l:=["try","final"]) (by decide)) ?_⟩
   exact q _ (exB_of x1) (bgL_ex x1 Z.b)
  | brk k =>
   rw [e] at hk q
   replace hk:kk="break":=hk.symm
   subst hk
   refine ⟨_,rfl,rfl,_,rfl,itF (decide_eq_false (by decide)) ?_⟩
   refine ⟨_,rfl,rfl,_,rfl,itF (decide_eq_false (by decide)) ?_⟩
   refine ⟨_,rfl,rfl,_,rfl,itF (decide_eq_false (by decide)) ?_⟩
   refine ⟨_,rfl,sz (by simp),?_⟩
   intro p1 n1
   generalize e1:upd _ p1 _=H1
   obtain ⟨x1,s1,o1⟩:=new_of e1 n1
   clear e1
   refine ⟨p1,_,rfl,.inr (Evl.st_of s1),rfl,flat_strs ["try","final"],_,rfl,itF (in_strs (k:="break") (l:=["try","final"]) (by decide)) ?_⟩
   exact q _ (exB_of x1) (bgL_ex x1 Z.b)
  | cnt k =>
   rw [e] at hk q
   replace hk:kk="continue":=hk.symm
   subst hk
   refine ⟨_,rfl,rfl,_,rfl,itF (decide_eq_false (by decide)) ?_⟩
   refine ⟨_,rfl,rfl,_,rfl,itF (decide_eq_false (by decide)) ?_⟩
   refine ⟨_,rfl,rfl,_,rfl,itF (decide_eq_false (by decide)) ?_⟩
   refine ⟨_,rfl,sz (by simp),?_⟩
   intro p1 n1
   generalize e1:upd _ p1 _=H1
   obtain ⟨x1,s1,o1⟩:=new_of e1 n1
   clear e1
   refine ⟨p1,_,rfl,.inr (Evl.st_of s1),rfl,flat_strs ["try","final"],_,rfl,itF (in_strs (k:="continue") (l:=["try","final"]) (by decide)) ?_⟩
   exact q _ (exB_of x1) (bgL_ex x1 Z.b)
abbrev N_begin_answers:List Str:=["code","left","begun","number"]
theorem sc_begin_answers:FnScope N_begin_answers ["code"] (defScope sd_begin_answers):=⟨rfl,rfl,rfl,by decide +kernel,rfl,by decide +kernel,by decide +kernel⟩
theorem ok_begin_answers (T:Tx w h K mg):Ok P w K mg base 5 ("begin_answers",none) ["code"] (sp_begin P w K):=by
 obtain ⟨fd,F⟩:=F_begin_answers T
 refine ⟨fd,?_,F.bindsN (fun _ _ _ _ _ _ us hl=>match us,hl with | [_],_=>rfl),F.kp⟩
 obtain ⟨fd_begin_parts,G_begin_parts,bi_begin_parts,kp_begin_parts⟩:=ok_begin_parts (P:=P) (base:=base) T
 obtain ⟨fd_shortest_answers,G_shortest_answers,bi_shortest_answers,kp_shortest_answers⟩:=ok_shortest_answers (P:=P) (base:=base) T
 obtain ⟨fd_Code___len__,G_Code___len__,bi_Code___len__,kp_Code___len__⟩:=ok_Code___len__ (P:=P) (base:=base) T
 refine F.ok sc_begin_answers (fun vs H Q E h=>?_) (fun cdv A outer s H vs Q E hr h=>?_)
 ·obtain ⟨F,A,rows,lp,rfl,X,xF,q⟩:=h
  rfl
 ·obtain ⟨F,A,rows,lp,rfl,X,xF,q⟩:=h
  refine ⟨_,PSs.nox (pss_cons (ps_set (i:=1) sc_begin_answers.nd rfl (Or.inl rfl) (pe_call G_shortest_answers (hr.mono (by decide)) rfl (g_shortest_answers T) kp_shortest_answers bi_shortest_answers .nil passF (pa_cons (pv 0) pa_nil))) (pss_cons (ps_set (i:=2) sc_begin_answers.nd rfl (Or.inl rfl) (pe_op op_rep (pe_lst (pa_cons pe_non pa_nil)) (pe_callB (FcO.call_lenO G_Code___len__ (hr.mono (by decide)) (me_Code___len__ T) bi_Code___len__ passF) rfl (fr_len T) b_len (pa_cons (pv 0) pa_nil)))) (pss_cons (ps_asg (pe_lst pa_nil) (pg_sub (pv 2) pe_int set_list)) (pss_cons (ps_for PassesOwn.never rfl (pi_range1 rfl (fr_range T) (pa_cons (pe_callB (FcO.call_lenO G_Code___len__ (hr.mono (by decide)) (me_Code___len__ T) bi_Code___len__ passF) rfl (fr_len T) b_len (pa_cons (pv 0) pa_nil)) pa_nil)) (pg_name (i:=3) sc_begin_answers.nd rfl (Or.inl rfl)) (pss_one (ps_if (pt_cmpR op_notN (pe_ix ix_list (pv 2) (pv 3) (fun _ _=>rfl)) pe_non (nomark _)) (pss_one (ps_expr (pe_call G_begin_parts (hr.mono (by decide)) rfl (g_begin_parts T) kp_begin_parts bi_begin_parts .nil passF (pa_cons (pv 0) (pa_cons (pv 1) (pa_cons (pv 2) (pa_cons (pv 3) pa_nil))))))) pss_nil))) (pss_one (ps_ret (pv 2))))))),?_⟩
  have hl4:=X.l
  have hN:=X.w.wf.ne
  refine ⟨_,rfl,F,A,rows,lp,rfl,X,xF,fun H1 a ds x1 na sa wa=>?_⟩
  replace wa:WtA P w K hp0 H1 ds ((List.range rows.length).map (tbN (tabOf rows))):=wta_hp0 wa
  refine ⟨sz (by simp),?_⟩
  intro p2 n2
  generalize e2:upd _ p2 _=H2
  obtain ⟨x2,s2,o2⟩:=new_of e2 n2
  clear e2
  have xF2:=Evl.Ex.trans xF (Evl.Ex.trans x1 x2)
  obtain ⟨vs2,C2,_⟩:=X.c.ex (Evl.Ex.refl _) xF2
  refine ⟨_,rfl,A.p,_,_,rfl,C2.ob,F,A,rows,rfl,X.c,xF2,rows.length,rfl,(by omega),p2,_,_,rfl,rfl,s2,by omega,by omega,sz (by simp;omega),?_⟩
  intro p3 n3
  generalize e3:upd _ p3 _=H3
  obtain ⟨x3,s3,o3⟩:=new_of e3 n3
  clear e3
  rw [show ((rows.length:Int)).toNat=rows.length from by omega,rep1] at s3
  refine ⟨sz (by simp),?_⟩
  intro p4 n4
  generalize e4:upd _ p4 _=H4
  obtain ⟨x4,s4,o4⟩:=new_of e4 n4
  clear e4
  have x14:=Evl.Ex.trans x2 (Evl.Ex.trans x3 x4)
  have x04:=Evl.Ex.trans x1 x14
  have f3:F p3=none:=ex_none xF2 n3
  have Z0:BgK P w K F A rows lp a p3 ds (List.replicate rows.length none) H4:=⟨X,Evl.Ex.trans xF x04,f3,x14 _ _ sa,(fun z=>by rw [z,ex_none (Evl.Ex.trans x2 (Evl.Ex.refl _)) n3] at sa;cases sa),wta_ex x14 wa,⟨_,x4 _ _ s3,paired_rep (R:=AnsV K H4) (x:=.non) (y:=none) rfl _,by rw [List.length_replicate];exact hN,fun u hu=>by rw [(List.mem_replicate.mp hu).2];exact .non⟩⟩
  refine ⟨_,rfl,bg_put (c:=0) Z0 (by rw [List.length_replicate];exact hN) (o:=some []) ⟨p4,rfl,s4⟩ (.of (ex_none (xF2.trans x3) n4)) fun H5 b5 Z5=>?_⟩
  obtain ⟨vs5,C5,_⟩:=X.c.ex (Evl.Ex.refl _) Z5.e
  refine ⟨_,rfl,A.p,_,_,rfl,C5.ob,F,A,rows,rfl,X.c,Z5.e,rows.length,rfl,(by omega),_,rfl,(by omega),(by omega),?_⟩
  refine for_it (walk_range (lo:=0) (n:=rows.length)) (fun i σ' H'=>∃ o3:Option V,ExB p3 H4 H'∧BgK P w K F A rows lp a p3 ds (bgTo (tabOf rows) i) H'∧σ'=[some (.ref A.p),some (.ref a),some (.ref p3),o3]) ?_ ?_ ?_ ?_
  ·exact ⟨_,b5,Z5,rfl⟩
  ·exact fun _ _ _ _ _=>True.intro
  ·rintro i v σ' H6 H7 hi ⟨o3,b6,Z6,rfl⟩ ⟨rfl,hv⟩
   obtain rfl:v=.int (i:Int):=hv.trans (congrArg V.int (by omega))
   obtain ⟨bs,hp,pbs,lpos,_⟩:=Z6.b
   have hL:=len_bgTo (tabOf rows) i
   have hL:(bgTo (tabOf rows) i).length=rows.length:=hL
   obtain ⟨o,ho⟩:∃ o,(bgTo (tabOf rows) i)[i]?=some o:=⟨_,List.getElem?_eq_getElem (by rw [hL];exact hi)⟩
   obtain ⟨u,hu,au⟩:=paired_getR pbs ho
   have e1:=bgTo_succ (tabOf rows) i
   unfold bgStep at e1
   cases o with
   | none =>
    obtain rfl:u=.non:=au
    rw [ho] at e1
    refine ⟨_,rfl,_,rfl,p3,_,_,_,rfl,rfl,Evl.sq_of hp,atI_nat hu,rfl,_,rfl,itF rfl ⟨_,b6,?_,rfl⟩⟩
    rw [e1]
    exact Z6
   | some before =>
    obtain ⟨ax,rfl,hx⟩:=au
    rw [ho] at e1
    have bl:=bgB_to X.w X.g i (Nat.le_of_lt hi) i before ho
    refine ⟨_,rfl,_,rfl,p3,_,_,_,rfl,rfl,Evl.sq_of hp,atI_nat hu,rfl,_,rfl,itT rfl ?_⟩
    refine ⟨_,rfl,_,rfl,_,rfl,_,rfl,F,A,rows,lp,a,p3,ds,_,i,before,rfl,Z6,hL,hi,ho,by omega,fun H8 b8 B8=>⟨_,exB_trans b6 b8,?_,rfl⟩⟩
    rw [e1]
    exact Z6.exb b8 B8
  ·rintro σ' H' ⟨o3,b6,Z6,rfl⟩
   exact ⟨_,rfl,q _ _ (ex_exB' x04 (ex_none (Evl.Ex.trans x1 x2) n3) b6) (ex_none (Evl.Ex.trans x1 x2) n3) Z6.b⟩
end
end
end Fc
set_option maxRecDepth 100000
set_option maxHeartbeats 4000000
namespace FcM
inductive Lay (t:Tab):Nat→List Nat→Prop
 | top {n:Nat} (h:t.pr n=none):Lay t n []
 | blk {n p a:Nat} {l:List Nat} (h:t.pr n=some p) (hd:t.nd p=.fin a n) (hn:n≠a) (r:Lay t p l):Lay t n (l++[p])
 | up {n p:Nat} {l:List Nat} (h:t.pr n=some p) (hd:∀ a,t.nd p=.fin a n→n=a) (r:Lay t p l):Lay t n l
section
variable {t:Tab} {lp:Nat→Nat} {bits:List Bool} {B:Nat}
def LayP (t:Tab) (s:Nat) (l:List Nat):Prop:=match t.nd s with
 | .fin _ _=>∃ l',l=l'++[s]∧Lay t s l'
 | _=>Lay t s l
theorem LayP.of {s:Nat} {l:List Nat} (h:∀ a b,t.nd s≠.fin a b) (r:Lay t s l):LayP t s l:=by
 unfold LayP
 split
 ·rename_i a b e;exact absurd e (h a b)
 ·exact r
theorem LayP.get {s:Nat} {l:List Nat} (h:∀ a b,t.nd s≠.fin a b) (r:LayP t s l):Lay t s l:=by
 unfold LayP at r
 split at r
 ·rename_i a b e;exact absurd e (h a b)
 ·exact r
end
end FcM
set_option maxRecDepth 100000
set_option maxHeartbeats 4000000
namespace Fc
open PySem PySem.Spec PyProof.Rows L2 FcR
open Evl (Ex)
section
open FcM (Way Node Tab Pd Rs Wt)
theorem intsV_app (l:List Nat) (n:Nat):intsV l++[.int (n:Int)]=intsV (l++[n]):=by unfold intsV;rw [List.map_append]<;>rfl
theorem intsV_len (l:List Nat):(intsV l).length=l.length:=by unfold intsV;rw [List.length_map]
theorem kind_fin {d:Node} (h:kindN d="final"):∃ a b,d=.fin a b:=by
 cases d with
 | fin a b=>exact ⟨a,b,rfl⟩
 | do_=>exact absurd h (by decide +kernel)
 | call=>exact absurd h (by decide +kernel)
 | ret=>exact absurd h (by decide +kernel)
 | rai=>exact absurd h (by decide +kernel)
 | brk k=>exact absurd (show ("break":Str)="final" from h) (by decide +kernel)
 | cnt k=>exact absurd (show ("continue":Str)="final" from h) (by decide +kernel)
 | iff a b=>exact absurd (show ("if":Str)="final" from h) (by decide +kernel)
 | whl a=>exact absurd (show ("while":Str)="final" from h) (by decide +kernel)
 | seq l=>exact absurd (show ("seq":Str)="final" from h) (by decide +kernel)
 | tr a b=>exact absurd (show ("try":Str)="final" from h) (by decide +kernel)
end
section
def RaisesA (K:PySem.W.Frag) (C f:Str) (H:Hp) (y:V) (E:XK):Prop:=∀ H' d,Ex H H'→H d=none→H' d=some (.xd [(f,y)])→E (.ref (He.ga K C)) (some d) H'
section
variable {P:Program} {w:World} {h:Heap} {K:PySem.W.Frag} {mg:Str→Option Value} {base:Heap}
end
end
end Fc
set_option maxRecDepth 100000
set_option maxHeartbeats 4000000
namespace FcL
open PySem PySem.Spec PyProof.Rows L2 FcR FcX LamX NdefX
structure LF where
 params:Arguments
 body:Expr
 scope:Scope
 qual:Str
 cl:List (Str×Addr)
 c:Addr
 dV:Value
abbrev LF.fd (F:LF) (pm ctv:Value):FuncData :=
 { name:="<lambda>",qualname:=F.qual,params:=F.params,body:=.expr F.body,scope:=F.scope,globals:=mainGlobals,closure:=F.cl,defaults:=F.dV,kwdefaults:=.none,doc:=.none,pyModule:=pm,annotations:=none,code:=.ref F.c,closureTuple:=ctv,builtins:=builtinsNs }
abbrev LF.nf (F:LF):NF:=⟨"<lambda>",F.qual,F.params,[],F.scope,F.cl,F.c⟩
def LamO (f:Addr) (F:LF):HO:=.ext fun h=>∃ pm ctv:Value,h.get? f=some ({ cls:=.type "function",data:=.func (F.fd pm ctv) }:Obj)
theorem lamO_ne {f:Addr} {F:LF} (ps:Array Value):LamO f F≠.tbl ps:=fun z=>by
 unfold LamO at z
 cases z
def Dfl (H:Hp) (dV:Value) (ds:List V):Prop:=(dV=.none∧ds=[])∨∃ T,dV=.ref T∧ds≠[]∧H T=some (.tup ds)
theorem Dfl.ex {H H':Hp} {dV:Value} {ds:List V} (d:Dfl H dV ds) (e:∀ b o,H b=some o→(∀ ps,o≠.tbl ps)→H' b=some o):Dfl H' dV ds:=by
 rcases d with z | ⟨T,a,b,c⟩
 ·exact .inl z
 ·exact .inr ⟨T,a,b,e _ _ c fun ps z=>by cases z⟩
structure LamAt (H:Hp) (f:Addr) (F:LF) (ds:List V):Prop where
 ob:H f=some (LamO f F)
 co:H F.c=some (CodeO F.c F.qual)
 df:Dfl H F.dV ds
theorem LamAt.ex {H H':Hp} {f:Addr} {F:LF} {ds:List V} (d:LamAt H f F ds) (e:∀ b o,H b=some o→(∀ ps,o≠.tbl ps)→H' b=some o):LamAt H' f F ds :=
 ⟨e _ _ d.ob lamO_ne,e _ _ d.co codeO_ne,d.df.ex e⟩
abbrev CellsB (base:Heap) (cl:List (Str×Addr)) (fr:List Str) (ws:List (Option V)):Prop:=CellsAt cl fr ws base (fun _=>none)
abbrev LSp:=List (Option V)→Hp→VK→XK→Prop
structure LOk (P:Program) (w:World) (K:PySem.W.Frag) (mg:Str→Option Value) (base:Heap) (k:Nat) (F:LF) (ds:List V) (fr:List Str) (sp:LSp):Prop where
 run:∀ (A:Around) (outer:List Env) (s:Shared) (H:Hp) (f:Addr) (ws:List (Option V)) (Q:VK) (E:XK),Room k A→Env0 P w K mg base A outer s H→LamAt H f F ds→CellsB base F.cl fr ws→sp ws H Q E →
  codeAny (model P w) A (.call (.ref f) ⟨[],[]⟩) (CR (L2.CX P w) outer P w H s Q E) s
theorem LOk.mono {P:Program} {w:World} {K:PySem.W.Frag} {mg:Str→Option Value} {base:Heap} {j k:Nat} {F:LF} {ds:List V} {fr:List Str} {sp:LSp} (o:LOk P w K mg base j F ds fr sp) (h:j≤k):LOk P w K mg base k F ds fr sp :=
 ⟨fun A outer s H f ws Q E hr=>o.run A outer s H f ws Q E (hr.mono h)⟩
section
variable {P:Program} {w:World} {K:PySem.W.Frag} {mg:Str→Option Value} {base:Heap} {N ps fr:List Str} {F:LF} {k:Nat} {ds:List V} {sp:LSp}
end
structure Grown (X:Cx) (env:Env) (N:List Str) (σ:L2.St) (base':Heap):Prop where
 up:∀ b o,X.base.get? b=some o→base'.get? b=some o
 kin:X.K.In base'
 cells:∀ (Y:Cx) (cl:List (Str×Addr)) (fr:List Str) (js:List Nat),Y.env=env→Y.N=N→Caps Y cl fr js→CellsB base' cl fr (js.map (slotAt σ))
theorem Grown.env0 {X Y:Cx} {pins pinsY:List (Addr×Obj)} {σ σY:L2.St} {H HY:Hp} {s sY:Shared} (I:Inv X pins σ H s) (IY:Inv Y pinsY σY HY sY) (far:∀ y c,Y.env.cells.lookup y=some c→X.base.get? c=none∧c ∉ frs X.stack)
  (kp:∀ y c o,Y.env.cells.lookup y=some c→sY.heap.get? c=some o→s.heap.get? c=some o∧H c=none) :
  ∃ base',Grown X Y.env Y.N σY base'∧Env0 X.prog X.w X.K X.mg base' X.A X.stack s H:=by
 classical
 let Hh:Hp:=fun b=>if (∃ o,X.base.get? b=some o)∨(∃ y,Y.env.cells.lookup y=some b) then none else some (.own 0)
 have e0:=I.env0
 have hb:∀ b o,X.base.get? b=some o→(hidT s.heap Hh).get? b=some o:=fun b o e=>hidT_get (e0.bs b o e).1 (if_pos (.inl ⟨o,e⟩))
 have hc:∀ y c o,Y.env.cells.lookup y=some c→sY.heap.get? c=some o→(hidT s.heap Hh).get? c=some o:=fun y c o e ho=>hidT_get (kp y c o e ho).1 (if_pos (.inr ⟨y,e⟩))
 have bk:∀ b o,(hidT s.heap Hh).get? b=some o→s.heap.get? b=some o∧H b=none∧((∃ o,X.base.get? b=some o)∨(∃ y,Y.env.cells.lookup y=some b)):=fun b o e=>by
  obtain ⟨h1,h2⟩:=of_hidT e
  by_cases q:(∃ o,X.base.get? b=some o)∨(∃ y,Y.env.cells.lookup y=some b)
  ·refine ⟨h1,?_,q⟩
   rcases q with ⟨o',z⟩ | ⟨y,z⟩
   ·exact (e0.bs b o' z).2
   ·obtain ⟨v,oc,hoc,_⟩:=IY.cell y b z
    exact (kp y b oc z hoc).2
  ·have z:Hh b=some (.own 0):=if_neg q
   rw [z] at h2
   cases h2
 have up:∀ {c:Addr} {v:Option Value} {y:Str},Y.env.cells.lookup y=some c→sY.heap.IsCell c v→(hidT s.heap Hh).IsCell c v:=fun {c v y} e ⟨o,ho,hd⟩=>⟨o,hc y c o e ho,hd⟩
 have mod:Mod X.K X.mg (hidT s.heap Hh):=by
  obtain ⟨m1,m2,⟨mb,m3,m4⟩,m5⟩:=e0.mod
  exact ⟨m1.keeps hb,m2.keeps hb,⟨mb,m3.keeps hb,m4⟩,m5.keeps hb⟩
 refine ⟨hidT s.heap Hh,⟨hb,mod.kin,fun Z cl fr js eZ eN cp=>?_⟩,e0.frames,mod,fun b o e=>⟨(bk b o e).1,(bk b o e).2.1⟩,Nat.le_of_eq (hidT_size _ _),?_,e0.frf,e0.hok,e0.bare⟩
 ·have cpY:Caps Y cl fr js:=by
   obtain ⟨c1,c2,c3,c4⟩:=cp
   rw [eZ] at c1 c2 c3
   rw [eN] at c4
   exact ⟨c1,c2,c3,c4⟩
  have C:=cells_of IY cpY
  refine ⟨C.len,fun y c e=>⟨rfl,?_⟩,C.inj,fun i y e=>?_⟩
  ·obtain ⟨_,v,z⟩:=C.all y c e
   exact ⟨v,up (cpY.sub y c e) z⟩
  ·obtain ⟨c,h1,h2⟩:=C.has i y e
   refine ⟨c,h1,fun v ev=>?_⟩
   obtain ⟨u,r,z⟩:=h2 v ev
   exact ⟨u,r,up (cpY.sub y c h1) z⟩
 ·have all:∀ l:List Env,(∀ b∈frs l,b∈frs X.stack)→s.heap.FunFrames X.base l→s.heap.FunFrames (hidT s.heap Hh) l:=by
   intro l
   induction l with
   | nil=>intro _ _;trivial
   | cons env r ih =>
    intro hs hl
    obtain ⟨hk,⟨L,o,hf,hn,ho,hd⟩,hr⟩:=hl
    have hL:L∈frs X.stack:=hs L (List.mem_filterMap.mpr ⟨env,List.mem_cons_self,hf⟩)
    refine ⟨hk,⟨L,o,hf,?_,ho,hd⟩,ih (fun b hb=>hs b ?_) hr⟩
    ·cases q:(hidT s.heap Hh).get? L with
     | none=>rfl
     | some o' =>
      rcases (bk L o' q).2.2 with ⟨_,z⟩ | ⟨y,z⟩
      ·rw [hn] at z
       cases z
      ·exact absurd hL (far y L z).2
    ·obtain ⟨ev,he,hq⟩:=List.mem_filterMap.mp hb
     exact List.mem_filterMap.mpr ⟨ev,List.mem_cons_of_mem _ he,hq⟩
  exact all _ (fun _ hb=>hb) e0.funs
end FcL
set_option maxRecDepth 100000
set_option maxHeartbeats 4000000
namespace FcL
open PySem PySem.Spec PyProof.Rows L2 FcR FcX LamX NdefX
section
variable {M:Model} {A:Around} {E:Value→Shared→Prop} {s:Shared} {F:LF} {env:Env} {c P:Addr} {ps:Array Value} {pos:Pos} {line:Nat} {mg:Str→Option Value} {Q:Value→Shared→Prop}
end
def ExtT (T:List (Addr×Str)) (H H':Hp):Prop:=∀ b o,H b=some o→(∀ p∈T,p.1≠b)→H' b=some o
theorem ExtT.n {T:List (Addr×Str)} {H H':Hp} (e:ExtT T H H') (t:Tabs T H):ExtN H H':=fun b o h n=>e b o h fun p hp z=>by
 obtain ⟨ps,h1,_⟩:=t p hp
 rw [z,h] at h1
 exact n ps (Option.some.inj h1)
section
variable {X:Cx} {pins:List (Addr×Obj)} {σ:L2.St} {H:Hp} {s:Shared}
end
section
variable {X:Cx} {T:List (Addr×Str)} {c P:Addr} {params:Arguments} {body:Expr} {scope:Scope} {pos:Pos} {fr:List Str} {js:List Nat}
end
end FcL
set_option maxRecDepth 100000
set_option maxHeartbeats 4000000
namespace FcL
open PySem PySem.Spec PyProof.Rows L2 FcR FcX LamX NdefX
section
variable {X:Cx}
end
end FcL
set_option maxRecDepth 100000
set_option maxHeartbeats 4000000
namespace FcL
open PySem PySem.Spec PyProof.Rows L2 FcR FcX LamX NdefX
section
variable {X:Cx} {k:Nat}
end
end FcL
namespace Fc
open PySem
end Fc
set_option maxRecDepth 100000
set_option maxHeartbeats 4000000
namespace FcL
open PySem PySem.Spec PyProof.Rows L2 FcR FcX LamX NdefX
def tIxS (C:Addr) (S:Sp→Prop) (W:WX) (ta ti:TE):TE:=fun σ H Q=>ta σ H fun x H1=>ti σ H1 fun y H2=>∃ a dx fs,x=.ref a∧H2 a=some (.ins C dx fs)∧∃ sp,S sp∧sp [x,y] H2 Q (WE W σ)
theorem fnIn_of {K:PySem.W.Frag} {x qual:Str} {params:Arguments} {body:List Stmt} {scope:Scope} {dvs:List V} {kws:List (Str×V)} {f:Addr} {fd:FuncData} (F:FunD K x qual params body scope dvs kws f fd):PySem.W.fnIn K f=true:=by
 obtain ⟨_,_,_,_,_,_,_,_,_,_,rfl,lk,_⟩:=F.ex
 unfold PySem.W.fnIn
 rw [lk]
section
variable {X:Cx} {k:Nat} {f C:Addr} {S:Sp→Prop} {W:WX} {o i:Expr} {pos apos:Pos} {ta ti:TE} {m:Str}
theorem run_in1 {fd:FuncData} {ps:List Str} {sp:Sp} (F:FnOk X.prog X.w X.K X.mg X.base (L2.CX X.prog X.w) k f fd ps sp) (hr:Room k X.A.in1) (hb:Binds X.K fd ps []) (tk:Takes X W) {pins:List (Addr×Obj)} {σ:L2.St} {H:Hp} {s:Shared} {us:List Value} {vs:List V} {Q:VK}
  (I:Inv X pins σ H s) (r:Vals vs us) (h:sp vs H Q (WE W σ)):wpAny (model X.prog X.w) X.A.in1 (call (.ref f) us) (EP X pins σ Q) X.xe s:=by
 have e:=I.env0
 have e0:Env0 X.prog X.w X.K X.mg X.base X.A.in1 X.stack s H:=⟨e.frames,e.mod,e.bs,e.bsz,e.funs,e.frf,e.hok,e.bare⟩
 have hl:=F.len _ _ _ _ h
 have b:=hb s us I.kIn (by rw [List.append_nil,← r.length];exact hl)
 rw [List.append_nil] at b
 refine wpAny_call (codeAny_mono (F.run _ X.stack s H ⟨us,[]⟩ us vs _ _ hr e0 b r h) fun r s' hq=>?_)
 cases r with
 | error e=>exact passAt tk σ pins _ _ e s' I hq
 | ok fl =>
  cases fl with
  | ret w=>exact I.after hq
  | next=>exact False.elim hq
  | brk=>exact False.elim hq
  | cont=>exact False.elim hq
theorem pe_ixS (A:∀ sp,S sp→HeldX X.prog X.w X.K X.mg X.base k f sp) (hm:Meth X.K C "__getitem__" f) (hfn:PySem.W.fnIn X.K f=true) (hr:Room (k + 1) X.A) (tk:Takes X W) (ha:PE X o ta) (hi:PE X i ti)
  (hsl:∀ x v,subscripted i true (.ref x) v=runValue (.builtin "lifetime.subscript" ⟨[.ref x,v],[]⟩):=by intro _ _;with_unfolding_all rfl):PE X (.Subscript o i pos) (tIxS C S W ta ti):=by
 refine ⟨fun pins s σ H Q I h=>?_⟩
 refine Subscript_ (binT ha hi I h fun v u s2 x y H2 I2 rx ry q=>?_)
 obtain ⟨a,dx,fs,rfl,hx,sp,hS,q⟩:=q
 obtain rfl:v=Value.ref a:=rx
 obtain ⟨fd,ps,F,_,hb⟩:=(A sp hS).ex
 obtain ⟨mA,J,_⟩:=ins_get I2.hok hx
 obtain ⟨od,J,_⟩:=J.look
 obtain ⟨mm,hF⟩:=I2.fr
 exact PySem.W.sub_K hF I2.ok.mod.kin J hm.at_ hfn hm.fn (run_in1 F hr.in1 hb tk I2 (.cons (show L2.RelV (.ref a) (Value.ref a) from rfl) (.cons ry .nil)) q) (hsl _ _)
end
section
variable {X:Cx} {CX:CXT} {C f:Addr} {fd:FuncData} {ps ks:List Str} {sp:Sp} {E:XK} {k:Nat} {m:Str} {o:Expr} {apos pos:Pos} {kws:List Keyword} {ta:TE} {tk:TA} {g:List Value→List Value} {gV:List V→List V}
end
end FcL
set_option maxRecDepth 100000
set_option maxHeartbeats 4000000
namespace Fc
open PySem PySem.Spec PyProof.Rows L2 FcR
open Evl (Ex)
section
def BadN (K:PySem.W.Frag) (H:Hp) (u:V) (n:Nat):Prop:=(∃ i:Int,u=.int i∧(decide (0≤i) && decide (i≤(n:Int) - 1))=false) ∨
 (∃ t b1 b2,(∀ H',Ex H H'→TyX K H' u t)∧PySem.W.kitOne K t (.type "int")=some b1∧PySem.W.kitOne K t (.type "bool")=some b2∧(b1 && !b2)=false)
theorem BadN.ex {K:PySem.W.Frag} {H H':Hp} {u:V} {n:Nat} (b:BadN K H u n) (e:Ex H H'):BadN K H' u n:=by
 rcases b with z | ⟨t,b1,b2,ty,r⟩
 ·exact .inl z
 ·exact .inr ⟨t,b1,b2,fun H2 e2=>ty H2 (e.trans e2),r⟩
theorem RaisesA.ex {K:PySem.W.Frag} {C f:Str} {H H':Hp} {y:V} {E:XK} (r:RaisesA K C f H y E) (e:Ex H H'):RaisesA K C f H' y E:=fun H2 d x n s=>r H2 d (e.trans x) (ex_none e n) s
theorem heldOf {P:Program} {w:World} {K:PySem.W.Frag} {mg:Str→Option Value} {base:Heap} {k:Nat} {at_:Str×Option Str} {ps:List Str} {sp:Sp} (o:Ok P w K mg base k at_ ps sp):∀ sp',sp'=sp→FcX.HeldX P w K mg base k (He.fAd K at_) sp':=fun sp' e=>by
 subst e
 obtain ⟨fd,G,b,kp⟩:=o
 exact ⟨fd,_,G,kp,b⟩
section
variable {P:Program} {w:World} {h:Heap} {K:PySem.W.Frag} {mg:Str→Option Value} {base:Heap}
end
end
section
open FcM (Way Node Tab)
def isPl (r:Row):Bool:=!decide (kindD r.d∈(["seq","try"]:List Str))
def sp_isp (K:PySem.W.Frag):Sp:=fun vs H Q _=>∃ (F:Hp) (A:CAd) (rows:List Row) (n:Nat) (r:Row),vs=[.ref A.p,.int (n:Int)]∧CodeH K F F A rows∧Ex F H∧rows[n]?=some r∧∀ H',Ex H H'→Q (.bl (isPl r)) H'
def plB (rows:List Row) (n:Nat):Bool:=match rows[n]? with
 | some r=>isPl r
 | none=>false
def plN (rows:List Row):List Nat:=(List.range rows.length).filter (plB rows)
def sp_places (K:PySem.W.Frag):Sp:=fun vs H Q _=>∃ (F:Hp) (A:CAd) (rows:List Row),vs=[.ref A.p]∧CodeH K F F A rows∧Ex F H∧rows.length≤400∧∀ (H':Hp) (a:Addr),Ex H H'→H a=none→H' a=some (.lst (intsV (plN rows)))→Q (.ref a) H'
theorem pl_of {rows:List Row} {n:Nat} {r:Row} (h:rows[n]?=some r):plB rows n=isPl r:=by
 unfold plB
 rw [h]
theorem plN_asc (rows:List Row):(plN rows).Pairwise (·<·):=List.Pairwise.sublist List.filter_sublist List.pairwise_lt_range
theorem pl_step {rows:List Row} {i:Nat} {r:Row} (h:rows[i]?=some r):(List.range (i + 1)).filter (plB rows)=(List.range i).filter (plB rows)++(if isPl r=true then [i] else []):=by
 rw [List.range_succ,List.filter_append]
 congr 1
 by_cases z:isPl r=true
 ·rw [if_pos z,List.filter_cons_of_pos (by rw [pl_of h];exact z)]<;>rfl
 ·rw [if_neg z,List.filter_cons_of_neg (by rw [pl_of h];exact z)]<;>rfl
theorem pl_len (rows:List Row) (i:Nat):((List.range i).filter (plB rows)).length≤i:=by
 have:=List.length_filter_le (plB rows) (List.range i)
 rw [List.length_range] at this
 exact this
section
variable {P:Program} {w:World} {h:Heap} {K:PySem.W.Frag} {mg:Str→Option Value} {base:Heap}
abbrev N_Code_is_place:List Str:=["self","number"]
theorem sc_Code_is_place:FnScope N_Code_is_place ["self","number"] (defScope sd_Code_is_place):=⟨rfl,rfl,rfl,by decide +kernel,rfl,by decide +kernel,by decide +kernel⟩
theorem ok_Code_is_place (T:Tx w h K mg):Ok P w K mg base 1 ("Code",some "is_place") ["self","number"] (sp_isp K):=by
 obtain ⟨fd,F⟩:=F_Code_is_place T
 refine ⟨fd,?_,F.bindsN (fun _ _ _ _ _ _ us hl=>match us,hl with | [_,_],_=>rfl),F.kp⟩
 refine F.ok sc_Code_is_place (fun vs H Q E h=>?_) (fun cdv A outer s H vs Q E hr h=>?_)
 ·obtain ⟨F,A,rows,n,r,rfl,C,xF,hw,q⟩:=h
  rfl
 ·obtain ⟨F,A,rows,n,r,rfl,C,xF,hw,q⟩:=h
  refine ⟨_,PSs.nox (pss_one (ps_ret (pe_cmpR op_notIn_seq (pe_ix ix_list (pe_fld (pv 0) rfl) (pv 1) (fun _ _=>rfl)) (pe_tup (pa_cons pe_str (pa_cons pe_str pa_nil))) (by rfl)))),?_⟩
  obtain ⟨vs,C1,_⟩:=C.ex (Evl.Ex.refl _) xF
  refine ⟨_,rfl,A.p,_,_,_,_,rfl,C1.ob,c_Code T,na_Code_kinds T,fl_Code_kinds _ _ _ _ _,_,rfl,A.a2,_,_,.str (kindD r.d),rfl,rfl,Evl.sq_of C1.h2,atI_nat (by rw [List.getElem?_map,hw]<;>rfl),sz (by simp),?_⟩
  intro p1 n1
  generalize e1:upd _ p1 _=H1
  obtain ⟨x1,s1,o1⟩:=new_of e1 n1
  clear e1
  refine ⟨p1,_,rfl,.inr (Evl.st_of s1),rfl,flat_strs ["seq","try"],?_⟩
  have e:inV (.str (kindD r.d)) ([.str "seq",.str "try"])=decide (kindD r.d∈(["seq","try"]:List Str)):=inV_strs _ ["seq","try"]
  rw [e]
  exact q H1 x1
abbrev N_Code_places:List Str:=["self","number"]
theorem sc_Code_places:FnScope N_Code_places ["self"] (defScope sd_Code_places):=⟨rfl,rfl,rfl,by decide +kernel,rfl,by decide +kernel,by decide +kernel⟩
theorem ok_Code_places (T:Tx w h K mg):Ok P w K mg base 3 ("Code",some "places") ["self"] (sp_places K):=by
 obtain ⟨fd,F⟩:=F_Code_places T
 refine ⟨fd,?_,F.bindsN (fun _ _ _ _ _ _ us hl=>match us,hl with | [_],_=>rfl),F.kp⟩
 obtain ⟨fd_Code_is_place,G_Code_is_place,bi_Code_is_place,kp_Code_is_place⟩:=ok_Code_is_place (P:=P) (base:=base) T
 refine F.ok sc_Code_places (fun vs H Q E h=>?_) (fun cdv A outer s H vs Q E hr h=>?_)
 ·obtain ⟨F,A,rows,rfl,C,xF,hl,q⟩:=h
  rfl
 ·obtain ⟨F,A,rows,rfl,C,xF,hl,q⟩:=h
  refine ⟨_,PSs.nox (pss_one (ps_ret (pe_lc (own:=[("number",1)]) rfl sc_Code_places.nd (pi_range1 rfl (fr_range T) (pa_cons (pe_callB call_len_seq rfl (fr_len T) b_len (pa_cons (pe_fld (pv 0) rfl) pa_nil)) pa_nil)) (blkOk_by (N:=N_Code_places) (sc:=defScope sd_Code_places) (by decide +kernel)) (fun _ _ _ _ _=>(pg_name (i:=1) sc_Code_places.nd rfl (Or.inl rfl))) (fun _ _ _ _ _=>(pts_one (pt_val (pe_meth (pv 0) (c_Code T) (me_Code_is_place T) G_Code_is_place (hr.mono (by decide)) bi_Code_is_place .nil passF (pa_cons (pv 1) pa_nil))))) (fun _ _ _ _ _=>(pv 1))))),?_⟩
  obtain ⟨vs,C1,_⟩:=C.ex (Evl.Ex.refl _) xF
  refine ⟨_,rfl,A.p,_,_,_,_,rfl,C1.ob,c_Code T,na_Code_kinds T,fl_Code_kinds _ _ _ _ _,A.a2,_,rfl,.inl (Evl.sq_of C1.h2),?_⟩
  rw [List.length_map]
  refine ⟨_,rfl,(by omega),(by omega),fun D nD=>?_⟩
  refine lc_it (walk_range (lo:=0) (n:=rows.length)) (fun i H'=>Ex H H'∧H' D=some (.lst (intsV ((List.range i).filter (plB rows))))) ?_ ?_ ?_ ?_
  ·exact ⟨exu (Evl.Ex.refl _) nD,upd_same⟩
  ·exact fun _ _ _ _=>True.intro
  ·rintro i v2 Ja Jb hi ⟨x2,l2⟩ ⟨rfl,rfl⟩
   obtain ⟨r,hr⟩:=row_at hi
   have xF2:=xF.trans x2
   obtain ⟨vs2,C2,_⟩:=C.ex (Evl.Ex.refl _) xF2
   have ei:(0:Int) + (i:Int)=(i:Int):=by omega
   have er:=pl_step hr
   rw [er]
   refine ⟨rfl,_,rfl,A.p,_,_,rfl,C2.ob,fm_Code_is_place _ _ _ _ _,_,rfl,F,A,rows,i,r,(by show [V.ref A.p,V.int (0 + (i:Int))]=_;rw [ei]),C,xF2,hr,fun H3 x3=>?_⟩
   refine ⟨_,rfl,ite_of (fun c=>?_) (fun c=>?_)⟩
   ·rw [if_pos c]
    refine ⟨_,rfl,_,x3 _ _ l2,szl (by rw [intsV_len];have:=pl_len rows i;omega),exm (x2.trans x3) nD,?_⟩
    rw [upd_same,← intsV_app]
    dsimp only
    rw [ei]
   ·rw [if_neg (by rw [c];decide),List.append_nil]
    exact ⟨x2.trans x3,x3 _ _ l2⟩
  ·rintro H2 ⟨x2,l2⟩
   exact q H2 D x2 nD l2
end
end
section
theorem flat_ints (l:List Nat):(intsV l).all flatV=true:=by
 unfold intsV
 rw [List.all_map]
 exact List.all_eq_true.mpr fun _ _=>rfl
end
section
open FcM (Way Node Tab)
theorem setAll_of:∀ (ps:List (Nat×Option (List Int))) (L:Bg) (c:Nat) (v:Option (List Int)),(ps.map (·.1)).Nodup→(c,v)∈ps→c<L.length→(setAll L ps)[c]?=some v
 | p::ps,L,c,v,nd,h,hc=>by
  rw [List.map_cons,List.nodup_cons] at nd
  rcases List.mem_cons.mp h with rfl | h
  ·rcases setAll_get ps (L.set c v) c with z | ⟨u,z1,_⟩
   ·show (setAll (L.set c v) ps)[c]?=_
    rw [z,List.getElem?_set_self hc]
   ·exact absurd (List.mem_map_of_mem (f:=fun q:Nat×Option (List Int)=>q.1) z1) nd.1
  ·exact setAll_of ps (L.set p.1 p.2) c v nd.2 h (by rw [List.length_set];exact hc)
theorem bgSeq_keys (lf:Nat→Tw):∀ (l:List Nat) (b:List Int),∃ k,(bgSeq lf l b).map (·.1)=l.take k
 | [],_=>⟨0,rfl⟩
 | c::cs,b=>by
  unfold bgSeq
  cases e:lk (lf c) .nrm with
  | none=>exact ⟨1,by simp⟩
  | some x =>
   obtain ⟨k,hk⟩:=bgSeq_keys lf cs (b++x)
   exact ⟨k + 1,by rw [List.map_cons,List.take_succ_cons];exact congrArg _ hk⟩
theorem bgParts_nodup {lf:Nat→Tw} {nd:Node} {b:List Int} (h:nd.ch.Nodup):((bgParts lf nd b).map (·.1)).Nodup:=by
 cases nd with
 | iff x y=>exact h
 | whl x=>exact h
 | seq l =>
  obtain ⟨k,hk⟩:=bgSeq_keys lf l b
  show ((bgSeq lf l b).map (·.1)).Nodup
  rw [hk]
  exact List.Nodup.sublist (List.take_sublist k l) h
 | tr x y=>exact h
 | fin x y=>exact h
 | _=>exact List.nodup_nil
theorem bg_keep {rows:List Row} {lp:Nat→Nat} (W:TW rows lp) (G:WgA rows) {i c:Nat} (hi:i<rows.length) (hc:c ∉ ((tabOf rows).nd i).ch):(bgTo (tabOf rows) (i + 1))[c]?=(bgTo (tabOf rows) i)[c]?:=by
 rw [bgTo_succ]
 unfold bgStep
 split
 ·rename_i before e
  rcases setAll_get (bgParts (tbN (tabOf rows)) ((tabOf rows).nd i) before) (bgTo (tabOf rows) i) c with z | ⟨v,z1,_⟩
  ·exact z
  ·exact absurd (bgParts_bd W G hi before _ z1).1 hc
 ·rfl
theorem bg_fix {rows:List Row} {lp:Nat→Nat} (W:TW rows lp) (G:WgA rows):∀ i,i≤rows.length→∀ n,n<i→∀ before,(bgTo (tabOf rows) i)[n]?=some (some before)→∀ c v,(c,v)∈bgParts (tbN (tabOf rows)) ((tabOf rows).nd n) before→(bgTo (tabOf rows) i)[c]?=some v
 | 0,_,n,h,_,_,_,_,_=>by omega
 | i + 1,hi,n,hn,before,hb,c,v,hcv=>by
  have nk:n ∉ ((tabOf rows).nd i).ch:=fun z=>by have:=(W.wf.dn i (by exact hi) n z).1;omega
  rw [bg_keep W G hi nk] at hb
  have hcn:=(bgParts_bd W G (n:=n) (by omega) before _ hcv).1
  have dn:=W.wf.dn n (show n<rows.length from by omega) c hcn
  by_cases e:n=i
  ·subst e
   rw [bgTo_succ]
   unfold bgStep
   rw [hb]
   exact setAll_of _ _ _ _ (bgParts_nodup (W.wf.nd n hi)) hcv (by rw [len_bgTo];exact dn.2.1)
  ·have ck:c ∉ ((tabOf rows).nd i).ch:=fun z=>by
    have h1:=(W.wf.dn i hi c z).2.2.1
    rw [dn.2.2.1] at h1
    exact e (Option.some.inj h1)
   rw [bg_keep W G hi ck]
   exact bg_fix W G i (by omega) n (by omega) before hb c v hcv
def bgN (t:Tab) (n:Nat):Option (List Int):=((bgAll t)[n]?).getD none
theorem bgN_get {rows:List Row} {n:Nat} (h:n<rows.length):(bgAll (tabOf rows))[n]?=some (bgN (tabOf rows) n):=by
 have hL:(bgAll (tabOf rows)).length=rows.length:=len_bgTo (tabOf rows) _
 unfold bgN
 rw [List.getElem?_eq_getElem (by rw [hL];exact h)]<;>rfl
theorem bgN_fix {rows:List Row} {lp:Nat→Nat} (W:TW rows lp) (G:WgA rows) {n:Nat} (hn:n<rows.length) {before:List Int} (hb:bgN (tabOf rows) n=some before) {c:Nat} {v:Option (List Int)} (h:(c,v)∈bgParts (tbN (tabOf rows)) ((tabOf rows).nd n) before):bgN (tabOf rows) c=v:=by
 have h1:=bgN_get (rows:=rows) hn
 rw [hb] at h1
 have h2:=bg_fix W G rows.length (Nat.le_refl _) n hn before h1 c v h
 unfold bgN bgAll
 show ((bgTo (tabOf rows) rows.length)[c]?).getD none=v
 rw [h2]<;>rfl
theorem bgN_bd {rows:List Row} {lp:Nat→Nat} (W:TW rows lp) (G:WgA rows) {n:Nat} {l:List Int} (hn:n<rows.length) (h:bgN (tabOf rows) n=some l):l.length≤401 * n:=by
 have h1:=bgN_get (rows:=rows) hn
 rw [h] at h1
 exact bgB_to W G rows.length (Nat.le_refl _) n l h1
def paN (t:Tab) (n:Nat):Option (List Int) :=
 match bgN t n with
 | none=>none
 | some x=>match t.nd n with
  | .fin _ b=>(lk (tbN t b) .nrm).map ((bgN t b).getD []++·)
  | _=>some x
def paL (rows:List Row):List (Nat×List Int):=(plN rows).filterMap fun n=>(paN (tabOf rows) n).map fun l=>(n,l)
def PaD (H:Hp) (d:Addr) (ps:List (Nat×List Int)):Prop:=∃ vs:List (Key×V),H d=some (.dK vs)∧Paired (fun kv p=>kv.1=(.inl (p.1:Int):Key)∧∃ a,kv.2=.ref a∧H a=some (.lst (p.2.map V.int))) vs ps
def lkN (ps:List (Nat×List Int)) (n:Nat):Option (List Int):=(ps.find? fun p=>decide (p.1=n)).map (·.2)
theorem paD_ex {H H':Hp} {d:Addr} {ps:List (Nat×List Int)} (e:Ex H H') (h:PaD H d ps):PaD H' d ps:=let ⟨vs,h1,h2⟩:=h;⟨vs,e _ _ h1,L2.Paired.mapP h2 fun _ _ z=>⟨z.1,let ⟨a,e1,e2⟩:=z.2;⟨a,e1,e _ _ e2⟩⟩⟩
theorem paD_val {K:PySem.W.Frag} {H:Hp} {vs:List (Key×V)} {ps:List (Nat×List Int)} (h:Paired (fun kv p=>kv.1=(.inl (p.1:Int):Key)∧∃ a,kv.2=.ref a∧H a=some (.lst (p.2.map V.int))) vs ps) (n:Nat) :
  AnsV K H ((valV vs (.inl (n:Int):Key)).getD .non) (lkN ps n)∧((valV vs (.inl (n:Int):Key)).isSome=(lkN ps n).isSome):=by
 induction h with
 | nil=>exact ⟨rfl,rfl⟩
 | @cons kv p vs ps r t ih =>
  obtain ⟨r1,a,r2,r3⟩:=r
  by_cases e:p.1=n
  ·have e1:valV (kv::vs) (.inl (n:Int):Key)=some (.ref a):=by rw [valV_pos (by rw [r1,e]),r2]
   have e2:lkN (p::ps) n=some p.2:=by simp [lkN,List.find?_cons,e]
   rw [e1,e2]
   exact ⟨⟨a,rfl,r3⟩,rfl⟩
  ·have e1:valV (kv::vs) (.inl (n:Int):Key)=valV vs (.inl (n:Int):Key):=valV_neg (by rw [r1];exact fun z=>e (by have:=Sum.inl.inj z;omega))
   have e2:lkN (p::ps) n=lkN ps n:=by simp [lkN,List.find?_cons,e]
   rw [e1,e2]
   exact ih
theorem paD_put {H:Hp} {d:Addr} {vs:List (Key×V)} {ps:List (Nat×List Int)} {n:Nat} {a:Addr} {l:List Int} (h1:H d=some (.dK vs)) (h:Paired (fun kv p=>kv.1=(.inl (p.1:Int):Key)∧∃ a,kv.2=.ref a∧H a=some (.lst (p.2.map V.int))) vs ps) (hn:lkN ps n=none) (ha:H a=some (.lst (l.map V.int))) :
  PaD (upd H d (.dK (putK vs (.inl (n:Int):Key) (.ref a)))) d (ps++[(n,l)])∧ExB d H (upd H d (.dK (putK vs (.inl (n:Int):Key) (.ref a)))):=by
 have x:ExB d H (upd H d (.dK (putK vs (.inl (n:Int):Key) (.ref a)))):=fun c u hc e=>by rw [upd_ne hc];exact e
 have up:∀ {c:Addr} {ys:List V},H c=some (.lst ys)→upd H d (.dK (putK vs (.inl (n:Int):Key) (.ref a))) c=some (.lst ys):=fun {c ys} z=>by rw [upd_ne (ne_of z h1 (fun z=>nomatch z))];exact z
 have e0:=(paD_val (K:=[]) h n).2
 rw [hn] at e0
 have e1:putK vs (.inl (n:Int):Key) (.ref a)=vs++[(.inl (n:Int),.ref a)]:=by
  unfold putK
  rw [if_neg]
  rw [valV_any,e0]
  decide
 refine ⟨⟨_,upd_same,?_⟩,x⟩
 generalize upd H d (.dK (putK vs (.inl (n:Int):Key) (.ref a)))=H2 at up
 rw [e1]
 refine Paired.snoc (L2.Paired.mapP h fun _ _ z=>⟨z.1,?_⟩) ⟨rfl,a,rfl,up ha⟩
 obtain ⟨_,a,e1,e2⟩:=z
 exact ⟨a,e1,up e2⟩
def PaF (N H:Hp) (d:Addr):Prop:=∀ vs,H d=some (.dK vs)→∀ kv∈vs,FrV N kv.2
theorem mem_putK {vs:List (Key×V)} {k:Key} {v:V} {kv:Key×V} (h:kv∈putK vs k v):kv∈vs∨kv.2=v:=by
 unfold putK at h
 split at h
 ·obtain ⟨x,h1,h2⟩:=List.mem_map.mp h
  split at h2
  ·rw [← h2];exact .inr rfl
  ·rw [← h2];exact .inl h1
 ·rcases List.mem_append.mp h with h | h
  ·exact .inl h
  ·rw [List.mem_singleton.mp h];exact .inr rfl
theorem paF_put {N H:Hp} {d:Addr} {vs:List (Key×V)} {k:Key} {v:V} (h1:H d=some (.dK vs)) (h:PaF N H d) (hv:FrV N v):PaF N (upd H d (.dK (putK vs k v))) d:=fun vs' e kv m=>by
 rw [upd_same] at e
 cases e
 rcases mem_putK m with z | z
 ·exact h vs h1 kv z
 ·rw [z];exact hv
theorem paF_ex {N H H':Hp} {d:Addr} {ps:List (Nat×List Int)} (e:Ex H H') (p:PaD H d ps) (h:PaF N H d):PaF N H' d:=fun vs e1=>by
 obtain ⟨ws,h1,_⟩:=p
 have:=e _ _ h1
 rw [this] at e1
 cases e1
 exact h _ h1
def sp_pall (K:PySem.W.Frag):Sp:=fun vs H Q _=>∃ (F:Hp) (A:CAd) (rows:List Row) (lp:Nat→Nat),vs=[.ref A.p]∧CK K F A rows lp∧Ex F H∧∀ H' d,Ex H H'→H d=none→PaD H' d (paL rows)→PaF F H' d→Q (.ref d) H'
theorem plN_lt {rows:List Row} {n:Nat} (h:n∈plN rows):n<rows.length:=List.mem_range.mp (List.mem_filter.mp h).1
theorem lkN_fm {f:Nat→Option (List Int)} {n:Nat}:∀ {l:List Nat},l.Nodup→lkN (l.filterMap fun m=>(f m).map fun x=>(m,x)) n=if n∈l then f n else none
 | [],_=>rfl
 | m::l,nd=>by
  rw [List.nodup_cons] at nd
  have ih:=lkN_fm (f:=f) (n:=n) nd.2
  cases e:f m with
  | none =>
   rw [List.filterMap_cons_none (by rw [e]<;>rfl),ih]
   by_cases z:n=m
   ·subst z
    rw [if_neg nd.1,if_pos List.mem_cons_self,e]
   ·by_cases y:n∈l
    ·rw [if_pos y,if_pos (List.mem_cons_of_mem _ y)]
    ·rw [if_neg y,if_neg (fun k=>(List.mem_cons.mp k).elim z y)]
  | some x =>
   rw [List.filterMap_cons_some (by rw [e]<;>rfl)]
   by_cases z:m=n
   ·subst z
    rw [if_pos List.mem_cons_self,e]
    simp [lkN,List.find?_cons]
   ·have h1:lkN ((m,x)::l.filterMap fun m=>(f m).map fun x=>(m,x)) n=lkN (l.filterMap fun m=>(f m).map fun x=>(m,x)) n:=by simp [lkN,List.find?_cons,z]
    rw [h1,ih]
    by_cases y:n∈l
    ·rw [if_pos y,if_pos (List.mem_cons_of_mem _ y)]
    ·rw [if_neg y,if_neg (fun k=>(List.mem_cons.mp k).elim (fun k=>z k.symm) y)]
theorem plN_nodup (rows:List Row):(plN rows).Nodup:=List.Nodup.sublist List.filter_sublist List.nodup_range
section
variable {P:Program} {w:World} {h:Heap} {K:PySem.W.Frag} {mg:Str→Option Value} {base:Heap}
abbrev N_all_place_answers:List Str:=["code","left","begun","found","place","answers","block"]
theorem sc_all_place_answers:FnScope N_all_place_answers ["code"] (defScope sd_all_place_answers):=⟨rfl,rfl,rfl,by decide +kernel,rfl,by decide +kernel,by decide +kernel⟩
theorem ok_all_place_answers (T:Tx w h K mg):Ok P w K mg base 6 ("all_place_answers",none) ["code"] (sp_pall K):=by
 obtain ⟨fd,F⟩:=F_all_place_answers T
 refine ⟨fd,?_,F.bindsN (fun _ _ _ _ _ _ us hl=>match us,hl with | [_],_=>rfl),F.kp⟩
 obtain ⟨fd_begin_answers,G_begin_answers,bi_begin_answers,kp_begin_answers⟩:=ok_begin_answers (P:=P) (base:=base) T
 obtain ⟨fd_shortest_answers,G_shortest_answers,bi_shortest_answers,kp_shortest_answers⟩:=ok_shortest_answers (P:=P) (base:=base) T
 obtain ⟨fd_Code_places,G_Code_places,bi_Code_places,kp_Code_places⟩:=ok_Code_places (P:=P) (base:=base) T
 refine F.ok sc_all_place_answers (fun vs H Q E h=>?_) (fun cdv A outer s H vs Q E hr h=>?_)
 ·obtain ⟨F,A,rows,lp,rfl,X,xF,q⟩:=h
  rfl
 ·obtain ⟨F,A,rows,lp,rfl,X,xF,q⟩:=h
  refine ⟨_,PSs.nox (pss_cons (ps_par3 rfl sc_all_place_answers.nd (i:=1) (j:=2) (l:=3) rfl rfl rfl (by decide) (by decide) (by decide) rfl rfl rfl (pa_cons (pe_call G_shortest_answers (hr.mono (by decide)) rfl (g_shortest_answers T) kp_shortest_answers bi_shortest_answers .nil passF (pa_cons (pv 0) pa_nil)) (pa_cons (pe_call G_begin_answers (hr.mono (by decide)) rfl (g_begin_answers T) kp_begin_answers bi_begin_answers .nil passF (pa_cons (pv 0) pa_nil)) (pa_cons pe_dnewK pa_nil))) (by rfl)) (pss_cons (ps_for PassesOwn.never rfl (pi_list (pe_meth0 (pv 0) (c_Code T) (me_Code_places T) G_Code_places (hr.mono (by decide)) bi_Code_places .nil passF)) (pg_name (i:=4) sc_all_place_answers.nd rfl (Or.inl rfl)) (pss_cons (ps_set (i:=5) sc_all_place_answers.nd rfl (Or.inl rfl) (pe_ix ix_list (pv 2) (pv 4) (fun _ _=>rfl))) (Evl.pss_cut (ps_if (PW.pt (pw_and (pt_cmpR op_notN (pv 5) pe_non (nomark _)) (pw_and1 (pt_cmpR op_eq (pe_ix ix_list (pe_fld (pv 0) rfl) (pv 4) (fun _ _=>rfl)) pe_str (nomark _))))) (pss_cons (ps_set (i:=6) sc_all_place_answers.nd rfl (Or.inl rfl) (pe_ix ix_list (pe_ix ix_list (pe_fld (pv 0) rfl) (pv 4) (fun _ _=>rfl)) pe_int (fun _ _=>rfl))) (pss_one (ps_set (i:=5) sc_all_place_answers.nd rfl (Or.inl rfl) (pe_ifExp (pt_cmpR (FcW.op_inW (hu_of hr)) (pe_glob (v:=.ref (He.ga K "NORMAL_ways")) rfl (g_NORMAL_ways T) rfl) (pe_ix ix_list (pv 1) (pv 6) (fun _ _=>rfl)) (by rfl)) (pe_op op_cat (pe_ix ix_list (pv 2) (pv 6) (fun _ _=>rfl)) (pe_ix (FcW.ix_way (hu_of hr)) (pe_ix ix_list (pv 1) (pv 6) (fun _ _=>rfl)) (pe_glob (v:=.ref (He.ga K "NORMAL_ways")) rfl (g_NORMAL_ways T) rfl) (fun _ _=>rfl))) pe_non)))) pss_nil) (pss_one (ps_if (pt_cmpR op_notN (pv 5) pe_non (nomark _)) (pss_one (ps_asg (pv 5) (pg_sub (pv 3) (pv 4) (set_dict (hu_of hr))))) pss_nil))))) (pss_one (ps_ret (pv 3))))),?_⟩
  have hl4:=X.l
  refine ⟨_,rfl,F,A,rows,lp,rfl,X,xF,fun H1 a ds x1 na sa wa=>⟨_,rfl,F,A,rows,lp,rfl,X,Evl.Ex.trans xF x1,fun H2 p x2 np bl=>?_⟩⟩
  intro p3 n3
  generalize e3:upd _ p3 _=H3
  obtain ⟨x3,s3,o3⟩:=new_of e3 n3
  clear e3
  have x02:=Evl.Ex.trans x1 x2
  have xF3:=Evl.Ex.trans xF (Evl.Ex.trans x02 x3)
  obtain ⟨vs3,C3,_⟩:=X.c.ex (Evl.Ex.refl _) xF3
  refine ⟨_,_,_,rfl,?_⟩
  refine ⟨_,rfl,A.p,_,_,rfl,C3.ob,fm_Code_places _ _ _ _ _,F,A,rows,rfl,X.c,xF3,X.l,fun H4 c x4 nc sc=>⟨c,rfl,⟨_,Evl.sq_of sc⟩,?_⟩⟩
  refine for_it (walk_list (xs:=intsV (plN rows))) (fun j σ' H'=>∃ o4 o5 o6:Option V,Ex H2 H'∧H' c=some (.lst (intsV (plN rows)))∧PaD H' p3 (((plN rows).take j).filterMap fun n=>(paN (tabOf rows) n).map fun l=>(n,l))∧PaF F H' p3∧σ'=[some (.ref A.p),some (.ref a),some (.ref p),some (.ref p3),o4,o5,o6]) ?_ ?_ ?_ ?_
  ·exact ⟨_,_,_,Evl.Ex.trans x3 x4,sc,⟨[],x4 _ _ s3,.nil⟩,(fun vs e=>by rw [x4 _ _ s3] at e;cases e;exact fun _ z=>nomatch z),rfl⟩
  ·rintro j σ' H' _ ⟨o4,o5,o6,_,z,_,_,rfl⟩
   exact Evl.sq_of z
  ·rintro j v σ' H5 H6 hj ⟨o4,o5,o6,y2,sc5,PD,PF,rfl⟩ ⟨rfl,hv⟩
   obtain ⟨n,hn,rfl⟩:∃ n,(plN rows)[j]?=some n∧v=.int (n:Int):=by
    unfold intsV at hv
    rw [List.getElem?_map] at hv
    obtain ⟨d,g1,g2⟩:=Option.map_eq_some_iff.mp hv
    exact ⟨d,g1,g2.symm⟩
   have nm:=List.mem_of_getElem? hn
   have nl:=plN_lt nm
   obtain ⟨r,hr⟩:=row_at nl
   have hnd:=tab_nd hr
   have xF6:=Evl.Ex.trans xF (Evl.Ex.trans x02 y2)
   obtain ⟨vs6,cc,C6,a6⟩:=X.at xF6 hr
   obtain ⟨bs,hb,pb,lb,frs⟩:=bgL_ex y2 bl
   obtain ⟨u,hu,au⟩:=paired_getR pb (bgN_get (rows:=rows) nl)
   have fru:=frs _ (List.mem_of_getElem? hu)
   refine ⟨_,rfl,_,rfl,p,_,_,_,rfl,rfl,Evl.sq_of hb,atI_nat hu,?_⟩
   refine ⟨fun σ' H'=>∃ (u':V) (o6:Option V),Ex H6 H'∧AnsV K H' u' (paN (tabOf rows) n)∧FrV F u'∧σ'=[some (.ref A.p),some (.ref a),some (.ref p),some (.ref p3),some (.int (n:Int)),some u',o6],?_,?_⟩
   ·cases e:bgN (tabOf rows) n with
    | none =>
     have pe:paN (tabOf rows) n=none:=by unfold paN;rw [e]
     rw [e] at au
     obtain rfl:u=.non:=au
     exact ⟨_,rfl,rfl,_,rfl,itF rfl ⟨_,_,Evl.Ex.refl _,by rw [pe]<;>rfl,.non,rfl⟩⟩
    | some x =>
     rw [e] at au
     obtain ⟨ax,rfl,hx⟩:=au
     refine ⟨_,rfl,rfl,_,rfl,itT rfl ?_⟩
     have kd6:=a6.kd
     generalize hk:kindN (ndOf r)=kk at kd6
     refine ⟨_,rfl,A.p,_,_,_,_,rfl,C6.ob,c_Code T,na_Code_kinds T,fl_Code_kinds _ _ _ _ _,_,rfl,A.a2,_,_,_,rfl,rfl,Evl.sq_of C6.h2,atI_nat kd6,rfl,_,rfl,ite_of (fun c1=>?_) (fun c1=>?_)⟩
     ·obtain ⟨b1,b2,ef⟩:=kind_fin (hk.trans (V.str.inj (of_decide_eq_true c1)))
      have hch:=(X.w.sv n r hr).2.2
      rw [ef] at hch
      have hch:r.ch=[b1,b2]:=hch
      have hC:=a6.ch
      rw [hch] at hC
      have lt2:∀ d∈((tabOf rows).nd n).ch,d<rows.length:=fun d hd=>(X.w.wf.dn n nl d hd).2.1
      rw [hnd,ef] at lt2
      have l1:=lt2 b1 (by simp [Node.ch])
      have l2:=lt2 b2 (by simp [Node.ch])
      obtain ⟨_,pk2⟩:=parts_ok X.w X.g nl
      rw [hnd,ef] at pk2
      obtain ⟨sh,esh,_⟩:=shortT_some (pk2 b1 (by simp [Node.ch])).1
      have fx:=bgN_fix X.w X.g nl e (c:=b2) (v:=some (x++sh)) (by rw [hnd,ef];show (b2,some (x++sh))∈[(b1,some x),(b2,(shortT (tbN (tabOf rows) b1)).map (x++·))];rw [esh];simp)
      have bl2:=bgN_bd X.w X.g l2 fx
      have pe:paN (tabOf rows) n=(lk (tbN (tabOf rows) b2) .nrm).map ((x++sh)++·):=by
       unfold paN
       rw [e,hnd,ef]
       dsimp only
       rw [fx]<;>rfl
      rw [pe]
      obtain ⟨u2,hu2,au2⟩:=paired_getR pb (bgN_get (rows:=rows) l2)
      rw [fx] at au2
      obtain ⟨a2,rfl,ha2⟩:=au2
      obtain ⟨dd,hdd,o,xs,D,R⟩:=paired_getR (wta_ex (Evl.Ex.trans x2 y2) wa) (show ((List.range rows.length).map (tbN (tabOf rows)))[b2]?=some (tbN (tabOf rows) b2) from by rw [List.getElem?_map,List.getElem?_range l2]<;>rfl)
      have hd2:(ds.map V.ref)[b2]?=some (.ref dd):=by rw [List.getElem?_map,hdd]<;>rfl
      have la6:=(Evl.Ex.trans x2 y2) _ _ sa
      have kn:SqT K H6 (He.ga K "NORMAL_ways") ((wk .nrm).map kV):=t_NORMAL_ways T _
      refine ⟨_,rfl,A.p,_,_,_,_,rfl,C6.ob,c_Code T,na_Code_children T,fl_Code_children _ _ _ _ _,_,rfl,A.a5,_,_,_,rfl,rfl,Evl.sq_of C6.h5,atI_nat a6.cs,cc,_,_,_,rfl,rfl,Evl.sq_of hC,atI_nat (ints_at (j:=1) rfl),?_⟩
      refine ⟨_,rfl,_,rfl,a,_,_,_,rfl,rfl,Evl.sq_of la6,atI_nat hd2,dd,He.ga K "NORMAL_ways",o,xs,wk .nrm,rfl,rfl,D,kn,?_⟩
      rcases tbr_val R .nrm with ⟨hval,e2⟩ | ⟨cd,old,hval,e2,hold⟩
      ·rw [hval]
       refine ⟨_,rfl,itF rfl ⟨_,_,Evl.Ex.refl _,?_,.non,rfl⟩⟩
       rw [e2]<;>rfl
      ·rw [hval]
       have ol:old.length≤400:=by
        obtain ⟨z,hz,ez⟩:=lkT_mem e2
        rw [← ez]
        exact ((pk2 b2 (by simp [Node.ch])).2 z hz).1
       refine ⟨_,rfl,itT rfl ⟨_,rfl,_,rfl,p,_,_,_,rfl,rfl,Evl.sq_of hb,atI_nat hu2,_,rfl,_,rfl,a,_,_,_,rfl,rfl,Evl.sq_of la6,atI_nat hd2,dd,He.ga K "NORMAL_ways",o,xs,wk .nrm,_,rfl,rfl,D,kn,hval,a2,cd,_,_,rfl,rfl,ha2,hold,(by rw [List.length_map,List.length_map,sizeLine_eq];omega),?_⟩⟩
       intro p8 n8
       generalize e8:upd _ p8 _=H8
       obtain ⟨x8,s8,o8⟩:=new_of e8 n8
       clear e8
       refine ⟨_,_,x8,?_,.of (ex_none xF6 n8),rfl⟩
       rw [e2]
       exact ⟨p8,rfl,by rw [s8];simp⟩
     ·have pe:paN (tabOf rows) n=some x:=by
       unfold paN
       rw [e,hnd]
       cases ef:ndOf r with
       | fin b1 b2=>rw [ef] at hk;exact absurd (show V.str kk=V.str "final" from congrArg V.str hk.symm) (of_decide_eq_false c1)
       | _=>rfl
      exact ⟨_,_,Evl.Ex.refl _,by rw [pe];exact ⟨ax,rfl,hx⟩,fru,rfl⟩
   ·rintro σ' H7 ⟨u',o6',y7,au7,fru7,rfl⟩
    have ts:(plN rows).take (j + 1)=(plN rows).take j++[n]:=take_one hn
    have PD7:=paD_ex y7 PD
    have PF7:=paF_ex y7 PD PF
    rw [ts,List.filterMap_append]
    cases e:paN (tabOf rows) n with
    | none =>
     rw [e] at au7
     obtain rfl:u'=.non:=au7
     refine ⟨_,rfl,rfl,_,rfl,itF rfl ⟨_,_,_,Evl.Ex.trans y2 y7,y7 _ _ sc5,?_,PF7,rfl⟩⟩
     rw [List.filterMap_cons_none (by rw [e]<;>rfl),List.filterMap_nil,List.append_nil]
     exact PD7
    | some x =>
     rw [e] at au7
     obtain ⟨ax,rfl,hx⟩:=au7
     obtain ⟨vs,h1,h2⟩:=PD7
     have nt:n ∉ (plN rows).take j:=fun z=>by
      have nd:=plN_nodup rows
      have jl:=(List.getElem?_eq_some_iff.mp hn).1
      rw [← List.take_append_drop j (plN rows),List.drop_eq_getElem_cons jl,(List.getElem?_eq_some_iff.mp hn).2] at nd
      exact (List.nodup_append.mp nd).2.2 n z n List.mem_cons_self rfl
     have h0:=lkN_fm (f:=paN (tabOf rows)) (n:=n) (List.Nodup.sublist (List.take_sublist j _) (plN_nodup rows))
     rw [if_neg nt] at h0
     obtain ⟨k1,k2⟩:=paD_put h1 h2 h0 hx
     have vl:vs.length≤j:=by
      rw [Paired.length h2]
      have h3:=List.length_filterMap_le (fun n=>(paN (tabOf rows) n).map fun l=>(n,l)) ((plN rows).take j)
      rw [List.length_take] at h3
      omega
     have jl:j<400:=by
      rw [intsV_len] at hj
      have:=pl_len rows rows.length
      unfold plN at hj
      omega
     refine ⟨_,rfl,rfl,_,rfl,itT rfl ⟨_,rfl,_,rfl,_,rfl,p3,_,rfl,.inl ⟨vs,.inl (n:Int),h1,rfl,szl (by omega),rfl⟩,_,_,_,?_,?_,?_,paF_put h1 PF7 fru7,rfl⟩⟩
     ·exact exm (Evl.Ex.trans y2 y7) n3
     ·rw [upd_ne (ne_of (y7 _ _ sc5) h1 (fun z=>nomatch z))]
      exact y7 _ _ sc5
     ·rw [List.filterMap_cons_some (by rw [e]<;>rfl),List.filterMap_nil]
      exact k1
  ·rintro σ' H' ⟨o4,o5,o6,y2,_,PD,PF,rfl⟩
   rw [intsV_len,List.take_length] at PD
   exact ⟨_,rfl,q H' p3 (Evl.Ex.trans x02 y2) (ex_none x02 n3) PD PF⟩
end
end
end Fc
set_option maxRecDepth 100000
set_option maxHeartbeats 4000000
namespace FcS
open PySem PySem.Spec PyProof.Rows L2
theorem pairs_get {prog:Program} {w:World} {es:List DictEntry} {kvs:List (Key×Value)} (h:Pairs (mixKind prog w) es kvs):∀ {i:Nat} {e:DictEntry},es[i]?=some e→∃ kv,kvs[i]?=some kv∧(mixKind prog w).is kv.1 e.key=true:=by
 induction h with
 | nil=>exact fun h=>by simp at h
 | cons h1 _ _ ih =>
  intro i e he
  cases i with
  | zero =>
   cases he
   exact ⟨_,rfl,h1⟩
  | succ i =>
   obtain ⟨kv,g1,g2⟩:=ih (i:=i) (by simpa using he)
   exact ⟨kv,by simpa using g1,g2⟩
def rSortK:List V→Hp→VK→Prop:=fun vs H Q=>∃ (a:Addr) (kvs:List (Key×V)) (ns:List Int),vs=[V.ref a]∧H a=some (.dK kvs)∧kvs.map (·.1)=ns.map Sum.inl ∧
 ∀ (ns':List Int) (p:Addr),ns'.Perm ns→ns'.Pairwise (·≤·)→H p=none→Q (.ref p) (upd H p (.lst (ns'.map V.int)))
theorem cr_sortK {X:Cx} (hc:X.calm=true):CallR X (.builtin "sorted") rSortK:=by
 intro pins s σ H vs us Q I r h
 obtain ⟨a,kvs,ns,rfl,ha,hv,q⟩:=h
 rw [Vals.ref1 r]
 obtain ⟨hz,hsys,ys,rel,o,es,ep,hg,hx,hod,_,hpr,_⟩:=dk_of I.hok ha
 have hkeys:ys.map (·.1)=ns.map Sum.inl:=(KV.keys rel).symm.trans hv
 have l1:es.size=ys.length:=by rw [← Array.length_toList];exact Pairs.length hpr
 have l2:ys.length=ns.length:=by simpa using congrArg List.length hkeys
 have l3:kvs.length=ns.length:=by simpa using congrArg List.length hv
 refine Calls.call_function_entry kind_sorted plain_sorted entry_sorted (args_sorted1 _) ?_
 unfold Builtin.«sorted»
 refine wpAny_bind (m:=checkCount "sorted" 1 1 _) (wpAny_pure ?_)
 refine wpAny_bind (FcW.gather (A:=X.A.in1) (kdl_raw hsys hx hod) (I.ok.hd hc) hg (by omega) fun h' tk acc hk hlt it=>?_)
 have hl:acc.toList.length=ns.length:=by rw [Array.length_toList,it.1];omega
 have at_:∀ (j:Nat) (v:Value),acc.toList[j]?=some v→∃ i t,ns[j]?=some i∧v=Value.int i t:=fun j v hj=>by
  obtain ⟨en,hen,hv⟩:=it.2 j v (by rw [← Array.getElem?_toList];exact hj)
  obtain ⟨kv,g1,g2⟩:=pairs_get hpr (by rw [Array.getElem?_toList];exact hen)
  have g3:(ys.map (·.1))[j]?=some kv.1:=by rw [List.getElem?_map,g1]<;>rfl
  rw [hkeys,List.getElem?_map] at g3
  obtain ⟨i,hi,e⟩:=Option.map_eq_some_iff.mp g3
  rw [← e] at g2
  obtain ⟨t,e3⟩:=Value.isInt_shape (k:=i) (v:=en.key) g2
  exact ⟨i,t,hi,by rw [hv,e3]⟩
 have hi:IntsAre acc.toList ns:=by
  clear it hk hlt
  generalize acc.toList=us at hl at_
  clear hkeys l2 l3 hv q
  induction us generalizing ns with
  | nil =>
   cases ns with
   | nil=>exact .nil
   | cons n ns=>simp at hl
  | cons u us ih =>
   cases ns with
   | nil=>simp at hl
   | cons n ns =>
    obtain ⟨i,t,e1,e2⟩:=at_ 0 u rfl
    obtain rfl:n=i:=Option.some.inj e1
    rw [e2]
    exact .cons n t (ih ns (by simpa using hl) fun j v hj=>by
     obtain ⟨i,t,e1,e2⟩:=at_ (j + 1) v (by simpa using hj)
     exact ⟨i,t,by simpa using e1,e2⟩)
 have hlz:acc.toList.length≤sizeLine:=by rw [hl,← l3];exact hz
 refine wpAny_bind (wpAny_newList ?_ hlz)
 have ho:(h'.push { cls:=.type "list",data:=.seq acc.toList.toArray }).get? h'.objs.size=some (seqObj "list" acc.toList.toArray 0):=Heap.get?_push_size _ rfl
 have kb:∀ b ob,s.heap.get? b=some ob→(h'.push { cls:=.type "list",data:=.seq acc.toList.toArray }).get? b=some ob:=fun b ob e=>Heap.get?_push_of_some _ (hk b ob e)
 have hlb:∀ b ob,s.heap.get? b=some ob→b≠h'.objs.size:=fun b ob e=>Nat.ne_of_lt (Heap.lt_size (hk b ob e))
 generalize hh2:h'.push { cls:=.type "list",data:=.seq acc.toList.toArray }=h2 at ho kb
 refine wpAny_bind (wpAny_holding (wpAny_call_entry PyProof.Rows.slot_list_sort ⟨_,ho,rfl⟩ PyProof.Rows.entry_list_sort
  (SrtO.list_sort_ord (s:={ s with heap:=h2,toks:=tk }) SrtO.swo_int ho hlz (fun h2=>SrtO.ints_sortable hi h2) fun out h1 h2'=>⟨_,rfl,?_⟩) (PyProof.Rows.args_list_sort _)))
 obtain ⟨k1,k2,k3⟩:=SrtO.ints_out hi h1 h2'
 obtain ⟨eF,heF⟩:=PyProof.Rows.sortedHeap_at (vs:=acc.toList) (out:=out.toArray) ho
 have hn0:H h'.objs.size=none:=I.hok.fresh (Nat.le_of_lt hlt)
 have hlen:((out.map SrtO.iv).map V.int).length≤sizeLine:=by rw [List.length_map,k2.length_eq,← l3];exact hz
 exact wpAny_pure ⟨_,rfl,⟨.ref h'.objs.size,_,I.laid (a:=h'.objs.size) (t':=tk) (o:=.lst ((out.map SrtO.iv).map V.int)) (fun b ob z=>(PyProof.Rows.sortedHeap_old (hlb b ob z) (Heap.lt_size (kb b ob z))).trans (kb b ob z)) (Nat.le_of_lt hlt) ⟨hlen,out,eF,vals_of_ints k1,heF⟩,rfl,q _ _ k2 k3 hn0⟩⟩
end FcS
set_option maxRecDepth 100000
set_option maxHeartbeats 4000000
namespace Fc
open PySem PySem.Spec PyProof.Rows L2 FcR
open Evl (Ex)
section
open FcM (Way Node Tab)
def rcN (rows:List Row):List Nat:=(plN rows).filter fun n=>(paN (tabOf rows) n).isSome
def sp_reached (K:PySem.W.Frag):Sp:=fun vs H Q _=>∃ (F:Hp) (A:CAd) (rows:List Row) (lp:Nat→Nat),vs=[.ref A.p]∧CK K F A rows lp∧Ex F H∧∀ (H':Hp) (a:Addr),Ex H H'→H a=none→H' a=some (.lst (intsV (rcN rows)))→Q (.ref a) H'
theorem paL_keys (rows:List Row):(paL rows).map (·.1)=rcN rows:=by
 unfold paL rcN
 generalize plN rows=l
 induction l with
 | nil=>rfl
 | cons n l ih =>
  cases e:paN (tabOf rows) n with
  | none=>rw [List.filterMap_cons_none (by rw [e]<;>rfl),List.filter_cons_of_neg (by rw [e];decide),ih]
  | some x=>rw [List.filterMap_cons_some (by rw [e]<;>rfl),List.filter_cons_of_pos (by rw [e]<;>rfl),List.map_cons,ih]
theorem rcN_asc (rows:List Row):(rcN rows).Pairwise (·<·):=List.Pairwise.sublist List.filter_sublist (plN_asc rows)
theorem srt_asc {l:List Nat} {ns:List Int} (ha:l.Pairwise (·<·)) (h1:ns.Perm (l.map fun n:Nat=>(n:Int))) (h2:ns.Pairwise (·≤·)):ns.map V.int=intsV l:=by
 have e:ns=l.map fun n:Nat=>(n:Int):=by
  refine List.Perm.eq_of_pairwise (le:=fun a b:Int=>a≤b) (fun a b _ _ h h'=>by omega) h2 ?_ h1
  rw [List.pairwise_map]
  exact ha.imp fun h=>by omega
 rw [e]
 unfold intsV
 rw [List.map_map]<;>rfl
def ddN (rows:List Row):List Nat:=(List.range rows.length).filter fun n=>(bgN (tabOf rows) n).isNone
def sp_dead (K:PySem.W.Frag):Sp:=fun vs H Q _=>∃ (F:Hp) (A:CAd) (rows:List Row) (lp:Nat→Nat),vs=[.ref A.p]∧CK K F A rows lp∧Ex F H∧∀ (H':Hp) (a:Addr),Ex H H'→H a=none→H' a=some (.lst (intsV (ddN rows)))→Q (.ref a) H'
section
variable {P:Program} {w:World} {h:Heap} {K:PySem.W.Frag} {mg:Str→Option Value} {base:Heap}
abbrev N_reached:List Str:=["code"]
theorem sc_reached:FnScope N_reached ["code"] (defScope sd_reached):=⟨rfl,rfl,rfl,by decide +kernel,rfl,by decide +kernel,by decide +kernel⟩
theorem okF_reached (T:Tx w h K mg):∃ fd,FnOk P w K mg base (CX P w) 7 (He.fAd K ("reached",none)) fd ["code"] (sp_reached K)∧Binds K fd ["code"] []∧PySem.W.keepIn K (.ref (He.fAd K ("reached",none)))=true∧FunD K "reached" "reached" (defArgs sd_reached) (defBody sd_reached) (defScope sd_reached) [] [] (He.fAd K ("reached",none)) fd:=by
 obtain ⟨fd,F⟩:=F_reached T
 refine ⟨fd,?_,F.bindsN (fun _ _ _ _ _ _ us hl=>match us,hl with | [_],_=>rfl),F.kp,F⟩
 obtain ⟨fd_all_place_answers,G_all_place_answers,bi_all_place_answers,kp_all_place_answers⟩:=ok_all_place_answers (P:=P) (base:=base) T
 refine F.ok sc_reached (fun vs H Q E h=>?_) (fun cdv A outer s H vs Q E hr h=>?_)
 ·obtain ⟨F,A,rows,lp,rfl,X,xF,q⟩:=h
  rfl
 ·obtain ⟨F,A,rows,lp,rfl,X,xF,q⟩:=h
  refine ⟨_,PSs.nox (pss_one (ps_ret (pe_callB (FcS.cr_sortK rfl) rfl (fr_sorted T) b_sorted (pa_cons (pe_call G_all_place_answers (hr.mono (by decide)) rfl (g_all_place_answers T) kp_all_place_answers bi_all_place_answers .nil passF (pa_cons (pv 0) pa_nil)) pa_nil)))),?_⟩
  refine ⟨_,rfl,F,A,rows,lp,rfl,X,xF,fun H1 d x1 nd PD _=>?_⟩
  obtain ⟨vs,h1,h2⟩:=PD
  refine ⟨d,vs,(rcN rows).map (fun n:Nat=>(n:Int)),rfl,h1,?_,fun ns p hp hs np=>?_⟩
  ·rw [← paL_keys,List.map_map,List.map_map]
   clear h1
   generalize paL rows=ps at h2
   induction h2 with
   | nil=>rfl
   | cons r _ ih=>rw [List.map_cons,List.map_cons,ih,r.1]<;>rfl
  ·rw [srt_asc (rcN_asc rows) hp hs]
   generalize e2:upd H1 p _=H2
   obtain ⟨x2,s2,o2⟩:=new_of e2 np
   clear e2
   exact q H2 p (x1.trans x2) (ex_none x1 np) s2
theorem ok_reached (T:Tx w h K mg):Ok P w K mg base 7 ("reached",none) ["code"] (sp_reached K):=by
 obtain ⟨fd,a,b,c,_⟩:=okF_reached (P:=P) (base:=base) T
 exact ⟨fd,a,b,c⟩
abbrev N_dead:List Str:=["code","begun","number"]
theorem sc_dead:FnScope N_dead ["code"] (defScope sd_dead):=⟨rfl,rfl,rfl,by decide +kernel,rfl,by decide +kernel,by decide +kernel⟩
theorem okF_dead (T:Tx w h K mg):∃ fd,FnOk P w K mg base (CX P w) 7 (He.fAd K ("dead",none)) fd ["code"] (sp_dead K)∧Binds K fd ["code"] []∧PySem.W.keepIn K (.ref (He.fAd K ("dead",none)))=true∧FunD K "dead" "dead" (defArgs sd_dead) (defBody sd_dead) (defScope sd_dead) [] [] (He.fAd K ("dead",none)) fd:=by
 obtain ⟨fd,F⟩:=F_dead T
 refine ⟨fd,?_,F.bindsN (fun _ _ _ _ _ _ us hl=>match us,hl with | [_],_=>rfl),F.kp,F⟩
 obtain ⟨fd_begin_answers,G_begin_answers,bi_begin_answers,kp_begin_answers⟩:=ok_begin_answers (P:=P) (base:=base) T
 obtain ⟨fd_Code___len__,G_Code___len__,bi_Code___len__,kp_Code___len__⟩:=ok_Code___len__ (P:=P) (base:=base) T
 refine F.ok sc_dead (fun vs H Q E h=>?_) (fun cdv A outer s H vs Q E hr h=>?_)
 ·obtain ⟨F,A,rows,lp,rfl,X,xF,q⟩:=h
  rfl
 ·obtain ⟨F,A,rows,lp,rfl,X,xF,q⟩:=h
  refine ⟨_,PSs.nox (pss_cons (ps_set (i:=1) sc_dead.nd rfl (Or.inr rfl) (pe_call G_begin_answers (hr.mono (by decide)) rfl (g_begin_answers T) kp_begin_answers bi_begin_answers .nil passF (pa_cons (pv 0) pa_nil))) (pss_one (ps_ret (pe_lc (own:=[("number",2)]) rfl sc_dead.nd (pi_range1 rfl (fr_range T) (pa_cons (pe_callB (FcO.call_lenO G_Code___len__ (hr.mono (by decide)) (me_Code___len__ T) bi_Code___len__ passF) rfl (fr_len T) b_len (pa_cons (pv 0) pa_nil)) pa_nil)) (blkOk_by (N:=N_dead) (sc:=defScope sd_dead) (by decide +kernel)) (fun _ _ _ _ _=>(pg_name (i:=2) sc_dead.nd rfl (Or.inl rfl))) (fun _ _ _ _ _=>(pts_one (pt_cmpR op_isN (pe_ix (show IxR _ (rIxL K) from ix_list) (pv 1) (pv 2) (fun _ _=>rfl)) pe_non (nomark _)))) (fun _ _ _ _ _=>(pv 2)))))),?_⟩
  have hl4:=X.l
  refine ⟨_,rfl,F,A,rows,lp,rfl,X,xF,fun H1 p x1 np bl=>?_⟩
  have xF1:=xF.trans x1
  obtain ⟨vs1,C1,_⟩:=X.c.ex (Evl.Ex.refl _) xF1
  refine ⟨_,rfl,A.p,_,_,rfl,C1.ob,F,A,rows,rfl,X.c,xF1,rows.length,rfl,(by omega),_,rfl,(by omega),(by omega),?_⟩
  refine fun D nD=>?_
  refine lc_it (walk_range (lo:=0) (n:=rows.length)) (fun i H'=>Ex H1 H'∧H' D=some (.lst (intsV ((List.range i).filter fun n=>(bgN (tabOf rows) n).isNone)))) ?_ ?_ ?_ ?_
  ·exact ⟨exu (Evl.Ex.refl _) nD,upd_same⟩
  ·exact fun _ _ _ _=>True.intro
  ·rintro i v2 Ja Jb hi ⟨x2,l2⟩ ⟨rfl,rfl⟩
   have ei:(0:Int) + (i:Int)=(i:Int):=by omega
   obtain ⟨bs,hb,pb,lb,_⟩:=bgL_ex x2 bl
   obtain ⟨u,hu,au⟩:=paired_getR pb (bgN_get (rows:=rows) hi)
   refine ⟨rfl,_,rfl,_,rfl,p,_,_,_,rfl,(congrArg V.int ei),Evl.sq_of hb,atI_nat hu,rfl,_,rfl,?_⟩
   rw [List.range_succ,List.filter_append]
   cases e:bgN (tabOf rows) i with
   | none =>
    rw [e] at au
    obtain rfl:u=.non:=au
    refine itT rfl ?_
    refine ⟨_,rfl,_,l2,szl (by rw [intsV_len];have:=List.length_filter_le (fun n=>(bgN (tabOf rows) n).isNone) (List.range i);rw [List.length_range] at this;omega),exm x2 nD,?_⟩
    rw [upd_same,List.filter_cons_of_pos (by rw [e]<;>rfl),List.filter_nil,← intsV_app]
    dsimp only
    rw [ei]
   | some x =>
    rw [e] at au
    obtain ⟨ax,rfl,_⟩:=au
    refine itF rfl ⟨x2,?_⟩
    rw [List.filter_cons_of_neg (by rw [e];simp),List.filter_nil,List.append_nil]
    exact l2
  ·rintro H2 ⟨x2,l2⟩
   exact q H2 D (x1.trans x2) (ex_none x1 nD) l2
theorem ok_dead (T:Tx w h K mg):Ok P w K mg base 7 ("dead",none) ["code"] (sp_dead K):=by
 obtain ⟨fd,a,b,c,_⟩:=okF_dead (P:=P) (base:=base) T
 exact ⟨fd,a,b,c⟩
end
end
section
open FcM (Way Node Tab)
theorem depth_le67:∀ {l:List PyData} {x:PyData},x∈l→x.depth≤PyData.depthAll l
 | [],_,h=>nomatch h
 | y::l,x,h=>by
  show _≤max _ _
  rcases List.mem_cons.mp h with rfl | h
  ·omega
  ·have:=depth_le67 h;omega
theorem parts_lt67 {l:Int} {d:PyData} (sv:SV l d):∀ x∈partsD d,x.depth<d.depth:=by
 have a:∀ {k:Str} {y:PyData} {r:List PyData} {x:PyData},x∈r→x.depth<(PyData.tuple (.str k::r)).depth:=fun {k y r x} h=>by
  have h3:=depth_le67 (l:=.str k::r) (x:=x) (List.mem_cons_of_mem _ h)
  simp only [PyData.depth]
  omega
 intro x hx
 cases sv with
 | seq p ps =>
  have hx:x∈p::ps:=List.mem_of_mem_take hx
  have h3:=depth_le67 (l:=[.str "seq",.tuple (p::ps)]) (x:=.tuple (p::ps)) (by simp)
  have h4:=depth_le67 hx
  simp only [PyData.depth] at h3 ⊢
  omega
 | iff y p q=>exact a (y:=.none) (r:=[.str y,p,q]) (List.mem_cons_of_mem _ hx)
 | whl y p=>exact a (y:=.none) (r:=[.str y,p]) (List.mem_cons_of_mem _ hx)
 | tr p q=>exact a (y:=.none) (r:=[p,q]) hx
 | fin p q=>exact a (y:=.none) (r:=[p,q]) hx
 | _=>exact nomatch hx
theorem parts_401p {l:Int} {d:PyData} (sv:SV l d):(partsD d).length≤401:=by
 cases sv with
 | seq p ps =>
  show ((p::ps).take 401).length≤401
  rw [List.length_take]
  omega
 | do_ x=>exact Nat.zero_le _
 | call x=>exact Nat.zero_le _
 | iff x a b=>exact (show 2≤401 by decide)
 | whl x a=>exact (show 1≤401 by decide)
 | brk n h1 h2=>exact Nat.zero_le _
 | cnt n h1 h2=>exact Nat.zero_le _
 | ret=>exact Nat.zero_le _
 | rai=>exact Nat.zero_le _
 | tr a b=>exact (show 2≤401 by decide)
 | fin a b=>exact (show 2≤401 by decide)
def mkD (d:PyData) (es:List PyData):PyData :=
 match d with
 | .tuple (.str k::r)=>if k="seq" then .tuple [.str k,.tuple es] else if k∈kLab then .tuple (.str k::r.take 1++es) else .tuple (.str k::es)
 | d=>d
def cutF (rows:List Row) (dd:List Nat):Nat→Nat→PyData
 | 0,_=>.none
 | k + 1,n=>match rows[n]? with
  | none=>.none
  | some r=>if kindD r.d="try"∧r.ch.getD 1 0∈dd then cutF rows dd k (r.ch.getD 0 0) else mkD r.d ((r.ch.filter fun c=>decide (c ∉ dd)).map (cutF rows dd k))
def cutN (rows:List Row) (dd:List Nat) (n:Nat):PyData:=cutF rows dd (rows.length - n) n
theorem cut_fuel {rows:List Row} (up:∀ (n:Nat) (r:Row),rows[n]?=some r→∀ c∈r.ch,n<c∧c<rows.length) (two:∀ (n:Nat) (r:Row),rows[n]?=some r→kindD r.d="try"→∃ a b,r.ch=[a,b]) (dd:List Nat):∀ (k k' n:Nat),rows.length - n≤k→rows.length - n≤k'→n<rows.length→cutF rows dd k n=cutF rows dd k' n
 | 0,_,n,h,_,hn=>by omega
 | _,0,n,_,h,hn=>by omega
 | k + 1,k' + 1,n,h,h',hn=>by
  unfold cutF
  have hr:rows[n]?=some rows[n]:=List.getElem?_eq_getElem hn
  rw [hr]
  dsimp only
  by_cases z:kindD rows[n].d="try"∧rows[n].ch.getD 1 0∈dd
  ·rw [if_pos z,if_pos z]
   obtain ⟨a,b,e⟩:=two n _ hr z.1
   have:=up n _ hr a (by rw [e];simp)
   rw [e]
   exact cut_fuel up two dd k k' a (by omega) (by omega) this.2
  ·rw [if_neg z,if_neg z]
   congr 1
   refine List.map_congr_left fun c hc=>?_
   have:=up n _ hr c (List.mem_filter.mp hc).1
   exact cut_fuel up two dd k k' c (by omega) (by omega) this.2
structure UpR (rows:List Row):Prop where
 up:∀ (n:Nat) (r:Row),rows[n]?=some r→∀ c∈r.ch,n<c∧c<rows.length
 two:∀ (n:Nat) (r:Row),rows[n]?=some r→kindD r.d="try"→∃ a b,r.ch=[a,b]
 dp:∀ (n:Nat) (r:Row),rows[n]?=some r→∀ c∈r.ch,∃ r':Row,rows[c]?=some r'∧r'.d.depth<r.d.depth
theorem cut_try {rows:List Row} (U:UpR rows) {dd:List Nat} {n a b:Nat} {r:Row} (hr:rows[n]?=some r) (hk:kindD r.d="try") (hc:r.ch=[a,b]) (hd:b∈dd):cutN rows dd n=cutN rows dd a:=by
 have hn:=(List.getElem?_eq_some_iff.mp hr).1
 have ha:=U.up n r hr a (by rw [hc];simp)
 unfold cutN
 obtain ⟨k,hk'⟩:∃ k,rows.length - n=k + 1:=⟨rows.length - n - 1,by omega⟩
 rw [hk']
 conv=>lhs;unfold cutF
 rw [hr]
 dsimp only
 rw [hc,if_pos ⟨hk,hd⟩]
 exact cut_fuel U.up U.two dd k _ a (by omega) (Nat.le_refl _) ha.2
theorem cut_mk {rows:List Row} (U:UpR rows) {dd:List Nat} {n:Nat} {r:Row} (hr:rows[n]?=some r) (h:¬ (kindD r.d="try"∧r.ch.getD 1 0∈dd)):cutN rows dd n=mkD r.d ((r.ch.filter fun c=>decide (c ∉ dd)).map (cutN rows dd)):=by
 have hn:=(List.getElem?_eq_some_iff.mp hr).1
 unfold cutN
 obtain ⟨k,hk'⟩:∃ k,rows.length - n=k + 1:=⟨rows.length - n - 1,by omega⟩
 rw [hk']
 conv=>lhs;unfold cutF
 rw [hr]
 dsimp only
 rw [if_neg h]
 congr 1
 refine List.map_congr_left fun c hc=>?_
 have:=U.up n r hr c (List.mem_filter.mp hc).1
 exact cut_fuel U.up U.two dd k _ c (by omega) (Nat.le_refl _) this.2
end
section
open FcM (Way Node Tab)
inductive Ev (t:Tab):Nat ⊕ List Nat→List Int→Way→Prop
 | do_ {n:Nat} (h:t.nd n=.do_):Ev t (.inl n) [] .nrm
 | call0 {n:Nat} (h:t.nd n=.call):Ev t (.inl n) [0] .nrm
 | call1 {n:Nat} (h:t.nd n=.call):Ev t (.inl n) [1] .rai
 | ret {n:Nat} (h:t.nd n=.ret):Ev t (.inl n) [] .ret
 | rai {n:Nat} (h:t.nd n=.rai):Ev t (.inl n) [] .rai
 | brk {n k:Nat} (h:t.nd n=.brk k):Ev t (.inl n) [] (.brk k)
 | cnt {n k:Nat} (h:t.nd n=.cnt k):Ev t (.inl n) [] (.cnt k)
 | if0 {n a b:Nat} {l:List Int} {v:Way} (h:t.nd n=.iff a b) (r:Ev t (.inl a) l v):Ev t (.inl n) (0::l) v
 | if1 {n a b:Nat} {l:List Int} {v:Way} (h:t.nd n=.iff a b) (r:Ev t (.inl b) l v):Ev t (.inl n) (1::l) v
 | wh0 {n a:Nat} (h:t.nd n=.whl a):Ev t (.inl n) [0] .nrm
 | whA {n a:Nat} {l l2:List Int} {w v:Way} (h:t.nd n=.whl a) (r:Ev t (.inl a) l w) (hw:FcM.again w=true) (r2:Ev t (.inl n) l2 v):Ev t (.inl n) (1::(l++l2)) v
 | whO {n a:Nat} {l:List Int} {w:Way} (h:t.nd n=.whl a) (r:Ev t (.inl a) l w) (hw:FcM.again w=false):Ev t (.inl n) (1::l) (FcM.decW w)
 | seq {n:Nat} {cs:List Nat} {l:List Int} {v:Way} (h:t.nd n=.seq cs) (r:Ev t (.inr cs) l v):Ev t (.inl n) l v
 | trO {n a b:Nat} {l:List Int} {v:Way} (h:t.nd n=.tr a b) (r:Ev t (.inl a) l v) (hv:v≠.rai):Ev t (.inl n) l v
 | trH {n a b:Nat} {l l2:List Int} {v:Way} (h:t.nd n=.tr a b) (r:Ev t (.inl a) l .rai) (r2:Ev t (.inl b) l2 v):Ev t (.inl n) (l++l2) v
 | finN {n a b:Nat} {l l2:List Int} {v:Way} (h:t.nd n=.fin a b) (r:Ev t (.inl a) l v) (r2:Ev t (.inl b) l2 .nrm):Ev t (.inl n) (l++l2) v
 | finO {n a b:Nat} {l l2:List Int} {w v:Way} (h:t.nd n=.fin a b) (r:Ev t (.inl a) l w) (r2:Ev t (.inl b) l2 v) (hv:v≠.nrm):Ev t (.inl n) (l++l2) v
 | sNil:Ev t (.inr []) [] .nrm
 | sOne {c:Nat} {cs:List Nat} {l l2:List Int} {v:Way} (r:Ev t (.inl c) l .nrm) (r2:Ev t (.inr cs) l2 v):Ev t (.inr (c::cs)) (l++l2) v
 | sOut {c:Nat} {cs:List Nat} {l:List Int} {v:Way} (r:Ev t (.inl c) l v) (hv:v≠.nrm):Ev t (.inr (c::cs)) l v
def leL (a b:List Int):Prop:=a.length<b.length∨(a.length=b.length∧¬ b<a)
theorem lt_irr:∀ a:List Int,¬ a<a
 | [],h=>nomatch h
 | x::a,h=>by
  rcases List.cons_lt_cons_iff.mp h with h | ⟨_,h⟩
  ·omega
  ·exact lt_irr a h
theorem lt_tri:∀ a b:List Int,a<b∨a=b∨b<a
 | [],[]=>.inr (.inl rfl)
 | [],_::_=>.inl .nil
 | _::_,[]=>.inr (.inr .nil)
 | x::a,y::b=>by
  rcases Int.lt_trichotomy x y with h | h | h
  ·exact .inl (List.cons_lt_cons_iff.mpr (.inl h))
  ·subst h
   rcases lt_tri a b with h | h | h
   ·exact .inl (List.cons_lt_cons_iff.mpr (.inr ⟨rfl,h⟩))
   ·exact .inr (.inl (by rw [h]))
   ·exact .inr (.inr (List.cons_lt_cons_iff.mpr (.inr ⟨rfl,h⟩)))
  ·exact .inr (.inr (List.cons_lt_cons_iff.mpr (.inl h)))
theorem lt_tra:∀ {a b c:List Int},a<b→b<c→a<c
 | [],_,[],_,h=>nomatch h
 | [],_,_::_,_,_=>.nil
 | _::_,[],_,h,_=>nomatch h
 | _::_,_::_,[],_,h=>nomatch h
 | x::a,y::b,z::c,h1,h2=>by
  rcases List.cons_lt_cons_iff.mp h1 with h1 | ⟨e1,h1⟩<;>rcases List.cons_lt_cons_iff.mp h2 with h2 | ⟨e2,h2⟩
  ·exact List.cons_lt_cons_iff.mpr (.inl (by omega))
  ·exact List.cons_lt_cons_iff.mpr (.inl (by omega))
  ·exact List.cons_lt_cons_iff.mpr (.inl (by omega))
  ·exact List.cons_lt_cons_iff.mpr (.inr ⟨by omega,lt_tra h1 h2⟩)
theorem leL_refl (a:List Int):leL a a:=.inr ⟨rfl,lt_irr a⟩
theorem leL_tot (a b:List Int):leL a b∨leL b a:=by
 rcases Nat.lt_trichotomy a.length b.length with h | h | h
 ·exact .inl (.inl h)
 ·by_cases z:b<a
  ·exact .inr (.inr ⟨h.symm,fun y=>lt_irr _ (lt_tra y z)⟩)
  ·exact .inl (.inr ⟨h,z⟩)
 ·exact .inr (.inl h)
theorem leL_trans {a b c:List Int} (h:leL a b) (h':leL b c):leL a c:=by
 rcases h with h | ⟨e,h⟩<;>rcases h' with h' | ⟨e',h'⟩
 ·exact .inl (by omega)
 ·exact .inl (by omega)
 ·exact .inl (by omega)
 ·refine .inr ⟨by omega,fun z=>?_⟩
  rcases lt_tri b c with y | y | y
  ·exact h (lt_tra y z)
  ·exact h (by rw [y];exact z)
  ·exact h' y
theorem befL_iff (a b:List Int):befL a b=true ↔ ¬ leL b a:=by
 unfold befL
 rw [decide_eq_true_eq]
 constructor
 ·rintro (h | ⟨e,h⟩) (h' | ⟨e',h'⟩)<;>first | omega | exact h' h
 ·intro h
  rcases Nat.lt_trichotomy a.length b.length with z | z | z
  ·exact .inl z
  ·refine .inr ⟨z,?_⟩
   by_cases y:a<b
   ·exact y
   ·exact absurd (.inr ⟨z.symm,y⟩) h
  ·exact absurd (.inl z) h
theorem lt_app:∀ {a b:List Int} (x y:List Int),a.length=b.length→a<b→a++x<b++y
 | [],[],_,_,_,h=>nomatch h
 | [],_::_,_,_,e,_=>by simp at e
 | _::_,[],_,_,e,_=>by simp at e
 | p::a,q::b,x,y,e,h=>by
  rcases List.cons_lt_cons_iff.mp h with h | ⟨e1,h⟩
  ·exact List.cons_lt_cons_iff.mpr (.inl h)
  ·exact List.cons_lt_cons_iff.mpr (.inr ⟨e1,lt_app x y (by simpa using e) h⟩)
theorem lt_pre:∀ (p:List Int) {a b:List Int},p++a<p++b ↔ a<b
 | [],_,_=>Iff.rfl
 | x::p,a,b=>by
  show x::(p++a)<x::(p++b) ↔ _
  rw [List.cons_lt_cons_iff]
  constructor
  ·rintro (h | ⟨_,h⟩)
   ·omega
   ·exact (lt_pre p).mp h
  ·exact fun h=>.inr ⟨rfl,(lt_pre p).mpr h⟩
theorem leL_app {a b x y:List Int} (h:leL a b) (h':leL x y):leL (a++x) (b++y):=by
 unfold leL at h h' ⊢
 rw [List.length_append,List.length_append]
 rcases h with h | ⟨e,h⟩<;>rcases h' with h' | ⟨e',h'⟩
 ·exact .inl (by omega)
 ·exact .inl (by omega)
 ·exact .inl (by omega)
 ·refine .inr ⟨by omega,fun z=>?_⟩
  rcases lt_tri a b with k | k | k
  ·exact lt_irr _ (lt_tra z (lt_app x y e k))
  ·subst k
   exact h' ((lt_pre a).mp z)
  ·exact h k
theorem leL_cons {a b:List Int} (c:Int) (h:leL a b):leL (c::a) (c::b):=leL_app (leL_refl [c]) h
structure Bst (t:Tw) (S:Way→List Int→Prop):Prop where
 mn:∀ u l,lk t u=some l→S u l∧∀ l',S u l'→leL l l'
 ex:∀ u l,S u l→∃ l0,lk t u=some l0
theorem Bst.best {t:Tw} {S:Way→List Int→Prop} (b:Bst t S) {u:Way} {l:List Int} (h:S u l):∃ l0,lk t u=some l0∧leL l0 l:=by
 obtain ⟨l0,e⟩:=b.ex u l h
 exact ⟨l0,e,(b.mn u l0 e).2 l h⟩
theorem Bst.to {t:Tw} {S E:Way→List Int→Prop} (b:Bst t S) (h1:∀ u l,S u l→E u l) (h2:∀ u l,E u l→∃ l',S u l'∧leL l' l):Bst t E :=
 ⟨fun u l e=>⟨h1 u l (b.mn u l e).1,fun l' h=>by
  obtain ⟨l2,h3,h4⟩:=h2 u l' h
  exact leL_trans ((b.mn u l e).2 l2 h3) h4⟩,fun u l h=>by
  obtain ⟨l2,h3,_⟩:=h2 u l h
  exact b.ex u l2 h3⟩
theorem lk_put (t:Tw) (v:Way) (ans:List Int) (u:Way):lk (putT t v ans) u=if u=v then some ans else lk t u:=by
 unfold putT
 by_cases h:(lk t v).isSome=true
 ·rw [if_pos h]
  induction t with
  | nil=>exact absurd h (by simp [lk])
  | cons p t ih =>
   rw [List.map_cons]
   by_cases e:p.1=v
   ·rw [if_pos e]
    by_cases z:u=v
    ·rw [if_pos z,lk_pos (p:=(p.1,ans)) (by rw [z,e])]
    ·rw [if_neg z,lk_neg (p:=(p.1,ans)) (by rw [show (p.1,ans).1=p.1 from rfl,e];exact fun y=>z y.symm),lk_neg (p:=p) (by rw [e];exact fun y=>z y.symm)]
     by_cases y:(lk t v).isSome=true
     ·have:=ih y
      rw [if_neg z] at this
      exact this
     ·have:t.map (fun p=>if p.1=v then (p.1,ans) else p)=t:=by
       have ne:∀ q∈t,q.1≠v:=fun q hq e2=>y (by
        unfold lk
        rw [Option.isSome_map,List.find?_isSome]
        exact ⟨q,hq,by simp [e2]⟩)
       conv=>rhs;rw [← List.map_id t]
       exact List.map_congr_left fun q hq=>if_neg (ne q hq)
      rw [this]
   ·rw [if_neg e]
    rw [lk_neg (p:=p) e] at h
    have:=ih h
    by_cases z:p.1=u
    ·rw [lk_pos z,lk_pos z,if_neg (by rw [← z];exact e)]
    ·rw [lk_neg z,lk_neg z,this]
 ·rw [if_neg h]
  have hn:lk t v=none:=by
   cases e:lk t v with
   | none=>rfl
   | some x=>rw [e] at h;exact absurd rfl h
  clear h
  induction t with
  | nil =>
   by_cases z:u=v
   ·rw [if_pos z];simp [lk,z]
   ·rw [if_neg z]
    have:¬ v=u:=fun y=>z y.symm
    simp [lk,this]
  | cons p t ih =>
   have e:¬ p.1=v:=fun y=>by rw [lk_pos y] at hn;cases hn
   rw [lk_neg e] at hn
   rw [List.cons_append]
   by_cases z:p.1=u
   ·rw [lk_pos z,lk_pos z,if_neg (by rw [← z];exact e)]
   ·rw [lk_neg z,lk_neg z]
    exact ih hn
theorem Bst.nil:Bst [] (fun _ _=>False):=⟨fun u l e=>(by cases e),fun u l h=>h.elim⟩
theorem Bst.keep {t:Tw} {S:Way→List Int→Prop} (b:Bst t S) (v:Way) (ans:List Int):Bst (keepT t v ans) (fun u l=>S u l∨(u=v∧l=ans)):=by
 unfold keepT
 cases e:lk t v with
 | none =>
  have no:∀ l,¬ S v l:=fun l h=>by obtain ⟨l0,z⟩:=b.ex v l h;rw [e] at z;cases z
  dsimp only
  refine ⟨fun u l h=>?_,fun u l h=>?_⟩
  ·rw [lk_put] at h
   by_cases z:u=v
   ·rw [if_pos z] at h
    cases h
    refine ⟨.inr ⟨z,rfl⟩,fun l' h'=>?_⟩
    rcases h' with h' | ⟨_,rfl⟩
    ·exact absurd (z ▸ h') (no l')
    ·exact leL_refl _
   ·rw [if_neg z] at h
    obtain ⟨h1,h2⟩:=b.mn u l h
    refine ⟨.inl h1,fun l' h'=>?_⟩
    rcases h' with h' | ⟨h',_⟩
    ·exact h2 l' h'
    ·exact absurd h' z
  ·rw [lk_put]
   by_cases z:u=v
   ·rw [if_pos z];exact ⟨_,rfl⟩
   ·rw [if_neg z]
    rcases h with h | ⟨h,_⟩
    ·exact b.ex u l h
    ·exact absurd h z
 | some old =>
  obtain ⟨h1,h2⟩:=b.mn v old e
  dsimp only
  by_cases c:befL ans old=true
  ·rw [if_pos c]
   have c':=(befL_iff ans old).mp c
   refine ⟨fun u l h=>?_,fun u l h=>?_⟩
   ·rw [lk_put] at h
    by_cases z:u=v
    ·rw [if_pos z] at h
     cases h
     refine ⟨.inr ⟨z,rfl⟩,fun l' h'=>?_⟩
     rcases h' with h' | ⟨_,rfl⟩
     ·have:=h2 l' (z ▸ h')
      rcases leL_tot ans old with k | k
      ·exact leL_trans k this
      ·exact absurd k c'
     ·exact leL_refl _
    ·rw [if_neg z] at h
     obtain ⟨h3,h4⟩:=b.mn u l h
     refine ⟨.inl h3,fun l' h'=>?_⟩
     rcases h' with h' | ⟨h',_⟩
     ·exact h4 l' h'
     ·exact absurd h' z
   ·rw [lk_put]
    by_cases z:u=v
    ·rw [if_pos z];exact ⟨_,rfl⟩
    ·rw [if_neg z]
     rcases h with h | ⟨h,_⟩
     ·exact b.ex u l h
     ·exact absurd h z
  ·rw [if_neg c]
   have c':leL old ans:=by
    by_cases k:leL old ans
    ·exact k
    ·exact absurd ((befL_iff ans old).mpr k) c
   refine ⟨fun u l h=>?_,fun u l h=>?_⟩
   ·obtain ⟨h3,h4⟩:=b.mn u l h
    refine ⟨.inl h3,fun l' h'=>?_⟩
    rcases h' with h' | ⟨h',rfl⟩
    ·exact h4 l' h'
    ·subst h'
     rw [e] at h
     cases h
     exact c'
   ·rcases h with h | ⟨h,_⟩
    ·exact b.ex u l h
    ·subst h;exact ⟨old,e⟩
theorem Bst.imp {t:Tw} {S E:Way→List Int→Prop} (b:Bst t S) (h:∀ u l,S u l ↔ E u l):Bst t E :=
 b.to (fun u l z=>(h u l).mp z) fun u l z=>⟨l,(h u l).mpr z,leL_refl l⟩
theorem Bst.keepAll {f:List Int→List Int}:∀ {ps t:Tw} {S:Way→List Int→Prop},Bst t S→Bst (keepAll t ps f) (fun u l=>S u l∨∃ q∈ps,u=q.1∧l=f q.2)
 | [],t,S,b=>b.imp fun u l=>⟨fun h=>.inl h,fun h=>h.elim id fun ⟨q,hq,_⟩=>nomatch hq⟩
 | q::ps,t,S,b=>(Bst.keepAll (ps:=ps) (b.keep q.1 (f q.2))).imp fun u l=>by
  constructor
  ·rintro ((h | ⟨h1,h2⟩) | ⟨r,hr,h⟩)
   ·exact .inl h
   ·exact .inr ⟨q,List.mem_cons_self,h1,h2⟩
   ·exact .inr ⟨r,List.mem_cons_of_mem _ hr,h⟩
  ·rintro (h | ⟨r,hr,h⟩)
   ·exact .inl (.inl h)
   ·rcases List.mem_cons.mp hr with rfl | hr
    ·exact .inl (.inr h)
    ·exact .inr ⟨r,hr,h⟩
theorem Bst.put {t:Tw} {S:Way→List Int→Prop} (b:Bst t S) {v:Way} (no:∀ l,¬ S v l) (ans:List Int):Bst (putT t v ans) (fun u l=>S u l∨(u=v∧l=ans)):=by
 have e:lk t v=none:=by
  cases e:lk t v with
  | none=>rfl
  | some l=>exact absurd (b.mn v l e).1 (no l)
 have:=b.keep v ans
 unfold keepT at this
 rw [e] at this
 exact this
def NdK (t:Tw):Prop:=(t.map (·.1)).Nodup
theorem lkW_mem {t:Tw} (nd:NdK t) {p:Way×List Int} (h:p∈t):lk t p.1=some p.2:=by
 induction t with
 | nil=>exact nomatch h
 | cons q t ih =>
  unfold NdK at nd
  rw [List.map_cons,List.nodup_cons] at nd
  rcases List.mem_cons.mp h with rfl | h
  ·exact lk_pos rfl
  ·rw [lk_neg (fun z=>nd.1 (by rw [z];exact List.mem_map_of_mem h))]
   exact ih nd.2 h
theorem mem_lk {t:Tw} {v:Way} {l:List Int} (h:lk t v=some l):(v,l)∈t:=by
 obtain ⟨p,h1,h2⟩:=Option.map_eq_some_iff.mp h
 have h3:=List.mem_of_find?_eq_some h1
 have h4:=List.find?_some h1
 have h5:p.1=v:=of_decide_eq_true h4
 rw [← h2,← h5]
 exact h3
theorem ndk_put {t:Tw} (nd:NdK t) (v:Way) (ans:List Int):NdK (putT t v ans):=by
 unfold putT
 split
 ·unfold NdK
  rw [List.map_map]
  have:((fun p:Way×List Int=>p.1) ∘ fun p:Way×List Int=>if p.1=v then (p.1,ans) else p)=fun p=>p.1:=funext fun p=>by
   show (if p.1=v then (p.1,ans) else p).1=p.1
   split<;>rfl
  rw [this]
  exact nd
 ·rename_i h
  unfold NdK
  rw [List.map_append,List.nodup_append]
  refine ⟨nd,by simp,fun a ha b hb=>?_⟩
  obtain rfl:=List.mem_singleton.mp hb
  intro e
  subst e
  obtain ⟨p,hp,e2⟩:=List.mem_map.mp ha
  have:=lkW_mem nd hp
  rw [e2] at this
  exact h (by rw [this]<;>rfl)
theorem ndk_keep {t:Tw} (nd:NdK t) (v:Way) (ans:List Int):NdK (keepT t v ans):=by
 unfold keepT
 split
 ·exact ndk_put nd v ans
 ·split
  ·exact ndk_put nd v ans
  ·exact nd
theorem ndk_keepAll {f:List Int→List Int}:∀ {ps t:Tw},NdK t→NdK (keepAll t ps f)
 | [],_,h=>h
 | q::ps,t,h=>ndk_keepAll (ps:=ps) (ndk_keep h q.1 (f q.2))
theorem ndk_nil:NdK []:=List.nodup_nil
theorem ndk_whileStep {t:Tw} (nd:NdK t) (q:Way×List Int):NdK (whileStep t q):=by
 unfold whileStep
 split<;>first | exact ndk_put nd _ _ | exact nd
theorem ndk_while (a:Tw):NdK (whileT a):=by
 have:∀ (ps t:Tw),NdK t→NdK (ps.foldl whileStep t):=by
  intro ps
  induction ps with
  | nil=>exact fun t h=>h
  | cons q ps ih=>exact fun t h=>ih _ (ndk_whileStep h q)
 exact this a _ (by simp [NdK])
theorem ndk_seq:∀ (ps:List Tw) (t:Tw) (b:List Int),NdK t→NdK (seqT ps t b)
 | [],t,b,h=>ndk_put h _ _
 | p::ps,t,b,h=>by
  unfold seqT
  dsimp only
  split
  ·exact ndk_keepAll h
  ·exact ndk_seq ps _ _ (ndk_keepAll h)
theorem ndk_step (nd:Node) (g:Nat→Tw):NdK (stepT nd g):=by
 cases nd with
 | iff a b=>exact ndk_keepAll (ndk_keepAll ndk_nil)
 | whl a=>exact ndk_while _
 | seq l=>exact ndk_seq _ _ _ ndk_nil
 | tr a b =>
  show NdK (tryT (g a) (g b))
  unfold tryT
  dsimp only
  split
  ·exact ndk_keepAll ndk_nil
  ·exact ndk_keepAll (ndk_keepAll ndk_nil)
 | fin a b =>
  show NdK (finT (g a) (g b))
  unfold finT
  dsimp only
  split
  ·exact ndk_keepAll ndk_nil
  ·exact ndk_keepAll (ndk_keepAll ndk_nil)
 | do_=>simp [stepT,leafT,NdK]
 | call=>simp [stepT,leafT,NdK]
 | ret=>simp [stepT,leafT,NdK]
 | rai=>simp [stepT,leafT,NdK]
 | brk k=>simp [stepT,leafT,NdK]
 | cnt k=>simp [stepT,leafT,NdK]
theorem ndk_all {t:Tab} {lp:Nat→Nat} (W:t.WF lp) {n:Nat} (h:n<t.len):NdK (tbN t n):=by rw [tbN_eq W h];exact ndk_step _ _
end
section
open FcM (Way Node Tab)
def EvI (t:Tab) (n:Nat) (l:List Int) (v:Way):Prop:=match t.nd n with
 | .do_=>l=[]∧v=.nrm
 | .call=>(l=[0]∧v=.nrm)∨(l=[1]∧v=.rai)
 | .ret=>l=[]∧v=.ret
 | .rai=>l=[]∧v=.rai
 | .brk k=>l=[]∧v=.brk k
 | .cnt k=>l=[]∧v=.cnt k
 | .iff a b=>(∃ l',l=0::l'∧Ev t (.inl a) l' v)∨∃ l',l=1::l'∧Ev t (.inl b) l' v
 | .whl a=>(l=[0]∧v=.nrm)∨(∃ l1 l2 w,l=1::(l1++l2)∧Ev t (.inl a) l1 w∧FcM.again w=true∧Ev t (.inl n) l2 v)∨∃ l1 w,l=1::l1∧Ev t (.inl a) l1 w∧FcM.again w=false∧v=FcM.decW w
 | .seq cs=>Ev t (.inr cs) l v
 | .tr a b=>(Ev t (.inl a) l v∧v≠.rai)∨∃ l1 l2,l=l1++l2∧Ev t (.inl a) l1 .rai∧Ev t (.inl b) l2 v
 | .fin a b=>(∃ l1 l2,l=l1++l2∧Ev t (.inl a) l1 v∧Ev t (.inl b) l2 .nrm)∨∃ l1 l2 w,l=l1++l2∧Ev t (.inl a) l1 w∧Ev t (.inl b) l2 v∧v≠.nrm
theorem ev_inv {t:Tab} {n:Nat} {l:List Int} {v:Way} (h:Ev t (.inl n) l v):EvI t n l v:=by
 unfold EvI
 cases h with
 | do_ h=>rw [h];exact ⟨rfl,rfl⟩
 | call0 h=>rw [h];exact .inl ⟨rfl,rfl⟩
 | call1 h=>rw [h];exact .inr ⟨rfl,rfl⟩
 | ret h=>rw [h];exact ⟨rfl,rfl⟩
 | rai h=>rw [h];exact ⟨rfl,rfl⟩
 | brk h=>rw [h];exact ⟨rfl,rfl⟩
 | cnt h=>rw [h];exact ⟨rfl,rfl⟩
 | if0 h r=>rw [h];exact .inl ⟨_,rfl,r⟩
 | if1 h r=>rw [h];exact .inr ⟨_,rfl,r⟩
 | wh0 h=>rw [h];exact .inl ⟨rfl,rfl⟩
 | whA h r hw r2=>rw [h];exact .inr (.inl ⟨_,_,_,rfl,r,hw,r2⟩)
 | whO h r hw=>rw [h];exact .inr (.inr ⟨_,_,rfl,r,hw,rfl⟩)
 | seq h r=>rw [h];exact r
 | trO h r hv=>rw [h];exact .inl ⟨r,hv⟩
 | trH h r r2=>rw [h];exact .inr ⟨_,_,rfl,r,r2⟩
 | finN h r r2=>rw [h];exact .inl ⟨_,_,rfl,r,r2⟩
 | finO h r r2 hv=>rw [h];exact .inr ⟨_,_,_,rfl,r,r2,hv⟩
abbrev BE (t:Tab) (x:Nat) (a:Tw):Prop:=Bst a fun v l=>Ev t (.inl x) l v
theorem Bst.mem {t:Tw} {S:Way→List Int→Prop} (b:Bst t S) (nd:NdK t) {p:Way×List Int} (h:p∈t):S p.1 p.2:=(b.mn p.1 p.2 (lkW_mem nd h)).1
theorem Bst.get {t:Tw} {S:Way→List Int→Prop} (b:Bst t S) {u:Way} {l:List Int} (h:S u l):∃ l0,(u,l0)∈t∧S u l0∧leL l0 l:=by
 obtain ⟨l0,e,h1⟩:=b.best h
 exact ⟨l0,mem_lk e,(b.mn u l0 e).1,h1⟩
theorem bst_if {t:Tab} {n x y:Nat} {a b:Tw} (hd:t.nd n=.iff x y) (na:NdK a) (nb:NdK b) (ha:BE t x a) (hb:BE t y b):BE t n (ifT a b):=by
 refine (Bst.keepAll (f:=fun x=>1::x) (ps:=b) (Bst.keepAll (f:=fun x=>0::x) (ps:=a) Bst.nil)).to ?_ ?_
 ·rintro u l ((h | ⟨q,hq,rfl,rfl⟩) | ⟨q,hq,rfl,rfl⟩)
  ·exact h.elim
  ·exact .if0 hd (ha.mem na hq)
  ·exact .if1 hd (hb.mem nb hq)
 ·intro u l h
  have z:=ev_inv h
  unfold EvI at z
  rw [hd] at z
  rcases z with ⟨l',rfl,r⟩ | ⟨l',rfl,r⟩
  ·obtain ⟨l0,h1,_,h2⟩:=ha.get r
   exact ⟨_,.inl (.inr ⟨_,h1,rfl,rfl⟩),leL_cons 0 h2⟩
  ·obtain ⟨l0,h1,_,h2⟩:=hb.get r
   exact ⟨_,.inr ⟨_,h1,rfl,rfl⟩,leL_cons 1 h2⟩
theorem mem_flt {a:Tw} {v:Way} {p:Way×List Int}:p∈a.filter (fun e=>decide (e.1≠v)) ↔ p∈a∧p.1≠v:=by rw [List.mem_filter,decide_eq_true_eq]
theorem bst_try {t:Tab} {n x y:Nat} {a b:Tw} (hd:t.nd n=.tr x y) (na:NdK a) (nb:NdK b) (ha:BE t x a) (hb:BE t y b):BE t n (tryT a b):=by
 have h0:=Bst.keepAll (f:=id) (ps:=a.filter fun e=>decide (e.1≠.rai)) Bst.nil
 unfold tryT
 dsimp only
 cases e:lk a .rai with
 | none =>
  dsimp only
  refine h0.to ?_ ?_
  ·rintro u l (h | ⟨q,hq,rfl,rfl⟩)
   ·exact h.elim
   ·obtain ⟨h1,h2⟩:=mem_flt.mp hq
    exact .trO hd (ha.mem na h1) h2
  ·intro u l h
   have z:=ev_inv h
   unfold EvI at z
   rw [hd] at z
   rcases z with ⟨r,hv⟩ | ⟨l1,l2,rfl,r,_⟩
   ·obtain ⟨l0,h1,_,h2⟩:=ha.get r
    exact ⟨l0,.inr ⟨_,mem_flt.mpr ⟨h1,hv⟩,rfl,rfl⟩,h2⟩
   ·obtain ⟨l0,h1⟩:=ha.ex _ _ r
    rw [e] at h1
    cases h1
 | some lr =>
  dsimp only
  have hr:=(ha.mn _ _ e).1
  refine (Bst.keepAll (f:=fun y=>lr++y) (ps:=b) h0).to ?_ ?_
  ·rintro u l ((h | ⟨q,hq,rfl,rfl⟩) | ⟨q,hq,rfl,rfl⟩)
   ·exact h.elim
   ·obtain ⟨h1,h2⟩:=mem_flt.mp hq
    exact .trO hd (ha.mem na h1) h2
   ·exact .trH hd hr (hb.mem nb hq)
  ·intro u l h
   have z:=ev_inv h
   unfold EvI at z
   rw [hd] at z
   rcases z with ⟨r,hv⟩ | ⟨l1,l2,rfl,r,r2⟩
   ·obtain ⟨l0,h1,_,h2⟩:=ha.get r
    exact ⟨l0,.inl (.inr ⟨_,mem_flt.mpr ⟨h1,hv⟩,rfl,rfl⟩),h2⟩
   ·obtain ⟨l0,h1,_,h2⟩:=hb.get r2
    exact ⟨_,.inr ⟨_,h1,rfl,rfl⟩,leL_app ((ha.mn _ _ e).2 _ r) h2⟩
theorem short_fold:∀ (a:Tw) (b:Option (List Int)),(∀ l,a.foldl (fun b p=>match b with | none=>some p.2 | some y=>if befL p.2 y=true then some p.2 else some y) b=some l→(∀ p∈a,leL l p.2)∧∀ y,b=some y→leL l y)
 | [],b,l,h=>⟨fun p hp=>(by cases hp),fun y hy=>by
  have h:b=some l:=h
  rw [hy] at h
  cases h
  exact leL_refl _⟩
 | p::a,b,l,h=>by
  rw [List.foldl_cons] at h
  obtain ⟨h1,h2⟩:=short_fold a _ l h
  cases b with
  | none =>
   have:=h2 p.2 rfl
   refine ⟨fun q hq=>?_,fun y hy=>(by cases hy)⟩
   rcases List.mem_cons.mp hq with rfl | hq
   ·exact this
   ·exact h1 q hq
  | some y =>
   by_cases c:befL p.2 y=true
   ·have:=h2 p.2 (if_pos c)
    have c':=(befL_iff _ _).mp c
    refine ⟨fun q hq=>?_,fun z hz=>?_⟩
    ·rcases List.mem_cons.mp hq with rfl | hq
     ·exact this
     ·exact h1 q hq
    ·cases hz
     rcases leL_tot p.2 y with k | k
     ·exact leL_trans this k
     ·exact absurd k c'
   ·have:=h2 y (if_neg c)
    have c':leL y p.2:=by
     by_cases k:leL y p.2
     ·exact k
     ·exact absurd ((befL_iff _ _).mpr k) c
    refine ⟨fun q hq=>?_,fun z hz=>?_⟩
    ·rcases List.mem_cons.mp hq with rfl | hq
     ·exact leL_trans this c'
     ·exact h1 q hq
    ·cases hz
     exact this
theorem short_best {t:Tab} {x:Nat} {a:Tw} (na:NdK a) (ha:BE t x a) (ne:a≠[]):∃ s w,shortT a=some s∧Ev t (.inl x) s w∧∀ l v,Ev t (.inl x) l v→leL s l:=by
 obtain ⟨s,e,p,hp,ep⟩:=shortT_some ne
 obtain ⟨h1,_⟩:=short_fold a none s e
 refine ⟨s,p.1,e,by rw [← ep];exact ha.mem na hp,fun l v h=>?_⟩
 obtain ⟨l0,h2,_,h3⟩:=ha.get h
 exact leL_trans (h1 _ h2) h3
theorem bst_fin {t:Tab} {n x y:Nat} {a b:Tw} (hd:t.nd n=.fin x y) (na:NdK a) (nb:NdK b) (ha:BE t x a) (hb:BE t y b) (ne:a≠[]):BE t n (finT a b):=by
 obtain ⟨s,w,es,hs,ms⟩:=short_best na ha ne
 unfold finT
 rw [es]
 dsimp only [Option.getD_some]
 have key:∀ (T:Tw) (S:Way→List Int→Prop),Bst T S→(∀ u l,S u l→Ev t (.inl n) l u)→(∀ u l1 l2,Ev t (.inl x) l1 u→Ev t (.inl y) l2 .nrm→∃ l',S u l'∧leL l' (l1++l2))→BE t n (keepAll T (b.filter fun e=>decide (e.1≠.nrm)) fun y=>s++y):=by
  intro T S hT h1 h2
  refine (Bst.keepAll (f:=fun y=>s++y) (ps:=b.filter fun e=>decide (e.1≠.nrm)) hT).to ?_ ?_
  ·rintro u l (h | ⟨q,hq,rfl,rfl⟩)
   ·exact h1 u l h
   ·obtain ⟨h3,h4⟩:=mem_flt.mp hq
    exact .finO hd hs (hb.mem nb h3) h4
  ·intro u l h
   have z:=ev_inv h
   unfold EvI at z
   rw [hd] at z
   rcases z with ⟨l1,l2,rfl,r,r2⟩ | ⟨l1,l2,w2,rfl,r,r2,hv⟩
   ·obtain ⟨l',h3,h4⟩:=h2 u l1 l2 r r2
    exact ⟨l',.inl h3,h4⟩
   ·obtain ⟨l0,h3,_,h4⟩:=hb.get r2
    exact ⟨_,.inr ⟨_,mem_flt.mpr ⟨h3,hv⟩,rfl,rfl⟩,leL_app (ms _ _ r) h4⟩
 cases e:lk b .nrm with
 | none =>
  refine key [] _ Bst.nil (fun u l h=>h.elim) fun u l1 l2 r r2=>?_
  obtain ⟨l0,h1⟩:=hb.ex _ _ r2
  rw [e] at h1
  cases h1
 | some lb =>
  refine key _ _ (Bst.keepAll (f:=fun x=>x++lb) (ps:=a) Bst.nil) ?_ ?_
  ·rintro u l (h | ⟨q,hq,rfl,rfl⟩)
   ·exact h.elim
   ·exact .finN hd (ha.mem na hq) (hb.mn _ _ e).1
  ·intro u l1 l2 r r2
   obtain ⟨l0,h3,_,h4⟩:=ha.get r
   exact ⟨_,.inr ⟨_,h3,rfl,rfl⟩,leL_app h4 ((hb.mn _ _ e).2 _ r2)⟩
def EvL (t:Tab) (cs:List Nat) (bf:List Int) (S:Way→List Int→Prop):Way→List Int→Prop:=fun u l=>S u l∨∃ l2,l=bf++l2∧Ev t (.inr cs) l2 u
theorem bst_seq {t:Tab} (g:Nat→Tw):∀ (cs:List Nat) (T:Tw) (bf:List Int) (S:Way→List Int→Prop),(∀ c∈cs,NdK (g c)∧BE t c (g c))→Bst T S→(∀ l,¬ S .nrm l)→Bst (seqT (cs.map g) T bf) (EvL t cs bf S)
 | [],T,bf,S,_,hT,no=>by
  refine (hT.put no bf).imp fun u l=>?_
  constructor
  ·rintro (h | ⟨rfl,rfl⟩)
   ·exact .inl h
   ·exact .inr ⟨[],by simp,.sNil⟩
  ·rintro (h | ⟨l2,rfl,h⟩)
   ·exact .inl h
   ·cases h
    exact .inr ⟨rfl,by simp⟩
 | c::cs,T,bf,S,h0,hT,no=>by
  obtain ⟨nc,hc⟩:=h0 c List.mem_cons_self
  have h1:=Bst.keepAll (f:=fun x=>bf++x) (ps:=(g c).filter fun e=>decide (e.1≠.nrm)) hT
  have sub:∀ u l,(S u l∨∃ q∈(g c).filter (fun e=>decide (e.1≠.nrm)),u=q.1∧l=bf++q.2)→EvL t (c::cs) bf S u l:=by
   rintro u l (h | ⟨q,hq,rfl,rfl⟩)
   ·exact .inl h
   ·obtain ⟨h2,h3⟩:=mem_flt.mp hq
    exact .inr ⟨_,rfl,.sOut (hc.mem nc h2) h3⟩
  rw [List.map_cons]
  unfold seqT
  dsimp only
  cases e:lk (g c) .nrm with
  | none =>
   dsimp only
   refine h1.to sub ?_
   rintro u l (h | ⟨l2,rfl,h⟩)
   ·exact ⟨l,.inl h,leL_refl _⟩
   ·cases h with
    | sOne r r2 =>
     obtain ⟨l0,h2⟩:=hc.ex _ _ r
     rw [e] at h2
     cases h2
    | sOut r hv =>
     obtain ⟨l0,h2,_,h3⟩:=hc.get r
     exact ⟨_,.inr ⟨_,mem_flt.mpr ⟨h2,hv⟩,rfl,rfl⟩,leL_app (leL_refl _) h3⟩
  | some x =>
   dsimp only
   have hx:=hc.mn _ _ e
   have ih:=bst_seq g cs _ (bf++x) _ (fun d hd=>h0 d (List.mem_cons_of_mem _ hd)) h1 (by
    rintro l (h | ⟨q,hq,h2,_⟩)
    ·exact no l h
    ·exact (mem_flt.mp hq).2 h2.symm)
   refine ih.to ?_ ?_
   ·rintro u l (h | ⟨l2,rfl,h⟩)
    ·exact sub u l h
    ·exact .inr ⟨x++l2,by rw [List.append_assoc],.sOne hx.1 h⟩
   ·rintro u l (h | ⟨l2,rfl,h⟩)
    ·exact ⟨l,.inl (.inl h),leL_refl _⟩
    ·cases h with
     | @sOne _ _ l1 l3 _ r r2 =>
      refine ⟨(bf++x)++l3,.inr ⟨l3,rfl,r2⟩,?_⟩
      rw [← List.append_assoc]
      exact leL_app (leL_app (leL_refl _) (hx.2 _ r)) (leL_refl _)
     | sOut r hv =>
      obtain ⟨l0,h2,_,h3⟩:=hc.get r
      exact ⟨_,.inl (.inr ⟨_,mem_flt.mpr ⟨h2,hv⟩,rfl,rfl⟩),leL_app (leL_refl _) h3⟩
def keyW:Way→Option Way
 | .brk (k + 2)=>some (.brk (k + 1))
 | .cnt (k + 2)=>some (.cnt (k + 1))
 | .ret=>some .ret
 | .rai=>some .rai
 | _=>none
theorem step_key (t:Tw) (q:Way×List Int):whileStep t q=match keyW q.1 with | some u=>putT t u (1::q.2) | none=>t:=by
 obtain ⟨v,l⟩:=q
 unfold whileStep keyW
 cases v with
 | brk k=>match k with | 0=>rfl | 1=>rfl | k + 2=>rfl
 | cnt k=>match k with | 0=>rfl | 1=>rfl | k + 2=>rfl
 | _=>rfl
theorem key_inj {v w u:Way} (h1:keyW v=some u) (h2:keyW w=some u):v=w:=by
 have h:keyW v=keyW w:=h1.trans h2.symm
 rw [h1] at h
 cases v with
 | nrm=>cases h1
 | brk k=>match k,h1 with
  | k + 2,h1 =>
   cases h1
   cases w with
   | brk j=>match j,h2 with
    | j + 2,h2=>cases h2;rfl
   | cnt j=>match j,h2 with
    | j + 2,h2=>cases h2
   | nrm=>cases h2
   | ret=>cases h2
   | rai=>cases h2
 | cnt k=>match k,h1 with
  | k + 2,h1 =>
   cases h1
   cases w with
   | brk j=>match j,h2 with
    | j + 2,h2=>cases h2
   | cnt j=>match j,h2 with
    | j + 2,h2=>cases h2;rfl
   | nrm=>cases h2
   | ret=>cases h2
   | rai=>cases h2
 | ret =>
  cases h1
  cases w with
  | brk j=>match j,h2 with
   | j + 2,h2=>cases h2
  | cnt j=>match j,h2 with
   | j + 2,h2=>cases h2
  | nrm=>cases h2
  | ret=>rfl
  | rai=>cases h2
 | rai =>
  cases h1
  cases w with
  | brk j=>match j,h2 with
   | j + 2,h2=>cases h2
  | cnt j=>match j,h2 with
   | j + 2,h2=>cases h2
  | nrm=>cases h2
  | ret=>cases h2
  | rai=>rfl
theorem key_dec {v u:Way} (h:keyW v=some u):FcM.again v=false∧FcM.decW v=u∧u≠.nrm:=by
 cases v with
 | nrm=>cases h
 | brk k=>match k,h with
  | k + 2,h =>
   cases h
   refine ⟨by simp [FcM.again],?_,fun z=>by cases z⟩
   show (if k + 2=1 then Way.nrm else Way.brk (k + 2 - 1))=_
   rw [if_neg (by omega)]<;>rfl
 | cnt k=>match k,h with
  | k + 2,h =>
   cases h
   exact ⟨by simp [FcM.again],rfl,fun z=>by cases z⟩
 | ret=>cases h;exact ⟨by simp [FcM.again],rfl,fun z=>by cases z⟩
 | rai=>cases h;exact ⟨by simp [FcM.again],rfl,fun z=>by cases z⟩
theorem while_fold:∀ (ps:Tw) (T:Tw) (S:Way→List Int→Prop),NdK ps→Bst T S→(∀ p∈ps,∀ u,keyW p.1=some u→∀ l,¬ S u l)→Bst (ps.foldl whileStep T) (fun u l=>S u l∨∃ q∈ps,keyW q.1=some u∧l=1::q.2)
 | [],T,S,_,h,_=>h.imp fun u l=>⟨fun z=>.inl z,fun z=>z.elim id fun ⟨q,hq,_⟩=>nomatch hq⟩
 | p::ps,T,S,nd,h,no=>by
  unfold NdK at nd
  rw [List.map_cons,List.nodup_cons] at nd
  rw [List.foldl_cons,step_key]
  cases e:keyW p.1 with
  | none =>
   dsimp only
   refine (while_fold ps T S nd.2 h fun q hq=>no q (List.mem_cons_of_mem _ hq)).imp fun u l=>?_
   constructor
   ·rintro (z | ⟨q,hq,z⟩)
    ·exact .inl z
    ·exact .inr ⟨q,List.mem_cons_of_mem _ hq,z⟩
   ·rintro (z | ⟨q,hq,z1,z2⟩)
    ·exact .inl z
    ·rcases List.mem_cons.mp hq with rfl | hq
     ·rw [e] at z1;cases z1
     ·exact .inr ⟨q,hq,z1,z2⟩
  | some u0 =>
   dsimp only
   have h1:=h.put (no p List.mem_cons_self u0 e) (1::p.2)
   refine (while_fold ps _ _ nd.2 h1 fun q hq u eu l=>?_).imp fun u l=>?_
   ·rintro (z | ⟨rfl,_⟩)
    ·exact no q (List.mem_cons_of_mem _ hq) u eu l z
    ·exact nd.1 (by rw [key_inj e eu];exact List.mem_map_of_mem hq)
   ·constructor
    ·rintro ((z | ⟨rfl,rfl⟩) | ⟨q,hq,z⟩)
     ·exact .inl z
     ·exact .inr ⟨p,List.mem_cons_self,e,rfl⟩
     ·exact .inr ⟨q,List.mem_cons_of_mem _ hq,z⟩
    ·rintro (z | ⟨q,hq,z1,z2⟩)
     ·exact .inl (.inl z)
     ·rcases List.mem_cons.mp hq with rfl | hq
      ·rw [e] at z1
       cases z1
       exact .inl (.inr ⟨rfl,z2⟩)
      ·exact .inr ⟨q,hq,z1,z2⟩
theorem bst_while {t:Tab} {n x:Nat} {a:Tw} (hd:t.nd n=.whl x) (na:NdK a) (ha:BE t x a) (ok:∀ p∈a,∀ k,p.1=.brk k∨p.1=.cnt k→1≤k):BE t n (whileT a):=by
 have h0:Bst [((.nrm:Way),([0]:List Int))] (fun u l=>False∨(u=.nrm∧l=[0])):=by
  have:=Bst.nil.put (v:=.nrm) (fun l h=>h) [0]
  exact this
 have h1:=while_fold a _ _ na h0 (by
  rintro p hp u eu l (h | ⟨rfl,_⟩)
  ·exact h
  ·exact (key_dec eu).2.2 rfl)
 refine h1.to ?_ ?_
 ·rintro u l ((h | ⟨rfl,rfl⟩) | ⟨q,hq,eu,rfl⟩)
  ·exact h.elim
  ·exact .wh0 hd
  ·obtain ⟨k1,k2,_⟩:=key_dec eu
   rw [← k2]
   exact .whO hd (ha.mem na hq) k1
 ·have all:∀ (X:Nat ⊕ List Nat) (l:List Int) (v:Way),Ev t X l v→X=.inl n→∃ l',((False∨(v=.nrm∧l'=[0]))∨∃ q∈a,keyW q.1=some v∧l'=1::q.2)∧leL l' l:=by
   intro X l v h
   induction h with
   | wh0 h =>
    rintro e
    exact ⟨[0],.inl (.inr ⟨rfl,rfl⟩),leL_refl _⟩
   | @whA m c l1 l2 w v h r hw r2 _ ih =>
    rintro e
    cases e
    obtain ⟨l',k1,k2⟩:=ih rfl
    refine ⟨l',k1,leL_trans k2 (.inl ?_)⟩
    simp
    omega
   | @whO m c l1 w h r hw =>
    rintro e
    cases e
    rw [hd] at h
    cases h
    obtain ⟨l0,k1,_,k2⟩:=ha.get r
    have zero:FcM.decW w=.nrm→∃ l',((False∨(FcM.decW w=.nrm∧l'=[0]))∨∃ q∈a,keyW q.1=some (FcM.decW w)∧l'=1::q.2)∧leL l' (1::l1):=fun z=>by
     refine ⟨[0],.inl (.inr ⟨z,rfl⟩),?_⟩
     cases l1 with
     | nil=>exact .inr ⟨rfl,fun y=>by rcases List.cons_lt_cons_iff.mp y with y | ⟨y,_⟩<;>omega⟩
     | cons=>exact .inl (by simp)
    have some_:keyW w=some (FcM.decW w)→∃ l',((False∨(FcM.decW w=.nrm∧l'=[0]))∨∃ q∈a,keyW q.1=some (FcM.decW w)∧l'=1::q.2)∧leL l' (1::l1):=fun z =>
     ⟨_,.inr ⟨(w,l0),k1,z,rfl⟩,leL_cons 1 k2⟩
    cases w with
    | nrm=>simp [FcM.again] at hw
    | ret=>exact some_ rfl
    | rai=>exact some_ rfl
    | brk k=>match k with
     | 0=>exact absurd (ok _ k1 0 (.inl rfl)) (by omega)
     | 1=>exact zero rfl
     | k + 2=>exact some_ (by show some (Way.brk (k + 1))=some (if k + 2=1 then Way.nrm else Way.brk (k + 2 - 1));rw [if_neg (by omega)]<;>rfl)
    | cnt k=>match k with
     | 0=>exact absurd (ok _ k1 0 (.inr rfl)) (by omega)
     | 1=>simp [FcM.again] at hw
     | k + 2=>exact some_ rfl
   | do_ h=>rintro e;cases e;rw [hd] at h;cases h
   | call0 h=>rintro e;cases e;rw [hd] at h;cases h
   | call1 h=>rintro e;cases e;rw [hd] at h;cases h
   | ret h=>rintro e;cases e;rw [hd] at h;cases h
   | rai h=>rintro e;cases e;rw [hd] at h;cases h
   | brk h=>rintro e;cases e;rw [hd] at h;cases h
   | cnt h=>rintro e;cases e;rw [hd] at h;cases h
   | if0 h=>rintro e;cases e;rw [hd] at h;cases h
   | if1 h=>rintro e;cases e;rw [hd] at h;cases h
   | seq h=>rintro e;cases e;rw [hd] at h;cases h
   | trO h=>rintro e;cases e;rw [hd] at h;cases h
   | trH h=>rintro e;cases e;rw [hd] at h;cases h
   | finN h=>rintro e;cases e;rw [hd] at h;cases h
   | finO h=>rintro e;cases e;rw [hd] at h;cases h
   | sNil=>rintro e;cases e
   | sOne=>rintro e;cases e
   | sOut=>rintro e;cases e
  exact fun u l h=>all _ l u h rfl
theorem bst_all {rows : List Row} {lp : Nat → Nat} (W : TW rows lp) (G : WgA rows) : ∀ (k n : Nat), n < rows.length → rows.length - n ≤ k → BE (tabOf rows) n (tbN (tabOf rows) n)
  | 0, n, hn, h => by omega
  | k + 1, n, hn, h => by
    have ih : ∀ c ∈ ((tabOf rows).nd n).ch, NdK (tbN (tabOf rows) c) ∧ BE (tabOf rows) c (tbN (tabOf rows) c) := fun c hc => by
      obtain ⟨d1, d2, _⟩ := W.wf.dn n hn c hc
      have d2 : c < rows.length := d2
      exact ⟨ndk_all W.wf d2, bst_all W G k c d2 (by omega)⟩
    obtain ⟨_, pk⟩ := parts_ok W G hn
    rw [tbN_eq W.wf hn]
    cases hd : (tabOf rows).nd n with
    | iff a b =>
      rw [hd] at ih
      exact bst_if hd (ih a (by simp [Node.ch])).1 (ih b (by simp [Node.ch])).1 (ih a (by simp [Node.ch])).2 (ih b (by simp [Node.ch])).2
    | whl a =>
      rw [hd] at ih pk
      exact bst_while hd (ih a (by simp [Node.ch])).1 (ih a (by simp [Node.ch])).2 fun p hp => ((pk a (by simp [Node.ch])).2 p hp).2
    | seq l =>
      rw [hd] at ih
      refine (bst_seq (tbN (tabOf rows)) l [] [] (fun _ _ => False) ih Bst.nil (fun _ h => h)).imp fun u l2 => ?_
      constructor
      · rintro (h | ⟨l3, rfl, h⟩)
        · exact h.elim
        · exact .seq hd h
      · intro h
        have z := ev_inv h
        unfold EvI at z
        rw [hd] at z
        exact .inr ⟨l2, rfl, z⟩
    | tr a b =>
      rw [hd] at ih
      exact bst_try hd (ih a (by simp [Node.ch])).1 (ih b (by simp [Node.ch])).1 (ih a (by simp [Node.ch])).2 (ih b (by simp [Node.ch])).2
    | fin a b =>
      rw [hd] at ih pk
      exact bst_fin hd (ih a (by simp [Node.ch])).1 (ih b (by simp [Node.ch])).1 (ih a (by simp [Node.ch])).2 (ih b (by simp [Node.ch])).2 (pk a (by simp [Node.ch])).1
    | _ =>
      refine ⟨fun u l e => ?_, fun u l h => ?_⟩
      · have m := mem_lk e
        simp only [stepT, leafT, List.mem_cons, List.not_mem_nil, or_false, Prod.mk.injEq] at m
        first
          | (obtain ⟨rfl, rfl⟩ := m
             refine ⟨by constructor <;> exact hd, fun l' h => ?_⟩
             have z := ev_inv h
             unfold EvI at z
             rw [hd] at z
             rw [z.1]
             exact leL_refl _)
          | (rcases m with ⟨rfl, rfl⟩ | ⟨rfl, rfl⟩
             · refine ⟨.call0 hd, fun l' h => ?_⟩
               have z := ev_inv h
               unfold EvI at z
               rw [hd] at z
               rcases z with ⟨z, _⟩ | ⟨_, z⟩
               · rw [z]; exact leL_refl _
               · cases z
             · refine ⟨.call1 hd, fun l' h => ?_⟩
               have z := ev_inv h
               unfold EvI at z
               rw [hd] at z
               rcases z with ⟨_, z⟩ | ⟨z, _⟩
               · cases z
               · rw [z]; exact leL_refl _)
      · have z := ev_inv h
        unfold EvI at z
        rw [hd] at z
        first
          | (obtain ⟨rfl, rfl⟩ := z; exact ⟨[], lk_pos rfl⟩)
          | (rcases z with ⟨rfl, rfl⟩ | ⟨rfl, rfl⟩
             · exact ⟨[0], rfl⟩
             · exact ⟨[1], rfl⟩)
theorem tb_best {rows:List Row} {lp:Nat→Nat} (W:TW rows lp) (G:WgA rows) {n:Nat} (hn:n<rows.length):BE (tabOf rows) n (tbN (tabOf rows) n):=bst_all W G rows.length n hn (Nat.sub_le _ _)
end
section
open FcM (Way Node Tab)
inductive Ew (t:Tab):Nat ⊕ List Nat→List Int→List Int→Option Way→Nat→Prop
 | quiet {n:Nat} {l:List Int} (h:FcM.quiet (t.nd n)):Ew t (.inl n) l l (some (FcM.wayN (t.nd n))) 1
 | call0 {n:Nat} {l:List Int} (h:t.nd n=.call):Ew t (.inl n) (0::l) l (some .nrm) 1
 | call1 {n:Nat} {l:List Int} (h:t.nd n=.call):Ew t (.inl n) (1::l) l (some .rai) 1
 | ask {n:Nat} (h:FcM.asks (t.nd n)=true):Ew t (.inl n) [] [] none 1
 | if0 {n a b k:Nat} {l l':List Int} {o:Option Way} (h:t.nd n=.iff a b) (r:Ew t (.inl a) l l' o k):Ew t (.inl n) (0::l) l' o (k + 1)
 | if1 {n a b k:Nat} {l l':List Int} {o:Option Way} (h:t.nd n=.iff a b) (r:Ew t (.inl b) l l' o k):Ew t (.inl n) (1::l) l' o (k + 1)
 | wh0 {n a:Nat} {l:List Int} (h:t.nd n=.whl a):Ew t (.inl n) (0::l) l (some .nrm) 1
 | whW {n a k:Nat} {l l':List Int} (h:t.nd n=.whl a) (r:Ew t (.inl a) l l' none k):Ew t (.inl n) (1::l) l' none (k + 1)
 | whA {n a k k2:Nat} {l l1 l':List Int} {w:Way} {o:Option Way} (h:t.nd n=.whl a) (r:Ew t (.inl a) l l1 (some w) k) (hw:FcM.again w=true) (r2:Ew t (.inl n) l1 l' o k2):Ew t (.inl n) (1::l) l' o (k + 1 + k2)
 | whO {n a k:Nat} {l l':List Int} {w:Way} (h:t.nd n=.whl a) (r:Ew t (.inl a) l l' (some w) k) (hw:FcM.again w=false):Ew t (.inl n) (1::l) l' (some (FcM.decW w)) (k + 1)
 | seq {n k:Nat} {cs:List Nat} {l l':List Int} {o:Option Way} (h:t.nd n=.seq cs) (r:Ew t (.inr cs) l l' o k):Ew t (.inl n) l l' o k
 | trO {n a b k:Nat} {l l':List Int} {o:Option Way} (h:t.nd n=.tr a b) (r:Ew t (.inl a) l l' o k) (ho:o≠some .rai):Ew t (.inl n) l l' o k
 | trH {n a b k k2:Nat} {l l1 l':List Int} {o:Option Way} (h:t.nd n=.tr a b) (r:Ew t (.inl a) l l1 (some .rai) k) (r2:Ew t (.inl b) l1 l' o k2):Ew t (.inl n) l l' o (k + k2)
 | finW {n a b k:Nat} {l l':List Int} (h:t.nd n=.fin a b) (r:Ew t (.inl a) l l' none k):Ew t (.inl n) l l' none k
 | finB {n a b k k2:Nat} {l l1 l':List Int} {w:Way} {o:Option Way} (h:t.nd n=.fin a b) (r:Ew t (.inl a) l l1 (some w) k) (r2:Ew t (.inl b) l1 l' o k2) (ho:o≠some .nrm):Ew t (.inl n) l l' o (k + k2)
 | finN {n a b k k2:Nat} {l l1 l':List Int} {w:Way} (h:t.nd n=.fin a b) (r:Ew t (.inl a) l l1 (some w) k) (r2:Ew t (.inl b) l1 l' (some .nrm) k2):Ew t (.inl n) l l' (some w) (k + k2 + 1)
 | sNil {l:List Int}:Ew t (.inr []) l l (some .nrm) 0
 | sOne {c k k2:Nat} {cs:List Nat} {l l1 l':List Int} {o:Option Way} (r:Ew t (.inl c) l l1 (some .nrm) k) (r2:Ew t (.inr cs) l1 l' o k2):Ew t (.inr (c::cs)) l l' o (k + k2)
 | sOut {c k:Nat} {cs:List Nat} {l l':List Int} {o:Option Way} (r:Ew t (.inl c) l l' o k) (ho:o≠some .nrm):Ew t (.inr (c::cs)) l l' o k
theorem ew_q {t:Tab} {n:Nat} {nd:Node} {l:List Int} (h:t.nd n=nd) (hq:FcM.quiet nd):Ew t (.inl n) l l (some (FcM.wayN nd)) 1:=by
 have:=Ew.quiet (t:=t) (n:=n) (l:=l) (by rw [h];exact hq)
 rw [h] at this
 exact this
theorem ev_ew {t:Tab} {x:Nat ⊕ List Nat} {l:List Int} {v:Way} (h:Ev t x l v):∀ rest,∃ k,Ew t x (l++rest) rest (some v) k:=by
 induction h with
 | do_ h=>exact fun rest=>⟨_,ew_q h trivial⟩
 | ret h=>exact fun rest=>⟨_,ew_q h trivial⟩
 | rai h=>exact fun rest=>⟨_,ew_q h trivial⟩
 | brk h=>exact fun rest=>⟨_,ew_q h trivial⟩
 | cnt h=>exact fun rest=>⟨_,ew_q h trivial⟩
 | call0 h=>exact fun rest=>⟨_,.call0 h⟩
 | call1 h=>exact fun rest=>⟨_,.call1 h⟩
 | if0 h r ih=>exact fun rest=>let ⟨k,z⟩:=ih rest;⟨_,.if0 h z⟩
 | if1 h r ih=>exact fun rest=>let ⟨k,z⟩:=ih rest;⟨_,.if1 h z⟩
 | wh0 h=>exact fun rest=>⟨_,.wh0 h⟩
 | @whA n a l l2 w v h r hw r2 ih ih2 =>
  intro rest
  obtain ⟨k2,z2⟩:=ih2 rest
  obtain ⟨k,z⟩:=ih (l2++rest)
  have z3:=Ew.whA (w:=w) h z hw z2
  rw [← List.append_assoc,← List.cons_append] at z3
  exact ⟨_,z3⟩
 | @whO n a l w h r hw ih=>exact fun rest=>let ⟨k,z⟩:=ih rest;⟨_,Ew.whO (w:=w) h z hw⟩
 | seq h r ih=>exact fun rest=>let ⟨k,z⟩:=ih rest;⟨_,.seq h z⟩
 | trO h r hv ih=>exact fun rest=>let ⟨k,z⟩:=ih rest;⟨_,.trO h z fun y=>hv (Option.some.inj y)⟩
 | @trH n a b l l2 v h r r2 ih ih2 =>
  intro rest
  obtain ⟨k2,z2⟩:=ih2 rest
  obtain ⟨k,z⟩:=ih (l2++rest)
  have z3:=Ew.trH h z z2
  rw [← List.append_assoc] at z3
  exact ⟨_,z3⟩
 | @finN n a b l l2 v h r r2 ih ih2 =>
  intro rest
  obtain ⟨k2,z2⟩:=ih2 rest
  obtain ⟨k,z⟩:=ih (l2++rest)
  have z3:=Ew.finN h z z2
  rw [← List.append_assoc] at z3
  exact ⟨_,z3⟩
 | @finO n a b l l2 w v h r r2 hv ih ih2 =>
  intro rest
  obtain ⟨k2,z2⟩:=ih2 rest
  obtain ⟨k,z⟩:=ih (l2++rest)
  have z3:=Ew.finB h z z2 fun y=>hv (Option.some.inj y)
  rw [← List.append_assoc] at z3
  exact ⟨_,z3⟩
 | sNil=>exact fun rest=>⟨_,.sNil⟩
 | @sOne c cs l l2 v r r2 ih ih2 =>
  intro rest
  obtain ⟨k2,z2⟩:=ih2 rest
  obtain ⟨k,z⟩:=ih (l2++rest)
  have z3:=Ew.sOne z z2
  rw [← List.append_assoc] at z3
  exact ⟨_,z3⟩
 | sOut r hv ih=>exact fun rest=>let ⟨k,z⟩:=ih rest;⟨_,.sOut z fun y=>hv (Option.some.inj y)⟩
end
section
open FcM (Way Node Tab)
inductive Ewp (t:Tab):Nat ⊕ List Nat→List Int→List Int→Option Way→List Nat→Prop
 | quiet {n:Nat} {l:List Int} (h:FcM.quiet (t.nd n)):Ewp t (.inl n) l l (some (FcM.wayN (t.nd n))) [n]
 | call0 {n:Nat} {l:List Int} (h:t.nd n=.call):Ewp t (.inl n) (0::l) l (some .nrm) [n]
 | call1 {n:Nat} {l:List Int} (h:t.nd n=.call):Ewp t (.inl n) (1::l) l (some .rai) [n]
 | ask {n:Nat} (h:FcM.asks (t.nd n)=true):Ewp t (.inl n) [] [] none [n]
 | if0 {n a b:Nat} {ps:List Nat} {l l':List Int} {o:Option Way} (h:t.nd n=.iff a b) (r:Ewp t (.inl a) l l' o ps):Ewp t (.inl n) (0::l) l' o (n::ps)
 | if1 {n a b:Nat} {ps:List Nat} {l l':List Int} {o:Option Way} (h:t.nd n=.iff a b) (r:Ewp t (.inl b) l l' o ps):Ewp t (.inl n) (1::l) l' o (n::ps)
 | wh0 {n a:Nat} {l:List Int} (h:t.nd n=.whl a):Ewp t (.inl n) (0::l) l (some .nrm) [n]
 | whW {n a:Nat} {ps:List Nat} {l l':List Int} (h:t.nd n=.whl a) (r:Ewp t (.inl a) l l' none ps):Ewp t (.inl n) (1::l) l' none (n::ps)
 | whA {n a:Nat} {ps ps2:List Nat} {l l1 l':List Int} {w:Way} {o:Option Way} (h:t.nd n=.whl a) (r:Ewp t (.inl a) l l1 (some w) ps) (hw:FcM.again w=true) (r2:Ewp t (.inl n) l1 l' o ps2):Ewp t (.inl n) (1::l) l' o (n::(ps++ps2))
 | whO {n a:Nat} {ps:List Nat} {l l':List Int} {w:Way} (h:t.nd n=.whl a) (r:Ewp t (.inl a) l l' (some w) ps) (hw:FcM.again w=false):Ewp t (.inl n) (1::l) l' (some (FcM.decW w)) (n::ps)
 | seq {n:Nat} {ps:List Nat} {cs:List Nat} {l l':List Int} {o:Option Way} (h:t.nd n=.seq cs) (r:Ewp t (.inr cs) l l' o ps):Ewp t (.inl n) l l' o ps
 | trO {n a b:Nat} {ps:List Nat} {l l':List Int} {o:Option Way} (h:t.nd n=.tr a b) (r:Ewp t (.inl a) l l' o ps) (ho:o≠some .rai):Ewp t (.inl n) l l' o ps
 | trH {n a b:Nat} {ps ps2:List Nat} {l l1 l':List Int} {o:Option Way} (h:t.nd n=.tr a b) (r:Ewp t (.inl a) l l1 (some .rai) ps) (r2:Ewp t (.inl b) l1 l' o ps2):Ewp t (.inl n) l l' o (ps++ps2)
 | finW {n a b:Nat} {ps:List Nat} {l l':List Int} (h:t.nd n=.fin a b) (r:Ewp t (.inl a) l l' none ps):Ewp t (.inl n) l l' none ps
 | finB {n a b:Nat} {ps ps2:List Nat} {l l1 l':List Int} {w:Way} {o:Option Way} (h:t.nd n=.fin a b) (r:Ewp t (.inl a) l l1 (some w) ps) (r2:Ewp t (.inl b) l1 l' o ps2) (ho:o≠some .nrm):Ewp t (.inl n) l l' o (ps++ps2)
 | finN {n a b:Nat} {ps ps2:List Nat} {l l1 l':List Int} {w:Way} (h:t.nd n=.fin a b) (r:Ewp t (.inl a) l l1 (some w) ps) (r2:Ewp t (.inl b) l1 l' (some .nrm) ps2):Ewp t (.inl n) l l' (some w) (ps++ps2++[n])
 | sNil {l:List Int}:Ewp t (.inr []) l l (some .nrm) []
 | sOne {c:Nat} {ps ps2:List Nat} {cs:List Nat} {l l1 l':List Int} {o:Option Way} (r:Ewp t (.inl c) l l1 (some .nrm) ps) (r2:Ewp t (.inr cs) l1 l' o ps2):Ewp t (.inr (c::cs)) l l' o (ps++ps2)
 | sOut {c:Nat} {ps:List Nat} {cs:List Nat} {l l':List Int} {o:Option Way} (r:Ewp t (.inl c) l l' o ps) (ho:o≠some .nrm):Ewp t (.inr (c::cs)) l l' o ps
theorem ewp_ew {t:Tab} {x:Nat ⊕ List Nat} {l l':List Int} {o:Option Way} {ps:List Nat} (h:Ewp t x l l' o ps):Ew t x l l' o ps.length:=by
 induction h with
 | quiet h=>exact .quiet h
 | call0 h=>exact .call0 h
 | call1 h=>exact .call1 h
 | ask h=>exact .ask h
 | wh0 h=>exact .wh0 h
 | if0 h r ih=>exact .if0 h ih
 | if1 h r ih=>exact .if1 h ih
 | whW h r ih=>exact .whW h ih
 | whO h r hw ih=>exact .whO h ih hw
 | @whA n a ps ps2 l l1 l' w o h r hw r2 ih ih2 =>
  have z:=Ew.whA h ih hw ih2
  rw [show ps.length + 1 + ps2.length=(n::(ps++ps2)).length from by simp;omega] at z
  exact z
 | seq h r ih=>exact .seq h ih
 | trO h r ho ih=>exact .trO h ih ho
 | trH h r r2 ih ih2=>rw [List.length_append];exact .trH h ih ih2
 | finW h r ih=>exact .finW h ih
 | finB h r r2 ho ih ih2=>rw [List.length_append];exact .finB h ih ih2 ho
 | finN h r r2 ih ih2=>rw [List.length_append,List.length_append];exact .finN h ih ih2
 | sNil=>exact .sNil
 | sOne r r2 ih ih2=>rw [List.length_append];exact .sOne ih ih2
 | sOut r ho ih=>exact .sOut ih ho
theorem ew_ewp {t:Tab} {x:Nat ⊕ List Nat} {l l':List Int} {o:Option Way} {k:Nat} (h:Ew t x l l' o k):∃ ps,Ewp t x l l' o ps:=by
 induction h with
 | quiet h=>exact ⟨_,.quiet h⟩
 | call0 h=>exact ⟨_,.call0 h⟩
 | call1 h=>exact ⟨_,.call1 h⟩
 | ask h=>exact ⟨_,.ask h⟩
 | wh0 h=>exact ⟨_,.wh0 h⟩
 | if0 h r ih=>obtain ⟨ps,z⟩:=ih;exact ⟨_,.if0 h z⟩
 | if1 h r ih=>obtain ⟨ps,z⟩:=ih;exact ⟨_,.if1 h z⟩
 | whW h r ih=>obtain ⟨ps,z⟩:=ih;exact ⟨_,.whW h z⟩
 | whO h r hw ih=>obtain ⟨ps,z⟩:=ih;exact ⟨_,.whO h z hw⟩
 | whA h r hw r2 ih ih2=>obtain ⟨ps,z⟩:=ih;obtain ⟨ps2,z2⟩:=ih2;exact ⟨_,.whA h z hw z2⟩
 | seq h r ih=>obtain ⟨ps,z⟩:=ih;exact ⟨_,.seq h z⟩
 | trO h r ho ih=>obtain ⟨ps,z⟩:=ih;exact ⟨_,.trO h z ho⟩
 | trH h r r2 ih ih2=>obtain ⟨ps,z⟩:=ih;obtain ⟨ps2,z2⟩:=ih2;exact ⟨_,.trH h z z2⟩
 | finW h r ih=>obtain ⟨ps,z⟩:=ih;exact ⟨_,.finW h z⟩
 | finB h r r2 ho ih ih2=>obtain ⟨ps,z⟩:=ih;obtain ⟨ps2,z2⟩:=ih2;exact ⟨_,.finB h z z2 ho⟩
 | finN h r r2 ih ih2=>obtain ⟨ps,z⟩:=ih;obtain ⟨ps2,z2⟩:=ih2;exact ⟨_,.finN h z z2⟩
 | sNil=>exact ⟨_,.sNil⟩
 | sOne r r2 ih ih2=>obtain ⟨ps,z⟩:=ih;obtain ⟨ps2,z2⟩:=ih2;exact ⟨_,.sOne z z2⟩
 | sOut r ho ih=>obtain ⟨ps,z⟩:=ih;exact ⟨_,.sOut z ho⟩
def EwIp (t:Tab) (n:Nat) (l l':List Int) (o:Option Way) (ps:List Nat):Prop:=match t.nd n with
 | .tr a b=>(Ewp t (.inl a) l l' o ps∧o≠some .rai)∨∃ l1 p1 p2,ps=p1++p2∧Ewp t (.inl a) l l1 (some .rai) p1∧Ewp t (.inl b) l1 l' o p2
 | .fin a b=>(Ewp t (.inl a) l l' none ps∧o=none)∨(∃ l1 w p1 p2,ps=p1++p2∧Ewp t (.inl a) l l1 (some w) p1∧Ewp t (.inl b) l1 l' o p2∧o≠some .nrm)∨∃ l1 w p1 p2,ps=p1++p2++[n]∧o=some w∧Ewp t (.inl a) l l1 (some w) p1∧Ewp t (.inl b) l1 l' (some .nrm) p2
 | .whl a=>(l=[]∧l'=[]∧o=none∧ps=[n])∨(l=0::l'∧o=some .nrm∧ps=[n])∨∃ l0 l1 o1 p1 p2,l=1::l0∧Ewp t (.inl a) l0 l1 o1 p1 ∧
   ((o1=none∧o=none∧l1=l'∧ps=n::p1)∨(∃ w,o1=some w∧FcM.again w=false∧o=some (FcM.decW w)∧l1=l'∧ps=n::p1)∨(∃ w,o1=some w∧FcM.again w=true∧Ewp t (.inl n) l1 l' o p2∧ps=n::(p1++p2)))
 | .iff a b=>(l=[]∧l'=[]∧o=none∧ps=[n])∨(∃ l0 p1,l=0::l0∧ps=n::p1∧Ewp t (.inl a) l0 l' o p1)∨∃ l0 p1,l=1::l0∧ps=n::p1∧Ewp t (.inl b) l0 l' o p1
 | .call=>(l=[]∧l'=[]∧o=none∧ps=[n])∨(l=0::l'∧o=some .nrm∧ps=[n])∨(l=1::l'∧o=some .rai∧ps=[n])
 | .seq cs=>Ewp t (.inr cs) l l' o ps
 | nd=>l=l'∧o=some (FcM.wayN nd)∧ps=[n]
theorem ewp_inv {t:Tab} {n:Nat} {l l':List Int} {o:Option Way} {ps:List Nat} (h:Ewp t (.inl n) l l' o ps):EwIp t n l l' o ps:=by
 unfold EwIp
 cases h with
 | quiet h =>
  cases e:t.nd n with
  | do_=>exact ⟨rfl,rfl,rfl⟩
  | ret=>exact ⟨rfl,rfl,rfl⟩
  | rai=>exact ⟨rfl,rfl,rfl⟩
  | brk k=>exact ⟨rfl,rfl,rfl⟩
  | cnt k=>exact ⟨rfl,rfl,rfl⟩
  | _=>rw [e] at h;exact h.elim
 | ask h =>
  cases e:t.nd n with
  | call=>exact .inl ⟨rfl,rfl,rfl,rfl⟩
  | iff a b=>exact .inl ⟨rfl,rfl,rfl,rfl⟩
  | whl a=>exact .inl ⟨rfl,rfl,rfl,rfl⟩
  | _=>rw [e] at h;cases h
 | call0 h=>rw [h];exact .inr (.inl ⟨rfl,rfl,rfl⟩)
 | call1 h=>rw [h];exact .inr (.inr ⟨rfl,rfl,rfl⟩)
 | if0 h r=>rw [h];exact .inr (.inl ⟨_,_,rfl,rfl,r⟩)
 | if1 h r=>rw [h];exact .inr (.inr ⟨_,_,rfl,rfl,r⟩)
 | wh0 h=>rw [h];exact .inr (.inl ⟨rfl,rfl,rfl⟩)
 | whW h r=>rw [h];exact .inr (.inr ⟨_,_,_,_,[],rfl,r,.inl ⟨rfl,rfl,rfl,rfl⟩⟩)
 | whA h r hw r2=>rw [h];exact .inr (.inr ⟨_,_,_,_,_,rfl,r,.inr (.inr ⟨_,rfl,hw,r2,rfl⟩)⟩)
 | whO h r hw=>rw [h];exact .inr (.inr ⟨_,_,_,_,[],rfl,r,.inr (.inl ⟨_,rfl,hw,rfl,rfl,rfl⟩)⟩)
 | seq h r=>rw [h];exact r
 | trO h r ho=>rw [h];exact .inl ⟨r,ho⟩
 | trH h r r2=>rw [h];exact .inr ⟨_,_,_,rfl,r,r2⟩
 | finW h r=>rw [h];exact .inl ⟨r,rfl⟩
 | finB h r r2 ho=>rw [h];exact .inr (.inl ⟨_,_,_,_,rfl,r,r2,ho⟩)
 | finN h r r2=>rw [h];exact .inr (.inr ⟨_,_,_,_,rfl,rfl,r,r2⟩)
end
section
open FcM (Way Node Tab)
theorem Builds.keeps:∀ {m:Nat} {st:List WIt} {rows fin:List Row},Builds m st rows fin→∀ c,c<rows.length→fin[c]?.map Row.d=rows[c]?.map Row.d
 | _,_,_,_,.done _,_,_=>rfl
 | _,_,_,_,.step ok h,c,hc=>by rw [Builds.keeps h c (by rw [addRow_len];omega),addRow_d hc]
theorem idx_map {l:List Nat} (nd:l.Nodup) (f:Nat→Nat):l.map (fun c=>f (l.idxOf c))=(List.range l.length).map f:=by
 apply List.ext_getElem?
 intro i
 rw [List.getElem?_map,List.getElem?_map]
 by_cases h:i<l.length
 ·rw [List.getElem?_eq_getElem h,List.getElem?_range h]
  have hm:l[i]∈l:=List.getElem_mem h
  have lt:l.idxOf l[i]<l.length:=List.idxOf_lt_length_of_mem hm
  have e:l[l.idxOf l[i]]?=some l[i]:=by
   rw [List.getElem?_eq_getElem lt,List.getElem_idxOf lt]
  have z:=nd_get nd e (List.getElem?_eq_getElem h)
  show some (f (l.idxOf l[i]))=some (f i)
  rw [z]
 ·rw [List.getElem?_eq_none (by omega),List.getElem?_eq_none (by rw [List.length_range];omega)]<;>rfl
theorem Builds.first {m:Nat} {it:WIt} {fin:List Row} (b:Builds m [it] [] fin) {r:Row} (hr:fin[0]?=some r):r.d=it.d:=by
 cases b with
 | step ok h =>
  have z:=Builds.keeps h 0 (by rw [addRow_len];exact Nat.zero_lt_succ _)
  have y:(addRow [] it.d it.par)[0]?=some ⟨it.d,it.par,[]⟩:=addRow_new (rows:=[])
  rw [hr,y] at z
  exact Option.some.inj z
theorem wg_of {rows:List Row} {lp:Nat→Nat} (W:TW rows lp):∀ {a b c w:Nat} {d:PyData},OkS a b c w d→∀ {n:Nat} {r:Row},rows[n]?=some r→r.d=d→FcM.Wg (tabOf rows) w n:=by
 intro a b c w d h
 induction h with
 | @mk loops deep blocks d wt st hd hb ps ih =>
  intro n r hr e
  have hl:n<rows.length:=(List.getElem?_eq_some_iff.mp hr).1
  obtain ⟨s1,s2,s3⟩:=W.sv n r hr
  have hnd:((tabOf rows).nd n).ch=r.ch:=by rw [tab_nd hr,← s3]
  have nd:r.ch.Nodup:=by
   have:=W.wf.nd n hl
   rw [hnd] at this
   exact this
  have e1:((List.range (partsD d).length).map wt).sum=(((tabOf rows).nd n).ch.map fun c=>wt (r.ch.idxOf c)).sum:=by
   rw [hnd,idx_map nd,s2,e]
  rw [e1]
  refine .mk _ fun c hc=>?_
  rw [hnd] at hc
  have lt:r.ch.idxOf c<r.ch.length:=List.idxOf_lt_length_of_mem hc
  have e2:r.ch[r.ch.idxOf c]?=some c:=by rw [List.getElem?_eq_getElem lt,List.getElem_idxOf lt]
  obtain ⟨r',x1,x2⟩:=W.pr n r hr _ c e2
  exact ih _ r'.d (by rw [← e];exact x2) x1 rfl
end
section
open FcM (Way Node Tab)
theorem lp_le {rows:List Row} {lp:Nat→Nat} (W:TW rows lp) (R:RT rows):∀ (k n:Nat),n<k→n<rows.length→lp n≤n
 | 0,n,h,_=>by omega
 | k + 1,n,h,hn=>by
  obtain ⟨r,hr⟩:=row_at hn
  cases hp:r.par with
  | none=>rw [R n r hr hp,W.wf.lp0];exact Nat.le_refl _
  | some p =>
   obtain ⟨h1,h2,h3⟩:=W.pu n r p hr hp
   have ih:=lp_le W R k p (by omega) h2
   have:=(W.wf.dn p h2 n h3).2.2.2
   rw [this]
   split<;>omega
structure TD (d:PyData) (N:Nat) (fin:List Row) (lp:Nat→Nat):Prop where
 bd:Builds N [⟨d,none,1,0,0⟩] [] fin
 w:TW fin lp
 l:fin.length≤400
 g:WgA fin
 r:RT fin
theorem TD.ck {K:PySem.W.Frag} {F:Hp} {A:CAd} {d:PyData} {N:Nat} {fin:List Row} {lp:Nat→Nat} (t:TD d N fin lp) (C:CodeH K F F A fin):CK K F A fin lp:=⟨C,t.w,t.l,t.g,t.r⟩
theorem CK.keys {K:PySem.W.Frag} {F:Hp} {A:CAd} {rows:List Row} {lp:Nat→Nat} (x:CK K F A rows lp) {n:Nat} (hn:n<rows.length):∀ p∈tbN (tabOf rows) n,∀ j,p.1=.brk j∨p.1=.cnt j→1≤j∧j≤1000:=fun p hp j hj=>by
 obtain ⟨m,hm,g⟩:=x.g n hn
 have h1:=(tg_all x.w.wf g hn).ok p hp
 have h2:=lp_le x.w x.r (n + 1) n (Nat.lt_succ_self n) hn
 have h3:=x.l
 rcases hj with hj | hj<;>rw [hj] at h1<;>exact ⟨h1.1,by have:=h1.2;omega⟩
end
section
def faultI (n deep loops blocks:Int) (d:PyData):Option (Str×Str×Int):=if 400≤n then some ("LimitExceeded","limit",400) else if 100<deep then some ("LimitExceeded","limit",100) else if 25<blocks then some ("LimitExceeded","limit",25) else if isStm d loops=true then none else some ("InvalidCode","number",n)
def fault (it:WIt) (n:Nat):Option (Str×Str×Int):=faultI (n:Int) (it.deep:Int) (it.loops:Int) (it.blocks:Int) it.d
inductive Fails:Nat→List WIt→List Row→(Str×Str×Int)→Prop
 | now {it:WIt} {st:List WIt} {rows:List Row} {f:Str×Str×Int} (h:fault it rows.length=some f):Fails 0 (it::st) rows f
 | step {n:Nat} {it:WIt} {st:List WIt} {rows:List Row} {f:Str×Str×Int} (ok:okIt it rows.length) (hl:(newIts it rows.length++st).length≤50000) (h:Fails n (newIts it rows.length++st) (addRow rows it.d it.par) f):Fails (n + 1) (it::st) rows f
section
variable {P:Program} {w:World} {h:Heap} {K:PySem.W.Frag} {mg:Str→Option Value} {base:Heap}
end
end
section
def FailsL (st:List WIt) (n:Nat) (f:Str×Str×Int):Prop:=∀ rows:List Row,rows.length=n→∃ N,Fails N st rows f
def BadS (B loops deep blocks n:Nat) (f:Str×Str×Int) (d:PyData):Prop:=∀ (st:List WIt) (par:Option Nat),st.length≤B + n→FailsL (⟨d,par,deep,loops,blocks⟩::st) n f
end
section
inductive GS:PyData→Prop
 | mk {e:PyData} (can:PyData.canLay0 e=true) (sz:szD e) (ps:∀ x∈partsD e,GS x) (ns:∀ x,e=.str x→x.length≤100000):GS e
theorem gs_parts {e:PyData} (h:GS e):PyData.canLay0 e=true∧szD e∧∀ x∈partsD e,GS x:=by
 cases h with
 | mk a b c _=>exact ⟨a,b,c⟩
def Fine (k b lo hi:Nat) (d:PyData):Prop:=∀ loops deep blocks,deep + k≤101→blocks + b≤25→∃ w,lo≤w∧w≤hi∧OkS loops deep blocks w d
theorem Fine.mono {k b lo hi b':Nat} {d:PyData} (h:Fine k b lo hi d) (e:b≤b'):Fine k b' lo hi d:=fun l d' bl h1 h2=>h l d' bl h1 (by omega)
theorem BadS.mono {B B' loops deep blocks n:Nat} {f:Str×Str×Int} {d:PyData} (h:BadS B loops deep blocks n f d) (e:B'≤B):BadS B' loops deep blocks n f d:=fun st par hs=>h st par (by omega)
end
section
def SB (room deep loops blocks:Nat) (d:PyData):Prop:=GS d∧d.depth≤2 * deep∧∃ w,1≤w∧w≤room∧∀ dd,dd + deep≤101→OkS loops dd blocks w d
theorem SB.up {r k r' k' l b:Nat} {d:PyData} (h:SB r k l b d) (hr:r≤r') (hk:k≤k'):SB r' k' l b d:=by
 obtain ⟨g,e,w,w1,w2,o⟩:=h
 exact ⟨g,by omega,w,w1,by omega,fun dd hd=>o dd (by omega)⟩
theorem SB.can {r k l b:Nat} {d:PyData} (h:SB r k l b d):PyData.canLay0 d=true:=(gs_parts h.1).1
inductive SBs (k l b:Nat):Nat→List PyData→Prop
 | nil:SBs k l b 0 []
 | snoc {r s:Nat} {ds:List PyData} {d:PyData} (h:SBs k l b r ds) (hd:SB s k l b d):SBs k l b (r + s) (ds++[d])
theorem SBs.all {k l b r:Nat} {ds:List PyData} (h:SBs k l b r ds):(∀ d∈ds,GS d∧d.depth≤2 * k)∧∃ ws:List Nat,ws.length=ds.length∧ws.sum≤r∧∀ (i:Nat) (p:PyData) (w:Nat),ds[i]?=some p→ws[i]?=some w→∀ dd,dd + k≤101→OkS l dd b w p:=by
 induction h with
 | nil=>exact ⟨fun d hd=>(by cases hd),[],rfl,Nat.le_refl _,fun i p w h=>(by simp at h)⟩
 | snoc h hd ih =>
  obtain ⟨i1,ws,i2,i3,i4⟩:=ih
  obtain ⟨g,e,w,w1,w2,o⟩:=hd
  refine ⟨fun d hd=>?_,ws++[w],by simp [i2],by simp;omega,fun i p w' hp hw dd hdd=>?_⟩
  ·rcases List.mem_append.mp hd with hd | hd
   ·exact i1 d hd
   ·rw [List.mem_singleton.mp hd];exact ⟨g,e⟩
  ·rcases Nat.lt_or_ge i ws.length with hi | hi
   ·rw [List.getElem?_append_left (by omega)] at hp
    rw [List.getElem?_append_left hi] at hw
    exact i4 i p w' hp hw dd hdd
   ·rw [List.getElem?_append_right (by omega)] at hp
    rw [List.getElem?_append_right hi] at hw
    have:i - ws.length=0:=by
     have:=(List.getElem?_eq_some_iff.mp hw).1
     simp at this
     omega
    rw [this] at hw
    rw [← i2,this] at hp
    cases hp
    cases hw
    exact o dd hdd
end
section
open FcM (Way Node Tab)
theorem hd_ok {l deep b w:Nat} {d:PyData} (h:OkS l deep b w d):HD (101 - deep) d:=by
 induction h with
 | @mk loops deep blocks d wt st hd hb ps ih =>
  rw [show 101 - deep=(100 - deep) + 1 from by omega]
  refine .mk fun x hx=>?_
  obtain ⟨i,hi⟩:=List.getElem?_of_mem hx
  have:=ih i x hi
  rw [show 101 - (deep + 1)=100 - deep from by omega] at this
  exact this
def EwI (t:Tab) (n:Nat) (l l':List Int) (o:Option Way) (k:Nat):Prop:=match t.nd n with
 | .tr a b=>(Ew t (.inl a) l l' o k∧o≠some .rai)∨∃ l1 k1 k2,k=k1 + k2∧Ew t (.inl a) l l1 (some .rai) k1∧Ew t (.inl b) l1 l' o k2
 | .fin a b=>(Ew t (.inl a) l l' none k∧o=none)∨(∃ l1 w k1 k2,k=k1 + k2∧Ew t (.inl a) l l1 (some w) k1∧Ew t (.inl b) l1 l' o k2∧o≠some .nrm)∨∃ l1 w k1 k2,k=k1 + k2 + 1∧o=some w∧Ew t (.inl a) l l1 (some w) k1∧Ew t (.inl b) l1 l' (some .nrm) k2
 | .whl a=>(l=[]∧l'=[]∧o=none∧k=1)∨(l=0::l'∧o=some .nrm∧k=1)∨∃ l0 l1 o1 k1 k2,l=1::l0∧Ew t (.inl a) l0 l1 o1 k1 ∧
   ((o1=none∧o=none∧l1=l'∧k=k1 + 1)∨(∃ w,o1=some w∧FcM.again w=false∧o=some (FcM.decW w)∧l1=l'∧k=k1 + 1)∨(∃ w,o1=some w∧FcM.again w=true∧Ew t (.inl n) l1 l' o k2∧k=k1 + 1 + k2))
 | .iff a b=>(l=[]∧l'=[]∧o=none∧k=1)∨(∃ l0 k1,l=0::l0∧k=k1 + 1∧Ew t (.inl a) l0 l' o k1)∨∃ l0 k1,l=1::l0∧k=k1 + 1∧Ew t (.inl b) l0 l' o k1
 | .call=>(l=[]∧l'=[]∧o=none∧k=1)∨(l=0::l'∧o=some .nrm∧k=1)∨(l=1::l'∧o=some .rai∧k=1)
 | .seq cs=>Ew t (.inr cs) l l' o k
 | nd=>l=l'∧o=some (FcM.wayN nd)∧k=1
theorem ew_inv {t:Tab} {n:Nat} {l l':List Int} {o:Option Way} {k:Nat} (h:Ew t (.inl n) l l' o k):EwI t n l l' o k:=by
 unfold EwI
 cases h with
 | quiet h =>
  cases e:t.nd n with
  | do_=>exact ⟨rfl,rfl,rfl⟩
  | ret=>exact ⟨rfl,rfl,rfl⟩
  | rai=>exact ⟨rfl,rfl,rfl⟩
  | brk k=>exact ⟨rfl,rfl,rfl⟩
  | cnt k=>exact ⟨rfl,rfl,rfl⟩
  | _=>rw [e] at h;exact h.elim
 | ask h =>
  cases e:t.nd n with
  | call=>exact .inl ⟨rfl,rfl,rfl,rfl⟩
  | iff a b=>exact .inl ⟨rfl,rfl,rfl,rfl⟩
  | whl a=>exact .inl ⟨rfl,rfl,rfl,rfl⟩
  | _=>rw [e] at h;cases h
 | call0 h=>rw [h];exact .inr (.inl ⟨rfl,rfl,rfl⟩)
 | call1 h=>rw [h];exact .inr (.inr ⟨rfl,rfl,rfl⟩)
 | if0 h r=>rw [h];exact .inr (.inl ⟨_,_,rfl,rfl,r⟩)
 | if1 h r=>rw [h];exact .inr (.inr ⟨_,_,rfl,rfl,r⟩)
 | wh0 h=>rw [h];exact .inr (.inl ⟨rfl,rfl,rfl⟩)
 | whW h r=>rw [h];exact .inr (.inr ⟨_,_,_,_,0,rfl,r,.inl ⟨rfl,rfl,rfl,rfl⟩⟩)
 | whA h r hw r2=>rw [h];exact .inr (.inr ⟨_,_,_,_,_,rfl,r,.inr (.inr ⟨_,rfl,hw,r2,rfl⟩)⟩)
 | whO h r hw=>rw [h];exact .inr (.inr ⟨_,_,_,_,0,rfl,r,.inr (.inl ⟨_,rfl,hw,rfl,rfl,rfl⟩)⟩)
 | seq h r=>rw [h];exact r
 | trO h r ho=>rw [h];exact .inl ⟨r,ho⟩
 | trH h r r2=>rw [h];exact .inr ⟨_,_,_,rfl,r,r2⟩
 | finW h r=>rw [h];exact .inl ⟨r,rfl⟩
 | finB h r r2 ho=>rw [h];exact .inr (.inl ⟨_,_,_,_,rfl,r,r2,ho⟩)
 | finN h r r2=>rw [h];exact .inr (.inr ⟨_,_,_,_,rfl,rfl,r,r2⟩)
theorem ew_len {t:Tab} {x:Nat ⊕ List Nat} {l l':List Int} {o:Option Way} {k:Nat} (h:Ew t x l l' o k):∃ p,l=p++l':=by
 induction h with
 | quiet | ask | sNil=>exact ⟨[],rfl⟩
 | call0 | wh0=>exact ⟨[0],rfl⟩
 | call1=>exact ⟨[1],rfl⟩
 | if0 h r ih=>obtain ⟨p,e⟩:=ih;exact ⟨0::p,by rw [e]<;>rfl⟩
 | if1 h r ih=>obtain ⟨p,e⟩:=ih;exact ⟨1::p,by rw [e]<;>rfl⟩
 | whW h r ih=>obtain ⟨p,e⟩:=ih;exact ⟨1::p,by rw [e]<;>rfl⟩
 | whO h r hw ih=>obtain ⟨p,e⟩:=ih;exact ⟨1::p,by rw [e]<;>rfl⟩
 | whA h r hw r2 ih ih2 =>
  obtain ⟨p,e⟩:=ih
  obtain ⟨p2,e2⟩:=ih2
  exact ⟨1::(p++p2),by rw [e,e2];simp⟩
 | seq h r ih=>exact ih
 | trO h r ho ih=>exact ih
 | finW h r ih=>exact ih
 | sOut r ho ih=>exact ih
 | trH h r r2 ih ih2 =>
  obtain ⟨p,e⟩:=ih
  obtain ⟨p2,e2⟩:=ih2
  exact ⟨p++p2,by rw [e,e2];simp⟩
 | finB h r r2 ho ih ih2 =>
  obtain ⟨p,e⟩:=ih
  obtain ⟨p2,e2⟩:=ih2
  exact ⟨p++p2,by rw [e,e2];simp⟩
 | finN h r r2 ih ih2 =>
  obtain ⟨p,e⟩:=ih
  obtain ⟨p2,e2⟩:=ih2
  exact ⟨p++p2,by rw [e,e2];simp⟩
 | sOne r r2 ih ih2 =>
  obtain ⟨p,e⟩:=ih
  obtain ⟨p2,e2⟩:=ih2
  exact ⟨p++p2,by rw [e,e2];simp⟩
theorem ew_inv_s {t:Tab} {n:Nat} {cs:List Nat} {l l':List Int} {o:Option Way} {k:Nat} (hd:t.nd n=.seq cs) (h:Ew t (.inl n) l l' o k):Ew t (.inr cs) l l' o k:=by
 cases h with
 | seq h r=>rw [hd] at h;cases h;exact r
 | quiet h=>rw [hd] at h;exact h.elim
 | ask h=>rw [hd] at h;cases h
 | call0 h=>rw [hd] at h;cases h
 | call1 h=>rw [hd] at h;cases h
 | if0 h=>rw [hd] at h;cases h
 | if1 h=>rw [hd] at h;cases h
 | wh0 h=>rw [hd] at h;cases h
 | whW h=>rw [hd] at h;cases h
 | whA h=>rw [hd] at h;cases h
 | whO h=>rw [hd] at h;cases h
 | trO h=>rw [hd] at h;cases h
 | trH h=>rw [hd] at h;cases h
 | finW h=>rw [hd] at h;cases h
 | finB h=>rw [hd] at h;cases h
 | finN h=>rw [hd] at h;cases h
end
section
open FcM (Way Node Tab)
end
section
open FcM (Way Node Tab)
theorem ew_det {t:Tab} {x:Nat ⊕ List Nat} {l l':List Int} {o:Option Way} {k:Nat} (h:Ew t x l l' o k):∀ {m:List Int} {p:Option Way} {j:Nat},Ew t x l m p j→m=l'∧p=o:=by
 induction h with
 | @quiet n l hq =>
  intro m p j h2
  have z:=ew_inv h2
  unfold EwI at z
  cases e:t.nd n with
  | do_=>rw [e] at z;exact ⟨z.1.symm,z.2.1⟩
  | ret=>rw [e] at z;exact ⟨z.1.symm,z.2.1⟩
  | rai=>rw [e] at z;exact ⟨z.1.symm,z.2.1⟩
  | brk k=>rw [e] at z;exact ⟨z.1.symm,z.2.1⟩
  | cnt k=>rw [e] at z;exact ⟨z.1.symm,z.2.1⟩
  | _=>rw [e] at hq;exact hq.elim
 | @call0 n l hn =>
  intro m p j h2
  have z:=ew_inv h2
  unfold EwI at z
  rw [hn] at z
  rcases z with ⟨z,_⟩ | ⟨z,z2,_⟩ | ⟨z,_⟩
  ·cases z
  ·cases z;exact ⟨rfl,z2⟩
  ·cases z
 | @call1 n l hn =>
  intro m p j h2
  have z:=ew_inv h2
  unfold EwI at z
  rw [hn] at z
  rcases z with ⟨z,_⟩ | ⟨z,_⟩ | ⟨z,z2,_⟩
  ·cases z
  ·cases z
  ·cases z;exact ⟨rfl,z2⟩
 | @ask n ha =>
  intro m p j h2
  have z:=ew_inv h2
  unfold EwI at z
  cases e:t.nd n with
  | call =>
   rw [e] at z
   rcases z with ⟨_,z,z2,_⟩ | ⟨z,_⟩ | ⟨z,_⟩
   ·exact ⟨z,z2⟩
   ·cases z
   ·cases z
  | iff a b =>
   rw [e] at z
   rcases z with ⟨_,z,z2,_⟩ | ⟨_,_,z,_⟩ | ⟨_,_,z,_⟩
   ·exact ⟨z,z2⟩
   ·cases z
   ·cases z
  | whl a =>
   rw [e] at z
   rcases z with ⟨_,z,z2,_⟩ | ⟨z,_⟩ | ⟨_,_,_,_,_,z,_⟩
   ·exact ⟨z,z2⟩
   ·cases z
   ·cases z
  | _=>rw [e] at ha;cases ha
 | @if0 n a b k l l' o hn r ih =>
  intro m p j h2
  have z:=ew_inv h2
  unfold EwI at z
  rw [hn] at z
  rcases z with ⟨z,_⟩ | ⟨_,_,z,_,z2⟩ | ⟨_,_,z,_⟩
  ·cases z
  ·cases z;exact ih z2
  ·cases z
 | @if1 n a b k l l' o hn r ih =>
  intro m p j h2
  have z:=ew_inv h2
  unfold EwI at z
  rw [hn] at z
  rcases z with ⟨z,_⟩ | ⟨_,_,z,_,z2⟩ | ⟨_,_,z,_,z2⟩
  ·cases z
  ·cases z
  ·cases z;exact ih z2
 | @wh0 n a l hn =>
  intro m p j h2
  have z:=ew_inv h2
  unfold EwI at z
  rw [hn] at z
  rcases z with ⟨z,_⟩ | ⟨z,z2,_⟩ | ⟨_,_,_,_,_,z,_⟩
  ·cases z
  ·cases z;exact ⟨rfl,z2⟩
  ·cases z
 | @whW n a k l l' hn r ih =>
  intro m p j h2
  have z:=ew_inv h2
  unfold EwI at z
  rw [hn] at z
  rcases z with ⟨z,_⟩ | ⟨z,_⟩ | ⟨_,_,_,_,_,z,z1,z2⟩
  ·cases z
  ·cases z
  ·cases z
   obtain ⟨rfl,rfl⟩:=ih z1
   rcases z2 with ⟨_,z2,z3,_⟩ | ⟨_,z2,_⟩ | ⟨_,z2,_⟩
   ·exact ⟨z3.symm,z2⟩
   ·cases z2
   ·cases z2
 | @whA n a k k2 l l1 l' w o hn r hw r2 ih ih2 =>
  intro m p j h2
  have z:=ew_inv h2
  unfold EwI at z
  rw [hn] at z
  rcases z with ⟨z,_⟩ | ⟨z,_⟩ | ⟨_,_,_,_,_,z,z1,z2⟩
  ·cases z
  ·cases z
  ·cases z
   obtain ⟨rfl,rfl⟩:=ih z1
   rcases z2 with ⟨z2,_⟩ | ⟨_,z2,z3,_⟩ | ⟨_,z2,_,z3,_⟩
   ·cases z2
   ·cases z2;rw [hw] at z3;cases z3
   ·exact ih2 z3
 | @whO n a k l l' w hn r hw ih =>
  intro m p j h2
  have z:=ew_inv h2
  unfold EwI at z
  rw [hn] at z
  rcases z with ⟨z,_⟩ | ⟨z,_⟩ | ⟨_,_,_,_,_,z,z1,z2⟩
  ·cases z
  ·cases z
  ·cases z
   obtain ⟨rfl,rfl⟩:=ih z1
   rcases z2 with ⟨z2,_⟩ | ⟨_,z2,_,z3,z4,_⟩ | ⟨_,z2,z3,_⟩
   ·cases z2
   ·cases z2;exact ⟨z4.symm,z3⟩
   ·cases z2;rw [hw] at z3;cases z3
 | @seq n k cs l l' o hn r ih =>
  intro m p j h2
  exact ih (ew_inv_s hn h2)
 | @trO n a b k l l' o hn r ho ih =>
  intro m p j h2
  have z:=ew_inv h2
  unfold EwI at z
  rw [hn] at z
  rcases z with ⟨z,_⟩ | ⟨_,_,_,_,z,_⟩
  ·exact ih z
  ·exact absurd (ih z).2.symm ho
 | @trH n a b k k2 l l1 l' o hn r r2 ih ih2 =>
  intro m p j h2
  have z:=ew_inv h2
  unfold EwI at z
  rw [hn] at z
  rcases z with ⟨z,z2⟩ | ⟨_,_,_,_,z,z2⟩
  ·exact absurd (ih z).2 z2
  ·obtain ⟨rfl,_⟩:=ih z
   exact ih2 z2
 | @finW n a b k l l' hn r ih =>
  intro m p j h2
  have z:=ew_inv h2
  unfold EwI at z
  rw [hn] at z
  rcases z with ⟨z,z2⟩ | ⟨_,_,_,_,_,z,_⟩ | ⟨_,_,_,_,_,_,z,_⟩
  ·exact ⟨(ih z).1,z2⟩
  ·cases (ih z).2
  ·cases (ih z).2
 | @finB n a b k k2 l l1 l' w o hn r r2 ho ih ih2 =>
  intro m p j h2
  have z:=ew_inv h2
  unfold EwI at z
  rw [hn] at z
  rcases z with ⟨z,_⟩ | ⟨_,_,_,_,_,z,z2,_⟩ | ⟨_,_,_,_,_,_,z,z2⟩
  ·cases (ih z).2
  ·obtain ⟨rfl,_⟩:=ih z
   exact ih2 z2
  ·obtain ⟨rfl,_⟩:=ih z
   exact absurd (ih2 z2).2.symm ho
 | @finN n a b k k2 l l1 l' w hn r r2 ih ih2 =>
  intro m p j h2
  have z:=ew_inv h2
  unfold EwI at z
  rw [hn] at z
  rcases z with ⟨z,_⟩ | ⟨_,_,_,_,_,z,z2,z3⟩ | ⟨_,_,_,_,_,z0,z,z2⟩
  ·cases (ih z).2
  ·obtain ⟨rfl,_⟩:=ih z
   exact absurd (ih2 z2).2 z3
  ·obtain ⟨rfl,e⟩:=ih z
   exact ⟨(ih2 z2).1,z0.trans e⟩
 | sNil =>
  intro m p j h2
  cases h2
  exact ⟨rfl,rfl⟩
 | sOne r r2 ih ih2 =>
  intro m p j h2
  cases h2 with
  | sOne q q2 =>
   obtain ⟨rfl,_⟩:=ih q
   exact ih2 q2
  | sOut q ho=>exact absurd (ih q).2 ho
 | sOut r ho ih =>
  intro m p j h2
  cases h2 with
  | sOne q q2=>exact absurd (ih q).2.symm ho
  | sOut q _=>exact ih q
theorem ew_ev {t:Tab} {x:Nat ⊕ List Nat} {l l':List Int} {o:Option Way} {k:Nat} (h:Ew t x l l' o k):∀ w,o=some w→∃ p,l=p++l'∧Ev t x p w:=by
 induction h with
 | @quiet n l hq =>
  intro w e
  refine ⟨[],rfl,?_⟩
  cases e
  cases e2:t.nd n with
  | do_=>exact .do_ e2
  | ret=>exact .ret e2
  | rai=>exact .rai e2
  | brk k=>exact .brk e2
  | cnt k=>exact .cnt e2
  | _=>rw [e2] at hq;exact hq.elim
 | call0 h=>intro w e;cases e;exact ⟨[0],rfl,.call0 h⟩
 | call1 h=>intro w e;cases e;exact ⟨[1],rfl,.call1 h⟩
 | ask h=>intro w e;cases e
 | if0 h r ih=>intro w e;obtain ⟨p,rfl,z⟩:=ih w e;exact ⟨0::p,rfl,.if0 h z⟩
 | if1 h r ih=>intro w e;obtain ⟨p,rfl,z⟩:=ih w e;exact ⟨1::p,rfl,.if1 h z⟩
 | wh0 h=>intro w e;cases e;exact ⟨[0],rfl,.wh0 h⟩
 | whW h r ih=>intro w e;cases e
 | whA h r hw r2 ih ih2 =>
  intro w e
  obtain ⟨p,rfl,z⟩:=ih _ rfl
  obtain ⟨p2,rfl,z2⟩:=ih2 w e
  exact ⟨1::(p++p2),by simp,.whA h z hw z2⟩
 | whO h r hw ih =>
  intro w e
  cases e
  obtain ⟨p,rfl,z⟩:=ih _ rfl
  exact ⟨1::p,rfl,.whO h z hw⟩
 | seq h r ih=>intro w e;obtain ⟨p,e1,z⟩:=ih w e;exact ⟨p,e1,.seq h z⟩
 | trO h r ho ih=>intro w e;obtain ⟨p,e1,z⟩:=ih w e;exact ⟨p,e1,.trO h z fun y=>ho (by rw [e,y])⟩
 | trH h r r2 ih ih2 =>
  intro w e
  obtain ⟨p,rfl,z⟩:=ih _ rfl
  obtain ⟨p2,rfl,z2⟩:=ih2 w e
  exact ⟨p++p2,by simp,.trH h z z2⟩
 | finW h r ih=>intro w e;cases e
 | finB h r r2 ho ih ih2 =>
  intro w e
  obtain ⟨p,rfl,z⟩:=ih _ rfl
  obtain ⟨p2,rfl,z2⟩:=ih2 w e
  exact ⟨p++p2,by simp,.finO h z z2 fun y=>ho (by rw [e,y])⟩
 | finN h r r2 ih ih2 =>
  intro w e
  cases e
  obtain ⟨p,rfl,z⟩:=ih _ rfl
  obtain ⟨p2,rfl,z2⟩:=ih2 _ rfl
  exact ⟨p++p2,by simp,.finN h z z2⟩
 | sNil=>intro w e;cases e;exact ⟨[],rfl,.sNil⟩
 | sOne r r2 ih ih2 =>
  intro w e
  obtain ⟨p,rfl,z⟩:=ih _ rfl
  obtain ⟨p2,rfl,z2⟩:=ih2 w e
  exact ⟨p++p2,by simp,.sOne z z2⟩
 | sOut r ho ih=>intro w e;obtain ⟨p,e1,z⟩:=ih w e;exact ⟨p,e1,.sOut z fun y=>ho (by rw [e,y])⟩
def Bits (l:List Int):Prop:=∀ c∈l,c=0∨c=1
theorem bits_cons {c:Int} {l:List Int} (h:Bits (c::l)):(c=0∨c=1)∧Bits l:=⟨h c List.mem_cons_self,fun d hd=>h d (List.mem_cons_of_mem _ hd)⟩
theorem bits_app {p l:List Int} (h:Bits (p++l)):Bits l:=fun d hd=>h d (List.mem_append_right _ hd)
theorem ew_all {t:Tab} {m n:Nat} (g:FcM.Hg t m n):∀ l:List Int,Bits l→∃ l' o k,Ew t (.inl n) l l' o k:=by
 induction g with
 | @mk h n r ih =>
  intro l bl
  have more:∀ c∈(t.nd n).ch,∀ l,Bits l→∃ l' o k,Ew t (.inl c) l l' o k∧Bits l':=fun c hc l bl=>by
   obtain ⟨l',o,k,e⟩:=ih c hc l bl
   obtain ⟨p,ep⟩:=ew_len e
   exact ⟨l',o,k,e,bits_app (by rw [← ep];exact bl)⟩
  cases e:t.nd n with
  | do_=>exact ⟨_,_,_,.quiet (by rw [e];trivial)⟩
  | ret=>exact ⟨_,_,_,.quiet (by rw [e];trivial)⟩
  | rai=>exact ⟨_,_,_,.quiet (by rw [e];trivial)⟩
  | brk k=>exact ⟨_,_,_,.quiet (by rw [e];trivial)⟩
  | cnt k=>exact ⟨_,_,_,.quiet (by rw [e];trivial)⟩
  | call =>
   cases l with
   | nil=>exact ⟨_,_,_,.ask (by rw [e]<;>rfl)⟩
   | cons c l =>
    obtain ⟨rfl | rfl,_⟩:=bits_cons bl
    ·exact ⟨_,_,_,.call0 e⟩
    ·exact ⟨_,_,_,.call1 e⟩
  | iff a b =>
   rw [e] at more
   cases l with
   | nil=>exact ⟨_,_,_,.ask (by rw [e]<;>rfl)⟩
   | cons c l =>
    obtain ⟨hc,bl2⟩:=bits_cons bl
    rcases hc with rfl | rfl
    ·obtain ⟨l',o,k,z,_⟩:=more a (by simp [Node.ch]) l bl2
     exact ⟨_,_,_,.if0 e z⟩
    ·obtain ⟨l',o,k,z,_⟩:=more b (by simp [Node.ch]) l bl2
     exact ⟨_,_,_,.if1 e z⟩
  | seq cs =>
   rw [e] at more
   have key:∀ (cs:List Nat),(∀ c∈cs,∀ l,Bits l→∃ l' o k,Ew t (.inl c) l l' o k∧Bits l')→∀ l,Bits l→∃ l' o k,Ew t (.inr cs) l l' o k:=fun cs=>by
    induction cs with
    | nil=>exact fun _ l _=>⟨_,_,_,.sNil⟩
    | cons c cs ihc =>
     intro hm l bl
     obtain ⟨l1,o,k,z,b1⟩:=hm c List.mem_cons_self l bl
     by_cases ho:o=some .nrm
     ·subst ho
      obtain ⟨l2,o2,k2,z2⟩:=ihc (fun d hd=>hm d (List.mem_cons_of_mem _ hd)) l1 b1
      exact ⟨_,_,_,.sOne z z2⟩
     ·exact ⟨_,_,_,.sOut z ho⟩
   obtain ⟨l',o,k,z⟩:=key cs more l bl
   exact ⟨_,_,_,.seq e z⟩
  | tr a b =>
   rw [e] at more
   obtain ⟨l1,o,k,z,b1⟩:=more a (by simp [Node.ch]) l bl
   by_cases ho:o=some .rai
   ·subst ho
    obtain ⟨l2,o2,k2,z2,_⟩:=more b (by simp [Node.ch]) l1 b1
    exact ⟨_,_,_,.trH e z z2⟩
   ·exact ⟨_,_,_,.trO e z ho⟩
  | fin a b =>
   rw [e] at more
   obtain ⟨l1,o,k,z,b1⟩:=more a (by simp [Node.ch]) l bl
   cases o with
   | none=>exact ⟨_,_,_,.finW e z⟩
   | some w =>
    obtain ⟨l2,o2,k2,z2,_⟩:=more b (by simp [Node.ch]) l1 b1
    by_cases ho:o2=some .nrm
    ·subst ho
     exact ⟨_,_,_,.finN e z z2⟩
    ·exact ⟨_,_,_,.finB e z z2 ho⟩
  | whl a =>
   rw [e] at more
   have key:∀ (N:Nat) (l:List Int),l.length≤N→Bits l→∃ l' o k,Ew t (.inl n) l l' o k:=fun N=>by
    induction N with
    | zero =>
     intro l hl _
     obtain rfl:=List.eq_nil_of_length_eq_zero (Nat.le_zero.mp hl)
     exact ⟨_,_,_,.ask (by rw [e]<;>rfl)⟩
    | succ N ihN =>
     intro l hl bl
     cases l with
     | nil=>exact ⟨_,_,_,.ask (by rw [e]<;>rfl)⟩
     | cons c l =>
      obtain ⟨hc,bl2⟩:=bits_cons bl
      rcases hc with rfl | rfl
      ·exact ⟨_,_,_,.wh0 e⟩
      ·obtain ⟨l1,o,k,z,b1⟩:=more a (by simp [Node.ch]) l bl2
       cases o with
       | none=>exact ⟨_,_,_,.whW e z⟩
       | some w =>
        cases hw:FcM.again w with
        | false=>exact ⟨_,_,_,.whO e z hw⟩
        | true =>
         obtain ⟨p,ep⟩:=ew_len z
         have:l1.length≤N:=by
          have:=congrArg List.length ep
          rw [List.length_append] at this
          simp only [List.length_cons] at hl
          omega
         obtain ⟨l2,o2,k2,z2⟩:=ihN l1 this b1
         exact ⟨_,_,_,.whA e z hw z2⟩
   exact key l.length l (Nat.le_refl _) bl
end
section
open FcM (Way Node Tab)
def Ot (t:Tab) (n:Nat) (a:List Int) (o:Option Way):Prop:=∃ l' k,Ew t (.inl n) a l' o k
theorem ot_det {t:Tab} {n:Nat} {a:List Int} {o p:Option Way} (h:Ot t n a o) (h':Ot t n a p):o=p:=by
 obtain ⟨_,_,h⟩:=h
 obtain ⟨_,_,h'⟩:=h'
 exact (ew_det h' h).2
def ltB (a b:List Int):Prop:=a.length<b.length∨(a.length=b.length∧a<b)
structure Bf (t:Tab) (n most i:Nat) (W:List (List Int)) (f:Tw):Prop where
 hd:W[0]?=some []
 ok:∀ a∈W,Bits a∧a.length≤most
 so:W.Pairwise ltB
 og:∀ x∈W,x=[]∨∃ j y,j<i∧W[j]?=some y∧Ot t n y none∧(x=y++[0]∨x=y++[1])
 cl:∀ j y,j<i→W[j]?=some y→Ot t n y none→y.length<most→y++[0]∈W∧y++[1]∈W
 nd:NdK f
 fd:∀ p∈f,∃ j,j<i∧W[j]?=some p.2∧Ot t n p.2 (some p.1)∧∀ j' y,j'<j→W[j']?=some y→¬ Ot t n y (some p.1)
 al:∀ j y w,j<i→W[j]?=some y→Ot t n y (some w)→∃ a,lk f w=some a
theorem lt_appL:∀ {y a:List Int} (u v:List Int),y.length=a.length→y<a→y++u<a++v
 | [],[],_,_,_,h=>nomatch h
 | [],_::_,_,_,e,_=>by simp at e
 | _::_,[],_,_,e,_=>by simp at e
 | x::y,z::a,u,v,e,h=>by
  rw [List.cons_append,List.cons_append]
  rcases List.cons_lt_cons_iff.mp h with h | ⟨h1,h2⟩
  ·exact List.cons_lt_cons_iff.mpr (.inl h)
  ·exact List.cons_lt_cons_iff.mpr (.inr ⟨h1,lt_appL u v (by simpa using e) h2⟩)
theorem lt_appR:∀ (a:List Int) {u v:List Int},u<v→a++u<a++v
 | [],_,_,h=>h
 | x::a,_,_,h=>List.cons_lt_cons_iff.mpr (.inr ⟨rfl,lt_appR a h⟩)
theorem ltB_app {y a:List Int} (b c:Int) (h:ltB y a):ltB (y++[b]) (a++[c]):=by
 unfold ltB
 rw [List.length_append,List.length_append]
 rcases h with h | ⟨e,h⟩
 ·exact .inl (by simp;omega)
 ·exact .inr ⟨by simp [e],lt_appL _ _ e h⟩
theorem ltB_two (a:List Int):ltB (a++[0]) (a++[1]):=.inr ⟨by simp,lt_appR a (List.cons_lt_cons_iff.mpr (.inl (by decide)))⟩
theorem pw_at {W:List (List Int)} (h:W.Pairwise ltB) {i j:Nat} {a b:List Int} (ij:i<j) (ha:W[i]?=some a) (hb:W[j]?=some b):ltB a b:=by
 obtain ⟨h1,rfl⟩:=List.getElem?_eq_some_iff.mp ha
 obtain ⟨h2,rfl⟩:=List.getElem?_eq_some_iff.mp hb
 exact List.pairwise_iff_getElem.mp h i j h1 h2 ij
section
variable {t:Tab} {n most i:Nat} {W:List (List Int)} {f:Tw} {a:List Int}
theorem Bf.skip (B:Bf t n most i W f) (ha:W[i]?=some a) (h:(Ot t n a none∧¬ a.length<most)∨∃ w b,Ot t n a (some w)∧lk f w=some b):Bf t n most (i + 1) W f:=by
 refine ⟨B.hd,B.ok,B.so,fun x hx=>?_,fun j y hj hy hw hl=>?_,B.nd,fun p hp=>?_,fun j y w hj hy hw=>?_⟩
 ·rcases B.og x hx with h | ⟨j,y,h1,h2⟩
  ·exact .inl h
  ·exact .inr ⟨j,y,by omega,h2⟩
 ·by_cases e:j=i
  ·subst e
   rw [ha] at hy
   cases hy
   rcases h with ⟨_,h⟩ | ⟨w,b,h,_⟩
   ·exact absurd hl h
   ·cases ot_det hw h
  ·exact B.cl j y (by omega) hy hw hl
 ·obtain ⟨j,h1,h2⟩:=B.fd p hp
  exact ⟨j,by omega,h2⟩
 ·by_cases e:j=i
  ·subst e
   rw [ha] at hy
   cases hy
   rcases h with ⟨h,_⟩ | ⟨w',b,h,h2⟩
   ·cases ot_det h hw
   ·cases ot_det h hw
    exact ⟨b,h2⟩
  ·exact B.al j y w (by omega) hy hw
theorem Bf.longer (B:Bf t n most i W f) (ha:W[i]?=some a) (h:Ot t n a none) (hl:a.length<most):Bf t n most (i + 1) (W++[a++[0],a++[1]]) f:=by
 have hi:=(List.getElem?_eq_some_iff.mp ha).1
 have old:∀ {j:Nat} {y:List Int},j<i + 1→(W++[a++[0],a++[1]])[j]?=some y→W[j]?=some y:=fun hj hy=>by
  rw [List.getElem?_append_left (by omega)] at hy
  exact hy
 have new:∀ {j:Nat} {y:List Int},W[j]?=some y→(W++[a++[0],a++[1]])[j]?=some y:=fun hy=>by
  rw [List.getElem?_append_left (List.getElem?_eq_some_iff.mp hy).1]
  exact hy
 have ba:=B.ok a (List.mem_of_getElem? ha)
 have lt:∀ z∈W,∀ c,ltB z (a++[c]):=fun z hz c=>by
  rcases B.og z hz with rfl | ⟨j,y,h1,h2,_,h3 | h3⟩
  ·exact .inl (by simp)
  ·rw [h3];exact ltB_app _ _ (pw_at B.so h1 h2 ha)
  ·rw [h3];exact ltB_app _ _ (pw_at B.so h1 h2 ha)
 refine ⟨new B.hd,fun x hx=>?_,?_,fun x hx=>?_,fun j y hj hy hw hl=>?_,B.nd,fun p hp=>?_,fun j y w hj hy hw=>?_⟩
 ·rcases List.mem_append.mp hx with hx | hx
  ·exact B.ok x hx
  ·have two:∀ c:Int,(c=0∨c=1)→Bits (a++[c])∧(a++[c]).length≤most:=fun c hc=>⟨fun d hd=>by
    rcases List.mem_append.mp hd with hd | hd
    ·exact ba.1 d hd
    ·obtain rfl:=List.mem_singleton.mp hd
     exact hc,by rw [List.length_append];simp;omega⟩
   simp only [List.mem_cons,List.not_mem_nil,or_false] at hx
   rcases hx with rfl | rfl
   ·exact two 0 (.inl rfl)
   ·exact two 1 (.inr rfl)
 ·refine List.pairwise_append.mpr ⟨B.so,?_,fun z hz x hx=>?_⟩
  ·exact List.pairwise_cons.mpr ⟨fun x hx=>by obtain rfl:=List.mem_singleton.mp hx;exact ltB_two a,List.pairwise_singleton _ _⟩
  ·simp only [List.mem_cons,List.not_mem_nil,or_false] at hx
   rcases hx with rfl | rfl
   ·exact lt z hz 0
   ·exact lt z hz 1
 ·rcases List.mem_append.mp hx with hx | hx
  ·rcases B.og x hx with h | ⟨j,y,h1,h2,h3⟩
   ·exact .inl h
   ·exact .inr ⟨j,y,by omega,new h2,h3⟩
  ·simp only [List.mem_cons,List.not_mem_nil,or_false] at hx
   exact .inr ⟨i,a,by omega,new ha,h,hx⟩
 ·have hy:=old hj hy
  by_cases e:j=i
  ·subst e
   rw [ha] at hy
   cases hy
   exact ⟨List.mem_append_right _ (by simp),List.mem_append_right _ (by simp)⟩
  ·obtain ⟨h1,h2⟩:=B.cl j y (by omega) hy hw hl
   exact ⟨List.mem_append_left _ h1,List.mem_append_left _ h2⟩
 ·obtain ⟨j,h1,h2,h3,h4⟩:=B.fd p hp
  exact ⟨j,by omega,new h2,h3,fun j' y hj' hy=>h4 j' y hj' (old (by omega) hy)⟩
 ·have hy:=old hj hy
  by_cases e:j=i
  ·subst e
   rw [ha] at hy
   cases hy
   cases ot_det h hw
  ·exact B.al j y w (by omega) hy hw
theorem Bf.found (B:Bf t n most i W f) (ha:W[i]?=some a) {w:Way} (h:Ot t n a (some w)) (hf:lk f w=none):Bf t n most (i + 1) W (putT f w a):=by
 have ep:putT f w a=f++[(w,a)]:=by
  unfold putT
  rw [hf]<;>rfl
 refine ⟨B.hd,B.ok,B.so,fun x hx=>?_,fun j y hj hy hw hl=>?_,ndk_put B.nd w a,fun p hp=>?_,fun j y w' hj hy hw=>?_⟩
 ·rcases B.og x hx with h | ⟨j,y,h1,h2⟩
  ·exact .inl h
  ·exact .inr ⟨j,y,by omega,h2⟩
 ·by_cases e:j=i
  ·subst e
   rw [ha] at hy
   cases hy
   cases ot_det hw h
  ·exact B.cl j y (by omega) hy hw hl
 ·rw [ep] at hp
  rcases List.mem_append.mp hp with hp | hp
  ·obtain ⟨j,h1,h2⟩:=B.fd p hp
   exact ⟨j,by omega,h2⟩
  ·obtain rfl:=List.mem_singleton.mp hp
   refine ⟨i,by omega,ha,h,fun j' y hj' hy hw=>?_⟩
   obtain ⟨b,hb⟩:=B.al j' y w hj' hy hw
   rw [hf] at hb
   cases hb
 ·rw [lk_put]
  by_cases e:j=i
  ·subst e
   rw [ha] at hy
   cases hy
   cases ot_det h hw
   rw [if_pos rfl]
   exact ⟨_,rfl⟩
  ·by_cases e2:w'=w
   ·rw [if_pos e2]
    exact ⟨_,rfl⟩
   ·rw [if_neg e2]
    exact B.al j y w' (by omega) hy hw
end
end
section
open FcM (Way Node Tab)
def plc:Node→Bool
 | .seq _=>false
 | .tr _ _=>false
 | .fin _ _=>false
 | _=>true
inductive Cm (t:Tab):Nat ⊕ List Nat→List Int→Nat→Prop
 | here {n:Nat} (h:plc (t.nd n)=true):Cm t (.inl n) [] n
 | if0 {n a b q:Nat} {l:List Int} (h:t.nd n=.iff a b) (r:Cm t (.inl a) l q):Cm t (.inl n) (0::l) q
 | if1 {n a b q:Nat} {l:List Int} (h:t.nd n=.iff a b) (r:Cm t (.inl b) l q):Cm t (.inl n) (1::l) q
 | wh1 {n a q:Nat} {l:List Int} (h:t.nd n=.whl a) (r:Cm t (.inl a) l q):Cm t (.inl n) (1::l) q
 | whA {n a q:Nat} {l1 l2:List Int} {w:Way} (h:t.nd n=.whl a) (e:Ev t (.inl a) l1 w) (hw:FcM.again w=true) (r:Cm t (.inl n) l2 q):Cm t (.inl n) (1::(l1++l2)) q
 | seq {n q:Nat} {cs:List Nat} {l:List Int} (h:t.nd n=.seq cs) (r:Cm t (.inr cs) l q):Cm t (.inl n) l q
 | sHere {c q:Nat} {cs:List Nat} {l:List Int} (r:Cm t (.inl c) l q):Cm t (.inr (c::cs)) l q
 | sNext {c q:Nat} {cs:List Nat} {l1 l2:List Int} (e:Ev t (.inl c) l1 .nrm) (r:Cm t (.inr cs) l2 q):Cm t (.inr (c::cs)) (l1++l2) q
 | tr0 {n a b q:Nat} {l:List Int} (h:t.nd n=.tr a b) (r:Cm t (.inl a) l q):Cm t (.inl n) l q
 | trH {n a b q:Nat} {l1 l2:List Int} (h:t.nd n=.tr a b) (e:Ev t (.inl a) l1 .rai) (r:Cm t (.inl b) l2 q):Cm t (.inl n) (l1++l2) q
 | fi0 {n a b q:Nat} {l:List Int} (h:t.nd n=.fin a b) (r:Cm t (.inl a) l q):Cm t (.inl n) l q
 | fiB {n a b q:Nat} {l1 l2:List Int} {w:Way} (h:t.nd n=.fin a b) (e:Ev t (.inl a) l1 w) (r:Cm t (.inl b) l2 q):Cm t (.inl n) (l1++l2) q
 | fiE {n a b:Nat} {l1 l2:List Int} {w:Way} (h:t.nd n=.fin a b) (e:Ev t (.inl a) l1 w) (e2:Ev t (.inl b) l2 .nrm):Cm t (.inl n) (l1++l2) n
theorem ewp_cm {t:Tab} {x:Nat ⊕ List Nat} {L L':List Int} {o:Option Way} {ps:List Nat} (h:Ewp t x L L' o ps):∀ q∈ps,∃ l rest,L=l++rest∧Cm t x l q:=by
 have one:∀ {n:Nat} {L:List Int},plc (t.nd n)=true→∀ q∈[n],∃ l rest,L=l++rest∧Cm t (.inl n) l q:=fun {n L} hp q hq=>by
  rw [List.mem_singleton.mp hq]
  exact ⟨[],L,rfl,.here hp⟩
 have evl:∀ {x:Nat ⊕ List Nat} {L L1:List Int} {w:Way} {ps:List Nat},Ewp t x L L1 (some w) ps→∃ p,L=p++L1∧Ev t x p w:=fun r=>ew_ev (ewp_ew r) _ rfl
 induction h with
 | @quiet n l h=>exact one (by cases e:t.nd n<;>rw [e] at h<;>first | rfl | exact h.elim)
 | call0 h=>exact one (by rw [h]<;>rfl)
 | call1 h=>exact one (by rw [h]<;>rfl)
 | @ask n h=>exact one (by cases e:t.nd n<;>rw [e] at h<;>first | rfl | cases h)
 | wh0 h=>exact one (by rw [h]<;>rfl)
 | if0 h r ih =>
  intro q hq
  rcases List.mem_cons.mp hq with rfl | hq
  ·exact one (by rw [h]<;>rfl) _ (by simp)
  ·obtain ⟨l,rest,e,c⟩:=ih q hq
   exact ⟨0::l,rest,by rw [e]<;>rfl,.if0 h c⟩
 | if1 h r ih =>
  intro q hq
  rcases List.mem_cons.mp hq with rfl | hq
  ·exact one (by rw [h]<;>rfl) _ (by simp)
  ·obtain ⟨l,rest,e,c⟩:=ih q hq
   exact ⟨1::l,rest,by rw [e]<;>rfl,.if1 h c⟩
 | whW h r ih =>
  intro q hq
  rcases List.mem_cons.mp hq with rfl | hq
  ·exact one (by rw [h]<;>rfl) _ (by simp)
  ·obtain ⟨l,rest,e,c⟩:=ih q hq
   exact ⟨1::l,rest,by rw [e]<;>rfl,.wh1 h c⟩
 | whO h r hw ih =>
  intro q hq
  rcases List.mem_cons.mp hq with rfl | hq
  ·exact one (by rw [h]<;>rfl) _ (by simp)
  ·obtain ⟨l,rest,e,c⟩:=ih q hq
   exact ⟨1::l,rest,by rw [e]<;>rfl,.wh1 h c⟩
 | whA h r hw r2 ih ih2 =>
  intro q hq
  rcases List.mem_cons.mp hq with rfl | hq
  ·exact one (by rw [h]<;>rfl) _ (by simp)
  ·rcases List.mem_append.mp hq with hq | hq
   ·obtain ⟨l,rest,e,c⟩:=ih q hq
    exact ⟨1::l,rest,by rw [e]<;>rfl,.wh1 h c⟩
   ·obtain ⟨l,rest,e,c⟩:=ih2 q hq
    obtain ⟨p,e1,v⟩:=evl r
    exact ⟨1::(p++l),rest,by rw [e1,e];simp,.whA h v hw c⟩
 | seq h r ih=>exact fun q hq=>let ⟨l,rest,e,c⟩:=ih q hq;⟨l,rest,e,.seq h c⟩
 | trO h r ho ih=>exact fun q hq=>let ⟨l,rest,e,c⟩:=ih q hq;⟨l,rest,e,.tr0 h c⟩
 | trH h r r2 ih ih2 =>
  intro q hq
  rcases List.mem_append.mp hq with hq | hq
  ·obtain ⟨l,rest,e,c⟩:=ih q hq
   exact ⟨l,rest,e,.tr0 h c⟩
  ·obtain ⟨l,rest,e,c⟩:=ih2 q hq
   obtain ⟨p,e1,v⟩:=evl r
   exact ⟨p++l,rest,by rw [e1,e];simp,.trH h v c⟩
 | finW h r ih=>exact fun q hq=>let ⟨l,rest,e,c⟩:=ih q hq;⟨l,rest,e,.fi0 h c⟩
 | finB h r r2 ho ih ih2 =>
  intro q hq
  rcases List.mem_append.mp hq with hq | hq
  ·obtain ⟨l,rest,e,c⟩:=ih q hq
   exact ⟨l,rest,e,.fi0 h c⟩
  ·obtain ⟨l,rest,e,c⟩:=ih2 q hq
   obtain ⟨p,e1,v⟩:=evl r
   exact ⟨p++l,rest,by rw [e1,e];simp,.fiB h v c⟩
 | @finN n a b ps ps2 l l1 l' w h r r2 ih ih2 =>
  intro q hq
  obtain ⟨p,e1,v⟩:=evl r
  rcases List.mem_append.mp hq with hq | hq
  ·rcases List.mem_append.mp hq with hq | hq
   ·obtain ⟨l,rest,e,c⟩:=ih q hq
    exact ⟨l,rest,e,.fi0 h c⟩
   ·obtain ⟨l,rest,e,c⟩:=ih2 q hq
    exact ⟨p++l,rest,by rw [e1,e];simp,.fiB h v c⟩
  ·rw [List.mem_singleton.mp hq]
   obtain ⟨p2,e2,v2⟩:=evl r2
   exact ⟨p++p2,l',by rw [e1,e2];simp,.fiE h v v2⟩
 | sNil=>exact fun q hq=>by cases hq
 | sOne r r2 ih ih2 =>
  intro q hq
  rcases List.mem_append.mp hq with hq | hq
  ·obtain ⟨l,rest,e,c⟩:=ih q hq
   exact ⟨l,rest,e,.sHere c⟩
  ·obtain ⟨l,rest,e,c⟩:=ih2 q hq
   obtain ⟨p,e1,v⟩:=evl r
   exact ⟨p++l,rest,by rw [e1,e];simp,.sNext v c⟩
 | sOut r ho ih=>exact fun q hq=>let ⟨l,rest,e,c⟩:=ih q hq;⟨l,rest,e,.sHere c⟩
theorem ewp_det {t:Tab} {x:Nat ⊕ List Nat} {l rest L1:List Int} {w:Way} {o:Option Way} {ps:List Nat} (e:Ev t x l w) (r:Ewp t x (l++rest) L1 o ps):L1=rest∧o=some w:=by
 obtain ⟨k,z⟩:=ev_ew e rest
 exact ew_det z (ewp_ew r)
theorem cm_ewp {t:Tab} {x:Nat ⊕ List Nat} {l:List Int} {q:Nat} (c:Cm t x l q):∀ (rest L':List Int) (o:Option Way) (ps:List Nat),Ewp t x (l++rest) L' o ps→q∈ps:=by
 induction c with
 | @here n hp =>
  intro rest L' o ps r
  have z:=ewp_inv r
  unfold EwIp at z
  cases e:t.nd n with
  | seq cs=>rw [e] at hp;cases hp
  | tr a b=>rw [e] at hp;cases hp
  | fin a b=>rw [e] at hp;cases hp
  | iff a b=>rw [e] at z;rcases z with ⟨_,_,_,z⟩ | ⟨_,_,_,z,_⟩ | ⟨_,_,_,z,_⟩<;>rw [z]<;>simp
  | whl a=>rw [e] at z;rcases z with ⟨_,_,_,z⟩ | ⟨_,_,z⟩ | ⟨_,_,_,_,_,_,_,⟨_,_,_,z⟩ | ⟨_,_,_,_,_,z⟩ | ⟨_,_,_,_,z⟩⟩<;>rw [z]<;>simp
  | call=>rw [e] at z;rcases z with ⟨_,_,_,z⟩ | ⟨_,_,z⟩ | ⟨_,_,z⟩<;>rw [z]<;>simp
  | do_=>rw [e] at z;obtain ⟨_,_,z⟩:=z;rw [z];simp
  | ret=>rw [e] at z;obtain ⟨_,_,z⟩:=z;rw [z];simp
  | rai=>rw [e] at z;obtain ⟨_,_,z⟩:=z;rw [z];simp
  | brk k=>rw [e] at z;obtain ⟨_,_,z⟩:=z;rw [z];simp
  | cnt k=>rw [e] at z;obtain ⟨_,_,z⟩:=z;rw [z];simp
 | if0 h c ih =>
  intro rest L' o ps r
  have z:=ewp_inv r
  unfold EwIp at z
  rw [h] at z
  rcases z with ⟨z,_⟩ | ⟨_,_,z1,z2,z3⟩ | ⟨_,_,z1,_⟩
  ·cases z
  ·cases z1
   rw [z2]
   exact List.mem_cons_of_mem _ (ih _ _ _ _ z3)
  ·cases z1
 | if1 h c ih =>
  intro rest L' o ps r
  have z:=ewp_inv r
  unfold EwIp at z
  rw [h] at z
  rcases z with ⟨z,_⟩ | ⟨_,_,z1,_⟩ | ⟨_,_,z1,z2,z3⟩
  ·cases z
  ·cases z1
  ·cases z1
   rw [z2]
   exact List.mem_cons_of_mem _ (ih _ _ _ _ z3)
 | wh1 h c ih =>
  intro rest L' o ps r
  have z:=ewp_inv r
  unfold EwIp at z
  rw [h] at z
  rcases z with ⟨z,_⟩ | ⟨z,_⟩ | ⟨_,_,_,_,_,z1,z2,z3⟩
  ·cases z
  ·cases z
  ·cases z1
   have m:=ih _ _ _ _ z2
   rcases z3 with ⟨_,_,_,z⟩ | ⟨_,_,_,_,_,z⟩ | ⟨_,_,_,_,z⟩<;>rw [z]
   ·exact List.mem_cons_of_mem _ m
   ·exact List.mem_cons_of_mem _ m
   ·exact List.mem_cons_of_mem _ (List.mem_append_left _ m)
 | @whA n a q l1 l2 w h e hw c ih =>
  intro rest L' o ps r
  have z:=ewp_inv r
  unfold EwIp at z
  rw [h] at z
  rcases z with ⟨z,_⟩ | ⟨z,_⟩ | ⟨l0,L1,o1,p1,p2,z1,z2,z3⟩
  ·cases z
  ·cases z
  ·have z1:(l1++l2)++rest=l0:=(List.cons.inj z1).2
   rw [← z1,List.append_assoc] at z2
   obtain ⟨d1,d2⟩:=ewp_det e z2
   subst d1
   subst d2
   rcases z3 with ⟨z,_⟩ | ⟨w',z,k,_⟩ | ⟨w',z,_,z4,z5⟩
   ·cases z
   ·cases z
    rw [hw] at k
    cases k
   ·rw [z5]
    exact List.mem_cons_of_mem _ (List.mem_append_right _ (ih _ _ _ _ z4))
 | seq h c ih =>
  intro rest L' o ps r
  have z:=ewp_inv r
  unfold EwIp at z
  rw [h] at z
  exact ih _ _ _ _ z
 | sHere c ih =>
  intro rest L' o ps r
  cases r with
  | sOne r1 r2=>exact List.mem_append_left _ (ih _ _ _ _ r1)
  | sOut r1 ho=>exact ih _ _ _ _ r1
 | sNext e c ih =>
  intro rest L' o ps r
  rw [List.append_assoc] at r
  cases r with
  | sOne r1 r2 =>
   obtain ⟨d1,_⟩:=ewp_det e r1
   subst d1
   exact List.mem_append_right _ (ih _ _ _ _ r2)
  | sOut r1 ho =>
   obtain ⟨_,d2⟩:=ewp_det e r1
   exact absurd d2 ho
 | tr0 h c ih =>
  intro rest L' o ps r
  have z:=ewp_inv r
  unfold EwIp at z
  rw [h] at z
  rcases z with ⟨z,_⟩ | ⟨_,_,_,z1,z2,_⟩
  ·exact ih _ _ _ _ z
  ·rw [z1]
   exact List.mem_append_left _ (ih _ _ _ _ z2)
 | trH h e c ih =>
  intro rest L' o ps r
  rw [List.append_assoc] at r
  have z:=ewp_inv r
  unfold EwIp at z
  rw [h] at z
  rcases z with ⟨z,ho⟩ | ⟨_,_,_,z1,z2,z3⟩
  ·exact absurd (ewp_det e z).2 ho
  ·obtain ⟨d1,_⟩:=ewp_det e z2
   subst d1
   rw [z1]
   exact List.mem_append_right _ (ih _ _ _ _ z3)
 | fi0 h c ih =>
  intro rest L' o ps r
  have z:=ewp_inv r
  unfold EwIp at z
  rw [h] at z
  rcases z with ⟨z,_⟩ | ⟨_,_,_,_,z1,z2,_⟩ | ⟨_,_,_,_,z1,_,z2,_⟩
  ·exact ih _ _ _ _ z
  ·rw [z1]
   exact List.mem_append_left _ (ih _ _ _ _ z2)
  ·rw [z1]
   exact List.mem_append_left _ (List.mem_append_left _ (ih _ _ _ _ z2))
 | fiB h e c ih =>
  intro rest L' o ps r
  rw [List.append_assoc] at r
  have z:=ewp_inv r
  unfold EwIp at z
  rw [h] at z
  rcases z with ⟨z,_⟩ | ⟨_,_,_,_,z1,z2,z3,_⟩ | ⟨_,_,_,_,z1,_,z2,z3⟩
  ·cases (ewp_det e z).2
  ·obtain ⟨d1,_⟩:=ewp_det e z2
   subst d1
   rw [z1]
   exact List.mem_append_right _ (ih _ _ _ _ z3)
  ·obtain ⟨d1,_⟩:=ewp_det e z2
   subst d1
   rw [z1]
   exact List.mem_append_left _ (List.mem_append_right _ (ih _ _ _ _ z3))
 | fiE h e e2 =>
  intro rest L' o ps r
  rw [List.append_assoc] at r
  have z:=ewp_inv r
  unfold EwIp at z
  rw [h] at z
  rcases z with ⟨z,_⟩ | ⟨_,_,_,_,z1,z2,z3,ho⟩ | ⟨_,_,_,_,z1,_,z2,z3⟩
  ·cases (ewp_det e z).2
  ·obtain ⟨d1,_⟩:=ewp_det e z2
   subst d1
   exact absurd (ewp_det e2 z3).2 ho
  ·rw [z1]
   simp
end
section
open FcM (Way Node Tab)
inductive Anc (t:Tab) (p:Nat):Nat→Prop
 | self:Anc t p p
 | step {m q:Nat} (h:t.pr m=some q) (r:Anc t p q):Anc t p m
theorem Anc.trans {t:Tab} {a b c:Nat} (h:Anc t a b) (k:Anc t b c):Anc t a c:=by
 induction k with
 | self=>exact h
 | step e _ ih=>exact .step e ih
theorem anc_mono {rows rows':List Row} (h:∀ n p,(tabOf rows).pr n=some p→(tabOf rows').pr n=some p) {p m:Nat} (k:Anc (tabOf rows) p m):Anc (tabOf rows') p m:=by
 induction k with
 | self=>exact .self
 | step e _ ih=>exact .step (h _ _ e) ih
def BelowI (i i':WIt):Prop:=∀ p',i'.par=some p'→∃ p,i.par=some p∧p'≤p
structure PI (st:List WIt) (rows:List Row):Prop where
 an:∀ j p,(tabOf rows).pr j=some p→∀ m,p≤m→m<j→Anc (tabOf rows) p m
 it:∀ i∈st,∀ p,i.par=some p→p<rows.length∧∀ m,p≤m→m<rows.length→Anc (tabOf rows) p m
 st:st.Pairwise BelowI
theorem pr_row {rows:List Row} {n:Nat} {r:Row} (h:rows[n]?=some r):(tabOf rows).pr n=r.par:=by
 show rows[n]?.bind Row.par=_
 rw [h]<;>rfl
theorem PI.step {it:WIt} {st:List WIt} {rows:List Row} (b:PI (it::st) rows):PI (newIts it rows.length++st) (addRow rows it.d it.par):=by
 have keep:∀ n p,(tabOf rows).pr n=some p→(tabOf (addRow rows it.d it.par)).pr n=some p:=fun n p h=>by
  cases e:rows[n]? with
  | none=>rw [show (tabOf rows).pr n=rows[n]?.bind Row.par from rfl,e] at h;cases h
  | some r0 =>
   obtain ⟨r,h1,h2,h3⟩:=addRow_old (d:=it.d) (par:=it.par) e
   rw [pr_row e] at h
   rw [pr_row h1,h3,h]
 have new:(tabOf (addRow rows it.d it.par)).pr rows.length=it.par:=pr_row (addRow_new (d:=it.d) (par:=it.par))
 have len:=addRow_len rows it.d it.par
 have mono:=fun {p m:Nat} (k:Anc (tabOf rows) p m)=>anc_mono keep k
 obtain ⟨s1,s2⟩:=List.pairwise_cons.mp b.st
 refine ⟨fun j p hj m h1 h2=>?_,fun i hi p hp=>?_,?_⟩
 ·rcases Nat.lt_or_ge j rows.length with lt | ge
  ·obtain ⟨r0,e⟩:∃ r,rows[j]?=some r:=⟨_,List.getElem?_eq_getElem lt⟩
   obtain ⟨r,g1,g2,g3⟩:=addRow_old (d:=it.d) (par:=it.par) e
   rw [pr_row g1,g3,← pr_row e] at hj
   exact mono (b.an j p hj m h1 h2)
  ·have jl:j<(addRow rows it.d it.par).length:=by
    rcases Nat.lt_or_ge j (addRow rows it.d it.par).length with h | h
    ·exact h
    ·rw [show (tabOf (addRow rows it.d it.par)).pr j=(addRow rows it.d it.par)[j]?.bind Row.par from rfl,List.getElem?_eq_none h] at hj
     cases hj
   obtain rfl:j=rows.length:=by omega
   rw [new] at hj
   exact mono ((b.it it List.mem_cons_self p hj).2 m h1 h2)
 ·rcases List.mem_append.mp hi with hi | hi
  ·obtain ⟨k,hk,rfl⟩:=List.mem_mapIdx.mp hi
   obtain rfl:rows.length=p:=Option.some.inj hp
   refine ⟨by omega,fun m h1 h2=>?_⟩
   obtain rfl:m=rows.length:=by omega
   exact .self
  ·obtain ⟨q1,q2⟩:=b.it i (List.mem_cons_of_mem _ hi) p hp
   refine ⟨by omega,fun m h1 h2=>?_⟩
   rcases Nat.lt_or_ge m rows.length with lt | ge
   ·exact mono (q2 m h1 lt)
   ·obtain rfl:m=rows.length:=by omega
    obtain ⟨p0,z1,z2⟩:=s1 i hi p hp
    exact .step (by rw [new];exact z1) (mono (q2 p0 z2 (b.it it List.mem_cons_self p0 z1).1))
 ·rw [List.pairwise_append]
  have pn:∀ i∈newIts it rows.length,i.par=some rows.length:=fun i hi=>by
   obtain ⟨k,hk,rfl⟩:=List.mem_mapIdx.mp hi
   rfl
  refine ⟨List.pairwise_iff_forall_sublist.mpr fun {a c} hs=>?_,s2,fun i hi j hj p hp=>?_⟩
  ·intro p hp
   rw [pn c (hs.subset (by simp))] at hp
   exact ⟨_,pn a (hs.subset (by simp)),by rw [Option.some.inj hp];exact Nat.le_refl _⟩
  ·have:=(b.it j (List.mem_cons_of_mem _ hj) p hp).1
   exact ⟨_,pn i hi,by omega⟩
structure PD (st:List WIt) (rows:List Row) (f:Nat→Nat):Prop where
 up:∀ j p,(tabOf rows).pr j=some p→j<rows.length→p<rows.length
 an:∀ j p,(tabOf rows).pr j=some p→f j=f p + 1
 bd:∀ n,n<rows.length→1≤f n∧f n≤100
 it:∀ i∈st,1≤i.deep∧∀ p,i.par=some p→p<rows.length∧i.deep=f p + 1
theorem PD.step {it:WIt} {st:List WIt} {rows:List Row} {f:Nat→Nat} (b:PD (it::st) rows f) (ok:okIt it rows.length):PD (newIts it rows.length++st) (addRow rows it.d it.par) (fun n=>if n=rows.length then it.deep else f n):=by
 have len:=addRow_len rows it.d it.par
 obtain ⟨i1,i2⟩:=b.it it List.mem_cons_self
 have prl:∀ j p,(tabOf (addRow rows it.d it.par)).pr j=some p→(j=rows.length∧it.par=some p)∨(j<rows.length∧(tabOf rows).pr j=some p):=fun j p h=>by
  rcases Nat.lt_or_ge j rows.length with lt | ge
  ·obtain ⟨r0,e⟩:∃ r,rows[j]?=some r:=⟨_,List.getElem?_eq_getElem lt⟩
   obtain ⟨r,g1,g2,g3⟩:=addRow_old (d:=it.d) (par:=it.par) e
   rw [pr_row g1,g3,← pr_row e] at h
   exact .inr ⟨lt,h⟩
  ·have jl:j<(addRow rows it.d it.par).length:=by
    rcases Nat.lt_or_ge j (addRow rows it.d it.par).length with h2 | h2
    ·exact h2
    ·rw [show (tabOf (addRow rows it.d it.par)).pr j=(addRow rows it.d it.par)[j]?.bind Row.par from rfl,List.getElem?_eq_none h2] at h
     cases h
   have e:j=rows.length:=by omega
   subst e
   rw [show (tabOf (addRow rows it.d it.par)).pr rows.length=it.par from pr_row (addRow_new (d:=it.d) (par:=it.par))] at h
   exact .inl ⟨rfl,h⟩
 refine ⟨fun j p h hj=>?_,fun j p h=>?_,fun n hn=>?_,fun i hi=>?_⟩
 ·rcases prl j p h with ⟨rfl,h1⟩ | ⟨h1,h2⟩
  ·have:=(i2 p h1).1;omega
  ·have:=b.up j p h2 h1;omega
 ·rcases prl j p h with ⟨rfl,h1⟩ | ⟨h1,h2⟩
  ·obtain ⟨h3,h4⟩:=i2 p h1
   show (if rows.length=rows.length then it.deep else _)=(if p=rows.length then it.deep else f p) + 1
   rw [if_pos rfl,if_neg (by omega),h4]
  ·have h3:=b.an j p h2
   show (if j=rows.length then it.deep else f j)=(if p=rows.length then it.deep else f p) + 1
   by_cases e:p=rows.length
   ·exfalso
    have:=(b.bd j h1).2
    rw [e] at h2
    exact absurd h2 (fun z=>by
     have:=b.up j rows.length z h1
     omega)
   ·rw [if_neg (by omega),if_neg e,h3]
 ·by_cases e:n=rows.length
  ·show 1≤(if n=rows.length then it.deep else f n)∧(if n=rows.length then it.deep else f n)≤100
   rw [if_pos e]
   exact ⟨i1,ok.2.1⟩
  ·show 1≤(if n=rows.length then it.deep else f n)∧(if n=rows.length then it.deep else f n)≤100
   rw [if_neg e]
   exact b.bd n (by omega)
 ·rcases List.mem_append.mp hi with hi | hi
  ·obtain ⟨k,hk,rfl⟩:=List.mem_mapIdx.mp hi
   refine ⟨by show 1≤it.deep + 1;omega,fun p hp=>?_⟩
   obtain rfl:rows.length=p:=Option.some.inj hp
   refine ⟨by omega,?_⟩
   show it.deep + 1=(if rows.length=rows.length then it.deep else _) + 1
   rw [if_pos rfl]
  ·obtain ⟨h1,h2⟩:=b.it i (List.mem_cons_of_mem _ hi)
   refine ⟨h1,fun p hp=>?_⟩
   obtain ⟨h3,h4⟩:=h2 p hp
   refine ⟨by omega,?_⟩
   show i.deep=(if p=rows.length then it.deep else f p) + 1
   rw [if_neg (by omega),h4]
section
variable {rows:List Row} {lp:Nat→Nat}
end
def enF (t:Tab):Nat→Nat→Nat
 | 0,n=>n
 | f + 1,n=>match t.nd n with
  | .seq (c::_)=>enF t f c
  | .tr a _=>enF t f a
  | .fin a _=>enF t f a
  | _=>n
def enN (t:Tab) (n:Nat):Nat:=enF t t.len n
theorem enF_ent {t:Tab} {lp:Nat→Nat} (W:t.WF lp):∀ (f n:Nat),n<t.len→t.len≤n + f→∃ k,FcM.Ent t k n (enF t f n)
 | 0,n,h,h2=>by omega
 | f + 1,n,h,h2=>by
  have D:=W.dn n h
  unfold enF
  split
  ·rename_i c cs e
   have d:=D c (by rw [e];simp [Node.ch])
   obtain ⟨k,hk⟩:=enF_ent W f c d.2.1 (by omega)
   exact ⟨_,.seq e hk⟩
  ·rename_i a b e
   have d:=D a (by rw [e];simp [Node.ch])
   obtain ⟨k,hk⟩:=enF_ent W f a d.2.1 (by omega)
   exact ⟨_,.tr e hk⟩
  ·rename_i a b e
   have d:=D a (by rw [e];simp [Node.ch])
   obtain ⟨k,hk⟩:=enF_ent W f a d.2.1 (by omega)
   exact ⟨_,.fin e hk⟩
  ·rename_i x1 x2 x3
   refine ⟨0,.here (fun l e=>?_) (fun a b e=>x2 a b e) (fun a b e=>x3 a b e)⟩
   cases l with
   | nil=>exact W.sq n [] h e rfl
   | cons c l=>exact x1 c l e
theorem enN_ent {t:Tab} {lp:Nat→Nat} (W:t.WF lp) {n:Nat} (h:n<t.len):∃ k,FcM.Ent t k n (enN t n):=enF_ent W t.len n h (by omega)
end
section
open FcM (Way Node Tab)
inductive Sq (t:Tab):List Nat→Nat→List Int→Prop
 | here {m:Nat} {cs:List Nat}:Sq t (m::cs) m []
 | next {c m:Nat} {cs:List Nat} {l1 l2:List Int} (e:Ev t (.inl c) l1 .nrm) (r:Sq t cs m l2):Sq t (c::cs) m (l1++l2)
def St (t:Tab) (p m:Nat) (l:List Int):Prop:=match t.nd p with
 | .iff a b=>(m=a∧l=[0])∨(m=b∧l=[1])
 | .whl a=>m=a∧l=[1]
 | .seq cs=>Sq t cs m l
 | .tr a b=>(m=a∧l=[])∨(m=b∧Ev t (.inl a) l .rai)
 | .fin a b=>(m=a∧l=[])∨(m=b∧∃ w,Ev t (.inl a) l w)
 | _=>False
inductive Bgn (t:Tab) (n:Nat):List Int→Nat→Prop
 | here:Bgn t n [] n
 | step {p m:Nat} {l1 l2:List Int} (b:Bgn t n l1 p) (s:St t p m l2):Bgn t n (l1++l2) m
theorem Bgn.trans {t:Tab} {n p m:Nat} {l1 l2:List Int} (a:Bgn t n l1 p) (b:Bgn t p l2 m):Bgn t n (l1++l2) m:=by
 induction b with
 | here=>rw [List.append_nil];exact a
 | step b s ih=>rw [← List.append_assoc];exact .step ih s
theorem Bgn.of {t:Tab} {p m:Nat} {l:List Int} (s:St t p m l):Bgn t p l m:=by
 have:=Bgn.step (.here (t:=t) (n:=p)) s
 rw [List.nil_append] at this
 exact this
theorem sq_mem {t:Tab} {cs:List Nat} {m:Nat} {l:List Int} (h:Sq t cs m l):m∈cs:=by
 induction h with
 | here=>exact List.mem_cons_self
 | next _ _ ih=>exact List.mem_cons_of_mem _ ih
theorem st_ch {t:Tab} {p m:Nat} {l:List Int} (h:St t p m l):m∈(t.nd p).ch:=by
 unfold St at h
 cases e:t.nd p with
 | iff a b=>rw [e] at h;rcases h with ⟨rfl,_⟩ | ⟨rfl,_⟩<;>simp [Node.ch]
 | whl a=>rw [e] at h;obtain ⟨rfl,_⟩:=h;simp [Node.ch]
 | seq cs=>rw [e] at h;exact sq_mem h
 | tr a b=>rw [e] at h;rcases h with ⟨rfl,_⟩ | ⟨rfl,_⟩<;>simp [Node.ch]
 | fin a b=>rw [e] at h;rcases h with ⟨rfl,_⟩ | ⟨rfl,_⟩<;>simp [Node.ch]
 | _=>rw [e] at h;exact h.elim
theorem leL_pre (a b:List Int):leL a (a++b):=by
 have:=leL_app (leL_refl a) (show leL [] b from by
  cases b with
  | nil=>exact leL_refl _
  | cons x b=>exact .inl (by simp))
 rw [List.append_nil] at this
 exact this
section
variable {rows:List Row} {lp:Nat→Nat}
theorem bg_last (W:TW rows lp) (G:WgA rows) {p i:Nat} (hp:p≤i):∀ k,i≤k→k≤rows.length→(bgTo (tabOf rows) k)[p]?=(bgTo (tabOf rows) i)[p]?:=by
 intro k
 induction k with
 | zero=>intro h _;rw [show i=0 from by omega]
 | succ k ih =>
  intro h hk
  by_cases e:i=k + 1
  ·rw [e]
  ·rw [bg_keep W G (by omega) (fun z=>by have:=(W.wf.dn k (by show k<rows.length;omega) p z).1;omega)]
   exact ih (by omega) (by omega)
theorem bgN_zero (W:TW rows lp) (G:WgA rows):bgN (tabOf rows) 0=some []:=by
 have h:=bg_last W G (Nat.le_refl 0) rows.length (Nat.zero_le _) (Nat.le_refl _)
 unfold bgN bgAll
 show ((bgTo (tabOf rows) rows.length)[0]?).getD none=_
 rw [h]
 have hl:0<(tabOf rows).len:=W.wf.ne
 simp [bgTo,bg0,hl]
theorem bgN_not (W:TW rows lp) (G:WgA rows) {p c:Nat} (hp:p<rows.length) (hc:c∈((tabOf rows).nd p).ch) (h:∀ before,bgN (tabOf rows) p=some before→∀ v,(c,v) ∉ bgParts (tbN (tabOf rows)) ((tabOf rows).nd p) before):bgN (tabOf rows) c=none:=by
 have dc:=W.wf.dn p hp c hc
 have lc:c<rows.length:=dc.2.1
 have c0:c≠0:=by have:=dc.1;omega
 have all:∀ i,i≤rows.length→(bgTo (tabOf rows) i)[c]?=some none:=by
  intro i
  induction i with
  | zero =>
   intro _
   have hl:c<(tabOf rows).len:=lc
   show ((List.replicate (tabOf rows).len (none:Option (List Int))).set 0 (some []))[c]?=_
   rw [List.getElem?_set_ne (Ne.symm c0),List.getElem?_replicate,if_pos hl]
  | succ i ih =>
   intro hi
   by_cases e:c∈((tabOf rows).nd i).ch
   ·have ei:i=p:=by
     have h1:=(W.wf.dn i (by show i<rows.length;omega) c e).2.2.1
     rw [dc.2.2.1] at h1
     exact (Option.some.inj h1).symm
    subst ei
    rw [bgTo_succ]
    unfold bgStep
    split
    ·rename_i before eb
     have hb:bgN (tabOf rows) i=some before:=by
      unfold bgN bgAll
      show ((bgTo (tabOf rows) rows.length)[i]?).getD none=_
      rw [bg_last W G (Nat.le_refl i) rows.length (by omega) (Nat.le_refl _),eb]<;>rfl
     rcases setAll_get (bgParts (tbN (tabOf rows)) ((tabOf rows).nd i) before) (bgTo (tabOf rows) i) c with z | ⟨v,z1,_⟩
     ·rw [z];exact ih (by omega)
     ·exact absurd z1 (h before hb v)
    ·exact ih (by omega)
   ·rw [bg_keep W G (by omega) e]
    exact ih (by omega)
 unfold bgN bgAll
 show ((bgTo (tabOf rows) rows.length)[c]?).getD none=_
 rw [all _ (Nat.le_refl _)]<;>rfl
theorem sq_bg (W:TW rows lp) (G:WgA rows) {m:Nat}:∀ (cs:List Nat) (before:List Int),(∀ c∈cs,c<rows.length)→cs.Nodup→m∈cs →
  (∃ s0,(m,some (before++s0))∈bgSeq (tbN (tabOf rows)) cs before∧Sq (tabOf rows) cs m s0∧∀ s',Sq (tabOf rows) cs m s'→leL s0 s')∨((∀ v,(m,v) ∉ bgSeq (tbN (tabOf rows)) cs before)∧∀ s',¬ Sq (tabOf rows) cs m s')
 | [],_,_,_,h=>by cases h
 | c::cs,before,hr,nd,h=>by
  by_cases e:m=c
  ·subst e
   refine .inl ⟨[],?_,.here,fun s' _=>?_⟩
   ·unfold bgSeq
    rw [List.append_nil]
    exact List.mem_cons_self
   ·have:=leL_pre [] s'
    rw [List.nil_append] at this
    exact this
  ·have hm:m∈cs:=by
    rcases List.mem_cons.mp h with z | z
    ·exact absurd z e
    ·exact z
   have B:=tb_best W G (hr c List.mem_cons_self)
   have inv:∀ s',Sq (tabOf rows) (c::cs) m s'→∃ l1 l2,s'=l1++l2∧Ev (tabOf rows) (.inl c) l1 .nrm∧Sq (tabOf rows) cs m l2:=fun s' q=>by
    cases q with
    | here=>exact absurd rfl e
    | next ev r=>exact ⟨_,_,rfl,ev,r⟩
   cases k:lk (tbN (tabOf rows) c) .nrm with
   | none =>
    refine .inr ⟨fun v z=>?_,fun s' q=>?_⟩
    ·unfold bgSeq at z
     rw [k] at z
     rcases List.mem_cons.mp z with z | z
     ·cases z;exact e rfl
     ·cases z
    ·obtain ⟨l1,l2,_,ev,_⟩:=inv s' q
     obtain ⟨l0,e0⟩:=B.ex _ _ ev
     rw [k] at e0
     cases e0
   | some x =>
    obtain ⟨b1,b2⟩:=B.mn _ _ k
    rcases sq_bg W G cs (before++x) (fun d hd=>hr d (List.mem_cons_of_mem _ hd)) (List.nodup_cons.mp nd).2 hm with ⟨s0,h1,h2,h3⟩ | ⟨h1,h2⟩
    ·refine .inl ⟨x++s0,?_,.next b1 h2,fun s' q=>?_⟩
     ·unfold bgSeq
      rw [k,← List.append_assoc]
      exact List.mem_cons_of_mem _ h1
     ·obtain ⟨l1,l2,rfl,ev,r⟩:=inv s' q
      exact leL_app (b2 _ ev) (h3 _ r)
    ·refine .inr ⟨fun v z=>?_,fun s' q=>?_⟩
     ·unfold bgSeq at z
      rw [k] at z
      rcases List.mem_cons.mp z with z | z
      ·cases z;exact e rfl
      ·exact h1 v z
     ·obtain ⟨l1,l2,_,_,r⟩:=inv s' q
      exact h2 _ r
theorem bg_step (W:TW rows lp) (G:WgA rows) {p m:Nat} (hp:p<rows.length) (hm:m∈((tabOf rows).nd p).ch) {before:List Int} (hb:bgN (tabOf rows) p=some before) :
  (∃ s0,bgN (tabOf rows) m=some (before++s0)∧St (tabOf rows) p m s0∧∀ s',St (tabOf rows) p m s'→leL s0 s')∨(bgN (tabOf rows) m=none∧∀ s',¬ St (tabOf rows) p m s'):=by
 have fix:=fun {v:Option (List Int)} (h:(m,v)∈bgParts (tbN (tabOf rows)) ((tabOf rows).nd p) before)=>bgN_fix W G hp hb h
 have nd:=W.wf.nd p hp
 have D:=W.wf.dn p hp
 have ne:=(parts_ok W G hp).2
 cases e:(tabOf rows).nd p with
 | iff a b =>
  rw [e] at fix hm nd
  have nd:[a,b].Nodup:=nd
  have nab:a≠b:=fun z=>by rw [z] at nd;simp at nd
  have hm:m∈[a,b]:=hm
  simp only [List.mem_cons,List.not_mem_nil,or_false] at hm
  refine .inl ?_
  rcases hm with rfl | rfl
  ·refine ⟨[0],fix (by simp [bgParts]),by unfold St;rw [e];exact .inl ⟨rfl,rfl⟩,fun s' q=>?_⟩
   unfold St at q
   rw [e] at q
   rcases q with ⟨_,rfl⟩ | ⟨z,_⟩
   ·exact leL_refl _
   ·exact absurd z nab
  ·refine ⟨[1],fix (by simp [bgParts]),by unfold St;rw [e];exact .inr ⟨rfl,rfl⟩,fun s' q=>?_⟩
   unfold St at q
   rw [e] at q
   rcases q with ⟨z,_⟩ | ⟨_,rfl⟩
   ·exact absurd z.symm nab
   ·exact leL_refl _
 | whl a =>
  rw [e] at fix hm
  have hm:m∈[a]:=hm
  obtain rfl:=List.mem_singleton.mp hm
  refine .inl ⟨[1],fix (by simp [bgParts]),by unfold St;rw [e];exact ⟨rfl,rfl⟩,fun s' q=>?_⟩
  unfold St at q
  rw [e] at q
  rw [q.2]
  exact leL_refl _
 | seq cs =>
  have hm':=hm
  rw [e] at fix hm nd
  have hr:∀ c∈cs,c<rows.length:=fun c hc=>(D c (by rw [e];exact hc)).2.1
  rcases sq_bg W G cs before hr nd hm with ⟨s0,h1,h2,h3⟩ | ⟨h1,h2⟩
  ·refine .inl ⟨s0,fix h1,by unfold St;rw [e];exact h2,fun s' q=>?_⟩
   unfold St at q
   rw [e] at q
   exact h3 _ q
  ·refine .inr ⟨bgN_not W G hp hm' fun b' hb' v z=>?_,fun s' q=>?_⟩
   ·rw [hb] at hb'
    cases hb'
    rw [e] at z
    exact h1 v z
   ·unfold St at q
    rw [e] at q
    exact h2 _ q
 | tr a b =>
  have ma:=D a (by rw [e];simp [Node.ch])
  rw [e] at fix hm nd
  have nd:[a,b].Nodup:=nd
  have nab:a≠b:=fun z=>by rw [z] at nd;simp at nd
  have hm:m∈[a,b]:=hm
  simp only [List.mem_cons,List.not_mem_nil,or_false] at hm
  rcases hm with rfl | rfl
  ·refine .inl ⟨[],by rw [List.append_nil];exact fix (by simp [bgParts]),by unfold St;rw [e];exact .inl ⟨rfl,rfl⟩,fun s' q=>?_⟩
   have:=leL_pre [] s'
   rw [List.nil_append] at this
   exact this
  ·have B:=tb_best W G (show a<rows.length from ma.2.1)
   cases k:lk (tbN (tabOf rows) a) .rai with
   | none =>
    refine .inr ⟨fix (by simp [bgParts,k]),fun s' q=>?_⟩
    unfold St at q
    rw [e] at q
    rcases q with ⟨z,_⟩ | ⟨_,ev⟩
    ·exact absurd z.symm nab
    ·obtain ⟨l0,e0⟩:=B.ex _ _ ev
     rw [k] at e0
     cases e0
   | some x =>
    obtain ⟨b1,b2⟩:=B.mn _ _ k
    refine .inl ⟨x,fix (by simp [bgParts,k]),by unfold St;rw [e];exact .inr ⟨rfl,b1⟩,fun s' q=>?_⟩
    unfold St at q
    rw [e] at q
    rcases q with ⟨z,_⟩ | ⟨_,ev⟩
    ·exact absurd z.symm nab
    ·exact b2 _ ev
 | fin a b =>
  have ma:=D a (by rw [e];simp [Node.ch])
  have nea:=(ne a (by rw [e];simp [Node.ch])).1
  rw [e] at fix hm nd
  have nd:[a,b].Nodup:=nd
  have nab:a≠b:=fun z=>by rw [z] at nd;simp at nd
  have hm:m∈[a,b]:=hm
  simp only [List.mem_cons,List.not_mem_nil,or_false] at hm
  rcases hm with rfl | rfl
  ·refine .inl ⟨[],by rw [List.append_nil];exact fix (by simp [bgParts]),by unfold St;rw [e];exact .inl ⟨rfl,rfl⟩,fun s' q=>?_⟩
   have:=leL_pre [] s'
   rw [List.nil_append] at this
   exact this
  ·have la:a<rows.length:=ma.2.1
   obtain ⟨s,w,k,b1,b2⟩:=short_best (ndk_all W.wf la) (tb_best W G la) nea
   refine .inl ⟨s,fix (by simp [bgParts,k]),by unfold St;rw [e];exact .inr ⟨rfl,w,b1⟩,fun s' q=>?_⟩
   unfold St at q
   rw [e] at q
   rcases q with ⟨z,_⟩ | ⟨_,w',ev⟩
   ·exact absurd z.symm nab
   ·exact b2 _ _ ev
 | _=>rw [e] at hm;cases hm
end
end
section
open FcM (Way Node Tab)
theorem st_seq {t:Tab} {n m:Nat} {cs:List Nat} {l:List Int} (h:t.nd n=.seq cs) (s:Sq t cs m l):St t n m l:=by unfold St;rw [h];exact s
theorem st_tr0 {t:Tab} {n a b:Nat} (h:t.nd n=.tr a b):St t n a []:=by unfold St;rw [h];exact .inl ⟨rfl,rfl⟩
theorem st_fi0 {t:Tab} {n a b:Nat} (h:t.nd n=.fin a b):St t n a []:=by unfold St;rw [h];exact .inl ⟨rfl,rfl⟩
section
variable {rows:List Row} {lp:Nat→Nat}
def plF:Node→Bool
 | .seq _=>false
 | .tr _ _=>false
 | _=>true
end
end
section
open FcM (Way Node Tab)
def Cmp (t:Tab) (n:Nat) (a:List Int) (q:Nat):Prop:=∃ l' o ps,Ewp t (.inl n) a l' o ps∧q∈ps
def addA (g:List (Nat×List Int)) (ps:List Nat) (a:List Int):List (Nat×List Int):=ps.foldl (fun g q=>if (lkN g q).isSome then g else g++[(q,a)]) g
theorem lkN_app (g:List (Nat×List Int)) (p:Nat×List Int) (q:Nat):lkN (g++[p]) q=(lkN g q).or (if p.1=q then some p.2 else none):=by
 unfold lkN
 rw [List.find?_append]
 cases g.find? fun p=>decide (p.1=q) with
 | some x=>rfl
 | none =>
  by_cases e:p.1=q
  ·simp [e]
  ·simp [e]
theorem lkN_add (a:List Int) (q:Nat):∀ (ps:List Nat) (g:List (Nat×List Int)),lkN (addA g ps a) q=(lkN g q).or (if q∈ps then some a else none)
 | [],g=>by simp [addA]
 | p::ps,g=>by
  show lkN (addA (if (lkN g p).isSome then g else g++[(p,a)]) ps a) q=_
  rw [lkN_add a q ps]
  by_cases h:(lkN g p).isSome=true
  ·rw [if_pos h]
   by_cases e:q=p
   ·subst e
    obtain ⟨x,hx⟩:=Option.isSome_iff_exists.mp h
    rw [hx]<;>rfl
   ·congr 1
    by_cases m:q∈ps
    ·rw [if_pos m,if_pos (List.mem_cons_of_mem _ m)]
    ·rw [if_neg m,if_neg fun z=>(List.mem_cons.mp z).elim e m]
  ·rw [if_neg h,lkN_app]
   have h:lkN g p=none:=by
    cases e:lkN g p with
    | none=>rfl
    | some x=>rw [e] at h;exact absurd rfl h
   by_cases e:p=q
   ·subst e
    rw [if_pos rfl,h,if_pos List.mem_cons_self]<;>rfl
   ·rw [if_neg e]
    show Option.or ((lkN g q).or none) _=_
    rw [Option.or_none]
    congr 1
    by_cases m:q∈ps
    ·rw [if_pos m,if_pos (List.mem_cons_of_mem _ m)]
    ·rw [if_neg m,if_neg fun z=>(List.mem_cons.mp z).elim (fun z=>e z.symm) m]
structure Pf (t:Tab) (n i:Nat) (W:List (List Int)) (g:List (Nat×List Int)):Prop where
 fd:∀ q a,lkN g q=some a→∃ j,j<i∧W[j]?=some a∧Cmp t n a q∧∀ j' y,j'<j→W[j']?=some y→¬ Cmp t n y q
 al:∀ j y q,j<i→W[j]?=some y→Cmp t n y q→∃ a,lkN g q=some a
 nd:(g.map (·.1)).Nodup
theorem addA_nd (a:List Int):∀ (ps:List Nat) (g:List (Nat×List Int)),(g.map (·.1)).Nodup→((addA g ps a).map (·.1)).Nodup
 | [],_,h=>h
 | p::ps,g,h=>by
  refine addA_nd a ps _ ?_
  show ((if (lkN g p).isSome then g else g++[(p,a)]).map (·.1)).Nodup
  split
  ·exact h
  ·rename_i c
   rw [List.map_append,List.nodup_append]
   refine ⟨h,by simp,fun x hx y hy z=>?_⟩
   have hy:=List.mem_singleton.mp hy
   rw [hy] at z
   rw [z] at hx
   apply c
   obtain ⟨e,h1,h2⟩:=List.mem_map.mp hx
   unfold lkN
   cases f:g.find? fun q=>decide (q.1=p) with
   | some x=>rfl
   | none=>exact absurd (decide_eq_true h2) (List.find?_eq_none.mp f e h1)
theorem cmp_det {t:Tab} {n:Nat} {a:List Int} {l':List Int} {o:Option Way} {ps:List Nat} (h:Ewp t (.inl n) a l' o ps) (q:Nat):Cmp t n a q ↔ q∈ps:=by
 refine ⟨fun ⟨_,_,_,h1,h2⟩=>?_,fun z=>⟨_,_,_,h,z⟩⟩
 obtain ⟨l,rest,rfl,c⟩:=ewp_cm h1 q h2
 exact cm_ewp c _ _ _ _ h
theorem Pf.step {t:Tab} {n i:Nat} {W:List (List Int)} {g:List (Nat×List Int)} (B:Pf t n i W g) {a:List Int} (ha:W[i]?=some a) {l':List Int} {o:Option Way} {ps:List Nat} (h:Ewp t (.inl n) a l' o ps) (V:List (List Int)):Pf t n (i + 1) (W++V) (addA g ps a):=by
 have hi:=(List.getElem?_eq_some_iff.mp ha).1
 have old:∀ {j:Nat} {y:List Int},j<i + 1→(W++V)[j]?=some y→W[j]?=some y:=fun hj hy=>by
  rw [List.getElem?_append_left (by omega)] at hy
  exact hy
 have new:∀ {j:Nat} {y:List Int},W[j]?=some y→(W++V)[j]?=some y:=fun hy=>by
  rw [List.getElem?_append_left (List.getElem?_eq_some_iff.mp hy).1]
  exact hy
 refine ⟨fun q b hb=>?_,fun j y q hj hy hc=>?_,addA_nd a ps g B.nd⟩
 ·rw [lkN_add] at hb
  cases e:lkN g q with
  | some c =>
   rw [e] at hb
   cases hb
   obtain ⟨j,h1,h2,h3,h4⟩:=B.fd q _ e
   exact ⟨j,by omega,new h2,h3,fun j' y hj' hy=>h4 j' y hj' (old (by omega) hy)⟩
  | none =>
   rw [e] at hb
   by_cases m:q∈ps
   ·rw [if_pos m] at hb
    cases hb
    refine ⟨i,by omega,new ha,⟨_,_,_,h,m⟩,fun j' y hj' hy hc=>?_⟩
    obtain ⟨c,hc⟩:=B.al j' y q hj' (old (by omega) hy) hc
    rw [e] at hc
    cases hc
   ·rw [if_neg m] at hb
    cases hb
 ·have hy:=old hj hy
  rw [lkN_add]
  by_cases e:j=i
  ·subst e
   rw [ha] at hy
   cases hy
   rw [if_pos ((cmp_det h q).mp hc)]
   cases lkN g q<;>exact ⟨_,rfl⟩
  ·obtain ⟨c,hc⟩:=B.al j y q (by omega) hy hc
   rw [hc]
   exact ⟨_,rfl⟩
theorem lkN_mem {g:List (Nat×List Int)} {q:Nat} (h:q∈g.map (·.1)):∃ l,lkN g q=some l:=by
 obtain ⟨e,h1,h2⟩:=List.mem_map.mp h
 unfold lkN
 cases f:g.find? fun p=>decide (p.1=q) with
 | some x=>exact ⟨_,rfl⟩
 | none=>exact absurd (decide_eq_true h2) (List.find?_eq_none.mp f e h1)
end
section
open FcM (Way Node Tab)
section
variable {rows:List Row} {lp:Nat→Nat}
theorem plF_iff (W:TW rows lp) {q:Nat} (hq:q<rows.length):plF ((tabOf rows).nd q)=plB rows q:=by
 obtain ⟨r,hr⟩:=row_at hq
 rw [pl_of hr,tab_nd hr]
 unfold isPl
 rw [kd_nd (W.sv q r hr).1]
 cases ndOf r<;>first | rfl | kernel_rfl
theorem lkN_some {g:List (Nat×List Int)} {q:Nat} {l:List Int} (h:lkN g q=some l):q∈g.map (·.1):=by
 unfold lkN at h
 obtain ⟨e,h1,h2⟩:=Option.map_eq_some_iff.mp h
 have:=List.find?_some h1
 exact List.mem_map.mpr ⟨e,List.mem_of_find?_eq_some h1,of_decide_eq_true this⟩
structure Due (rows:List Row) (g:List (Nat×List Int)):Prop where
 nd:(g.map (·.1)).Nodup
 inr:∀ q l,lkN g q=some l→q<rows.length∧plF ((tabOf rows).nd q)=true
 eq:∀ q,q<rows.length→plF ((tabOf rows).nd q)=true→lkN g q=paN (tabOf rows) q
theorem Due.keys {g:List (Nat×List Int)} (D:Due rows g) (W:TW rows lp) (q:Nat):q∈g.map (·.1) ↔ q∈rcN rows:=by
 constructor
 ·intro h
  obtain ⟨l,e⟩:=lkN_mem h
  obtain ⟨h1,h2⟩:=D.inr q l e
  refine List.mem_filter.mpr ⟨List.mem_filter.mpr ⟨List.mem_range.mpr h1,by rw [← plF_iff W h1];exact h2⟩,?_⟩
  rw [← D.eq q h1 h2,e]<;>rfl
 ·intro h
  obtain ⟨h1,h2⟩:=List.mem_filter.mp h
  have hq:=plN_lt h1
  have hp:plF ((tabOf rows).nd q)=true:=by rw [plF_iff W hq];exact (List.mem_filter.mp h1).2
  obtain ⟨l,e⟩:=Option.isSome_iff_exists.mp h2
  rw [← D.eq q hq hp] at e
  exact lkN_some e
theorem bg_first (W:TW rows lp) (G:WgA rows) {n c:Nat} (hn:n<rows.length) (s:St (tabOf rows) n c []):(bgN (tabOf rows) c).isSome=(bgN (tabOf rows) n).isSome:=by
 have hc:=st_ch s
 cases e:bgN (tabOf rows) n with
 | none=>rw [bgN_not W G hn hc fun before hb=>by rw [e] at hb;cases hb]
 | some x =>
  rcases bg_step W G hn hc e with ⟨s0,k1,_,_⟩ | ⟨_,k2⟩
  ·rw [k1]<;>rfl
  ·exact absurd s (k2 [])
theorem ent_bg (W:TW rows lp) (G:WgA rows) {k n e:Nat} (h:FcM.Ent (tabOf rows) k n e):n<rows.length→e<rows.length∧plF ((tabOf rows).nd e)=true∧(paN (tabOf rows) e).isSome=(bgN (tabOf rows) n).isSome:=by
 induction h with
 | @here n h1 h2 h3 =>
  intro hn
  refine ⟨hn,?_,?_⟩
  ·cases e:(tabOf rows).nd n with
   | seq l=>exact absurd e (h1 l)
   | tr a b=>exact absurd e (h2 a b)
   | _=>rfl
  ·unfold paN
   cases bgN (tabOf rows) n with
   | none=>rfl
   | some x =>
    dsimp only
    split
    ·rename_i a b e
     exact absurd e (h3 a b)
    ·rfl
 | @seq k n c e cs hd _ ih =>
  intro hn
  have s:St (tabOf rows) n c []:=st_seq hd .here
  have hc:=(W.wf.dn n hn c (st_ch s)).2.1
  rw [← bg_first W G hn s]
  exact ih hc
 | @tr k n a b e hd _ ih =>
  intro hn
  have s:St (tabOf rows) n a []:=st_tr0 hd
  have hc:=(W.wf.dn n hn a (st_ch s)).2.1
  rw [← bg_first W G hn s]
  exact ih hc
 | @fin k n a b e hd _ ih =>
  intro hn
  have s:St (tabOf rows) n a []:=st_fi0 hd
  have hc:=(W.wf.dn n hn a (st_ch s)).2.1
  rw [← bg_first W G hn s]
  exact ih hc
theorem Due.ent {g:List (Nat×List Int)} (D:Due rows g) (W:TW rows lp) (G:WgA rows) {n:Nat} (hn:n<rows.length):(lkN g (enN (tabOf rows) n)).isSome=(bgN (tabOf rows) n).isSome:=by
 obtain ⟨k,hk⟩:=enN_ent W.wf hn
 obtain ⟨h1,h2,h3⟩:=ent_bg W G hk hn
 rw [D.eq _ h1 h2,h3]
end
end
section
open FcM (Way Node Tab Pd Rs)
def intB (l:List Bool):List Int:=l.map fun x=>if x then 1 else 0
theorem bit_cons {bits:List Bool} {u:Nat} {x:Int} {l:List Int} (h:x::l=intB (bits.drop u)):∃ b,bits[u]?=some b∧x=(if b then 1 else 0)∧l=intB (bits.drop (u + 1))∧u<bits.length:=by
 rcases Nat.lt_or_ge u bits.length with z | z
 ·rw [List.drop_eq_getElem_cons z] at h
  unfold intB at h
  rw [List.map_cons] at h
  exact ⟨_,List.getElem?_eq_getElem z,(List.cons.inj h).1,(List.cons.inj h).2,z⟩
 ·rw [List.drop_eq_nil_of_le z] at h
  cases h
theorem bit_nil {bits:List Bool} {u:Nat} (h:[]=intB (bits.drop u)):bits[u]?=none:=by
 refine List.getElem?_eq_none ?_
 have:=congrArg List.length h
 unfold intB at this
 simp at this
 omega
def RelG (bits:List Bool) (u:Nat) (v:List Nat) (L':List Int) (o:Option Way) (ps:List Nat):Rs→Prop
 | (.inr w,u',v')=>o=some w∧L'=intB (bits.drop u')∧v'=v++ps∧u≤u'
 | (.inl x,u',v')=>o=none∧∃ ps0,ps=ps0++[x.1]∧v'=v++ps0
def unf (t:Tab) (bits:List Bool) (f h n:Nat) (P:Pd) (u:Nat) (v:List Nat):Rs:=match h with
 | 0=>(.inl (n,P),u,v)
 | h' + 1=>match t.nd n with
  | .whl a=>FcM.loopF bits n P (FcM.goF t bits h' a P) f u v
  | _=>FcM.goF t bits (h' + 1) n P u v
theorem unf_go (t:Tab) (bits:List Bool) (h n:Nat) (P:Pd) (u:Nat) (v:List Nat):unf t bits (bits.length + 1) h n P u v=FcM.goF t bits h n P u v:=by
 cases h with
 | zero=>rfl
 | succ h =>
  unfold unf
  try dsimp only
  split
  ·rename_i a e
   conv=>rhs;unfold FcM.goF
   rw [e]
  ·rfl
theorem seqF_out (go:Nat→Nat→List Nat→Rs):∀ (cs:List Nat) (w:FcM.Wt) (u:Nat) (v:List Nat),w≠.inr .nrm→FcM.seqF go cs (w,u,v)=(w,u,v)
 | [],_,_,_,_=>rfl
 | c::cs,w,u,v,h=>by
  unfold FcM.seqF
  try dsimp only
  rw [if_neg h]
  exact seqF_out go cs w u v h
def MotG (t:Tab) (bits:List Bool) (l L':List Int) (o:Option Way) (ps:List Nat):Nat ⊕ List Nat→Prop
 | .inl n=>∀ (h:Nat) (P:Pd) (u:Nat) (v:List Nat) (f:Nat),FcM.Hg t h n→l=intB (bits.drop u)→bits.length + 1≤f + u→RelG bits u v L' o ps (unf t bits f h n P u v)
 | .inr cs=>∀ (h:Nat) (P:Pd) (u:Nat) (v:List Nat),(∀ c∈cs,FcM.Hg t h c)→l=intB (bits.drop u)→RelG bits u v L' o ps (FcM.seqF (fun c=>FcM.goF t bits h c P) cs (.inr .nrm,u,v))
theorem ewp_go {t:Tab} {bits:List Bool} {x:Nat ⊕ List Nat} {l L':List Int} {o:Option Way} {ps:List Nat} (r:Ewp t x l L' o ps):MotG t bits l L' o ps x:=by
 have pos:∀ {h n:Nat},FcM.Hg t h n→∃ h',h=h' + 1∧∀ c∈(t.nd n).ch,FcM.Hg t h' c:=fun g=>by
  cases g with
  | mk r=>exact ⟨_,rfl,r⟩
 have go:∀ {n:Nat} {l L':List Int} {o:Option Way} {ps:List Nat},MotG t bits l L' o ps (.inl n)→∀ (h:Nat) (P:Pd) (u:Nat) (v:List Nat),FcM.Hg t h n→l=intB (bits.drop u)→RelG bits u v L' o ps (FcM.goF t bits h n P u v):=fun m h P u v g e=>by
  have:=m h P u v (bits.length + 1) g e (by omega)
  rwa [unf_go] at this
 induction r with
 | @quiet n l hq =>
  intro h P u v f g e _
  obtain ⟨h',rfl,_⟩:=pos g
  unfold unf
  try dsimp only
  cases en:t.nd n<;>rw [en] at hq<;>first
   | exact hq.elim
   | (unfold FcM.goF;rw [en];exact ⟨rfl,e,rfl,Nat.le_refl _⟩)
 | @call0 n l hn =>
  intro h P u v f g e _
  obtain ⟨h',rfl,_⟩:=pos g
  obtain ⟨b,hb,ex,el,_⟩:=bit_cons e
  unfold unf
  try dsimp only
  rw [hn]
  try dsimp only
  unfold FcM.goF
  rw [hn]
  try dsimp only
  rw [hb]
  cases b with
  | true=>cases ex
  | false=>exact ⟨rfl,el,rfl,Nat.le_succ _⟩
 | @call1 n l hn =>
  intro h P u v f g e _
  obtain ⟨h',rfl,_⟩:=pos g
  obtain ⟨b,hb,ex,el,_⟩:=bit_cons e
  unfold unf
  try dsimp only
  rw [hn]
  try dsimp only
  unfold FcM.goF
  rw [hn]
  try dsimp only
  rw [hb]
  cases b with
  | false=>cases ex
  | true=>exact ⟨rfl,el,rfl,Nat.le_succ _⟩
 | @ask n hn =>
  intro h P u v f g e _
  obtain ⟨h',rfl,_⟩:=pos g
  have hb:=bit_nil e
  unfold unf
  try dsimp only
  cases en:t.nd n<;>rw [en] at hn<;>first
   | cases hn
   | skip
  ·dsimp only
   unfold FcM.goF
   rw [en]
   dsimp only
   rw [hb]
   exact ⟨rfl,[],rfl,(List.append_nil v).symm⟩
  ·dsimp only
   unfold FcM.goF
   rw [en]
   dsimp only
   rw [hb]
   exact ⟨rfl,[],rfl,(List.append_nil v).symm⟩
  ·dsimp only
   cases f with
   | zero=>exact ⟨rfl,[],rfl,(List.append_nil v).symm⟩
   | succ f =>
    unfold FcM.loopF
    rw [hb]
    exact ⟨rfl,[],rfl,(List.append_nil v).symm⟩
 | @if0 n a b ps l l' o hn r ih =>
  intro h P u v f g e _
  obtain ⟨h',rfl,gc⟩:=pos g
  obtain ⟨x,hb,ex,el,_⟩:=bit_cons e
  unfold unf
  try dsimp only
  rw [hn]
  try dsimp only
  unfold FcM.goF
  rw [hn]
  try dsimp only
  rw [hb]
  cases x with
  | true=>cases ex
  | false =>
   have z:=go ih h' P (u + 1) (v++[n]) (gc a (by rw [hn];simp [Node.ch])) el
   dsimp only
   rw [if_neg (by decide)]
   revert z
   rcases FcM.goF t bits h' a P (u + 1) (v++[n]) with ⟨w | w,u',v'⟩
   ·rintro ⟨z1,p0,z2,z3⟩
    exact ⟨z1,n::p0,by rw [z2]<;>rfl,by rw [z3];simp⟩
   ·rintro ⟨z1,z2,z3,z4⟩
    exact ⟨z1,z2,by rw [z3];simp,by omega⟩
 | @if1 n a b ps l l' o hn r ih =>
  intro h P u v f g e _
  obtain ⟨h',rfl,gc⟩:=pos g
  obtain ⟨x,hb,ex,el,_⟩:=bit_cons e
  unfold unf
  try dsimp only
  rw [hn]
  try dsimp only
  unfold FcM.goF
  rw [hn]
  try dsimp only
  rw [hb]
  cases x with
  | false=>cases ex
  | true =>
   have z:=go ih h' P (u + 1) (v++[n]) (gc b (by rw [hn];simp [Node.ch])) el
   dsimp only
   rw [if_pos rfl]
   revert z
   rcases FcM.goF t bits h' b P (u + 1) (v++[n]) with ⟨w | w,u',v'⟩
   ·rintro ⟨z1,p0,z2,z3⟩
    exact ⟨z1,n::p0,by rw [z2]<;>rfl,by rw [z3];simp⟩
   ·rintro ⟨z1,z2,z3,z4⟩
    exact ⟨z1,z2,by rw [z3];simp,by omega⟩
 | @wh0 n a l hn =>
  intro h P u v f g e hf
  obtain ⟨h',rfl,_⟩:=pos g
  obtain ⟨x,hb,ex,el,lu⟩:=bit_cons e
  obtain ⟨f',rfl⟩:∃ f',f=f' + 1:=⟨f - 1,by omega⟩
  unfold unf
  try dsimp only
  rw [hn]
  try dsimp only
  unfold FcM.loopF
  rw [hb]
  cases x with
  | true=>cases ex
  | false=>exact ⟨rfl,el,rfl,Nat.le_succ _⟩
 | @whW n a ps l l' hn r ih =>
  intro h P u v f g e hf
  obtain ⟨h',rfl,gc⟩:=pos g
  obtain ⟨x,hb,ex,el,lu⟩:=bit_cons e
  obtain ⟨f',rfl⟩:∃ f',f=f' + 1:=⟨f - 1,by omega⟩
  unfold unf
  try dsimp only
  rw [hn]
  try dsimp only
  unfold FcM.loopF
  rw [hb]
  cases x with
  | false=>cases ex
  | true =>
   have z:=go ih h' P (u + 1) (v++[n]) (gc a (by rw [hn];simp [Node.ch])) el
   dsimp only
   revert z
   rcases FcM.goF t bits h' a P (u + 1) (v++[n]) with ⟨w | w,u',v'⟩
   ·rintro ⟨z1,p0,z2,z3⟩
    exact ⟨z1,n::p0,by rw [z2]<;>rfl,by rw [z3];simp⟩
   ·rintro ⟨z1,_⟩
    cases z1
 | @whO n a ps l l' w hn r hw ih =>
  intro h P u v f g e hf
  obtain ⟨h',rfl,gc⟩:=pos g
  obtain ⟨x,hb,ex,el,lu⟩:=bit_cons e
  obtain ⟨f',rfl⟩:∃ f',f=f' + 1:=⟨f - 1,by omega⟩
  unfold unf
  try dsimp only
  rw [hn]
  try dsimp only
  unfold FcM.loopF
  rw [hb]
  cases x with
  | false=>cases ex
  | true =>
   have z:=go ih h' P (u + 1) (v++[n]) (gc a (by rw [hn];simp [Node.ch])) el
   dsimp only
   revert z
   rcases FcM.goF t bits h' a P (u + 1) (v++[n]) with ⟨w1 | w1,u',v'⟩
   ·rintro ⟨z1,_⟩
    cases z1
   ·rintro ⟨z1,z2,z3,z4⟩
    cases z1
    dsimp only
    rw [if_neg (by rw [hw];decide)]
    exact ⟨rfl,z2,by rw [z3];simp,by omega⟩
 | @whA n a ps ps2 l l1 l' w o hn r hw r2 ih ih2 =>
  intro h P u v f g e hf
  obtain ⟨h',rfl,gc⟩:=pos g
  obtain ⟨x,hb,ex,el,lu⟩:=bit_cons e
  obtain ⟨f',rfl⟩:∃ f',f=f' + 1:=⟨f - 1,by omega⟩
  unfold unf
  try dsimp only
  rw [hn]
  try dsimp only
  unfold FcM.loopF
  rw [hb]
  cases x with
  | false=>cases ex
  | true =>
   have z:=go ih h' P (u + 1) (v++[n]) (gc a (by rw [hn];simp [Node.ch])) el
   dsimp only
   revert z
   rcases FcM.goF t bits h' a P (u + 1) (v++[n]) with ⟨w1 | w1,u',v'⟩
   ·rintro ⟨z1,_⟩
    cases z1
   ·rintro ⟨z1,z2,z3,z4⟩
    cases z1
    dsimp only
    rw [if_pos hw]
    have y:=ih2 (h' + 1) P u' v' f' g z2 (by omega)
    unfold unf at y
    dsimp only at y
    rw [hn] at y
    dsimp only at y
    revert y
    rcases FcM.loopF bits n P (FcM.goF t bits h' a P) f' u' v' with ⟨w2 | w2,u2,v2⟩
    ·rintro ⟨y1,p0,y2,y3⟩
     exact ⟨y1,n::(ps++p0),by rw [y2];simp,by rw [y3,z3];simp⟩
    ·rintro ⟨y1,y2,y3,y4⟩
     exact ⟨y1,y2,by rw [y3,z3];simp,by omega⟩
 | @seq n ps cs l l' o hn r ih =>
  intro h P u v f g e _
  obtain ⟨h',rfl,gc⟩:=pos g
  unfold unf
  try dsimp only
  rw [hn]
  try dsimp only
  unfold FcM.goF
  rw [hn]
  exact ih h' P u v (fun c hc=>gc c (by rw [hn];exact hc)) e
 | @trO n a b ps l l' o hn r ho ih =>
  intro h P u v f g e _
  obtain ⟨h',rfl,gc⟩:=pos g
  have z:=go ih h' P u v (gc a (by rw [hn];simp [Node.ch])) e
  unfold unf
  try dsimp only
  rw [hn]
  try dsimp only
  unfold FcM.goF
  rw [hn]
  try dsimp only
  revert z
  rcases FcM.goF t bits h' a P u v with ⟨w | w,u',v'⟩
  ·exact fun z=>z
  ·rintro ⟨z1,z2⟩
   cases w with
   | rai=>exact absurd z1 ho
   | _=>exact ⟨z1,z2⟩
 | @trH n a b ps ps2 l l1 l' o hn r r2 ih ih2 =>
  intro h P u v f g e _
  obtain ⟨h',rfl,gc⟩:=pos g
  have z:=go ih h' P u v (gc a (by rw [hn];simp [Node.ch])) e
  unfold unf
  try dsimp only
  rw [hn]
  try dsimp only
  unfold FcM.goF
  rw [hn]
  try dsimp only
  revert z
  rcases FcM.goF t bits h' a P u v with ⟨w | w,u',v'⟩
  ·rintro ⟨z1,_⟩
   cases z1
  ·rintro ⟨z1,z2,z3,z4⟩
   cases z1
   dsimp only
   have y:=go ih2 h' P u' v' (gc b (by rw [hn];simp [Node.ch])) z2
   revert y
   rcases FcM.goF t bits h' b P u' v' with ⟨w2 | w2,u2,v2⟩
   ·rintro ⟨y1,p0,y2,y3⟩
    exact ⟨y1,ps++p0,by rw [y2];simp,by rw [y3,z3];simp⟩
   ·rintro ⟨y1,y2,y3,y4⟩
    exact ⟨y1,y2,by rw [y3,z3];simp,by omega⟩
 | @finW n a b ps l l' hn r ih =>
  intro h P u v f g e _
  obtain ⟨h',rfl,gc⟩:=pos g
  have z:=go ih h' P u v (gc a (by rw [hn];simp [Node.ch])) e
  unfold unf
  try dsimp only
  rw [hn]
  try dsimp only
  unfold FcM.goF
  rw [hn]
  try dsimp only
  revert z
  rcases FcM.goF t bits h' a P u v with ⟨w | w,u',v'⟩
  ·exact fun z=>z
  ·rintro ⟨z1,_⟩
   cases z1
 | @finB n a b ps ps2 l l1 l' w o hn r r2 ho ih ih2 =>
  intro h P u v f g e _
  obtain ⟨h',rfl,gc⟩:=pos g
  have z:=go ih h' P u v (gc a (by rw [hn];simp [Node.ch])) e
  unfold unf
  try dsimp only
  rw [hn]
  try dsimp only
  unfold FcM.goF
  rw [hn]
  try dsimp only
  revert z
  rcases FcM.goF t bits h' a P u v with ⟨w1 | w1,u',v'⟩
  ·rintro ⟨z1,_⟩
   cases z1
  ·rintro ⟨z1,z2,z3,z4⟩
   cases z1
   dsimp only
   have y:=go ih2 h' (P++[(n,w)]) u' v' (gc b (by rw [hn];simp [Node.ch])) z2
   revert y
   rcases FcM.goF t bits h' b (P++[(n,w)]) u' v' with ⟨w2 | w2,u2,v2⟩
   ·rintro ⟨y1,p0,y2,y3⟩
    exact ⟨y1,ps++p0,by rw [y2];simp,by rw [y3,z3];simp⟩
   ·rintro ⟨y1,y2,y3,y4⟩
    unfold FcM.finF
    dsimp only
    rw [if_neg (fun z=>ho (by rw [y1,z]))]
    exact ⟨y1,y2,by rw [y3,z3];simp,by omega⟩
 | @finN n a b ps ps2 l l1 l' w hn r r2 ih ih2 =>
  intro h P u v f g e _
  obtain ⟨h',rfl,gc⟩:=pos g
  have z:=go ih h' P u v (gc a (by rw [hn];simp [Node.ch])) e
  unfold unf
  try dsimp only
  rw [hn]
  try dsimp only
  unfold FcM.goF
  rw [hn]
  try dsimp only
  revert z
  rcases FcM.goF t bits h' a P u v with ⟨w1 | w1,u',v'⟩
  ·rintro ⟨z1,_⟩
   cases z1
  ·rintro ⟨z1,z2,z3,z4⟩
   cases z1
   dsimp only
   have y:=go ih2 h' (P++[(n,w)]) u' v' (gc b (by rw [hn];simp [Node.ch])) z2
   revert y
   rcases FcM.goF t bits h' b (P++[(n,w)]) u' v' with ⟨w2 | w2,u2,v2⟩
   ·rintro ⟨y1,_⟩
    cases y1
   ·rintro ⟨y1,y2,y3,y4⟩
    cases y1
    unfold FcM.finF
    dsimp only
    rw [if_pos rfl]
    exact ⟨rfl,y2,by rw [y3,z3];simp,by omega⟩
 | sNil=>exact fun h P u v _ e=>⟨rfl,e,(List.append_nil v).symm,Nat.le_refl _⟩
 | @sOne c ps ps2 cs l l1 l' o r r2 ih ih2 =>
  intro h P u v g e
  have z:=go ih h P u v (g c List.mem_cons_self) e
  unfold FcM.seqF
  try dsimp only
  rw [if_pos rfl]
  revert z
  rcases FcM.goF t bits h c P u v with ⟨w1 | w1,u',v'⟩
  ·rintro ⟨z1,_⟩
   cases z1
  ·rintro ⟨z1,z2,z3,z4⟩
   cases z1
   have y:=ih2 h P u' v' (fun d hd=>g d (List.mem_cons_of_mem _ hd)) z2
   revert y
   rcases FcM.seqF (fun c=>FcM.goF t bits h c P) cs (.inr .nrm,u',v') with ⟨w2 | w2,u2,v2⟩
   ·rintro ⟨y1,p0,y2,y3⟩
    exact ⟨y1,ps++p0,by rw [y2];simp,by rw [y3,z3];simp⟩
   ·rintro ⟨y1,y2,y3,y4⟩
    exact ⟨y1,y2,by rw [y3,z3];simp,by omega⟩
 | @sOut c ps cs l l' o r ho ih =>
  intro h P u v g e
  have z:=go ih h P u v (g c List.mem_cons_self) e
  unfold FcM.seqF
  try dsimp only
  rw [if_pos rfl]
  revert z
  rcases FcM.goF t bits h c P u v with ⟨w1 | w1,u',v'⟩
  ·intro z
   rw [seqF_out _ cs (.inl w1) u' v' (fun y=>by cases y)]
   exact z
  ·rintro ⟨z1,z2⟩
   rw [seqF_out _ cs (.inr w1) u' v' (fun y=>ho (by rw [z1,Sum.inr.inj y]))]
   exact ⟨z1,z2⟩
end
section
open FcM (Way Node Tab Pd)
section
variable {rows:List Row} {lp:Nat→Nat}
theorem intB_bits (l:List Bool):Bits (intB l):=fun d hd=>by
 obtain ⟨b,_,rfl⟩:=List.mem_map.mp hd
 cases b
 ·exact .inl rfl
 ·exact .inr rfl
theorem bg_none (W:TW rows lp) (G:WgA rows) {p c:Nat} (hp:p<rows.length) (hc:c∈((tabOf rows).nd p).ch) (h:bgN (tabOf rows) p=none):bgN (tabOf rows) c=none:=bgN_not W G hp hc fun before hb=>by rw [h] at hb;cases hb
def bhd (a:Option (List Int)) (b:Option (List Int)):Option (List Int):=a.bind fun x=>b.map (x++·)
theorem bg_try (W:TW rows lp) (G:WgA rows) {p a b:Nat} (hp:p<rows.length) (hd:(tabOf rows).nd p=.tr a b):bgN (tabOf rows) b=bhd (bgN (tabOf rows) p) (lk (tbN (tabOf rows) a) .rai):=by
 have hc:b∈((tabOf rows).nd p).ch:=by rw [hd];simp [Node.ch]
 cases e:bgN (tabOf rows) p with
 | none=>exact bg_none W G hp hc e
 | some x=>exact bgN_fix W G hp e (by rw [hd];simp [bgParts,bhd])
theorem bg_fin (W:TW rows lp) (G:WgA rows) {p a b:Nat} (hp:p<rows.length) (hd:(tabOf rows).nd p=.fin a b):bgN (tabOf rows) b=bhd (bgN (tabOf rows) p) (shortT (tbN (tabOf rows) a)):=by
 have hc:b∈((tabOf rows).nd p).ch:=by rw [hd];simp [Node.ch]
 cases e:bgN (tabOf rows) p with
 | none=>exact bg_none W G hp hc e
 | some x=>exact bgN_fix W G hp e (by rw [hd];simp [bgParts,bhd])
end
end
section
open FcM (Way Node Tab)
inductive Dn (t:Tab):Nat→Nat→Prop
 | rfl (a:Nat):Dn t a a
 | tr {a x y b:Nat} (h:t.nd a=.tr x y) (no:∀ l l' ps,¬ Ewp t (.inl x) l l' (some .rai) ps) (d:Dn t x b):Dn t a b
inductive SqR (t:Tab) (f:Nat→Nat):List Nat→List Nat→Prop
 | nil:SqR t f [] []
 | cons {c c':Nat} {cs cs':List Nat} (d:Dn t c (f c')) (yes:∃ l,Ev t (.inl c) l .nrm∧Bits l) (r:SqR t f cs cs'):SqR t f (c::cs) (c'::cs')
 | stop {c c':Nat} {cs:List Nat} (d:Dn t c (f c')) (no:∀ l l' ps,¬ Ewp t (.inl c) l l' (some .nrm) ps):SqR t f (c::cs) [c']
inductive NdR (t:Tab) (f:Nat→Nat):Node→Node→Prop
 | same {x:Node} (h:x.ch=[]) (hs:∀ l,x≠.seq l):NdR t f x x
 | iff {a b a' b':Nat} (d:Dn t a (f a')) (e:Dn t b (f b')):NdR t f (.iff a b) (.iff a' b')
 | whl {a a':Nat} (d:Dn t a (f a')):NdR t f (.whl a) (.whl a')
 | seq {l l':List Nat} (r:SqR t f l l'):NdR t f (.seq l) (.seq l')
 | tr {a b a' b':Nat} (d:Dn t a (f a')) (e:Dn t b (f b')) (yes:∃ l,Ev t (.inl a) l .rai∧Bits l):NdR t f (.tr a b) (.tr a' b')
 | fin {a b a' b':Nat} (d:Dn t a (f a')) (e:Dn t b (f b')):NdR t f (.fin a b) (.fin a' b')
def Mor (t' t:Tab) (N:Nat) (f:Nat→Nat):Prop:=∀ n,n<N→NdR t f (t.nd (f n)) (t'.nd n)∧∀ c∈(t'.nd n).ch,c<N
def MotM (t:Tab) (N:Nat) (f:Nat→Nat) (l l':List Int) (o:Option Way) (ps:List Nat):Nat ⊕ List Nat→Prop
 | .inl n'=>n'<N→∀ n,Dn t n (f n')→Ewp t (.inl n) l l' o (ps.map f)
 | .inr cs'=>(∀ c∈cs',c<N)→∀ cs,SqR t f cs cs'→Ewp t (.inr cs) l l' o (ps.map f)
theorem dn_up {t:Tab} {l l':List Int} {o:Option Way} {ps:List Nat} {a b:Nat} (d:Dn t a b) (h:Ewp t (.inl b) l l' o ps):Ewp t (.inl a) l l' o ps:=by
 induction d with
 | rfl=>exact h
 | @tr a x y b hd no d ih =>
  have h1:=ih h
  refine .trO hd h1 fun z=>?_
  subst z
  exact no _ _ _ h1
theorem sim {t' t:Tab} {N:Nat} {f:Nat→Nat} (M:Mor t' t N f) {x:Nat ⊕ List Nat} {l l':List Int} {o:Option Way} {ps:List Nat} (h:Ewp t' x l l' o ps):MotM t N f l l' o ps x:=by
 have ndOf_:∀ {n:Nat} {nd:Node},n<N→t'.nd n=nd→NdR t f (t.nd (f n)) nd∧∀ c∈nd.ch,c<N:=fun hn e=>by
  have:=M _ hn
  rwa [e] at this
 induction h with
 | @quiet n l hq =>
  intro hn m d
  refine dn_up d ?_
  obtain ⟨r,_⟩:=M n hn
  generalize e':t'.nd n=y' at r hq
  generalize e:t.nd (f n)=y at r
  cases r with
  | same hc hs =>
   have:=Ewp.quiet (t:=t) (n:=f n) (l:=l) (by rw [e];exact hq)
   rw [e] at this
   exact this
  | iff=>exact hq.elim
  | whl=>exact hq.elim
  | seq=>exact hq.elim
  | tr=>exact hq.elim
  | fin=>exact hq.elim
 | @call0 n l h =>
  intro hn m d
  obtain ⟨r,_⟩:=ndOf_ hn h
  generalize e:t.nd (f n)=z at r
  cases r
  exact dn_up d (.call0 e)
 | @call1 n l h =>
  intro hn m d
  obtain ⟨r,_⟩:=ndOf_ hn h
  generalize e:t.nd (f n)=z at r
  cases r
  exact dn_up d (.call1 e)
 | @ask n h =>
  intro hn m d
  refine dn_up d ?_
  obtain ⟨r,_⟩:=M n hn
  generalize e':t'.nd n=y' at r h
  generalize e:t.nd (f n)=y at r
  cases r with
  | same hc hs=>exact .ask (by rw [e];exact h)
  | iff=>exact .ask (by rw [e]<;>rfl)
  | whl=>exact .ask (by rw [e]<;>rfl)
  | seq=>cases h
  | tr=>cases h
  | fin=>cases h
 | @if0 n a b ps l l' o h r ih =>
  intro hn m d
  obtain ⟨z,c⟩:=ndOf_ hn h
  generalize e:t.nd (f n)=y at z
  cases z with
  | same hc _=>exact absurd hc (by simp [Node.ch])
  | iff d1 d2=>exact dn_up d (.if0 e (ih (c _ (by simp [Node.ch])) _ d1))
 | @if1 n a b ps l l' o h r ih =>
  intro hn m d
  obtain ⟨z,c⟩:=ndOf_ hn h
  generalize e:t.nd (f n)=y at z
  cases z with
  | same hc _=>exact absurd hc (by simp [Node.ch])
  | iff d1 d2=>exact dn_up d (.if1 e (ih (c _ (by simp [Node.ch])) _ d2))
 | @wh0 n a l h =>
  intro hn m d
  obtain ⟨z,c⟩:=ndOf_ hn h
  generalize e:t.nd (f n)=y at z
  cases z with
  | same hc _=>exact absurd hc (by simp [Node.ch])
  | whl d1=>exact dn_up d (.wh0 e)
 | @whW n a ps l l' h r ih =>
  intro hn m d
  obtain ⟨z,c⟩:=ndOf_ hn h
  generalize e:t.nd (f n)=y at z
  cases z with
  | same hc _=>exact absurd hc (by simp [Node.ch])
  | whl d1=>exact dn_up d (.whW e (ih (c _ (by simp [Node.ch])) _ d1))
 | @whA n a ps ps2 l l1 l' w o h r hw r2 ih ih2 =>
  intro hn m d
  obtain ⟨z,c⟩:=ndOf_ hn h
  generalize e:t.nd (f n)=y at z
  cases z with
  | same hc _=>exact absurd hc (by simp [Node.ch])
  | whl d1 =>
   have:=Ewp.whA e (ih (c _ (by simp [Node.ch])) _ d1) hw (ih2 hn _ (.rfl _))
   rw [← List.map_append] at this
   exact dn_up d this
 | @whO n a ps l l' w h r hw ih =>
  intro hn m d
  obtain ⟨z,c⟩:=ndOf_ hn h
  generalize e:t.nd (f n)=y at z
  cases z with
  | same hc _=>exact absurd hc (by simp [Node.ch])
  | whl d1=>exact dn_up d (.whO e (ih (c _ (by simp [Node.ch])) _ d1) hw)
 | @seq n ps cs l l' o h r ih =>
  intro hn m d
  obtain ⟨z,c⟩:=ndOf_ hn h
  generalize e:t.nd (f n)=y at z
  cases z with
  | same _ hs=>exact absurd rfl (hs _)
  | seq r=>exact dn_up d (.seq e (ih c _ r))
 | @trO n a b ps l l' o h r ho ih =>
  intro hn m d
  obtain ⟨z,c⟩:=ndOf_ hn h
  generalize e:t.nd (f n)=y at z
  cases z with
  | same hc _=>exact absurd hc (by simp [Node.ch])
  | tr d1 d2 _=>exact dn_up d (.trO e (ih (c _ (by simp [Node.ch])) _ d1) ho)
 | @trH n a b ps ps2 l l1 l' o h r r2 ih ih2 =>
  intro hn m d
  obtain ⟨z,c⟩:=ndOf_ hn h
  generalize e:t.nd (f n)=y at z
  cases z with
  | same hc _=>exact absurd hc (by simp [Node.ch])
  | tr d1 d2 _ =>
   rw [List.map_append]
   exact dn_up d (.trH e (ih (c _ (by simp [Node.ch])) _ d1) (ih2 (c _ (by simp [Node.ch])) _ d2))
 | @finW n a b ps l l' h r ih =>
  intro hn m d
  obtain ⟨z,c⟩:=ndOf_ hn h
  generalize e:t.nd (f n)=y at z
  cases z with
  | same hc _=>exact absurd hc (by simp [Node.ch])
  | fin d1 d2=>exact dn_up d (.finW e (ih (c _ (by simp [Node.ch])) _ d1))
 | @finB n a b ps ps2 l l1 l' w o h r r2 ho ih ih2 =>
  intro hn m d
  obtain ⟨z,c⟩:=ndOf_ hn h
  generalize e:t.nd (f n)=y at z
  cases z with
  | same hc _=>exact absurd hc (by simp [Node.ch])
  | fin d1 d2 =>
   rw [List.map_append]
   exact dn_up d (.finB e (ih (c _ (by simp [Node.ch])) _ d1) (ih2 (c _ (by simp [Node.ch])) _ d2) ho)
 | @finN n a b ps ps2 l l1 l' w h r r2 ih ih2 =>
  intro hn m d
  obtain ⟨z,c⟩:=ndOf_ hn h
  generalize e:t.nd (f n)=y at z
  cases z with
  | same hc _=>exact absurd hc (by simp [Node.ch])
  | fin d1 d2 =>
   rw [List.map_append,List.map_append]
   exact dn_up d (.finN e (ih (c _ (by simp [Node.ch])) _ d1) (ih2 (c _ (by simp [Node.ch])) _ d2))
 | sNil =>
  intro _ cs r
  cases r
  exact .sNil
 | @sOne c ps ps2 cs l l1 l' o r r2 ih ih2 =>
  intro hc cs0 s
  rw [List.map_append]
  cases s with
  | cons d _ s=>exact .sOne (ih (hc _ List.mem_cons_self) _ d) (ih2 (fun x hx=>hc x (List.mem_cons_of_mem _ hx)) _ s)
  | stop d no=>exact absurd (ih (hc _ List.mem_cons_self) _ d) (no _ _ _)
 | @sOut c ps cs l l' o r ho ih =>
  intro hc cs0 s
  cases s with
  | cons d _ s=>exact .sOut (ih (hc _ List.mem_cons_self) _ d) ho
  | stop d no=>exact .sOut (ih (hc _ List.mem_cons_self) _ d) ho
end
section
open FcM (Way Node Tab)
theorem ev_ex {t:Tab}:∀ (h n:Nat),FcM.Hg t h n→∃ l w,Ev t (.inl n) l w∧Bits l
 | 0,n,g=>nomatch g
 | h + 1,n,g=>by
  have kids:∀ c∈(t.nd n).ch,∃ l w,Ev t (.inl c) l w∧Bits l:=fun c hc=>by
   cases g with
   | mk r=>exact ev_ex h c (r c hc)
  have b0:Bits []:=fun x hx=>nomatch hx
  have b1:Bits [0]:=fun x hx=>.inl (List.mem_singleton.mp hx)
  have app:∀ {a b:List Int},Bits a→Bits b→Bits (a++b):=fun ha hb x hx=>(List.mem_append.mp hx).elim (ha x) (hb x)
  cases e:t.nd n with
  | do_=>exact ⟨_,_,.do_ e,b0⟩
  | call=>exact ⟨_,_,.call0 e,b1⟩
  | ret=>exact ⟨_,_,.ret e,b0⟩
  | rai=>exact ⟨_,_,.rai e,b0⟩
  | brk k=>exact ⟨_,_,.brk e,b0⟩
  | cnt k=>exact ⟨_,_,.cnt e,b0⟩
  | whl a=>exact ⟨_,_,.wh0 e,b1⟩
  | iff a b =>
   obtain ⟨l,w,r,hb⟩:=kids a (by rw [e];simp [Node.ch])
   exact ⟨_,_,.if0 e r,app b1 hb⟩
  | tr a b =>
   obtain ⟨l,w,r,hb⟩:=kids a (by rw [e];simp [Node.ch])
   by_cases hw:w=.rai
   ·subst hw
    obtain ⟨l2,w2,r2,hb2⟩:=kids b (by rw [e];simp [Node.ch])
    exact ⟨_,_,.trH e r r2,app hb hb2⟩
   ·exact ⟨_,_,.trO e r hw,hb⟩
  | fin a b =>
   obtain ⟨l,w,r,hb⟩:=kids a (by rw [e];simp [Node.ch])
   obtain ⟨l2,w2,r2,hb2⟩:=kids b (by rw [e];simp [Node.ch])
   by_cases hw:w2=.nrm
   ·subst hw
    exact ⟨_,_,.finN e r r2,app hb hb2⟩
   ·exact ⟨_,_,.finO e r r2 hw,app hb hb2⟩
  | seq cs =>
   have key:∀ cs:List Nat,(∀ c∈cs,∃ l w,Ev t (.inl c) l w∧Bits l)→∃ l w,Ev t (.inr cs) l w∧Bits l:=by
    intro cs
    induction cs with
    | nil=>exact fun _=>⟨_,_,.sNil,b0⟩
    | cons c cs ih =>
     intro k
     obtain ⟨l,w,r,hb⟩:=k c List.mem_cons_self
     by_cases hw:w=.nrm
     ·subst hw
      obtain ⟨l2,w2,r2,hb2⟩:=ih fun x hx=>k x (List.mem_cons_of_mem _ hx)
      exact ⟨_,_,.sOne r r2,app hb hb2⟩
     ·exact ⟨_,_,.sOut r hw,hb⟩
   obtain ⟨l,w,r,hb⟩:=key cs fun c hc=>kids c (by rw [e];exact hc)
   exact ⟨_,_,.seq e r,hb⟩
end
section
open FcM (Way Node Tab)
theorem wy {t' t:Tab} {N:Nat} {f:Nat→Nat} (M:Mor t' t N f) {m n' n:Nat} (hg:FcM.Hg t' m n') (hn:n'<N) (d:Dn t n (f n')) {l:List Int} (hb:Bits l):∃ L o ps,Ewp t (.inl n) l L o (ps.map f)∧Ewp t' (.inl n') l L o ps:=by
 obtain ⟨L,o,k,ew⟩:=ew_all hg l hb
 obtain ⟨ps,r⟩:=ew_ewp ew
 exact ⟨L,o,ps,sim M r hn n d,r⟩
theorem wy_to {t' t:Tab} {N:Nat} {f:Nat→Nat} (M:Mor t' t N f) {m n' n:Nat} (hg:FcM.Hg t' m n') (hn:n'<N) (d:Dn t n (f n')) {l:List Int} {w:Way} (e:Ev t (.inl n) l w) (hb:Bits l):Ev t' (.inl n') l w:=by
 obtain ⟨L,o,ps,r,r'⟩:=wy M hg hn d hb
 have z:=ewp_det (rest:=[]) e (by rw [List.append_nil];exact r)
 obtain ⟨rfl,rfl⟩:=z
 obtain ⟨p,e1,e2⟩:=ew_ev (ewp_ew r') w rfl
 rw [List.append_nil] at e1
 rw [e1]
 exact e2
structure MorB (rows' rows:List Row) (lp':Nat→Nat) (f:Nat→Nat):Prop where
 m:Mor (tabOf rows') (tabOf rows) rows'.length f
 w:TW rows' lp'
 g:WgA rows'
 h:∀ n,n<rows'.length→FcM.Hg (tabOf rows') 400 n
 pn:∀ n,n<rows'.length→(tabOf rows').pr n=none→n=0
theorem lk_some {rows:List Row} {lp:Nat→Nat} (W:TW rows lp) (G:WgA rows) {n:Nat} (hn:n<rows.length) {l:List Int} {w:Way} (e:Ev (tabOf rows) (.inl n) l w):∃ x,lk (tbN (tabOf rows) n) w=some x:=by
 exact (tb_best W G hn).ex w l e
theorem MorB.sq {rows' rows:List Row} {lp':Nat→Nat} {f:Nat→Nat} (B:MorB rows' rows lp' f) {n:Nat} {l l':List Nat} (s:SqR (tabOf rows) f l l'):∀ (b:List Int),n∈l'→(∀ c∈l',c<rows'.length)→∃ y,(n,some y)∈bgSeq (tbN (tabOf rows')) l' b:=by
 induction s with
 | nil=>exact fun _ h=>nomatch h
 | @cons c c' cs cs' d yes r ih =>
  intro b hn hl
  unfold bgSeq
  rcases List.mem_cons.mp hn with rfl | hn
  ·exact ⟨b,List.mem_cons_self⟩
  ·obtain ⟨l,ev,hb⟩:=yes
   have hc:=hl c' List.mem_cons_self
   obtain ⟨x,hx⟩:=lk_some B.w B.g hc (wy_to B.m (B.h c' hc) hc d ev hb)
   rw [hx]
   obtain ⟨y,hy⟩:=ih (b++x) hn fun z hz=>hl z (List.mem_cons_of_mem _ hz)
   exact ⟨y,List.mem_cons_of_mem _ hy⟩
 | @stop c c' cs d no =>
  intro b hn _
  unfold bgSeq
  rw [List.mem_singleton.mp hn]
  exact ⟨b,List.mem_cons_self⟩
theorem MorB.alive {rows' rows:List Row} {lp':Nat→Nat} {f:Nat→Nat} (B:MorB rows' rows lp' f):∀ n,n<rows'.length→(bgN (tabOf rows') n).isSome=true:=by
 have W:=B.w
 have G:=B.g
 intro n
 induction n using Nat.strongRecOn with
 | ind n ih =>
  intro hn
  cases hp:(tabOf rows').pr n with
  | none =>
   have:=B.pn n hn hp
   subst this
   rw [bgN_zero W G]<;>rfl
  | some p =>
   obtain ⟨rn,hrn⟩:=row_at hn
   have hpr:rn.par=some p:=by
    have z:rows'[n]?.bind Row.par=some p:=hp
    rw [hrn] at z
    exact z
   obtain ⟨plt,hpl,hc⟩:=W.pu n rn p hrn hpr
   have ip:=ih p plt hpl
   obtain ⟨b,hb⟩:=Option.isSome_iff_exists.mp ip
   obtain ⟨r,_⟩:=B.m p hpl
   generalize e':(tabOf rows').nd p=y' at r hc
   generalize e:(tabOf rows).nd (f p)=y at r
   cases r with
   | same h0 _=>rw [h0] at hc;cases hc
   | @iff a b' a' c' d1 d2 =>
    rcases List.mem_cons.mp hc with rfl | hc
    ·rw [bgN_fix W G hpl hb (v:=some (b++[0])) (by rw [e'];simp [bgParts])]<;>rfl
    ·rw [List.mem_singleton.mp hc,bgN_fix W G hpl hb (v:=some (b++[1])) (by rw [e'];simp [bgParts])]<;>rfl
   | @whl a a' d1 =>
    rw [List.mem_singleton.mp hc,bgN_fix W G hpl hb (v:=some (b++[1])) (by rw [e'];simp [bgParts])]<;>rfl
   | @tr a b' a' c' d1 d2 yes =>
    rcases List.mem_cons.mp hc with rfl | hc
    ·rw [bgN_fix W G hpl hb (v:=some b) (by rw [e'];simp [bgParts])]<;>rfl
    ·obtain ⟨l,ev,hl⟩:=yes
     have ha:a'<rows'.length:=(W.wf.dn p hpl a' (by rw [e'];simp [Node.ch])).2.1
     obtain ⟨x,hx⟩:=lk_some W G ha (wy_to B.m (B.h a' ha) ha d1 ev hl)
     rw [List.mem_singleton.mp hc,bg_try W G hpl e',hb,hx]<;>rfl
   | @fin a b' a' c' d1 d2 =>
    rcases List.mem_cons.mp hc with rfl | hc
    ·rw [bgN_fix W G hpl hb (v:=some b) (by rw [e'];simp [bgParts])]<;>rfl
    ·have ha:a'<rows'.length:=(W.wf.dn p hpl a' (by rw [e'];simp [Node.ch])).2.1
     obtain ⟨l,w,ev,_⟩:=ev_ex 400 a' (B.h a' ha)
     obtain ⟨x,hx⟩:=lk_some W G ha ev
     obtain ⟨s,_,hs,_⟩:=short_best (ndk_all W.wf ha) (tb_best W G ha) (fun z=>by rw [z] at hx;cases hx)
     rw [List.mem_singleton.mp hc,bg_fin W G hpl e',hb,hs]<;>rfl
   | @seq l l' s =>
    have hc':∀ c∈l',c<rows'.length:=fun c hc=>(W.wf.dn p hpl c (by rw [e'];exact hc)).2.1
    obtain ⟨y,hy⟩:=B.sq s b hc hc'
    rw [bgN_fix W G hpl hb (v:=some y) (by rw [e'];exact hy)]<;>rfl
end
section
open FcM (Way Node Tab)
theorem mem_dd {rows:List Row} {c:Nat}:c∈ddN rows ↔ c<rows.length∧bgN (tabOf rows) c=none:=by
 unfold ddN
 rw [List.mem_filter,List.mem_range,Option.isNone_iff_eq_none]
structure AllK (rows:List Row) (lp:Nat→Nat):Prop where
 w:TW rows lp
 g:WgA rows
 h:∀ n,n<rows.length→FcM.Hg (tabOf rows) 400 n
 pn:∀ n,n<rows.length→(tabOf rows).pr n=none→n=0
def alc (rows:List Row) (n:Nat):List Nat:=match rows[n]? with
 | none=>[]
 | some r=>r.ch.filter fun c=>decide (c ∉ ddN rows)
def Cut (rows:List Row) (n:Nat):Prop:=∃ r a b,rows[n]?=some r∧kindD r.d="try"∧r.ch=[a,b]∧b∈ddN rows
theorem kid_lt {rows:List Row} {lp:Nat→Nat} (X:AllK rows lp) {n c:Nat} {r:Row} (hr:rows[n]?=some r) (hc:c∈r.ch):n<c∧c<rows.length:=by
 have hn:=(List.getElem?_eq_some_iff.mp hr).1
 have:=X.w.wf.dn n hn c (by rw [tab_nd hr,← (X.w.sv n r hr).2.2];exact hc)
 exact ⟨this.1,this.2.1⟩
theorem all_alive {rows:List Row} {lp:Nat→Nat} (X:AllK rows lp) {n:Nat} {r:Row} (hr:rows[n]?=some r) (al:(bgN (tabOf rows) n).isSome=true) (hk:kindD r.d≠"seq") (nc:¬ Cut rows n):alc rows n=r.ch:=by
 have hn:=(List.getElem?_eq_some_iff.mp hr).1
 obtain ⟨sv,hl,hc⟩:=X.w.sv n r hr
 obtain ⟨b,hb⟩:=Option.isSome_iff_exists.mp al
 have W:=X.w
 have G:=X.g
 have e:alc rows n=r.ch.filter fun c=>decide (c ∉ ddN rows):=by unfold alc;rw [hr]
 rw [e,List.filter_eq_self]
 intro c hcm
 refine decide_eq_true fun hd=>?_
 have hbn:=(mem_dd.mp hd).2
 have nd:=tab_nd hr
 have fix:∀ {v:Option (List Int)},(c,v)∈bgParts (tbN (tabOf rows)) (ndOf r) b→v=none:=fun {v} h=>by
  rw [← bgN_fix W G hn hb (c:=c) (v:=v) (by rw [nd];exact h)]
  exact hbn
 have hcn:=hcm
 rw [hc] at hcn
 cases e2:ndOf r with
 | iff x y =>
  rw [e2] at hcn fix
  rcases List.mem_cons.mp hcn with rfl | hcn
  ·exact nomatch fix (v:=some (b++[0])) (by simp [bgParts])
  ·rw [List.mem_singleton.mp hcn] at fix
   exact nomatch fix (v:=some (b++[1])) (by simp [bgParts])
 | whl x =>
  rw [e2] at hcn fix
  rw [List.mem_singleton.mp hcn] at fix
  exact nomatch fix (v:=some (b++[1])) (by simp [bgParts])
 | tr x y =>
  rw [e2] at hcn fix hc
  rcases List.mem_cons.mp hcn with rfl | hcn
  ·exact nomatch fix (v:=some b) (by simp [bgParts])
  ·have kd:=kd_nd sv
   rw [e2] at kd
   rw [List.mem_singleton.mp hcn] at hd
   exact nc ⟨r,x,y,hr,kd,hc,hd⟩
 | fin x y =>
  rw [e2] at hcn fix
  rcases List.mem_cons.mp hcn with rfl | hcn
  ·exact nomatch fix (v:=some b) (by simp [bgParts])
  ·have hx:x<rows.length:=(W.wf.dn n hn x (by rw [nd,e2];simp [Node.ch])).2.1
   obtain ⟨l,w,ev,_⟩:=ev_ex 400 x (X.h x hx)
   obtain ⟨z,hz⟩:=lk_some W G hx ev
   obtain ⟨s,_,hs,_⟩:=short_best (ndk_all W.wf hx) (tb_best W G hx) (fun y=>by rw [y] at hz;cases hz)
   have:=bg_fin W G hn (a:=x) (b:=y) (by rw [nd,e2])
   rw [List.mem_singleton.mp hcn,this,hb,hs] at hbn
   cases hbn
 | seq l =>
  have kd:=kd_nd sv
  rw [e2] at kd
  exact hk kd
 | do_=>rw [e2] at hcn;exact nomatch hcn
 | call=>rw [e2] at hcn;exact nomatch hcn
 | ret=>rw [e2] at hcn;exact nomatch hcn
 | rai=>rw [e2] at hcn;exact nomatch hcn
 | brk k=>rw [e2] at hcn;exact nomatch hcn
 | cnt k=>rw [e2] at hcn;exact nomatch hcn
theorem ev_bits67 {t:Tab} {x:Nat ⊕ List Nat} {l:List Int} {w:Way} (h:Ev t x l w):∀ y∈l,y=0∨y=1:=by
 have b0:∀ y∈([]:List Int),y=0∨y=1:=fun y hy=>nomatch hy
 have c0:∀ {l:List Int},(∀ y∈l,y=0∨y=1)→∀ y∈(0:Int)::l,y=0∨y=1:=fun h y hy=>(List.mem_cons.mp hy).elim .inl (h y)
 have c1:∀ {l:List Int},(∀ y∈l,y=0∨y=1)→∀ y∈(1:Int)::l,y=0∨y=1:=fun h y hy=>(List.mem_cons.mp hy).elim .inr (h y)
 have ap:∀ {a b:List Int},(∀ y∈a,y=0∨y=1)→(∀ y∈b,y=0∨y=1)→∀ y∈a++b,y=0∨y=1:=fun h k y hy=>(List.mem_append.mp hy).elim (h y) (k y)
 induction h with
 | do_=>exact b0
 | call0=>exact c0 b0
 | call1=>exact c1 b0
 | ret=>exact b0
 | rai=>exact b0
 | brk=>exact b0
 | cnt=>exact b0
 | if0 _ _ ih=>exact c0 ih
 | if1 _ _ ih=>exact c1 ih
 | wh0=>exact c0 b0
 | whA _ _ _ _ ih ih2=>exact c1 (ap ih ih2)
 | whO _ _ _ ih=>exact c1 ih
 | seq _ _ ih=>exact ih
 | trO _ _ _ ih=>exact ih
 | trH _ _ _ ih ih2=>exact ap ih ih2
 | finN _ _ _ ih ih2=>exact ap ih ih2
 | _=>first | exact b0 | assumption | (apply ap<;>assumption)
theorem no_way {rows:List Row} {lp:Nat→Nat} (X:AllK rows lp) {c:Nat} (hc:c<rows.length) {w:Way} (h:lk (tbN (tabOf rows) c) w=none):∀ l l' ps,¬ Ewp (tabOf rows) (.inl c) l l' (some w) ps:=fun l l' ps e=>by
 obtain ⟨p,_,ev⟩:=ew_ev (ewp_ew e) w rfl
 obtain ⟨x,hx⟩:=lk_some X.w X.g hc ev
 rw [h] at hx
 cases hx
theorem has_way {rows:List Row} {lp:Nat→Nat} (X:AllK rows lp) {c:Nat} (hc:c<rows.length) {w:Way} {x:List Int} (h:lk (tbN (tabOf rows) c) w=some x):∃ l,Ev (tabOf rows) (.inl c) l w∧Bits l :=
 ⟨x,((tb_best X.w X.g hc).mn _ _ h).1,fun y hy=>ev_bits67 ((tb_best X.w X.g hc).mn _ _ h).1 y hy⟩
theorem sq_make {rows:List Row} {lp:Nat→Nat} (X:AllK rows lp) {f:Nat→Nat}:∀ (cs:List Nat) (b:List Int),cs.Nodup→(∀ c∈cs,c<rows.length)→(∀ c v,(c,v)∈bgSeq (tbN (tabOf rows)) cs b→bgN (tabOf rows) c=v)→(∀ c∈cs,(∀ v,(c,v) ∉ bgSeq (tbN (tabOf rows)) cs b)→bgN (tabOf rows) c=none) →
  ∀ cs',Paired (fun c c'=>Dn (tabOf rows) c (f c')) (cs.filter fun c=>decide (c ∉ ddN rows)) cs'→SqR (tabOf rows) f cs cs'
 | [],_,_,_,_,_,cs',p=>by
  cases p
  exact .nil
 | c::cs,b,nd,hl,h1,h2,cs',p=>by
  obtain ⟨nc,nd⟩:=List.nodup_cons.mp nd
  have hc:=hl c List.mem_cons_self
  have b1:bgN (tabOf rows) c=some b:=h1 c (some b) (by unfold bgSeq;exact List.mem_cons_self)
  rw [List.filter_cons_of_pos (by rw [decide_eq_true_eq,mem_dd];exact fun z=>by rw [b1] at z;exact nomatch z.2)] at p
  cases p with
  | @cons _ c' _ cs2 d q =>
  cases e:lk (tbN (tabOf rows) c) .nrm with
  | none =>
   have e2:cs.filter (fun c=>decide (c ∉ ddN rows))=[]:=by
    rw [List.filter_eq_nil_iff]
    intro z hz
    rw [decide_eq_true_eq,Classical.not_not,mem_dd]
    refine ⟨hl z (List.mem_cons_of_mem _ hz),h2 z (List.mem_cons_of_mem _ hz) fun v hv=>?_⟩
    unfold bgSeq at hv
    rw [e] at hv
    have:=List.mem_singleton.mp hv
    injection this with this _
    exact nc (this ▸ hz)
   rw [e2] at q
   cases q
   exact .stop d (no_way X hc e)
  | some x =>
   refine .cons d (has_way X hc e) (sq_make X cs (b++x) nd (fun z hz=>hl z (List.mem_cons_of_mem _ hz)) (fun z v hz=>h1 z v ?_) (fun z hz hno=>h2 z (List.mem_cons_of_mem _ hz) fun v hv=>?_) cs2 q)
   ·unfold bgSeq
    rw [e]
    exact List.mem_cons_of_mem _ hz
   ·unfold bgSeq at hv
    rw [e] at hv
    rcases List.mem_cons.mp hv with y | y
    ·injection y with y _
     exact nc (y ▸ hz)
    ·exact hno v y
end
section
open FcM (Way Node Tab)
def realF (rows:List Row):Nat→Nat→Nat
 | 0,n=>n
 | k + 1,n=>match rows[n]? with
  | none=>n
  | some r=>if kindD r.d="try"∧r.ch.getD 1 0∈ddN rows then realF rows k (r.ch.getD 0 0) else n
def realN (rows:List Row) (n:Nat):Nat:=realF rows (rows.length - n) n
theorem up_of {rows:List Row} {lp:Nat→Nat} (X:AllK rows lp):UpR rows where
 up:=fun n r hr c hc=>kid_lt X hr hc
 two:=fun n r hr hk=>by
  obtain ⟨sv,hl,_⟩:=X.w.sv n r hr
  have:r.ch.length=2:=by
   rw [hl]
   clear hr hl
   rcases r with ⟨d,par,ch⟩
   have sv:SV (lp n:Int) d:=sv
   have hk:kindD d="try":=hk
   show (partsD d).length=2
   cases sv with
   | do_ x=>exact absurd (show ("do":Str)="try" from hk) (by decide)
   | call x=>exact absurd (show ("call":Str)="try" from hk) (by decide)
   | iff x a b=>rfl
   | whl x a=>exact absurd (show ("while":Str)="try" from hk) (by decide)
   | seq p ps=>exact absurd (show ("seq":Str)="try" from hk) (by decide)
   | brk n h1 h2=>exact absurd (show ("break":Str)="try" from hk) (by decide)
   | cnt n h1 h2=>exact absurd (show ("continue":Str)="try" from hk) (by decide)
   | ret=>exact absurd (show ("return":Str)="try" from hk) (by decide)
   | rai=>exact absurd (show ("raise":Str)="try" from hk) (by decide)
   | tr a b=>rfl
   | fin a b=>rfl
  exact len_two this
 dp:=fun n r hr c hc=>by
  obtain ⟨sv,_,_⟩:=X.w.sv n r hr
  obtain ⟨j,hj⟩:=List.getElem?_of_mem hc
  obtain ⟨r',h1,h2⟩:=X.w.pr n r hr j c hj
  exact ⟨r',h1,parts_lt67 sv _ (List.mem_of_getElem? h2)⟩
theorem real_ok {rows:List Row} {lp:Nat→Nat} (X:AllK rows lp):∀ (k n:Nat),rows.length - n≤k→n<rows.length→(bgN (tabOf rows) n).isSome=true→realF rows k n<rows.length∧(bgN (tabOf rows) (realF rows k n)).isSome=true∧Dn (tabOf rows) n (realF rows k n)∧¬ Cut rows (realF rows k n)∧cutN rows (ddN rows) n=cutN rows (ddN rows) (realF rows k n)
 | 0,n,h,hn,_=>by omega
 | k + 1,n,h,hn,al=>by
  have U:=up_of X
  obtain ⟨r,hr⟩:=row_at hn
  unfold realF
  rw [hr]
  dsimp only
  by_cases z:kindD r.d="try"∧r.ch.getD 1 0∈ddN rows
  ·rw [if_pos z]
   obtain ⟨a,b,e⟩:=U.two n r hr z.1
   have ka:=kid_lt X hr (c:=a) (by rw [e];simp)
   have hb:b∈ddN rows:=by have:=z.2;rw [e] at this;exact this
   have nd:(tabOf rows).nd n=.tr a b:=by
    rw [tab_nd hr]
    have kd:=kd_nd (X.w.sv n r hr).1
    have hc:=(X.w.sv n r hr).2.2
    rw [z.1] at kd
    cases e2:ndOf r<;>rw [e2] at kd hc<;>first | (exact absurd kd (by decide)) | (exact absurd (show ("try":Str)="break" from kd) (by decide)) | (exact absurd (show ("try":Str)="continue" from kd) (by decide)) | (exact absurd (show ("try":Str)="if" from kd) (by decide)) | (exact absurd (show ("try":Str)="while" from kd) (by decide)) | (exact absurd (show ("try":Str)="seq" from kd) (by decide)) | (exact absurd (show ("try":Str)="final" from kd) (by decide)) | skip
    rw [e] at hc
    injection hc with h1 h2
    injection h2 with h2 _
    rw [h1,h2]
   obtain ⟨x,hx⟩:=Option.isSome_iff_exists.mp al
   have ala:(bgN (tabOf rows) a).isSome=true:=by
    rw [bgN_fix X.w X.g hn hx (c:=a) (v:=some x) (by rw [nd];simp [bgParts])]<;>rfl
   have nor:lk (tbN (tabOf rows) a) .rai=none:=by
    have h1:=bg_try X.w X.g hn nd
    rw [(mem_dd.mp hb).2,hx] at h1
    cases e3:lk (tbN (tabOf rows) a) .rai with
    | none=>rfl
    | some y=>rw [e3] at h1;cases h1
   have ea:r.ch.getD 0 0=a:=by rw [e]<;>rfl
   rw [ea]
   obtain ⟨g1,g2,g3,g4,g5⟩:=real_ok X k a (by omega) ka.2 ala
   exact ⟨g1,g2,.tr nd (no_way X ka.2 nor) g3,g4,by rw [cut_try U hr z.1 e hb];exact g5⟩
  ·rw [if_neg z]
   refine ⟨hn,al,.rfl _,?_,rfl⟩
   rintro ⟨r2,a,b,h1,h2,h3,h4⟩
   rw [hr] at h1
   cases h1
   exact z ⟨h2,by rw [h3];exact h4⟩
def fF (rows' rows:List Row):Nat→Nat→Nat
 | 0,_=>0
 | k + 1,n=>match rows'[n]? with
  | none=>0
  | some r=>match r.par with
   | none=>realN rows 0
   | some p=>realN rows ((alc rows (fF rows' rows k p)).getD (((rows'[p]?.map Row.ch).getD []).idxOf n) 0)
def fN (rows' rows:List Row) (n:Nat):Nat:=fF rows' rows (n + 1) n
theorem fF_fuel {rows' rows:List Row} {lp':Nat→Nat} (X:AllK rows' lp'):∀ (k k' n:Nat),n<k→n<k'→fF rows' rows k n=fF rows' rows k' n
 | 0,_,n,h,_=>by omega
 | _,0,n,_,h=>by omega
 | k + 1,k' + 1,n,h,h'=>by
  unfold fF
  cases hr:rows'[n]? with
  | none=>rfl
  | some r =>
   dsimp only
   cases hp:r.par with
   | none=>rfl
   | some p =>
    dsimp only
    have:=(X.w.pu n r p hr hp).1
    rw [fF_fuel X k k' p (by omega) (by omega)]
theorem fN_root {rows' rows:List Row} {lp':Nat→Nat} {r:Row} (hr:rows'[0]?=some r) (hp:r.par=none):fN rows' rows 0=realN rows 0:=by
 unfold fN fF
 rw [hr]
 dsimp only
 rw [hp]
theorem fN_kid {rows' rows:List Row} {lp':Nat→Nat} (X:AllK rows' lp') {p n:Nat} {r rp:Row} (hr:rows'[n]?=some r) (hp:r.par=some p) (hrp:rows'[p]?=some rp):fN rows' rows n=realN rows ((alc rows (fN rows' rows p)).getD (rp.ch.idxOf n) 0):=by
 have:=(X.w.pu n r p hr hp).1
 conv=>lhs;unfold fN fF
 rw [hr]
 dsimp only
 rw [hp]
 dsimp only
 rw [hrp]
 unfold fN
 rw [fF_fuel X n (p + 1) p (by omega) (by omega)]
 rfl
end
section
open FcM (Way Node Tab)
theorem parts_mk {l:Int} {d:PyData} (sv:SV l d) {es:List PyData} (h:(kindD d="seq"∧es.length≤401)∨(kindD d≠"seq"∧es.length=(partsD d).length)):partsD (mkD d es)=es:=by
 have no:∀ {k:Str},kindD d=k→k≠"seq"→es.length=(partsD d).length:=fun {k} hk hn=>by
  rcases h with ⟨z,_⟩ | ⟨_,z⟩
  ·exact absurd (hk.symm.trans z) hn
  ·exact z
 cases sv with
 | do_ x =>
  obtain rfl:es=[]:=List.length_eq_zero_iff.mp (no rfl (show ("do":Str)≠"seq" by decide))
  rfl
 | call x =>
  obtain rfl:es=[]:=List.length_eq_zero_iff.mp (no rfl (show ("call":Str)≠"seq" by decide))
  rfl
 | iff x a b =>
  have:=no rfl (show ("if":Str)≠"seq" by decide)
  match es,this with
  | [_,_],_=>rfl
 | whl x a =>
  have:=no rfl (show ("while":Str)≠"seq" by decide)
  match es,this with
  | [_],_=>rfl
 | seq p ps =>
  rcases h with ⟨_,z⟩ | ⟨z,_⟩
  ·exact List.take_of_length_le z
  ·exact absurd rfl z
 | brk n h1 h2 =>
  obtain rfl:es=[]:=List.length_eq_zero_iff.mp (no rfl (show ("break":Str)≠"seq" by decide))
  rfl
 | cnt n h1 h2 =>
  obtain rfl:es=[]:=List.length_eq_zero_iff.mp (no rfl (show ("continue":Str)≠"seq" by decide))
  rfl
 | ret =>
  obtain rfl:es=[]:=List.length_eq_zero_iff.mp (no rfl (show ("return":Str)≠"seq" by decide))
  rfl
 | rai =>
  obtain rfl:es=[]:=List.length_eq_zero_iff.mp (no rfl (show ("raise":Str)≠"seq" by decide))
  rfl
 | tr a b =>
  have:=no rfl (show ("try":Str)≠"seq" by decide)
  match es,this with
  | [_,_],_=>rfl
 | fin a b =>
  have:=no rfl (show ("final":Str)≠"seq" by decide)
  match es,this with
  | [_,_],_=>rfl
theorem kind_mk {l:Int} {d:PyData} (sv:SV l d) (es:List PyData):kindD (mkD d es)=kindD d:=by
 cases sv<;>rfl
theorem mk_nil {l:Int} {d:PyData} (sv:SV l d) (h:partsD d=[]):mkD d []=d:=by
 cases sv with
 | iff x a b=>cases h
 | whl x a=>cases h
 | seq p ps=>cases h
 | tr a b=>cases h
 | fin a b=>cases h
 | _=>rfl
structure DatM (rows' rows:List Row) (n:Nat) (r' r:Row):Prop where
 h':rows'[n]?=some r'
 h:rows[fN rows' rows n]?=some r
 al:(bgN (tabOf rows) (fN rows' rows n)).isSome=true
 nc:¬ Cut rows (fN rows' rows n)
 d:r'.d=mkD r.d ((alc rows (fN rows' rows n)).map (cutN rows (ddN rows)))
theorem alc_fit {rows:List Row} {lp:Nat→Nat} (X:AllK rows lp) {n:Nat} {r:Row} (hr:rows[n]?=some r) (al:(bgN (tabOf rows) n).isSome=true) (nc:¬ Cut rows n):(kindD r.d="seq"∧(alc rows n).length≤401)∨(kindD r.d≠"seq"∧(alc rows n).length=(partsD r.d).length):=by
 by_cases hk:kindD r.d="seq"
 ·refine .inl ⟨hk,?_⟩
  have e:alc rows n=r.ch.filter fun c=>decide (c ∉ ddN rows):=by unfold alc;rw [hr]
  rw [e]
  have h1:=List.length_filter_le (fun c=>decide (c ∉ ddN rows)) r.ch
  have h2:=(X.w.sv n r hr).2.1
  have h3:=parts_401p (X.w.sv n r hr).1
  omega
 ·refine .inr ⟨hk,?_⟩
  rw [all_alive X hr al hk nc,(X.w.sv n r hr).2.1]
theorem DatM.parts {rows' rows:List Row} {lp:Nat→Nat} (X:AllK rows lp) {n:Nat} {r' r:Row} (D:DatM rows' rows n r' r):partsD r'.d=(alc rows (fN rows' rows n)).map (cutN rows (ddN rows)):=by
 rw [D.d]
 refine parts_mk (X.w.sv _ r D.h).1 ?_
 rw [List.length_map]
 exact alc_fit X D.h D.al D.nc
theorem alc_mem {rows:List Row} {lp:Nat→Nat} (X:AllK rows lp) {n c:Nat} (h:c∈alc rows n):c<rows.length∧(bgN (tabOf rows) c).isSome=true:=by
 unfold alc at h
 cases hr:rows[n]? with
 | none=>rw [hr] at h;exact nomatch h
 | some r =>
  rw [hr] at h
  obtain ⟨h1,h2⟩:=List.mem_filter.mp h
  have lt:=(kid_lt X hr h1).2
  have h2:=of_decide_eq_true h2
  rw [mem_dd] at h2
  refine ⟨lt,?_⟩
  cases e:bgN (tabOf rows) c with
  | none=>exact absurd ⟨lt,e⟩ h2
  | some x=>rfl
theorem dat_real {rows' rows:List Row} {lp:Nat→Nat} (X:AllK rows lp) {n c:Nat} {r':Row} (h':rows'[n]?=some r') (hc:c<rows.length) (al:(bgN (tabOf rows) c).isSome=true) (hd:r'.d=cutN rows (ddN rows) c) (e:fN rows' rows n=realN rows c):(∃ r,DatM rows' rows n r' r)∧Dn (tabOf rows) c (fN rows' rows n):=by
 obtain ⟨g1,g2,g3,g4,g5⟩:=real_ok X _ c (Nat.le_refl _) hc al
 obtain ⟨r,hr⟩:=row_at g1
 rw [e]
 refine ⟨⟨r,h',by rw [e];exact hr,by rw [e];exact g2,by rw [e];exact g4,?_⟩,g3⟩
 rw [e,hd,g5]
 have U:=up_of X
 have e2:alc rows (realN rows c)=r.ch.filter fun c=>decide (c ∉ ddN rows):=by
  unfold alc
  show (match rows[realF rows (rows.length - c) c]? with | none=>[] | some r=>r.ch.filter fun c=>decide (c ∉ ddN rows))=_
  rw [hr]
 rw [e2]
 refine cut_mk U hr fun z=>?_
 obtain ⟨a,b,e3⟩:=U.two _ r hr z.1
 exact g4 ⟨r,a,b,hr,z.1,e3,by have:=z.2;rw [e3] at this;exact this⟩
theorem par_row {rows:List Row} {lp:Nat→Nat} (X:AllK rows lp) {n p:Nat} {r:Row} (hr:rows[n]?=some r) (hp:r.par=some p):p<n∧∃ rp,rows[p]?=some rp∧n∈rp.ch:=by
 obtain ⟨h1,h2,h3⟩:=X.w.pu n r p hr hp
 obtain ⟨rp,hrp⟩:=row_at h2
 refine ⟨h1,rp,hrp,?_⟩
 rw [tab_nd hrp,← (X.w.sv p rp hrp).2.2] at h3
 exact h3
theorem kid_real {rows' rows:List Row} {lp lp':Nat→Nat} (X:AllK rows lp) (X':AllK rows' lp') {p n i:Nat} {r' rp' rp r:Row} (D:DatM rows' rows p rp' rp) (hr:rows'[n]?=some r') (hp:r'.par=some p) (hi:rp'.ch[i]?=some n):∃ c,(alc rows (fN rows' rows p))[i]?=some c∧(∃ r,DatM rows' rows n r' r)∧Dn (tabOf rows) c (fN rows' rows n):=by
 obtain ⟨r2,h1,h2⟩:=X'.w.pr p rp' D.h' i n hi
 rw [hr] at h1
 cases h1
 rw [D.parts X,List.getElem?_map] at h2
 cases hc:(alc rows (fN rows' rows p))[i]? with
 | none=>rw [hc] at h2;cases h2
 | some c =>
  rw [hc] at h2
  have hd:cutN rows (ddN rows) c=r'.d:=Option.some.inj h2
  obtain ⟨lt,al⟩:=alc_mem X (List.mem_of_getElem? hc)
  have nd:rp'.ch.Nodup:=by
   have pl:=(List.getElem?_eq_some_iff.mp D.h').1
   have:=X'.w.wf.nd p pl
   rw [tab_nd D.h',← (X'.w.sv p rp' D.h').2.2] at this
   exact this
  have li:=(List.getElem?_eq_some_iff.mp hi).1
  have ix:rp'.ch.idxOf n=i:=by
   have e:=(List.getElem?_eq_some_iff.mp hi).2
   rw [← e]
   exact nd.idxOf_getElem i li
  have e:=fN_kid (rows:=rows) X' hr hp D.h'
  rw [ix] at e
  have e2:(alc rows (fN rows' rows p)).getD i 0=c:=by
   rw [List.getD_eq_getElem?_getD,hc]<;>rfl
  rw [e2] at e
  exact ⟨c,rfl,dat_real X hr lt al hd.symm e⟩
theorem dat_all {rows' rows:List Row} {lp lp':Nat→Nat} (X:AllK rows lp) (X':AllK rows' lp') (h0:∀ r,rows'[0]?=some r→r.d=cutN rows (ddN rows) 0):∀ n,n<rows'.length→∃ r' r,DatM rows' rows n r' r:=by
 intro n
 induction n using Nat.strongRecOn with
 | ind n ih =>
  intro hn
  obtain ⟨r',hr⟩:=row_at hn
  cases hp:r'.par with
  | none =>
   have z:=X'.pn n hn (by show rows'[n]?.bind Row.par=none;rw [hr];exact hp)
   subst z
   have al:(bgN (tabOf rows) 0).isSome=true:=by rw [bgN_zero X.w X.g]<;>rfl
   obtain ⟨⟨r,D⟩,_⟩:=dat_real X hr X.w.wf.ne al (h0 r' hr) (fN_root (lp':=lp') hr hp)
   exact ⟨r',r,D⟩
  | some p =>
   obtain ⟨plt,rp',hrp,hm⟩:=par_row X' hr hp
   obtain ⟨rp2,rp,D⟩:=ih p plt (by omega)
   have:rp2=rp':=by
    have:=D.h'
    rw [hrp] at this
    exact (Option.some.inj this).symm
   subst this
   obtain ⟨i,hi⟩:=List.getElem?_of_mem hm
   obtain ⟨_,_,⟨r,D2⟩,_⟩:=kid_real (r:=rp) X X' D hr hp hi
   exact ⟨r',r,D2⟩
theorem paired_67 {α β:Type} {R:α→β→Prop}:∀ {xs:List α} {ys:List β},xs.length=ys.length→(∀ (i:Nat) (x:α) (y:β),xs[i]?=some x→ys[i]?=some y→R x y)→Paired R xs ys
 | [],[],_,_=>.nil
 | x::xs,y::ys,h,k=>.cons (k 0 x y rfl rfl) (paired_67 (by simpa using h) fun i a b h1 h2=>k (i + 1) a b (by simpa using h1) (by simpa using h2))
 | [],_::_,h,_=>by simp at h
 | _::_,[],h,_=>by simp at h
theorem dat_kids {rows' rows:List Row} {lp lp':Nat→Nat} (X:AllK rows lp) (X':AllK rows' lp') {n:Nat} {r' r:Row} (D:DatM rows' rows n r' r):Paired (fun c c'=>Dn (tabOf rows) c (fN rows' rows c')) (alc rows (fN rows' rows n)) r'.ch:=by
 refine paired_67 ?_ fun i c c' h1 h2=>?_
 ·have:=(X'.w.sv n r' D.h').2.1
  rw [D.parts X,List.length_map] at this
  exact this.symm
 ·have hm:=List.mem_of_getElem? h2
  have hn:=(List.getElem?_eq_some_iff.mp D.h').1
  have dn:=X'.w.wf.dn n hn c' (by rw [tab_nd D.h',← (X'.w.sv n r' D.h').2.2];exact hm)
  obtain ⟨rc,hrc⟩:=row_at dn.2.1
  have hp:rc.par=some n:=by
   have z:rows'[c']?.bind Row.par=some n:=dn.2.2.1
   rw [hrc] at z
   exact z
  obtain ⟨c2,g1,_,g3⟩:=kid_real (r:=r) X X' D hrc hp h2
  rw [h1] at g1
  cases g1
  exact g3
end
section
open FcM (Way Node Tab)
theorem kn_if {x:Node} (h:kindN x="if"):∃ a b,x=.iff a b:=by
 cases x<;>first | exact ⟨_,_,rfl⟩ | (dsimp only [kindN] at h;exact absurd h (by decide))
theorem kn_tr {x:Node} (h:kindN x="try"):∃ a b,x=.tr a b:=by
 cases x<;>first | exact ⟨_,_,rfl⟩ | (dsimp only [kindN] at h;exact absurd h (by decide))
theorem kn_fin {x:Node} (h:kindN x="final"):∃ a b,x=.fin a b:=by
 cases x<;>first | exact ⟨_,_,rfl⟩ | (dsimp only [kindN] at h;exact absurd h (by decide))
theorem kn_whl {x:Node} (h:kindN x="while"):∃ a,x=.whl a:=by
 cases x<;>first | exact ⟨_,rfl⟩ | (dsimp only [kindN] at h;exact absurd h (by decide))
theorem kn_seq {x:Node} (h:kindN x="seq"):∃ a,x=.seq a:=by
 cases x<;>first | exact ⟨_,rfl⟩ | (dsimp only [kindN] at h;exact absurd h (by decide))
theorem nd_dat {rows' rows:List Row} {lp lp':Nat→Nat} (X:AllK rows lp) (X':AllK rows' lp') {n:Nat} {r' r:Row} (D:DatM rows' rows n r' r):NdR (tabOf rows) (fN rows' rows) (ndOf r) (ndOf r'):=by
 have kids:=dat_kids X X' D
 have hn:=(List.getElem?_eq_some_iff.mp D.h).1
 obtain ⟨sv,hl,hc⟩:=X.w.sv _ r D.h
 have kd:=kd_nd sv
 have kd':=kd_nd (X'.w.sv _ r' D.h').1
 have hc':=(X'.w.sv _ r' D.h').2.2
 have ek:kindN (ndOf r')=kindN (ndOf r):=by rw [← kd,← kd',D.d,kind_mk sv]
 have nd:=tab_nd D.h
 have leaf:r.ch=[]→kindD r.d≠"seq"→ndOf r'=ndOf r:=fun h0 hk=>by
  have e:=all_alive X D.h D.al hk D.nc
  have pz:partsD r.d=[]:=by
   rw [h0] at hl
   exact List.length_eq_zero_iff.mp hl.symm
  rw [e,h0] at kids
  have h0':r'.ch=[]:=by
   cases hx:r'.ch with
   | nil=>rfl
   | cons a b=>rw [hx] at kids;cases kids
  have ed:r'.d=r.d:=by
   have:=D.d
   rw [e,h0] at this
   rw [this]
   exact mk_nil sv pz
  unfold ndOf
  rw [ed,h0,h0']
 have two:∀ {a b:Nat},r.ch=[a,b]→kindD r.d≠"seq"→∃ a' b',r'.ch=[a',b']∧Dn (tabOf rows) a (fN rows' rows a')∧Dn (tabOf rows) b (fN rows' rows b'):=fun {a b} h2 hk=>by
  rw [all_alive X D.h D.al hk D.nc,h2] at kids
  cases hx:r'.ch with
  | nil=>rw [hx] at kids;cases kids
  | cons a' t =>
   rw [hx] at kids
   cases kids with
   | cons d1 kids =>
    cases kids with
    | @cons _ b' _ _ d2 kids =>
     cases kids
     exact ⟨a',b',rfl,d1,d2⟩
 have kq:∀ {k:Str},kindN (ndOf r)=k→k≠"seq"→kindD r.d≠"seq":=fun h1 h2 z=>h2 (by rw [← h1,← kd,z])
 cases e:ndOf r with
 | do_ =>
  rw [e] at hc
  rw [leaf hc (kq (k:="do") (by rw [e]<;>rfl) (by decide)),e]
  exact .same rfl (fun l z=>nomatch z)
 | call =>
  rw [e] at hc
  rw [leaf hc (kq (k:="call") (by rw [e]<;>rfl) (by decide)),e]
  exact .same rfl (fun l z=>nomatch z)
 | ret =>
  rw [e] at hc
  rw [leaf hc (kq (k:="return") (by rw [e]<;>rfl) (by decide)),e]
  exact .same rfl (fun l z=>nomatch z)
 | rai =>
  rw [e] at hc
  rw [leaf hc (kq (k:="raise") (by rw [e]<;>rfl) (by decide)),e]
  exact .same rfl (fun l z=>nomatch z)
 | brk k =>
  rw [e] at hc
  rw [leaf hc (kq (k:="break") (by rw [e]<;>rfl) (by decide)),e]
  exact .same rfl (fun l z=>nomatch z)
 | cnt k =>
  rw [e] at hc
  rw [leaf hc (kq (k:="continue") (by rw [e]<;>rfl) (by decide)),e]
  exact .same rfl (fun l z=>nomatch z)
 | iff a b =>
  rw [e] at hc ek
  obtain ⟨a',b',g1,g2,g3⟩:=two hc (kq (k:="if") (by rw [e]<;>rfl) (by decide))
  obtain ⟨x,y,e2⟩:=kn_if (x:=ndOf r') ek
  rw [e2] at hc' ⊢
  rw [g1] at hc'
  injection hc' with h1 h2
  injection h2 with h2 _
  rw [← h1,← h2]
  exact .iff g2 g3
 | whl a =>
  rw [e] at hc ek
  obtain ⟨x,e2⟩:=kn_whl (x:=ndOf r') ek
  rw [e2] at hc' ⊢
  rw [all_alive X D.h D.al (kq (k:="while") (by rw [e]<;>rfl) (by decide)) D.nc,hc,hc'] at kids
  cases kids with
  | cons d1 _=>exact .whl d1
 | fin a b =>
  rw [e] at hc ek
  obtain ⟨a',b',g1,g2,g3⟩:=two hc (kq (k:="final") (by rw [e]<;>rfl) (by decide))
  obtain ⟨x,y,e2⟩:=kn_fin (x:=ndOf r') ek
  rw [e2] at hc' ⊢
  rw [g1] at hc'
  injection hc' with h1 h2
  injection h2 with h2 _
  rw [← h1,← h2]
  exact .fin g2 g3
 | tr a b =>
  rw [e] at hc ek nd
  obtain ⟨a',b',g1,g2,g3⟩:=two hc (kq (k:="try") (by rw [e]<;>rfl) (by decide))
  obtain ⟨x,y,e2⟩:=kn_tr (x:=ndOf r') ek
  rw [e2] at hc' ⊢
  rw [g1] at hc'
  injection hc' with h1 h2
  injection h2 with h2 _
  rw [← h1,← h2]
  refine .tr g2 g3 ?_
  have lt:∀ c∈r.ch,c<rows.length:=fun c hcm=>(kid_lt X D.h hcm).2
  have ha:=lt a (by rw [hc];simp [Node.ch])
  have hb:=lt b (by rw [hc];simp [Node.ch])
  have alb:b ∉ ddN rows:=fun z=>D.nc ⟨r,a,b,D.h,by rw [kd,e]<;>rfl,hc,z⟩
  rw [mem_dd] at alb
  obtain ⟨z,hz⟩:=Option.isSome_iff_exists.mp D.al
  have bt:=bg_try X.w X.g hn nd
  cases e3:lk (tbN (tabOf rows) a) .rai with
  | none =>
   rw [e3,hz] at bt
   exact absurd ⟨hb,bt⟩ alb
  | some y=>exact has_way X ha e3
 | seq l =>
  rw [e] at hc ek nd
  obtain ⟨l',e2⟩:=kn_seq (x:=ndOf r') ek
  rw [e2] at hc' ⊢
  refine .seq ?_
  obtain ⟨z,hz⟩:=Option.isSome_iff_exists.mp D.al
  have e4:alc rows (fN rows' rows n)=l.filter fun c=>decide (c ∉ ddN rows):=by
   unfold alc
   rw [D.h]
   show (r.ch.filter fun c=>decide (c ∉ ddN rows))=_
   rw [hc]<;>rfl
  rw [e4,hc'] at kids
  have hl':∀ c∈l,c<rows.length:=fun c hcm=>(kid_lt X D.h (by rw [hc];exact hcm)).2
  have ndp:=X.w.wf.nd _ hn
  rw [nd] at ndp
  refine sq_make X l z ndp hl' (fun c v hcv=>bgN_fix X.w X.g hn hz (by rw [nd];exact hcv)) (fun c hcm hno=>bgN_not X.w X.g hn (by rw [nd];exact hcm) fun before hb v hv=>?_) l' kids
  rw [hz] at hb
  cases hb
  rw [nd] at hv
  exact hno v hv
theorem mor_of {rows' rows:List Row} {lp lp':Nat→Nat} (X:AllK rows lp) (X':AllK rows' lp') (h0:∀ r,rows'[0]?=some r→r.d=cutN rows (ddN rows) 0):MorB rows' rows lp' (fN rows' rows):=by
 refine ⟨fun n hn=>?_,X'.w,X'.g,X'.h,X'.pn⟩
 obtain ⟨r',r,D⟩:=dat_all X X' h0 n hn
 have:=nd_dat X X' D
 rw [tab_nd D.h,tab_nd D.h']
 refine ⟨this,fun c hc=>?_⟩
 have:=X'.w.wf.dn n hn c (by rw [tab_nd D.h'];exact hc)
 exact this.2.1
end
section
open FcM (Way Node Tab)
theorem okS_dn {l dp b w:Nat} {d:PyData} (h:OkS l dp b w d):∀ {dp'},dp'≤dp→OkS l dp' b w d:=by
 induction h with
 | @mk loops deep blocks d wt st hd hb ps ih =>
  intro dp' hdp
  exact .mk wt st (by omega) hb fun i p hp=>ih i p hp (by omega)
theorem stm_mk {l:Int} {d:PyData} (st:isStm d l=true) {es:List PyData} (h:(kindD d="seq"∧es≠[])∨(kindD d≠"seq"∧es.length=(partsD d).length)):isStm (mkD d es) l=true:=by
 have sv:=sv_of st
 have no:∀ {k:Str},kindD d=k→k≠"seq"→es.length=(partsD d).length:=fun {k} hk hn=>by
  rcases h with ⟨z,_⟩ | ⟨_,z⟩
  ·exact absurd (hk.symm.trans z) hn
  ·exact z
 cases sv with
 | do_ x =>
  obtain rfl:es=[]:=List.length_eq_zero_iff.mp (no rfl (show ("do":Str)≠"seq" by decide))
  exact st
 | call x =>
  obtain rfl:es=[]:=List.length_eq_zero_iff.mp (no rfl (show ("call":Str)≠"seq" by decide))
  exact st
 | iff x a b =>
  have:=no rfl (show ("if":Str)≠"seq" by decide)
  match es,this with
  | [_,_],_=>exact st
 | whl x a =>
  have:=no rfl (show ("while":Str)≠"seq" by decide)
  match es,this with
  | [_],_=>exact st
 | seq p ps =>
  rcases h with ⟨_,z⟩ | ⟨z,_⟩
  ·match es,z with
   | a::b,_=>rfl
  ·exact absurd rfl z
 | brk n h1 h2 =>
  obtain rfl:es=[]:=List.length_eq_zero_iff.mp (no rfl (show ("break":Str)≠"seq" by decide))
  exact st
 | cnt n h1 h2 =>
  obtain rfl:es=[]:=List.length_eq_zero_iff.mp (no rfl (show ("continue":Str)≠"seq" by decide))
  exact st
 | ret =>
  obtain rfl:es=[]:=List.length_eq_zero_iff.mp (no rfl (show ("return":Str)≠"seq" by decide))
  exact st
 | rai =>
  obtain rfl:es=[]:=List.length_eq_zero_iff.mp (no rfl (show ("raise":Str)≠"seq" by decide))
  exact st
 | tr a b =>
  have:=no rfl (show ("try":Str)≠"seq" by decide)
  match es,this with
  | [_,_],_=>exact st
 | fin a b =>
  have:=no rfl (show ("final":Str)≠"seq" by decide)
  match es,this with
  | [_,_],_=>exact st
theorem alc_ne {rows:List Row} {lp:Nat→Nat} (X:AllK rows lp) {n:Nat} {r:Row} (hr:rows[n]?=some r) (al:(bgN (tabOf rows) n).isSome=true) (hk:kindD r.d="seq"):alc rows n≠[]:=by
 have hn:=(List.getElem?_eq_some_iff.mp hr).1
 obtain ⟨sv,hl,hc⟩:=X.w.sv n r hr
 have kd:=kd_nd sv
 obtain ⟨l,e⟩:=kn_seq (x:=ndOf r) (by rw [← kd];exact hk)
 have nd:(tabOf rows).nd n=.seq l:=by rw [tab_nd hr,e]
 have ne:=X.w.wf.sq n l hn nd
 obtain ⟨b,hb⟩:=Option.isSome_iff_exists.mp al
 cases l with
 | nil=>exact absurd rfl ne
 | cons c l =>
  have hcm:c∈r.ch:=by rw [hc,e];exact List.mem_cons_self
  have:=bgN_fix X.w X.g hn hb (c:=c) (v:=some b) (by rw [nd];show (c,some b)∈bgSeq _ (c::l) b;unfold bgSeq;exact List.mem_cons_self)
  have hm:c∈alc rows n:=by
   unfold alc
   rw [hr]
   exact List.mem_filter.mpr ⟨hcm,decide_eq_true (by rw [mem_dd,this];exact fun z=>nomatch z.2)⟩
  exact fun z=>by rw [z] at hm;exact nomatch hm
theorem mem_sum67:∀ {l:List Nat} {x:Nat},x∈l→x≤l.sum
 | [],_,h=>nomatch h
 | y::l,x,h=>by
  rw [List.sum_cons]
  rcases List.mem_cons.mp h with rfl | h
  ·omega
  ·have:=mem_sum67 h;omega
theorem sum_at67 {f:Nat→Nat} {n i:Nat} (hi:i<n):f i≤((List.range n).map f).sum:=mem_sum67 (List.mem_map.mpr ⟨i,List.mem_range.mpr hi,rfl⟩)
theorem sum_filter (g:Nat→Nat) (p:Nat→Bool):∀ l:List Nat,((l.filter p).map g).sum≤(l.map g).sum
 | []=>Nat.le_refl _
 | a::l=>by
  have:=sum_filter g p l
  cases h:p a with
  | true=>rw [List.filter_cons_of_pos h];simp;omega
  | false=>rw [List.filter_cons_of_neg (by rw [h];decide)];simp;omega
theorem sum_range {g:Nat→Nat}:∀ (l:List Nat),((List.range l.length).map fun i=>g (l.getD i 0)).sum=(l.map g).sum
 | []=>rfl
 | a::l=>by
  rw [List.length_cons,List.range_succ_eq_map,List.map_cons,List.map_map,List.sum_cons,List.map_cons,List.sum_cons,← sum_range l]
  rfl
theorem sum_mono67 {f g:Nat→Nat}:∀ (l:List Nat),(∀ i∈l,f i≤g i)→(l.map f).sum≤(l.map g).sum
 | [],_=>Nat.le_refl _
 | a::l,h=>by
  have:=sum_mono67 l fun i hi=>h i (List.mem_cons_of_mem _ hi)
  have:=h a List.mem_cons_self
  simp
  omega
theorem cut_body {rows:List Row} {lp:Nat→Nat} (X:AllK rows lp) {n a b:Nat} {r:Row} (hr:rows[n]?=some r) (hk:kindD r.d="try") (hc:r.ch=[a,b]) (al:(bgN (tabOf rows) n).isSome=true):(bgN (tabOf rows) a).isSome=true:=by
 have hn:=(List.getElem?_eq_some_iff.mp hr).1
 obtain ⟨sv,_,hc2⟩:=X.w.sv n r hr
 obtain ⟨x,y,e⟩:=kn_tr (x:=ndOf r) (by rw [← kd_nd sv];exact hk)
 rw [e,hc] at hc2
 injection hc2 with h1 _
 obtain ⟨z,hz⟩:=Option.isSome_iff_exists.mp al
 rw [bgN_fix X.w X.g hn hz (c:=a) (v:=some z) (by rw [tab_nd hr,e,h1];simp [bgParts])]<;>rfl
theorem cut_ok {rows:List Row} {lp:Nat→Nat} (X:AllK rows lp):∀ (k n:Nat) (r:Row) (l dp b w:Nat),rows.length - n≤k→rows[n]?=some r→(bgN (tabOf rows) n).isSome=true→OkS l dp b w r.d→∃ w',w'≤w∧OkS l dp b w' (cutN rows (ddN rows) n)
 | 0,n,r,l,dp,b,w,hk,hr,_,_=>by have:=(List.getElem?_eq_some_iff.mp hr).1;omega
 | k + 1,n,r,l,dp,b,w,hk,hr,al,ok=>by
  have hn:=(List.getElem?_eq_some_iff.mp hr).1
  have U:=up_of X
  obtain ⟨sv0,hlc,hch⟩:=X.w.sv n r hr
  cases ok with
  | mk wt st hd hb ps =>
  by_cases hc:Cut rows n
  ·obtain ⟨r2,a,b2,h1,h2,h3,h4⟩:=hc
   rw [hr] at h1
   cases h1
   obtain ⟨ra,g1,g2⟩:=X.w.pr n r hr 0 a (by rw [h3]<;>rfl)
   have ha:=kid_lt X hr (c:=a) (by rw [h3];simp)
   have o:=ps 0 ra.d g2
   have e1:wl r.d=0:=by unfold wl;rw [h2,if_neg (by decide)]
   rw [e1,if_neg (fun z=>nomatch z.2),Nat.add_zero,Nat.add_zero] at o
   obtain ⟨w',hw,o'⟩:=cut_ok X k a ra l (dp + 1) b _ (by omega) g1 (cut_body X hr h2 h3 al) o
   rw [cut_try U hr h2 h3 h4]
   refine ⟨w',?_,okS_dn o' (by omega)⟩
   have:0<(partsD r.d).length:=(List.getElem?_eq_some_iff.mp g2).1
   have:=sum_at67 (f:=wt) this
   omega
  ·have ea:alc rows n=r.ch.filter fun c=>decide (c ∉ ddN rows):=by unfold alc;rw [hr]
   have fit:=alc_fit X hr al hc
   have ecut:cutN rows (ddN rows) n=mkD r.d ((alc rows n).map (cutN rows (ddN rows))):=by
    rw [ea]
    refine cut_mk U hr fun z=>?_
    obtain ⟨a,b2,e3⟩:=U.two _ r hr z.1
    exact hc ⟨r,a,b2,hr,z.1,e3,by have:=z.2;rw [e3] at this;exact this⟩
   have nd:r.ch.Nodup:=by
    have:=X.w.wf.nd n hn
    rw [tab_nd hr,← hch] at this
    exact this
   have ex:∀ c,∃ w',c∈alc rows n→∀ j,r.ch[j]?=some c→w'≤wt j∧OkS (l + wl r.d) (dp + 1) (b + (if kindD r.d="final"∧j=1 then 1 else 0)) w' (cutN rows (ddN rows) c):=fun c=>by
    by_cases hm:c∈alc rows n
    ·have hm2:=hm
     rw [ea] at hm2
     have hcm:=(List.mem_filter.mp hm2).1
     obtain ⟨j,hj⟩:=List.getElem?_of_mem hcm
     obtain ⟨rc,g1,g2⟩:=X.w.pr n r hr j c hj
     have lt:=kid_lt X hr hcm
     obtain ⟨w',hw,o'⟩:=cut_ok X k c rc _ _ _ _ (by omega) g1 (alc_mem X hm).2 (ps j rc.d g2)
     refine ⟨w',fun _ j2 hj2=>?_⟩
     obtain ⟨q1,q2⟩:=List.getElem?_eq_some_iff.mp hj
     obtain ⟨q3,q4⟩:=List.getElem?_eq_some_iff.mp hj2
     have:j2=j:=by
      have a1:=nd.idxOf_getElem j q1
      have a2:=nd.idxOf_getElem j2 q3
      rw [q2] at a1
      rw [q4] at a2
      omega
     subst this
     exact ⟨hw,o'⟩
    ·exact ⟨0,fun z=>absurd z hm⟩
   obtain ⟨g,hg⟩:∃ g:Nat→Nat,∀ c,c∈alc rows n→∀ j,r.ch[j]?=some c→g c≤wt j∧OkS (l + wl r.d) (dp + 1) (b + (if kindD r.d="final"∧j=1 then 1 else 0)) (g c) (cutN rows (ddN rows) c):=⟨fun c=>Classical.choose (ex c),fun c=>Classical.choose_spec (ex c)⟩
   have fit2:(kindD r.d="seq"∧((alc rows n).map (cutN rows (ddN rows))).length≤401)∨(kindD r.d≠"seq"∧((alc rows n).map (cutN rows (ddN rows))).length=(partsD r.d).length):=by rw [List.length_map];exact fit
   have st2:isStm (mkD r.d ((alc rows n).map (cutN rows (ddN rows)))) (l:Int)=true:=by
    refine stm_mk st ?_
    rcases fit2 with ⟨z,_⟩ | z
    ·exact .inl ⟨z,fun y=>alc_ne X hr al z (List.map_eq_nil_iff.mp y)⟩
    ·exact .inr z
   have sv:=sv_of st
   have pm:=parts_mk sv fit2
   have km:=kind_mk sv ((alc rows n).map (cutN rows (ddN rows)))
   have wm:wl (mkD r.d ((alc rows n).map (cutN rows (ddN rows))))=wl r.d:=by unfold wl;rw [km]
   rw [ecut]
   have mk:=OkS.mk (d:=mkD r.d ((alc rows n).map (cutN rows (ddN rows)))) (loops:=l) (deep:=dp) (blocks:=b) (fun i=>g ((alc rows n).getD i 0)) st2 hd hb fun i p hp=>?_
   ·refine ⟨_,?_,mk⟩
    rw [pm,List.length_map,sum_range]
    have e1:((alc rows n).map g).sum=((alc rows n).map fun c=>if c∈alc rows n then g c else 0).sum:=by
     congr 1
     refine List.map_congr_left fun c hc=>?_
     rw [if_pos hc]
    have e2:((alc rows n).map fun c=>if c∈alc rows n then g c else 0).sum≤(r.ch.map fun c=>if c∈alc rows n then g c else 0).sum:=by
     have z:=sum_filter (fun c=>if c∈alc rows n then g c else 0) (fun c=>decide (c ∉ ddN rows)) r.ch
     rw [← ea] at z
     exact z
    have e3:=sum_range (g:=fun c=>if c∈alc rows n then g c else 0) r.ch
    have e4:((List.range r.ch.length).map fun i=>if r.ch.getD i 0∈alc rows n then g (r.ch.getD i 0) else 0).sum≤((List.range r.ch.length).map wt).sum:=by
     refine sum_mono67 _ fun j hj=>?_
     have hj:=List.mem_range.mp hj
     have hcj:r.ch[j]?=some (r.ch.getD j 0):=by
      rw [List.getD_eq_getElem?_getD,List.getElem?_eq_getElem hj]<;>rfl
     by_cases z:r.ch.getD j 0∈alc rows n
     ·rw [if_pos z]
      exact (hg _ z j hcj).1
     ·rw [if_neg z]
      exact Nat.zero_le _
    rw [hlc] at e4 e3
    omega
   ·rw [pm,List.getElem?_map] at hp
    cases hc2:(alc rows n)[i]? with
    | none=>rw [hc2] at hp;cases hp
    | some c =>
     rw [hc2] at hp
     obtain rfl:cutN rows (ddN rows) c=p:=Option.some.inj hp
     have hm:=List.mem_of_getElem? hc2
     have eg:(alc rows n).getD i 0=c:=by rw [List.getD_eq_getElem?_getD,hc2]<;>rfl
     rw [eg,wm,km]
     by_cases hf:kindD r.d="final"
     ·have ech:alc rows n=r.ch:=all_alive X hr al (by rw [hf];decide) hc
      have hci:r.ch[i]?=some c:=by rw [← ech];exact hc2
      exact (hg c hm i hci).2
     ·have hcm:c∈r.ch:=by rw [ea] at hm;exact (List.mem_filter.mp hm).1
      obtain ⟨j,hj⟩:=List.getElem?_of_mem hcm
      have o:=(hg c hm j hj).2
      rw [if_neg (fun z=>hf z.1)] at o ⊢
      exact o
end
section
open FcM (Way Node Tab)
section
variable {P:Program} {w:World} {h:Heap} {K:PySem.W.Frag} {mg:Str→Option Value} {base:Heap}
abbrev N_Code_entry_of:List Str:=["self","number"]
theorem sc_Code_entry_of:FnScope N_Code_entry_of ["self","number"] (defScope sd_Code_entry_of):=⟨rfl,rfl,rfl,by decide +kernel,rfl,by decide +kernel,by decide +kernel⟩
theorem ok_Code_entry_of (T:Tx w h K mg):Ok P w K mg base 1 ("Code",some "entry_of") ["self","number"] (sp_entry K):=by
 obtain ⟨fd,F⟩:=F_Code_entry_of T
 refine ⟨fd,?_,F.bindsN (fun _ _ _ _ _ _ us hl=>match us,hl with | [_,_],_=>rfl),F.kp⟩
 refine F.ok sc_Code_entry_of (fun vs H Q E h=>?_) (fun cdv A outer s H vs Q E hr h=>?_)
 ·obtain ⟨F,A,rows,lp,n,k,e,rfl,C,W,xF,hn,hE,q⟩:=h
  rfl
 ·obtain ⟨F,A,rows,lp,n,k,e,rfl,C,W,xF,hn,hE,q⟩:=h
  refine ⟨_,PSs.nox (pss_cons (ps_while PassesOwn.never (pt_cmpR op_in_seq (pe_ix ix_list (pe_fld (pv 0) rfl) (pv 1) (fun _ _=>rfl)) (pe_tup (pa_cons pe_str (pa_cons pe_str (pa_cons pe_str pa_nil)))) (by rfl)) (pss_one (ps_set (i:=1) sc_Code_entry_of.nd rfl (Or.inl rfl) (pe_ix ix_list (pe_ix ix_list (pe_fld (pv 0) rfl) (pv 1) (fun _ _=>rfl)) pe_int (fun _ _=>rfl))))) (pss_one (ps_ret (pv 1)))),?_⟩
  refine ⟨fun m σ' H'=>∃ n':Nat,σ'=[some (.ref A.p),some (.int (n':Int))]∧Ex H H'∧n'<rows.length∧FcM.Ent (tabOf rows) m n' e,⟨k,n,rfl,Evl.Ex.refl _,hn,hE⟩,?_⟩
  rintro m σ' H' ⟨n',rfl,xH,hn',hE'⟩
  obtain ⟨r,hr⟩:=row_at hn'
  obtain ⟨vs,C1,_⟩:=C.ex (Evl.Ex.refl _) (xF.trans xH)
  obtain ⟨c,a⟩:=at_of W C1 hr
  refine ⟨_,rfl,A.p,_,_,_,_,rfl,C1.ob,c_Code T,na_Code_kinds T,fl_Code_kinds _ _ _ _ _,_,rfl,A.a2,_,_,_,rfl,rfl,Evl.sq_of C1.h2,atI_nat a.kd,sz (by simp),?_⟩
  intro p1 n1
  generalize e1:upd _ p1 _=H1
  obtain ⟨x1,s1,o1⟩:=new_of e1 n1
  clear e1
  refine ⟨p1,_,rfl,.inr (Evl.st_of s1),rfl,flat_strs kDown,_,rfl,?_⟩
  have hnd:=tab_nd hr
  rcases down_case hE' with ⟨rfl,hk⟩ | ⟨m',c',rfl,hc,hE2,hk⟩
  ·rw [hnd] at hk
   exact itF (in_strs hk) ⟨_,rfl,q H1 (xH.trans x1)⟩
  ·rw [hnd] at hk hc
   rw [← (W.sv n' r hr).2.2] at hc
   have hlt:c'<rows.length:=by
    have:=W.wf.dn n' hn' c' (by rw [hnd,← (W.sv n' r hr).2.2];exact List.mem_of_getElem? hc)
    exact this.2.1
   refine itT (in_strs hk) ⟨fun σ' H'=>σ'=[some (.ref A.p),some (.int (c':Int))]∧Ex H H',fun σ' H' ⟨e1,e2⟩=>⟨m',Nat.lt_succ_self _,c',e1,e2,hlt,hE2⟩,?_⟩
   have C2:=C1.ex x1
   refine ⟨_,rfl,A.p,_,_,_,_,rfl,C2.ob,c_Code T,na_Code_children T,fl_Code_children _ _ _ _ _,_,rfl,A.a5,_,_,_,rfl,rfl,Evl.sq_of C2.h5,atI_nat a.cs,c,_,_,_,rfl,rfl,Evl.sq_of (x1 _ _ a.ch),atI_nat (ints_at hc),rfl,xH.trans x1⟩
end
end
section
def fl_Walker (v0 v1 v2 v3:V):List (Str×V):=[("source",v0),("pendings",v1),("spot",v2),("end",v3)]
theorem fl_Walker_source (v0 v1 v2 v3:V):(fl_Walker v0 v1 v2 v3).lookup ("source":Str)=some v0:=by kernel_rfl
theorem fl_Walker_pendings (v0 v1 v2 v3:V):(fl_Walker v0 v1 v2 v3).lookup ("pendings":Str)=some v1:=by kernel_rfl
theorem fl_Walker_spot (v0 v1 v2 v3:V):(fl_Walker v0 v1 v2 v3).lookup ("spot":Str)=some v2:=by kernel_rfl
theorem fp_Walker_spot (v0 v1 v2 v3 y:V):putF "spot" y (fl_Walker v0 v1 v2 v3)=fl_Walker v0 v1 y v3:=by kernel_rfl
theorem fl_Walker_end (v0 v1 v2 v3:V):(fl_Walker v0 v1 v2 v3).lookup ("end":Str)=some v3:=by kernel_rfl
theorem fp_Walker_end (v0 v1 v2 v3 y:V):putF "end" y (fl_Walker v0 v1 v2 v3)=fl_Walker v0 v1 v2 y:=by kernel_rfl
theorem fm_Walker_is_waiting (v0 v1 v2 v3:V):(fl_Walker v0 v1 v2 v3).lookup ("is_waiting":Str)=none:=by kernel_rfl
theorem fm_Walker_leave (v0 v1 v2 v3:V):(fl_Walker v0 v1 v2 v3).lookup ("leave":Str)=none:=by kernel_rfl
theorem fm_Walker_do_place (v0 v1 v2 v3:V):(fl_Walker v0 v1 v2 v3).lookup ("do_place":Str)=none:=by kernel_rfl
theorem fm_Walker_go_on (v0 v1 v2 v3:V):(fl_Walker v0 v1 v2 v3).lookup ("go_on":Str)=none:=by kernel_rfl
theorem fm_Walker_answer (v0 v1 v2 v3:V):(fl_Walker v0 v1 v2 v3).lookup ("answer":Str)=none:=by kernel_rfl
theorem fi_Walker_0 (v0:V):putF "source" v0 ([]:List (Str×V))=([(("source":Str),v0)]:List (Str×V)):=by kernel_rfl
theorem fi_Walker_1 (v0 v1:V):putF "pendings" v1 ([(("source":Str),v0)]:List (Str×V))=([(("source":Str),v0),(("pendings":Str),v1)]:List (Str×V)):=by kernel_rfl
theorem fi_Walker_2 (v0 v1 v2:V):putF "spot" v2 ([(("source":Str),v0),(("pendings":Str),v1)]:List (Str×V))=([(("source":Str),v0),(("pendings":Str),v1),(("spot":Str),v2)]:List (Str×V)):=by kernel_rfl
theorem fi_Walker_3 (v0 v1 v2 v3:V):putF "end" v3 ([(("source":Str),v0),(("pendings":Str),v1),(("spot":Str),v2)]:List (Str×V))=([(("source":Str),v0),(("pendings":Str),v1),(("spot":Str),v2),(("end":Str),v3)]:List (Str×V)):=by kernel_rfl
def fl_Run (v0 v1 v2:V):List (Str×V):=[("visited",v0),("used",v1),("end",v2)]
theorem fl_Run_visited (v0 v1 v2:V):(fl_Run v0 v1 v2).lookup ("visited":Str)=some v0:=by kernel_rfl
theorem fl_Run_used (v0 v1 v2:V):(fl_Run v0 v1 v2).lookup ("used":Str)=some v1:=by kernel_rfl
theorem fl_Run_end (v0 v1 v2:V):(fl_Run v0 v1 v2).lookup ("end":Str)=some v2:=by kernel_rfl
theorem fi_Run_0 (v0:V):putF "visited" v0 ([]:List (Str×V))=([(("visited":Str),v0)]:List (Str×V)):=by kernel_rfl
theorem fi_Run_1 (v0 v1:V):putF "used" v1 ([(("visited":Str),v0)]:List (Str×V))=([(("visited":Str),v0),(("used":Str),v1)]:List (Str×V)):=by kernel_rfl
theorem fi_Run_2 (v0 v1 v2:V):putF "end" v2 ([(("visited":Str),v0),(("used":Str),v1)]:List (Str×V))=([(("visited":Str),v0),(("used":Str),v1),(("end":Str),v2)]:List (Str×V)):=by kernel_rfl
end
section
open FcM (Way Node Tab Pd)
def wayL:Way→List PyData
 | .nrm=>[.str "normal"]
 | .ret=>[.str "return"]
 | .rai=>[.str "raise"]
 | .brk k=>[.str "break",.int (k:Int)]
 | .cnt k=>[.str "continue",.int (k:Int)]
def wayD (w:Way):PyData:=.tuple (wayL w)
theorem beq_dec (a b:Nat):((a:Int) == (b:Int))=decide (a=b):=by
 by_cases h:a=b
 ·rw [h,decide_eq_true rfl];simp
 ·rw [decide_eq_false h]
  simp
  omega
theorem eqv_way (w u:Way):PyData.eqv (wayD w) (wayD u)=decide (w=u):=by
 cases w<;>cases u<;>first
  | rfl
  | (simp [wayD,wayL,PyData.eqv,PyData.eqvAll];done)
  | (simp [wayD,wayL,PyData.eqv,PyData.eqvAll];exact beq_dec _ _)
  | (simp [wayD,wayL,PyData.eqv,PyData.eqvAll];decide +kernel)
theorem can_way (w:Way):PyData.canLay0 (wayD w)=true:=by
 cases w<;>first | (decide +kernel) | kernel_rfl
theorem dep_way (w:Way):(wayD w).depth≤2:=by
 cases w<;>simp [wayD,wayL,PyData.depth,PyData.depthAll]
def endS:Way→Str
 | .nrm=>"end"
 | .ret=>"return"
 | _=>"raise"
def posW:Way→Prop
 | .brk k=>1≤k
 | .cnt k=>1≤k
 | _=>True
inductive PdAt (K:PySem.W.Frag) (F:Hp):List Addr→Pd→Prop
 | nil:PdAt K F [] []
 | cons {t:Addr} {ts:List Addr} {n:Nat} {w:Way} {P:Pd} {v:V} (h:F t=some (.tup [.int (n:Int),v])) (hd:Dp K F v (wayD w)) (hw:posW w) (r:PdAt K F ts P):PdAt K F (t::ts) ((n,w)::P)
theorem PdAt.ex {K:PySem.W.Frag} {F F':Hp} (e:Ex F F'):∀ {ts:List Addr} {P:Pd},PdAt K F ts P→PdAt K F' ts P
 | _,_,.nil=>.nil
 | _,_,.cons h hd hw r=>.cons (e _ _ h) (dp_ex e hd) hw (PdAt.ex e r)
theorem PdAt.push {K:PySem.W.Frag} {F:Hp} {t:Addr} {n:Nat} {w:Way} {v:V} (h:F t=some (.tup [.int (n:Int),v])) (hd:Dp K F v (wayD w)) (hw:posW w):∀ {ts:List Addr} {P:Pd},PdAt K F ts P→PdAt K F (ts++[t]) (P++[(n,w)])
 | _,_,.nil=>.cons h hd hw .nil
 | _,_,.cons h' hd' hw' r=>.cons h' hd' hw' (PdAt.push h hd hw r)
theorem PdAt.pop {K:PySem.W.Frag} {F:Hp}:∀ {P:Pd} {x:Nat×Way} {ts:List Addr},PdAt K F ts (P++[x])→∃ ts' t v,ts=ts'++[t]∧PdAt K F ts' P∧F t=some (.tup [.int (x.1:Int),v])∧Dp K F v (wayD x.2)∧posW x.2
 | [],_,_,.cons h hd hw .nil=>⟨[],_,_,rfl,.nil,h,hd,hw⟩
 | _::P,x,_,.cons h hd hw r=>by
  obtain ⟨ts',t,v,rfl,r',h1,h2,h3⟩:=PdAt.pop (P:=P) (x:=x) r
  exact ⟨_::ts',t,v,rfl,.cons h hd hw r',h1,h2,h3⟩
theorem PdAt.len {K:PySem.W.Frag} {F:Hp}:∀ {ts:List Addr} {P:Pd},PdAt K F ts P→ts.length=P.length
 | _,_,.nil=>rfl
 | _,_,.cons _ _ _ r=>congrArg Nat.succ (PdAt.len r)
def endV:Nat ⊕ Way→V
 | .inl _=>.non
 | .inr w=>.str (endS w)
structure WS (K:PySem.W.Frag) (F H:Hp) (A:CAd) (q dx pp:Addr) (s:Nat) (ts:List Addr) (r:Nat ⊕ Way) (P:Pd):Prop where
 ob:H q=some (.ins (He.ga K "Walker") dx (fl_Walker (.ref A.p) (.ref pp) (.int (s:Int)) (endV r)))
 sp:∀ n,r=.inl n→n=s
 pl:H pp=some (.lst (ts.map V.ref))
 pa:PdAt K F ts P
 fq:F q=none
 fp:F pp=none
 ne:q≠pp
theorem WS.ext {K:PySem.W.Frag} {F H F2 H2:Hp} {A:CAd} {q dx pp:Addr} {s:Nat} {ts:List Addr} {r:Nat ⊕ Way} {P:Pd} (x:WS K F H A q dx pp s ts r P) (e1:Ex F F2) (e3:Ex H H2) (e4:∀ b,H b≠none→F b=none→F2 b=none):WS K F2 H2 A q dx pp s ts r P :=
 ⟨e3 _ _ x.ob,x.sp,e3 _ _ x.pl,x.pa.ex e1,e4 q (by rw [x.ob];exact fun z=>nomatch z) x.fq,e4 pp (by rw [x.pl];exact fun z=>nomatch z) x.fp,x.ne⟩
theorem WS.new {K:PySem.W.Frag} {F H H2:Hp} {A:CAd} {q dx pp:Addr} {s:Nat} {ts:List Addr} {r:Nat ⊕ Way} {P:Pd} (x:WS K F H A q dx pp s ts r P) (e3:Ex H H2):WS K F H2 A q dx pp s ts r P:=x.ext (Evl.Ex.refl _) e3 fun _ _ e=>e
abbrev GrW (q pp:Addr) (F H F' H':Hp):Prop:=Gr (fun b=>b=q∨b=pp) F H F' H'
def sp_way_of (K:PySem.W.Frag):Sp:=fun vs H Q _=>∃ (F:Hp) (A:CAd) (rows:List Row) (lp:Nat→Nat) (n:Nat) (r:Row),vs=[.ref A.p,.int (n:Int)]∧CodeH K F F A rows∧TW rows lp∧Ex F H∧rows[n]?=some r∧FcM.quiet (ndOf r) ∧
 ∀ (v:V) (F' H':Hp),Gr (fun _=>False) F H F' H'→Dp K F' v (wayD (FcM.wayN (ndOf r)))→Q v H'
section
variable {P:Program} {w:World} {h:Heap} {K:PySem.W.Frag} {mg:Str→Option Value} {base:Heap}
abbrev N_way_of:List Str:=["code","place","kind"]
theorem sc_way_of:FnScope N_way_of ["code","place"] (defScope sd_way_of):=⟨rfl,rfl,rfl,by decide +kernel,rfl,by decide +kernel,by decide +kernel⟩
theorem ok_way_of (T:Tx w h K mg):Ok P w K mg base 1 ("way_of",none) ["code","place"] (sp_way_of K):=by
 obtain ⟨fd,F⟩:=F_way_of T
 refine ⟨fd,?_,F.bindsN (fun _ _ _ _ _ _ us hl=>match us,hl with | [_,_],_=>rfl),F.kp⟩
 refine F.ok sc_way_of (fun vs H Q E h=>?_) (fun cdv A outer s H vs Q E hr h=>?_)
 ·obtain ⟨F,A,rows,lp,n,r,rfl,C,W,xF,hr,hq,q⟩:=h
  rfl
 ·obtain ⟨F,A,rows,lp,n,r,rfl,C,W,xF,hr,hq,q⟩:=h
  refine ⟨_,PSs.nox (pss_cons (ps_set (i:=2) sc_way_of.nd rfl (Or.inl rfl) (pe_ix ix_list (pe_fld (pv 0) rfl) (pv 1) (fun _ _=>rfl))) (pss_cons (ps_if (pt_cmpR op_eq (pv 2) pe_str (nomark _)) (pss_one (ps_ret (pe_glob (v:=.ref (He.ga K "NORMAL_runs")) rfl (g_NORMAL_runs T) rfl))) pss_nil) (pss_one (ps_ret (pe_ifExp (pt_cmpR op_isN (pe_ix ix_list (pe_fld (pv 0) rfl) (pv 1) (fun _ _=>rfl)) pe_non (nomark _)) (pe_tup (pa_cons (pv 2) pa_nil)) (pe_tup (pa_cons (pv 2) (pa_cons (pe_ix ix_list (pe_fld (pv 0) rfl) (pv 1) (fun _ _=>rfl)) pa_nil)))))))),?_⟩
  obtain ⟨vs,C1,_⟩:=C.ex (Evl.Ex.refl _) xF
  obtain ⟨c,a⟩:=at_of W C1 hr
  have sv:=(W.sv n r hr).1
  refine ⟨_,rfl,A.p,_,_,_,_,rfl,C1.ob,c_Code T,na_Code_kinds T,fl_Code_kinds _ _ _ _ _,_,rfl,A.a2,_,_,_,rfl,rfl,Evl.sq_of C1.h2,atI_nat a.kd,?_⟩
  have al:=a.lb
  obtain ⟨d,par,ch⟩:=r
  cases sv with
  | do_ x=>exact ⟨_,rfl,rfl,_,rfl,q _ F H (Gr.refl xF) (.tup (t_NORMAL_runs T F) (.cons (.str _) .nil))⟩
  | call x=>exact hq.elim
  | iff x b1 b2=>exact hq.elim
  | whl x b1=>exact hq.elim
  | seq x xs=>exact hq.elim
  | tr b1 b2=>exact hq.elim
  | fin b1 b2=>exact hq.elim
  | ret =>
   refine ⟨_,rfl,rfl,_,rfl,itF rfl ?_⟩
   refine ⟨_,rfl,A.p,_,_,_,_,rfl,C1.ob,c_Code T,na_Code_labels T,fl_Code_labels _ _ _ _ _,_,rfl,A.a3,_,_,_,rfl,rfl,Evl.sq_of C1.h3,atI_nat al,rfl,_,rfl,_,rfl,sz (by simp),?_⟩
   intro p1 n1
   generalize e1:upd _ p1 _=H1
   obtain ⟨x1,s1,o1⟩:=new_of e1 n1
   clear e1
   exact q _ (upd F p1 _) H1 (Gr.frz xF n1 s1 o1) (.tup (Evl.st_of upd_same) (.cons (.str _) .nil))
  | rai =>
   refine ⟨_,rfl,rfl,_,rfl,itF rfl ?_⟩
   refine ⟨_,rfl,A.p,_,_,_,_,rfl,C1.ob,c_Code T,na_Code_labels T,fl_Code_labels _ _ _ _ _,_,rfl,A.a3,_,_,_,rfl,rfl,Evl.sq_of C1.h3,atI_nat al,rfl,_,rfl,_,rfl,sz (by simp),?_⟩
   intro p1 n1
   generalize e1:upd _ p1 _=H1
   obtain ⟨x1,s1,o1⟩:=new_of e1 n1
   clear e1
   exact q _ (upd F p1 _) H1 (Gr.frz xF n1 s1 o1) (.tup (Evl.st_of upd_same) (.cons (.str _) .nil))
  | brk n0 h1 h2 =>
   refine ⟨_,rfl,rfl,_,rfl,itF rfl ?_⟩
   refine ⟨_,rfl,A.p,_,_,_,_,rfl,C1.ob,c_Code T,na_Code_labels T,fl_Code_labels _ _ _ _ _,_,rfl,A.a3,_,_,_,rfl,rfl,Evl.sq_of C1.h3,atI_nat al,rfl,_,rfl,_,rfl,_,rfl,A.p,_,_,_,_,rfl,C1.ob,c_Code T,na_Code_labels T,fl_Code_labels _ _ _ _ _,_,rfl,A.a3,_,_,_,rfl,rfl,Evl.sq_of C1.h3,atI_nat al,sz (by simp),?_⟩
   intro p1 n1
   generalize e1:upd _ p1 _=H1
   obtain ⟨x1,s1,o1⟩:=new_of e1 n1
   clear e1
   have ez:((n0.toNat:Nat):Int)=n0:=by omega
   refine q _ (upd F p1 _) H1 (Gr.frz xF n1 s1 o1) (.tup (Evl.st_of upd_same) (.cons (.str _) (.cons ?_ .nil)))
   show Dp K _ (.int n0) (.int ((n0.toNat:Nat):Int))
   rw [ez]
   exact .int _
  | cnt n0 h1 h2 =>
   refine ⟨_,rfl,rfl,_,rfl,itF rfl ?_⟩
   refine ⟨_,rfl,A.p,_,_,_,_,rfl,C1.ob,c_Code T,na_Code_labels T,fl_Code_labels _ _ _ _ _,_,rfl,A.a3,_,_,_,rfl,rfl,Evl.sq_of C1.h3,atI_nat al,rfl,_,rfl,_,rfl,_,rfl,A.p,_,_,_,_,rfl,C1.ob,c_Code T,na_Code_labels T,fl_Code_labels _ _ _ _ _,_,rfl,A.a3,_,_,_,rfl,rfl,Evl.sq_of C1.h3,atI_nat al,sz (by simp),?_⟩
   intro p1 n1
   generalize e1:upd _ p1 _=H1
   obtain ⟨x1,s1,o1⟩:=new_of e1 n1
   clear e1
   have ez:((n0.toNat:Nat):Int)=n0:=by omega
   refine q _ (upd F p1 _) H1 (Gr.frz xF n1 s1 o1) (.tup (Evl.st_of upd_same) (.cons (.str _) (.cons ?_ .nil)))
   show Dp K _ (.int n0) (.int ((n0.toNat:Nat):Int))
   rw [ez]
   exact .int _
end
end
section
open FcM (Way Node Tab Pd)
def sp_leave (K:PySem.W.Frag):Sp:=fun vs H Q _=>∃ (F:Hp) (A:CAd) (rows:List Row) (lp:Nat→Nat) (q dx pp:Addr) (s:Nat) (ts:List Addr) (n:Nat) (w:Way) (v:V) (P:Pd) (r:Nat ⊕ Way) (P':Pd),vs=[.ref q,.int (n:Int),v] ∧
 CodeH K F F A rows∧TW rows lp∧Ex F H∧n<rows.length∧Dp K F v (wayD w)∧posW w∧WS K F H A q dx pp s ts (.inl s) P∧FcM.Lv (tabOf rows) n w P r P'∧(∀ w',r=.inr w'→FcM.WOk 0 w')∧P.length≤1000 ∧
 ∀ (F' H':Hp) (s':Nat) (ts':List Addr),GrW q pp F H F' H'→WS K F' H' A q dx pp s' ts' r P'→Q .non H'
theorem nrm_dp {w:World} {h:Heap} {K:PySem.W.Frag} {mg:Str→Option Value} (T:Tx w h K mg) (F:Hp):Dp K F (.ref (He.ga K "NORMAL_runs")) (wayD .nrm):=.tup (t_NORMAL_runs T F) (.cons (.str _) .nil)
theorem rai_dp {w:World} {h:Heap} {K:PySem.W.Frag} {mg:Str→Option Value} (T:Tx w h K mg) (F:Hp):Dp K F (.ref (He.ga K "RAISE_runs")) (wayD .rai):=.tup (t_RAISE_runs T F) (.cons (.str _) .nil)
theorem min_way (w u:Way):min (wayD w).depth (wayD u).depth≤200:=by
 have:=dep_way w
 omega
theorem int_ne {a b:Nat} (h:a≠b):(!decide (V.int (a:Int)=V.int (b:Int)))=true:=by
 rw [decide_eq_false (fun z=>h (by have:=V.int.inj z;omega))]<;>rfl
theorem int_eq {a b:Nat} (h:a=b):(!decide (V.int (a:Int)=V.int (b:Int)))=false:=by
 rw [decide_eq_true (by rw [h])]<;>rfl
theorem fin_spot {K:PySem.W.Frag} {F H F1 H' H2:Hp} {A:CAd} {q dx pp:Addr} {s:Nat} {ts1:List Addr} {P1:Pd} (gr:GrW q pp F H F1 H') (ws:WS K F1 H' A q dx pp s ts1 (.inl s) P1) (x2:Ex H' H2) (e:Nat) :
  GrW q pp F H F1 (upd H2 q (.ins (He.ga K "Walker") dx (fl_Walker (.ref A.p) (.ref pp) (.int (e:Int)) .non)))∧WS K F1 (upd H2 q (.ins (He.ga K "Walker") dx (fl_Walker (.ref A.p) (.ref pp) (.int (e:Int)) .non))) A q dx pp e ts1 (.inl e) P1:=by
 refine ⟨gr.trans ((Gr.new gr.fh x2).trans (Gr.set (gr.fh.trans x2) (.inl rfl) ws.fq (fun b hb=>upd_ne hb))),upd_same,fun n h=>(Sum.inl.inj h).symm,?_,ws.pa,ws.fq,ws.fp,ws.ne⟩
 rw [upd_ne ws.ne.symm]
 exact x2 _ _ ws.pl
theorem idx_at {l1 l2:List Nat} {n m:Nat}:(intsV (l1++n::m::l2))[l1.length]?=some (.int (n:Int))∧atI (intsV (l1++n::m::l2)) ((l1.length:Int) + 1)=some (.int (m:Int)):=by
 refine ⟨ints_at (by simp),?_⟩
 have e:((l1.length:Int) + 1)=((l1.length + 1:Nat):Int):=by omega
 rw [e]
 refine atI_nat (ints_at ?_)
 rw [List.getElem?_append_right (by omega)]
 simp
theorem idx_first {l1 l2:List Nat} {n:Nat} (nd:(l1++n::l2).Nodup) (j:Nat) (z:V) (hj:j<l1.length) (h:(intsV (l1++n::l2))[j]?=some z):eqV z (.int (n:Int))=false:=by
 unfold intsV at h
 rw [List.getElem?_map,List.getElem?_append_left hj,List.getElem?_eq_getElem hj] at h
 cases h
 have hne:l1[j]≠n:=fun e=>by
  have z:=(List.nodup_append.mp nd).2.2 l1[j] (List.getElem_mem hj) n List.mem_cons_self
  exact z e
 have:¬ ((l1[j]:Nat):Int)=(n:Int):=by omega
 simp [eqV,this]
theorem last_at {l:List Nat} {n:Nat} (h:l.getLast?=some n):atI (intsV l) (-1)=some (.int (n:Int)):=by
 obtain ⟨l',rfl⟩:=List.getLast?_eq_some_iff.mp h
 unfold intsV
 rw [List.map_append]
 exact atI_last _ _
theorem any_again (w:Way):([wayD .nrm,wayD (.cnt 1)].any fun z=>PyData.eqv z (wayD w))=FcM.again w:=by
 show (PyData.eqv (wayD .nrm) (wayD w) || (PyData.eqv (wayD (.cnt 1)) (wayD w) || false))=_
 rw [eqv_way,eqv_way,Bool.or_false]
 unfold FcM.again
 congr 1
 ·exact decide_eq_decide.mpr ⟨Eq.symm,Eq.symm⟩
 ·exact decide_eq_decide.mpr ⟨Eq.symm,Eq.symm⟩
theorem can_two:PyData.canLayAll0 [wayD .nrm,wayD (.cnt 1)]=true:=by kernel_rfl
theorem min_two (w:Way):min (PyData.depthAll [wayD .nrm,wayD (.cnt 1)]) (wayD w).depth≤150:=by
 have:=dep_way w
 omega
theorem int_is {a b:Nat} (h:a=b):decide (V.int (a:Int)=V.int (b:Int))=true:=decide_eq_true (by rw [h])
theorem int_not {a b:Nat} (h:a≠b):decide (V.int (a:Int)=V.int (b:Int))=false:=decide_eq_false (fun z=>h (by have:=V.int.inj z;omega))
section
variable {P:Program} {w:World} {h:Heap} {K:PySem.W.Frag} {mg:Str→Option Value} {base:Heap}
abbrev N_Walker_leave:List Str:=["self","number","way","parent","kind","parts"]
theorem sc_Walker_leave:FnScope N_Walker_leave ["self","number","way"] (defScope sd_Walker_leave):=⟨rfl,rfl,rfl,by decide +kernel,rfl,by decide +kernel,by decide +kernel⟩
theorem ok_Walker_leave (T:Tx w h K mg):Ok P w K mg base 2 ("Walker",some "leave") ["self","number","way"] (sp_leave K):=by
 obtain ⟨fd,F⟩:=F_Walker_leave T
 refine ⟨fd,?_,F.bindsN (fun _ _ _ _ _ _ us hl=>match us,hl with | [_,_,_],_=>rfl),F.kp⟩
 obtain ⟨fd_Code_entry_of,G_Code_entry_of,bi_Code_entry_of,kp_Code_entry_of⟩:=ok_Code_entry_of (P:=P) (base:=base) T
 obtain ⟨es,nE,D⟩:=d_ENDS T
 refine F.ok sc_Walker_leave (fun vs H Q E h=>?_) (fun cdv A outer s H vs Q E hr h=>?_)
 ·obtain ⟨F,A,rows,lp,q,dx,pp,s,ts,n,w,v,P0,r,P',rfl,C,W,xF,hn,hv,hpw,ws,lv,hend,hP,Qq⟩:=h
  rfl
 ·obtain ⟨F,A,rows,lp,q,dx,pp,s,ts,n,w,v,P0,r,P',rfl,C,W,xF,hn,hv,hpw,ws,lv,hend,hP,Qq⟩:=h
  refine ⟨_,PSs.nox (pss_cons (ps_while PassesOwn.never (pt_cmpR op_notN (pe_ix ix_list (pe_fld (pe_fld (pv 0) rfl) rfl) (pv 1) (fun _ _=>rfl)) pe_non (nomark _)) (pss_cons (ps_set (i:=3) sc_Walker_leave.nd rfl (Or.inl rfl) (pe_ix ix_list (pe_fld (pe_fld (pv 0) rfl) rfl) (pv 1) (fun _ _=>rfl))) (pss_cons (ps_par rfl sc_Walker_leave.nd (i:=4) (j:=5) rfl rfl (by decide) rfl rfl (pa_cons (pe_ix ix_list (pe_fld (pe_fld (pv 0) rfl) rfl) (pv 3) (fun _ _=>rfl)) (pa_cons (pe_ix ix_list (pe_fld (pe_fld (pv 0) rfl) rfl) (pv 3) (fun _ _=>rfl)) pa_nil)) (by rfl)) (pss_cons (ps_if (PW.pt (pw_and (pt_cmpR op_eq (pv 4) pe_str (nomark _)) (pw_and (pt_cmpR (op_eqM hr) (pv 2) (pe_glob (v:=.ref (He.ga K "NORMAL_runs")) rfl (g_NORMAL_runs T) rfl) (nomark _)) (pw_and1 (pt_cmpR op_ne (pv 1) (pe_ix ix_list (pv 5) (pe_un un_neg pe_int) (fun _ _=>rfl)) (nomark _)))))) (pss_cons (ps_fld (pv 0) (pe_meth (pe_fld (pv 0) rfl) (c_Code T) (me_Code_entry_of T) G_Code_entry_of (hr.mono (by decide)) bi_Code_entry_of .nil passF (pa_cons (pe_ix ix_list (pv 5) (pe_op op_add (pe_bm PySem.F.plainAttrs_list PySem.F.slot_list_index PySem.F.type_list_index mt_index (pv 5) (pa_cons (pv 1) pa_nil)) pe_int) (fun _ _=>rfl)) pa_nil)) rfl) (pss_one ps_retN)) pss_nil) (pss_cons (ps_if (PW.pt (pw_and (pt_cmpR op_eq (pv 4) pe_str (nomark _)) (pw_and1 (pt_cmpR (op_inT hr) (pv 2) (pe_tup (pa_cons (pe_glob (v:=.ref (He.ga K "NORMAL_runs")) rfl (g_NORMAL_runs T) rfl) (pa_cons (pe_tup (pa_cons pe_str (pa_cons pe_int pa_nil))) pa_nil))) (by rfl))))) (pss_cons (ps_fld (pv 0) (pv 3) rfl) (pss_one ps_retN)) pss_nil) (pss_cons (ps_if (PW.pt (pw_and (pt_cmpR op_eq (pv 4) pe_str (nomark _)) (pw_and (pt_cmpR (op_eqM hr) (pv 2) (pe_glob (v:=.ref (He.ga K "RAISE_runs")) rfl (g_RAISE_runs T) rfl) (nomark _)) (pw_and1 (pt_cmpR op_eq (pv 1) (pe_ix ix_list (pv 5) pe_int (fun _ _=>rfl)) (nomark _)))))) (pss_cons (ps_fld (pv 0) (pe_meth (pe_fld (pv 0) rfl) (c_Code T) (me_Code_entry_of T) G_Code_entry_of (hr.mono (by decide)) bi_Code_entry_of .nil passF (pa_cons (pe_ix ix_list (pv 5) pe_int (fun _ _=>rfl)) pa_nil)) rfl) (pss_one ps_retN)) pss_nil) (pss_cons (ps_if (PW.pt (pw_and (pt_cmpR op_eq (pv 4) pe_str (nomark _)) (pw_and1 (pt_cmpR op_eq (pv 1) (pe_ix ix_list (pv 5) pe_int (fun _ _=>rfl)) (nomark _))))) (pss_cons (ps_expr (pe_bm PySem.F.plainAttrs_list PySem.F.slot_list_append PySem.F.type_list_append mt_append (pe_fld (pv 0) rfl) (pa_cons (pe_tup (pa_cons (pv 3) (pa_cons (pv 2) pa_nil))) pa_nil))) (pss_cons (ps_fld (pv 0) (pe_meth (pe_fld (pv 0) rfl) (c_Code T) (me_Code_entry_of T) G_Code_entry_of (hr.mono (by decide)) bi_Code_entry_of .nil passF (pa_cons (pe_ix ix_list (pv 5) pe_int (fun _ _=>rfl)) pa_nil)) rfl) (pss_one ps_retN))) pss_nil) (pss_cons (ps_if (PW.pt (pw_and (pt_cmpR op_eq (pv 4) pe_str (nomark _)) (pw_and1 (pt_cmpR (op_eqM hr) (pv 2) (pe_glob (v:=.ref (He.ga K "NORMAL_runs")) rfl (g_NORMAL_runs T) rfl) (nomark _))))) (pss_cons (ps_fld (pv 0) (pv 3) rfl) (pss_one ps_retN)) pss_nil) (pss_cons (ps_if (pt_cmpR op_eq (pv 4) pe_str (nomark _)) (pss_one (ps_expr (pe_bm0 PySem.F.plainAttrs_list PySem.F.slot_list_pop PySem.F.type_list_pop mt_pop (pe_fld (pv 0) rfl)))) pss_nil) (pss_cons (ps_if (PW.pt (pw_and (pt_cmpR op_eq (pv 4) pe_str (nomark _)) (pw_and1 (pt_cmpR op_eq (pe_callB call_len_seq rfl (fr_len T) b_len (pa_cons (pv 2) pa_nil)) pe_int (nomark _))))) (pss_one (ps_set (i:=2) sc_Walker_leave.nd rfl (Or.inl rfl) (pe_ifExp (pt_cmpR (op_eqM hr) (pv 2) (pe_tup (pa_cons pe_str (pa_cons pe_int pa_nil))) (nomark _)) (pe_glob (v:=.ref (He.ga K "NORMAL_runs")) rfl (g_NORMAL_runs T) rfl) (pe_tup (pa_cons (pe_ix ix_tup (pv 2) pe_int (fun _ _=>rfl)) (pa_cons (pe_op op_sub (pe_ix ix_tup (pv 2) pe_int (fun _ _=>rfl)) pe_int) pa_nil)))))) pss_nil) (pss_one (ps_set (i:=1) sc_Walker_leave.nd rfl (Or.inl rfl) (pv 3))))))))))))) (pss_one (ps_fld (pv 0) (pe_ix ix_kdict (pe_glob (v:=.ref (He.ga K "ENDS")) rfl (g_ENDS T) rfl) (pe_ix ix_tup (pv 2) pe_int (fun _ _=>rfl)) (fun _ _=>rfl)) rfl))),?_⟩
  refine ⟨fun m σ' H'=>∃ (n':Nat) (w':Way) (v':V) (P1:Pd) (ts1:List Addr) (F1:Hp) (o3 o4 o5:Option V),m=n'∧σ'=[some (.ref q),some (.int (n':Int)),some v',o3,o4,o5]∧GrW q pp F H F1 H'∧WS K F1 H' A q dx pp s ts1 (.inl s) P1∧Dp K F1 v' (wayD w')∧posW w'∧FcM.Lv (tabOf rows) n' w' P1 r P'∧n'<rows.length∧P1.length≤1000,
   ⟨n,n,w,v,P0,ts,F,_,_,_,rfl,rfl,Gr.refl xF,ws,hv,hpw,lv,hn,hP⟩,?_⟩
  rintro m σ' H' ⟨n',w',v',P1,ts1,F1,o3,o4,o5,rfl,rfl,gr,ws1,hv1,hpw1,lv1,hn1,hP1⟩
  obtain ⟨rw,hr⟩:=row_at hn1
  have xC:Ex F H':=gr.ff.trans gr.fh
  obtain ⟨vs,C1,_⟩:=C.ex (Evl.Ex.refl _) xC
  obtain ⟨c,a⟩:=at_of W C1 hr
  have hpr:(tabOf rows).pr m=rw.par:=by
   show rows[m]?.bind Row.par=rw.par
   rw [hr]<;>rfl
  refine ⟨_,rfl,q,_,_,_,_,rfl,ws1.ob,c_Walker T,na_Walker_source T,fl_Walker_source _ _ _ _,A.p,_,_,_,_,rfl,C1.ob,c_Code T,na_Code_parents T,fl_Code_parents _ _ _ _ _,_,rfl,A.a4,_,_,_,rfl,rfl,Evl.sq_of C1.h4,atI_nat a.pr,rfl,_,rfl,?_⟩
  cases hpar:rw.par with
  | none =>
   rw [hpar] at hpr
   cases lv1 with
   | top h1 =>
    refine itF (by rfl) ?_
    have hok:=hend _ rfl
    obtain ⟨va,vx,rfl,vS,vA⟩:=dp_tup hv1
    have vS2:=Evl.ex_t gr.fh vS
    obtain ⟨kw,hkw,hen⟩:∃ kw,(wayL w')[0]?=some (.str kw)∧(kw,He.Dv.str (endS w'))∈([("normal",.str "end"),("return",.str "return"),("raise",.str "raise")]:List (Str×He.Dv)):=by
     cases w' with
     | nrm=>exact ⟨_,rfl,by simp [endS]⟩
     | ret=>exact ⟨_,rfl,by simp [endS]⟩
     | rai=>exact ⟨_,rfl,by simp [endS]⟩
     | brk k =>
      have z:1≤k∧k≤0:=hok
      omega
     | cnt k =>
      have z:1≤k∧k≤0:=hok
      omega
    obtain ⟨y0,hy0,dy0⟩:=dpA_get vA hkw
    obtain rfl:=dp_str dy0
    obtain ⟨u,n1,ru⟩:=v_ENDS T hen
    refine ⟨_,rfl,va,_,_,_,rfl,rfl,vS2,atI_nat hy0,_,kw,.str (endS w'),rfl,rfl,⟨es,nE,u,D.at_,D.lit,n1,ru⟩,?_⟩
    refine ⟨_,rfl,q,_,dx,_,rfl,ws1.ob,c_Walker T,na_Walker_end T,(by simp [fl_Walker]),?_⟩
    rw [fp_Walker_end]
    refine Qq F1 _ s ts1 (gr.trans (Gr.set gr.fh (.inl rfl) ws1.fq (fun b hb=>upd_ne hb))) ⟨upd_same,fun n h=>(by cases h),by rw [upd_ne ws1.ne.symm];exact ws1.pl,ws1.pa,ws1.fq,ws1.fp,ws1.ne⟩
   | seqN h1=>rw [hpr] at h1;cases h1
   | seqU h1=>rw [hpr] at h1;cases h1
   | whlA h1=>rw [hpr] at h1;cases h1
   | whlU h1=>rw [hpr] at h1;cases h1
   | tryH h1=>rw [hpr] at h1;cases h1
   | tryU h1=>rw [hpr] at h1;cases h1
   | iffU h1=>rw [hpr] at h1;cases h1
   | finB h1=>rw [hpr] at h1;cases h1
   | finE h1=>rw [hpr] at h1;cases h1
   | finO h1=>rw [hpr] at h1;cases h1
  | some p =>
   rw [hpar] at hpr
   obtain ⟨apl,acl,amem⟩:=W.pu m rw p hr hpar
   obtain ⟨rp,hrp⟩:=row_at acl
   obtain ⟨c2,a2⟩:=at_of W C1 hrp
   have apr:(rows.map fun r=>parV r.par)[m]?=some (.int (p:Int)):=by rw [a.pr,hpar]<;>rfl
   refine itT (by rfl) ⟨fun σ' H'=>∃ (n':Nat) (w':Way) (v':V) (P1:Pd) (ts1:List Addr) (F1:Hp) (o3 o4 o5:Option V),n'<m∧σ'=[some (.ref q),some (.int (n':Int)),some v',o3,o4,o5]∧GrW q pp F H F1 H'∧WS K F1 H' A q dx pp s ts1 (.inl s) P1∧Dp K F1 v' (wayD w')∧posW w'∧FcM.Lv (tabOf rows) n' w' P1 r P'∧n'<rows.length∧P1.length≤1000,?_,?_⟩
   ·rintro σ' H2 ⟨n',w',v',P1,ts1,F1,o3,o4,o5,y1,y2,y3⟩
    exact ⟨n',y1,n',w',v',P1,ts1,F1,o3,o4,o5,rfl,y2,y3⟩
   refine ⟨_,rfl,q,_,_,_,_,rfl,ws1.ob,c_Walker T,na_Walker_source T,fl_Walker_source _ _ _ _,A.p,_,_,_,_,rfl,C1.ob,c_Code T,na_Code_parents T,fl_Code_parents _ _ _ _ _,_,rfl,A.a4,_,_,_,rfl,rfl,Evl.sq_of C1.h4,atI_nat apr,?_⟩
   refine ⟨_,rfl,q,_,_,_,_,rfl,ws1.ob,c_Walker T,na_Walker_source T,fl_Walker_source _ _ _ _,A.p,_,_,_,_,rfl,C1.ob,c_Code T,na_Code_kinds T,fl_Code_kinds _ _ _ _ _,_,rfl,A.a2,_,_,_,rfl,rfl,Evl.sq_of C1.h2,atI_nat a2.kd,_,rfl,q,_,_,_,_,rfl,ws1.ob,c_Walker T,na_Walker_source T,fl_Walker_source _ _ _ _,A.p,_,_,_,_,rfl,C1.ob,c_Code T,na_Code_children T,fl_Code_children _ _ _ _ _,_,rfl,A.a5,_,_,_,rfl,rfl,Evl.sq_of C1.h5,atI_nat a2.cs,_,_,rfl,?_⟩
   have hnd:=tab_nd hrp
   have hv2:=dp_ex gr.fh hv1
   cases lv1 with
   | top h1 =>
    rw [hpr] at h1
    cases h1
   | @iffU _ _ x y _ _ _ _ h1 hd up =>
    rw [hpr] at h1
    cases h1
    rw [hnd] at hd
    rw [hd]
    refine ⟨_,rfl,rfl,_,rfl,itF rfl ?_⟩
    refine ⟨_,rfl,rfl,_,rfl,itF rfl ?_⟩
    refine ⟨_,rfl,rfl,_,rfl,itF rfl ?_⟩
    refine ⟨_,rfl,rfl,_,rfl,itF rfl ?_⟩
    refine ⟨_,rfl,rfl,_,rfl,itF rfl ?_⟩
    refine ⟨_,rfl,rfl,_,rfl,itF rfl ?_⟩
    refine ⟨_,rfl,rfl,_,rfl,itF rfl ?_⟩
    exact ⟨_,rfl,p,w',v',P1,ts1,F1,_,_,_,apl,rfl,gr,ws1,hv1,hpw1,up,acl,hP1⟩
   | @seqU _ _ _ l _ _ _ h1 hd hw up =>
    rw [hpr] at h1
    cases h1
    rw [hnd] at hd
    rw [hd]
    have hch:rp.ch=l:=by rw [(W.sv p rp hrp).2.2,hd]<;>rfl
    refine ⟨_,rfl,rfl,_,rfl,itT rfl ?_⟩
    by_cases hwn:w'=.nrm
    ·rcases hw with hw | hw
     ·exact absurd hwn hw
     refine ⟨_,rfl,_,_,hv2,nrm_dp T H',can_way _,can_way _,min_way _ _,_,rfl,itT (by rw [eqv_way];exact decide_eq_true hwn) ?_⟩
     refine ⟨_,rfl,_,rfl,_,rfl,c2,_,_,_,rfl,rfl,Evl.sq_of a2.ch,(by rw [hch];exact last_at hw),rfl,_,rfl,itF (int_eq rfl) ?_⟩
     refine ⟨_,rfl,rfl,_,rfl,itF rfl ?_⟩
     refine ⟨_,rfl,rfl,_,rfl,itF rfl ?_⟩
     refine ⟨_,rfl,rfl,_,rfl,itF rfl ?_⟩
     refine ⟨_,rfl,rfl,_,rfl,itF rfl ?_⟩
     refine ⟨_,rfl,rfl,_,rfl,itF rfl ?_⟩
     refine ⟨_,rfl,rfl,_,rfl,itF rfl ?_⟩
     exact ⟨_,rfl,p,w',v',P1,ts1,F1,_,_,_,apl,rfl,gr,ws1,hv1,hpw1,up,acl,hP1⟩
    ·refine ⟨_,rfl,_,_,hv2,nrm_dp T H',can_way _,can_way _,min_way _ _,_,rfl,itF (by rw [eqv_way];exact decide_eq_false hwn) ?_⟩
     refine ⟨_,rfl,rfl,_,rfl,itF rfl ?_⟩
     refine ⟨_,rfl,rfl,_,rfl,itF rfl ?_⟩
     refine ⟨_,rfl,rfl,_,rfl,itF rfl ?_⟩
     refine ⟨_,rfl,rfl,_,rfl,itF rfl ?_⟩
     refine ⟨_,rfl,rfl,_,rfl,itF rfl ?_⟩
     refine ⟨_,rfl,rfl,_,rfl,itF rfl ?_⟩
     exact ⟨_,rfl,p,w',v',P1,ts1,F1,_,_,_,apl,rfl,gr,ws1,hv1,hpw1,up,acl,hP1⟩
   | @seqN _ _ mm kk ee l l1 l2 _ h1 hd hl he =>
    rw [hpr] at h1
    cases h1
    rw [hnd] at hd
    rw [hd]
    have hch:rp.ch=l:=by rw [(W.sv p rp hrp).2.2,hd]<;>rfl
    have nd:l.Nodup:=by
     have z:=W.wf.nd p acl
     rw [hnd,hd] at z
     exact z
    obtain ⟨z,hz⟩:∃ z,l.getLast?=some z:=by
     cases e:l.getLast? with
     | none=>rw [List.getLast?_eq_none_iff] at e;rw [e] at hl;simp at hl
     | some z=>exact ⟨z,rfl⟩
    have hzn:m≠z:=by
     rw [hl] at nd hz
     rw [List.getLast?_append,List.getLast?_cons_cons] at hz
     intro e
     have hm:z∈mm::l2:=by
      cases e2:(mm::l2).getLast? with
      | none=>simp at e2
      | some y =>
       rw [e2] at hz
       cases hz
       exact List.mem_of_getLast? e2
     rw [← e] at hm
     exact (List.nodup_cons.mp (List.nodup_append.mp nd).2.1).1 hm
    refine ⟨_,rfl,rfl,_,rfl,itT rfl ?_⟩
    refine ⟨_,rfl,_,_,hv2,nrm_dp T H',can_way _,can_way _,min_way _ _,_,rfl,itT (by rw [eqv_way];rfl) ?_⟩
    refine ⟨_,rfl,_,rfl,_,rfl,c2,_,_,_,rfl,rfl,Evl.sq_of a2.ch,(by rw [hch];exact last_at hz),rfl,_,rfl,itT (int_ne hzn) ?_⟩
    subst hl
    have hmm:mm<rows.length:=(W.wf.dn p acl mm (by rw [hnd,hd];exact List.mem_append_right _ (List.mem_cons_of_mem _ List.mem_cons_self))).2.1
    have sqc:=Evl.sq_of (K:=K) a2.ch
    rw [hch] at sqc
    refine ⟨_,rfl,q,_,_,_,_,rfl,ws1.ob,c_Walker T,na_Walker_source T,fl_Walker_source _ _ _ _,A.p,_,_,rfl,C1.ob,fm_Code_entry_of _ _ _ _ _,_,rfl,_,rfl,Or.inl ⟨rfl,_,sqc⟩,_,rfl,c2,_,_,l1.length,_,rfl,rfl,sqc,rfl,flat_ints _,idx_at.1,(by simp [eqV]),idx_first nd,_,_,rfl,rfl,c2,_,_,_,rfl,rfl,sqc,idx_at.2,?_⟩
    refine ⟨F,A,rows,lp,mm,kk,ee,rfl,C,W,xC,hmm,he,fun H2 x2=>⟨_,rfl,q,_,dx,_,rfl,x2 _ _ ws1.ob,c_Walker T,na_Walker_spot T,(by simp [fl_Walker]),?_⟩⟩
    rw [fp_Walker_spot]
    obtain ⟨g2,w2⟩:=fin_spot gr ws1 x2 ee
    exact Qq F1 _ ee ts1 g2 w2
   | @whlA _ _ _ _ h1 hd hw =>
    rw [hpr] at h1
    cases h1
    rw [hnd] at hd
    rw [hd]
    refine ⟨_,rfl,rfl,_,rfl,itF rfl ?_⟩
    refine ⟨_,rfl,rfl,_,rfl,itT rfl ?_⟩
    refine ⟨_,rfl,sz (by simp),?_⟩
    intro p1 n1
    generalize e1:upd _ p1 _=H1
    obtain ⟨x1,s1,o1⟩:=new_of e1 n1
    clear e1
    refine ⟨sz (by simp),?_⟩
    intro p2 n2
    generalize e2:upd _ p2 _=H2
    obtain ⟨x2,s2,o2⟩:=new_of e2 n2
    clear e2
    have xx:=x1.trans x2
    refine ⟨_,[wayD .nrm,wayD (.cnt 1)],dp_ex xx hv2,.tup (Evl.st_of s2) (.cons (nrm_dp T H2) (.cons (.tup (Evl.st_of (x2 _ _ s1)) (.cons (.str _) (.cons (.int _) .nil))) .nil)),can_way _,can_two,min_two _,_,rfl,itT (by rw [any_again];exact hw) ?_⟩
    refine ⟨_,rfl,_,rfl,q,_,dx,_,rfl,xx _ _ ws1.ob,c_Walker T,na_Walker_spot T,(by simp [fl_Walker]),?_⟩
    rw [fp_Walker_spot]
    obtain ⟨g2,w2⟩:=fin_spot gr ws1 xx p
    exact Qq F1 _ p ts1 g2 w2
   | @whlU _ _ _ _ _ _ h1 hd hw up =>
    rw [hpr] at h1
    cases h1
    rw [hnd] at hd
    rw [hd]
    refine ⟨_,rfl,rfl,_,rfl,itF rfl ?_⟩
    refine ⟨_,rfl,rfl,_,rfl,itT rfl ?_⟩
    refine ⟨_,rfl,sz (by simp),?_⟩
    intro p1 n1
    generalize e1:upd _ p1 _=H1
    obtain ⟨x1,s1,o1⟩:=new_of e1 n1
    clear e1
    refine ⟨sz (by simp),?_⟩
    intro p2 n2
    generalize e2:upd _ p2 _=H2
    obtain ⟨x2,s2,o2⟩:=new_of e2 n2
    clear e2
    have xx:=x1.trans x2
    refine ⟨_,[wayD .nrm,wayD (.cnt 1)],dp_ex xx hv2,.tup (Evl.st_of s2) (.cons (nrm_dp T H2) (.cons (.tup (Evl.st_of (x2 _ _ s1)) (.cons (.str _) (.cons (.int _) .nil))) .nil)),can_way _,can_two,min_two _,_,rfl,itF (by rw [any_again];exact hw) ?_⟩
    refine ⟨_,rfl,rfl,_,rfl,itF rfl ?_⟩
    refine ⟨_,rfl,rfl,_,rfl,itF rfl ?_⟩
    refine ⟨_,rfl,rfl,_,rfl,itF rfl ?_⟩
    refine ⟨_,rfl,rfl,_,rfl,itF rfl ?_⟩
    have gr2:GrW q pp F H F1 H2:=gr.trans (Gr.new gr.fh xx)
    have ws2:=ws1.new xx
    refine ⟨_,rfl,rfl,_,rfl,itT rfl ?_⟩
    obtain ⟨va,vx,rfl,vS,vA⟩:=dp_tup hv1
    have vS2:=Evl.ex_t gr2.fh vS
    have vL:=dpA_len vA
    cases w' with
    | nrm=>cases hw
    | ret =>
     refine ⟨_,rfl,va,_,rfl,.inr vS2,rfl,_,rfl,itF (by rw [vL]<;>rfl) ?_⟩
     exact ⟨_,rfl,p,.ret,_,P1,ts1,F1,_,_,_,apl,rfl,gr2,ws2,hv1,trivial,up,acl,hP1⟩
    | rai =>
     refine ⟨_,rfl,va,_,rfl,.inr vS2,rfl,_,rfl,itF (by rw [vL]<;>rfl) ?_⟩
     exact ⟨_,rfl,p,.rai,_,P1,ts1,F1,_,_,_,apl,rfl,gr2,ws2,hv1,trivial,up,acl,hP1⟩
    | brk k =>
     refine ⟨_,rfl,va,_,rfl,.inr vS2,rfl,_,rfl,itT (by rw [vL]<;>rfl) ?_⟩
     refine ⟨_,rfl,sz (by simp),?_⟩
     intro p3 n3
     generalize e3:upd _ p3 _=H3
     obtain ⟨x3,s3,o3⟩:=new_of e3 n3
     clear e3
     refine ⟨_,wayD (.brk 1),dp_ex (gr2.fh.trans x3) hv1,.tup (Evl.st_of s3) (.cons (.str _) (.cons (.int _) .nil)),can_way _,can_way _,min_way _ _,_,rfl,?_⟩
     by_cases hk:k=1
     ·refine itT (by rw [eqv_way];exact decide_eq_true (by rw [hk])) ?_
      have e:FcM.decW (.brk k)=.nrm:=if_pos hk
      rw [e] at up
      exact ⟨_,rfl,p,.nrm,_,P1,ts1,F1,_,_,_,apl,rfl,gr2.trans (Gr.new gr2.fh x3),ws2.new x3,nrm_dp T F1,trivial,up,acl,hP1⟩
     ·refine itF (by rw [eqv_way];exact decide_eq_false (fun z=>hk (by cases z;rfl))) ?_
      have e:FcM.decW (.brk k)=.brk (k - 1):=if_neg hk
      rw [e] at up
      obtain ⟨y0,hy0,dy0⟩:=dpA_get vA (i:=0) rfl
      obtain ⟨y1,hy1,dy1⟩:=dpA_get vA (i:=1) rfl
      obtain rfl:=dp_str dy0
      obtain rfl:=dp_int dy1
      have vS3:=Evl.ex_t x3 vS2
      have k1:1≤k:=hpw1
      refine ⟨_,rfl,va,_,_,_,rfl,rfl,vS3,atI_nat hy0,_,rfl,va,_,_,_,rfl,rfl,vS3,atI_nat hy1,_,_,rfl,rfl,sz (by simp),?_⟩
      intro p4 n4
      generalize e4:upd _ p4 _=H4
      obtain ⟨x4,s4,o4⟩:=new_of e4 n4
      clear e4
      have ek:(k:Int) - 1=((k - 1:Nat):Int):=by omega
      replace s4:H4 p4=some (.tup [.str "break",.int ((k:Int) - 1)]):=s4
      rw [ek] at s4
      have gr3:=gr2.trans (Gr.new gr2.fh x3)
      have gr4:=gr3.trans (Gr.frz gr3.fh n4 s4 o4)
      refine ⟨_,rfl,p,.brk (k - 1),_,P1,ts1,_,_,_,_,apl,rfl,gr4,(ws2.new x3).ext (exu (Evl.Ex.refl _) (ex_none gr3.fh n4)) x4 (fun b hb hf=>by rw [upd_ne (fun z=>hb (by rw [z];exact n4))];exact hf),.tup (Evl.st_of upd_same) (.cons (.str _) (.cons (.int _) .nil)),(show 1≤k - 1 by omega),up,acl,hP1⟩
    | cnt k =>
     refine ⟨_,rfl,va,_,rfl,.inr vS2,rfl,_,rfl,itT (by rw [vL]<;>rfl) ?_⟩
     refine ⟨_,rfl,sz (by simp),?_⟩
     intro p3 n3
     generalize e3:upd _ p3 _=H3
     obtain ⟨x3,s3,o3⟩:=new_of e3 n3
     clear e3
     refine ⟨_,wayD (.brk 1),dp_ex (gr2.fh.trans x3) hv1,.tup (Evl.st_of s3) (.cons (.str _) (.cons (.int _) .nil)),can_way _,can_way _,min_way _ _,_,rfl,?_⟩
     refine itF (by rw [eqv_way];exact decide_eq_false (fun z=>by cases z)) ?_
     have hk:k≠1:=fun z=>by subst z;simp [FcM.again] at hw
     have e:FcM.decW (.cnt k)=.cnt (k - 1):=rfl
     rw [e] at up
     obtain ⟨y0,hy0,dy0⟩:=dpA_get vA (i:=0) rfl
     obtain ⟨y1,hy1,dy1⟩:=dpA_get vA (i:=1) rfl
     obtain rfl:=dp_str dy0
     obtain rfl:=dp_int dy1
     have vS3:=Evl.ex_t x3 vS2
     have k1:1≤k:=hpw1
     refine ⟨_,rfl,va,_,_,_,rfl,rfl,vS3,atI_nat hy0,_,rfl,va,_,_,_,rfl,rfl,vS3,atI_nat hy1,_,_,rfl,rfl,sz (by simp),?_⟩
     intro p4 n4
     generalize e4:upd _ p4 _=H4
     obtain ⟨x4,s4,o4⟩:=new_of e4 n4
     clear e4
     have ek:(k:Int) - 1=((k - 1:Nat):Int):=by omega
     replace s4:H4 p4=some (.tup [.str "continue",.int ((k:Int) - 1)]):=s4
     rw [ek] at s4
     have gr3:=gr2.trans (Gr.new gr2.fh x3)
     have gr4:=gr3.trans (Gr.frz gr3.fh n4 s4 o4)
     refine ⟨_,rfl,p,.cnt (k - 1),_,P1,ts1,_,_,_,_,apl,rfl,gr4,(ws2.new x3).ext (exu (Evl.Ex.refl _) (ex_none gr3.fh n4)) x4 (fun b hb hf=>by rw [upd_ne (fun z=>hb (by rw [z];exact n4))];exact hf),.tup (Evl.st_of upd_same) (.cons (.str _) (.cons (.int _) .nil)),(show 1≤k - 1 by omega),up,acl,hP1⟩
   | @tryH _ _ bb kk ee _ h1 hd he =>
    rw [hpr] at h1
    cases h1
    rw [hnd] at hd
    rw [hd]
    have hch:rp.ch=[m,bb]:=by rw [(W.sv p rp hrp).2.2,hd]<;>rfl
    have sqc:=Evl.sq_of (K:=K) a2.ch
    rw [hch] at sqc
    have hbb:bb<rows.length:=(W.wf.dn p acl bb (by rw [hnd,hd];simp [Node.ch])).2.1
    refine ⟨_,rfl,rfl,_,rfl,itF rfl ?_⟩
    refine ⟨_,rfl,rfl,_,rfl,itF rfl ?_⟩
    refine ⟨_,rfl,rfl,_,rfl,itT rfl ?_⟩
    refine ⟨_,rfl,_,_,hv2,rai_dp T H',can_way _,can_way _,min_way _ _,_,rfl,itT (by rw [eqv_way];rfl) ?_⟩
    refine ⟨_,rfl,_,rfl,c2,_,_,_,rfl,rfl,sqc,at0,rfl,_,rfl,itT (int_is rfl) ?_⟩
    refine ⟨_,rfl,q,_,_,_,_,rfl,ws1.ob,c_Walker T,na_Walker_source T,fl_Walker_source _ _ _ _,A.p,_,_,rfl,C1.ob,fm_Code_entry_of _ _ _ _ _,_,rfl,c2,_,_,_,rfl,rfl,sqc,at1,?_⟩
    refine ⟨F,A,rows,lp,bb,kk,ee,rfl,C,W,xC,hbb,he,fun H9 x9=>⟨_,rfl,q,_,dx,_,rfl,x9 _ _ ws1.ob,c_Walker T,na_Walker_spot T,(by simp [fl_Walker]),?_⟩⟩
    rw [fp_Walker_spot]
    obtain ⟨g2,w2⟩:=fin_spot gr ws1 x9 ee
    exact Qq F1 _ ee ts1 g2 w2
   | @tryU _ _ aa bb _ _ _ _ h1 hd hw up =>
    rw [hpr] at h1
    cases h1
    rw [hnd] at hd
    rw [hd]
    have hch:rp.ch=[aa,bb]:=by rw [(W.sv p rp hrp).2.2,hd]<;>rfl
    have sqc:=Evl.sq_of (K:=K) a2.ch
    rw [hch] at sqc
    refine ⟨_,rfl,rfl,_,rfl,itF rfl ?_⟩
    refine ⟨_,rfl,rfl,_,rfl,itF rfl ?_⟩
    refine ⟨_,rfl,rfl,_,rfl,itT rfl ?_⟩
    by_cases hwn:w'=.rai
    ·rcases hw with hw | hw
     ·exact absurd hwn hw
     refine ⟨_,rfl,_,_,hv2,rai_dp T H',can_way _,can_way _,min_way _ _,_,rfl,itT (by rw [eqv_way];exact decide_eq_true hwn) ?_⟩
     refine ⟨_,rfl,_,rfl,c2,_,_,_,rfl,rfl,sqc,at0,rfl,_,rfl,itF (int_not hw) ?_⟩
     refine ⟨_,rfl,rfl,_,rfl,itF rfl ?_⟩
     refine ⟨_,rfl,rfl,_,rfl,itF rfl ?_⟩
     refine ⟨_,rfl,rfl,_,rfl,itF rfl ?_⟩
     refine ⟨_,rfl,rfl,_,rfl,itF rfl ?_⟩
     exact ⟨_,rfl,p,w',v',P1,ts1,F1,_,_,_,apl,rfl,gr,ws1,hv1,hpw1,up,acl,hP1⟩
    ·refine ⟨_,rfl,_,_,hv2,rai_dp T H',can_way _,can_way _,min_way _ _,_,rfl,itF (by rw [eqv_way];exact decide_eq_false hwn) ?_⟩
     refine ⟨_,rfl,rfl,_,rfl,itF rfl ?_⟩
     refine ⟨_,rfl,rfl,_,rfl,itF rfl ?_⟩
     refine ⟨_,rfl,rfl,_,rfl,itF rfl ?_⟩
     refine ⟨_,rfl,rfl,_,rfl,itF rfl ?_⟩
     exact ⟨_,rfl,p,w',v',P1,ts1,F1,_,_,_,apl,rfl,gr,ws1,hv1,hpw1,up,acl,hP1⟩
   | @finB _ _ bb kk ee _ _ h1 hd he =>
    rw [hpr] at h1
    cases h1
    rw [hnd] at hd
    rw [hd]
    have hch:rp.ch=[m,bb]:=by rw [(W.sv p rp hrp).2.2,hd]<;>rfl
    have sqc:=Evl.sq_of (K:=K) a2.ch
    rw [hch] at sqc
    have hbb:bb<rows.length:=(W.wf.dn p acl bb (by rw [hnd,hd];simp [Node.ch])).2.1
    refine ⟨_,rfl,rfl,_,rfl,itF rfl ?_⟩
    refine ⟨_,rfl,rfl,_,rfl,itF rfl ?_⟩
    refine ⟨_,rfl,rfl,_,rfl,itF rfl ?_⟩
    refine ⟨_,rfl,rfl,_,rfl,itT rfl ?_⟩
    refine ⟨_,rfl,_,rfl,c2,_,_,_,rfl,rfl,sqc,at0,rfl,_,rfl,itT (int_is rfl) ?_⟩
    refine ⟨_,rfl,q,_,_,_,_,rfl,ws1.ob,c_Walker T,na_Walker_pendings T,fl_Walker_pendings _ _ _ _,Or.inl ⟨rfl,_,Evl.sq_of ws1.pl⟩,_,rfl,_,rfl,sz (by simp),?_⟩
    intro p1 n1
    generalize e1:upd _ p1 _=H1
    obtain ⟨x1,s1,o1⟩:=new_of e1 n1
    clear e1
    refine ⟨pp,_,_,rfl,rfl,x1 _ _ ws1.pl,szl (by rw [List.length_map,ws1.pa.len];omega),?_⟩
    generalize e2:upd _ pp _=H2
    obtain ⟨s2,o2⟩:=set_of e2
    clear e2
    have gr1:=gr.trans (Gr.frz gr.fh n1 s1 o1)
    have f1n:F1 p1=none:=ex_none gr.fh n1
    have ppn:pp≠p1:=fun z=>by rw [← z,ws1.pl] at n1;cases n1
    have fpp:upd F1 p1 (.tup [.int (p:Int),v']) pp=none:=by rw [upd_ne ppn];exact ws1.fp
    have gr2:GrW q pp F H (upd F1 p1 (.tup [.int (p:Int),v'])) H2:=gr1.trans (Gr.set gr1.fh (.inr rfl) fpp o2)
    have qn:q≠p1:=fun z=>by rw [← z,ws1.ob] at n1;cases n1
    have ws2:WS K (upd F1 p1 (.tup [.int (p:Int),v'])) H2 A q dx pp s (ts1++[p1]) (.inl s) (P1++[(p,w')]) :=
     ⟨by rw [o2 q ws1.ne];exact x1 _ _ ws1.ob,ws1.sp,by rw [s2,List.map_append]<;>rfl,(ws1.pa.ex (exu (Evl.Ex.refl _) f1n)).push upd_same (dp_ex (exu (Evl.Ex.refl _) f1n) hv1) hpw1,by rw [upd_ne qn];exact ws1.fq,fpp,ws1.ne⟩
    have xC2:Ex F H2:=gr2.ff.trans gr2.fh
    obtain ⟨vs2,C2,_⟩:=C.ex (Evl.Ex.refl _) xC2
    obtain ⟨c3,a3⟩:=at_of W C2 hrp
    have ec:c3=c2:=by
     have z:=a3.cs.symm.trans a2.cs
     cases z
     rfl
    subst ec
    have sqc2:=Evl.sq_of (K:=K) a3.ch
    rw [hch] at sqc2
    refine ⟨_,rfl,q,_,_,_,_,rfl,ws2.ob,c_Walker T,na_Walker_source T,fl_Walker_source _ _ _ _,A.p,_,_,rfl,C2.ob,fm_Code_entry_of _ _ _ _ _,_,rfl,c3,_,_,_,rfl,rfl,sqc2,at1,?_⟩
    refine ⟨F,A,rows,lp,bb,kk,ee,rfl,C,W,xC2,hbb,he,fun H9 x9=>⟨_,rfl,q,_,dx,_,rfl,x9 _ _ ws2.ob,c_Walker T,na_Walker_spot T,(by simp [fl_Walker]),?_⟩⟩
    rw [fp_Walker_spot]
    obtain ⟨g3,w3⟩:=fin_spot gr2 ws2 x9 ee
    exact Qq _ _ ee _ g3 w3
   | @finE _ _ aa _ h1 hd hna =>
    rw [hpr] at h1
    cases h1
    rw [hnd] at hd
    rw [hd]
    have hch:rp.ch=[aa,m]:=by rw [(W.sv p rp hrp).2.2,hd]<;>rfl
    have sqc:=Evl.sq_of (K:=K) a2.ch
    rw [hch] at sqc
    refine ⟨_,rfl,rfl,_,rfl,itF rfl ?_⟩
    refine ⟨_,rfl,rfl,_,rfl,itF rfl ?_⟩
    refine ⟨_,rfl,rfl,_,rfl,itF rfl ?_⟩
    refine ⟨_,rfl,rfl,_,rfl,itT rfl ?_⟩
    refine ⟨_,rfl,_,rfl,c2,_,_,_,rfl,rfl,sqc,at0,rfl,_,rfl,itF (int_not hna) ?_⟩
    refine ⟨_,rfl,rfl,_,rfl,itT rfl ?_⟩
    refine ⟨_,rfl,_,_,hv2,nrm_dp T H',can_way _,can_way _,min_way _ _,_,rfl,itT (by rw [eqv_way];rfl) ?_⟩
    refine ⟨_,rfl,_,rfl,q,_,dx,_,rfl,ws1.ob,c_Walker T,na_Walker_spot T,(by simp [fl_Walker]),?_⟩
    rw [fp_Walker_spot]
    obtain ⟨g2,w2⟩:=fin_spot gr ws1 (Evl.Ex.refl _) p
    exact Qq F1 _ p ts1 g2 w2
   | @finO _ _ aa _ P2 _ xw _ h1 hd hna hw up =>
    rw [hpr] at h1
    cases h1
    rw [hnd] at hd
    rw [hd]
    have hch:rp.ch=[aa,m]:=by rw [(W.sv p rp hrp).2.2,hd]<;>rfl
    have sqc:=Evl.sq_of (K:=K) a2.ch
    rw [hch] at sqc
    refine ⟨_,rfl,rfl,_,rfl,itF rfl ?_⟩
    refine ⟨_,rfl,rfl,_,rfl,itF rfl ?_⟩
    refine ⟨_,rfl,rfl,_,rfl,itF rfl ?_⟩
    refine ⟨_,rfl,rfl,_,rfl,itT rfl ?_⟩
    refine ⟨_,rfl,_,rfl,c2,_,_,_,rfl,rfl,sqc,at0,rfl,_,rfl,itF (int_not hna) ?_⟩
    refine ⟨_,rfl,rfl,_,rfl,itT rfl ?_⟩
    refine ⟨_,rfl,_,_,hv2,nrm_dp T H',can_way _,can_way _,min_way _ _,_,rfl,itF (by rw [eqv_way];exact decide_eq_false hw) ?_⟩
    refine ⟨_,rfl,rfl,_,rfl,itT rfl ?_⟩
    obtain ⟨ts2,tx,vx,rfl,pa2,ht,hdx,hpx⟩:=ws1.pa.pop
    refine ⟨_,rfl,q,_,_,_,_,rfl,ws1.ob,c_Walker T,na_Walker_pendings T,fl_Walker_pendings _ _ _ _,Or.inl ⟨rfl,_,Evl.sq_of ws1.pl⟩,pp,_,.ref tx,rfl,rfl,ws1.pl,(by simp),?_⟩
    generalize e1:upd _ pp _=H1
    obtain ⟨s1,o1⟩:=set_of e1
    clear e1
    have gr1:GrW q pp F H F1 H1:=gr.trans (Gr.set gr.fh (.inr rfl) ws1.fp o1)
    have ws2:WS K F1 H1 A q dx pp s ts2 (.inl s) P2:=⟨by rw [o1 q ws1.ne];exact ws1.ob,ws1.sp,by rw [s1];simp,pa2,ws1.fq,ws1.fp,ws1.ne⟩
    refine ⟨_,rfl,rfl,_,rfl,itF rfl ?_⟩
    exact ⟨_,rfl,p,w',v',P2,ts2,F1,_,_,_,apl,rfl,gr1,ws2,hv1,hpw1,up,acl,(by simp at hP1;omega)⟩
end
end
section
def bV (x:Bool):V:=.int (if x then 1 else 0)
def sp_check_answers (K:PySem.W.Frag):Sp:=fun vs H Q _=>∃ (a:Addr) (bits:List Bool),vs=[.ref a]∧SqL K H a (bits.map bV)∧bits.length≤1000∧∀ H',Ex H H'→Q .non H'
def bD (x:Bool):PyData:=.int (if x then 1 else 0)
theorem dpA_bits {K:PySem.W.Frag} {H:Hp}:∀ bits:List Bool,DpAll K H (bits.map bV) (bits.map bD)
 | []=>.nil
 | _::l=>.cons (.int _) (dpA_bits l)
section
variable {P:Program} {w:World} {h:Heap} {K:PySem.W.Frag} {mg:Str→Option Value} {base:Heap}
abbrev N_check_answers:List Str:=["answers","at","value"]
theorem sc_check_answers:FnScope N_check_answers ["answers"] (defScope sd_check_answers):=⟨rfl,rfl,rfl,by decide +kernel,rfl,by decide +kernel,by decide +kernel⟩
theorem ok_check_answers (T:Tx w h K mg):Ok P w K mg base 3 ("check_answers",none) ["answers"] (sp_check_answers K):=by
 obtain ⟨fd,F⟩:=F_check_answers T
 refine ⟨fd,?_,F.bindsN (fun _ _ _ _ _ _ us hl=>match us,hl with | [_],_=>rfl),F.kp⟩
 obtain ⟨fd_is_between,G_is_between,bi_is_between,kp_is_between⟩:=ok_is_between (P:=P) (base:=base) T
 obtain ⟨tm_MOST_ANSWERS,m_MOST_ANSWERS⟩:=i_MOST_ANSWERS T
 refine F.ok sc_check_answers (fun vs H Q E h=>?_) (fun cdv A outer s H vs Q E hr h=>?_)
 ·obtain ⟨a,bits,rfl,hs,hl,Qq⟩:=h
  rfl
 ·obtain ⟨a,bits,rfl,hs,hl,Qq⟩:=h
  refine ⟨_,PSs.nox (pss_cons (ps_if (PW.pt (pw_or (pt_not (pt_val (pe_callB call_isi rfl (fr_isinstance T) b_isinstance (pa_cons (pv 0) (pa_cons (pe_bltn (v:=.ty "list") rfl (fr_list T) b_list rfl) pa_nil))))) (pw_or1 (pt_cmpR op_gt (pe_callB call_len_seq rfl (fr_len T) b_len (pa_cons (pv 0) pa_nil)) (pe_glob (v:=.int 1000) rfl m_MOST_ANSWERS ⟨_,rfl⟩) (nomark _))))) (pss_one ps_never) pss_nil) (pss_one (ps_for PassesOwn.never rfl (pi_enum rfl (fr_enumerate T) (pa_cons (pv 0) pa_nil)) (pg_tup rfl (pgs_cons (pg_name (i:=1) sc_check_answers.nd rfl (Or.inl rfl)) (pgs_cons (pg_name (i:=2) sc_check_answers.nd rfl (Or.inl rfl)) pgs_nil))) (pss_one (ps_if (pt_not (pt_val (pe_call G_is_between (hr.mono (by decide)) rfl (g_is_between T) kp_is_between bi_is_between .nil passF (pa_cons (pv 2) (pa_cons pe_int (pa_cons pe_int pa_nil)))))) (pss_one ps_never) pss_nil))))),?_⟩
  have hd:Dp K H (.ref a) (.list (bits.map bD)):=.lst hs (dpA_bits bits)
  refine ⟨_,rfl,.ref a,.ty "list",_,_,_,rfl,.ty _,dp_ty hd,k_list _,_,rfl,itF rfl ?_⟩
  refine ⟨_,rfl,a,_,rfl,.inl hs,_,_,rfl,rfl,_,rfl,itF (decide_eq_false (by rw [List.length_map];omega)) ?_⟩
  refine ⟨_,rfl,a,_,rfl,hs,?_⟩
  refine for_it (walk_enum (xs:=bits.map bV)) (fun i σ' H'=>Ex H H'∧∃ o1 o2,σ'=[some (.ref a),o1,o2]) ?_ ?_ ?_ ?_
  ·exact ⟨Evl.Ex.refl _,_,_,rfl⟩
  ·exact fun i σ' H' _ ⟨e,_⟩=>Evl.ex_l e hs
  ·rintro i v σ' H1 H2 hi ⟨e1,o1,o2,rfl⟩ ⟨tp,u1,u2,rfl,n2,rfl,z1,z2⟩
   cases z1
   obtain ⟨x,rfl⟩:∃ x,u2=bV x:=by
    replace z2:(bits.map bV)[i]?=some u2:=z2
    obtain ⟨x,_,e⟩:=List.mem_map.mp (List.mem_of_getElem? z2)
    exact ⟨x,e.symm⟩
   have e2:Ex H (upd H1 tp (.tup [.int (i:Nat),bV x])):=e1.trans (exu (Evl.Ex.refl _) n2)
   refine ⟨tp,_,rfl,Evl.st_of upd_same,rfl,_,_,rfl,_,_,rfl,rfl,?_⟩
   refine ⟨_,rfl,bV x,0,1,rfl,.inl ⟨_,rfl,_,rfl,itF (by cases x<;>rfl) ⟨e2,_,_,rfl⟩⟩⟩
  ·rintro σ' H' ⟨e,_⟩
   exact Qq H' e
end
end
section
open FcM (Way Node Tab)
def kAsk:List Str:=["call","if","while"]
theorem ask_kind (d:Node):decide (kindN d∈kAsk)=FcM.asks d:=by
 cases d<;>first | rfl | (show decide (_∈kAsk)=_;decide +kernel)
end
section
open FcM (Way Node Tab Pd)
def sp_wait (K:PySem.W.Frag):Sp:=fun vs H Q _=>∃ (F:Hp) (A:CAd) (rows:List Row) (lp:Nat→Nat) (q dx pp:Addr) (s:Nat) (ts:List Addr) (P:Pd) (r:Nat ⊕ Way),vs=[.ref q] ∧
 CodeH K F F A rows∧TW rows lp∧Ex F H∧s<rows.length∧WS K F H A q dx pp s ts r P∧Q (.bl (match r with | .inl n=>FcM.asks ((tabOf rows).nd n) | .inr _=>false)) H
def sp_Walker___init__ (K:PySem.W.Frag):Sp:=fun vs H Q _=>∃ (F:Hp) (A:CAd) (rows:List Row) (lp:Nat→Nat) (q dx:Addr) (k e:Nat),vs=[.ref q,.ref A.p]∧H q=some (.ins (He.ga K "Walker") dx []) ∧
 CodeH K F F A rows∧TW rows lp∧Ex F H∧F q=none∧FcM.Ent (tabOf rows) k 0 e∧∀ (H':Hp) (pp:Addr),Gr (fun b=>b=q) F H F H'→H pp=none→WS K F H' A q dx pp e [] (.inl e) []→Q .non H'
def sp_do (K:PySem.W.Frag):Sp:=fun vs H Q _=>∃ (F:Hp) (A:CAd) (rows:List Row) (lp:Nat→Nat) (q dx pp:Addr) (s:Nat) (ts:List Addr) (x:Bool) (P:Pd) (r:Nat ⊕ Way) (P':Pd),vs=[.ref q,bV x] ∧
 CodeH K F F A rows∧TW rows lp∧Ex F H∧s<rows.length∧WS K F H A q dx pp s ts (.inl s) P∧FcM.Dp1 (tabOf rows) s x P r P'∧(∀ w',r=.inr w'→FcM.WOk 0 w')∧P.length≤1000 ∧
 ∀ (F' H':Hp) (s':Nat) (ts':List Addr),GrW q pp F H F' H'→WS K F' H' A q dx pp s' ts' r P'→Q .non H'
theorem pos_quiet {r:Row} {l:Nat} (h:SV (l:Int) r.d):posW (FcM.wayN (ndOf r)):=by
 cases e:ndOf r with
 | brk k=>exact (nd_brk h e).1
 | cnt k=>exact (nd_cnt h e).1
 | _=>exact trivial
section
variable {P:Program} {w:World} {h:Heap} {K:PySem.W.Frag} {mg:Str→Option Value} {base:Heap}
abbrev N_Walker_is_waiting:List Str:=["self"]
theorem sc_Walker_is_waiting:FnScope N_Walker_is_waiting ["self"] (defScope sd_Walker_is_waiting):=⟨rfl,rfl,rfl,by decide +kernel,rfl,by decide +kernel,by decide +kernel⟩
theorem ok_Walker_is_waiting (T:Tx w h K mg):Ok P w K mg base 1 ("Walker",some "is_waiting") ["self"] (sp_wait K):=by
 obtain ⟨fd,F⟩:=F_Walker_is_waiting T
 refine ⟨fd,?_,F.bindsN (fun _ _ _ _ _ _ us hl=>match us,hl with | [_],_=>rfl),F.kp⟩
 refine F.ok sc_Walker_is_waiting (fun vs H Q E h=>?_) (fun cdv A outer s H vs Q E hr h=>?_)
 ·obtain ⟨F,A,rows,lp,q,dx,pp,s,ts,P0,r,rfl,C,W,xF,hs,ws,Qq⟩:=h
  rfl
 ·obtain ⟨F,A,rows,lp,q,dx,pp,s,ts,P0,r,rfl,C,W,xF,hs,ws,Qq⟩:=h
  refine ⟨_,PSs.nox (pss_one (ps_ret (pe_and (pe_cmpR op_isN (pe_fld (pv 0) rfl) pe_non (nomark _)) (pe_one (pe_cmpR op_in_seq (pe_ix ix_list (pe_fld (pe_fld (pv 0) rfl) rfl) (pe_fld (pv 0) rfl) (fun _ _=>rfl)) (pe_glob (v:=.ref (He.ga K "ASKING")) rfl (g_ASKING T) rfl) (by rfl)))))),?_⟩
  obtain ⟨vs,C1,_⟩:=C.ex (Evl.Ex.refl _) xF
  obtain ⟨rw,hr⟩:=row_at hs
  obtain ⟨c,a⟩:=at_of W C1 hr
  have hnd:=tab_nd hr
  cases r with
  | inl n =>
   have e:=ws.sp n rfl
   subst e
   refine ⟨_,rfl,q,_,_,_,_,rfl,ws.ob,c_Walker T,na_Walker_end T,fl_Walker_end _ _ _ _,rfl,_,rfl,itT rfl ?_⟩
   refine ⟨_,rfl,q,_,_,_,_,rfl,ws.ob,c_Walker T,na_Walker_source T,fl_Walker_source _ _ _ _,A.p,_,_,_,_,rfl,C1.ob,c_Code T,na_Code_kinds T,fl_Code_kinds _ _ _ _ _,_,rfl,q,_,_,_,_,rfl,ws.ob,c_Walker T,na_Walker_spot T,fl_Walker_spot _ _ _ _,A.a2,_,_,_,rfl,rfl,Evl.sq_of C1.h2,atI_nat a.kd,He.ga K "ASKING",_,rfl,.inr (t_ASKING T _),rfl,flat_strs kAsk,?_⟩
   replace Qq:Q (.bl (FcM.asks ((tabOf rows).nd n))) H:=Qq
   rw [hnd,← ask_kind,← inV_strs] at Qq
   exact Qq
  | inr w' =>
   exact ⟨_,rfl,q,_,_,_,_,rfl,ws.ob,c_Walker T,na_Walker_end T,fl_Walker_end _ _ _ _,rfl,_,rfl,itF rfl Qq⟩
abbrev N_Walker___init__:List Str:=["self","code"]
theorem sc_Walker___init__:FnScope N_Walker___init__ ["self","code"] (defScope sd_Walker___init__):=⟨rfl,rfl,rfl,by decide +kernel,rfl,by decide +kernel,by decide +kernel⟩
theorem ok_Walker___init__ (T:Tx w h K mg):Ok P w K mg base 2 ("Walker",some "__init__") ["self","code"] (sp_Walker___init__ K):=by
 obtain ⟨fd,F⟩:=F_Walker___init__ T
 refine ⟨fd,?_,F.bindsN (fun _ _ _ _ _ _ us hl=>match us,hl with | [_,_],_=>rfl),F.kp⟩
 obtain ⟨fd_Code_entry_of,G_Code_entry_of,bi_Code_entry_of,kp_Code_entry_of⟩:=ok_Code_entry_of (P:=P) (base:=base) T
 refine F.ok sc_Walker___init__ (fun vs H Q E h=>?_) (fun cdv A outer s H vs Q E hr h=>?_)
 ·obtain ⟨F,A,rows,lp,q,dx,k,e,rfl,hq,C,W,xF,hf,he,Qq⟩:=h
  rfl
 ·obtain ⟨F,A,rows,lp,q,dx,k,e,rfl,hq,C,W,xF,hf,he,Qq⟩:=h
  refine ⟨_,PSs.nox (pss_cons (ps_fld (pv 0) (pv 1) rfl) (pss_cons (ps_fld (pv 0) (pe_lst pa_nil) rfl) (pss_cons (ps_fld (pv 0) (pe_meth (pv 1) (c_Code T) (me_Code_entry_of T) G_Code_entry_of (hr.mono (by decide)) bi_Code_entry_of .nil passF (pa_cons pe_int pa_nil)) rfl) (pss_one (ps_fld (pv 0) pe_non rfl))))),?_⟩
  refine ⟨_,rfl,_,rfl,q,_,dx,_,rfl,hq,c_Walker T,na_Walker_source T,(by simp),?_⟩
  rw [fi_Walker_0]
  generalize e1:upd _ q _=H1
  obtain ⟨s1,o1⟩:=set_of e1
  clear e1
  refine ⟨sz (by simp),?_⟩
  intro p2 n2
  generalize e2:upd _ p2 _=H2
  obtain ⟨x2,s2,o2⟩:=new_of e2 n2
  clear e2
  refine ⟨_,rfl,q,_,dx,_,rfl,x2 _ _ s1,c_Walker T,na_Walker_pendings T,(by simp),?_⟩
  rw [fi_Walker_1]
  generalize e3:upd _ q _=H3
  obtain ⟨s3,o3⟩:=set_of e3
  clear e3
  have hp2:p2≠q:=fun z=>by rw [z,s1] at n2;cases n2
  have xF1:Ex F H1:=set_ex xF hf o1
  have xF3:Ex F H3:=set_ex (xF1.trans x2) hf o3
  obtain ⟨vs,C3,_⟩:=C.ex (Evl.Ex.refl _) xF3
  refine ⟨_,rfl,A.p,_,_,rfl,C3.ob,fm_Code_entry_of _ _ _ _ _,?_⟩
  refine ⟨F,A,rows,lp,0,k,e,rfl,C,W,xF3,W.wf.ne,he,fun H4 x4=>⟨_,rfl,q,_,dx,_,rfl,x4 _ _ s3,c_Walker T,na_Walker_spot T,(by simp),?_⟩⟩
  rw [fi_Walker_2]
  generalize e5:upd _ q _=H5
  obtain ⟨s5,o5⟩:=set_of e5
  clear e5
  refine ⟨_,rfl,q,_,dx,_,rfl,s5,c_Walker T,na_Walker_end T,(by simp),?_⟩
  rw [fi_Walker_3]
  generalize e6:upd _ q _=H6
  obtain ⟨s6,o6⟩:=set_of e6
  clear e6
  have s6':H6 q=some (.ins (He.ga K "Walker") dx (fl_Walker (.ref A.p) (.ref p2) (.int (e:Int)) .non)):=s6
  have g1:Gr (fun b=>b=q) F H F H1:=Gr.set xF rfl hf o1
  have g3:Gr (fun b=>b=q) F H F H3:=(g1.trans (Gr.new xF1 x2)).trans (Gr.set (xF1.trans x2) rfl hf o3)
  have g5:Gr (fun b=>b=q) F H F H5:=(g3.trans (Gr.new xF3 x4)).trans (Gr.set (xF3.trans x4) rfl hf o5)
  have g6:Gr (fun b=>b=q) F H F H6:=g5.trans (Gr.set g5.fh rfl hf o6)
  refine Qq H6 p2 g6 (by rw [← o1 p2 hp2];exact n2) ⟨s6',fun n h=>(Sum.inl.inj h).symm,?_,.nil,hf,?_,hp2.symm⟩
  ·rw [o6 p2 hp2,o5 p2 hp2]
   refine x4 _ _ ?_
   rw [o3 p2 hp2]
   exact s2
  ·exact ex_none xF1 n2
abbrev N_Walker_do_place:List Str:=["self","answer","place","kind"]
theorem sc_Walker_do_place:FnScope N_Walker_do_place ["self","answer"] (defScope sd_Walker_do_place):=⟨rfl,rfl,rfl,by decide +kernel,rfl,by decide +kernel,by decide +kernel⟩
theorem ok_Walker_do_place (T:Tx w h K mg):Ok P w K mg base 3 ("Walker",some "do_place") ["self","answer"] (sp_do K):=by
 obtain ⟨fd,F⟩:=F_Walker_do_place T
 refine ⟨fd,?_,F.bindsN (fun _ _ _ _ _ _ us hl=>match us,hl with | [_,_],_=>rfl),F.kp⟩
 obtain ⟨fd_way_of,G_way_of,bi_way_of,kp_way_of⟩:=ok_way_of (P:=P) (base:=base) T
 obtain ⟨fd_Code_entry_of,G_Code_entry_of,bi_Code_entry_of,kp_Code_entry_of⟩:=ok_Code_entry_of (P:=P) (base:=base) T
 obtain ⟨fd_Walker_leave,G_Walker_leave,bi_Walker_leave,kp_Walker_leave⟩:=ok_Walker_leave (P:=P) (base:=base) T
 refine F.ok sc_Walker_do_place (fun vs H Q E h=>?_) (fun cdv A outer s H vs Q E hr h=>?_)
 ·obtain ⟨F,A,rows,lp,q,dx,pp,s,ts,x,P0,r,P',rfl,C,W,xF,hs,ws,dp,hend,hP,Qq⟩:=h
  rfl
 ·obtain ⟨F,A,rows,lp,q,dx,pp,s,ts,x,P0,r,P',rfl,C,W,xF,hs,ws,dp,hend,hP,Qq⟩:=h
  refine ⟨_,PSs.nox (pss_cons (ps_par rfl sc_Walker_do_place.nd (i:=2) (j:=3) rfl rfl (by decide) rfl rfl (pa_cons (pe_fld (pv 0) rfl) (pa_cons (pe_ix ix_list (pe_fld (pe_fld (pv 0) rfl) rfl) (pe_fld (pv 0) rfl) (fun _ _=>rfl)) pa_nil)) (by rfl)) (pss_one (ps_if (PW.pt (pw_or (pt_cmpR op_eq (pv 3) pe_str (nomark _)) (pw_or1 (PW.pt (pw_and (pt_cmpR op_eq (pv 3) pe_str (nomark _)) (pw_and1 (pt_cmpR op_eq (pv 1) pe_int (nomark _)))))))) (pss_one (ps_fld (pv 0) (pe_meth (pe_fld (pv 0) rfl) (c_Code T) (me_Code_entry_of T) G_Code_entry_of (hr.mono (by decide)) bi_Code_entry_of .nil passF (pa_cons (pe_ix ix_list (pe_ix ix_list (pe_fld (pe_fld (pv 0) rfl) rfl) (pv 2) (fun _ _=>rfl)) (pe_ifExp (pt_cmpR op_eq (pv 3) pe_str (nomark _)) (pv 1) pe_int) (fun _ _=>rfl)) pa_nil)) rfl)) (pss_one (ps_if (pt_cmpR op_eq (pv 3) pe_str (nomark _)) (pss_one (ps_expr (pe_meth (pv 0) (c_Walker T) (me_Walker_leave T) G_Walker_leave (hr.mono (by decide)) bi_Walker_leave .nil passF (pa_cons (pv 2) (pa_cons (pe_glob (v:=.ref (He.ga K "NORMAL_runs")) rfl (g_NORMAL_runs T) rfl) pa_nil))))) (pss_one (ps_if (pt_cmpR op_eq (pv 3) pe_str (nomark _)) (pss_one (ps_expr (pe_meth (pv 0) (c_Walker T) (me_Walker_leave T) G_Walker_leave (hr.mono (by decide)) bi_Walker_leave .nil passF (pa_cons (pv 2) (pa_cons (pe_ifExp (pt_cmpR op_eq (pv 1) pe_int (nomark _)) (pe_glob (v:=.ref (He.ga K "RAISE_runs")) rfl (g_RAISE_runs T) rfl) (pe_glob (v:=.ref (He.ga K "NORMAL_runs")) rfl (g_NORMAL_runs T) rfl)) pa_nil))))) (pss_one (ps_if (pt_cmpR op_eq (pv 3) pe_str (nomark _)) (pss_one (ps_expr (pe_meth (pv 0) (c_Walker T) (me_Walker_leave T) G_Walker_leave (hr.mono (by decide)) bi_Walker_leave .nil passF (pa_cons (pv 2) (pa_cons (pe_ix ix_tup (pe_bm0 PySem.F.plainAttrs_list PySem.F.slot_list_pop PySem.F.type_list_pop mt_pop (pe_fld (pv 0) rfl)) pe_int (fun _ _=>rfl)) pa_nil))))) (pss_one (ps_expr (pe_meth (pv 0) (c_Walker T) (me_Walker_leave T) G_Walker_leave (hr.mono (by decide)) bi_Walker_leave .nil passF (pa_cons (pv 2) (pa_cons (pe_call G_way_of (hr.mono (by decide)) rfl (g_way_of T) kp_way_of bi_way_of .nil passF (pa_cons (pe_fld (pv 0) rfl) (pa_cons (pv 2) pa_nil))) pa_nil)))))))))))))),?_⟩
  obtain ⟨vs,C1,_⟩:=C.ex (Evl.Ex.refl _) xF
  obtain ⟨rw,hr⟩:=row_at hs
  obtain ⟨c,a⟩:=at_of W C1 hr
  have hnd:=tab_nd hr
  have hsv:=(W.sv s rw hr).1
  refine ⟨_,rfl,q,_,_,_,_,rfl,ws.ob,c_Walker T,na_Walker_spot T,fl_Walker_spot _ _ _ _,_,rfl,q,_,_,_,_,rfl,ws.ob,c_Walker T,na_Walker_source T,fl_Walker_source _ _ _ _,A.p,_,_,_,_,rfl,C1.ob,c_Code T,na_Code_kinds T,fl_Code_kinds _ _ _ _ _,_,rfl,q,_,_,_,_,rfl,ws.ob,c_Walker T,na_Walker_spot T,fl_Walker_spot _ _ _ _,A.a2,_,_,_,rfl,rfl,Evl.sq_of C1.h2,atI_nat a.kd,_,_,rfl,?_⟩
  cases dp with
  | @iff aa bb kk ee _ hd he =>
    rw [hnd] at hd
    rw [hd]
    have hch:rw.ch=[aa,bb]:=by rw [(W.sv s rw hr).2.2,hd]<;>rfl
    have sqc:=Evl.sq_of (K:=K) a.ch
    rw [hch] at sqc
    have hcc:(if x then bb else aa)<rows.length:=(W.wf.dn s hs _ (by rw [hnd,hd];cases x<;>simp [Node.ch])).2.1
    have hat:atI (intsV [aa,bb]) (if x then 1 else 0)=some (.int ((if x then bb else aa:Nat):Int)):=by cases x<;>rfl
    refine ⟨_,rfl,rfl,_,rfl,itT rfl ?_⟩
    refine ⟨_,rfl,q,_,_,_,_,rfl,ws.ob,c_Walker T,na_Walker_source T,fl_Walker_source _ _ _ _,A.p,_,_,rfl,C1.ob,fm_Code_entry_of _ _ _ _ _,_,rfl,q,_,_,_,_,rfl,ws.ob,c_Walker T,na_Walker_source T,fl_Walker_source _ _ _ _,A.p,_,_,_,_,rfl,C1.ob,c_Code T,na_Code_children T,fl_Code_children _ _ _ _ _,_,rfl,A.a5,_,_,_,rfl,rfl,Evl.sq_of C1.h5,atI_nat a.cs,?_⟩
    refine ⟨_,rfl,rfl,_,rfl,itT rfl ⟨_,rfl,c,_,_,_,rfl,rfl,sqc,hat,?_⟩⟩
    refine ⟨F,A,rows,lp,_,kk,ee,rfl,C,W,xF,hcc,he,fun H9 x9=>⟨_,rfl,q,_,dx,_,rfl,x9 _ _ ws.ob,c_Walker T,na_Walker_spot T,(by simp [fl_Walker]),?_⟩⟩
    rw [fp_Walker_spot]
    obtain ⟨g2,w2⟩:=fin_spot (Gr.refl xF) ws x9 ee
    exact Qq F _ ee ts g2 w2
  | @whlT aa kk ee _ hd hx he =>
    rw [hnd] at hd
    rw [hd]
    subst hx
    have hch:rw.ch=[aa]:=by rw [(W.sv s rw hr).2.2,hd]<;>rfl
    have sqc:=Evl.sq_of (K:=K) a.ch
    rw [hch] at sqc
    have hcc:aa<rows.length:=(W.wf.dn s hs _ (by rw [hnd,hd];simp [Node.ch])).2.1
    refine ⟨_,rfl,rfl,_,rfl,itF rfl ?_⟩
    refine ⟨_,rfl,rfl,_,rfl,itT rfl ?_⟩
    refine ⟨_,rfl,rfl,_,rfl,itT rfl ?_⟩
    refine ⟨_,rfl,q,_,_,_,_,rfl,ws.ob,c_Walker T,na_Walker_source T,fl_Walker_source _ _ _ _,A.p,_,_,rfl,C1.ob,fm_Code_entry_of _ _ _ _ _,_,rfl,q,_,_,_,_,rfl,ws.ob,c_Walker T,na_Walker_source T,fl_Walker_source _ _ _ _,A.p,_,_,_,_,rfl,C1.ob,c_Code T,na_Code_children T,fl_Code_children _ _ _ _ _,_,rfl,A.a5,_,_,_,rfl,rfl,Evl.sq_of C1.h5,atI_nat a.cs,?_⟩
    refine ⟨_,rfl,rfl,_,rfl,itF rfl ⟨c,_,_,_,rfl,rfl,sqc,at0,?_⟩⟩
    refine ⟨F,A,rows,lp,_,kk,ee,rfl,C,W,xF,hcc,he,fun H9 x9=>⟨_,rfl,q,_,dx,_,rfl,x9 _ _ ws.ob,c_Walker T,na_Walker_spot T,(by simp [fl_Walker]),?_⟩⟩
    rw [fp_Walker_spot]
    obtain ⟨g2,w2⟩:=fin_spot (Gr.refl xF) ws x9 ee
    exact Qq F _ ee ts g2 w2
  | @whlF aa _ _ _ hd hx lv =>
    rw [hnd] at hd
    rw [hd]
    subst hx
    refine ⟨_,rfl,rfl,_,rfl,itF rfl ?_⟩
    refine ⟨_,rfl,rfl,_,rfl,itT rfl ?_⟩
    refine ⟨_,rfl,rfl,_,rfl,itF rfl ?_⟩
    refine ⟨_,rfl,rfl,_,rfl,itT rfl ?_⟩
    refine ⟨_,rfl,q,_,_,rfl,ws.ob,fm_Walker_leave _ _ _ _,_,rfl,?_⟩
    exact ⟨F,A,rows,lp,q,dx,pp,s,ts,s,.nrm,_,P0,r,P',rfl,C,W,xF,hs,nrm_dp T F,trivial,ws,lv,hend,hP,Qq⟩
  | @call _ _ _ hd lv =>
    rw [hnd] at hd
    rw [hd]
    refine ⟨_,rfl,rfl,_,rfl,itF rfl ?_⟩
    refine ⟨_,rfl,rfl,_,rfl,itF rfl ?_⟩
    refine ⟨_,rfl,rfl,_,rfl,itF rfl ?_⟩
    refine ⟨_,rfl,rfl,_,rfl,itT rfl ?_⟩
    refine ⟨_,rfl,q,_,_,rfl,ws.ob,fm_Walker_leave _ _ _ _,_,rfl,?_⟩
    cases x with
    | true =>
     refine ⟨_,rfl,rfl,_,rfl,itT rfl ?_⟩
     exact ⟨F,A,rows,lp,q,dx,pp,s,ts,s,.rai,_,P0,r,P',rfl,C,W,xF,hs,rai_dp T F,trivial,ws,lv,hend,hP,Qq⟩
    | false =>
     refine ⟨_,rfl,rfl,_,rfl,itF rfl ?_⟩
     exact ⟨F,A,rows,lp,q,dx,pp,s,ts,s,.nrm,_,P0,r,P',rfl,C,W,xF,hs,nrm_dp T F,trivial,ws,lv,hend,hP,Qq⟩
  | @fin aa bb qq ww _ _ _ hd lv =>
    rw [hnd] at hd
    rw [hd]
    refine ⟨_,rfl,rfl,_,rfl,itF rfl ?_⟩
    refine ⟨_,rfl,rfl,_,rfl,itF rfl ?_⟩
    refine ⟨_,rfl,rfl,_,rfl,itF rfl ?_⟩
    refine ⟨_,rfl,rfl,_,rfl,itF rfl ?_⟩
    refine ⟨_,rfl,rfl,_,rfl,itT rfl ?_⟩
    refine ⟨_,rfl,q,_,_,rfl,ws.ob,fm_Walker_leave _ _ _ _,_,rfl,?_⟩
    obtain ⟨ts2,tx,vx,rfl,pa2,ht,hdx,hpx⟩:=ws.pa.pop
    refine ⟨_,rfl,q,_,_,_,_,rfl,ws.ob,c_Walker T,na_Walker_pendings T,fl_Walker_pendings _ _ _ _,Or.inl ⟨rfl,_,Evl.sq_of ws.pl⟩,pp,_,.ref tx,rfl,rfl,ws.pl,(by simp),?_⟩
    generalize e1:upd _ pp _=H1
    obtain ⟨s1,o1⟩:=set_of e1
    clear e1
    have gr1:GrW q pp F H F H1:=Gr.set xF (.inr rfl) ws.fp o1
    have ws2:WS K F H1 A q dx pp s ts2 (.inl s) _:=⟨by rw [o1 q ws.ne];exact ws.ob,ws.sp,by rw [s1];simp,pa2,ws.fq,ws.fp,ws.ne⟩
    refine ⟨tx,_,_,_,rfl,rfl,Evl.st_of (gr1.fh _ _ ht),at1,?_⟩
    exact ⟨F,A,rows,lp,q,dx,pp,s,ts2,s,ww,_,_,r,P',rfl,C,W,gr1.fh,hs,hdx,hpx,ws2,lv,hend,(by simp at hP;omega),fun F' H' s' ts' g w=>Qq F' H' s' ts' (gr1.trans g) w⟩
  | @quiet _ _ _ hq lv =>
    rw [hnd] at hq lv
    have kn:kindN (ndOf rw)≠"if"∧kindN (ndOf rw)≠"while"∧kindN (ndOf rw)≠"call"∧kindN (ndOf rw)≠"final":=by
     cases e:ndOf rw<;>rw [e] at hq<;>first | exact hq.elim | exact ⟨(by decide +kernel),(by decide +kernel),(by decide +kernel),(by decide +kernel)⟩ | exact ⟨(show ("break":Str)≠_ by decide +kernel),(show ("break":Str)≠_ by decide +kernel),(show ("break":Str)≠_ by decide +kernel),(show ("break":Str)≠_ by decide +kernel)⟩ | exact ⟨(show ("continue":Str)≠_ by decide +kernel),(show ("continue":Str)≠_ by decide +kernel),(show ("continue":Str)≠_ by decide +kernel),(show ("continue":Str)≠_ by decide +kernel)⟩
    have nk:∀ {k:Str},kindN (ndOf rw)≠k→decide (V.str (kindN (ndOf rw))=V.str k)=false:=fun h=>decide_eq_false fun z=>h (V.str.inj z)
    refine ⟨_,rfl,rfl,_,rfl,itF (nk kn.1) ?_⟩
    refine ⟨_,rfl,rfl,_,rfl,itF (nk kn.2.1) ?_⟩
    refine ⟨_,rfl,rfl,_,rfl,itF (nk kn.2.1) ?_⟩
    refine ⟨_,rfl,rfl,_,rfl,itF (nk kn.2.2.1) ?_⟩
    refine ⟨_,rfl,rfl,_,rfl,itF (nk kn.2.2.2) ?_⟩
    refine ⟨_,rfl,q,_,_,rfl,ws.ob,fm_Walker_leave _ _ _ _,_,rfl,?_⟩
    refine ⟨_,rfl,q,_,_,_,_,rfl,ws.ob,c_Walker T,na_Walker_source T,fl_Walker_source _ _ _ _,_,rfl,?_⟩
    refine ⟨F,A,rows,lp,s,rw,rfl,C,W,xF,hr,hq,fun v F' H' g hv=>?_⟩
    have gw:GrW q pp F H F' H':=⟨g.ff,g.fh,fun b h1 h2 _=>g.nw b h1 h2 (fun z=>z),fun b o e _=>g.kp b o e (fun z=>z)⟩
    have ws2:=ws.ext g.ff (fun b o e=>g.kp b o e (fun z=>z)) (fun b h1 h2=>g.nw b h1 h2 (fun z=>z))
    exact ⟨F',A,rows,lp,q,dx,pp,s,ts,s,_,v,P0,r,P',rfl,C.ex g.ff g.ff,W,g.fh,hs,hv,pos_quiet hsv,ws2,lv,hend,hP,fun F2 H2 s' ts' g2 w2=>Qq F2 H2 s' ts' (gw.trans g2) w2⟩
end
end
section
open FcM (Way Node Tab Pd)
structure Rn (K:PySem.W.Frag) (F H:Hp) (A:CAd) (rows:List Row) (lp:Nat→Nat) (q dx pp:Addr) (bits:List Bool) (cf:FcM.Cfg) (N:Nat) (s:Nat) (ts:List Addr) (r:Nat ⊕ Way) (P:Pd) (u:Nat) (v:List Nat):Prop where
 c:CodeH K F F A rows
 w:TW rows lp
 x:Ex F H
 sl:∀ n,r=.inl n→n<rows.length
 ws:WS K F H A q dx pp s ts r P
 re:FcM.Re (tabOf rows) bits 1000 N ⟨r,P,u,v⟩ cf
 nv:cf.vs.length≤90000
 en:∀ w,cf.at_=.inr w→FcM.WOk 0 w
theorem Rn.endOk {K:PySem.W.Frag} {F H:Hp} {A:CAd} {rows:List Row} {lp:Nat→Nat} {q dx pp:Addr} {bits:List Bool} {cf:FcM.Cfg} {N s:Nat} {ts:List Addr} {r:Nat ⊕ Way} {P:Pd} {u:Nat} {v:List Nat} (R:Rn K F H A rows lp q dx pp bits cf N s ts r P u v)
  {M:Nat} {r':Nat ⊕ Way} {P':Pd} {u':Nat} {v':List Nat} (h:FcM.Re (tabOf rows) bits 1000 M ⟨r',P',u',v'⟩ cf):∀ w',r'=.inr w'→FcM.WOk 0 w':=fun w' e=>by
 subst e
 have z:=h.ended
 exact R.en w' (by rw [z])
def sp_go_on (K:PySem.W.Frag):Sp:=fun vs H Q _=>∃ (F:Hp) (A:CAd) (rows:List Row) (lp:Nat→Nat) (q dx pp:Addr) (bits:List Bool) (cf:FcM.Cfg) (N:Nat) (s:Nat) (ts:List Addr) (r:Nat ⊕ Way) (P:Pd) (u:Nat) (v:List Nat),vs=[.ref q]∧Rn K F H A rows lp q dx pp bits cf N s ts r P u v ∧
 ∀ (F' H':Hp) (s':Nat) (ts':List Addr) (r':Nat ⊕ Way) (P':Pd) (N':Nat) (ds:List Nat) (p:Addr),GrW q pp F H F' H'→Rn K F' H' A rows lp q dx pp bits cf N' s' ts' r' P' u (v++ds)→N'≤N→(∀ n,r'=.inl n→FcM.asks ((tabOf rows).nd n)=true)→H p=none→F' p=none→H' p=some (.lst (intsV ds))→Q (.ref p) H'
section
variable {P:Program} {w:World} {h:Heap} {K:PySem.W.Frag} {mg:Str→Option Value} {base:Heap}
abbrev N_Walker_go_on:List Str:=["self","done"]
theorem sc_Walker_go_on:FnScope N_Walker_go_on ["self"] (defScope sd_Walker_go_on):=⟨rfl,rfl,rfl,by decide +kernel,rfl,by decide +kernel,by decide +kernel⟩
theorem ok_Walker_go_on (T:Tx w h K mg):Ok P w K mg base 4 ("Walker",some "go_on") ["self"] (sp_go_on K):=by
 obtain ⟨fd,F⟩:=F_Walker_go_on T
 refine ⟨fd,?_,F.bindsN (fun _ _ _ _ _ _ us hl=>match us,hl with | [_],_=>rfl),F.kp⟩
 obtain ⟨fd_Walker_do_place,G_Walker_do_place,bi_Walker_do_place,kp_Walker_do_place⟩:=ok_Walker_do_place (P:=P) (base:=base) T
 obtain ⟨fd_Walker_is_waiting,G_Walker_is_waiting,bi_Walker_is_waiting,kp_Walker_is_waiting⟩:=ok_Walker_is_waiting (P:=P) (base:=base) T
 refine F.ok sc_Walker_go_on (fun vs H Q E h=>?_) (fun cdv A outer s H vs Q E hr h=>?_)
 ·obtain ⟨F,A,rows,lp,q,dx,pp,bits,cf,N,s,ts,r,P0,u,v,rfl,R,Qq⟩:=h
  rfl
 ·obtain ⟨F,A,rows,lp,q,dx,pp,bits,cf,N,s,ts,r,P0,u,v,rfl,R,Qq⟩:=h
  refine ⟨_,PSs.nox (pss_cons (ps_set (i:=1) sc_Walker_go_on.nd rfl (Or.inl rfl) (pe_lst pa_nil)) (pss_cons (ps_while PassesOwn.never (PW.pt (pw_and (pt_cmpR op_isN (pe_fld (pv 0) rfl) pe_non (nomark _)) (pw_and1 (pt_not (pt_val (pe_meth0 (pv 0) (c_Walker T) (me_Walker_is_waiting T) G_Walker_is_waiting (hr.mono (by decide)) bi_Walker_is_waiting .nil passF)))))) (pss_cons (ps_expr (pe_bm PySem.F.plainAttrs_list PySem.F.slot_list_append PySem.F.type_list_append mt_append (pv 1) (pa_cons (pe_fld (pv 0) rfl) pa_nil))) (pss_one (ps_expr (pe_meth (pv 0) (c_Walker T) (me_Walker_do_place T) G_Walker_do_place (hr.mono (by decide)) bi_Walker_do_place .nil passF (pa_cons pe_int pa_nil)))))) (pss_one (ps_ret (pv 1))))),?_⟩
  refine ⟨sz (by simp),?_⟩
  intro p1 n1
  generalize e1:upd _ p1 _=H1
  obtain ⟨x1,s1,o1⟩:=new_of e1 n1
  clear e1
  have pq:p1≠q:=fun z=>by rw [z,R.ws.ob] at n1;cases n1
  have ppp:p1≠pp:=fun z=>by rw [z,R.ws.pl] at n1;cases n1
  refine ⟨fun m σ' H'=>∃ (F2:Hp) (s2:Nat) (ts2:List Addr) (r2:Nat ⊕ Way) (P2:Pd) (ds:List Nat),σ'=[some (.ref q),some (.ref p1)]∧GrW q pp F H F2 H'∧Rn K F2 H' A rows lp q dx pp bits cf m s2 ts2 r2 P2 u (v++ds)∧m≤N∧F2 p1=none∧H' p1=some (.lst (intsV ds)),
   ⟨N,F,s,ts,r,P0,[],rfl,Gr.new R.x x1,⟨R.c,R.w,R.x.trans x1,R.sl,R.ws.new x1,by rw [List.append_nil];exact R.re,R.nv,R.en⟩,Nat.le_refl _,ex_none R.x n1,s1⟩,?_⟩
  rintro m σ' H' ⟨F2,s2,ts2,r2,P2,ds,rfl,gr,R2,hm,fp,hl⟩
  cases r2 with
  | inr w' =>
   refine ⟨_,rfl,q,_,_,_,_,rfl,R2.ws.ob,c_Walker T,na_Walker_end T,fl_Walker_end _ _ _ _,rfl,_,rfl,itF rfl ?_⟩
   exact ⟨_,rfl,Qq F2 H' s2 ts2 _ P2 m ds p1 gr R2 hm (fun n e=>nomatch e) n1 fp hl⟩
  | inl n =>
   obtain rfl:s2=n:=(R2.ws.sp n rfl).symm
   refine ⟨_,rfl,q,_,_,_,_,rfl,R2.ws.ob,c_Walker T,na_Walker_end T,fl_Walker_end _ _ _ _,rfl,_,rfl,itT rfl ?_⟩
   refine ⟨_,rfl,q,_,_,rfl,R2.ws.ob,fm_Walker_is_waiting _ _ _ _,?_⟩
   refine ⟨F2,A,rows,lp,q,dx,pp,s2,ts2,P2,.inl s2,rfl,R2.c,R2.w,R2.x,R2.sl s2 rfl,R2.ws,_,rfl,?_⟩
   cases ha:FcM.asks ((tabOf rows).nd s2) with
   | true=>exact itF (show (!FcM.asks ((tabOf rows).nd s2))=false by rw [ha];rfl) ⟨_,rfl,Qq F2 H' s2 ts2 _ P2 m ds p1 gr R2 hm (fun n' e=>by cases e;exact ha) n1 fp hl⟩
   | false =>
    refine itT (show (!FcM.asks ((tabOf rows).nd s2))=true by rw [ha];rfl) ?_
    obtain ⟨M,r3,P3,rfl,d,re3⟩:=R2.re.quiet ha
    have hlen:ds.length<90000:=by
     have:=re3.vs
     have z:=R2.nv
     simp at this
     omega
    refine ⟨_,fun σ' H' h=>⟨M,Nat.lt_succ_self _,h⟩,?_⟩
    refine ⟨_,rfl,Or.inl ⟨rfl,_,Evl.sq_of hl⟩,_,rfl,q,_,_,_,_,rfl,R2.ws.ob,c_Walker T,na_Walker_spot T,fl_Walker_spot _ _ _ _,p1,_,_,rfl,rfl,hl,szl (by unfold intsV;rw [List.length_map];omega),?_⟩
    generalize e5:upd _ p1 _=H5
    obtain ⟨s5,o5⟩:=set_of e5
    clear e5
    have g5:GrW q pp F H F2 H5:=⟨gr.ff,set_ex gr.fh fp o5,gr.nw,fun b o e hb=>by rw [o5 b (ne_of_none e n1)];exact gr.kp b o e hb⟩
    have ws5:WS K F2 H5 A q dx pp s2 ts2 (.inl s2) P2:=⟨by rw [o5 q pq.symm];exact R2.ws.ob,R2.ws.sp,by rw [o5 pp ppp.symm];exact R2.ws.pl,R2.ws.pa,R2.ws.fq,R2.ws.fp,R2.ws.ne⟩
    refine ⟨_,rfl,q,_,_,rfl,ws5.ob,fm_Walker_do_place _ _ _ _,?_⟩
    refine ⟨F2,A,rows,lp,q,dx,pp,s2,ts2,false,P2,r3,P3,rfl,R2.c,R2.w,g5.fh,R2.sl s2 rfl,ws5,d,R2.endOk re3,R2.re.pdl,fun F3 H3 s3 ts3 g3 w3=>?_⟩
    have s5':H5 p1=some (.lst (intsV (ds++[s2]))):=by rw [s5];unfold intsV;rw [List.map_append]<;>rfl
    have nM:¬ (p1=q∨p1=pp):=fun z=>z.elim pq ppp
    have hs3:=FcM.dp_lt R2.w.wf d (R2.sl s2 rfl)
    refine ⟨F3,s3,ts3,r3,P3,ds++[s2],rfl,g5.trans g3,⟨R2.c.ex g3.ff g3.ff,R2.w,g3.fh,hs3,w3,by rw [← List.append_assoc];exact re3,R2.nv,R2.en⟩,by omega,g3.nw p1 (by rw [s5'];exact fun z=>nomatch z) fp nM,g3.kp p1 _ s5' nM⟩
end
end
section
open FcM (Way Node Tab Pd)
def endT (cf:FcM.Cfg):Str:=match cf.at_ with
 | .inl _=>"wait"
 | .inr w=>endS w
def sp_answer (K:PySem.W.Frag):Sp:=fun vs H Q _=>∃ (F:Hp) (A:CAd) (rows:List Row) (lp:Nat→Nat) (q dx pp:Addr) (bits:List Bool) (cf:FcM.Cfg) (N:Nat) (s:Nat) (ts:List Addr) (P:Pd) (u:Nat) (v:List Nat) (x:Bool),vs=[.ref q,bV x]∧Rn K F H A rows lp q dx pp bits cf N s ts (.inl s) P u v ∧
 FcM.asks ((tabOf rows).nd s)=true∧bits[u]?=some x ∧
 ∀ (F' H':Hp) (s':Nat) (ts':List Addr) (r':Nat ⊕ Way) (P':Pd) (N':Nat) (ds:List Nat) (p:Addr),GrW q pp F H F' H'→Rn K F' H' A rows lp q dx pp bits cf N' s' ts' r' P' (u + 1) (v++ds)→N'<N→(∀ n,r'=.inl n→FcM.asks ((tabOf rows).nd n)=true)→H p=none→F' p=none→H' p=some (.lst (intsV ds))→Q (.ref p) H'
section
variable {P:Program} {w:World} {h:Heap} {K:PySem.W.Frag} {mg:Str→Option Value} {base:Heap}
abbrev N_Walker_answer:List Str:=["self","value","done"]
theorem sc_Walker_answer:FnScope N_Walker_answer ["self","value"] (defScope sd_Walker_answer):=⟨rfl,rfl,rfl,by decide +kernel,rfl,by decide +kernel,by decide +kernel⟩
theorem ok_Walker_answer (T:Tx w h K mg):Ok P w K mg base 5 ("Walker",some "answer") ["self","value"] (sp_answer K):=by
 obtain ⟨fd,F⟩:=F_Walker_answer T
 refine ⟨fd,?_,F.bindsN (fun _ _ _ _ _ _ us hl=>match us,hl with | [_,_],_=>rfl),F.kp⟩
 obtain ⟨fd_Walker_do_place,G_Walker_do_place,bi_Walker_do_place,kp_Walker_do_place⟩:=ok_Walker_do_place (P:=P) (base:=base) T
 obtain ⟨fd_Walker_go_on,G_Walker_go_on,bi_Walker_go_on,kp_Walker_go_on⟩:=ok_Walker_go_on (P:=P) (base:=base) T
 refine F.ok sc_Walker_answer (fun vs H Q E h=>?_) (fun cdv A outer s H vs Q E hr h=>?_)
 ·obtain ⟨F,A,rows,lp,q,dx,pp,bits,cf,N,s,ts,P0,u,v,x,rfl,R,ha,hu,Qq⟩:=h
  rfl
 ·obtain ⟨F,A,rows,lp,q,dx,pp,bits,cf,N,s,ts,P0,u,v,x,rfl,R,ha,hu,Qq⟩:=h
  refine ⟨_,PSs.nox (pss_cons (ps_set (i:=2) sc_Walker_answer.nd rfl (Or.inl rfl) (pe_lst (pa_cons (pe_fld (pv 0) rfl) pa_nil))) (pss_cons (ps_expr (pe_meth (pv 0) (c_Walker T) (me_Walker_do_place T) G_Walker_do_place (hr.mono (by decide)) bi_Walker_do_place .nil passF (pa_cons (pv 1) pa_nil))) (pss_one (ps_ret (pe_op op_cat (pv 2) (pe_meth0 (pv 0) (c_Walker T) (me_Walker_go_on T) G_Walker_go_on (hr.mono (by decide)) bi_Walker_go_on .nil passF)))))),?_⟩
  refine ⟨_,rfl,q,_,_,_,_,rfl,R.ws.ob,c_Walker T,na_Walker_spot T,fl_Walker_spot _ _ _ _,sz (by simp),?_⟩
  intro p1 n1
  generalize e1:upd _ p1 _=H1
  obtain ⟨x1,s1,o1⟩:=new_of e1 n1
  clear e1
  have pq:p1≠q:=fun z=>by rw [z,R.ws.ob] at n1;cases n1
  have ppp:p1≠pp:=fun z=>by rw [z,R.ws.pl] at n1;cases n1
  have nM:¬ (p1=q∨p1=pp):=fun z=>z.elim pq ppp
  obtain ⟨M,r3,P3,rfl,d,re3⟩:=R.re.asked ha hu
  have ws1:=R.ws.new x1
  have fp1:=ex_none R.x n1
  refine ⟨_,rfl,q,_,_,rfl,ws1.ob,fm_Walker_do_place _ _ _ _,_,rfl,?_⟩
  refine ⟨F,A,rows,lp,q,dx,pp,s,ts,x,P0,r3,P3,rfl,R.c,R.w,R.x.trans x1,R.sl s rfl,ws1,d,R.endOk re3,R.re.pdl,fun F3 H3 s3 ts3 g3 w3=>?_⟩
  have R3:Rn K F3 H3 A rows lp q dx pp bits cf M s3 ts3 r3 P3 (u + 1) (v++[s]):=⟨R.c.ex g3.ff g3.ff,R.w,g3.fh,FcM.dp_lt R.w.wf d (R.sl s rfl),w3,re3,R.nv,R.en⟩
  have g13:GrW q pp F H F3 H3:=(Gr.new R.x x1).trans g3
  have d3:H3 p1=some (.lst [.int (s:Int)]):=g3.kp p1 _ s1 nM
  have fp3:F3 p1=none:=g3.nw p1 (by rw [s1];exact fun z=>nomatch z) fp1 nM
  refine ⟨_,rfl,_,rfl,q,_,_,rfl,w3.ob,fm_Walker_go_on _ _ _ _,?_⟩
  refine ⟨F3,A,rows,lp,q,dx,pp,bits,cf,M,s3,ts3,r3,P3,u + 1,v++[s],rfl,R3,fun F4 H4 s4 ts4 r4 P4 N4 ds p2 g4 R4 hN hA n2 f2 l2=>?_⟩
  have d4:H4 p1=some (.lst [.int (s:Int)]):=g4.kp p1 _ d3 nM
  have hds:ds.length≤90000:=by
   have z:=R4.re.vs
   have y:=R4.nv
   simp at z
   omega
  refine ⟨p1,p2,_,_,rfl,rfl,d4,l2,sz (by unfold intsV;simp;omega),?_⟩
  intro p5 n5
  generalize e5:upd _ p5 _=H5
  obtain ⟨x5,s5,o5⟩:=new_of e5 n5
  clear e5
  have n5':H p5=none:=by
   cases e:H p5 with
   | none=>rfl
   | some o =>
    by_cases hM:p5=q∨p5=pp
    ·rcases hM with z | z
     ·rw [z,R4.ws.ob] at n5;cases n5
     ·rw [z,R4.ws.pl] at n5;cases n5
    ·rw [(g13.trans g4).kp p5 o e hM] at n5;cases n5
  refine Qq F4 H5 s4 ts4 r4 P4 N4 (s::ds) p5 ((g13.trans g4).trans (Gr.new g4.fh x5)) ⟨R4.c,R4.w,g4.fh.trans x5,R4.sl,R4.ws.new x5,?_,R4.nv,R4.en⟩ (by omega) hA n5' (ex_none g4.fh n5) ?_
  ·have e:v++s::ds=(v++[s])++ds:=by simp
   rw [e]
   exact R4.re
  ·rw [s5]
   rfl
end
end
section
open FcM (Way Node Tab Pd Rs Wt)
theorem goU {t:Tab} {lp:Nat→Nat} {bits:List Bool} (W:t.WF lp) {h n:Nat} (hg:FcM.Hg t h n) (hn:n<t.len) {P:Pd} {u:Nat} {v:List Nat} (hP:P.length + h≤900) (hu:u≤bits.length):u≤(FcM.goF t bits h n P u v).2.1∧(FcM.goF t bits h n P u v).2.1≤bits.length:=by
 have g:=FcM.main (bits:=bits) (B:=900) W h n hg hn P u v hP hu
 rcases hr:FcM.goF t bits h n P u v with ⟨x,u',v'⟩
 rw [hr] at g
 cases x with
 | inl x=>exact ⟨g.1,g.2.1⟩
 | inr w=>exact ⟨g.1,g.2.1⟩
end
end Fc
set_option maxRecDepth 100000
set_option maxHeartbeats 4000000
namespace FcM
section
variable {t:Tab} {lp:Nat→Nat} {bits bits':List Bool} {B:Nat}
theorem Ent.det {k n e:Nat} (h:Ent t k n e):∀ {k' e':Nat},Ent t k' n e'→e=e':=by
 induction h with
 | here h1 h2 h3 =>
  intro k' e' h'
  cases h' with
  | here=>rfl
  | seq h _=>exact absurd h (h1 _)
  | tr h _=>exact absurd h (h2 _ _)
  | fin h _=>exact absurd h (h3 _ _)
 | seq h r ih =>
  intro k' e' h'
  cases h' with
  | here h1 h2 h3=>exact absurd h (h1 _)
  | seq h' r'=>rw [h] at h';cases h';exact ih r'
  | tr h' _=>rw [h] at h';cases h'
  | fin h' _=>rw [h] at h';cases h'
 | tr h r ih =>
  intro k' e' h'
  cases h' with
  | here h1 h2 h3=>exact absurd h (h2 _ _)
  | seq h' r'=>rw [h] at h';cases h'
  | tr h' r'=>rw [h] at h';cases h';exact ih r'
  | fin h' _=>rw [h] at h';cases h'
 | fin h r ih =>
  intro k' e' h'
  cases h' with
  | here h1 h2 h3=>exact absurd h (h3 _ _)
  | seq h' r'=>rw [h] at h';cases h'
  | tr h' _=>rw [h] at h';cases h'
  | fin h' r'=>rw [h] at h';cases h';exact ih r'
theorem nodup_inj {l:List Nat} (nd:l.Nodup) {i j:Nat} (hi:i<l.length) (hj:j<l.length) (h:l[i]=l[j]):i=j:=by
 have p:=List.pairwise_iff_getElem.mp nd
 rcases Nat.lt_trichotomy i j with z | z | z
 ·exact absurd h (p i j hi hj z)
 ·exact z
 ·exact absurd h.symm (p j i hj hi z)
theorem next_one {l:List Nat} (nd:l.Nodup) {n m m':Nat} {l1 l2 l1' l2':List Nat} (h:l=l1++n::m::l2) (h':l=l1'++n::m'::l2'):m=m':=by
 have e1:l[l1.length]?=some n:=by rw [h];simp
 have e2:l[l1'.length]?=some n:=by rw [h'];simp
 have z1:=List.getElem?_eq_some_iff.mp e1
 have z2:=List.getElem?_eq_some_iff.mp e2
 obtain ⟨a1,b1⟩:=z1
 obtain ⟨a2,b2⟩:=z2
 have e:l1.length=l1'.length:=nodup_inj nd a1 a2 (b1.trans b2.symm)
 have f1:l[l1.length + 1]?=some m:=by rw [h];simp
 have f2:l[l1'.length + 1]?=some m':=by rw [h'];simp
 rw [e,f2] at f1
 exact (Option.some.inj f1).symm
theorem not_last {l:List Nat} (nd:l.Nodup) {n m:Nat} {l1 l2:List Nat} (h:l=l1++n::m::l2):l.getLast?≠some n:=fun z=>by
 rw [List.getLast?_eq_getElem?] at z
 have e1:l[l1.length]?=some n:=by rw [h];simp
 obtain ⟨a1,b1⟩:=List.getElem?_eq_some_iff.mp e1
 obtain ⟨a2,b2⟩:=List.getElem?_eq_some_iff.mp z
 have e:l1.length=l.length - 1:=nodup_inj nd a1 a2 (b1.trans b2.symm)
 have:l.length=l1.length + 1 + 1 + l2.length:=by rw [h];simp;omega
 omega
theorem lv_det (W:t.WF lp) {n:Nat} {w:Way} {P P1:Pd} {r1:Nat ⊕ Way} (h:Lv t n w P r1 P1):n<t.len→∀ {r2:Nat ⊕ Way} {P2:Pd},Lv t n w P r2 P2→r1=r2∧P1=P2:=by
 induction h with
 | top h =>
  intro hn r2 P2 h'
  cases h'<;>first | exact ⟨rfl,rfl⟩ | (rename_i h2 _ _;rw [h] at h2;cases h2) | (rename_i h2 _ _ _;rw [h] at h2;cases h2) | (rename_i h2 _ ;rw [h] at h2;cases h2) | (rename_i h2 _ _ _ _;rw [h] at h2;cases h2)
 | seqN h hd hl he =>
  intro hn r2 P2 h'
  have hp:=W.pu _ _ hn h
  have nd:=W.nd _ hp
  rw [hd] at nd
  cases h' with
  | top h2=>rw [h] at h2;cases h2
  | seqN h2 hd2 hl2 he2 =>
   rw [h] at h2;cases h2;rw [hd] at hd2;cases hd2
   obtain rfl:=next_one nd hl hl2
   rw [he.det he2]
   exact ⟨rfl,rfl⟩
  | seqU h2 hd2 hw2 up2 =>
   rw [h] at h2;cases h2;rw [hd] at hd2;cases hd2
   rcases hw2 with z | z
   ·exact absurd rfl z
   ·exact absurd z (not_last nd hl)
  | whlA h2 hd2 _=>rw [h] at h2;cases h2;rw [hd] at hd2;cases hd2
  | whlU h2 hd2 _ _=>rw [h] at h2;cases h2;rw [hd] at hd2;cases hd2
  | tryU h2 hd2 _ _=>rw [h] at h2;cases h2;rw [hd] at hd2;cases hd2
  | iffU h2 hd2 _=>rw [h] at h2;cases h2;rw [hd] at hd2;cases hd2
  | finB h2 hd2 _=>rw [h] at h2;cases h2;rw [hd] at hd2;cases hd2
  | finE h2 hd2 _=>rw [h] at h2;cases h2;rw [hd] at hd2;cases hd2
  | finO h2 hd2 _ _ _=>rw [h] at h2;cases h2;rw [hd] at hd2;cases hd2
 | seqU h hd hw up ih =>
  intro hn r2 P2 h'
  have hp:=W.pu _ _ hn h
  have nd:=W.nd _ hp
  rw [hd] at nd
  cases h' with
  | top h2=>rw [h] at h2;cases h2
  | seqN h2 hd2 hl2 he2 =>
   rw [h] at h2;cases h2;rw [hd] at hd2;cases hd2
   rcases hw with z | z
   ·exact absurd rfl z
   ·exact absurd z (not_last nd hl2)
  | seqU h2 hd2 hw2 up2 =>
   rw [h] at h2;cases h2
   exact ih hp up2
  | whlA h2 hd2 _=>rw [h] at h2;cases h2;rw [hd] at hd2;cases hd2
  | whlU h2 hd2 _ _=>rw [h] at h2;cases h2;rw [hd] at hd2;cases hd2
  | tryH h2 hd2 _=>rw [h] at h2;cases h2;rw [hd] at hd2;cases hd2
  | tryU h2 hd2 _ _=>rw [h] at h2;cases h2;rw [hd] at hd2;cases hd2
  | iffU h2 hd2 _=>rw [h] at h2;cases h2;rw [hd] at hd2;cases hd2
  | finB h2 hd2 _=>rw [h] at h2;cases h2;rw [hd] at hd2;cases hd2
  | finE h2 hd2 _=>rw [h] at h2;cases h2;rw [hd] at hd2;cases hd2
  | finO h2 hd2 _ _ _=>rw [h] at h2;cases h2;rw [hd] at hd2;cases hd2
 | whlA h hd hw =>
  intro hn r2 P2 h'
  cases h' with
  | top h2=>rw [h] at h2;cases h2
  | seqN h2 hd2 _ _=>rw [h] at h2;cases h2;rw [hd] at hd2;cases hd2
  | seqU h2 hd2 _ _=>rw [h] at h2;cases h2;rw [hd] at hd2;cases hd2
  | whlA h2 hd2 _=>rw [h] at h2;cases h2;exact ⟨rfl,rfl⟩
  | whlU h2 hd2 hw2 _=>rw [hw] at hw2;cases hw2
  | tryH h2 hd2 _=>rw [h] at h2;cases h2;rw [hd] at hd2;cases hd2
  | tryU h2 hd2 _ _=>rw [h] at h2;cases h2;rw [hd] at hd2;cases hd2
  | iffU h2 hd2 _=>rw [h] at h2;cases h2;rw [hd] at hd2;cases hd2
  | finB h2 hd2 _=>rw [h] at h2;cases h2;rw [hd] at hd2;cases hd2
  | finE h2 hd2 _=>rw [h] at h2;cases h2;rw [hd] at hd2;cases hd2
  | finO h2 hd2 _ _ _=>rw [h] at h2;cases h2;rw [hd] at hd2;cases hd2
 | whlU h hd hw up ih =>
  intro hn r2 P2 h'
  have hp:=W.pu _ _ hn h
  cases h' with
  | top h2=>rw [h] at h2;cases h2
  | seqN h2 hd2 _ _=>rw [h] at h2;cases h2;rw [hd] at hd2;cases hd2
  | seqU h2 hd2 _ _=>rw [h] at h2;cases h2;rw [hd] at hd2;cases hd2
  | whlA h2 hd2 hw2=>rw [hw] at hw2;cases hw2
  | whlU h2 hd2 hw2 up2=>rw [h] at h2;cases h2;exact ih hp up2
  | tryH h2 hd2 _=>rw [h] at h2;cases h2;rw [hd] at hd2;cases hd2
  | tryU h2 hd2 _ _=>rw [h] at h2;cases h2;rw [hd] at hd2;cases hd2
  | iffU h2 hd2 _=>rw [h] at h2;cases h2;rw [hd] at hd2;cases hd2
  | finB h2 hd2 _=>rw [h] at h2;cases h2;rw [hd] at hd2;cases hd2
  | finE h2 hd2 _=>rw [h] at h2;cases h2;rw [hd] at hd2;cases hd2
  | finO h2 hd2 _ _ _=>rw [h] at h2;cases h2;rw [hd] at hd2;cases hd2
 | tryH h hd he =>
  intro hn r2 P2 h'
  cases h' with
  | top h2=>rw [h] at h2;cases h2
  | seqU h2 hd2 _ _=>rw [h] at h2;cases h2;rw [hd] at hd2;cases hd2
  | whlA h2 hd2 _=>rw [h] at h2;cases h2;rw [hd] at hd2;cases hd2
  | whlU h2 hd2 _ _=>rw [h] at h2;cases h2;rw [hd] at hd2;cases hd2
  | tryH h2 hd2 he2 =>
   rw [h] at h2;cases h2;rw [hd] at hd2;cases hd2
   rw [he.det he2]
   exact ⟨rfl,rfl⟩
  | tryU h2 hd2 hw2 _ =>
   rw [h] at h2;cases h2;rw [hd] at hd2;cases hd2
   rcases hw2 with z | z
   ·exact absurd rfl z
   ·exact absurd rfl z
  | iffU h2 hd2 _=>rw [h] at h2;cases h2;rw [hd] at hd2;cases hd2
  | finB h2 hd2 _=>rw [h] at h2;cases h2;rw [hd] at hd2;cases hd2
  | finO h2 hd2 _ _ _=>rw [h] at h2;cases h2;rw [hd] at hd2;cases hd2
 | tryU h hd hw up ih =>
  intro hn r2 P2 h'
  have hp:=W.pu _ _ hn h
  cases h' with
  | top h2=>rw [h] at h2;cases h2
  | seqN h2 hd2 _ _=>rw [h] at h2;cases h2;rw [hd] at hd2;cases hd2
  | seqU h2 hd2 _ _=>rw [h] at h2;cases h2;rw [hd] at hd2;cases hd2
  | whlA h2 hd2 _=>rw [h] at h2;cases h2;rw [hd] at hd2;cases hd2
  | whlU h2 hd2 _ _=>rw [h] at h2;cases h2;rw [hd] at hd2;cases hd2
  | tryH h2 hd2 he2 =>
   rw [h] at h2;cases h2;rw [hd] at hd2;cases hd2
   rcases hw with z | z
   ·exact absurd rfl z
   ·exact absurd rfl z
  | tryU h2 hd2 hw2 up2=>rw [h] at h2;cases h2;exact ih hp up2
  | iffU h2 hd2 _=>rw [h] at h2;cases h2;rw [hd] at hd2;cases hd2
  | finB h2 hd2 _=>rw [h] at h2;cases h2;rw [hd] at hd2;cases hd2
  | finE h2 hd2 _=>rw [h] at h2;cases h2;rw [hd] at hd2;cases hd2
  | finO h2 hd2 _ _ _=>rw [h] at h2;cases h2;rw [hd] at hd2;cases hd2
 | iffU h hd up ih =>
  intro hn r2 P2 h'
  have hp:=W.pu _ _ hn h
  cases h' with
  | top h2=>rw [h] at h2;cases h2
  | seqN h2 hd2 _ _=>rw [h] at h2;cases h2;rw [hd] at hd2;cases hd2
  | seqU h2 hd2 _ _=>rw [h] at h2;cases h2;rw [hd] at hd2;cases hd2
  | whlA h2 hd2 _=>rw [h] at h2;cases h2;rw [hd] at hd2;cases hd2
  | whlU h2 hd2 _ _=>rw [h] at h2;cases h2;rw [hd] at hd2;cases hd2
  | tryH h2 hd2 he2=>rw [h] at h2;cases h2;rw [hd] at hd2;cases hd2
  | tryU h2 hd2 hw2 up2=>rw [h] at h2;cases h2;rw [hd] at hd2;cases hd2
  | iffU h2 hd2 up2=>rw [h] at h2;cases h2;exact ih hp up2
  | finB h2 hd2 _=>rw [h] at h2;cases h2;rw [hd] at hd2;cases hd2
  | finE h2 hd2 _=>rw [h] at h2;cases h2;rw [hd] at hd2;cases hd2
  | finO h2 hd2 _ _ _=>rw [h] at h2;cases h2;rw [hd] at hd2;cases hd2
 | finB h hd he =>
  intro hn r2 P2 h'
  cases h' with
  | top h2=>rw [h] at h2;cases h2
  | seqN h2 hd2 _ _=>rw [h] at h2;cases h2;rw [hd] at hd2;cases hd2
  | seqU h2 hd2 _ _=>rw [h] at h2;cases h2;rw [hd] at hd2;cases hd2
  | whlA h2 hd2 _=>rw [h] at h2;cases h2;rw [hd] at hd2;cases hd2
  | whlU h2 hd2 _ _=>rw [h] at h2;cases h2;rw [hd] at hd2;cases hd2
  | tryH h2 hd2 he2=>rw [h] at h2;cases h2;rw [hd] at hd2;cases hd2
  | tryU h2 hd2 hw2 up2=>rw [h] at h2;cases h2;rw [hd] at hd2;cases hd2
  | iffU h2 hd2 up2=>rw [h] at h2;cases h2;rw [hd] at hd2;cases hd2
  | finB h2 hd2 he2 =>
   rw [h] at h2;cases h2;rw [hd] at hd2;cases hd2
   rw [he.det he2]
   exact ⟨rfl,rfl⟩
  | finE h2 hd2 hn2=>rw [h] at h2;cases h2;rw [hd] at hd2;cases hd2;exact absurd rfl hn2
  | finO h2 hd2 hn2 _ _=>rw [h] at h2;cases h2;rw [hd] at hd2;cases hd2;exact absurd rfl hn2
 | finE h hd hn1 =>
  intro hn r2 P2 h'
  cases h' with
  | top h2=>rw [h] at h2;cases h2
  | seqN h2 hd2 _ _=>rw [h] at h2;cases h2;rw [hd] at hd2;cases hd2
  | seqU h2 hd2 _ _=>rw [h] at h2;cases h2;rw [hd] at hd2;cases hd2
  | whlA h2 hd2 _=>rw [h] at h2;cases h2;rw [hd] at hd2;cases hd2
  | whlU h2 hd2 _ _=>rw [h] at h2;cases h2;rw [hd] at hd2;cases hd2
  | tryU h2 hd2 hw2 up2=>rw [h] at h2;cases h2;rw [hd] at hd2;cases hd2
  | iffU h2 hd2 up2=>rw [h] at h2;cases h2;rw [hd] at hd2;cases hd2
  | finB h2 hd2 he2=>rw [h] at h2;cases h2;rw [hd] at hd2;cases hd2;exact absurd rfl hn1
  | finE h2 hd2 hn2=>rw [h] at h2;cases h2;exact ⟨rfl,rfl⟩
  | finO h2 hd2 hn2 hw2 _=>exact absurd rfl hw2
 | finO h hd hn1 hw up ih =>
  intro hn r2 P2 h'
  have hp:=W.pu _ _ hn h
  generalize eP:_++[_]=P0 at h'
  cases h' with
  | top h2=>rw [h] at h2;cases h2
  | seqN h2 hd2 _ _=>rw [h] at h2;cases h2;rw [hd] at hd2;cases hd2
  | seqU h2 hd2 _ _=>rw [h] at h2;cases h2;rw [hd] at hd2;cases hd2
  | whlA h2 hd2 _=>rw [h] at h2;cases h2;rw [hd] at hd2;cases hd2
  | whlU h2 hd2 _ _=>rw [h] at h2;cases h2;rw [hd] at hd2;cases hd2
  | tryH h2 hd2 he2=>rw [h] at h2;cases h2;rw [hd] at hd2;cases hd2
  | tryU h2 hd2 hw2 up2=>rw [h] at h2;cases h2;rw [hd] at hd2;cases hd2
  | iffU h2 hd2 up2=>rw [h] at h2;cases h2;rw [hd] at hd2;cases hd2
  | finB h2 hd2 he2=>rw [h] at h2;cases h2;rw [hd] at hd2;cases hd2;exact absurd rfl hn1
  | finE h2 hd2 hn2=>exact absurd rfl hw
  | finO h2 hd2 hn2 hw2 up2 =>
   rw [h] at h2;cases h2
   obtain ⟨rfl,_⟩:=List.append_inj' eP rfl
   exact ih hp up2
theorem dp1_det (W:t.WF lp) {s:Nat} {x:Bool} {P P1 P2:Pd} {r1 r2:Nat ⊕ Way} (hs:s<t.len) (h:Dp1 t s x P r1 P1) (h':Dp1 t s x P r2 P2):r1=r2∧P1=P2:=by
 cases h with
 | iff h he =>
  cases h' with
  | iff h2 he2=>rw [h] at h2;cases h2;rw [he.det he2];exact ⟨rfl,rfl⟩
  | whlT h2=>rw [h] at h2;cases h2
  | whlF h2=>rw [h] at h2;cases h2
  | call h2=>rw [h] at h2;cases h2
  | fin h2=>rw [h] at h2;cases h2
  | quiet h2=>rw [h] at h2;exact h2.elim
 | whlT h hx he =>
  cases h' with
  | iff h2 he2=>rw [h] at h2;cases h2
  | whlT h2 hx2 he2=>rw [h] at h2;cases h2;rw [he.det he2];exact ⟨rfl,rfl⟩
  | whlF h2 hx2=>rw [hx] at hx2;cases hx2
  | call h2=>rw [h] at h2;cases h2
  | fin h2=>rw [h] at h2;cases h2
  | quiet h2=>rw [h] at h2;exact h2.elim
 | whlF h hx l =>
  cases h' with
  | iff h2 he2=>rw [h] at h2;cases h2
  | whlT h2 hx2 he2=>rw [hx] at hx2;cases hx2
  | whlF h2 hx2 l2=>exact lv_det W l hs l2
  | call h2=>rw [h] at h2;cases h2
  | fin h2=>rw [h] at h2;cases h2
  | quiet h2=>rw [h] at h2;exact h2.elim
 | call h l =>
  cases h' with
  | iff h2 he2=>rw [h] at h2;cases h2
  | whlT h2 hx2 he2=>rw [h] at h2;cases h2
  | whlF h2 hx2 l2=>rw [h] at h2;cases h2
  | call h2 l2=>exact lv_det W l hs l2
  | fin h2=>rw [h] at h2;cases h2
  | quiet h2=>rw [h] at h2;exact h2.elim
 | fin h l =>
  generalize eP:_++[_]=P0 at h'
  cases h' with
  | iff h2 he2=>rw [h] at h2;cases h2
  | whlT h2 hx2 he2=>rw [h] at h2;cases h2
  | whlF h2 hx2 l2=>rw [h] at h2;cases h2
  | call h2 l2=>rw [h] at h2;cases h2
  | fin h2 l2 =>
   obtain ⟨rfl,e⟩:=List.append_inj' eP rfl
   cases e
   exact lv_det W l hs l2
  | quiet h2=>rw [h] at h2;exact h2.elim
 | quiet h l =>
  cases h' with
  | iff h2 he2=>rw [h2] at h;exact h.elim
  | whlT h2 hx2 he2=>rw [h2] at h;exact h.elim
  | whlF h2 hx2 l2=>rw [h2] at h;exact h.elim
  | call h2 l2=>rw [h2] at h;exact h.elim
  | fin h2=>rw [h2] at h;exact h.elim
  | quiet h2 l2=>exact lv_det W l hs l2
theorem Re.more (W:t.WF lp) (hbb:∀ (u:Nat) (x:Bool),bits[u]?=some x→bits'[u]?=some x) {N:Nat} {c d:Cfg} (h:Re t bits B N c d):(∀ s,c.at_=.inl s→s<t.len)→∀ {N':Nat} {d':Cfg},Re t bits' B N' c d'→∃ M,Re t bits' B M d d':=by
 induction h with
 | stop h hb=>exact fun _ N' d' h'=>⟨N',h'⟩
 | step h hb r ih =>
  intro hc N' d' h'
  cases h with
  | ask ha hu dd =>
   have hs:=hc _ rfl
   obtain ⟨M,r2,P2,_,d2,re2⟩:=h'.asked ha (hbb _ _ hu)
   obtain ⟨rfl,rfl⟩:=dp1_det W hs dd d2
   exact ih (fun s e=>dp_lt W dd hs s e) re2
  | on ha dd =>
   have hs:=hc _ rfl
   obtain ⟨M,r2,P2,_,d2,re2⟩:=h'.quiet ha
   obtain ⟨rfl,rfl⟩:=dp1_det W hs dd d2
   exact ih (fun s e=>dp_lt W dd hs s e) re2
theorem Re.stopped {N:Nat} {c d:Cfg} (h:Re t bits B N c d):Stop t bits d:=by
 induction h with
 | stop h _=>exact h
 | step _ _ _ ih=>exact ih
theorem Re.last {N:Nat} {c d:Cfg} (h:Re t bits B N c d):d.pd.length≤B:=by
 induction h with
 | stop _ h=>exact h
 | step _ _ _ ih=>exact ih
theorem Re.us {N:Nat} {c d:Cfg} (h:Re t bits B N c d):c.us≤bits.length→c.us≤d.us∧d.us≤bits.length:=by
 induction h with
 | stop _ h=>exact fun z=>⟨Nat.le_refl _,z⟩
 | step h _ _ ih =>
  intro z
  cases h with
  | ask ha hu dd =>
   have:=ih (bit_lt hu)
   exact ⟨by have:=this.1;dsimp only at this ⊢;omega,this.2⟩
  | on ha dd=>exact ih z
end
end FcM
set_option maxRecDepth 100000
set_option maxHeartbeats 4000000
namespace Fc
open PySem PySem.Spec PyProof.Rows L2 FcR
open Evl (Ex)
section
open FcM (Way Node Tab Pd Rs)
theorem used_all {rows:List Row} {lp:Nat→Nat} (X:AllK rows lp) {bits:List Bool} {m:Nat} (hg:FcM.Hg (tabOf rows) m 0) (hm:m≤900) {x:Nat×Pd} {u:Nat} {v:List Nat} (h:FcM.goF (tabOf rows) bits m 0 [] 0 []=(.inl x,u,v)):u=bits.length:=by
 obtain ⟨k,e,N,cf,h1,h2,h3,h4,h5⟩:=FcM.whole (bits:=bits) (B:=1000) X.w.wf hg (by omega)
 rw [h] at h3 h4 h5
 have st:=FcM.Re.stopped h2
 have us:=FcM.Re.us h2 (Nat.zero_le _)
 have e1:cf.at_=.inl x.1:=h5.1
 have e2:cf.us=u:=h4
 obtain ⟨at_,pd,us_,vs⟩:=cf
 dsimp only at e1 e2 st us
 subst e1 e2
 cases st with
 | wait ha hu =>
  have:=List.getElem?_eq_none_iff.mp hu
  have a2:us_≤bits.length:=us.2
  omega
theorem run_mor {rows' rows:List Row} {lp lp':Nat→Nat} {f:Nat→Nat} (X:AllK rows lp) (X':AllK rows' lp') (M:Mor (tabOf rows') (tabOf rows) rows'.length f) (d0:Dn (tabOf rows) 0 (f 0)) {bits:List Bool} {m m':Nat} (hg:FcM.Hg (tabOf rows) m 0) (hm:m≤900) (hg':FcM.Hg (tabOf rows') m' 0) (hm':m'≤900) {r r':FcM.Wt} {u u':Nat} {v v':List Nat} (h:FcM.goF (tabOf rows) bits m 0 [] 0 []=(r,u,v)) (h':FcM.goF (tabOf rows') bits m' 0 [] 0 []=(r',u',v')) :
  v=v'.map f∧u=u'∧∀ w,r=.inr w ↔ r'=.inr w:=by
 obtain ⟨L,o,ps,e1,e2⟩:=wy M hg' X'.w.wf.ne d0 (intB_bits bits)
 have z1:=ewp_go (bits:=bits) e1 m [] 0 [] (bits.length + 1) hg rfl (by omega)
 have z2:=ewp_go (bits:=bits) e2 m' [] 0 [] (bits.length + 1) hg' rfl (by omega)
 rw [unf_go,h] at z1
 rw [unf_go,h'] at z2
 have g1:=goU (bits:=bits) (lp:=lp) (v:=[]) X.w.wf hg X.w.wf.ne (P:=[]) (by simpa using hm) (Nat.zero_le _)
 have g2:=goU (bits:=bits) (lp:=lp') (v:=[]) X'.w.wf hg' X'.w.wf.ne (P:=[]) (by simpa using hm') (Nat.zero_le _)
 rw [h] at g1
 rw [h'] at g2
 have lb:∀ k,(intB (bits.drop k)).length=bits.length - k:=fun k=>by unfold intB;rw [List.length_map,List.length_drop]
 cases r with
 | inl x =>
  cases r' with
  | inl x' =>
   obtain ⟨_,p0,e3,e4⟩:=z1
   obtain ⟨_,p0',e5,e6⟩:=z2
   refine ⟨?_,by rw [used_all X hg hm h,used_all X' hg' hm' h'],fun w=>⟨fun z=>(nomatch z),fun z=>(nomatch z)⟩⟩
   rw [e5,List.map_append] at e3
   have e7:=List.append_inj_left' e3 rfl
   rw [e4,e6,List.nil_append,List.nil_append,e7]
  | inr w' =>
   obtain ⟨e3,_⟩:=z1
   obtain ⟨e4,_⟩:=z2
   rw [e3] at e4
   cases e4
 | inr w =>
  cases r' with
  | inl x' =>
   obtain ⟨e3,_⟩:=z1
   obtain ⟨e4,_⟩:=z2
   rw [e3] at e4
   cases e4
  | inr w' =>
   obtain ⟨e3,e5,e7,_⟩:=z1
   obtain ⟨e4,e6,e8,_⟩:=z2
   rw [e3] at e4
   cases e4
   refine ⟨by rw [e7,e8,List.nil_append,List.nil_append],?_,fun w=>Iff.rfl⟩
   have:=lb u
   rw [← e5,e6,lb] at this
   have a1:u≤bits.length:=g1.2
   have a2:u'≤bits.length:=g2.2
   omega
end
section
open FcM (Way Node Tab)
theorem dd_nil {rows' rows:List Row} {lp':Nat→Nat} {f:Nat→Nat} (B:MorB rows' rows lp' f):ddN rows'=[]:=by
 unfold ddN
 rw [List.filter_eq_nil_iff]
 intro n hn
 have:=B.alive n (List.mem_range.mp hn)
 cases e:bgN (tabOf rows') n with
 | none=>rw [e] at this;cases this
 | some x=>exact fun z=>nomatch z
theorem mk_self {l:Int} {d:PyData} (sv:SV l d) (h:(partsD d).length≤400):mkD d (partsD d)=d:=by
 cases sv with
 | seq p ps =>
  have e:partsD (.tuple [.str "seq",.tuple (p::ps)])=(p::ps).take 401:=rfl
  rw [e] at h ⊢
  rw [List.length_take] at h
  rw [List.take_of_length_le (by omega)]
  rfl
 | _=>rfl
theorem nodup_67:∀ {l l':List Nat},l.Nodup→(∀ x∈l,x∈l')→l.length≤l'.length
 | [],_,_,_=>Nat.zero_le _
 | x::l,l',h,hs=>by
  obtain ⟨h1,h2⟩:=List.nodup_cons.mp h
  have hx:=hs x List.mem_cons_self
  have:=nodup_67 (l:=l) (l':=l'.erase x) h2 fun y hy=>(List.mem_erase_of_ne (fun z:y=x=>h1 (by rw [← z];exact hy))).mpr (hs y (List.mem_cons_of_mem _ hy))
  rw [List.length_erase_of_mem hx] at this
  have:=List.length_pos_of_mem hx
  rw [List.length_cons]
  omega
theorem nodup_len67 {l:List Nat} {N:Nat} (h:l.Nodup) (hs:∀ x∈l,x<N):l.length≤N:=by
 have:=nodup_67 (l':=List.range N) h fun x hx=>List.mem_range.mpr (hs x hx)
 rwa [List.length_range] at this
theorem cut_self {rows:List Row} {lp:Nat→Nat} (X:AllK rows lp) (hl:rows.length≤400) (h:ddN rows=[]):∀ (k n:Nat) (r:Row),rows.length - n≤k→rows[n]?=some r→cutN rows (ddN rows) n=r.d
 | 0,n,r,hk,hr=>by have:=(List.getElem?_eq_some_iff.mp hr).1;omega
 | k + 1,n,r,hk,hr=>by
  have hn:=(List.getElem?_eq_some_iff.mp hr).1
  obtain ⟨sv,hlc,hch⟩:=X.w.sv n r hr
  have U:=up_of X
  rw [cut_mk U hr (fun z=>by rw [h] at z;exact nomatch z.2)]
  have e1:(r.ch.filter fun c=>decide (c ∉ ddN rows))=r.ch:=by
   rw [List.filter_eq_self]
   intro c _
   rw [h]
   rfl
  rw [e1]
  have e2:r.ch.map (cutN rows (ddN rows))=partsD r.d:=by
   refine List.ext_getElem? fun i=>?_
   rw [List.getElem?_map]
   cases hc:r.ch[i]? with
   | none =>
    have:=List.getElem?_eq_none_iff.mp hc
    rw [Option.map_none,List.getElem?_eq_none (by omega)]
   | some c =>
    obtain ⟨rc,g1,g2⟩:=X.w.pr n r hr i c hc
    have lt:=kid_lt X hr (List.mem_of_getElem? hc)
    rw [Option.map_some,cut_self X hl h k c rc (by omega) g1,g2]
  rw [e2]
  refine mk_self sv ?_
  rw [← hlc]
  have nd:r.ch.Nodup:=by
   have:=X.w.wf.nd n hn
   rw [tab_nd hr,← hch] at this
   exact this
  exact Nat.le_trans (nodup_len67 nd fun c hc=>(kid_lt X hr hc).2) hl
end
section
open FcM (Way Node Tab)
theorem bi_parts67 {fin:List Row} {ls:List Nat} (bi:BI [] fin ls) {n:Nat} {r:Row} (hr:fin[n]?=some r):r.ch.map (fun c=>(fin[c]?.map Row.d).getD .none)=partsD r.d:=by
 have:=bi.pt n r hr
 simpa using this
theorem par_none67 {m:Nat} {st:List WIt} {rows fin:List Row} (b:Builds m st rows fin):∀ {lk:List Nat},BI st rows lk→(∀ n r,rows[n]?=some r→r.par=none→n=0)→∀ n r,fin[n]?=some r→r.par=none→n=0:=by
 induction b with
 | done rows=>exact fun _ h=>h
 | @step m it st rows fin ok h ih =>
  intro lk bk hr
  refine ih (bk.step ok) fun n r hn hp=>?_
  rcases addRow_get hn with ⟨e,rfl⟩ | ⟨r0,e0,_,p0,_⟩
  ·have:=((bk.it it List.mem_cons_self).1 hp).1
   rw [e,this]<;>rfl
  ·exact hr n r0 e0 (by rw [← p0];exact hp)
theorem rows_in67 {fin:List Row} {ls:List Nat} (bi:BI [] fin ls) (pn:∀ n r,fin[n]?=some r→r.par=none→n=0) {G:PyData→Prop} (hG:∀ e,G e→∀ x∈partsD e,G x) {d:PyData} (hd:G d) (h0:∀ r,fin[0]?=some r→r.d=d):∀ (n:Nat) (r:Row),fin[n]?=some r→G r.d:=by
 intro n
 induction n using Nat.strongRecOn with
 | ind n ih =>
  intro r hr
  cases hp:r.par with
  | none =>
   have:=pn n r hr hp
   subst this
   rw [h0 r hr]
   exact hd
  | some p =>
   obtain ⟨plt,rp,h1,h2⟩:=bi.up n r p hr hp
   refine hG _ (ih p plt rp h1) _ ?_
   rw [← bi_parts67 bi h1]
   refine List.mem_map.mpr ⟨n,h2,?_⟩
   rw [hr]<;>rfl
theorem hg_le67 {t:Tab} {h n:Nat} (g:FcM.Hg t h n):∀ {m:Nat},h≤m→FcM.Hg t m n:=by
 induction g with
 | @mk h n r ih =>
  intro m hm
  obtain ⟨m,rfl⟩:∃ k,m=k + 1:=⟨m - 1,by omega⟩
  exact .mk fun c hc=>ih c hc (by omega)
theorem allk_of {d:PyData} {N w:Nat} {fin:List Row} {lp:Nat→Nat} (D:TD d N fin lp) (ok:OkS 0 1 0 w d):AllK fin lp:=by
 obtain ⟨ls,bi⟩:=BI.all D.bd (BI.start d)
 have pn0:∀ (n:Nat) (r:Row),([]:List Row)[n]?=some r→r.par=none→n=0:=fun n r z=>by simp at z
 have pn:=par_none67 D.bd (BI.start d) pn0
 have hd:=rows_in67 bi pn (G:=fun e=>∃ k,k≤400∧HD k e) (fun e he x hx=>?_) ⟨_,?_,hd_ok ok⟩ (fun r hr=>Builds.first D.bd hr)
 ·refine ⟨D.w,D.g,fun n hn=>?_,fun n hn h=>?_⟩
  ·obtain ⟨r,hr⟩:=row_at hn
   obtain ⟨k,hk,h⟩:=hd n r hr
   exact hg_le67 (hg_of D.w h hr rfl) hk
  ·obtain ⟨r,hr⟩:=row_at hn
   have h:fin[n]?.bind Row.par=none:=h
   rw [hr] at h
   exact pn n r hr h
 ·obtain ⟨k,hk,h⟩:=he
  cases h with
  | @mk h _ r=>exact ⟨h,by omega,r x hx⟩
 ·omega
theorem td_ofL67 {w:Nat} {d:PyData} (ok:OkS 0 1 0 w d) (hw:w≤400):∃ N fin lp,TD d N fin lp∧fin.length=w:=by
 obtain ⟨fin,b,l⟩:=builds_of w [⟨d,none,1,0,0⟩] [] (by have:=OkL.cons (it:=⟨d,none,1,0,0⟩) ok .nil;simpa using this) (by simp;omega)
 have hne:0<fin.length:=by
  rw [l]
  cases ok
  simp
  omega
 obtain ⟨ls,bi⟩:=BI.all b (BI.start d)
 have W:=tw_of bi hne
 obtain ⟨r,hr⟩:=row_at hne
 have e:r.d=d:=Builds.first b hr
 exact ⟨w,fin,_,⟨b,W,by rw [l];simp;omega,wga_of W b (wg_of W ok hr e) hw,rt_all b (BI.start d) (fun n r h=>by simp at h)⟩,by rw [l];simp⟩
theorem TD.r0 {d:PyData} {N:Nat} {fin:List Row} {lp:Nat→Nat} (D:TD d N fin lp):∃ r,fin[0]?=some r∧r.d=d:=by
 obtain ⟨r,hr⟩:=row_at (rows:=fin) (n:=0) D.w.wf.ne
 exact ⟨r,hr,Builds.first D.bd hr⟩
theorem two_of {w:Nat} {d:PyData} (ok:OkS 0 1 0 w d) (hw:w≤400):∃ N fin lp N' fin' lp' w',TD d N fin lp∧AllK fin lp∧fin.length=w∧w'≤w∧OkS 0 1 0 w' (cutN fin (ddN fin) 0)∧TD (cutN fin (ddN fin) 0) N' fin' lp'∧AllK fin' lp'∧fin'.length=w'∧MorB fin' fin lp' (fN fin' fin):=by
 obtain ⟨N,fin,lp,D,hl⟩:=td_ofL67 ok hw
 have X:=allk_of D ok
 obtain ⟨r,hr,ed⟩:=D.r0
 have al:(bgN (tabOf fin) 0).isSome=true:=by rw [bgN_zero X.w X.g]<;>rfl
 have ok2:=ok
 rw [← ed] at ok2
 obtain ⟨w',hw',ok'⟩:=cut_ok X _ 0 r 0 1 0 w (Nat.le_refl _) hr al ok2
 obtain ⟨N',fin',lp',D',hl'⟩:=td_ofL67 ok' (by omega)
 have X':=allk_of D' ok'
 exact ⟨N,fin,lp,N',fin',lp',w',D,X,hl,hw',ok',D',X',hl',mor_of X X' fun r hr=>Builds.first D'.bd hr⟩
end
section
theorem gs_sz {d:PyData} (h:GS d):PyData.canLay0 d=true∧szD d∧(∀ x∈partsD d,GS x)∧∀ x,d=.str x→x.length≤100000:=by
 cases h with
 | mk a b c e=>exact ⟨a,b,c,e⟩
theorem mk_gs {l:Int} {d:PyData} (sv:SV l d) (h:GS d) {es:List PyData} (he:∀ x∈es,GS x) (fit:(kindD d="seq"∧es.length≤401)∨(kindD d≠"seq"∧es.length=(partsD d).length)):GS (mkD d es):=by
 obtain ⟨hc,hs,_,_⟩:=gs_sz h
 have hes:=canAll (l:=es) fun x hx=>(gs_sz (he x hx)).1
 have pm:=parts_mk sv fit
 have ks:∀ {k:Str} {r:List PyData},PyData.canLay0 (.tuple (.str k::r))=true→PyData.canLay0 (.str k)=true∧PyData.canLayAll0 r=true:=fun {k r} h=>by
  have h:(PyData.canLay0 (.str k) && PyData.canLayAll0 r)=true:=h
  exact Bool.and_eq_true_iff.mp h
 have mk:∀ {k:Str} {r:List PyData},PyData.canLay0 (.str k)=true→PyData.canLayAll0 r=true→PyData.canLay0 (.tuple (.str k::r))=true:=fun {k r} h1 h2=>by
  show (PyData.canLay0 (.str k) && PyData.canLayAll0 r)=true
  rw [h1,h2]<;>rfl
 have cons:∀ {x:PyData} {r:List PyData},PyData.canLay0 x=true→PyData.canLayAll0 r=true→PyData.canLayAll0 (x::r)=true:=fun {x r} h1 h2=>by
  show (PyData.canLay0 x && PyData.canLayAll0 r)=true
  rw [h1,h2]<;>rfl
 have c1:∀ {x:PyData} {r:List PyData},PyData.canLayAll0 (x::r)=true→PyData.canLay0 x=true:=fun {x r} h=>by
  have h:(PyData.canLay0 x && PyData.canLayAll0 r)=true:=h
  exact (Bool.and_eq_true_iff.mp h).1
 have no:∀ {k:Str},kindD d=k→k≠"seq"→es.length=(partsD d).length:=fun {k} hk hn=>by
  rcases fit with ⟨z,_⟩ | ⟨_,z⟩
  ·exact absurd (hk.symm.trans z) hn
  ·exact z
 have fin_:PyData.canLay0 (mkD d es)=true→szD (mkD d es)→(∀ x,mkD d es≠.str x)→GS (mkD d es):=fun a b c=>.mk a b (by rw [pm];exact he) fun x e=>absurd e (c x)
 cases sv with
 | do_ x =>
  obtain rfl:es=[]:=List.length_eq_zero_iff.mp (no rfl (show ("do":Str)≠"seq" by decide))
  exact h
 | call x =>
  obtain rfl:es=[]:=List.length_eq_zero_iff.mp (no rfl (show ("call":Str)≠"seq" by decide))
  exact h
 | iff x a b=>exact fin_ (mk (ks hc).1 (cons (c1 (ks hc).2) hes)) (fun k y r e=>hs k y [a,b] (by cases e;rfl)) (fun y e=>by cases e)
 | whl x a=>exact fin_ (mk (ks hc).1 (cons (c1 (ks hc).2) hes)) (fun k y r e=>hs k y [a] (by cases e;rfl)) (fun y e=>by cases e)
 | seq p ps=>exact fin_ (mk (ks hc).1 (cons (show PyData.canLay0 (.tuple es)=true from hes) rfl)) (fun k y r e=>by cases e) (fun y e=>by cases e)
 | brk n h1 h2 =>
  obtain rfl:es=[]:=List.length_eq_zero_iff.mp (no rfl (show ("break":Str)≠"seq" by decide))
  exact h
 | cnt n h1 h2 =>
  obtain rfl:es=[]:=List.length_eq_zero_iff.mp (no rfl (show ("continue":Str)≠"seq" by decide))
  exact h
 | ret =>
  obtain rfl:es=[]:=List.length_eq_zero_iff.mp (no rfl (show ("return":Str)≠"seq" by decide))
  exact h
 | rai =>
  obtain rfl:es=[]:=List.length_eq_zero_iff.mp (no rfl (show ("raise":Str)≠"seq" by decide))
  exact h
 | tr a b=>exact fin_ (mk (ks hc).1 hes) (fun k y r e=>by cases e;exact (gs_sz (he _ List.mem_cons_self)).2.2.2 y rfl) (fun y e=>by cases e)
 | fin a b=>exact fin_ (mk (ks hc).1 hes) (fun k y r e=>by cases e;exact (gs_sz (he _ List.mem_cons_self)).2.2.2 y rfl) (fun y e=>by cases e)
theorem cut_gs {rows:List Row} {lp:Nat→Nat} (X:AllK rows lp) (hs:∀ (n:Nat) (r:Row),rows[n]?=some r→GS r.d):∀ (k n:Nat) (r:Row),rows.length - n≤k→rows[n]?=some r→(bgN (tabOf rows) n).isSome=true→GS (cutN rows (ddN rows) n)
 | 0,n,r,hk,hr,_=>by have:=(List.getElem?_eq_some_iff.mp hr).1;omega
 | k + 1,n,r,hk,hr,al=>by
  have U:=up_of X
  have sv:=(X.w.sv n r hr).1
  by_cases hc:Cut rows n
  ·obtain ⟨r2,a,b2,h1,h2,h3,h4⟩:=hc
   rw [hr] at h1
   cases h1
   have ha:=kid_lt X hr (c:=a) (by rw [h3];simp)
   obtain ⟨ra,hra⟩:=row_at ha.2
   rw [cut_try U hr h2 h3 h4]
   exact cut_gs X hs k a ra (by omega) hra (cut_body X hr h2 h3 al)
  ·have ea:alc rows n=r.ch.filter fun c=>decide (c ∉ ddN rows):=by unfold alc;rw [hr]
   have ecut:cutN rows (ddN rows) n=mkD r.d ((alc rows n).map (cutN rows (ddN rows))):=by
    rw [ea]
    refine cut_mk U hr fun z=>?_
    obtain ⟨a,b2,e3⟩:=U.two _ r hr z.1
    exact hc ⟨r,a,b2,hr,z.1,e3,by have:=z.2;rw [e3] at this;exact this⟩
   rw [ecut]
   refine mk_gs sv (hs n r hr) (fun x hx=>?_) (by rw [List.length_map];exact alc_fit X hr al hc)
   obtain ⟨c,hcm,rfl⟩:=List.mem_map.mp hx
   have hm:=hcm
   rw [ea] at hm
   have lt:=kid_lt X hr (List.mem_filter.mp hm).1
   obtain ⟨rc,hrc⟩:=row_at lt.2
   exact cut_gs X hs k c rc (by omega) hrc (alc_mem X hcm).2
end
section
def sp_cell (K:PySem.W.Frag):Sp:=fun vs H Q _=>∃ (a:Addr) (ns:List Int) (k:Nat),vs=[.ref a,.int (k:Int)]∧SqL K H a (ns.map V.int)∧Q (.int (ns.getD k 0)) H
def sp_source:Sp:=fun vs H Q _=>∃ c:Int,vs=[.int c]∧∀ (p:Addr) (x y:Int),H p=none→Q (.ref p) (upd H p (.lst [.int x,.int y,.int 0]))
def sp_draw:Sp:=fun vs H Q _=>∃ (p:Addr) (x y z m:Int),vs=[.ref p,.int m]∧H p=some (.lst [.int x,.int y,.int z])∧0<m∧m<1073741824 ∧
 ∀ x' y' z' v:Int,0≤v→v<m→Q (.int v) (upd H p (.lst [.int x',.int y',.int z']))
section
variable {P:Program} {w:World} {h:Heap} {K:PySem.W.Frag} {mg:Str→Option Value} {base:Heap}
abbrev N_law_cell_at:List Str:=["_law_script","_law_k"]
theorem sc_law_cell_at:FnScope N_law_cell_at ["_law_script","_law_k"] (defScope sd_law_cell_at):=⟨rfl,rfl,rfl,by decide +kernel,rfl,by decide +kernel,by decide +kernel⟩
theorem ok_law_cell_at (T:Tx w h K mg):Ok P w K mg base 1 ("_law_cell_at",none) ["_law_script","_law_k"] (sp_cell K):=by
 obtain ⟨fd,F⟩:=F_law_cell_at T
 refine ⟨fd,?_,F.bindsN (fun _ _ _ _ _ _ us hl=>match us,hl with | [_,_],_=>rfl),F.kp⟩
 refine F.ok sc_law_cell_at (fun vs H Q E h=>?_) (fun cdv A outer s H vs Q E hr h=>?_)
 ·obtain ⟨a,ns,k,rfl,hs,q⟩:=h
  rfl
 ·obtain ⟨a,ns,k,rfl,hs,q⟩:=h
  refine ⟨_,PSs.nox (pss_one (ps_ret (pe_ifExp (pt_cmpR op_lt (pv 1) (pe_callB call_len_seq rfl (fr_len T) b_len (pa_cons (pv 0) pa_nil)) (nomark _)) (pe_ix ix_list (pv 0) (pv 1) (fun _ _=>rfl)) pe_int))),?_⟩
  refine ⟨_,rfl,_,rfl,a,_,rfl,.inl hs,_,_,rfl,rfl,_,rfl,ite_of (fun h1=>?_) (fun h1=>?_)⟩
  ·have hk:k<ns.length:=by
    have:=of_decide_eq_true h1
    rw [List.length_map] at this
    omega
   refine ⟨_,rfl,_,rfl,a,_,_,.int (ns.getD k 0),rfl,rfl,hs,atI_nat ?_,q⟩
   rw [List.getElem?_map,List.getD_eq_getElem?_getD,List.getElem?_eq_getElem hk]<;>rfl
  ·have hk:ns.length≤k:=by
    have:=of_decide_eq_false h1
    rw [List.length_map] at this
    omega
   have e:ns.getD k 0=0:=by rw [List.getD_eq_getElem?_getD,List.getElem?_eq_none hk]<;>rfl
   rw [e] at q
   exact q
abbrev N_law_source_of:List Str:=["_law_cell"]
theorem sc_law_source_of:FnScope N_law_source_of ["_law_cell"] (defScope sd_law_source_of):=⟨rfl,rfl,rfl,by decide +kernel,rfl,by decide +kernel,by decide +kernel⟩
theorem ok_law_source_of (T:Tx w h K mg):Ok P w K mg base 1 ("_law_source_of",none) ["_law_cell"] (sp_source):=by
 obtain ⟨fd,F⟩:=F_law_source_of T
 refine ⟨fd,?_,F.bindsN (fun _ _ _ _ _ _ us hl=>match us,hl with | [_],_=>rfl),F.kp⟩
 refine F.ok sc_law_source_of (fun vs H Q E h=>?_) (fun cdv A outer s H vs Q E hr h=>?_)
 ·obtain ⟨c,rfl,q⟩:=h
  rfl
 ·obtain ⟨c,rfl,q⟩:=h
  refine ⟨_,PSs.nox (pss_one (ps_ret (pe_lst (pa_cons (pe_op op_mul (pv 0) (pe_callTy call_int1 rfl (fr_int T) b_int (pa_cons (pe_cmpR op_ge (pv 0) (pe_op op_pow pe_int pe_int) (nomark _)) pa_nil))) (pa_cons (pe_op op_add (pe_op op_mod (pe_callTy call_int1 rfl (fr_int T) b_int (pa_cons (pv 0) pa_nil)) pe_int) pe_int) (pa_cons pe_int pa_nil)))))),?_⟩
  refine ⟨_,rfl,_,rfl,_,_,rfl,rfl,(by unfold CPow;decide),_,_,rfl,rfl,.inr ⟨_,rfl,_,_,rfl,rfl,?_,_,rfl,.inl ⟨_,rfl,_,_,rfl,rfl,(by first | (show (0:Int)<_;decide) | (show (0:Int)<_∧_<(1073741824:Int);decide)),_,_,rfl,rfl,sz (by simp),fun p hp=>q p _ _ hp⟩⟩⟩
  refine .inr ?_
  by_cases h1:decide ((10:Int) ^ (18:Int).toNat≤c)=true
  ·rw [if_pos h1]<;>decide
  ·rw [if_neg h1]<;>decide
abbrev N_law_draw:List Str:=["_law_source","_law_many","_law_found","_law_mixed"]
theorem sc_law_draw:FnScope N_law_draw ["_law_source","_law_many"] (defScope sd_law_draw):=⟨rfl,rfl,rfl,by decide +kernel,rfl,by decide +kernel,by decide +kernel⟩
theorem ok_law_draw (T:Tx w h K mg):Ok P w K mg base 1 ("_law_draw",none) ["_law_source","_law_many"] (sp_draw):=by
 obtain ⟨fd,F⟩:=F_law_draw T
 refine ⟨fd,?_,F.bindsN (fun _ _ _ _ _ _ us hl=>match us,hl with | [_,_],_=>rfl),F.kp⟩
 refine F.ok sc_law_draw (fun vs H Q E h=>?_) (fun cdv A outer s H vs Q E hr h=>?_)
 ·obtain ⟨p,x,y,z,m,rfl,hp,h1,h2,q⟩:=h
  rfl
 ·obtain ⟨p,x,y,z,m,rfl,hp,h1,h2,q⟩:=h
  refine ⟨_,PSs.nox (pss_cons (ps_if (pt_cmpR op_gt (pe_ix ix_list (pv 0) pe_int (fun _ _=>rfl)) pe_int (nomark _)) (pss_cons (ps_set (i:=2) sc_law_draw.nd rfl (Or.inl rfl) (pe_op op_mod (pe_callTy call_int1 rfl (fr_int T) b_int (pa_cons (pe_ix ix_list (pv 0) pe_int (fun _ _=>rfl)) pa_nil)) (pv 1))) (pss_cons (ps_asg (pe_op op_fdiv (pe_ix ix_list (pv 0) pe_int (fun _ _=>rfl)) (pv 1)) (pg_sub (pv 0) pe_int set_list)) (pss_one (ps_ret (pv 2))))) pss_nil) (pss_cons (ps_asg (pe_op op_add (pe_ix ix_list (pv 0) pe_int (fun _ _=>rfl)) pe_int) (pg_sub (pv 0) pe_int set_list)) (pss_cons (ps_set (i:=3) sc_law_draw.nd rfl (Or.inl rfl) (pe_op op_mod (pe_callTy call_int1 rfl (fr_int T) b_int (pa_cons (pe_op op_mul (pe_op op_add (pe_ix ix_list (pv 0) pe_int (fun _ _=>rfl)) (pe_op op_mul pe_int (pe_ix ix_list (pv 0) pe_int (fun _ _=>rfl)))) pe_int) pa_nil)) pe_int)) (pss_cons (ps_set (i:=3) sc_law_draw.nd rfl (Or.inl rfl) (pe_op op_mod (pe_callTy call_int1 rfl (fr_int T) b_int (pa_cons (pe_op op_mul (pv 3) (pe_op op_add (pe_op op_add (pe_op op_fdiv (pv 3) pe_int) pe_int) (pe_ix ix_list (pv 0) pe_int (fun _ _=>rfl)))) pa_nil)) pe_int)) (pss_one (ps_ret (pe_op op_mod (pe_callTy call_int1 rfl (fr_int T) b_int (pa_cons (pe_op op_fdiv (pe_op op_mod (pe_callTy call_int1 rfl (fr_int T) b_int (pa_cons (pe_op op_mul (pv 3) (pe_op op_add (pe_op op_fdiv (pv 3) pe_int) pe_int)) pa_nil)) pe_int) pe_int) pa_nil)) (pv 1)))))))),?_⟩
  have hs:=Evl.sq_of (K:=K) hp
  refine ⟨_,rfl,p,_,_,_,rfl,rfl,hs,rfl,_,_,rfl,rfl,_,rfl,ite_of (fun h3=>?_) (fun h3=>?_)⟩
  ·refine ⟨_,rfl,p,_,_,_,rfl,rfl,hs,rfl,.inl ⟨_,rfl,_,rfl,_,_,rfl,rfl,h1,?_⟩⟩
   refine ⟨_,rfl,p,_,_,_,rfl,rfl,hs,rfl,_,rfl,_,_,rfl,rfl,⟨h1,h2⟩,_,rfl,p,_,_,0,rfl,rfl,hp,rfl,?_⟩
   exact ⟨_,rfl,q _ _ _ _ (Int.emod_nonneg _ (by omega)) (Int.emod_lt_of_pos _ h1)⟩
  ·refine ⟨_,rfl,p,_,_,_,rfl,rfl,hs,rfl,_,_,rfl,rfl,_,rfl,p,_,_,2,rfl,rfl,hp,rfl,?_⟩
   have hs2:=Evl.sq_of (K:=K) (upd_same (H:=H) (a:=p) (o:=.lst [.int x,.int y,.int (z + 1)]))
   refine ⟨_,rfl,p,_,_,_,rfl,rfl,hs2,rfl,_,rfl,p,_,_,_,rfl,rfl,hs2,rfl,_,_,rfl,rfl,.inl (by show (-(2 ^ 64)<(8191:Int)∧(8191:Int)<2 ^ 64);decide),_,_,rfl,rfl,_,_,rfl,rfl,.inr (by show (-(2 ^ 64)<(48271:Int)∧(48271:Int)<2 ^ 64);decide),.inl ⟨_,rfl,_,_,rfl,rfl,(by first | (show (0:Int)<_;decide) | (show (0:Int)<_∧_<(1073741824:Int);decide)),?_⟩⟩
   generalize (y + 8191 * (z + 1)) * 48271=r1
   have b1:=Int.emod_nonneg r1 (show (2147483647:Int)≠0 by decide)
   have b2:=Int.emod_lt_of_pos r1 (show (0:Int)<2147483647 by decide)
   refine ⟨_,rfl,_,rfl,_,_,rfl,rfl,(by first | (show (0:Int)<_;decide) | (show (0:Int)<_∧_<(1073741824:Int);decide)),_,_,rfl,rfl,_,rfl,p,_,_,_,rfl,rfl,hs2,rfl,_,_,rfl,rfl,_,_,rfl,rfl,.inl (by omega),.inl ⟨_,rfl,_,_,rfl,rfl,(by first | (show (0:Int)<_;decide) | (show (0:Int)<_∧_<(1073741824:Int);decide)),?_⟩⟩
   generalize r1 % 2147483647 * (r1 % 2147483647 / 1021 + 69621 + (z + 1))=r2
   have b3:=Int.emod_nonneg r2 (show (2147483587:Int)≠0 by decide)
   have b4:=Int.emod_lt_of_pos r2 (show (0:Int)<2147483587 by decide)
   refine ⟨_,rfl,_,rfl,_,_,rfl,rfl,(by first | (show (0:Int)<_;decide) | (show (0:Int)<_∧_<(1073741824:Int);decide)),_,_,rfl,rfl,_,_,rfl,rfl,.inl (by omega),.inl ⟨_,rfl,_,_,rfl,rfl,(by first | (show (0:Int)<_;decide) | (show (0:Int)<_∧_<(1073741824:Int);decide)),_,_,rfl,rfl,(by first | (show (0:Int)<_;decide) | (show (0:Int)<_∧_<(1073741824:Int);decide)),.inl ⟨_,rfl,_,rfl,_,_,rfl,rfl,h1,?_⟩⟩⟩
   exact q _ _ _ _ (Int.emod_nonneg _ (by omega)) (Int.emod_lt_of_pos _ h1)
end
def Src (H:Hp) (p:Addr):Prop:=∃ x y z:Int,H p=some (.lst [.int x,.int y,.int z])
end
section
inductive SD:Nat→Nat→PyData→Prop
 | mk {deep loops:Nat} {d:PyData} (st:isStm d (loops:Int)=true) (cl:PyData.canLay0 d=true) (sz:szD d) (l3:(partsD d).length≤3) (ps:∀ p∈partsD d,SD deep (loops + wl d) p):SD (deep + 1) loops d
def sp_one (K:PySem.W.Frag):Sp:=fun vs H Q _=>∃ (p a:Addr) (ks:List Str),vs=[.ref p,.ref a]∧Src H p∧H a=some (.lst (ks.map V.str))∧a≠p∧ks≠[]∧ks.length<1000 ∧
 ∀ (H':Hp) (k:Str),k∈ks→Src H' p→(∀ b,b≠p→H' b=H b)→Q (.str k) H'
def sp_leaf (K:PySem.W.Frag):Sp:=fun vs H Q _=>∃ (F:Hp) (p:Addr) (loops:Nat),vs=[.ref p,.int (loops:Int)]∧Ex F H∧F p=none∧Src H p∧loops<1000 ∧
 ∀ (F' H':Hp) (v:V) (d:PyData),Gr (fun b=>b=p) F H F' H'→F' p=none→Src H' p→Dp K F' v d→SD 1 loops d→Q v H'
theorem sd_leaf {loops:Nat} {d:PyData} (st:isStm d (loops:Int)=true) (cl:PyData.canLay0 d=true) (sz:szD d) (e:partsD d=[]):SD 1 loops d :=
 .mk (deep:=0) st cl sz (by rw [e];exact Nat.zero_le _) (fun p hp=>by rw [e] at hp;cases hp)
def lNames:List Str:=["a","b","abcdefgh","z","x","w","i"]
theorem nm_ok:∀ x∈lNames,nameOk x=true∧PyData.canLay0 (.str x)=true∧x.length≤100000:=by decide +kernel
theorem nm_four:∀ x∈(["a","b","abcdefgh","z"]:List Str),x∈lNames:=by decide +kernel
theorem sd_do {loops:Nat} {x:Str} (hx:x∈lNames):SD 1 loops (.tuple [.str "do",.str x]):=by
 obtain ⟨h1,h2,h3⟩:=nm_ok x hx
 refine sd_leaf (show nameOk x=true from h1) ?_ (fun k y r e=>by cases e;exact h3) rfl
 show (PyData.canLay0 (.str "do") && (PyData.canLay0 (.str x) && true))=true
 rw [h2]
 kernel_rfl
theorem sd_call {loops:Nat} {x:Str} (hx:x∈lNames):SD 1 loops (.tuple [.str "call",.str x]):=by
 obtain ⟨h1,h2,h3⟩:=nm_ok x hx
 refine sd_leaf (show nameOk x=true from h1) ?_ (fun k y r e=>by cases e;exact h3) rfl
 show (PyData.canLay0 (.str "call") && (PyData.canLay0 (.str x) && true))=true
 rw [h2]
 kernel_rfl
theorem sd_ret {loops:Nat}:SD 1 loops (.tuple [.str "return"]):=sd_leaf rfl (by kernel_rfl) (fun k y r e=>by cases e) rfl
theorem sd_rai {loops:Nat}:SD 1 loops (.tuple [.str "raise"]):=sd_leaf rfl (by kernel_rfl) (fun k y r e=>by cases e) rfl
theorem sd_brk {loops:Nat} {n:Int} (h1:1≤n) (h2:n≤loops):SD 1 loops (.tuple [.str "break",.int n]):=by
 refine sd_leaf ?_ (by kernel_rfl) (fun k y r e=>by cases e) rfl
 show (decide (1≤n) && decide (n≤(loops:Int)))=true
 rw [decide_eq_true h1,decide_eq_true h2]<;>rfl
theorem sd_cnt {loops:Nat} {n:Int} (h1:1≤n) (h2:n≤loops):SD 1 loops (.tuple [.str "continue",.int n]):=by
 refine sd_leaf ?_ (by kernel_rfl) (fun k y r e=>by cases e) rfl
 show (decide (1≤n) && decide (n≤(loops:Int)))=true
 rw [decide_eq_true h1,decide_eq_true h2]<;>rfl
section
variable {P:Program} {w:World} {h:Heap} {K:PySem.W.Frag} {mg:Str→Option Value} {base:Heap}
abbrev N_law_one:List Str:=["_law_source","_law_some"]
theorem sc_law_one:FnScope N_law_one ["_law_source","_law_some"] (defScope sd_law_one):=⟨rfl,rfl,rfl,by decide +kernel,rfl,by decide +kernel,by decide +kernel⟩
theorem ok_law_one (T:Tx w h K mg):Ok P w K mg base 2 ("_law_one",none) ["_law_source","_law_some"] (sp_one K):=by
 obtain ⟨fd,F⟩:=F_law_one T
 refine ⟨fd,?_,F.bindsN (fun _ _ _ _ _ _ us hl=>match us,hl with | [_,_],_=>rfl),F.kp⟩
 obtain ⟨fd_law_draw,G_law_draw,bi_law_draw,kp_law_draw⟩:=ok_law_draw (P:=P) (base:=base) T
 refine F.ok sc_law_one (fun vs H Q E h=>?_) (fun cdv A outer s H vs Q E hr h=>?_)
 ·obtain ⟨p,a,ks,rfl,⟨x,y,z,hp⟩,ha,hne,hk,hl,q⟩:=h
  rfl
 ·obtain ⟨p,a,ks,rfl,⟨x,y,z,hp⟩,ha,hne,hk,hl,q⟩:=h
  refine ⟨_,PSs.nox (pss_one (ps_ret (pe_ix ix_list (pv 1) (pe_call G_law_draw (hr.mono (by decide)) rfl (g_law_draw T) kp_law_draw bi_law_draw .nil passF (pa_cons (pv 0) (pa_cons (pe_callB call_len_seq rfl (fr_len T) b_len (pa_cons (pv 1) pa_nil)) pa_nil))) (fun _ _=>rfl)))),?_⟩
  have lk:0<ks.length:=List.length_pos_iff.mpr hk
  refine ⟨_,rfl,_,rfl,_,rfl,a,_,rfl,.inl (Evl.sq_of ha),?_⟩
  refine ⟨p,x,y,z,_,rfl,hp,(by rw [List.length_map];omega),(by rw [List.length_map];omega),fun x' y' z' v v0 v1=>?_⟩
  rw [List.length_map] at v1
  generalize e1:upd _ p _=H1
  obtain ⟨s1,o1⟩:=set_of e1
  clear e1
  obtain ⟨j,rfl⟩:∃ j:Nat,v=(j:Int):=⟨v.toNat,by omega⟩
  have hj:j<ks.length:=by omega
  have ha1:H1 a=some (.lst (ks.map V.str)):=by rw [o1 a hne];exact ha
  refine ⟨a,_,_,.str ks[j],rfl,rfl,Evl.sq_of ha1,atI_nat (by rw [List.getElem?_map,List.getElem?_eq_getElem hj]<;>rfl),?_⟩
  exact q H1 _ (List.getElem_mem hj) ⟨x',y',z',s1⟩ o1
abbrev N_law_leaf:List Str:=["_law_source","_law_loops","_law_kind"]
theorem sc_law_leaf:FnScope N_law_leaf ["_law_source","_law_loops"] (defScope sd_law_leaf):=⟨rfl,rfl,rfl,by decide +kernel,rfl,by decide +kernel,by decide +kernel⟩
theorem ok_law_leaf (T:Tx w h K mg):Ok P w K mg base 3 ("_law_leaf",none) ["_law_source","_law_loops"] (sp_leaf K):=by
 obtain ⟨fd,F⟩:=F_law_leaf T
 refine ⟨fd,?_,F.bindsN (fun _ _ _ _ _ _ us hl=>match us,hl with | [_,_],_=>rfl),F.kp⟩
 obtain ⟨fd_law_draw,G_law_draw,bi_law_draw,kp_law_draw⟩:=ok_law_draw (P:=P) (base:=base) T
 obtain ⟨fd_law_one,G_law_one,bi_law_one,kp_law_one⟩:=ok_law_one (P:=P) (base:=base) T
 refine F.ok sc_law_leaf (fun vs H Q E h=>?_) (fun cdv A outer s H vs Q E hr h=>?_)
 ·obtain ⟨F,p,loops,rfl,xF,fp,hp,hlp,q⟩:=h
  rfl
 ·obtain ⟨F,p,loops,rfl,xF,fp,hp,hlp,q⟩:=h
  refine ⟨_,PSs.nox (pss_cons (ps_set (i:=2) sc_law_leaf.nd rfl (Or.inl rfl) (pe_call G_law_one (hr.mono (by decide)) rfl (g_law_one T) kp_law_one bi_law_one .nil passF (pa_cons (pv 0) (pa_cons (pe_lst (pa_cons pe_str (pa_cons pe_str (pa_cons pe_str (pa_cons pe_str (pa_cons pe_str (pa_cons pe_str (pa_cons pe_str (pa_cons pe_str (pa_cons pe_str pa_nil)))))))))) pa_nil)))) (pss_cons (ps_if (pt_cmpR op_in_seq (pv 2) (pe_tup (pa_cons pe_str (pa_cons pe_str pa_nil))) (by rfl)) (pss_one (ps_ret (pe_ifExp (pt_cmpR op_gt (pv 1) pe_int (nomark _)) (pe_tup (pa_cons (pv 2) (pa_cons (pe_op op_add pe_int (pe_call G_law_draw (hr.mono (by decide)) rfl (g_law_draw T) kp_law_draw bi_law_draw .nil passF (pa_cons (pv 0) (pa_cons (pv 1) pa_nil)))) pa_nil))) (pe_tup (pa_cons pe_str (pa_cons pe_str pa_nil)))))) pss_nil) (pss_cons (ps_if (pt_cmpR op_in_seq (pv 2) (pe_tup (pa_cons pe_str (pa_cons pe_str pa_nil))) (by rfl)) (pss_one (ps_ret (pe_tup (pa_cons (pv 2) pa_nil)))) pss_nil) (pss_one (ps_ret (pe_tup (pa_cons (pv 2) (pa_cons (pe_call G_law_one (hr.mono (by decide)) rfl (g_law_one T) kp_law_one bi_law_one .nil passF (pa_cons (pv 0) (pa_cons (pe_lst (pa_cons pe_str (pa_cons pe_str (pa_cons pe_str (pa_cons pe_str pa_nil))))) pa_nil))) pa_nil)))))))),?_⟩
  refine ⟨_,rfl,sz (by simp),?_⟩
  intro p1 n1
  generalize e1:upd _ p1 _=H1
  obtain ⟨x1,s1,o1⟩:=new_of e1 n1
  clear e1
  obtain ⟨x,y,z,hp0⟩:=hp
  refine ⟨p,p1,["do","do","call","call","return","raise","break","continue","break"],rfl,⟨x,y,z,x1 _ _ hp0⟩,s1,(fun e=>by rw [e,hp0] at n1;cases n1),(by simp),(by simp),fun H2 k hk hp2 o2=>?_⟩
  have g2:Gr (fun b=>b=p) F H F H2:=(Gr.new xF x1).trans (Gr.set (xF.trans x1) rfl fp o2)
  refine ⟨_,rfl,sz (by simp),?_⟩
  intro p3 n3
  generalize e3:upd _ p3 _=H3
  obtain ⟨x3,s3,o3⟩:=new_of e3 n3
  clear e3
  refine ⟨p3,_,rfl,.inr (Evl.st_of s3),rfl,flat_strs ["break","continue"],_,rfl,?_⟩
  have g3:Gr (fun b=>b=p) F H F H3:=g2.trans (Gr.new g2.fh x3)
  obtain ⟨a1,a2,a3,hp2⟩:=hp2
  have hp3:=x3 _ _ hp2
  have fin:∀ {Hx H5:Hp} {q5:Addr} {xs:List V} {ds:List PyData},Gr (fun b=>b=p) F H F Hx→Hx q5=none→H5 q5=some (.tup xs)→(∀ b,b≠q5→H5 b=Hx b)→Src Hx p→DpAll K (upd F q5 (.tup xs)) xs ds→SD 1 loops (.tuple ds)→Q (.ref q5) H5:=fun {Hx H5 q5 xs ds} g n5 s5 o5 sp da sd=>by
   have pq:p≠q5:=fun z=>by
    obtain ⟨b1,b2,b3,hb⟩:=sp
    rw [z,n5] at hb
    cases hb
   refine q (upd F q5 (.tup xs)) H5 _ _ (g.trans (Gr.frz g.fh n5 s5 o5)) (by rw [upd_ne pq];exact fp) ?_ (.tup (Evl.st_of upd_same) da) sd
   obtain ⟨b1,b2,b3,hb⟩:=sp
   exact ⟨b1,b2,b3,by rw [o5 p pq];exact hb⟩
  simp only [List.mem_cons,List.not_mem_nil,or_false] at hk
  rcases hk with rfl | rfl | rfl | rfl | rfl | rfl | rfl | rfl | rfl
  ·refine itF (in_strs (l:=["break","continue"]) (by decide +kernel)) ?_
   refine ⟨_,rfl,sz (by simp),?_⟩
   intro p4 n4
   generalize e4:upd _ p4 _=H4
   obtain ⟨x4,s4,o4⟩:=new_of e4 n4
   clear e4
   have g4:Gr (fun b=>b=p) F H F H4:=g3.trans (Gr.new g3.fh x4)
   refine ⟨p4,_,rfl,.inr (Evl.st_of s4),rfl,flat_strs ["return","raise"],_,rfl,?_⟩
   refine itF (in_strs (l:=["return","raise"]) (by decide +kernel)) ?_
   refine ⟨_,rfl,_,rfl,sz (by simp),?_⟩
   intro p6 n6
   generalize e6:upd _ p6 _=H6
   obtain ⟨x6,s6,o6⟩:=new_of e6 n6
   clear e6
   refine ⟨p,p6,["a","b","abcdefgh","z"],rfl,⟨_,_,_,x6 _ _ (x4 _ _ hp3)⟩,s6,(fun e=>by rw [e,x4 _ _ hp3] at n6;cases n6),(by simp),(by simp),fun H7 nm hnm hp7 o7=>?_⟩
   refine ⟨sz (by simp),?_⟩
   intro p8 n8
   generalize e8:upd _ p8 _=H8
   obtain ⟨x8,s8,o8⟩:=new_of e8 n8
   clear e8
   have g6:=g4.trans (Gr.new g4.fh x6)
   have g7:Gr (fun b=>b=p) F H F H7:=g6.trans (Gr.set g6.fh rfl fp o7)
   exact fin g7 n8 s8 o8 hp7 (.cons (.str _) (.cons (.str _) .nil)) (sd_do (nm_four _ hnm))
  ·refine itF (in_strs (l:=["break","continue"]) (by decide +kernel)) ?_
   refine ⟨_,rfl,sz (by simp),?_⟩
   intro p4 n4
   generalize e4:upd _ p4 _=H4
   obtain ⟨x4,s4,o4⟩:=new_of e4 n4
   clear e4
   have g4:Gr (fun b=>b=p) F H F H4:=g3.trans (Gr.new g3.fh x4)
   refine ⟨p4,_,rfl,.inr (Evl.st_of s4),rfl,flat_strs ["return","raise"],_,rfl,?_⟩
   refine itF (in_strs (l:=["return","raise"]) (by decide +kernel)) ?_
   refine ⟨_,rfl,_,rfl,sz (by simp),?_⟩
   intro p6 n6
   generalize e6:upd _ p6 _=H6
   obtain ⟨x6,s6,o6⟩:=new_of e6 n6
   clear e6
   refine ⟨p,p6,["a","b","abcdefgh","z"],rfl,⟨_,_,_,x6 _ _ (x4 _ _ hp3)⟩,s6,(fun e=>by rw [e,x4 _ _ hp3] at n6;cases n6),(by simp),(by simp),fun H7 nm hnm hp7 o7=>?_⟩
   refine ⟨sz (by simp),?_⟩
   intro p8 n8
   generalize e8:upd _ p8 _=H8
   obtain ⟨x8,s8,o8⟩:=new_of e8 n8
   clear e8
   have g6:=g4.trans (Gr.new g4.fh x6)
   have g7:Gr (fun b=>b=p) F H F H7:=g6.trans (Gr.set g6.fh rfl fp o7)
   exact fin g7 n8 s8 o8 hp7 (.cons (.str _) (.cons (.str _) .nil)) (sd_do (nm_four _ hnm))
  ·refine itF (in_strs (l:=["break","continue"]) (by decide +kernel)) ?_
   refine ⟨_,rfl,sz (by simp),?_⟩
   intro p4 n4
   generalize e4:upd _ p4 _=H4
   obtain ⟨x4,s4,o4⟩:=new_of e4 n4
   clear e4
   have g4:Gr (fun b=>b=p) F H F H4:=g3.trans (Gr.new g3.fh x4)
   refine ⟨p4,_,rfl,.inr (Evl.st_of s4),rfl,flat_strs ["return","raise"],_,rfl,?_⟩
   refine itF (in_strs (l:=["return","raise"]) (by decide +kernel)) ?_
   refine ⟨_,rfl,_,rfl,sz (by simp),?_⟩
   intro p6 n6
   generalize e6:upd _ p6 _=H6
   obtain ⟨x6,s6,o6⟩:=new_of e6 n6
   clear e6
   refine ⟨p,p6,["a","b","abcdefgh","z"],rfl,⟨_,_,_,x6 _ _ (x4 _ _ hp3)⟩,s6,(fun e=>by rw [e,x4 _ _ hp3] at n6;cases n6),(by simp),(by simp),fun H7 nm hnm hp7 o7=>?_⟩
   refine ⟨sz (by simp),?_⟩
   intro p8 n8
   generalize e8:upd _ p8 _=H8
   obtain ⟨x8,s8,o8⟩:=new_of e8 n8
   clear e8
   have g6:=g4.trans (Gr.new g4.fh x6)
   have g7:Gr (fun b=>b=p) F H F H7:=g6.trans (Gr.set g6.fh rfl fp o7)
   exact fin g7 n8 s8 o8 hp7 (.cons (.str _) (.cons (.str _) .nil)) (sd_call (nm_four _ hnm))
  ·refine itF (in_strs (l:=["break","continue"]) (by decide +kernel)) ?_
   refine ⟨_,rfl,sz (by simp),?_⟩
   intro p4 n4
   generalize e4:upd _ p4 _=H4
   obtain ⟨x4,s4,o4⟩:=new_of e4 n4
   clear e4
   have g4:Gr (fun b=>b=p) F H F H4:=g3.trans (Gr.new g3.fh x4)
   refine ⟨p4,_,rfl,.inr (Evl.st_of s4),rfl,flat_strs ["return","raise"],_,rfl,?_⟩
   refine itF (in_strs (l:=["return","raise"]) (by decide +kernel)) ?_
   refine ⟨_,rfl,_,rfl,sz (by simp),?_⟩
   intro p6 n6
   generalize e6:upd _ p6 _=H6
   obtain ⟨x6,s6,o6⟩:=new_of e6 n6
   clear e6
   refine ⟨p,p6,["a","b","abcdefgh","z"],rfl,⟨_,_,_,x6 _ _ (x4 _ _ hp3)⟩,s6,(fun e=>by rw [e,x4 _ _ hp3] at n6;cases n6),(by simp),(by simp),fun H7 nm hnm hp7 o7=>?_⟩
   refine ⟨sz (by simp),?_⟩
   intro p8 n8
   generalize e8:upd _ p8 _=H8
   obtain ⟨x8,s8,o8⟩:=new_of e8 n8
   clear e8
   have g6:=g4.trans (Gr.new g4.fh x6)
   have g7:Gr (fun b=>b=p) F H F H7:=g6.trans (Gr.set g6.fh rfl fp o7)
   exact fin g7 n8 s8 o8 hp7 (.cons (.str _) (.cons (.str _) .nil)) (sd_call (nm_four _ hnm))
  ·refine itF (in_strs (l:=["break","continue"]) (by decide +kernel)) ?_
   refine ⟨_,rfl,sz (by simp),?_⟩
   intro p4 n4
   generalize e4:upd _ p4 _=H4
   obtain ⟨x4,s4,o4⟩:=new_of e4 n4
   clear e4
   have g4:Gr (fun b=>b=p) F H F H4:=g3.trans (Gr.new g3.fh x4)
   refine ⟨p4,_,rfl,.inr (Evl.st_of s4),rfl,flat_strs ["return","raise"],_,rfl,?_⟩
   refine itT (in_strs (l:=["return","raise"]) (by decide +kernel)) ?_
   refine ⟨_,rfl,sz (by simp),?_⟩
   intro p5 n5
   generalize e5:upd _ p5 _=H5
   obtain ⟨x5,s5,o5⟩:=new_of e5 n5
   clear e5
   exact fin g4 n5 s5 o5 ⟨_,_,_,x4 _ _ hp3⟩ (.cons (.str _) .nil) sd_ret
  ·refine itF (in_strs (l:=["break","continue"]) (by decide +kernel)) ?_
   refine ⟨_,rfl,sz (by simp),?_⟩
   intro p4 n4
   generalize e4:upd _ p4 _=H4
   obtain ⟨x4,s4,o4⟩:=new_of e4 n4
   clear e4
   have g4:Gr (fun b=>b=p) F H F H4:=g3.trans (Gr.new g3.fh x4)
   refine ⟨p4,_,rfl,.inr (Evl.st_of s4),rfl,flat_strs ["return","raise"],_,rfl,?_⟩
   refine itT (in_strs (l:=["return","raise"]) (by decide +kernel)) ?_
   refine ⟨_,rfl,sz (by simp),?_⟩
   intro p5 n5
   generalize e5:upd _ p5 _=H5
   obtain ⟨x5,s5,o5⟩:=new_of e5 n5
   clear e5
   exact fin g4 n5 s5 o5 ⟨_,_,_,x4 _ _ hp3⟩ (.cons (.str _) .nil) sd_rai
  ·refine itT (in_strs (l:=["break","continue"]) (by decide +kernel)) ?_
   refine ⟨_,rfl,_,_,rfl,rfl,_,rfl,ite_of (fun h0=>?_) (fun h0=>?_)⟩
   ·have hl0:0<loops:=by
     have:=of_decide_eq_true h0
     omega
    refine ⟨_,rfl,_,rfl,_,rfl,p,a1,a2,a3,_,rfl,hp3,(by omega),(by omega),fun x' y' z' v v0 v1=>?_⟩
    generalize e4:upd _ p _=H4
    obtain ⟨s4,o4⟩:=set_of e4
    clear e4
    refine ⟨_,_,rfl,rfl,sz (by simp),?_⟩
    intro p5 n5
    generalize e5:upd _ p5 _=H5
    obtain ⟨x5,s5,o5⟩:=new_of e5 n5
    clear e5
    have g4:Gr (fun b=>b=p) F H F H4:=g3.trans (Gr.set g3.fh rfl fp o4)
    exact fin g4 n5 s5 o5 ⟨_,_,_,s4⟩ (.cons (.str _) (.cons (.int _) .nil)) (sd_brk (by omega) (by omega))
   ·refine ⟨sz (by simp),?_⟩
    intro p5 n5
    generalize e5:upd _ p5 _=H5
    obtain ⟨x5,s5,o5⟩:=new_of e5 n5
    clear e5
    exact fin g3 n5 s5 o5 ⟨_,_,_,hp3⟩ (.cons (.str _) (.cons (.str _) .nil)) (sd_do (by decide))
  ·refine itT (in_strs (l:=["break","continue"]) (by decide +kernel)) ?_
   refine ⟨_,rfl,_,_,rfl,rfl,_,rfl,ite_of (fun h0=>?_) (fun h0=>?_)⟩
   ·have hl0:0<loops:=by
     have:=of_decide_eq_true h0
     omega
    refine ⟨_,rfl,_,rfl,_,rfl,p,a1,a2,a3,_,rfl,hp3,(by omega),(by omega),fun x' y' z' v v0 v1=>?_⟩
    generalize e4:upd _ p _=H4
    obtain ⟨s4,o4⟩:=set_of e4
    clear e4
    refine ⟨_,_,rfl,rfl,sz (by simp),?_⟩
    intro p5 n5
    generalize e5:upd _ p5 _=H5
    obtain ⟨x5,s5,o5⟩:=new_of e5 n5
    clear e5
    have g4:Gr (fun b=>b=p) F H F H4:=g3.trans (Gr.set g3.fh rfl fp o4)
    exact fin g4 n5 s5 o5 ⟨_,_,_,s4⟩ (.cons (.str _) (.cons (.int _) .nil)) (sd_cnt (by omega) (by omega))
   ·refine ⟨sz (by simp),?_⟩
    intro p5 n5
    generalize e5:upd _ p5 _=H5
    obtain ⟨x5,s5,o5⟩:=new_of e5 n5
    clear e5
    exact fin g3 n5 s5 o5 ⟨_,_,_,hp3⟩ (.cons (.str _) (.cons (.str _) .nil)) (sd_do (by decide))
  ·refine itT (in_strs (l:=["break","continue"]) (by decide +kernel)) ?_
   refine ⟨_,rfl,_,_,rfl,rfl,_,rfl,ite_of (fun h0=>?_) (fun h0=>?_)⟩
   ·have hl0:0<loops:=by
     have:=of_decide_eq_true h0
     omega
    refine ⟨_,rfl,_,rfl,_,rfl,p,a1,a2,a3,_,rfl,hp3,(by omega),(by omega),fun x' y' z' v v0 v1=>?_⟩
    generalize e4:upd _ p _=H4
    obtain ⟨s4,o4⟩:=set_of e4
    clear e4
    refine ⟨_,_,rfl,rfl,sz (by simp),?_⟩
    intro p5 n5
    generalize e5:upd _ p5 _=H5
    obtain ⟨x5,s5,o5⟩:=new_of e5 n5
    clear e5
    have g4:Gr (fun b=>b=p) F H F H4:=g3.trans (Gr.set g3.fh rfl fp o4)
    exact fin g4 n5 s5 o5 ⟨_,_,_,s4⟩ (.cons (.str _) (.cons (.int _) .nil)) (sd_brk (by omega) (by omega))
   ·refine ⟨sz (by simp),?_⟩
    intro p5 n5
    generalize e5:upd _ p5 _=H5
    obtain ⟨x5,s5,o5⟩:=new_of e5 n5
    clear e5
    exact fin g3 n5 s5 o5 ⟨_,_,_,hp3⟩ (.cons (.str _) (.cons (.str _) .nil)) (sd_do (by decide))
end
end
section
theorem SD.mono {a b l:Nat} {d:PyData} (h:SD a l d) (e:a≤b):SD b l d:=by
 induction h generalizing b with
 | mk st cl sz l3 ps ih =>
  obtain ⟨b',rfl⟩:∃ b',b=b' + 1:=⟨b - 1,by omega⟩
  exact .mk st cl sz l3 fun p hp=>ih p hp (by omega)
theorem SD.can {a l:Nat} {d:PyData} (h:SD a l d):PyData.canLay0 d=true:=by
 cases h with
 | mk _ cl _ _ _=>exact cl
theorem sd_if {m l:Nat} {a b:PyData} (ha:SD m l a) (hb:SD m l b):SD (m + 1) l (.tuple [.str "if",.str "i",a,b]):=by
 refine .mk (show nameOk "i"=true by decide +kernel) ?_ (fun k x r e=>by cases e;decide +kernel) (show 2≤3 by decide) fun p hp=>?_
 ·show (PyData.canLay0 (.str "if") && (PyData.canLay0 (.str "i") && (PyData.canLay0 a && (PyData.canLay0 b && true))))=true
  rw [ha.can,hb.can]
  kernel_rfl
 ·have hp:p∈[a,b]:=hp
  rcases List.mem_cons.mp hp with rfl | hp
  ·exact ha
  ·rw [List.mem_singleton.mp hp];exact hb
theorem sd_two {m l:Nat} {k:Str} {a b:PyData} (hk:k="try"∨k="final") (ha:SD m l a) (hb:SD m l b):SD (m + 1) l (.tuple [.str k,a,b]):=by
 rcases hk with rfl | rfl
 ·refine .mk rfl ?_ (fun k x r e=>?_) (show 2≤3 by decide) fun p hp=>?_
  ·show (PyData.canLay0 (.str "try") && (PyData.canLay0 a && (PyData.canLay0 b && true)))=true
   rw [ha.can,hb.can]
   kernel_rfl
  ·cases e
   cases ha with
   | mk st=>cases st
  ·have hp:p∈[a,b]:=hp
   rcases List.mem_cons.mp hp with rfl | hp
   ·exact ha
   ·rw [List.mem_singleton.mp hp];exact hb
 ·refine .mk rfl ?_ (fun k x r e=>?_) (show 2≤3 by decide) fun p hp=>?_
  ·show (PyData.canLay0 (.str "final") && (PyData.canLay0 a && (PyData.canLay0 b && true)))=true
   rw [ha.can,hb.can]
   kernel_rfl
  ·cases e
   cases ha with
   | mk st=>cases st
  ·have hp:p∈[a,b]:=hp
   rcases List.mem_cons.mp hp with rfl | hp
   ·exact ha
   ·rw [List.mem_singleton.mp hp];exact hb
theorem sd_whl {m l:Nat} {x:Str} {a:PyData} (hx:x∈lNames) (ha:SD m (l + 1) a):SD (m + 1) l (.tuple [.str "while",.str x,a]):=by
 obtain ⟨h1,h2,h3⟩:=nm_ok x hx
 refine .mk (show nameOk x=true from h1) ?_ (fun k y r e=>by cases e;exact h3) (show 1≤3 by decide) fun p hp=>?_
 ·show (PyData.canLay0 (.str "while") && (PyData.canLay0 (.str x) && (PyData.canLay0 a && true)))=true
  rw [ha.can,h2]
  kernel_rfl
 ·have hp:p∈[a]:=hp
  rw [List.mem_singleton.mp hp]
  exact ha
theorem lay_all {l:List PyData} (h:∀ d∈l,PyData.canLay0 d=true):PyData.canLayAll0 l=true:=canAll h
theorem sd_seq {m l:Nat} {ds:List PyData} (hn:ds≠[]) (h3:ds.length≤3) (h:∀ d∈ds,SD m l d):SD (m + 1) l (.tuple [.str "seq",.tuple ds]):=by
 have hp:partsD (.tuple [.str "seq",.tuple ds])=ds:=List.take_of_length_le (by omega)
 refine .mk ?_ ?_ (fun k x r e=>by cases e) (by rw [hp];exact h3) fun p hq=>?_
 ·cases ds with
  | nil=>exact absurd rfl hn
  | cons a b=>rfl
 ·show (PyData.canLay0 (.str "seq") && (PyData.canLayAll0 ds && true))=true
  rw [lay_all fun d hd=>(h d hd).can]
  kernel_rfl
 ·rw [hp] at hq
  exact h p hq
def sp_stm (K:PySem.W.Frag) (n:Nat):Sp:=fun vs H Q _=>∃ (F:Hp) (p:Addr) (deep loops:Nat),vs=[.ref p,.int (deep:Int),.int (loops:Int)]∧deep≤n∧Ex F H∧F p=none∧Src H p∧loops + deep<900 ∧
 ∀ (F' H':Hp) (v:V) (d:PyData),Gr (fun b=>b=p) F H F' H'→F' p=none→Src H' p→Dp K F' v d→SD (max 1 deep) loops d→Q v H'
section
variable {P:Program} {w:World} {h:Heap} {K:PySem.W.Frag} {mg:Str→Option Value} {base:Heap}
theorem st_pre (n:Nat) (IH:∀ m,m<n→Ok P w K mg base (m + 5) ("_law_statement",none) ["_law_source","_law_deep","_law_loops"] (sp_stm K m)) (T:Tx w h K mg) :
  Ok P w K mg base (n + 4) ("_law_statement",none) ["_law_source","_law_deep","_law_loops"] (fun vs H Q E=>∃ m,m<n∧sp_stm K m vs H Q E):=by
 cases n with
 | zero =>
  obtain ⟨fd,F⟩:=F_law_statement T
  refine ⟨fd,⟨fun vs H Q E h=>?_,fun A outer s H args us vs Q E _ _ _ _ h=>?_⟩,F.bindsN (fun _ _ _ _ _ _ us hl=>match us,hl with | [_,_,_],_=>rfl),F.kp⟩
  ·obtain ⟨m,h,_⟩:=h
   exact absurd h (Nat.not_lt_zero _)
  ·obtain ⟨m,h,_⟩:=h
   exact absurd h (Nat.not_lt_zero _)
 | succ n =>
  obtain ⟨fd,G,b,kp⟩:=IH n (Nat.lt_succ_self _)
  refine ⟨fd,G.imp fun vs H Q E h=>?_,b,kp⟩
  obtain ⟨m,hm,F,p,deep,loops,e,hd,r⟩:=h
  exact ⟨F,p,deep,loops,e,by omega,r⟩
abbrev N_law_statement:List Str:=["_law_source","_law_deep","_law_loops","_law_kind","_law_one_here","_law_other","_law_k"]
theorem sc_law_statement:FnScope N_law_statement ["_law_source","_law_deep","_law_loops"] (defScope sd_law_statement):=⟨rfl,rfl,rfl,by decide +kernel,rfl,by decide +kernel,by decide +kernel⟩
theorem ok_law_statement (n:Nat) (IH:∀ m,m<n→Ok P w K mg base (m + 5) ("_law_statement",none) ["_law_source","_law_deep","_law_loops"] (sp_stm K m)) (T:Tx w h K mg):Ok P w K mg base (n+5) ("_law_statement",none) ["_law_source","_law_deep","_law_loops"] (sp_stm K n):=by
 obtain ⟨fd,F⟩:=F_law_statement T
 refine ⟨fd,?_,F.bindsN (fun _ _ _ _ _ _ us hl=>match us,hl with | [_,_,_],_=>rfl),F.kp⟩
 obtain ⟨fd_law_draw,G_law_draw,bi_law_draw,kp_law_draw⟩:=ok_law_draw (P:=P) (base:=base) T
 obtain ⟨fd_law_leaf,G_law_leaf,bi_law_leaf,kp_law_leaf⟩:=ok_law_leaf (P:=P) (base:=base) T
 obtain ⟨fd_law_one,G_law_one,bi_law_one,kp_law_one⟩:=ok_law_one (P:=P) (base:=base) T
 obtain ⟨fd_law_statement,G_law_statement,bi_law_statement,kp_law_statement⟩:Ok P w K mg base (n + 4) ("_law_statement",none) ["_law_source","_law_deep","_law_loops"] (fun vs H Q E=>∃ m,m<n∧sp_stm K m vs H Q E):=st_pre n IH T
 refine F.ok sc_law_statement (fun vs H Q E h=>?_) (fun cdv A outer s H vs Q E hr h=>?_)
 ·obtain ⟨F,p,deep,loops,rfl,hn,xF,fp,hp,hlp,q⟩:=h
  rfl
 ·obtain ⟨F,p,deep,loops,rfl,hn,xF,fp,hp,hlp,q⟩:=h
  refine ⟨_,PSs.nox (pss_cons (ps_if (PW.pt (pw_or (pt_cmpR op_lt (pv 1) pe_int (nomark _)) (pw_or1 (pt_cmpR op_eq (pe_call G_law_draw (hr.mono (by omega)) rfl (g_law_draw T) kp_law_draw bi_law_draw .nil passF (pa_cons (pv 0) (pa_cons pe_int pa_nil))) pe_int (nomark _))))) (pss_one (ps_ret (pe_call G_law_leaf (hr.mono (by omega)) rfl (g_law_leaf T) kp_law_leaf bi_law_leaf .nil passF (pa_cons (pv 0) (pa_cons (pv 2) pa_nil))))) pss_nil) (pss_cons (ps_set (i:=3) sc_law_statement.nd rfl (Or.inl rfl) (pe_call G_law_one (hr.mono (by omega)) rfl (g_law_one T) kp_law_one bi_law_one .nil passF (pa_cons (pv 0) (pa_cons (pe_lst (pa_cons pe_str (pa_cons pe_str (pa_cons pe_str (pa_cons pe_str (pa_cons pe_str (pa_cons pe_str (pa_cons pe_str (pa_cons pe_str pa_nil))))))))) pa_nil)))) (pss_cons (ps_if (pt_cmpR op_eq (pv 3) pe_str (nomark _)) (pss_one (ps_ret (pe_tup (pa_cons (pv 3) (pa_cons (pe_callTy call_tuple_of rfl (fr_tuple T) b_tuple (pa_cons (pe_lc (own:=[("_law_k",6)]) rfl sc_law_statement.nd (pi_range1 rfl (fr_range T) (pa_cons (pe_op op_add pe_int (pe_call G_law_draw (hr.mono (by omega)) rfl (g_law_draw T) kp_law_draw bi_law_draw .nil passF (pa_cons (pv 0) (pa_cons pe_int pa_nil)))) pa_nil)) (blkOk_by (N:=N_law_statement) (sc:=defScope sd_law_statement) (by decide +kernel)) (fun _ _ _ _ _=>(pg_name (i:=6) sc_law_statement.nd rfl (Or.inl rfl))) (fun _ _ _ _ _=>pts_nil) (fun _ _ _ _ _=>(pe_call G_law_statement (hr.mono (by omega)) rfl (g_law_statement T) kp_law_statement bi_law_statement .nil passF (pa_cons (pv 0) (pa_cons (pe_op op_sub (pv 1) pe_int) (pa_cons (pv 2) pa_nil)))))) pa_nil)) pa_nil))))) pss_nil) (pss_cons (ps_if (pt_cmpR op_eq (pv 3) pe_str (nomark _)) (pss_one (ps_ret (pe_tup (pa_cons (pv 3) (pa_cons (pe_call G_law_one (hr.mono (by omega)) rfl (g_law_one T) kp_law_one bi_law_one .nil passF (pa_cons (pv 0) (pa_cons (pe_lst (pa_cons pe_str (pa_cons pe_str pa_nil))) pa_nil))) (pa_cons (pe_call G_law_statement (hr.mono (by omega)) rfl (g_law_statement T) kp_law_statement bi_law_statement .nil passF (pa_cons (pv 0) (pa_cons (pe_op op_sub (pv 1) pe_int) (pa_cons (pe_op op_add (pv 2) pe_int) pa_nil)))) pa_nil)))))) pss_nil) (pss_cons (ps_par rfl sc_law_statement.nd (i:=4) (j:=5) rfl rfl (by decide) rfl rfl (pa_cons (pe_call G_law_statement (hr.mono (by omega)) rfl (g_law_statement T) kp_law_statement bi_law_statement .nil passF (pa_cons (pv 0) (pa_cons (pe_op op_sub (pv 1) pe_int) (pa_cons (pv 2) pa_nil)))) (pa_cons (pe_call G_law_statement (hr.mono (by omega)) rfl (g_law_statement T) kp_law_statement bi_law_statement .nil passF (pa_cons (pv 0) (pa_cons (pe_op op_sub (pv 1) pe_int) (pa_cons (pv 2) pa_nil)))) pa_nil)) (by rfl)) (pss_one (ps_ret (pe_ifExp (pt_cmpR op_eq (pv 3) pe_str (nomark _)) (pe_tup (pa_cons (pv 3) (pa_cons pe_str (pa_cons (pv 4) (pa_cons (pv 5) pa_nil))))) (pe_tup (pa_cons (pv 3) (pa_cons (pv 4) (pa_cons (pv 5) pa_nil)))))))))))),?_⟩
  have leafQ:∀ {H1:Hp},Gr (fun b=>b=p) F H F H1→Src H1 p→sp_leaf K [.ref p,.int (loops:Int)] H1 Q (fun _ _ _=>False):=fun {H1} g hp1=>⟨F,p,loops,rfl,g.fh,fp,hp1,by omega,fun F' H' v d g' f' s' dv sd=>q F' H' v d (g.trans g') f' s' dv (sd.mono (by omega))⟩
  refine ⟨_,rfl,_,_,rfl,rfl,_,rfl,ite_of (fun h1=>?_) (fun h1=>?_)⟩
  ·exact ⟨_,rfl,_,rfl,leafQ (Gr.refl xF) hp⟩
  have hd2:2≤deep:=by
   have:=of_decide_eq_false h1
   omega
  obtain ⟨x,y,z,hp0⟩:=hp
  refine ⟨_,rfl,p,x,y,z,7,rfl,hp0,by decide,by decide,fun x' y' z' v v0 v1=>?_⟩
  generalize e1:upd _ p _=H1
  obtain ⟨s1,o1⟩:=set_of e1
  clear e1
  have g1:Gr (fun b=>b=p) F H F H1:=Gr.set xF rfl fp o1
  refine ⟨rfl,_,rfl,ite_of (fun h2=>?_) (fun h2=>?_)⟩
  ·exact ⟨_,rfl,_,rfl,leafQ g1 ⟨_,_,_,s1⟩⟩
  refine ⟨_,rfl,sz (by simp),?_⟩
  intro p2 n2
  generalize e2:upd _ p2 _=H2
  obtain ⟨x2,s2,o2⟩:=new_of e2 n2
  clear e2
  refine ⟨p,p2,["if","while","seq","seq","try","final","final","final"],rfl,⟨_,_,_,x2 _ _ s1⟩,s2,(fun e=>by rw [e,s1] at n2;cases n2),(by simp),(by simp),fun H3 k hk hp3 o3=>?_⟩
  have g2:=g1.trans (Gr.new g1.fh x2)
  have g3:Gr (fun b=>b=p) F H F H3:=g2.trans (Gr.set g2.fh rfl fp o3)
  have fin:∀ {F4 H4 H5:Hp} {q5:Addr} {xs:List V} {ds:List PyData},Gr (fun b=>b=p) F H F4 H4→F4 p=none→H4 q5=none→H5 q5=some (.tup xs)→(∀ b,b≠q5→H5 b=H4 b)→Src H4 p→DpAll K F4 xs ds→SD deep loops (.tuple ds)→Q (.ref q5) H5:=fun {F4 H4 H5 q5 xs ds} g f4 n5 s5 o5 sp da sd=>by
   have pq:p≠q5:=fun z=>by
    obtain ⟨b1,b2,b3,hb⟩:=sp
    rw [z,n5] at hb
    cases hb
   refine q (upd F4 q5 (.tup xs)) H5 _ _ (g.trans (Gr.frz g.fh n5 s5 o5)) (by rw [upd_ne pq];exact f4) ?_ (.tup (Evl.st_of upd_same) (dpA_ex (exu (Evl.Ex.refl _) (ex_none g.fh n5)) da)) (sd.mono (by omega))
   obtain ⟨b1,b2,b3,hb⟩:=sp
   exact ⟨b1,b2,b3,by rw [o5 p pq];exact hb⟩
  have hdi:((deep:Int) - 1)=((deep - 1:Nat):Int):=by omega
  have hmx:max 1 (deep - 1)=deep - 1:=by omega
  have rec_:∀ {F4 H4:Hp} {lp:Nat} {li:Int} {Q':VK},li=(lp:Int)→Gr (fun b=>b=p) F H F4 H4→F4 p=none→Src H4 p→lp + deep≤900→(∀ (F' H':Hp) (v:V) (d:PyData),Gr (fun b=>b=p) F4 H4 F' H'→F' p=none→Src H' p→Dp K F' v d→SD (deep - 1) lp d→Q' v H') →
    (∃ m,m<n∧sp_stm K m [.ref p,.int ((deep:Int) - 1),.int li] H4 Q' (fun _ _ _=>False)):=fun {F4 H4 lp li Q'} el g f4 s4 hl hq=>by
   rw [hdi,el]
   exact ⟨deep - 1,by omega,F4,p,deep - 1,lp,rfl,Nat.le_refl _,g.fh,f4,s4,by omega,fun F' H' v d g' f' s' dv sd=>hq F' H' v d g' f' s' dv (by rw [hmx] at sd;exact sd)⟩
  simp only [List.mem_cons,List.not_mem_nil,or_false] at hk
  by_cases hks:k="seq"
  ·subst hks
   refine ⟨_,rfl,rfl,_,rfl,itT rfl ?_⟩
   obtain ⟨b1,b2,b3,hb⟩:=hp3
   refine ⟨_,rfl,_,rfl,p,b1,b2,b3,3,rfl,hb,by decide,by decide,fun x' y' z' c c0 c1=>?_⟩
   generalize e4:upd _ p _=H4
   obtain ⟨s4,o4⟩:=set_of e4
   clear e4
   have g4:Gr (fun b=>b=p) F H F H4:=g3.trans (Gr.set g3.fh rfl fp o4)
   refine ⟨_,_,rfl,rfl,_,rfl,(by omega),(by omega),fun D nD=>?_⟩
   obtain ⟨cn,hcn⟩:∃ cn:Nat,((1:Int) + c).toNat=cn:=⟨_,rfl⟩
   rw [hcn]
   have nDH:H D=none:=by
    cases e8:H D with
    | none=>rfl
    | some o =>
     by_cases hDp:D=p
     ·rw [hDp,s4] at nD;cases nD
     ·rw [g4.kp D o e8 hDp] at nD;cases nD
   have hDp:D≠p:=fun e=>by rw [e,s4] at nD;cases nD
   refine lc_it (walk_range (lo:=0) (n:=cn)) (fun i H'=>∃ (F5:Hp) (vs:List V) (ds:List PyData),Gr (fun b=>b=p) F H F5 H'∧F5 p=none∧Src H' p∧F5 D=none∧H' D=some (.lst vs)∧DpAll K F5 vs ds∧vs.length=i∧∀ d∈ds,SD (deep - 1) loops d) ?_ ?_ ?_ ?_
   ·refine ⟨F,[],[],g4.trans (Gr.new g4.fh (exu (Evl.Ex.refl _) nD)),fp,⟨x',y',z',by rw [upd_ne hDp.symm];exact s4⟩,ex_none g4.fh nD,upd_same,.nil,rfl,fun d hd=>by cases hd⟩
   ·exact fun _ _ _ _=>True.intro
   ·rintro i v Ja Jb hi ⟨F5,vs,ds,g5,f5,s5,fD,lD,da,hv,hsd⟩ ⟨rfl,rfl⟩
    refine ⟨rfl,_,rfl,_,rfl,_,_,rfl,rfl,_,rfl,rec_ rfl g5 f5 s5 (by omega) fun F6 H6 va d6 g6 f6 s6 dva sda=>?_⟩
    have l6:=g6.kp D _ lD hDp
    have fD6:F6 D=none:=g6.nw D (by rw [lD];exact fun z=>nomatch z) fD hDp
    have g56:=g5.trans g6
    refine ⟨vs,l6,szl (by omega),F6,vs++[va],ds++[d6],⟨g56.ff,exm g56.fh fD6,g56.nw,fun b o e hb=>by rw [upd_ne (ne_of_none e nDH)];exact g56.kp b o e hb⟩,f6,?_,fD6,upd_same,dpA_app (dpA_ex g6.ff da) (.cons dva .nil),by rw [List.length_append,hv]<;>rfl,fun d hd=>?_⟩
    ·obtain ⟨a1,a2,a3,ha⟩:=s6
     exact ⟨a1,a2,a3,by rw [upd_ne hDp.symm];exact ha⟩
    ·rcases List.mem_append.mp hd with hd | hd
     ·exact hsd d hd
     ·rw [List.mem_singleton.mp hd];exact sda
   rintro H5 ⟨F5,vs,ds,g5,f5,s5,fD,lD,da,hv,hsd⟩
   refine ⟨D,vs,rfl,.inl ⟨Evl.sq_of lD,?_⟩⟩
   intro p8 n8
   generalize e8:upd _ p8 _=H8
   obtain ⟨x8,s8,o8⟩:=new_of e8 n8
   clear e8
   refine ⟨sz (by simp),?_⟩
   intro p9 n9
   generalize e9:upd _ p9 _=H9
   obtain ⟨x9,s9,o9⟩:=new_of e9 n9
   clear e9
   have hdl:ds.length=cn:=by rw [← hv,dpA_len da]
   have p8p:p≠p8:=fun e=>by obtain ⟨a1,a2,a3,ha⟩:=s5;rw [← e,ha] at n8;cases n8
   have g8:=g5.trans (Gr.frz g5.fh n8 s8 o8)
   obtain ⟨dm,rfl⟩:∃ dm,deep=dm + 1:=⟨deep - 1,by omega⟩
   refine fin (ds:=[.str "seq",.tuple ds]) g8 (by rw [upd_ne p8p];exact f5) n9 s9 o9 (by obtain ⟨a1,a2,a3,ha⟩:=s5;exact ⟨a1,a2,a3,x8 _ _ ha⟩) (.cons (.str _) (.cons (.tup (Evl.st_of upd_same) (dpA_ex (exu (Evl.Ex.refl _) (ex_none g5.fh n8)) da)) .nil)) (sd_seq (fun e=>by rw [e] at hdl;simp at hdl;omega) (by omega) hsd)
  refine ⟨_,rfl,rfl,_,rfl,itF (decide_eq_false fun z=>hks (V.str.inj z)) ?_⟩
  by_cases hkw:k="while"
  ·subst hkw
   refine ⟨_,rfl,rfl,_,rfl,itT rfl ?_⟩
   refine ⟨_,rfl,_,rfl,sz (by simp),?_⟩
   intro p4 n4
   generalize e4:upd _ p4 _=H4
   obtain ⟨x4,s4,o4⟩:=new_of e4 n4
   clear e4
   refine ⟨p,p4,["a","w"],rfl,(by obtain ⟨b1,b2,b3,hb⟩:=hp3;exact ⟨b1,b2,b3,x4 _ _ hb⟩),s4,(fun e=>by obtain ⟨b1,b2,b3,hb⟩:=hp3;rw [e,hb] at n4;cases n4),(by simp),(by simp),fun H5 nm hnm hp5 o5=>?_⟩
   have g4:=g3.trans (Gr.new g3.fh x4)
   have g5:Gr (fun b=>b=p) F H F H5:=g4.trans (Gr.set g4.fh rfl fp o5)
   have hli:(loops:Int) + 1=((loops + 1:Nat):Int):=by omega
   obtain ⟨dm,rfl⟩:∃ dm,deep=dm + 1:=⟨deep - 1,by omega⟩
   refine ⟨_,rfl,_,rfl,_,_,rfl,rfl,_,rfl,_,_,rfl,rfl,?_⟩
   refine rec_ hli g5 fp hp5 (by omega) fun F6 H6 va da g6 f6 s6 dva sda=>?_
   refine ⟨sz (by simp),?_⟩
   intro p7 n7
   generalize e7:upd _ p7 _=H7
   obtain ⟨x7,s7,o7⟩:=new_of e7 n7
   clear e7
   exact fin (g5.trans g6) f6 n7 s7 o7 s6 (.cons (.str _) (.cons (.str _) (.cons dva .nil))) (sd_whl (by simp [lNames] at hnm ⊢;rcases hnm with h | h<;>simp [h]) sda)
  refine ⟨_,rfl,rfl,_,rfl,itF (decide_eq_false fun z=>hkw (V.str.inj z)) ?_⟩
  obtain ⟨dm,rfl⟩:∃ dm,deep=dm + 1:=⟨deep - 1,by omega⟩
  refine ⟨_,rfl,_,rfl,_,_,rfl,rfl,_,rfl,rec_ rfl g3 fp hp3 (by omega) fun F4 H4 va da g4 f4 s4 dva sda=>?_⟩
  refine ⟨_,rfl,_,rfl,_,_,rfl,rfl,_,rfl,rec_ rfl (g3.trans g4) f4 s4 (by omega) fun F5 H5 vb db g5 f5 s5 dvb sdb=>⟨_,_,rfl,?_⟩⟩
  have g345:=(g3.trans g4).trans g5
  have dva5:=dp_ex g5.ff dva
  refine ⟨_,rfl,rfl,_,rfl,ite_of (fun h6=>?_) (fun h6=>?_)⟩
  ·obtain rfl:k="if":=V.str.inj (of_decide_eq_true h6)
   refine ⟨_,rfl,_,rfl,_,rfl,sz (by simp),?_⟩
   intro p7 n7
   generalize e7:upd _ p7 _=H7
   obtain ⟨x7,s7,o7⟩:=new_of e7 n7
   clear e7
   exact fin g345 f5 n7 s7 o7 s5 (.cons (.str _) (.cons (.str _) (.cons dva5 (.cons dvb .nil)))) (sd_if sda sdb)
  ·have hki:k≠"if":=fun z=>of_decide_eq_false h6 (by rw [z])
   refine ⟨_,rfl,_,rfl,_,rfl,sz (by simp),?_⟩
   intro p7 n7
   generalize e7:upd _ p7 _=H7
   obtain ⟨x7,s7,o7⟩:=new_of e7 n7
   clear e7
   exact fin g345 f5 n7 s7 o7 s5 (.cons (.str _) (.cons dva5 (.cons dvb .nil))) (sd_two (by
    rcases hk with z | z | z | z | z | z | z | z
    ·exact absurd z hki
    ·exact absurd z hkw
    ·exact absurd z hks
    ·exact absurd z hks
    ·exact .inl z
    ·exact .inr z
    ·exact .inr z
    ·exact .inr z) sda sdb)
theorem ok_stm (T:Tx w h K mg) (n:Nat):Ok P w K mg base (n + 5) ("_law_statement",none) ["_law_source","_law_deep","_law_loops"] (sp_stm K n):=by
 induction n using Nat.strongRecOn with
 | ind n ih=>exact ok_law_statement n ih T
end
end
section
def wMax:Nat→Nat
 | 0=>0
 | k + 1=>1 + 3 * wMax k
theorem sum_le {f:Nat→Nat} {m:Nat}:∀ (l:List Nat),(∀ i∈l,f i≤m)→(l.map f).sum≤l.length * m
 | [],_=>Nat.zero_le _
 | a::l,h=>by
  rw [List.map_cons,List.sum_cons,List.length_cons,Nat.succ_mul]
  have:=h a List.mem_cons_self
  have:=sum_le l fun i hi=>h i (List.mem_cons_of_mem _ hi)
  omega
theorem okS_sd {k loops:Nat} {d:PyData} (h:SD k loops d):∀ {deep blocks:Nat},deep + k≤101→blocks + k≤26→∃ w,w≤wMax k∧OkS loops deep blocks w d:=by
 induction h with
 | @mk k loops d st cl sz l3 ps ih =>
  intro deep blocks h1 h2
  have hx:∀ i,∃ w,∀ p,(partsD d)[i]?=some p→w≤wMax k∧OkS (loops + wl d) (deep + 1) (blocks + (if kindD d="final"∧i=1 then 1 else 0)) w p:=fun i=>by
   cases e:(partsD d)[i]? with
   | none=>exact ⟨0,fun p hp=>by cases hp⟩
   | some p =>
    have hm:=List.mem_of_getElem? e
    obtain ⟨w,a,b⟩:=ih p hm (deep:=deep + 1) (blocks:=blocks + (if kindD d="final"∧i=1 then 1 else 0)) (by omega) (by split<;>omega)
    exact ⟨w,fun q hq=>by cases hq;exact ⟨a,b⟩⟩
  refine ⟨_,?_,.mk (fun i=>Classical.choose (hx i)) st (by omega) (by omega) fun i p hp=>(Classical.choose_spec (hx i) p hp).2⟩
  have z:=sum_le (f:=fun i=>Classical.choose (hx i)) (m:=wMax k) (List.range (partsD d).length) fun i hi=>by
   have li:i<(partsD d).length:=List.mem_range.mp hi
   exact (Classical.choose_spec (hx i) _ (List.getElem?_eq_getElem li)).1
  rw [List.length_range] at z
  have e3:(partsD d).length * wMax k≤3 * wMax k:=Nat.mul_le_mul_right _ l3
  show 1 + _≤1 + 3 * wMax k
  omega
end
section
def whD (d:PyData):PyData:=.tuple [.str "while",.str "w",d]
theorem okS_wh {d:PyData} {dp b w:Nat} (h:OkS 1 (dp + 1) b w d) (hd:dp≤100) (hb:b≤25):OkS 0 dp b (1 + w) (whD d):=by
 have:=OkS.mk (loops:=0) (deep:=dp) (blocks:=b) (d:=whD d) (fun _=>w) (by kernel_rfl) hd hb fun i p hp=>by
  have e:partsD (whD d)=[d]:=rfl
  rw [e] at hp
  cases i with
  | succ i=>simp at hp
  | zero =>
   cases hp
   exact h
 have e:partsD (whD d)=[d]:=rfl
 rw [e] at this
 exact this
theorem okS_seq {ds:List PyData} {ws:List Nat} {dp b l:Nat} (hl:ws.length=ds.length) (h:∀ (i:Nat) (d:PyData) (w:Nat),ds[i]?=some d→ws[i]?=some w→OkS l (dp + 1) b w d) (hn:ds≠[]) (h4:ds.length≤401) (hd:dp≤100) (hb:b≤25):OkS l dp b (1 + ws.sum) (.tuple [.str "seq",.tuple ds]):=by
 have e:partsD (.tuple [.str "seq",.tuple ds])=ds:=List.take_of_length_le h4
 have st:isStm (.tuple [.str "seq",.tuple ds]) (l:Int)=true:=by
  cases ds with
  | nil=>exact absurd rfl hn
  | cons a b=>rfl
 have:=OkS.mk (loops:=l) (deep:=dp) (blocks:=b) (d:=.tuple [.str "seq",.tuple ds]) (fun i=>ws.getD i 0) st hd hb fun i p hp=>by
  rw [e] at hp
  have li:=(List.getElem?_eq_some_iff.mp hp).1
  have hw:ws[i]?=some (ws.getD i 0):=by
   rw [List.getD_eq_getElem?_getD,List.getElem?_eq_getElem (by omega)]<;>rfl
  have o:=h i p _ hp hw
  rw [if_neg (fun z=>absurd (show ("seq":Str)="final" from z.1) (by decide))]
  have:wl (.tuple [.str "seq",.tuple ds])=0:=if_neg (show ¬ ("seq":Str)="while" by decide)
  rw [this]
  exact o
 rw [e,← hl] at this
 have es:((List.range ws.length).map fun i=>ws.getD i 0).sum=ws.sum:=by
  have:=sum_range (g:=id) ws
  simpa using this
 rw [es] at this
 exact this
theorem sd_gs67 {k loops:Nat} {d:PyData} (h:SD k loops d):GS d:=by
 induction h with
 | @mk k loops d st cl sz l3 ps ih =>
  exact .mk cl sz ih fun x e=>by
   subst e
   exact absurd st (by show ¬ (false=true);decide)
theorem gs_wh {d:PyData} (h:GS d):GS (whD d):=by
 refine .mk ?_ (fun k x r e=>by cases e;decide +kernel) (fun x hx=>?_) (fun x e=>by cases e)
 ·show (PyData.canLay0 (.str "while") && (PyData.canLay0 (.str "w") && (PyData.canLay0 d && true)))=true
  rw [(gs_sz h).1]
  kernel_rfl
 ·have e:partsD (whD d)=[d]:=rfl
  rw [e] at hx
  rw [List.mem_singleton.mp hx]
  exact h
theorem gs_seq {ds:List PyData} (h:∀ d∈ds,GS d) (h4:ds.length≤401):GS (.tuple [.str "seq",.tuple ds]):=by
 refine .mk ?_ (fun k x r e=>by cases e) (fun x hx=>?_) (fun x e=>by cases e)
 ·show (PyData.canLay0 (.str "seq") && (PyData.canLayAll0 ds && true))=true
  rw [canAll fun d hd=>(gs_sz (h d hd)).1]
  kernel_rfl
 ·have e:partsD (.tuple [.str "seq",.tuple ds])=ds:=List.take_of_length_le h4
  rw [e] at hx
  exact h x hx
theorem depthAll_le67 {n:Nat}:∀ {l:List PyData},(∀ x∈l,x.depth≤n)→PyData.depthAll l≤n
 | [],_=>Nat.zero_le _
 | y::l,h=>by
  show max _ _≤n
  have h1:=h y List.mem_cons_self
  have h2:=depthAll_le67 (l:=l) fun x hx=>h x (List.mem_cons_of_mem _ hx)
  omega
theorem take_all67 {α:Type} {l:List α} {n m:Nat} (h:(l.take n).length≤m) (hm:m<n):l.take n=l:=by
 rw [List.length_take] at h
 exact List.take_of_length_le (by omega)
theorem sd_depth67 {k loops:Nat} {d:PyData} (h:SD k loops d):d.depth≤2 * k + 2:=by
 induction h with
 | @mk k loops d st cl sz l3 ps ih =>
  have sv:=sv_of st
  have at_:∀ x∈partsD d,x.depth≤2 * k + 2:=ih
  cases sv with
  | do_ x=>simp only [PyData.depth,PyData.depthAll];omega
  | call x=>simp only [PyData.depth,PyData.depthAll];omega
  | iff x a b =>
   have h1:=at_ a (show a∈[a,b] by simp)
   have h2:=at_ b (show b∈[a,b] by simp)
   simp only [PyData.depth,PyData.depthAll];omega
  | whl x a =>
   have h1:=at_ a (show a∈[a] by simp)
   simp only [PyData.depth,PyData.depthAll];omega
  | seq p qs =>
   have e:partsD (.tuple [.str "seq",.tuple (p::qs)])=(p::qs).take 401:=rfl
   rw [e] at at_ l3
   rw [take_all67 l3 (by omega)] at at_
   have:=depthAll_le67 at_
   simp only [PyData.depth,PyData.depthAll] at this ⊢;omega
  | brk n h1 h2=>simp only [PyData.depth,PyData.depthAll];omega
  | cnt n h1 h2=>simp only [PyData.depth,PyData.depthAll];omega
  | ret=>simp only [PyData.depth,PyData.depthAll];omega
  | rai=>simp only [PyData.depth,PyData.depthAll];omega
  | tr a b =>
   have h1:=at_ a (show a∈[a,b] by simp)
   have h2:=at_ b (show b∈[a,b] by simp)
   simp only [PyData.depth,PyData.depthAll];omega
  | fin a b =>
   have h1:=at_ a (show a∈[a,b] by simp)
   have h2:=at_ b (show b∈[a,b] by simp)
   simp only [PyData.depth,PyData.depthAll];omega
theorem wh_depth {d:PyData} (h:SD 4 1 d):(whD d).depth≤20:=by
 have:=sd_depth67 h
 unfold whD
 simp only [PyData.depth,PyData.depthAll]
 omega
theorem seq_depth {ds:List PyData} (h:∀ d∈ds,d.depth≤20):(PyData.tuple [.str "seq",.tuple ds]).depth≤60:=by
 have:=depthAll_le67 h
 simp only [PyData.depth,PyData.depthAll]
 omega
theorem wh_ok {d:PyData} (h:SD 4 1 d):∃ w,1≤w∧w≤41∧OkS 0 2 0 w (whD d)∧GS (whD d):=by
 obtain ⟨w,hw,ok⟩:=okS_sd h (deep:=3) (blocks:=0) (by omega) (by omega)
 have h6:wMax 4=40:=by decide
 exact ⟨1 + w,by omega,by omega,okS_wh ok (by omega) (by omega),gs_wh (sd_gs67 h)⟩
end
section
structure Sg (p:Addr) (F0 H0 F H:Hp):Prop where
 g:Gr (fun b=>b=p) F0 H0 F H
 f:F p=none
 s:Src H p
theorem Sg.start {p:Addr} {F H:Hp} (x:Ex F H) (f:F p=none) (s:Src H p):Sg p F H F H:=⟨Gr.refl x,f,s⟩
theorem Sg.ne {p:Addr} {F0 H0 F H:Hp} (S:Sg p F0 H0 F H) {a:Addr} (n:H a=none):p≠a:=fun e=>by
 obtain ⟨x,y,z,h⟩:=S.s
 rw [e,n] at h
 cases h
theorem Sg.new {p:Addr} {F0 H0 F H H':Hp} (S:Sg p F0 H0 F H) {a:Addr} {o:HO} (n:H a=none) (s:H' a=some o) (k:∀ b,b≠a→H' b=H b):∃ F',Ex F F'∧F' a=some o∧Sg p F0 H0 F' H':=by
 refine ⟨upd F a o,exu (Evl.Ex.refl _) (ex_none S.g.fh n),upd_same,S.g.trans (Gr.frz S.g.fh n s k),?_,?_⟩
 ·rw [upd_ne (S.ne n)]
  exact S.f
 ·obtain ⟨x,y,z,h⟩:=S.s
  exact ⟨x,y,z,by rw [k p (S.ne n)];exact h⟩
theorem Sg.sub {p:Addr} {F0 H0 F H F' H':Hp} (S:Sg p F0 H0 F H) (g:Gr (fun _=>False) F H F' H'):Sg p F0 H0 F' H':=by
 obtain ⟨x,y,z,h⟩:=S.s
 exact ⟨S.g.trans (g.mono fun _ w=>w.elim),g.nw p (by rw [h];exact fun w=>nomatch w) S.f id,x,y,z,g.kp _ _ h id⟩
theorem Sg.one {p:Addr} {F0 H0 F H H':Hp} (S:Sg p F0 H0 F H) (k:∀ b,b≠p→H' b=H b) (s:Src H' p):Sg p F0 H0 F H':=⟨S.g.trans (Gr.set S.g.fh rfl S.f k),S.f,s⟩
theorem Sg.n0 {p:Addr} {F0 H0 F H:Hp} (S:Sg p F0 H0 F H) {a:Addr} (n:H a=none):H0 a=none:=by
 cases e:H0 a with
 | none=>rfl
 | some o =>
  have:=S.g.kp a o e (fun z=>S.ne n z.symm)
  rw [n] at this
  cases this
theorem Sg.keep {p:Addr} {F0 H0 F H H':Hp} (S:Sg p F0 H0 F H) {a:Addr} {o:HO} (n:H a=none) (s:H' a=some o) (k:∀ b,b≠a→H' b=H b):Sg p F0 H0 F H':=by
 obtain ⟨x,y,z,h⟩:=S.s
 exact ⟨S.g.trans (Gr.new S.g.fh fun b o hb=>by rw [k b (ne_of_none hb n)];exact hb),S.f,x,y,z,by rw [k p (S.ne n)];exact h⟩
theorem Sg.newF {p:Addr} {F0 H0 F H H':Hp} (S:Sg p F0 H0 F H) {a:Addr} {o:HO} (n:H a=none) (s:H' a=some o) (k:∀ b,b≠a→H' b=H b):∃ F',Ex F F'∧F' a=some o∧Sg p F0 H0 F' H'∧∀ b,b≠a→F' b=F b:=by
 refine ⟨upd F a o,exu (Evl.Ex.refl _) (ex_none S.g.fh n),upd_same,⟨S.g.trans (Gr.frz S.g.fh n s k),?_,?_⟩,fun b hb=>upd_ne hb⟩
 ·rw [upd_ne (S.ne n)]
  exact S.f
 ·obtain ⟨x,y,z,h⟩:=S.s
  exact ⟨x,y,z,by rw [k p (S.ne n)];exact h⟩
theorem Sg.mut {p:Addr} {F0 H0 F H H':Hp} (S:Sg p F0 H0 F H) {a:Addr} (n:H0 a=none) (f:F a=none) (ne:p≠a) (k:∀ b,b≠a→H' b=H b):Sg p F0 H0 F H':=by
 obtain ⟨x,y,z,h⟩:=S.s
 refine ⟨⟨S.g.ff,fun b o hb=>?_,S.g.nw,fun b o hb nb=>?_⟩,S.f,x,y,z,by rw [k p ne];exact h⟩
 ·rw [k b (ne_of_none hb f)]
  exact S.g.fh b o hb
 ·rw [k b (ne_of_none hb n)]
  exact S.g.kp b o hb nb
theorem Sg.frz {p:Addr} {F0 H0 F H:Hp} (S:Sg p F0 H0 F H) {a:Addr} {o:HO} (n:H0 a=none) (s:H a=some o) (f:F a=none) (ne:p≠a):Ex F (upd F a o)∧Sg p F0 H0 (upd F a o) H :=
 ⟨exu (Evl.Ex.refl _) f,S.g.frzAt n s f,by rw [upd_ne ne];exact S.f,S.s⟩
theorem Sg.un {p:Addr} {F H F' H':Hp} (S:Sg p F H F' H') {a:Addr} {o:HO} (h:H a=some o) (f:F a=none) (ne:p≠a):F' a=none∧H' a=some o :=
 ⟨S.g.nw a (by rw [h];exact fun z=>nomatch z) f (fun z=>ne z.symm),S.g.kp a o h (fun z=>ne z.symm)⟩
end
section
open FcM (Way Node Tab)
theorem sum_ge1:∀ {ws:List Nat},(∀ w∈ws,1≤w)→ws.length≤ws.sum
 | [],_=>Nat.le_refl _
 | a::l,h=>by
  have:=sum_ge1 (ws:=l) fun w hw=>h w (List.mem_cons_of_mem _ hw)
  have:=h a List.mem_cons_self
  simp
  omega
theorem at_last67 {l:List V} {x:V}:atI (l++[x]) (-1)=some x:=by
 have e:ixN (l++[x]).length (-1)=some l.length:=by
  unfold ixN
  rw [if_neg (by decide),if_pos (by rw [List.length_append,List.length_singleton];omega)]
  congr 1
  rw [List.length_append,List.length_singleton]
  omega
 unfold atI
 rw [e]
 simp
def sp_wide (K:PySem.W.Frag):Sp:=fun vs H Q _=>∃ (F:Hp) (p:Addr),vs=[.ref p]∧Ex F H∧F p=none∧Src H p ∧
 ∀ (F' H':Hp) (v:V) (d:PyData) (w:Nat),Gr (fun b=>b=p) F H F' H'→F' p=none→Src H' p→Dp K F' v d→OkS 0 1 0 w d→w≤400→GS d→d.depth≤60→Q v H'
section
variable {P:Program} {w:World} {h:Heap} {K:PySem.W.Frag} {mg:Str→Option Value} {base:Heap}
abbrev N_law_wide:List Str:=["_law_source","_law_parts","_law_size"]
theorem sc_law_wide:FnScope N_law_wide ["_law_source"] (defScope sd_law_wide):=⟨rfl,rfl,rfl,by decide +kernel,rfl,by decide +kernel,by decide +kernel⟩
theorem ok_law_wide (T:Tx w h K mg):Ok P w K mg base 12 ("_law_wide",none) ["_law_source"] (sp_wide K):=by
 obtain ⟨fd,F⟩:=F_law_wide T
 refine ⟨fd,?_,F.bindsN (fun _ _ _ _ _ _ us hl=>match us,hl with | [_],_=>rfl),F.kp⟩
 obtain ⟨fd_Code___init__,G_Code___init__,bi_Code___init__,kp_Code___init__⟩:=ok_Code___init__ (P:=P) (base:=base) T
 obtain ⟨fd_Code___len__,G_Code___len__,bi_Code___len__,kp_Code___len__⟩:=ok_Code___len__ (P:=P) (base:=base) T
 obtain ⟨fd_law_statement,G_law_statement,bi_law_statement,kp_law_statement⟩:=ok_stm (P:=P) (base:=base) T 4
 refine F.ok sc_law_wide (fun vs H Q E h=>?_) (fun cdv A outer s H vs Q E hr h=>?_)
 ·obtain ⟨F,p,rfl,xF,fp,hp,q⟩:=h
  rfl
 ·obtain ⟨F,p,rfl,xF,fp,hp,q⟩:=h
  refine ⟨_,PSs.nox (pss_cons (ps_par rfl sc_law_wide.nd (i:=1) (j:=2) rfl rfl (by decide) rfl rfl (pa_cons (pe_lst pa_nil) (pa_cons pe_int pa_nil)) (by rfl)) (pss_cons (ps_while PassesOwn.never (pt_cmpR op_lt (pv 2) pe_int (nomark _)) (pss_cons (ps_expr (pe_bm PySem.F.plainAttrs_list PySem.F.slot_list_append PySem.F.type_list_append mt_append (pv 1) (pa_cons (pe_tup (pa_cons pe_str (pa_cons pe_str (pa_cons (pe_call G_law_statement (hr.mono (by decide)) rfl (g_law_statement T) kp_law_statement bi_law_statement .nil passF (pa_cons (pv 0) (pa_cons pe_int (pa_cons pe_int pa_nil)))) pa_nil)))) pa_nil))) (pss_one (ps_set (i:=2) sc_law_wide.nd rfl (Or.inl rfl) (pe_op op_add (pv 2) (pe_callB (FcO.call_lenO G_Code___len__ (hr.mono (by decide)) (me_Code___len__ T) bi_Code___len__ passF) rfl (fr_len T) b_len (pa_cons (pe_make (mk_Code T) G_Code___init__ (hr.mono (by decide)) rfl (g_Code T) bi_Code___init__ .nil passF (pa_cons (pe_ix ix_list (pv 1) (pe_un un_neg pe_int) (fun _ _=>rfl)) pa_nil)) pa_nil))))))) (pss_one (ps_ret (pe_ifExp (pt_cmpR op_le (pv 2) pe_int (nomark _)) (pe_tup (pa_cons pe_str (pa_cons (pe_callTy call_tuple_of rfl (fr_tuple T) b_tuple (pa_cons (pv 1) pa_nil)) pa_nil))) (pe_tup (pa_cons pe_str (pa_cons (pe_callTy call_tuple_of rfl (fr_tuple T) b_tuple (pa_cons (pe_slice sl_list (pv 1) po_none (po_some (pe_un un_neg pe_int))) pa_nil)) pa_nil)))))))),?_⟩
  have S0:=Sg.start xF fp hp
  refine ⟨sz (by simp),?_⟩
  intro p1 n1
  generalize e1:upd _ p1 _=H1
  obtain ⟨x1,s1,o1⟩:=new_of e1 n1
  clear e1
  have S1:=S0.keep n1 s1 o1
  have n1F:=ex_none xF n1
  refine ⟨_,_,rfl,?_⟩
  refine ⟨fun m σ' H'=>∃ (F':Hp) (vs:List V) (ds:List PyData) (ws:List Nat) (z:Nat),σ'=[some (.ref p),some (.ref p1),some (.int (z:Int))]∧Sg p F H F' H'∧F' p1=none∧H' p1=some (.lst vs)∧DpAll K F' vs ds∧ws.length=ds.length∧z=1 + ws.sum∧z≤340∧(∀ w∈ws,1≤w)∧(∀ (i:Nat) (d:PyData) (w:Nat),ds[i]?=some d→ws[i]?=some w→OkS 0 2 0 w d∧GS d∧d.depth≤20)∧m + z=1000,⟨999,F,[],[],[],1,rfl,S1,n1F,s1,.nil,rfl,rfl,by omega,(fun w h=>nomatch h),(fun i d w h=>by simp at h),rfl⟩,?_⟩
  rintro m σ' H2 ⟨F2,vs,ds,ws,z,rfl,S2,f2,l2,dA,hl,hz,h3,hw1,hok,hm⟩
  refine ⟨_,rfl,_,_,rfl,rfl,_,rfl,?_⟩
  have ne1:p≠p1:=S0.ne n1
  have n1H:H p1=none:=n1
  refine ite_of (fun c1=>?_) (fun c1=>?_)
  ·have hlt:z<300:=by have:=of_decide_eq_true c1;omega
   refine ⟨_,fun σ' H' w=>w,?_⟩
   refine ⟨_,rfl,.inl ⟨rfl,_,Evl.sq_of l2⟩,?_⟩
   refine ⟨_,rfl,F2,p,4,1,rfl,by decide,S2.g.fh,S2.f,S2.s,by decide,fun F3 H3 v3 d3 g3 f3 s3 dv3 sd3=>?_⟩
   have S3:Sg p F H F3 H3:=⟨S2.g.trans g3,f3,s3⟩
   obtain ⟨f13,l3⟩:=Sg.un (⟨g3,f3,s3⟩:Sg p F2 H2 F3 H3) l2 f2 ne1
   refine ⟨sz (by simp),?_⟩
   intro p4 n4
   generalize e4:upd _ p4 _=H4
   obtain ⟨x4,s4,o4⟩:=new_of e4 n4
   clear e4
   obtain ⟨F4,e4,k4,S4,ff4⟩:=S3.newF n4 s4 o4
   have l4:=x4 _ _ l3
   have f14:F4 p1=none:=by rw [ff4 p1 (fun y=>by rw [y,n4] at l3;cases l3)];exact f13
   have hdl:=dpA_len dA
   have wsl:ws.length≤340:=by
    have:=sum_ge1 hw1
    omega
   refine ⟨p1,_,_,rfl,rfl,l4,szl (by omega),?_⟩
   generalize e5:upd H4 p1 _=H5
   have o5:∀ b,b≠p1→H5 b=H4 b:=fun b hb=>by rw [← e5,upd_ne hb]
   have l5:H5 p1=some (.lst (vs++[.ref p4])):=by rw [← e5,upd_same]
   clear e5
   have S5:=S4.mut n1H f14 ne1 o5
   obtain ⟨w3,hw31,hw41,ok3,gs3⟩:=wh_ok (sd3.mono (by decide))
   obtain ⟨N,fin,lp,TD3,hfl⟩:=td_ofL67 (okS_dn ok3 (by decide:1≤2)) (by omega)
   have dwh:Dp K F4 (.ref p4) (whD d3):=.tup (Evl.st_of k4) (.cons (.str _) (.cons (.str _) (.cons (dp_ex e4 dv3) .nil)))
   refine ⟨_,rfl,_,rfl,_,rfl,p1,_,_,.ref p4,rfl,rfl,Evl.sq_of l5,at_last67,?_⟩
   refine fun q7 dx nq nd ne=>?_
   generalize e7:upd (upd _ dx _) q7 _=H7
   obtain ⟨x7,hq7⟩:=make_of e7 nq nd
   clear e7
   refine ⟨F4,q7,dx,.ref p4,whD d3,GS,N,fin,rfl,hq7,S5.g.fh.trans x7,ex_none S5.g.fh nq,dwh,fun e he=>gs_parts he,gs3,TD3.bd,fun A8 F8 H8 eA g8 C8=>⟨rfl,?_⟩⟩
   subst eA
   have nA:=S5.n0 nq
   have nepA:p≠A8.p:=S5.ne nq
   have l7:=x7 _ _ l5
   have nep1:p1≠A8.p:=fun y=>by rw [y,nq] at l5;cases l5
   obtain ⟨y1,y2,y3,hy⟩:=S5.s
   have hy7:=x7 _ _ hy
   have S8:Sg p F H F8 H8:=⟨(S5.g.trans (Gr.new S5.g.fh x7)).hide g8 (fun x hx=>.inl (by rw [hx];exact nA)),g8.nw p (by rw [hy7];exact fun z=>nomatch z) S5.f nepA,y1,y2,y3,g8.kp _ _ hy7 nepA⟩
   have f18:F8 p1=none:=g8.nw p1 (by rw [l7];exact fun z=>nomatch z) f14 nep1
   have l8:=g8.kp _ _ l7 nep1
   obtain ⟨vs8,cl8,_⟩:=C8.ex (Evl.Ex.refl _) g8.fh
   refine ⟨A8.p,_,_,rfl,cl8.ob,F8,A8,fin,rfl,C8,g8.fh,?_⟩
   refine ⟨_,rfl,by omega,?_⟩
   refine ⟨_,_,rfl,rfl,?_⟩
   refine ⟨m - w3,by omega,F8,vs++[.ref p4],ds++[whD d3],ws++[w3],z + w3,by rw [hfl]<;>rfl,S8,f18,l8,dpA_app (dpA_ex ((g3.ff.trans e4).trans g8.ff) dA) (.cons (dp_ex g8.ff dwh) .nil),by simp [hl],by simp;omega,by omega,fun w hw=>?_,fun i d w hd hw=>?_,by omega⟩
   ·rcases List.mem_append.mp hw with hw | hw
    ·exact hw1 w hw
    ·rw [List.mem_singleton.mp hw];exact hw31
   ·rcases Nat.lt_or_ge i ds.length with hi | hi
    ·rw [List.getElem?_append_left hi] at hd
     rw [List.getElem?_append_left (by omega)] at hw
     exact hok i d w hd hw
    ·have hi2:=(List.getElem?_eq_some_iff.mp hd).1
     rw [List.length_append,List.length_singleton] at hi2
     obtain rfl:i=ds.length:=by omega
     rw [List.getElem?_append_right (Nat.le_refl _),Nat.sub_self] at hd
     rw [← hl,List.getElem?_append_right (Nat.le_refl _),Nat.sub_self] at hw
     cases hd
     cases hw
     exact ⟨ok3,gs3,wh_depth (sd3.mono (by decide))⟩
  ·have hz3:300≤z:=by have:=of_decide_eq_false c1;omega
   have hdl:=dpA_len dA
   have wsl:ws.length≤340:=by
    have:=sum_ge1 hw1
    omega
   refine ⟨_,rfl,_,_,rfl,rfl,_,rfl,itT (decide_eq_true (by omega)) ?_⟩
   refine ⟨_,rfl,p1,_,rfl,.inl ⟨Evl.sq_of l2,fun p9 n9=>?_⟩⟩
   generalize e9:upd H2 p9 _=H9
   obtain ⟨x9,s9,o9⟩:=new_of e9 n9
   clear e9
   obtain ⟨F9,e9,k9,S9⟩:=S2.new n9 s9 o9
   refine ⟨sz (by simp),?_⟩
   intro p10 n10
   generalize e10:upd _ p10 _=H10
   obtain ⟨x10,s10,o10⟩:=new_of e10 n10
   clear e10
   obtain ⟨F10,e10,k10,S10⟩:=S9.new n10 s10 o10
   have dsn:ds≠[]:=fun y=>by
    rw [y] at hl
    rw [List.length_eq_zero_iff.mp hl] at hz
    simp at hz
    omega
   have all:∀ d∈ds,GS d∧d.depth≤20:=fun d hd=>by
    obtain ⟨i,hi⟩:=List.getElem?_of_mem hd
    have li:=(List.getElem?_eq_some_iff.mp hi).1
    exact (hok i d _ hi (List.getElem?_eq_getElem (by omega))).2
   refine q F10 H10 _ _ _ S10.g S10.f S10.s (.tup (Evl.st_of k10) (.cons (.str _) (.cons (.tup (Evl.st_of (e10 _ _ k9)) (dpA_ex (e9.trans e10) dA)) .nil))) (okS_seq hl (fun i d w hd hw=>(hok i d w hd hw).1) dsn (by omega) (by decide) (by decide)) (by omega) (gs_seq (fun d hd=>(all d hd).1) (by omega)) (seq_depth fun d hd=>(all d hd).2)
end
end
section
open FcM (Way Node Tab)
def shL:List Str:=["do","call","if","while"]
def dOf (rows:List Row) (n:Nat):PyData:=(rows[n]?.map Row.d).getD .none
def labS:PyData→Str
 | .tuple (_::.str x::_)=>x
 | _=>""
def shN (rows:List Row) (vs:List Nat):List Nat:=vs.filter fun n=>decide (kindD (dOf rows n)∈shL)
def stD (rows:List Row) (n:Nat):PyData:=.tuple [.str (kindD (dOf rows n)),.str (labS (dOf rows n))]
def lookD (rows:List Row) (vs:List Nat) (u:Nat) (e:Str):PyData:=.tuple [.list ((shN rows vs).map (stD rows)),.int (u:Int),.str e]
theorem lab_sh {l:Int} {d:PyData} (sv:SV l d) (h:kindD d∈shL):∃ r,d=.tuple (.str (kindD d)::.str (labS d)::r):=by
 have no:∀ {k:Str},kindD d=k→k ∉ shL→False:=fun e n=>n (by rw [← e];exact h)
 cases sv with
 | do_ x=>exact ⟨_,rfl⟩
 | call x=>exact ⟨_,rfl⟩
 | iff x a b=>exact ⟨_,rfl⟩
 | whl x a=>exact ⟨_,rfl⟩
 | seq p ps=>exact (no (k:="seq") rfl (by decide)).elim
 | brk n h1 h2=>exact (no (k:="break") rfl (by decide)).elim
 | cnt n h1 h2=>exact (no (k:="continue") rfl (by decide)).elim
 | ret=>exact (no (k:="return") rfl (by decide)).elim
 | rai=>exact (no (k:="raise") rfl (by decide)).elim
 | tr a b=>exact (no (k:="try") rfl (by decide)).elim
 | fin a b=>exact (no (k:="final") rfl (by decide)).elim
theorem labS_mk {l:Int} {d:PyData} (sv:SV l d) (h:kindD d∈shL) (es:List PyData):labS (mkD d es)=labS d:=by
 have no:∀ {k:Str},kindD d=k→k ∉ shL→False:=fun e n=>n (by rw [← e];exact h)
 cases sv with
 | do_ x=>rfl
 | call x=>rfl
 | iff x a b=>rfl
 | whl x a=>rfl
 | seq p ps=>exact (no (k:="seq") rfl (by decide)).elim
 | brk n h1 h2=>exact (no (k:="break") rfl (by decide)).elim
 | cnt n h1 h2=>exact (no (k:="continue") rfl (by decide)).elim
 | ret=>exact (no (k:="return") rfl (by decide)).elim
 | rai=>exact (no (k:="raise") rfl (by decide)).elim
 | tr a b=>exact (no (k:="try") rfl (by decide)).elim
 | fin a b=>exact (no (k:="final") rfl (by decide)).elim
theorem look_same {rows' rows:List Row} {lp lp':Nat→Nat} (X:AllK rows lp) (X':AllK rows' lp') (h0:∀ r,rows'[0]?=some r→r.d=cutN rows (ddN rows) 0) {v':List Nat} (hv:∀ n∈v',n<rows'.length) (u:Nat) (e:Str):lookD rows (v'.map (fN rows' rows)) u e=lookD rows' v' u e:=by
 have one:∀ n∈v',kindD (dOf rows (fN rows' rows n))=kindD (dOf rows' n)∧(kindD (dOf rows' n)∈shL→stD rows (fN rows' rows n)=stD rows' n):=fun n hn=>by
  obtain ⟨r',r,D⟩:=dat_all X X' h0 n (hv n hn)
  have sv:=(X.w.sv _ r D.h).1
  have e1:dOf rows (fN rows' rows n)=r.d:=by unfold dOf;rw [D.h]<;>rfl
  have e2:dOf rows' n=r'.d:=by unfold dOf;rw [D.h']<;>rfl
  have e3:kindD r'.d=kindD r.d:=by rw [D.d,kind_mk sv]
  refine ⟨by rw [e1,e2,e3],fun hk=>?_⟩
  unfold stD
  rw [e1,e2,e3]
  rw [e2,e3] at hk
  have:labS r'.d=labS r.d:=by rw [D.d,labS_mk sv hk]
  rw [this]
 have key:∀ l:List Nat,(∀ n∈l,n∈v')→(shN rows (l.map (fN rows' rows))).map (stD rows)=(shN rows' l).map (stD rows'):=by
  intro l
  induction l with
  | nil=>exact fun _=>rfl
  | cons n l ih =>
   intro hl
   obtain ⟨o1,o2⟩:=one n (hl n List.mem_cons_self)
   have ih:=ih fun m hm=>hl m (List.mem_cons_of_mem _ hm)
   unfold shN at ih ⊢
   rw [List.map_cons]
   by_cases z:kindD (dOf rows' n)∈shL
   ·rw [List.filter_cons_of_pos (by rw [o1];exact decide_eq_true z),List.filter_cons_of_pos (p:=fun n=>decide (kindD (dOf rows' n)∈shL)) (decide_eq_true z),List.map_cons,List.map_cons,ih,o2 z]
   ·rw [List.filter_cons_of_neg (by rw [o1];simpa using z),List.filter_cons_of_neg (p:=fun n=>decide (kindD (dOf rows' n)∈shL)) (by simpa using z),ih]
 unfold lookD
 rw [key v' fun n hn=>hn]
end
section
open FcM (Way Node Tab Pd)
def sp_Run___init__ (K:PySem.W.Frag):Sp:=fun vs H Q _=>∃ (q dx a:Addr) (xs:List V) (v1 v2:V),vs=[.ref q,.ref a,v1,v2]∧H q=some (.ins (He.ga K "Run") dx [])∧H a=some (.lst xs)∧a≠q∧xs.length≤100000 ∧
 ∀ (H':Hp) (p:Addr),H p=none→(∀ b o,H b=some o→b≠q→H' b=some o)→H' q=some (.ins (He.ga K "Run") dx (fl_Run (.ref p) v1 v2))→H' p=some (.lst xs)→Q .non H'
def sp_run (K:PySem.W.Frag):Sp:=fun vs H Q _=>∃ (F:Hp) (A:CAd) (rows:List Row) (lp:Nat→Nat) (a:Addr) (bits:List Bool) (k e N:Nat) (cf:FcM.Cfg),vs=[.ref A.p,.ref a]∧CodeH K F F A rows∧TW rows lp∧Ex F H∧SqL K F a (bits.map bV)∧bits.length≤1000 ∧
 FcM.Ent (tabOf rows) k 0 e∧FcM.Re (tabOf rows) bits 1000 N ⟨.inl e,[],0,[]⟩ cf∧cf.vs.length≤90000∧(∀ w,cf.at_=.inr w→FcM.WOk 0 w) ∧
 ∀ (H':Hp) (q dx p:Addr),Ex H H'→H q=none→H p=none→H' q=some (.ins (He.ga K "Run") dx (fl_Run (.ref p) (.int (cf.us:Int)) (.str (endT cf))))→H' p=some (.lst (intsV cf.vs))→Q (.ref q) H'
section
variable {P:Program} {w:World} {h:Heap} {K:PySem.W.Frag} {mg:Str→Option Value} {base:Heap}
abbrev N_Run___init__:List Str:=["self","visited","used","end"]
theorem sc_Run___init__:FnScope N_Run___init__ ["self","visited","used","end"] (defScope sd_Run___init__):=⟨rfl,rfl,rfl,by decide +kernel,rfl,by decide +kernel,by decide +kernel⟩
theorem okF_Run___init__ (T:Tx w h K mg):∃ fd,FnOk P w K mg base (CX P w) 1 (He.fAd K ("Run",some "__init__")) fd ["self","visited","used","end"] (sp_Run___init__ K)∧Binds K fd ["self","visited","used","end"] []∧PySem.W.keepIn K (.ref (He.fAd K ("Run",some "__init__")))=true∧FunD K "__init__" "Run.__init__" (defArgs sd_Run___init__) (defBody sd_Run___init__) (defScope sd_Run___init__) [] [] (He.fAd K ("Run",some "__init__")) fd:=by
 obtain ⟨fd,F⟩:=F_Run___init__ T
 refine ⟨fd,?_,F.bindsN (fun _ _ _ _ _ _ us hl=>match us,hl with | [_,_,_,_],_=>rfl),F.kp,F⟩
 refine F.ok sc_Run___init__ (fun vs H Q E h=>?_) (fun cdv A outer s H vs Q E hr h=>?_)
 ·obtain ⟨q,dx,a,xs,v1,v2,rfl,hq,ha,hne,hlen,Qq⟩:=h
  rfl
 ·obtain ⟨q,dx,a,xs,v1,v2,rfl,hq,ha,hne,hlen,Qq⟩:=h
  refine ⟨_,PSs.nox (pss_cons (ps_fld (pv 0) (pe_callTy call_list_of rfl (fr_list T) b_list (pa_cons (pv 1) pa_nil)) rfl) (pss_cons (ps_fld (pv 0) (pv 2) rfl) (pss_one (ps_fld (pv 0) (pv 3) rfl)))),?_⟩
  refine ⟨_,rfl,a,_,rfl,.inl (Evl.sq_of ha),?_⟩
  intro p1 n1
  generalize e1:upd _ p1 _=H1
  obtain ⟨x1,s1,o1⟩:=new_of e1 n1
  clear e1
  have pq:p1≠q:=fun z=>by rw [z,hq] at n1;cases n1
  refine ⟨_,rfl,q,_,dx,_,rfl,x1 _ _ hq,c_Run T,na_Run_visited T,(by simp),?_⟩
  rw [fi_Run_0]
  generalize e2:upd _ q _=H2
  obtain ⟨s2,o2⟩:=set_of e2
  clear e2
  refine ⟨_,rfl,_,rfl,q,_,dx,_,rfl,s2,c_Run T,na_Run_used T,(by simp),?_⟩
  rw [fi_Run_1]
  generalize e3:upd _ q _=H3
  obtain ⟨s3,o3⟩:=set_of e3
  clear e3
  refine ⟨_,rfl,_,rfl,q,_,dx,_,rfl,s3,c_Run T,na_Run_end T,(by simp),?_⟩
  rw [fi_Run_2]
  generalize e4:upd _ q _=H4
  obtain ⟨s4,o4⟩:=set_of e4
  clear e4
  refine Qq H4 p1 n1 (fun b o e hb=>?_) s4 ?_
  ·rw [o4 b hb,o3 b hb,o2 b hb]
   exact x1 _ _ e
  ·rw [o4 p1 pq,o3 p1 pq,o2 p1 pq]
   exact s1
theorem ok_Run___init__ (T:Tx w h K mg):Ok P w K mg base 1 ("Run",some "__init__") ["self","visited","used","end"] (sp_Run___init__ K):=by
 obtain ⟨fd,a,b,c,_⟩:=okF_Run___init__ (P:=P) (base:=base) T
 exact ⟨fd,a,b,c⟩
abbrev N_run:List Str:=["code","answers","walker","places","used"]
theorem sc_run:FnScope N_run ["code","answers"] (defScope sd_run):=⟨rfl,rfl,rfl,by decide +kernel,rfl,by decide +kernel,by decide +kernel⟩
theorem okF_run (T:Tx w h K mg):∃ fd,FnOk P w K mg base (CX P w) 6 (He.fAd K ("run",none)) fd ["code","answers"] (sp_run K)∧Binds K fd ["code","answers"] []∧PySem.W.keepIn K (.ref (He.fAd K ("run",none)))=true∧FunD K "run" "run" (defArgs sd_run) (defBody sd_run) (defScope sd_run) [] [] (He.fAd K ("run",none)) fd:=by
 obtain ⟨fd,F⟩:=F_run T
 refine ⟨fd,?_,F.bindsN (fun _ _ _ _ _ _ us hl=>match us,hl with | [_,_],_=>rfl),F.kp,F⟩
 obtain ⟨fd_check_answers,G_check_answers,bi_check_answers,kp_check_answers⟩:=ok_check_answers (P:=P) (base:=base) T
 obtain ⟨fd_Run___init__,G_Run___init__,bi_Run___init__,kp_Run___init__⟩:=ok_Run___init__ (P:=P) (base:=base) T
 obtain ⟨fd_Walker___init__,G_Walker___init__,bi_Walker___init__,kp_Walker___init__⟩:=ok_Walker___init__ (P:=P) (base:=base) T
 obtain ⟨fd_Walker_answer,G_Walker_answer,bi_Walker_answer,kp_Walker_answer⟩:=ok_Walker_answer (P:=P) (base:=base) T
 obtain ⟨fd_Walker_go_on,G_Walker_go_on,bi_Walker_go_on,kp_Walker_go_on⟩:=ok_Walker_go_on (P:=P) (base:=base) T
 refine F.ok sc_run (fun vs H Q E h=>?_) (fun cdv A outer s H vs Q E hr h=>?_)
 ·obtain ⟨F,A,rows,lp,a,bits,k,e,N,cf,rfl,C,W,xF,hs,hl,he,re,hv,hok,Qq⟩:=h
  rfl
 ·obtain ⟨F,A,rows,lp,a,bits,k,e,N,cf,rfl,C,W,xF,hs,hl,he,re,hv,hok,Qq⟩:=h
  refine ⟨_,PSs.nox (pss_cons (ps_expr (pe_call G_check_answers (hr.mono (by decide)) rfl (g_check_answers T) kp_check_answers bi_check_answers .nil passF (pa_cons (pv 1) pa_nil))) (pss_cons (ps_set (i:=2) sc_run.nd rfl (Or.inl rfl) (pe_make (mk_Walker T) G_Walker___init__ (hr.mono (by decide)) rfl (g_Walker T) bi_Walker___init__ .nil passF (pa_cons (pv 0) pa_nil))) (pss_cons (ps_par rfl sc_run.nd (i:=3) (j:=4) rfl rfl (by decide) rfl rfl (pa_cons (pe_meth0 (pv 2) (c_Walker T) (me_Walker_go_on T) G_Walker_go_on (hr.mono (by decide)) bi_Walker_go_on .nil passF) (pa_cons pe_int pa_nil)) (by rfl)) (pss_cons (ps_while PassesOwn.never (PW.pt (pw_and (pt_cmpR op_isN (pe_fld (pv 2) rfl) pe_non (nomark _)) (pw_and1 (pt_cmpR op_lt (pv 4) (pe_callB call_len_seq rfl (fr_len T) b_len (pa_cons (pv 1) pa_nil)) (nomark _))))) (pss_cons (ps_expr (pe_bm PySem.F.plainAttrs_list PySem.F.slot_list_extend PySem.F.type_list_extend mt_extend (pv 3) (pa_cons (pe_meth (pv 2) (c_Walker T) (me_Walker_answer T) G_Walker_answer (hr.mono (by decide)) bi_Walker_answer .nil passF (pa_cons (pe_ix ix_list (pv 1) (pv 4) (fun _ _=>rfl)) pa_nil)) pa_nil))) (pss_one (ps_set (i:=4) sc_run.nd rfl (Or.inl rfl) (pe_op op_add (pv 4) pe_int))))) (pss_one (ps_ret (pe_make (mk_Run T) G_Run___init__ (hr.mono (by decide)) rfl (g_Run T) bi_Run___init__ .nil passF (pa_cons (pv 3) (pa_cons (pv 4) (pa_cons (pe_ifExp (pt_cmpR op_isN (pe_fld (pv 2) rfl) pe_non (nomark _)) pe_str (pe_fld (pv 2) rfl)) pa_nil)))))))))),?_⟩
  refine ⟨_,rfl,a,bits,rfl,Evl.ex_l xF hs,hl,fun H1 x1=>?_⟩
  refine ⟨_,rfl,fun q dx nq nd ne=>?_⟩
  generalize e2:upd (upd _ dx _) q _=H2
  obtain ⟨x2,hq2⟩:=make_of e2 nq nd
  clear e2
  have xF2:=(xF.trans x1).trans x2
  have fq:F q=none:=ex_none (xF.trans x1) nq
  refine ⟨F,A,rows,lp,q,dx,k,e,rfl,hq2,C,W,xF2,fq,he,fun H3 pp g3 npp ws3=>⟨rfl,?_⟩⟩
  have R3:Rn K F H3 A rows lp q dx pp bits cf N e [] (.inl e) [] 0 []:=⟨C,W,g3.fh,fun n z=>by cases z;exact FcM.ent_lt W.wf he W.wf.ne,ws3,re,hv,hok⟩
  refine ⟨_,rfl,q,_,_,rfl,ws3.ob,fm_Walker_go_on _ _ _ _,?_⟩
  refine ⟨F,A,rows,lp,q,dx,pp,bits,cf,N,e,[],.inl e,[],0,[],rfl,R3,fun F4 H4 s4 ts4 r4 P4 N4 ds p4 g4 R4 hN hA n4 f4 l4=>⟨_,_,rfl,?_⟩⟩
  have nHq:H q=none:=ex_none x1 nq
  have nHp:H pp=none:=ex_none x1 (ex_none x2 npp)
  have xH3:Ex H H3:=fun b o hb=>g3.kp b o (x2 b o (x1 b o hb)) (ne_of_none hb nHq)
  refine ⟨fun m σ' H'=>∃ (F5:Hp) (s5:Nat) (ts5:List Addr) (r5:Nat ⊕ Way) (P5:Pd) (u5:Nat) (v5:List Nat),σ'=[some (.ref A.p),some (.ref a),some (.ref q),some (.ref p4),some (.int (u5:Int))]∧GrW q pp F H3 F5 H'∧Rn K F5 H' A rows lp q dx pp bits cf m s5 ts5 r5 P5 u5 v5∧(∀ n,r5=.inl n→FcM.asks ((tabOf rows).nd n)=true)∧F5 p4=none∧H' p4=some (.lst (intsV v5)),
   ⟨N4,F4,s4,ts4,r4,P4,0,ds,rfl,g4,R4,hA,f4,l4⟩,?_⟩
  rintro m σ' H5 ⟨F5,s5,ts5,r5,P5,u5,v5,rfl,g5,R5,hA5,f5,l5⟩
  have p4q:p4≠q:=fun z=>by rw [z,R3.ws.ob] at n4;cases n4
  have p4p:p4≠pp:=fun z=>by rw [z,R3.ws.pl] at n4;cases n4
  have xH5:Ex H H5:=fun b o hb=>g5.kp b o (xH3 b o hb) (fun z=>z.elim (ne_of_none hb nHq) (ne_of_none hb nHp))
  have lv5:v5.length≤90000:=Nat.le_trans R5.re.vs R5.nv
  have nHp4:H p4=none:=by
   cases e6:H p4 with
   | none=>rfl
   | some o=>rw [g3.kp p4 o (x2 p4 o (x1 p4 o e6)) (ne_of_none e6 nHq)] at n4;cases n4
  have back:∀ b,H5 b=none→H b=none:=fun b hb=>by
   cases e6:H b with
   | none=>rfl
   | some o=>rw [xH5 b o e6] at hb;cases hb
  have sq5:=Evl.ex_l (g5.ff.trans g5.fh) hs
  cases r5 with
  | inr w' =>
   refine ⟨_,rfl,q,_,_,_,_,rfl,R5.ws.ob,c_Walker T,na_Walker_end T,fl_Walker_end _ _ _ _,rfl,_,rfl,itF rfl ?_⟩
   have hcf:=R5.re.ended
   refine ⟨_,rfl,_,rfl,_,rfl,q,_,_,_,_,rfl,R5.ws.ob,c_Walker T,na_Walker_end T,fl_Walker_end _ _ _ _,rfl,_,rfl,itF rfl ?_⟩
   refine ⟨_,rfl,q,_,_,_,_,rfl,R5.ws.ob,c_Walker T,na_Walker_end T,fl_Walker_end _ _ _ _,?_⟩
   intro q9 dx9 nq9 nd9 ne9
   generalize e9:upd (upd _ dx9 _) q9 _=H9
   obtain ⟨x9,hq9⟩:=make_of e9 nq9 nd9
   clear e9
   refine ⟨q9,dx9,p4,intsV v5,_,_,rfl,hq9,x9 _ _ l5,(fun z=>by rw [z,nq9] at l5;cases l5),(by unfold intsV;rw [List.length_map];omega),fun H' p np kp hq' hp'=>⟨rfl,?_⟩⟩
   refine Qq H' q9 dx9 p (fun b o hb=>kp b o (x9 b o (xH5 b o hb)) (ne_of_none (xH5 b o hb) nq9)) (back q9 nq9) (back p (ex_none x9 np)) ?_ ?_
   ·rw [hq',hcf]<;>rfl
   ·rw [hp',hcf]
  | inl n =>
   obtain rfl:s5=n:=(R5.ws.sp n rfl).symm
   refine ⟨_,rfl,q,_,_,_,_,rfl,R5.ws.ob,c_Walker T,na_Walker_end T,fl_Walker_end _ _ _ _,rfl,_,rfl,itT rfl ?_⟩
   refine ⟨_,rfl,_,rfl,a,_,rfl,.inl sq5,_,_,rfl,rfl,_,rfl,ite_of (fun h6=>?_) (fun h6=>?_)⟩
   ·have hlt:u5<bits.length:=by
     have z:=of_decide_eq_true h6
     rw [List.length_map] at z
     omega
    have hb:bits[u5]?=some bits[u5]:=List.getElem?_eq_getElem hlt
    have hbV:(bits.map bV)[u5]?=some (bV bits[u5]):=by rw [List.getElem?_map,hb]<;>rfl
    refine ⟨_,fun σ' H' h=>h,?_⟩
    refine ⟨_,rfl,Or.inl ⟨rfl,_,Evl.sq_of l5⟩,_,rfl,q,_,_,rfl,R5.ws.ob,fm_Walker_answer _ _ _ _,_,rfl,_,rfl,a,_,_,_,rfl,rfl,sq5,atI_nat hbV,?_⟩
    refine ⟨F5,A,rows,lp,q,dx,pp,bits,cf,m,s5,ts5,P5,u5,v5,bits[u5],rfl,R5,hA5 s5 rfl,hb,fun F6 H6 s6 ts6 r6 P6 N6 ds6 p6 g6 R6 hN6 hA6 n6 f6 l6=>?_⟩
    have nM4:¬ (p4=q∨p4=pp):=fun z=>z.elim p4q p4p
    have l56:=g6.kp p4 _ l5 nM4
    have f46:F6 p4=none:=g6.nw p4 (by rw [l5];exact fun z=>nomatch z) f5 nM4
    have lv6:(v5++ds6).length≤90000:=Nat.le_trans R6.re.vs R6.nv
    refine ⟨p4,p6,_,_,rfl,rfl,l56,l6,sz (by unfold intsV;simp at lv6;simp;omega),?_⟩
    generalize e7:upd _ p4 _=H7
    obtain ⟨s7,o7⟩:=set_of e7
    clear e7
    refine ⟨_,rfl,_,_,rfl,rfl,?_⟩
    refine ⟨N6,hN6,F6,s6,ts6,r6,P6,u5 + 1,v5++ds6,rfl,?_,?_,hA6,f46,?_⟩
    ·have g56:=g5.trans g6
     exact ⟨g56.ff,set_ex g56.fh f46 o7,g56.nw,fun b o e hb=>by rw [o7 b (ne_of_none e n4)];exact g56.kp b o e hb⟩
    ·exact ⟨R6.c,R6.w,set_ex R6.x f46 o7,R6.sl,⟨by rw [o7 q p4q.symm];exact R6.ws.ob,R6.ws.sp,by rw [o7 pp p4p.symm];exact R6.ws.pl,R6.ws.pa,R6.ws.fq,R6.ws.fp,R6.ws.ne⟩,R6.re,R6.nv,R6.en⟩
    ·rw [s7]
     unfold intsV
     rw [List.map_append]
   ·have hb:bits[u5]?=none:=by
     have z:=of_decide_eq_false h6
     rw [List.length_map] at z
     exact List.getElem?_eq_none (by omega)
    have hcf:=R5.re.waits (hA5 s5 rfl) hb
    refine ⟨_,rfl,_,rfl,_,rfl,q,_,_,_,_,rfl,R5.ws.ob,c_Walker T,na_Walker_end T,fl_Walker_end _ _ _ _,rfl,_,rfl,itT rfl ?_⟩
    intro q9 dx9 nq9 nd9 ne9
    generalize e9:upd (upd _ dx9 _) q9 _=H9
    obtain ⟨x9,hq9⟩:=make_of e9 nq9 nd9
    clear e9
    refine ⟨q9,dx9,p4,intsV v5,_,_,rfl,hq9,x9 _ _ l5,(fun z=>by rw [z,nq9] at l5;cases l5),(by unfold intsV;rw [List.length_map];omega),fun H' p np kp hq' hp'=>⟨rfl,?_⟩⟩
    refine Qq H' q9 dx9 p (fun b o hb=>kp b o (x9 b o (xH5 b o hb)) (ne_of_none (xH5 b o hb) nq9)) (back q9 nq9) (back p (ex_none x9 np)) ?_ ?_
    ·rw [hq',hcf]<;>rfl
    ·rw [hp',hcf]
theorem ok_run (T:Tx w h K mg):Ok P w K mg base 6 ("run",none) ["code","answers"] (sp_run K):=by
 obtain ⟨fd,a,b,c,_⟩:=okF_run (P:=P) (base:=base) T
 exact ⟨fd,a,b,c⟩
end
end
section
theorem same_firstC {K:PySem.W.Frag} {C:Addr}:PySem.W.notFirst K C (.ref C)=true:=by simp [PySem.W.notFirst]
def sp_get (K:PySem.W.Frag):Sp:=fun vs H Q _=>∃ (F:Hp) (A:CAd) (rows:List Row) (n:Nat) (r:Row),vs=[.ref A.p,.int (n:Int)]∧CodeH K F F A rows∧Ex F H∧rows[n]?=some r∧∀ v,Dp K F v r.d→Q v H
def sp_ceq (K : PySem.W.Frag) : Sp := fun vs H Q _ => ∃ (F : Hp) (A : CAd) (rows : List Row) (r : Row) (y : V), vs = [.ref A.p, y] ∧ CodeH K F F A rows ∧ Ex F H ∧ rows[0]? = some r ∧ PyData.canLay0 r.d = true ∧ r.d.depth ≤ 200 ∧
  ((∃ (F2 : Hp) (A2 : CAd) (rows2 : List Row) (r2 : Row), y = .ref A2.p ∧ CodeH K F2 F2 A2 rows2 ∧ Ex F2 H ∧ rows2[0]? = some r2 ∧ PyData.canLay0 r2.d = true ∧ Q (.bl (PyData.eqv r.d r2.d)) H) ∨
   (∃ T, T ∈ (["NoneType", "bool", "int", "str", "list", "tuple", "dict"] : List String) ∧ TyX K H y (.type T) ∧ Q (.bl false) H))
section
variable {P:Program} {w:World} {h:Heap} {K:PySem.W.Frag} {mg:Str→Option Value} {base:Heap}
abbrev N_Code___getitem__:List Str:=["self","number"]
theorem sc_Code___getitem__:FnScope N_Code___getitem__ ["self","number"] (defScope sd_Code___getitem__):=⟨rfl,rfl,rfl,by decide +kernel,rfl,by decide +kernel,by decide +kernel⟩
theorem ok_Code___getitem__ (T:Tx w h K mg):Ok P w K mg base 4 ("Code",some "__getitem__") ["self","number"] (sp_get K):=by
 obtain ⟨fd,F⟩:=F_Code___getitem__ T
 refine ⟨fd,?_,F.bindsN (fun _ _ _ _ _ _ us hl=>match us,hl with | [_,_],_=>rfl),F.kp⟩
 obtain ⟨fd_Code_check_number,G_Code_check_number,bi_Code_check_number,kp_Code_check_number⟩:=ok_Code_check_number (P:=P) (base:=base) T
 refine F.ok sc_Code___getitem__ (fun vs H Q E h=>?_) (fun cdv A outer s H vs Q E hr h=>?_)
 ·obtain ⟨F,A,rows,n,r,rfl,C,xF,hw,q⟩:=h
  rfl
 ·obtain ⟨F,A,rows,n,r,rfl,C,xF,hw,q⟩:=h
  refine ⟨_,PSs.nox (pss_cons (ps_expr (pe_meth (pv 0) (c_Code T) (me_Code_check_number T) G_Code_check_number (hr.mono (by decide)) bi_Code_check_number .nil passF (pa_cons (pv 1) pa_nil))) (pss_one (ps_ret (pe_ix ix_list (pe_fld (pv 0) rfl) (pv 1) (fun _ _=>rfl))))),?_⟩
  obtain ⟨vs,C1,da⟩:=C.ex (Evl.Ex.refl _) xF
  obtain ⟨v,hv,dv⟩:=dpA_get da (i:=n) (d:=r.d) (by rw [List.getElem?_map,hw]<;>rfl)
  refine ⟨_,rfl,A.p,_,_,rfl,C1.ob,fm_Code_check_number _ _ _ _ _,_,rfl,F,A,rows,n,rfl,C,xF,(List.getElem?_eq_some_iff.mp hw).1,?_⟩
  exact ⟨_,rfl,A.p,_,_,_,_,rfl,C1.ob,c_Code T,na_Code_statements T,fl_Code_statements _ _ _ _ _,_,rfl,A.a1,_,_,v,rfl,rfl,Evl.sq_of C1.h1,atI_nat hv,q v dv⟩
abbrev N_Code___eq__:List Str:=["self","other"]
theorem sc_Code___eq__:FnScope N_Code___eq__ ["self","other"] (defScope sd_Code___eq__):=⟨rfl,rfl,rfl,by decide +kernel,rfl,by decide +kernel,by decide +kernel⟩
theorem ok_Code___eq__ (T:Tx w h K mg):Ok P w K mg base 1 ("Code",some "__eq__") ["self","other"] (sp_ceq K):=by
 obtain ⟨fd,F⟩:=F_Code___eq__ T
 refine ⟨fd,?_,F.bindsN (fun _ _ _ _ _ _ us hl=>match us,hl with | [_,_],_=>rfl),F.kp⟩
 refine F.ok sc_Code___eq__ (fun vs H Q E h=>?_) (fun cdv A outer s H vs Q E hr h=>?_)
 ·obtain ⟨F,A,rows,r,y,rfl,C,xF,hw,can,dep,alt⟩:=h
  rfl
 ·obtain ⟨F,A,rows,r,y,rfl,C,xF,hw,can,dep,alt⟩:=h
  refine ⟨_,PSs.nox (pss_one (ps_ret (pe_and (pe_callB call_isi rfl (fr_isinstance T) b_isinstance (pa_cons (pv 1) (pa_cons (pe_glob (v:=.ref (He.ga K "Code")) rfl (g_Code T) rfl) pa_nil))) (pe_one (pe_cmpR (op_eqM hr) (pe_ix ix_list (pe_fld (pv 0) rfl) pe_int (fun _ _=>rfl)) (pe_ix ix_list (pe_fld (pv 1) rfl) pe_int (fun _ _=>rfl)) (nomark _)))))),?_⟩
  obtain ⟨vs,C1,da⟩:=C.ex (Evl.Ex.refl _) xF
  rcases alt with ⟨F2,A2,rows2,r2,rfl,C2,xF2,hw2,can2,q⟩ | ⟨T0,hT,ty,q⟩
  ·obtain ⟨vs2,C3,da2⟩:=C2.ex (Evl.Ex.refl _) xF2
   obtain ⟨v,hv,dv⟩:=dpA_get da (i:=0) (d:=r.d) (by rw [List.getElem?_map,hw]<;>rfl)
   obtain ⟨v2,hv2,dv2⟩:=dpA_get da2 (i:=0) (d:=r2.d) (by rw [List.getElem?_map,hw2]<;>rfl)
   refine ⟨_,rfl,.ref A2.p,.ref (He.ga K "Code"),_,_,true,rfl,.own _,FcO.ty_ins (c_Code T) (eq_Code T) C3.ob,(eq_Code T).same,_,rfl,itT rfl ?_⟩
   refine ⟨_,rfl,A.p,_,_,_,_,rfl,C1.ob,c_Code T,na_Code_statements T,fl_Code_statements _ _ _ _ _,A.a1,_,_,v,rfl,rfl,Evl.sq_of C1.h1,atI_nat (j:=0) hv,?_⟩
   refine ⟨_,rfl,A2.p,_,_,_,_,rfl,C3.ob,c_Code T,na_Code_statements T,fl_Code_statements _ _ _ _ _,A2.a1,_,_,v2,rfl,rfl,Evl.sq_of C3.h1,atI_nat (j:=0) hv2,?_⟩
   exact ⟨_,_,dp_ex xF dv,dp_ex xF2 dv2,can,can2,Nat.le_trans (Nat.min_le_left _ _) dep,q⟩
  ·exact ⟨_,rfl,y,.ref (He.ga K "Code"),_,_,false,rfl,.own _,ty,(eq_Code T).no T0 hT,_,rfl,itF rfl q⟩
end
end
end Fc
set_option maxRecDepth 100000
set_option maxHeartbeats 4000000
namespace FcW
open PySem PySem.Spec PyProof.Rows L2
section
variable {X:Cx}
end
end FcW
set_option maxRecDepth 100000
set_option maxHeartbeats 4000000
namespace FcW
open PySem PySem.Spec PyProof.Rows L2
section
variable {X:Cx}
end
end FcW
set_option maxRecDepth 100000
set_option maxHeartbeats 4000000
namespace FcW
open PySem PySem.Spec PyProof.Rows L2
section
variable {X:Cx}
end
end FcW
set_option maxRecDepth 100000
set_option maxHeartbeats 4000000
namespace Fc
open PySem PySem.Spec PyProof.Rows L2 FcR
open Evl (Ex)
section
open FcM (Way Node Tab)
theorem flat_i67 (l:List Nat):(intsV l).all flatV=true:=List.all_eq_true.mpr fun v hv=>by
 obtain ⟨n,_,rfl⟩:=List.mem_map.mp hv
 rfl
theorem inV_i67 (n:Nat) (l:List Nat):inV (.int (n:Int)) (intsV l)=decide (n∈l):=by
 unfold inV intsV
 rw [List.any_map]
 induction l with
 | nil=>rfl
 | cons a l ih =>
  rw [List.any_cons,ih]
  have:((fun y=>eqV y (.int (n:Int))) ∘ fun n:Nat=>V.int (n:Int)) a=decide (n=a):=by
   show eqV (.int (a:Int)) (.int (n:Int))=_
   by_cases z:n=a
   ·subst z;simp [eqV]
   ·have:¬ ((a:Int)=(n:Int)):=by omega
    simp [eqV,this,z]
  first
   | (rw [this];simp)
   | (simp at this ⊢;rw [this])
theorem intsV_len67 (l:List Nat):(intsV l).length=l.length:=by unfold intsV;exact List.length_map ..
theorem ck_ex67 {K:PySem.W.Frag} {F F':Hp} {A:CAd} {rows:List Row} {lp:Nat→Nat} (e:Ex F F') (x:CK K F A rows lp):CK K F' A rows lp:=⟨x.c.ex e e,x.w,x.l,x.g,x.r⟩
theorem lab67 {l:Int} {d:PyData} (sv:SV l d):(kindD d="seq"∧∀ es,mkD d es=.tuple [.str "seq",.tuple es])∨(kindD d≠"seq"∧labD d=.non∧∀ es,mkD d es=.tuple (.str (kindD d)::es))∨(∃ x,kindD d≠"seq"∧labD d≠.non∧(∀ K F,Dp K F (labD d) x)∧∀ es,mkD d es=.tuple (.str (kindD d)::x::es)):=by
 cases sv with
 | do_ x=>exact .inr (.inr ⟨.str x,(show ("do":Str)≠"seq" by decide),(fun z=>nomatch z),fun _ _=>.str x,fun es=>rfl⟩)
 | call x=>exact .inr (.inr ⟨.str x,(show ("call":Str)≠"seq" by decide),(fun z=>nomatch z),fun _ _=>.str x,fun es=>rfl⟩)
 | iff x a b=>exact .inr (.inr ⟨.str x,(show ("if":Str)≠"seq" by decide),(fun z=>nomatch z),fun _ _=>.str x,fun es=>rfl⟩)
 | whl x a=>exact .inr (.inr ⟨.str x,(show ("while":Str)≠"seq" by decide),(fun z=>nomatch z),fun _ _=>.str x,fun es=>rfl⟩)
 | seq p ps=>exact .inl ⟨rfl,fun es=>rfl⟩
 | brk n h1 h2=>exact .inr (.inr ⟨.int n,(show ("break":Str)≠"seq" by decide),(fun z=>nomatch z),fun _ _=>.int n,fun es=>rfl⟩)
 | cnt n h1 h2=>exact .inr (.inr ⟨.int n,(show ("continue":Str)≠"seq" by decide),(fun z=>nomatch z),fun _ _=>.int n,fun es=>rfl⟩)
 | ret=>exact .inr (.inl ⟨(show ("return":Str)≠"seq" by decide),rfl,fun es=>rfl⟩)
 | rai=>exact .inr (.inl ⟨(show ("raise":Str)≠"seq" by decide),rfl,fun es=>rfl⟩)
 | tr a b=>exact .inr (.inl ⟨(show ("try":Str)≠"seq" by decide),rfl,fun es=>rfl⟩)
 | fin a b=>exact .inr (.inl ⟨(show ("final":Str)≠"seq" by decide),rfl,fun es=>rfl⟩)
theorem catA_67 {K:PySem.W.Frag} {F H:Hp} {a b:Addr} {xs ys:List V} {Q:VK} (xF:Ex F H) (h:SqT K F a xs) (k:SqT K F b ys) (hs:xs.length + ys.length≤1000) (q:∀ F' H' p,Gr (fun _=>False) F H F' H'→SqT K F' p (xs++ys)→Q (.ref p) H'):rCatA K (.ref a) (.ref b) H Q:=by
 refine ⟨a,b,xs,ys,rfl,rfl,Evl.ex_t xF h,Evl.ex_t xF k,Nat.le_of_lt (szl (by omega)),fun e=>?_,fun _ e=>?_,fun _ _ p n=>?_⟩
 ·subst e
  exact q F H b (Gr.refl xF) k
 ·subst e
  rw [List.append_nil] at q
  exact q F H a (Gr.refl xF) h
 ·exact q _ _ p (Gr.frz (M:=fun _=>False) xF n upd_same (fun b hb=>upd_ne hb)) (Evl.st_of upd_same)
def sp_reb (K:PySem.W.Frag) (n:Nat):Sp:=fun vs H Q _=>∃ (F:Hp) (A:CAd) (rows:List Row) (lp:Nat→Nat) (ga:Addr) (m:Nat) (r:Row) (dd:List Nat),vs=[.ref A.p,.ref ga,.int (m:Int)]∧CK K F A rows lp∧Ex F H∧F ga=some (.lst (intsV dd))∧UpR rows∧rows[m]?=some r∧r.d.depth≤n ∧
 ∀ (F' H':Hp) (v':V),Gr (fun _=>False) F H F' H'→Dp K F' v' (cutN rows dd m)→Q v' H'
section
variable {P:Program} {w:World} {h:Heap} {K:PySem.W.Frag} {mg:Str→Option Value} {base:Heap}
theorem reb_pre (n:Nat) (IH:∀ m,m<n→Ok P w K mg base (m + 2) ("rebuilt",none) ["code","gone","number"] (sp_reb K m)) (T:Tx w h K mg) :
  Ok P w K mg base (n + 1) ("rebuilt",none) ["code","gone","number"] (fun vs H Q E=>∃ m,m<n∧sp_reb K m vs H Q E):=by
 cases n with
 | zero =>
  obtain ⟨fd,F⟩:=F_rebuilt T
  refine ⟨fd,⟨fun vs H Q E h=>?_,fun A outer s H args us vs Q E _ _ _ _ h=>?_⟩,F.bindsN (fun _ _ _ _ _ _ us hl=>match us,hl with | [_,_,_],_=>rfl),F.kp⟩
  ·obtain ⟨m,h,_⟩:=h
   exact absurd h (Nat.not_lt_zero _)
  ·obtain ⟨m,h,_⟩:=h
   exact absurd h (Nat.not_lt_zero _)
 | succ n =>
  obtain ⟨fd,G,b,kp⟩:=IH n (Nat.lt_succ_self _)
  refine ⟨fd,G.imp fun vs H Q E h=>?_,b,kp⟩
  obtain ⟨m,hm,F,A,rows,lp,ga,j,r,dd,e1,e2,e3,e4,e5,e6,e7,q⟩:=h
  exact ⟨F,A,rows,lp,ga,j,r,dd,e1,e2,e3,e4,e5,e6,by omega,q⟩
abbrev N_rebuilt:List Str:=["code","gone","number","kind","parts","made","part"]
theorem sc_rebuilt:FnScope N_rebuilt ["code","gone","number"] (defScope sd_rebuilt):=⟨rfl,rfl,rfl,by decide +kernel,rfl,by decide +kernel,by decide +kernel⟩
theorem ok_rebuilt (n:Nat) (IH:∀ m,m<n→Ok P w K mg base (m + 2) ("rebuilt",none) ["code","gone","number"] (sp_reb K m)) (T:Tx w h K mg):Ok P w K mg base (n+2) ("rebuilt",none) ["code","gone","number"] (sp_reb K n):=by
 obtain ⟨fd,F⟩:=F_rebuilt T
 refine ⟨fd,?_,F.bindsN (fun _ _ _ _ _ _ us hl=>match us,hl with | [_,_,_],_=>rfl),F.kp⟩
 obtain ⟨fd_rebuilt,G_rebuilt,bi_rebuilt,kp_rebuilt⟩:Ok P w K mg base (n + 1) ("rebuilt",none) ["code","gone","number"] (fun vs H Q E=>∃ m,m<n∧sp_reb K m vs H Q E):=reb_pre n IH T
 refine F.ok sc_rebuilt (fun vs H Q E h=>?_) (fun cdv A outer s H vs Q E hr h=>?_)
 ·obtain ⟨F,A,rows,lp,ga,m,r,dd,rfl,X,xF,hga,U,hr_,hdp,q⟩:=h
  rfl
 ·obtain ⟨F,A,rows,lp,ga,m,r,dd,rfl,X,xF,hga,U,hr_,hdp,q⟩:=h
  refine ⟨_,PSs.nox (pss_cons (ps_par rfl sc_rebuilt.nd (i:=3) (j:=4) rfl rfl (by decide) rfl rfl (pa_cons (pe_ix ix_list (pe_fld (pv 0) rfl) (pv 2) (fun _ _=>rfl)) (pa_cons (pe_ix ix_list (pe_fld (pv 0) rfl) (pv 2) (fun _ _=>rfl)) pa_nil)) (by rfl)) (Evl.pss_cut (ps_if (PW.pt (pw_and (pt_cmpR op_eq (pv 3) pe_str (nomark _)) (pw_and1 (pt_cmpR op_in_seq (pe_ix ix_list (pv 4) pe_int (fun _ _=>rfl)) (pv 1) (by rfl))))) (pss_one (ps_ret (pe_call G_rebuilt (hr.mono (by omega)) rfl (g_rebuilt T) kp_rebuilt bi_rebuilt .nil passF (pa_cons (pv 0) (pa_cons (pv 1) (pa_cons (pe_ix ix_list (pv 4) pe_int (fun _ _=>rfl)) pa_nil)))))) pss_nil) (pss_cons (ps_set (i:=5) sc_rebuilt.nd rfl (Or.inl rfl) (pe_callTy call_tuple_of rfl (fr_tuple T) b_tuple (pa_cons (pe_lc (own:=[("part",6)]) rfl sc_rebuilt.nd (pi_list (pv 4)) (blkOk_by (N:=N_rebuilt) (sc:=defScope sd_rebuilt) (by decide +kernel)) (fun _ _ _ _ _=>(pg_name (i:=6) sc_rebuilt.nd rfl (Or.inl rfl))) (fun _ _ _ _ _=>(pts_one (pt_cmpR (show OpR _ _ (rIn K true) from op_notIn_seq) (pv 6) (pv 1) (by rfl)))) (fun _ _ _ _ _=>(pe_call G_rebuilt (hr.mono (by omega)) rfl (g_rebuilt T) kp_rebuilt bi_rebuilt .nil passF (pa_cons (pv 0) (pa_cons (pv 1) (pa_cons (pv 6) pa_nil)))))) pa_nil))) (pss_cons (ps_if (pt_cmpR op_eq (pv 3) pe_str (nomark _)) (pss_one (ps_ret (pe_tup (pa_cons (pv 3) (pa_cons (pv 5) pa_nil))))) pss_nil) (pss_one (ps_ret (pe_ifExp (pt_cmpR op_isN (pe_ix ix_list (pe_fld (pv 0) rfl) (pv 2) (fun _ _=>rfl)) pe_non (nomark _)) (pe_op op_catA (pe_tup (pa_cons (pv 3) pa_nil)) (pv 5)) (pe_op op_catA (pe_tup (pa_cons (pv 3) (pa_cons (pe_ix ix_list (pe_fld (pv 0) rfl) (pv 2) (fun _ _=>rfl)) pa_nil))) (pv 5))))))))),?_⟩
  have hm:=(List.getElem?_eq_some_iff.mp hr_).1
  obtain ⟨vs5,c,C5,a5⟩:=X.at xF hr_
  have kd5:=a5.kd
  have lb5:=a5.lb
  rw [← kd_nd (X.w.sv m r hr_).1] at kd5
  have sv:=(X.w.sv m r hr_).1
  refine ⟨_,rfl,A.p,_,_,_,_,rfl,C5.ob,c_Code T,na_Code_kinds T,fl_Code_kinds _ _ _ _ _,_,rfl,A.a2,_,_,_,rfl,rfl,Evl.sq_of C5.h2,atI_nat kd5,_,rfl,A.p,_,_,_,_,rfl,C5.ob,c_Code T,na_Code_children T,fl_Code_children _ _ _ _ _,_,rfl,A.a5,_,_,_,rfl,rfl,Evl.sq_of C5.h5,atI_nat a5.cs,_,_,rfl,?_⟩
  refine ⟨fun σ' H'=>H'=H∧σ'=((L2.start N_rebuilt [V.ref A.p,V.ref ga,V.int (m:Int)]).set 3 (some (V.str (kindD r.d)))).set 4 (some (V.ref c))∧¬ (kindD r.d="try"∧r.ch.getD 1 0∈dd),?_,?_⟩
  ·refine ⟨_,rfl,rfl,_,rfl,ite_of (fun z=>?_) (fun z=>?_)⟩
   ·have hk:kindD r.d="try":=V.str.inj (of_decide_eq_true z)
    obtain ⟨a,b,hc⟩:=U.two m r hr_ hk
    have hC:=a5.ch
    rw [hc] at hC
    refine ⟨_,rfl,c,_,_,.int (b:Int),rfl,rfl,Evl.sq_of hC,at1,_,rfl,ga,_,rfl,.inl (Evl.sq_of (xF _ _ hga)),rfl,flat_i67 dd,_,rfl,?_⟩
    by_cases hb:b∈dd
    ·refine itT (by rw [inV_i67];exact decide_eq_true hb) ?_
     obtain ⟨ra,hra,hlt⟩:=U.dp m r hr_ a (by rw [hc];simp)
     exact ⟨_,rfl,_,rfl,_,rfl,c,_,_,.int (a:Int),rfl,rfl,Evl.sq_of hC,at0,ra.d.depth,by omega,F,A,rows,lp,ga,a,ra,dd,rfl,X,xF,hga,U,hra,Nat.le_refl _,fun F' H' v' g dv=>q F' H' v' g (by rw [cut_try U hr_ hk hc hb];exact dv)⟩
    ·refine itF (by rw [inV_i67];exact decide_eq_false hb) ?_
     exact ⟨rfl,rfl,fun y=>hb (by rw [hc] at y;exact y.2)⟩
   ·refine itF rfl ?_
    exact ⟨rfl,rfl,fun y=>of_decide_eq_false z (by rw [y.1])⟩
  rintro σ' H1 ⟨rfl,rfl,hno⟩
  have ecut:=cut_mk U hr_ hno
  have hC:=a5.ch
  refine ⟨_,rfl,c,rfl,⟨_,Evl.sq_of hC⟩,fun D2 nD2=>?_⟩
  have xD:Ex H1 (upd H1 D2 (.lst [])):=exu (Evl.Ex.refl _) nD2
  have gD:Gr (fun _=>False) F H1 F (upd H1 D2 (.lst [])):=Gr.new xF xD
  have fD:F D2=none:=ex_none xF nD2
  have fil:∀ j,(r.ch.take j).filter (fun c=>decide (c ∉ dd))=(r.ch.take j).filter (fun c=>decide (c ∉ dd)):=fun _=>rfl
  have hcl:r.ch.length≤401:=by
   rw [(X.w.sv m r hr_).2.1]
   exact parts_401p sv
  refine lc_it (walk_list (xs:=intsV r.ch)) (fun j H'=>∃ (F':Hp) (ws:List V),H' D2=some (.lst ws)∧Gr (fun b=>b=D2) F (upd H1 D2 (.lst [])) F' H'∧F' D2=none∧DpAll K F' ws (((r.ch.take j).filter fun c=>decide (c ∉ dd)).map (cutN rows dd))) ?_ ?_ ?_ ?_
  ·exact ⟨F,[],upd_same,Gr.refl gD.fh,fD,.nil⟩
  ·exact fun j H' _ ⟨_,_,l,g,_⟩=>Evl.sq_of (g.kp c _ (xD _ _ hC) (fun z=>by rw [z,nD2] at hC;cases hC))
  ·rintro j z Ja Jb hj ⟨F',ws,l2,g,fD',hw⟩ ⟨rfl,hz⟩
   have hj:j<r.ch.length:=by rw [← intsV_len67 r.ch];exact hj
   obtain ⟨k,hk⟩:∃ k,r.ch[j]?=some k:=⟨_,List.getElem?_eq_getElem hj⟩
   have hz2:(intsV r.ch)[j]?=some (.int (k:Int)):=by unfold intsV;rw [List.getElem?_map,hk]<;>rfl
   rw [hz2] at hz
   cases hz
   have wl:=dpA_len hw
   have wl2:ws.length≤401:=by
    rw [wl,List.length_map]
    have:=List.length_filter_le (fun c=>decide (c ∉ dd)) (r.ch.take j)
    rw [List.length_take] at this
    omega
   have tk:(r.ch.take (j + 1)).filter (fun c=>decide (c ∉ dd))=(r.ch.take j).filter (fun c=>decide (c ∉ dd))++if k∈dd then [] else [k]:=by
    rw [take_one hk,List.filter_append]
    congr 1
    by_cases y:k∈dd
    ·rw [if_pos y,List.filter_cons_of_neg (by simpa using y)]<;>rfl
    ·rw [if_neg y,List.filter_cons_of_pos (by simpa using y)]<;>rfl
   refine ⟨rfl,_,rfl,_,rfl,ga,_,rfl,.inl (Evl.sq_of (g.fh _ _ (g.ff _ _ hga))),rfl,flat_i67 dd,_,rfl,?_⟩
   by_cases y:k∈dd
   ·refine itF (by rw [inV_i67,decide_eq_true y]<;>rfl) ?_
    exact ⟨F',ws,l2,g,fD',by rw [tk,if_pos y,List.append_nil];exact hw⟩
   ·refine itT (by rw [inV_i67,decide_eq_false y]<;>rfl) ?_
    obtain ⟨rk,hrk,hlt⟩:=U.dp m r hr_ k (List.mem_of_getElem? hk)
    refine ⟨_,rfl,_,rfl,_,rfl,rk.d.depth,by omega,F',A,rows,lp,ga,k,rk,dd,rfl,ck_ex67 g.ff X,g.fh,g.ff _ _ hga,U,hrk,Nat.le_refl _,fun F3 H3 v3 g3 dv3=>?_⟩
    have l3:H3 D2=some (.lst ws):=g3.kp _ _ l2 id
    have f3:F3 D2=none:=g3.nw _ (by rw [l2];exact fun z=>nomatch z) fD' id
    refine ⟨_,l3,szl (by omega),F3,ws++[v3],upd_same,(g.trans (g3.mono fun _ z=>z.elim)).trans (Gr.set g3.fh rfl f3 (fun b n=>upd_ne n)),f3,?_⟩
    rw [tk,if_neg y,List.map_append]
    exact dpA_app (dpA_ex g3.ff hw) (.cons dv3 .nil)
  rintro H3 ⟨F3,ws,l3,g3,fD3,hw⟩
  have gE:=g3.ff
  have g3:=gD.hide g3 fun x hx=>.inl (hx ▸ nD2)
  rw [intsV_len67,List.take_length] at hw
  rw [ecut] at q
  have wl:=dpA_len hw
  have wl2:ws.length≤401:=by
   rw [wl,List.length_map]
   have:=List.length_filter_le (fun c=>decide (c ∉ dd)) r.ch
   omega
  generalize (r.ch.filter fun c=>decide (c ∉ dd)).map (cutN rows dd)=es at *
  refine ⟨D2,ws,rfl,.inl ⟨Evl.sq_of l3,fun p4 n4=>?_⟩⟩
  generalize e4:upd _ p4 _=H4
  obtain ⟨x4,s4,o4⟩:=new_of e4 n4
  clear e4
  have g4:=g3.trans (Gr.frz g3.fh n4 s4 o4)
  have f34:=exu (o:=.tup ws) (Evl.Ex.refl F3) (ex_none g3.fh n4)
  have dW:=dpA_ex f34 hw
  have sW:SqT K (upd F3 p4 (.tup ws)) p4 ws:=Evl.st_of upd_same
  generalize upd F3 p4 (.tup ws)=F4 at *
  have gA:=(gE.trans f34)
  obtain ⟨vs4,c4,C4,a4⟩:=X.at (gA.trans g4.fh) hr_
  have lb4:=a4.lb
  rcases lab67 sv with ⟨k1,hm⟩ | ⟨k1,l1,hm⟩ | ⟨x,k1,l1,dx,hm⟩
  ·refine ⟨_,rfl,rfl,_,rfl,itT (decide_eq_true (by rw [k1])) ?_⟩
   refine ⟨_,rfl,_,rfl,sz (by simp),?_⟩
   intro p5 n5
   generalize e5:upd _ p5 _=H5
   obtain ⟨x5,s5,o5⟩:=new_of e5 n5
   clear e5
   have f45:=exu (o:=.tup [V.str (kindD r.d),.ref p4]) (Evl.Ex.refl F4) (ex_none g4.fh n5)
   refine q _ H5 _ (g4.trans (Gr.frz g4.fh n5 s5 o5)) ?_
   rw [hm]
   exact .tup (Evl.st_of upd_same) (.cons (by rw [k1];exact .str _) (.cons (.tup (Evl.ex_t f45 sW) (dpA_ex f45 dW)) .nil))
  ·refine ⟨_,rfl,rfl,_,rfl,itF (decide_eq_false fun z=>k1 (V.str.inj z)) ?_⟩
   refine ⟨_,rfl,A.p,_,_,_,_,rfl,C4.ob,c_Code T,na_Code_labels T,fl_Code_labels _ _ _ _ _,_,rfl,A.a3,_,_,_,rfl,rfl,Evl.sq_of C4.h3,atI_nat lb4,rfl,_,rfl,itT (decide_eq_true l1) ?_⟩
   refine ⟨_,rfl,sz (by simp),?_⟩
   intro p5 n5
   generalize e5:upd _ p5 _=H5
   obtain ⟨x5,s5,o5⟩:=new_of e5 n5
   clear e5
   have g5:=g4.trans (Gr.frz g4.fh n5 s5 o5)
   have f45:=exu (o:=.tup [V.str (kindD r.d)]) (Evl.Ex.refl F4) (ex_none g4.fh n5)
   refine ⟨_,rfl,catA_67 g5.fh (Evl.st_of upd_same) (Evl.ex_t f45 sW) (by simp;omega) fun F6 H6 p6 g6 s6=>?_⟩
   refine q F6 H6 _ (g5.trans g6) ?_
   rw [hm]
   exact .tup s6 (.cons (.str _) (dpA_ex (f45.trans g6.ff) dW))
  ·refine ⟨_,rfl,rfl,_,rfl,itF (decide_eq_false fun z=>k1 (V.str.inj z)) ?_⟩
   refine ⟨_,rfl,A.p,_,_,_,_,rfl,C4.ob,c_Code T,na_Code_labels T,fl_Code_labels _ _ _ _ _,_,rfl,A.a3,_,_,_,rfl,rfl,Evl.sq_of C4.h3,atI_nat lb4,rfl,_,rfl,itF (decide_eq_false l1) ?_⟩
   refine ⟨_,rfl,_,rfl,A.p,_,_,_,_,rfl,C4.ob,c_Code T,na_Code_labels T,fl_Code_labels _ _ _ _ _,_,rfl,A.a3,_,_,_,rfl,rfl,Evl.sq_of C4.h3,atI_nat lb4,sz (by simp),?_⟩
   intro p5 n5
   generalize e5:upd _ p5 _=H5
   obtain ⟨x5,s5,o5⟩:=new_of e5 n5
   clear e5
   have g5:=g4.trans (Gr.frz g4.fh n5 s5 o5)
   have f45:=exu (o:=.tup [V.str (kindD r.d),labD r.d]) (Evl.Ex.refl F4) (ex_none g4.fh n5)
   refine ⟨_,rfl,catA_67 g5.fh (Evl.st_of upd_same) (Evl.ex_t f45 sW) (by simp;omega) fun F6 H6 p6 g6 s6=>?_⟩
   refine q F6 H6 _ (g5.trans g6) ?_
   rw [hm]
   exact .tup s6 (.cons (.str _) (.cons (dx K F6) (dpA_ex (f45.trans g6.ff) dW)))
theorem ok_reb (T:Tx w h K mg) (n:Nat):Ok P w K mg base (n + 2) ("rebuilt",none) ["code","gone","number"] (sp_reb K n):=by
 induction n using Nat.strongRecOn with
 | ind n ih=>exact ok_rebuilt n ih T
end
end
section
open FcM (Way Node Tab)
def sp_look (K:PySem.W.Frag):Sp:=fun vs H Q _=>∃ (F:Hp) (A:CAd) (rows:List Row) (lp:Nat→Nat) (a:Addr) (bits:List Bool) (k e N:Nat) (cf:FcM.Cfg),vs=[.ref A.p,.ref a]∧CodeH K F F A rows∧TW rows lp∧Ex F H∧SqL K F a (bits.map bV)∧bits.length≤1000 ∧
 FcM.Ent (tabOf rows) k 0 e∧FcM.Re (tabOf rows) bits 1000 N ⟨.inl e,[],0,[]⟩ cf∧cf.vs.length≤90000∧(∀ w,cf.at_=.inr w→FcM.WOk 0 w)∧(∀ n∈cf.vs,n<rows.length) ∧
 ∀ (F' H':Hp) (v:V),Gr (fun _=>False) F H F' H'→Dp K F' v (lookD rows cf.vs cf.us (endT cf))→Q v H'
section
variable {P:Program} {w:World} {h:Heap} {K:PySem.W.Frag} {mg:Str→Option Value} {base:Heap}
abbrev N_law_look:List Str:=["_law_prog","_law_answers_here","_law_told","_law_shown","_law_place"]
theorem sc_law_look:FnScope N_law_look ["_law_prog","_law_answers_here"] (defScope sd_law_look):=⟨rfl,rfl,rfl,by decide +kernel,rfl,by decide +kernel,by decide +kernel⟩
theorem ok_law_look (T:Tx w h K mg):Ok P w K mg base 12 ("_law_look",none) ["_law_prog","_law_answers_here"] (sp_look K):=by
 obtain ⟨fd,F⟩:=F_law_look T
 refine ⟨fd,?_,F.bindsN (fun _ _ _ _ _ _ us hl=>match us,hl with | [_,_],_=>rfl),F.kp⟩
 obtain ⟨fd_run,G_run,bi_run,kp_run⟩:=ok_run (P:=P) (base:=base) T
 obtain ⟨fd_Code_kind,G_Code_kind,bi_Code_kind,kp_Code_kind⟩:=ok_Code_kind (P:=P) (base:=base) T
 refine F.ok sc_law_look (fun vs H Q E h=>?_) (fun cdv A outer s H vs Q E hr h=>?_)
 ·obtain ⟨F,A,rows,lp,a,bits,k,e,N,cf,rfl,C,W,xF,hb,hbl,hE,hR,hvl,hok,hlt,q⟩:=h
  rfl
 ·obtain ⟨F,A,rows,lp,a,bits,k,e,N,cf,rfl,C,W,xF,hb,hbl,hE,hR,hvl,hok,hlt,q⟩:=h
  refine ⟨_,PSs.nox (pss_cons (ps_set (i:=2) sc_law_look.nd rfl (Or.inl rfl) (pe_call G_run (hr.mono (by decide)) rfl (g_run T) kp_run bi_run .nil passF (pa_cons (pv 0) (pa_cons (pv 1) pa_nil)))) (pss_cons (ps_setLc (i:=3) (own:=[("_law_place",4)]) rfl sc_law_look.nd rfl rfl (sw_true rfl rfl rfl (by decide +kernel)) (pi_list (pe_fld (pv 2) rfl)) (blkOk_by (N:=N_law_look) (sc:=defScope sd_law_look) (by decide +kernel)) (fun _ _ _ _ _=>(pg_name (i:=4) sc_law_look.nd rfl (Or.inl rfl))) (fun _ _ _ _ _=>(pts_one (pt_cmpR (show OpR _ _ (rIn K false) from op_in_seq) (pe_meth (pv 0) (c_Code T) (me_Code_kind T) G_Code_kind (hr.mono (by decide)) bi_Code_kind .nil passF (pa_cons (pv 4) pa_nil)) (pe_tup (pa_cons pe_str (pa_cons pe_str (pa_cons pe_str (pa_cons pe_str pa_nil))))) (by rfl)))) (fun _ _ _ _ _=>(pv 4))) (pss_one (ps_ret (pe_tup (pa_cons (pe_lc (own:=[("_law_place",4)]) rfl sc_law_look.nd (pi_list (pv 3)) (blkOk_by (N:=N_law_look) (sc:=defScope sd_law_look) (by decide +kernel)) (fun _ _ _ _ _=>(pg_name (i:=4) sc_law_look.nd rfl (Or.inl rfl))) (fun _ _ _ _ _=>pts_nil) (fun _ _ _ _ _=>(pe_tup (pa_cons (pe_meth (pv 0) (c_Code T) (me_Code_kind T) G_Code_kind (hr.mono (by decide)) bi_Code_kind .nil passF (pa_cons (pv 4) pa_nil)) (pa_cons (pe_ix (show IxR _ (rIxT K) from ix_tup) (FcL.pe_ixS (heldOf (k:=4) (ok_Code___getitem__ (P:=P) (base:=base) T)) (me_Code___getitem__ T) (FcL.fnIn_of (F_Code___getitem__ T).choose_spec) (hr.mono (by decide)) LamX.takes0 (pv 0) (pv 4)) pe_int (fun _ _=>rfl)) pa_nil))))) (pa_cons (pe_fld (pv 2) rfl) (pa_cons (pe_fld (pv 2) rfl) pa_nil)))))))),?_⟩
  refine ⟨_,rfl,_,rfl,F,A,rows,lp,a,bits,k,e,N,cf,rfl,C,W,xF,hb,hbl,hE,hR,hvl,hok,fun H1 q1 dx p1 x1 nq np hq hp=>?_⟩
  refine ⟨_,rfl,q1,_,_,_,_,rfl,hq,c_Run T,na_Run_visited T,fl_Run_visited _ _ _,p1,rfl,⟨_,Evl.sq_of hp⟩,fun D nD=>?_⟩
  have xD:Ex H1 (upd H1 D (.lst [])):=exu (Evl.Ex.refl _) nD
  have xF1:=xF.trans x1
  refine lc_it (walk_list (xs:=intsV cf.vs)) (fun j H'=>Ex H1 H'∧H' D=some (.lst (intsV (shN rows (cf.vs.take j))))) ?_ ?_ ?_ ?_
  ·exact ⟨xD,upd_same⟩
  ·exact fun j H' _ ⟨e,_⟩=>Evl.sq_of (e _ _ hp)
  ·rintro j z Ja Jb hj ⟨xe,l2⟩ ⟨rfl,hz⟩
   have hj:j<cf.vs.length:=by rw [← intsV_len67 cf.vs];exact hj
   obtain ⟨n,hn⟩:∃ n,cf.vs[j]?=some n:=⟨_,List.getElem?_eq_getElem hj⟩
   have hz2:(intsV cf.vs)[j]?=some (.int (n:Int)):=by unfold intsV;rw [List.getElem?_map,hn]<;>rfl
   rw [hz2] at hz
   cases hz
   obtain ⟨r,hr_⟩:=row_at (hlt n (List.mem_of_getElem? hn))
   have ed:dOf rows n=r.d:=by unfold dOf;rw [hr_]<;>rfl
   obtain ⟨vs6,C6,_⟩:=C.ex (Evl.Ex.refl _) (xF1.trans xe)
   have tk:shN rows (cf.vs.take (j + 1))=shN rows (cf.vs.take j)++if kindD r.d∈shL then [n] else []:=by
    unfold shN
    rw [take_one hn,List.filter_append]
    congr 1
    by_cases y:kindD r.d∈shL
    ·rw [if_pos y,List.filter_cons_of_pos (by rw [ed];exact decide_eq_true y)]<;>rfl
    ·rw [if_neg y,List.filter_cons_of_neg (by rw [ed];simpa using y)]<;>rfl
   refine ⟨rfl,_,rfl,A.p,_,_,rfl,C6.ob,fm_Code_kind _ _ _ _ _,_,rfl,F,A,rows,n,r,rfl,C,xF1.trans xe,hr_,?_⟩
   refine ⟨sz (by simp),?_⟩
   intro p3 n3
   generalize e3:upd _ p3 _=H3
   obtain ⟨x3,s3,o3⟩:=new_of e3 n3
   clear e3
   refine ⟨p3,_,rfl,.inr (Evl.st_of s3),rfl,flat_strs shL,_,rfl,?_⟩
   have l3:=x3 _ _ l2
   by_cases y:kindD r.d∈shL
   ·refine itT (in_strs (l:=shL) (decide_eq_true y)) ?_
    refine ⟨_,rfl,_,l3,szl (by rw [intsV_len67];have:=List.length_filter_le (fun n=>decide (kindD (dOf rows n)∈shL)) (cf.vs.take j);rw [List.length_take] at this;unfold shN;omega),?_,?_⟩
    ·intro b o hb
     rw [upd_ne (fun u=>by rw [u,nD] at hb;cases hb)]
     exact x3 _ _ (xe _ _ hb)
    ·rw [upd_same,tk,if_pos y]
     unfold intsV
     rw [List.map_append]<;>rfl
   ·refine itF (by rw [show ([V.str "do",V.str "call",V.str "if",V.str "while"]:List V)=shL.map V.str from rfl,inV_strs];exact decide_eq_false y) ?_
    exact ⟨xe.trans x3,by rw [tk,if_neg y,List.append_nil];exact l3⟩
  rintro H4 ⟨x4,l4⟩
  rw [intsV_len67,List.take_length] at l4
  have hsl:(shN rows cf.vs).length≤90000:=Nat.le_trans (List.length_filter_le _ _) hvl
  have hsm:∀ n∈shN rows cf.vs,∃ r,rows[n]?=some r∧dOf rows n=r.d∧kindD r.d∈shL:=fun n hn=>by
   obtain ⟨h1,h2⟩:=List.mem_filter.mp hn
   obtain ⟨r,hr_⟩:=row_at (hlt n h1)
   have ed:dOf rows n=r.d:=by unfold dOf;rw [hr_]<;>rfl
   exact ⟨r,hr_,ed,by rw [← ed];exact of_decide_eq_true h2⟩
  have eq1:lookD rows cf.vs cf.us (endT cf)=.tuple [.list ((shN rows cf.vs).map (stD rows)),.int (cf.us:Int),.str (endT cf)]:=rfl
  rw [eq1] at q
  generalize shN rows cf.vs=sv at *
  have xF4:=xF1.trans x4
  have g4:Gr (fun _=>False) F H F H4:=(Gr.new xF x1).trans (Gr.new xF1 x4)
  refine ⟨_,rfl,D,rfl,⟨_,Evl.sq_of l4⟩,fun D6 nD6=>?_⟩
  have xD6:Ex H4 (upd H4 D6 (.lst [])):=exu (Evl.Ex.refl _) nD6
  have gD:Gr (fun _=>False) F H F (upd H4 D6 (.lst [])):=g4.trans (Gr.new g4.fh xD6)
  have fD:F D6=none:=ex_none g4.fh nD6
  have nHD:H D6=none:=by
   cases e:H D6 with
   | none=>rfl
   | some o=>have:=g4.kp _ _ e id;rw [nD6] at this;cases this
  have DD:D≠D6:=fun z=>by rw [z,nD6] at l4;cases l4
  refine lc_it (walk_list (xs:=intsV sv)) (fun j H'=>∃ (F':Hp) (ws:List V),H' D6=some (.lst ws)∧Gr (fun b=>b=D6) F (upd H4 D6 (.lst [])) F' H'∧F' D6=none∧DpAll K F' ws ((sv.take j).map (stD rows))) ?_ ?_ ?_ ?_
  ·exact ⟨F,[],upd_same,Gr.refl gD.fh,fD,.nil⟩
  ·exact fun j H' _ ⟨_,_,l,g,_⟩=>Evl.sq_of (g.kp D _ (xD6 _ _ l4) DD)
  ·rintro j z Ja Jb hj ⟨F',ws,l2,g,fD',hw⟩ ⟨rfl,hz⟩
   have hj:j<sv.length:=by rw [← intsV_len67 sv];exact hj
   obtain ⟨n,hn⟩:∃ n,sv[j]?=some n:=⟨_,List.getElem?_eq_getElem hj⟩
   have hz2:(intsV sv)[j]?=some (.int (n:Int)):=by unfold intsV;rw [List.getElem?_map,hn]<;>rfl
   rw [hz2] at hz
   cases hz
   obtain ⟨r,hr_,ed,hk⟩:=hsm n (List.mem_of_getElem? hn)
   obtain ⟨rr,er⟩:=lab_sh (W.sv n r hr_).1 hk
   have wl:=dpA_len hw
   rw [List.length_map,List.length_take] at wl
   obtain ⟨vs6,C6,_⟩:=C.ex (Evl.Ex.refl _) (g.ff.trans g.fh)
   refine ⟨rfl,_,rfl,A.p,_,_,rfl,C6.ob,fm_Code_kind _ _ _ _ _,_,rfl,F,A,rows,n,r,rfl,C,g.ff.trans g.fh,hr_,?_⟩
   refine ⟨_,rfl,_,rfl,A.p,_,_,rfl,C6.ob,sp_get K,rfl,F,A,rows,n,r,rfl,C,g.ff.trans g.fh,hr_,fun v dv=>?_⟩
   rw [er] at dv
   obtain ⟨va,vx,rfl,vS,vA⟩:=dp_tup dv
   cases vA with
   | cons d1 vA =>
   cases vA with
   | cons d2 vA =>
   have e2:=dp_str d2
   subst e2
   refine ⟨va,_,_,_,rfl,rfl,Evl.ex_t (g.ff.trans g.fh) vS,at1,sz (by simp),?_⟩
   intro p7 n7
   generalize e7:upd _ p7 _=H7
   obtain ⟨x7,s7,o7⟩:=new_of e7 n7
   clear e7
   have l7:=x7 _ _ l2
   have g7:=g.trans (Gr.frz (M:=fun b=>b=D6) g.fh n7 s7 o7)
   have D67:D6≠p7:=fun z=>by rw [z,n7] at l2;cases l2
   have e7:=exu (o:=.tup [V.str (kindD r.d),.str (labS r.d)]) (Evl.Ex.refl F') (ex_none g.fh n7)
   refine ⟨ws,l7,szl (by omega),_,ws++[.ref p7],upd_same,g7.trans (Gr.set g7.fh rfl (by rw [upd_ne D67];exact fD') (fun b n=>upd_ne n)),by rw [upd_ne D67];exact fD',?_⟩
   rw [take_one hn,List.map_append]
   refine dpA_app (dpA_ex e7 hw) (.cons ?_ .nil)
   have:stD rows n=.tuple [.str (kindD r.d),.str (labS r.d)]:=by unfold stD;rw [ed]
   rw [this]
   exact .tup (Evl.st_of upd_same) (.cons (.str _) (.cons (.str _) .nil))
  rintro H8 ⟨F8,ws,l8,g8,fD8,hw⟩
  have hq8:H8 q1=some (.ins (He.ga K "Run") dx (fl_Run (.ref p1) (.int (cf.us:Int)) (.str (endT cf)))):=by
   have h4:=x4 _ _ hq
   exact g8.kp q1 _ (xD6 _ _ h4) (fun z=>by rw [z,nD6] at h4;cases h4)
  have g8':=(gD.hide g8 fun x hx=>.inl (hx ▸ nHD)).frzAt nHD l8 fD8
  have e8:=exu (o:=.lst ws) (Evl.Ex.refl F8) fD8
  have k8:upd F8 D6 (.lst ws) D6=some (.lst ws):=upd_same
  have hw8:=dpA_ex e8 hw
  rw [intsV_len67,List.take_length] at hw8
  generalize upd F8 D6 (.lst ws)=F9 at *
  refine ⟨_,rfl,q1,_,_,_,_,rfl,hq8,c_Run T,na_Run_used T,fl_Run_used _ _ _,_,rfl,q1,_,_,_,_,rfl,hq8,c_Run T,na_Run_end T,fl_Run_end _ _ _,sz (by simp),?_⟩
  intro p10 n10
  generalize e10:upd _ p10 _=H10
  obtain ⟨x10,s10,o10⟩:=new_of e10 n10
  clear e10
  have e10:=exu (o:=.tup [V.ref D6,.int (cf.us:Int),.str (endT cf)]) (Evl.Ex.refl F9) (ex_none g8'.fh n10)
  exact q _ H10 _ (g8'.trans (Gr.frz g8'.fh n10 s10 o10)) (.tup (Evl.st_of upd_same) (.cons (.lst (Evl.sq_of (e10 _ _ k8)) (dpA_ex e10 hw8)) (.cons (.int _) (.cons (.str _) .nil))))
end
end
section
open FcM (Way Node Tab)
inductive HdM (d:PyData):Prop
 | seq (ps:List PyData) (e:d=.tuple [.str "seq",.tuple ps]) (r:∀ es,mkD d es=.tuple [.str "seq",.tuple es])
 | nm (k:Str) (x:PyData) (hk:k="if"∨k="while") (e:d=.tuple (.str k::x::partsD d)) (r:∀ es,mkD d es=.tuple (.str k::x::es))
 | two (k:Str) (hk:k≠"seq"∧k≠"if"∧k≠"while") (e:d=.tuple (.str k::partsD d)) (r:∀ es,mkD d es=.tuple (.str k::es))
theorem hd_mk {l:Int} {d:PyData} (sv:SV l d) (ne:partsD d≠[]):HdM d:=by
 cases sv with
 | do_ x=>exact absurd rfl ne
 | call x=>exact absurd rfl ne
 | iff x a b=>exact .nm "if" (.str x) (.inl rfl) rfl (fun es=>rfl)
 | whl x a=>exact .nm "while" (.str x) (.inr rfl) rfl (fun es=>rfl)
 | seq p ps=>exact .seq (p::ps) rfl (fun es=>rfl)
 | brk n h1 h2=>exact absurd rfl ne
 | cnt n h1 h2=>exact absurd rfl ne
 | ret=>exact absurd rfl ne
 | rai=>exact absurd rfl ne
 | tr a b=>exact .two "try" (by decide) rfl (fun es=>rfl)
 | fin a b=>exact .two "final" (by decide) rfl (fun es=>rfl)
theorem slA_67 {K:PySem.W.Frag} {F H:Hp} {a:Addr} {xs ys:List V} {n:Int} {Q:VK} (xF:Ex F H) (h:SqT K F a (xs++ys)) (hn:n=(xs.length:Int)) (q:∀ F' H' p,Gr (fun _=>False) F H F' H'→SqT K F' p xs→Q (.ref p) H'):rSlA K (.ref a) none (some n) H Q:=by
 subst hn
 refine ⟨a,xs++ys,rfl,Evl.ex_t xF h,fun hf=>?_,fun _ p n=>?_⟩
 ·have e:ys=[]:=by
   have h2:=hf.2
   rw [HT.sIx_nat] at h2
   have h2:min xs.length (xs++ys).length=(xs++ys).length:=h2
   rw [List.length_append] at h2
   exact List.length_eq_zero_iff.mp (by omega)
  subst e
  rw [List.append_nil] at h
  exact q F H a (Gr.refl xF) h
 ·rw [cut_to,List.take_left]
  exact q _ _ p (Gr.frz (M:=fun _=>False) xF n upd_same (fun b hb=>upd_ne hb)) (Evl.st_of upd_same)
def sp_rbl (K:PySem.W.Frag):Sp:=fun vs H Q _=>∃ (F:Hp) (v:V) (d:PyData) (l:Int) (pa:Addr) (ws:List V) (es:List PyData),vs=[v,.ref pa]∧Dp K F v d∧SV l d∧partsD d≠[]∧Ex F H∧H pa=some (.lst ws)∧DpAll K F ws es∧ws.length≤401 ∧
 ∀ (F' H':Hp) (v':V),Gr (fun _=>False) F H F' H'→Dp K F' v' (mkD d es)→Q v' H'
section
variable {P:Program} {w:World} {h:Heap} {K:PySem.W.Frag} {mg:Str→Option Value} {base:Heap}
abbrev N_law_rebuilt:List Str:=["_law_value","_law_parts"]
theorem sc_law_rebuilt:FnScope N_law_rebuilt ["_law_value","_law_parts"] (defScope sd_law_rebuilt):=⟨rfl,rfl,rfl,by decide +kernel,rfl,by decide +kernel,by decide +kernel⟩
theorem ok_law_rebuilt (T:Tx w h K mg):Ok P w K mg base 1 ("_law_rebuilt",none) ["_law_value","_law_parts"] (sp_rbl K):=by
 obtain ⟨fd,F⟩:=F_law_rebuilt T
 refine ⟨fd,?_,F.bindsN (fun _ _ _ _ _ _ us hl=>match us,hl with | [_,_],_=>rfl),F.kp⟩
 refine F.ok sc_law_rebuilt (fun vs H Q E h=>?_) (fun cdv A outer s H vs Q E hr h=>?_)
 ·obtain ⟨F,v,d,l,pa,ws,es,rfl,dv,sv,ne,xF,hpa,dW,hwl,q⟩:=h
  rfl
 ·obtain ⟨F,v,d,l,pa,ws,es,rfl,dv,sv,ne,xF,hpa,dW,hwl,q⟩:=h
  refine ⟨_,PSs.nox (pss_cons (ps_if (pt_cmpR op_eq (pe_ix ix_tup (pv 0) pe_int (fun _ _=>rfl)) pe_str (nomark _)) (pss_one (ps_ret (pe_tup (pa_cons pe_str (pa_cons (pe_callTy call_tuple_of rfl (fr_tuple T) b_tuple (pa_cons (pv 1) pa_nil)) pa_nil))))) pss_nil) (pss_one (ps_ret (pe_ifExp (pt_cmpR op_in_seq (pe_ix ix_tup (pv 0) pe_int (fun _ _=>rfl)) (pe_tup (pa_cons pe_str (pa_cons pe_str pa_nil))) (by rfl)) (pe_op op_catA (pe_slice sl_tupA (pv 0) po_none (po_some pe_int)) (pe_callTy call_tuple_of rfl (fr_tuple T) b_tuple (pa_cons (pv 1) pa_nil))) (pe_op op_catA (pe_slice sl_tupA (pv 0) po_none (po_some pe_int)) (pe_callTy call_tuple_of rfl (fr_tuple T) b_tuple (pa_cons (pv 1) pa_nil))))))),?_⟩
  cases hd_mk sv ne with
  | seq ps e rr =>
   rw [e] at dv
   obtain ⟨va,xs,rfl,vS,vA⟩:=dp_tup dv
   cases vA with
   | @cons v0 xr _ _ g0 gA =>
   obtain rfl:=dp_str g0
   refine ⟨_,rfl,va,_,_,_,rfl,rfl,Evl.ex_t xF vS,at0,rfl,_,rfl,itT (decide_eq_true rfl) ?_⟩
   refine ⟨_,rfl,pa,_,rfl,.inl ⟨Evl.sq_of hpa,fun p1 n1=>?_⟩⟩
   generalize e1:upd H p1 _=H1
   obtain ⟨x1,s1,o1⟩:=new_of e1 n1
   clear e1
   have g1:Gr (fun _=>False) F H (upd F p1 (.tup ws)) H1:=Gr.frz xF n1 s1 o1
   have e1:=exu (o:=.tup ws) (Evl.Ex.refl F) (ex_none xF n1)
   refine ⟨sz (by simp),?_⟩
   intro p2 n2
   generalize e2:upd _ p2 _=H2
   obtain ⟨x2,s2,o2⟩:=new_of e2 n2
   clear e2
   have e2:=exu (o:=.tup [V.str "seq",.ref p1]) (Evl.Ex.refl (upd F p1 (.tup ws))) (ex_none g1.fh n2)
   refine q _ H2 _ (g1.trans (Gr.frz g1.fh n2 s2 o2)) ?_
   rw [rr]
   exact .tup (Evl.st_of upd_same) (.cons (.str _) (.cons (.tup (Evl.ex_t e2 (Evl.st_of upd_same)) (dpA_ex (e1.trans e2) dW)) .nil))
  | nm k x hk e rr =>
   rw [e] at dv
   obtain ⟨va,xs,rfl,vS,vA⟩:=dp_tup dv
   cases vA with
   | cons g0 vA =>
   cases vA with
   | @cons vx xp _ _ dx dp =>
   obtain rfl:=dp_str g0
   have hne:k≠"seq":=by rcases hk with rfl | rfl<;>decide
   have vS0:=Evl.ex_t xF vS
   refine ⟨_,rfl,va,_,_,_,rfl,rfl,vS0,at0,rfl,_,rfl,itF (decide_eq_false fun z=>hne (V.str.inj z)) ?_⟩
   refine ⟨_,rfl,va,_,_,_,rfl,rfl,vS0,at0,sz (by simp),?_⟩
   intro p1 n1
   generalize e1:upd _ p1 _=H1
   obtain ⟨x1,s1,o1⟩:=new_of e1 n1
   clear e1
   have g1:Gr (fun _=>False) F H F H1:=Gr.new xF x1
   refine ⟨p1,_,rfl,.inr (Evl.st_of s1),rfl,flat_strs ["if","while"],_,rfl,itT (in_strs (l:=["if","while"]) (by rcases hk with rfl | rfl<;>decide)) ?_⟩
   refine ⟨_,rfl,?_⟩
   unfold tNoPart
   refine ⟨_,rfl,slA_67 (xs:=[.str k,vx]) g1.fh vS (by simp) fun F2 H2 ph g2 sh=>?_⟩
   have g12:=g1.trans g2
   have hpa2:=g12.kp _ _ hpa id
   refine ⟨_,rfl,pa,_,rfl,.inl ⟨Evl.sq_of hpa2,fun p3 n3=>?_⟩⟩
   generalize e3:upd H2 p3 _=H3
   obtain ⟨x3,s3,o3⟩:=new_of e3 n3
   clear e3
   have e3:=exu (o:=.tup ws) (Evl.Ex.refl F2) (ex_none g12.fh n3)
   have g3:=g12.trans (Gr.frz g12.fh n3 s3 o3)
   refine catA_67 g3.fh (Evl.ex_t e3 sh) (Evl.st_of upd_same) (by simp;omega) fun F4 H4 p4 g4 s4=>?_
   refine q F4 H4 _ (g3.trans g4) ?_
   rw [rr]
   have eE:=(g12.ff.trans e3).trans g4.ff
   exact .tup s4 (.cons (.str _) (.cons (dp_ex eE dx) (dpA_ex eE dW)))
  | two k hk e rr =>
   rw [e] at dv
   obtain ⟨va,xs,rfl,vS,vA⟩:=dp_tup dv
   cases vA with
   | @cons v0 xp _ _ g0 dp =>
   obtain rfl:=dp_str g0
   have vS0:=Evl.ex_t xF vS
   refine ⟨_,rfl,va,_,_,_,rfl,rfl,vS0,at0,rfl,_,rfl,itF (decide_eq_false fun z=>hk.1 (V.str.inj z)) ?_⟩
   refine ⟨_,rfl,va,_,_,_,rfl,rfl,vS0,at0,sz (by simp),?_⟩
   intro p1 n1
   generalize e1:upd _ p1 _=H1
   obtain ⟨x1,s1,o1⟩:=new_of e1 n1
   clear e1
   have g1:Gr (fun _=>False) F H F H1:=Gr.new xF x1
   refine ⟨p1,_,rfl,.inr (Evl.st_of s1),rfl,flat_strs ["if","while"],_,rfl,itF (by rw [show ([V.str "if",V.str "while"]:List V)=(["if","while"]:List Str).map V.str from rfl,inV_strs];simp [hk]) ?_⟩
   refine ⟨_,rfl,?_⟩
   unfold tNoPart
   refine ⟨_,rfl,slA_67 (xs:=[.str k]) g1.fh vS (by simp) fun F2 H2 ph g2 sh=>?_⟩
   have g12:=g1.trans g2
   have hpa2:=g12.kp _ _ hpa id
   refine ⟨_,rfl,pa,_,rfl,.inl ⟨Evl.sq_of hpa2,fun p3 n3=>?_⟩⟩
   generalize e3:upd H2 p3 _=H3
   obtain ⟨x3,s3,o3⟩:=new_of e3 n3
   clear e3
   have e3:=exu (o:=.tup ws) (Evl.Ex.refl F2) (ex_none g12.fh n3)
   have g3:=g12.trans (Gr.frz g12.fh n3 s3 o3)
   refine catA_67 g3.fh (Evl.ex_t e3 sh) (Evl.st_of upd_same) (by simp;omega) fun F4 H4 p4 g4 s4=>?_
   refine q F4 H4 _ (g3.trans g4) ?_
   rw [rr]
   have eE:=(g12.ff.trans e3).trans g4.ff
   exact .tup s4 (.cons (.str _) (dpA_ex eE dW))
end
end
section
def sp_prts (K:PySem.W.Frag):Sp:=fun vs H Q _=>∃ (F:Hp) (A:CAd) (rows:List Row) (n:Nat) (r:Row),vs=[.ref A.p,.int (n:Int)]∧CodeH K F F A rows∧Ex F H∧rows[n]?=some r∧r.ch.length≤400∧∀ (H':Hp) (a:Addr),Ex H H'→H a=none→H' a=some (.lst (intsV r.ch))→Q (.ref a) H'
section
variable {P:Program} {w:World} {h:Heap} {K:PySem.W.Frag} {mg:Str→Option Value} {base:Heap}
abbrev N_Code_parts:List Str:=["self","number"]
theorem sc_Code_parts:FnScope N_Code_parts ["self","number"] (defScope sd_Code_parts):=⟨rfl,rfl,rfl,by decide +kernel,rfl,by decide +kernel,by decide +kernel⟩
theorem okF_Code_parts (T:Tx w h K mg):∃ fd,FnOk P w K mg base (CX P w) 4 (He.fAd K ("Code",some "parts")) fd ["self","number"] (sp_prts K)∧Binds K fd ["self","number"] []∧PySem.W.keepIn K (.ref (He.fAd K ("Code",some "parts")))=true∧FunD K "parts" "Code.parts" (defArgs sd_Code_parts) (defBody sd_Code_parts) (defScope sd_Code_parts) [] [] (He.fAd K ("Code",some "parts")) fd:=by
 obtain ⟨fd,F⟩:=F_Code_parts T
 refine ⟨fd,?_,F.bindsN (fun _ _ _ _ _ _ us hl=>match us,hl with | [_,_],_=>rfl),F.kp,F⟩
 obtain ⟨fd_Code_check_number,G_Code_check_number,bi_Code_check_number,kp_Code_check_number⟩:=ok_Code_check_number (P:=P) (base:=base) T
 refine F.ok sc_Code_parts (fun vs H Q E h=>?_) (fun cdv A outer s H vs Q E hr h=>?_)
 ·obtain ⟨F,A,rows,n,r,rfl,C,xF,hw,hc,q⟩:=h
  rfl
 ·obtain ⟨F,A,rows,n,r,rfl,C,xF,hw,hc,q⟩:=h
  refine ⟨_,PSs.nox (pss_cons (ps_expr (pe_meth (pv 0) (c_Code T) (me_Code_check_number T) G_Code_check_number (hr.mono (by decide)) bi_Code_check_number .nil passF (pa_cons (pv 1) pa_nil))) (pss_one (ps_ret (pe_callTy call_list_of rfl (fr_list T) b_list (pa_cons (pe_ix ix_list (pe_fld (pv 0) rfl) (pv 1) (fun _ _=>rfl)) pa_nil))))),?_⟩
  obtain ⟨vs,C1,_⟩:=C.ex (Evl.Ex.refl _) xF
  refine ⟨_,rfl,A.p,_,_,rfl,C1.ob,fm_Code_check_number _ _ _ _ _,_,rfl,F,A,rows,n,rfl,C,xF,(List.getElem?_eq_some_iff.mp hw).1,?_⟩
  have lt:=(List.getElem?_eq_some_iff.mp hw).1
  have lc:n<A.cs.length:=by rw [C1.cl,List.length_map];exact lt
  have hcc:=C1.cc n _ _ (List.getElem?_eq_getElem lc) (by rw [List.getElem?_map,hw]<;>rfl)
  refine ⟨_,rfl,A.p,_,_,_,_,rfl,C1.ob,c_Code T,na_Code_children T,fl_Code_children _ _ _ _ _,_,rfl,A.a5,_,_,.ref A.cs[n],rfl,rfl,Evl.sq_of C1.h5,atI_nat (by rw [List.getElem?_map,List.getElem?_eq_getElem lc]<;>rfl),?_⟩
  refine ⟨A.cs[n],_,rfl,.inl (Evl.sq_of hcc),?_⟩
  intro p1 n1
  generalize e1:upd _ p1 _=H1
  obtain ⟨x1,s1,o1⟩:=new_of e1 n1
  clear e1
  exact q H1 p1 x1 n1 s1
theorem ok_Code_parts (T:Tx w h K mg):Ok P w K mg base 4 ("Code",some "parts") ["self","number"] (sp_prts K):=by
 obtain ⟨fd,a,b,c,_⟩:=okF_Code_parts (P:=P) (base:=base) T
 exact ⟨fd,a,b,c⟩
end
end
section
section
variable {P:Program} {w:World} {h:Heap} {K:PySem.W.Frag} {mg:Str→Option Value} {base:Heap}
abbrev N_Code_entry:List Str:=["self","number"]
theorem sc_Code_entry:FnScope N_Code_entry ["self","number"] (defScope sd_Code_entry):=⟨rfl,rfl,rfl,by decide +kernel,rfl,by decide +kernel,by decide +kernel⟩
theorem okF_Code_entry (T:Tx w h K mg):∃ fd,FnOk P w K mg base (CX P w) 4 (He.fAd K ("Code",some "entry")) fd ["self","number"] (sp_entry K)∧Binds K fd ["self","number"] []∧PySem.W.keepIn K (.ref (He.fAd K ("Code",some "entry")))=true∧FunD K "entry" "Code.entry" (defArgs sd_Code_entry) (defBody sd_Code_entry) (defScope sd_Code_entry) [] [] (He.fAd K ("Code",some "entry")) fd:=by
 obtain ⟨fd,F⟩:=F_Code_entry T
 refine ⟨fd,?_,F.bindsN (fun _ _ _ _ _ _ us hl=>match us,hl with | [_,_],_=>rfl),F.kp,F⟩
 obtain ⟨fd_Code_check_number,G_Code_check_number,bi_Code_check_number,kp_Code_check_number⟩:=ok_Code_check_number (P:=P) (base:=base) T
 obtain ⟨fd_Code_entry_of,G_Code_entry_of,bi_Code_entry_of,kp_Code_entry_of⟩:=ok_Code_entry_of (P:=P) (base:=base) T
 refine F.ok sc_Code_entry (fun vs H Q E h=>?_) (fun cdv A outer s H vs Q E hr h=>?_)
 ·obtain ⟨F,A,rows,lp,n,k,e,rfl,C,W,xF,hn,hE,q⟩:=h
  rfl
 ·obtain ⟨F,A,rows,lp,n,k,e,rfl,C,W,xF,hn,hE,q⟩:=h
  refine ⟨_,PSs.nox (pss_cons (ps_expr (pe_meth (pv 0) (c_Code T) (me_Code_check_number T) G_Code_check_number (hr.mono (by decide)) bi_Code_check_number .nil passF (pa_cons (pv 1) pa_nil))) (pss_one (ps_ret (pe_meth (pv 0) (c_Code T) (me_Code_entry_of T) G_Code_entry_of (hr.mono (by decide)) bi_Code_entry_of .nil passF (pa_cons (pv 1) pa_nil))))),?_⟩
  obtain ⟨vs,C1,_⟩:=C.ex (Evl.Ex.refl _) xF
  refine ⟨_,rfl,A.p,_,_,rfl,C1.ob,fm_Code_check_number _ _ _ _ _,_,rfl,F,A,rows,n,rfl,C,xF,hn,?_⟩
  exact ⟨_,rfl,A.p,_,_,rfl,C1.ob,fm_Code_entry_of _ _ _ _ _,_,rfl,F,A,rows,lp,n,k,e,rfl,C,W,xF,hn,hE,q⟩
theorem ok_Code_entry (T:Tx w h K mg):Ok P w K mg base 4 ("Code",some "entry") ["self","number"] (sp_entry K):=by
 obtain ⟨fd,a,b,c,_⟩:=okF_Code_entry (P:=P) (base:=base) T
 exact ⟨fd,a,b,c⟩
end
end
end Fc
set_option maxRecDepth 100000
set_option maxHeartbeats 4000000
namespace FcW
open PySem PySem.Spec PyProof.Rows L2
section
variable {X:Cx}
def rNeNilL (K:PySem.W.Frag):R2:=fun x y H Q=>∃ (a b:Addr) (xs:List V),x=.ref a∧y=.ref b∧SqL K H a xs∧SqL K H b []∧Q (.bl (!xs.isEmpty)) H
theorem op_neNilL {k:Nat} (hr:Room k X.A):OpR X (compareOp .NotEq) (rNeNilL X.K):=by
 intro pins s σ H x y v u Q I rx ry h
 obtain ⟨a,b,xs,rfl,rfl,h1,h2,q⟩:=h
 cases rx
 cases ry
 obtain ⟨its,r1,l1,_⟩:=I.list h1
 obtain ⟨its2,r2,l2,_⟩:=I.list h2
 cases r2
 have l1:=l1.isList
 have l2:=l2.isList
 cases r1 with
 | nil =>
  refine (SeqAt.RcNeAt.lists (e:=fun _=>true) l1 l2 rfl (by have:=hr.un;omega) (fun j h _=>absurd h (by simp))) _ _ _ _ ?_
  exact ⟨.bl _,H,I,rfl,q⟩
 | cons rv rt =>
  refine (SeqAt.RcNeAt.lists_lengths l1 l2 (by simp) (by have:=hr.un;omega)) _ _ _ _ ?_
  exact ⟨.bl _,H,I,rfl,q⟩
end
end FcW
set_option maxRecDepth 100000
set_option maxHeartbeats 4000000
namespace Fc
open PySem PySem.Spec PyProof.Rows L2 FcR
open Evl (Ex)
section
open FcM (Way Node Tab)
theorem ent_ex67 {t:Tab} {lp:Nat→Nat} (W:t.WF lp):∀ (m n:Nat),t.len - n≤m→n<t.len→∃ k e,FcM.Ent t k n e
 | 0,n,h1,h2=>absurd h2 (by omega)
 | m + 1,n,h1,h2=>by
  have go:∀ c∈(t.nd n).ch,∃ k e,FcM.Ent t k c e:=fun c hc=>ent_ex67 W m c (by have:=(W.dn n h2 c hc).1;omega) (W.dn n h2 c hc).2.1
  cases hd:t.nd n with
  | seq l =>
   cases l with
   | nil=>exact absurd rfl (W.sq n _ h2 hd)
   | cons c l =>
    obtain ⟨k,e,r⟩:=go c (by rw [hd];exact List.mem_cons_self)
    exact ⟨_,e,.seq hd r⟩
  | tr a b =>
   obtain ⟨k,e,r⟩:=go a (by rw [hd];exact List.mem_cons_self)
   exact ⟨_,e,.tr hd r⟩
  | fin a b =>
   obtain ⟨k,e,r⟩:=go a (by rw [hd];exact List.mem_cons_self)
   exact ⟨_,e,.fin hd r⟩
  | _=>exact ⟨0,n,.here (fun l=>by rw [hd];exact fun z=>by cases z) (fun a b=>by rw [hd];exact fun z=>by cases z) (fun a b=>by rw [hd];exact fun z=>by cases z)⟩
theorem ent_all {rows:List Row} {lp:Nat→Nat} (X:AllK rows lp) {n:Nat} (hn:n<rows.length):∃ k e,FcM.Ent (tabOf rows) k n e∧(e∈rcN rows ↔ n ∉ ddN rows):=by
 obtain ⟨k,e,he⟩:=ent_ex67 X.w.wf _ n (Nat.le_refl _) hn
 obtain ⟨h1,h2,h3⟩:=ent_bg X.w X.g he hn
 refine ⟨k,e,he,?_⟩
 rw [mem_dd]
 unfold rcN plN
 rw [List.mem_filter,List.mem_filter,List.mem_range,← plF_iff X.w h1,h2,h3]
 cases e2:bgN (tabOf rows) n with
 | none=>simp [hn]
 | some x=>simp [h1]
def sp_cut (K:PySem.W.Frag) (n:Nat):Sp:=fun vs H Q _=>∃ (F:Hp) (A:CAd) (rows:List Row) (lp:Nat→Nat) (ga:Addr) (m:Nat) (r:Row),vs=[.ref A.p,.int (m:Int),.ref ga]∧CK K F A rows lp∧AllK rows lp∧Ex F H∧F ga=some (.lst (intsV (rcN rows)))∧rows[m]?=some r∧(bgN (tabOf rows) m).isSome=true∧r.d.depth≤n ∧
 ∀ (F' H':Hp) (v':V),Gr (fun _=>False) F H F' H'→Dp K F' v' (cutN rows (ddN rows) m)→Q v' H'
section
variable {P:Program} {w:World} {h:Heap} {K:PySem.W.Frag} {mg:Str→Option Value} {base:Heap}
theorem cut_pre (n:Nat) (IH:∀ m,m<n→Ok P w K mg base (m + 6) ("_law_cut",none) ["_law_prog","_law_number","_law_alive"] (sp_cut K m)) (T:Tx w h K mg) :
  Ok P w K mg base (n + 5) ("_law_cut",none) ["_law_prog","_law_number","_law_alive"] (fun vs H Q E=>∃ m,m<n∧sp_cut K m vs H Q E):=by
 cases n with
 | zero =>
  obtain ⟨fd,F⟩:=F_law_cut T
  refine ⟨fd,⟨fun vs H Q E h=>?_,fun A outer s H args us vs Q E _ _ _ _ h=>?_⟩,F.bindsN (fun _ _ _ _ _ _ us hl=>match us,hl with | [_,_,_],_=>rfl),F.kp⟩
  ·obtain ⟨m,h,_⟩:=h
   exact absurd h (Nat.not_lt_zero _)
  ·obtain ⟨m,h,_⟩:=h
   exact absurd h (Nat.not_lt_zero _)
 | succ n =>
  obtain ⟨fd,G,b,kp⟩:=IH n (Nat.lt_succ_self _)
  refine ⟨fd,G.imp fun vs H Q E h=>?_,b,kp⟩
  obtain ⟨m,hm,F,A,rows,lp,ga,j,r,e1,e2,e3,e4,e5,e6,e7,e8,q⟩:=h
  exact ⟨F,A,rows,lp,ga,j,r,e1,e2,e3,e4,e5,e6,e7,by omega,q⟩
abbrev N_law_cut:List Str:=["_law_prog","_law_number","_law_alive","_law_kind","_law_parts","_law_found","_law_part"]
theorem sc_law_cut:FnScope N_law_cut ["_law_prog","_law_number","_law_alive"] (defScope sd_law_cut):=⟨rfl,rfl,rfl,by decide +kernel,rfl,by decide +kernel,by decide +kernel⟩
theorem ok_law_cut (n:Nat) (IH:∀ m,m<n→Ok P w K mg base (m + 6) ("_law_cut",none) ["_law_prog","_law_number","_law_alive"] (sp_cut K m)) (T:Tx w h K mg):Ok P w K mg base (n+6) ("_law_cut",none) ["_law_prog","_law_number","_law_alive"] (sp_cut K n):=by
 obtain ⟨fd,F⟩:=F_law_cut T
 refine ⟨fd,?_,F.bindsN (fun _ _ _ _ _ _ us hl=>match us,hl with | [_,_,_],_=>rfl),F.kp⟩
 obtain ⟨fd_law_rebuilt,G_law_rebuilt,bi_law_rebuilt,kp_law_rebuilt⟩:=ok_law_rebuilt (P:=P) (base:=base) T
 obtain ⟨fd_Code_entry,G_Code_entry,bi_Code_entry,kp_Code_entry⟩:=ok_Code_entry (P:=P) (base:=base) T
 obtain ⟨fd_Code_kind,G_Code_kind,bi_Code_kind,kp_Code_kind⟩:=ok_Code_kind (P:=P) (base:=base) T
 obtain ⟨fd_Code_parts,G_Code_parts,bi_Code_parts,kp_Code_parts⟩:=ok_Code_parts (P:=P) (base:=base) T
 obtain ⟨fd_law_cut,G_law_cut,bi_law_cut,kp_law_cut⟩:Ok P w K mg base (n + 5) ("_law_cut",none) ["_law_prog","_law_number","_law_alive"] (fun vs H Q E=>∃ m,m<n∧sp_cut K m vs H Q E):=cut_pre n IH T
 refine F.ok sc_law_cut (fun vs H Q E h=>?_) (fun cdv A outer s H vs Q E hr h=>?_)
 ·obtain ⟨F,A,rows,lp,ga,m,r,rfl,X,Y,xF,hga,hr_,al,hdp,q⟩:=h
  rfl
 ·obtain ⟨F,A,rows,lp,ga,m,r,rfl,X,Y,xF,hga,hr_,al,hdp,q⟩:=h
  refine ⟨_,PSs.nox (pss_cons (ps_par rfl sc_law_cut.nd (i:=3) (j:=4) rfl rfl (by decide) rfl rfl (pa_cons (pe_meth (pv 0) (c_Code T) (me_Code_kind T) G_Code_kind (hr.mono (by omega)) bi_Code_kind .nil passF (pa_cons (pv 1) pa_nil)) (pa_cons (pe_meth (pv 0) (c_Code T) (me_Code_parts T) G_Code_parts (hr.mono (by omega)) bi_Code_parts .nil passF (pa_cons (pv 1) pa_nil)) pa_nil)) (by rfl)) (Evl.pss_cut (ps_if (PW.pt (pw_and (pt_cmpR op_eq (pv 3) pe_str (nomark _)) (pw_and1 (pt_cmpR op_notIn_seq (pe_meth (pv 0) (c_Code T) (me_Code_entry T) G_Code_entry (hr.mono (by omega)) bi_Code_entry .nil passF (pa_cons (pe_ix ix_list (pv 4) pe_int (fun _ _=>rfl)) pa_nil)) (pv 2) (by rfl))))) (pss_one (ps_ret (pe_call G_law_cut (hr.mono (by omega)) rfl (g_law_cut T) kp_law_cut bi_law_cut .nil passF (pa_cons (pv 0) (pa_cons (pe_ix ix_list (pv 4) pe_int (fun _ _=>rfl)) (pa_cons (pv 2) pa_nil)))))) pss_nil) (Evl.pss_cut (ps_if (pt_cmpR op_eq (pv 3) pe_str (nomark _)) (pss_one (ps_setLc (i:=4) (own:=[("_law_part",6)]) rfl sc_law_cut.nd rfl rfl (sw_true rfl rfl rfl (by decide +kernel)) (pi_list (pv 4)) (blkOk_by (N:=N_law_cut) (sc:=defScope sd_law_cut) (by decide +kernel)) (fun _ _ _ _ _=>(pg_name (i:=6) sc_law_cut.nd rfl (Or.inl rfl))) (fun _ _ _ _ _=>(pts_one (pt_cmpR (show OpR _ _ (rIn K false) from op_in_seq) (pe_meth (pv 0) (c_Code T) (me_Code_entry T) G_Code_entry (hr.mono (by omega)) bi_Code_entry .nil passF (pa_cons (pv 6) pa_nil)) (pv 2) (by rfl)))) (fun _ _ _ _ _=>(pv 6)))) pss_nil) (pss_cons (ps_setLc (i:=5) (own:=[("_law_part",6)]) rfl sc_law_cut.nd rfl rfl (sw_true rfl rfl rfl (by decide +kernel)) (pi_list (pv 4)) (blkOk_by (N:=N_law_cut) (sc:=defScope sd_law_cut) (by decide +kernel)) (fun _ _ _ _ _=>(pg_name (i:=6) sc_law_cut.nd rfl (Or.inl rfl))) (fun _ _ _ _ _=>pts_nil) (fun _ _ _ _ _=>(pe_call G_law_cut (hr.mono (by omega)) rfl (g_law_cut T) kp_law_cut bi_law_cut .nil passF (pa_cons (pv 0) (pa_cons (pv 6) (pa_cons (pv 2) pa_nil)))))) (pss_one (ps_ret (pe_ifExp (pt_cmpR (FcW.op_neNilL hr) (pv 5) (pe_lst pa_nil) (nomark _)) (pe_call G_law_rebuilt (hr.mono (by omega)) rfl (g_law_rebuilt T) kp_law_rebuilt bi_law_rebuilt .nil passF (pa_cons (FcL.pe_ixS (heldOf (k:=4) (ok_Code___getitem__ (P:=P) (base:=base) T)) (me_Code___getitem__ T) (FcL.fnIn_of (F_Code___getitem__ T).choose_spec) (hr.mono (by omega)) LamX.takes0 (pv 0) (pv 1)) (pa_cons (pv 5) pa_nil))) (FcL.pe_ixS (heldOf (k:=4) (ok_Code___getitem__ (P:=P) (base:=base) T)) (me_Code___getitem__ T) (FcL.fnIn_of (F_Code___getitem__ T).choose_spec) (hr.mono (by omega)) LamX.takes0 (pv 0) (pv 1))))))))),?_⟩
  have hm:=(List.getElem?_eq_some_iff.mp hr_).1
  have U:=up_of Y
  obtain ⟨sv,hlc,hch⟩:=X.w.sv m r hr_
  have hcl:r.ch.length≤400:=by
   have nd:r.ch.Nodup:=by
    have:=X.w.wf.nd m hm
    rw [tab_nd hr_,← hch] at this
    exact this
   exact Nat.le_trans (nodup_len67 nd fun c hc=>(kid_lt Y hr_ hc).2) X.l
  obtain ⟨vs5,C5,_⟩:=X.c.ex (Evl.Ex.refl _) xF
  refine ⟨_,rfl,A.p,_,_,rfl,C5.ob,fm_Code_kind _ _ _ _ _,_,rfl,F,A,rows,m,r,rfl,X.c,xF,hr_,?_⟩
  refine ⟨_,rfl,A.p,_,_,rfl,C5.ob,fm_Code_parts _ _ _ _ _,_,rfl,F,A,rows,m,r,rfl,X.c,xF,hr_,hcl,fun H1 p1 x1 n1 s1=>?_⟩
  have xF1:=xF.trans x1
  have g1:Gr (fun _=>False) F H F H1:=Gr.new xF x1
  refine ⟨_,_,rfl,?_⟩
  refine ⟨fun σ' H'=>Ex H1 H'∧σ'=((L2.start N_law_cut [V.ref A.p,V.int (m:Int),V.ref ga]).set 3 (some (V.str (kindD r.d)))).set 4 (some (V.ref p1))∧¬ Cut rows m,?_,?_⟩
  ·refine ⟨_,rfl,rfl,_,rfl,ite_of (fun z=>?_) (fun z=>?_)⟩
   ·have hk:kindD r.d="try":=V.str.inj (of_decide_eq_true z)
    obtain ⟨a,b,hc⟩:=U.two m r hr_ hk
    rw [hc] at s1
    have hb:=(kid_lt Y hr_ (c:=b) (by rw [hc];simp)).2
    obtain ⟨k,e,hE,hiff⟩:=ent_all Y hb
    obtain ⟨vs6,C6,_⟩:=X.c.ex (Evl.Ex.refl _) xF1
    refine ⟨_,rfl,A.p,_,_,rfl,C6.ob,fm_Code_entry _ _ _ _ _,_,rfl,p1,_,_,.int (b:Int),rfl,rfl,Evl.sq_of s1,at1,F,A,rows,lp,b,k,e,rfl,X.c,X.w,xF1,hb,hE,fun H2 x2=>?_⟩
    refine ⟨_,rfl,ga,_,rfl,.inl (Evl.sq_of (x2 _ _ (xF1 _ _ hga))),rfl,flat_i67 _,_,rfl,?_⟩
    by_cases hd:b∈ddN rows
    ·refine itT (by rw [inV_i67,decide_eq_false (fun y=>(hiff.mp y) hd)]<;>rfl) ?_
     obtain ⟨ra,hra,hlt⟩:=U.dp m r hr_ a (by rw [hc];simp)
     have g2:Gr (fun _=>False) F H F H2:=g1.trans (Gr.new g1.fh x2)
     exact ⟨_,rfl,_,rfl,p1,_,_,.int (a:Int),rfl,rfl,Evl.sq_of (x2 _ _ s1),at0,_,rfl,ra.d.depth,by omega,F,A,rows,lp,ga,a,ra,rfl,X,Y,g2.fh,hga,hra,cut_body Y hr_ hk hc al,Nat.le_refl _,fun F' H' v' g dv=>q F' H' v' (g2.trans g) (by rw [cut_try U hr_ hk hc hd];exact dv)⟩
    ·refine itF (by rw [inV_i67,decide_eq_true (hiff.mpr hd)]<;>rfl) ?_
     refine ⟨x2,rfl,?_⟩
     rintro ⟨r2,a2,b2,h1,h2,h3,h4⟩
     rw [hr_] at h1
     cases h1
     rw [hc] at h3
     cases h3
     exact hd h4
   ·refine itF rfl ?_
    refine ⟨Evl.Ex.refl _,rfl,?_⟩
    rintro ⟨r2,a2,b2,h1,h2,h3,h4⟩
    rw [hr_] at h1
    cases h1
    exact of_decide_eq_false z (by rw [h2])
  rintro σ' H2 ⟨x2,rfl,nc⟩
  have ealc:alc rows m=r.ch.filter fun c=>decide (c ∉ ddN rows):=by unfold alc;rw [hr_]
  have s2:=x2 _ _ s1
  have xF2:=xF1.trans x2
  have g2:Gr (fun _=>False) F H F H2:=g1.trans (Gr.new g1.fh x2)
  refine ⟨fun σ' H'=>Ex H2 H'∧∃ p':Addr,σ'=((L2.start N_law_cut [V.ref A.p,V.int (m:Int),V.ref ga]).set 3 (some (V.str (kindD r.d)))).set 4 (some (V.ref p'))∧H' p'=some (.lst (intsV (alc rows m))),?_,?_⟩
  ·refine ⟨_,rfl,rfl,_,rfl,ite_of (fun z=>?_) (fun z=>?_)⟩
   ·refine ⟨_,rfl,p1,rfl,⟨_,Evl.sq_of s2⟩,fun D2 nD2=>?_⟩
    have xD:Ex H2 (upd H2 D2 (.lst [])):=exu (Evl.Ex.refl _) nD2
    refine lc_it (walk_list (xs:=intsV r.ch)) (fun j H'=>Ex H2 H'∧H' D2=some (.lst (intsV ((r.ch.take j).filter fun c=>decide (c ∉ ddN rows))))) ?_ ?_ ?_ ?_
    ·exact ⟨xD,upd_same⟩
    ·exact fun j H' _ ⟨e,_⟩=>Evl.sq_of (e _ _ s2)
    ·rintro j z Ja Jb hj ⟨xe,l2⟩ ⟨rfl,hz⟩
     have hj:j<r.ch.length:=by rw [← intsV_len67 r.ch];exact hj
     obtain ⟨k,hk⟩:∃ k,r.ch[j]?=some k:=⟨_,List.getElem?_eq_getElem hj⟩
     have hz2:(intsV r.ch)[j]?=some (.int (k:Int)):=by unfold intsV;rw [List.getElem?_map,hk]<;>rfl
     rw [hz2] at hz
     cases hz
     have hkl:=(kid_lt Y hr_ (List.mem_of_getElem? hk)).2
     obtain ⟨k',e,hE,hiff⟩:=ent_all Y hkl
     obtain ⟨vs6,C6,_⟩:=X.c.ex (Evl.Ex.refl _) (xF2.trans xe)
     have tk:(r.ch.take (j + 1)).filter (fun c=>decide (c ∉ ddN rows))=(r.ch.take j).filter (fun c=>decide (c ∉ ddN rows))++if k∈ddN rows then [] else [k]:=by
      rw [take_one hk,List.filter_append]
      congr 1
      by_cases y:k∈ddN rows
      ·rw [if_pos y,List.filter_cons_of_neg (by simpa using y)]<;>rfl
      ·rw [if_neg y,List.filter_cons_of_pos (by simpa using y)]<;>rfl
     refine ⟨rfl,_,rfl,A.p,_,_,rfl,C6.ob,fm_Code_entry _ _ _ _ _,_,rfl,F,A,rows,lp,k,k',e,rfl,X.c,X.w,xF2.trans xe,hkl,hE,fun H3 x3=>?_⟩
     refine ⟨_,rfl,ga,_,rfl,.inl (Evl.sq_of (x3 _ _ ((xF2.trans xe) _ _ hga))),rfl,flat_i67 _,_,rfl,?_⟩
     by_cases y:k∈ddN rows
     ·refine itF (by rw [inV_i67,decide_eq_false (fun u=>(hiff.mp u) y)]<;>rfl) ?_
      exact ⟨xe.trans x3,by rw [tk,if_pos y,List.append_nil];exact x3 _ _ l2⟩
     ·refine itT (by rw [inV_i67,decide_eq_true (hiff.mpr y)]<;>rfl) ?_
      have l3:=x3 _ _ l2
      refine ⟨_,rfl,_,l3,szl (by rw [intsV_len67];have:=List.length_filter_le (fun c=>decide (c ∉ ddN rows)) (r.ch.take j);rw [List.length_take] at this;omega),?_,?_⟩
      ·intro b o hb
       rw [upd_ne (fun u=>by rw [u,nD2] at hb;cases hb)]
       exact x3 _ _ (xe _ _ hb)
      ·rw [upd_same,tk,if_neg y]
       unfold intsV
       rw [List.map_append]<;>rfl
    ·rintro H3 ⟨xe,l3⟩
     rw [intsV_len67,List.take_length,← ealc] at l3
     exact ⟨xe,D2,rfl,l3⟩
   ·refine ⟨Evl.Ex.refl _,p1,rfl,?_⟩
    rw [all_alive Y hr_ al (fun u=>of_decide_eq_false z (by rw [u])) nc]
    exact s2
  rintro σ' H4 ⟨x4,p5,rfl,s5⟩
  have hal:(alc rows m).length≤400:=by
   rw [ealc]
   have:=List.length_filter_le (fun c=>decide (c ∉ ddN rows)) r.ch
   omega
  have ecut:cutN rows (ddN rows) m=mkD r.d ((alc rows m).map (cutN rows (ddN rows))):=by
   rw [ealc]
   refine cut_mk U hr_ fun z=>?_
   obtain ⟨a,b2,e3⟩:=U.two _ r hr_ z.1
   exact nc ⟨r,a,b2,hr_,z.1,e3,by have:=z.2;rw [e3] at this;exact this⟩
  have fit:=alc_fit Y hr_ al nc
  have kids:∀ c∈alc rows m,c∈r.ch:=fun c hc=>by rw [ealc] at hc;exact (List.mem_filter.mp hc).1
  have ane:=fun h=>alc_ne Y hr_ al h
  have xF4:=xF2.trans x4
  have g4:Gr (fun _=>False) F H F H4:=g2.trans (Gr.new g2.fh x4)
  have amem:=fun (c:Nat) (hc:c∈alc rows m)=>alc_mem Y hc
  generalize alc rows m=al0 at *
  refine ⟨_,rfl,p5,rfl,⟨_,Evl.sq_of s5⟩,fun D6 nD6=>?_⟩
  have xD:Ex H4 (upd H4 D6 (.lst [])):=exu (Evl.Ex.refl _) nD6
  have gD:Gr (fun _=>False) F H F (upd H4 D6 (.lst [])):=g4.trans (Gr.new g4.fh xD)
  have fD:F D6=none:=ex_none g4.fh nD6
  have nHD:H D6=none:=by
   cases e:H D6 with
   | none=>rfl
   | some o=>have:=g4.kp _ _ e id;rw [nD6] at this;cases this
  have p5D:p5≠D6:=fun z=>by rw [z,nD6] at s5;cases s5
  refine lc_it (walk_list (xs:=intsV al0)) (fun j H'=>∃ (F':Hp) (ws:List V),H' D6=some (.lst ws)∧Gr (fun b=>b=D6) F (upd H4 D6 (.lst [])) F' H'∧F' D6=none∧DpAll K F' ws ((al0.take j).map (cutN rows (ddN rows)))) ?_ ?_ ?_ ?_
  ·exact ⟨F,[],upd_same,Gr.refl gD.fh,fD,.nil⟩
  ·exact fun j H' _ ⟨_,_,l,g,_⟩=>Evl.sq_of (g.kp p5 _ (xD _ _ s5) p5D)
  ·rintro j z Ja Jb hj ⟨F',ws,l2,g,fD',hw⟩ ⟨rfl,hz⟩
   have hj:j<al0.length:=by rw [← intsV_len67 al0];exact hj
   obtain ⟨k,hk⟩:∃ k,al0[j]?=some k:=⟨_,List.getElem?_eq_getElem hj⟩
   have hz2:(intsV al0)[j]?=some (.int (k:Int)):=by unfold intsV;rw [List.getElem?_map,hk]<;>rfl
   rw [hz2] at hz
   cases hz
   have wl:=dpA_len hw
   rw [List.length_map,List.length_take] at wl
   have hkm:=List.mem_of_getElem? hk
   obtain ⟨rk,hrk,hlt⟩:=U.dp m r hr_ k (kids k hkm)
   refine ⟨rfl,_,rfl,_,rfl,_,rfl,rk.d.depth,by omega,F',A,rows,lp,ga,k,rk,rfl,ck_ex67 g.ff X,Y,g.fh,g.ff _ _ hga,hrk,(amem k hkm).2,Nat.le_refl _,fun F3 H3 v3 g3 dv3=>?_⟩
   have l3:H3 D6=some (.lst ws):=g3.kp _ _ l2 id
   have f3:F3 D6=none:=g3.nw _ (by rw [l2];exact fun z=>nomatch z) fD' id
   refine ⟨_,l3,szl (by omega),F3,ws++[v3],upd_same,(g.trans (g3.mono fun _ z=>z.elim)).trans (Gr.set g3.fh rfl f3 (fun b n=>upd_ne n)),f3,?_⟩
   rw [take_one hk,List.map_append]
   exact dpA_app (dpA_ex g3.ff hw) (.cons dv3 .nil)
  rintro H7 ⟨F7,ws,l7,g7,fD7,hw⟩
  have gE:=g7.ff
  have g7:=gD.hide g7 fun x hx=>.inl (hx ▸ nHD)
  rw [intsV_len67,List.take_length] at hw
  rw [ecut] at q
  have wl:=dpA_len hw
  rw [List.length_map] at wl
  refine ⟨_,rfl,sz (by simp),?_⟩
  intro p8 n8
  generalize e8:upd _ p8 _=H8
  obtain ⟨x8,s8,o8⟩:=new_of e8 n8
  clear e8
  have g8:=g7.trans (Gr.new g7.fh x8)
  refine ⟨D6,p8,ws,rfl,rfl,Evl.sq_of (x8 _ _ l7),Evl.sq_of s8,_,rfl,?_⟩
  obtain ⟨vs9,C9,_⟩:=X.c.ex (Evl.Ex.refl _) (gE.trans g8.fh)
  cases ws with
  | nil =>
   refine itF rfl ?_
   have e0:al0=[]:=List.length_eq_zero_iff.mp wl.symm
   refine ⟨_,rfl,_,rfl,A.p,_,_,rfl,C9.ob,sp_get K,rfl,F,A,rows,m,r,rfl,X.c,gE.trans g8.fh,hr_,fun v dv=>?_⟩
   refine q F7 H8 v g8 ?_
   have ez:mkD r.d (al0.map (cutN rows (ddN rows)))=r.d:=by
    rw [e0]
    refine mk_nil sv ?_
    rcases fit with ⟨z,_⟩ | ⟨_,z⟩
    ·exact absurd e0 (ane z)
    ·rw [e0] at z
     exact List.length_eq_zero_iff.mp z.symm
   rw [ez]
   exact dp_ex gE dv
  | cons w0 ws =>
   refine itT rfl ?_
   refine ⟨_,rfl,_,rfl,A.p,_,_,rfl,C9.ob,sp_get K,rfl,F,A,rows,m,r,rfl,X.c,gE.trans g8.fh,hr_,fun v dv=>?_⟩
   have ne:partsD r.d≠[]:=fun z=>by
    rw [z] at hlc
    have h0:=List.length_eq_zero_iff.mp hlc
    cases al0 with
    | nil=>simp at wl
    | cons c l =>
     have:=kids c List.mem_cons_self
     rw [h0] at this
     exact nomatch this
   exact ⟨_,rfl,F7,v,r.d,_,D6,w0::ws,_,rfl,dp_ex gE dv,sv,ne,g8.fh,x8 _ _ l7,hw,by omega,fun F9 H9 v9 g9 dv9=>q F9 H9 v9 (g8.trans g9) dv9⟩
theorem ok_cut (T:Tx w h K mg) (n:Nat):Ok P w K mg base (n + 6) ("_law_cut",none) ["_law_prog","_law_number","_law_alive"] (sp_cut K n):=by
 induction n using Nat.strongRecOn with
 | ind n ih=>exact ok_law_cut n ih T
end
end
section
open FcM (Way Node Tab)
def sp_wd (K:PySem.W.Frag):Sp:=fun vs H Q _=>∃ (F:Hp) (A:CAd) (rows:List Row) (lp:Nat→Nat) (r:Row) (N:Nat) (fin:List Row),vs=[.ref A.p]∧CK K F A rows lp∧Ex F H∧UpR rows∧rows[0]?=some r∧r.d.depth≤60∧GS (cutN rows (ddN rows) 0)∧Builds N [⟨cutN rows (ddN rows) 0,none,1,0,0⟩] [] fin ∧
 ∀ (F' H':Hp) (A':CAd),Gr (fun _=>False) F H F' H'→CodeH K F' F' A' fin→Q (.ref A'.p) H'
section
variable {P:Program} {w:World} {h:Heap} {K:PySem.W.Frag} {mg:Str→Option Value} {base:Heap}
abbrev N_without_dead:List Str:=["code"]
theorem sc_without_dead:FnScope N_without_dead ["code"] (defScope sd_without_dead):=⟨rfl,rfl,rfl,by decide +kernel,rfl,by decide +kernel,by decide +kernel⟩
theorem okF_without_dead (T:Tx w h K mg):∃ fd,FnOk P w K mg base (CX P w) 69 (He.fAd K ("without_dead",none)) fd ["code"] (sp_wd K)∧Binds K fd ["code"] []∧PySem.W.keepIn K (.ref (He.fAd K ("without_dead",none)))=true∧FunD K "without_dead" "without_dead" (defArgs sd_without_dead) (defBody sd_without_dead) (defScope sd_without_dead) [] [] (He.fAd K ("without_dead",none)) fd:=by
 obtain ⟨fd,F⟩:=F_without_dead T
 refine ⟨fd,?_,F.bindsN (fun _ _ _ _ _ _ us hl=>match us,hl with | [_],_=>rfl),F.kp,F⟩
 obtain ⟨fd_dead,G_dead,bi_dead,kp_dead⟩:=ok_dead (P:=P) (base:=base) T
 obtain ⟨fd_Code___init__,G_Code___init__,bi_Code___init__,kp_Code___init__⟩:=ok_Code___init__ (P:=P) (base:=base) T
 obtain ⟨fd_rebuilt,G_rebuilt,bi_rebuilt,kp_rebuilt⟩:=ok_reb (P:=P) (base:=base) T 60
 refine F.ok sc_without_dead (fun vs H Q E h=>?_) (fun cdv A outer s H vs Q E hr h=>?_)
 ·obtain ⟨F,A,rows,lp,r,N,fin,rfl,X,xF,U,hr_,hdp,gs,bd,q⟩:=h
  rfl
 ·obtain ⟨F,A,rows,lp,r,N,fin,rfl,X,xF,U,hr_,hdp,gs,bd,q⟩:=h
  refine ⟨_,PSs.nox (pss_one (ps_ret (pe_make (mk_Code T) G_Code___init__ (hr.mono (by decide)) rfl (g_Code T) bi_Code___init__ .nil passF (pa_cons (pe_call G_rebuilt (hr.mono (by decide)) rfl (g_rebuilt T) kp_rebuilt bi_rebuilt .nil passF (pa_cons (pv 0) (pa_cons (pe_call G_dead (hr.mono (by decide)) rfl (g_dead T) kp_dead bi_dead .nil passF (pa_cons (pv 0) pa_nil)) (pa_cons pe_int pa_nil)))) pa_nil)))),?_⟩
  refine ⟨_,rfl,_,rfl,F,A,rows,lp,rfl,X,xF,fun H1 da x1 nda sda=>?_⟩
  have g1:Gr (fun _=>False) F H F H1:=Gr.new xF x1
  have fda:=ex_none xF nda
  have g2:=g1.frzAt nda sda fda
  have e2:Ex F (upd F da (.lst (intsV (ddN rows)))):=exu (Evl.Ex.refl _) fda
  have k2:upd F da (.lst (intsV (ddN rows))) da=some (.lst (intsV (ddN rows))):=upd_same
  generalize upd F da (.lst (intsV (ddN rows)))=F2 at *
  refine ⟨F2,A,rows,lp,da,0,r,ddN rows,rfl,ck_ex67 e2 X,g2.fh,k2,U,hr_,hdp,fun F3 H3 v3 g3 dv3=>?_⟩
  have g3:=g2.trans g3
  refine fun q7 dx nq nd ne=>?_
  generalize e7:upd (upd _ dx _) q7 _=H7
  obtain ⟨x7,hq7⟩:=make_of e7 nq nd
  clear e7
  have g7:=g3.trans (Gr.new g3.fh x7)
  refine ⟨F3,q7,dx,v3,_,GS,N,fin,rfl,hq7,g7.fh,ex_none g3.fh nq,dv3,fun e he=>gs_parts he,gs,bd,fun A8 F8 H8 eA g8 C8=>⟨rfl,?_⟩⟩
  subst eA
  have nA:H A8.p=none:=by
   cases z:H A8.p with
   | none=>rfl
   | some o=>rw [g3.kp A8.p o z id] at nq;cases nq
  have g48:Gr (fun _=>False) F H F8 H8:=g7.hide g8 fun x hx=>.inl (by rw [hx];exact nA)
  exact q F8 H8 A8 g48 C8
end
end
section
open FcM (Way Node Tab Pd Rs Wt)
def sp_answers (K:PySem.W.Frag):Sp:=fun vs H Q _=>∃ (F:Hp) (p:Addr) (m:Nat),vs=[.ref p,.int (m:Int)]∧Ex F H∧F p=none∧Src H p∧m<1000∧∀ (F' H':Hp) (a:Addr) (bits:List Bool),Gr (fun b=>b=p) F H F' H'→F' p=none→Src H' p→F' a=some (.lst (bits.map bV))→bits.length≤m→Q (.ref a) H'
theorem bit_of {v:Int} (h0:0≤v) (h1:v<2):∃ b:Bool,V.int v=bV b:=by
 have:v=0∨v=1:=by omega
 rcases this with rfl | rfl
 ·exact ⟨false,rfl⟩
 ·exact ⟨true,rfl⟩
section
variable {P:Program} {w:World} {h:Heap} {K:PySem.W.Frag} {mg:Str→Option Value} {base:Heap}
abbrev N_law_answers:List Str:=["_law_source","_law_most","_law_k"]
theorem sc_law_answers:FnScope N_law_answers ["_law_source","_law_most"] (defScope sd_law_answers):=⟨rfl,rfl,rfl,by decide +kernel,rfl,by decide +kernel,by decide +kernel⟩
theorem ok_law_answers (T:Tx w h K mg):Ok P w K mg base 2 ("_law_answers",none) ["_law_source","_law_most"] (sp_answers K):=by
 obtain ⟨fd,F⟩:=F_law_answers T
 refine ⟨fd,?_,F.bindsN (fun _ _ _ _ _ _ us hl=>match us,hl with | [_,_],_=>rfl),F.kp⟩
 obtain ⟨fd_law_draw,G_law_draw,bi_law_draw,kp_law_draw⟩:=ok_law_draw (P:=P) (base:=base) T
 refine F.ok sc_law_answers (fun vs H Q E h=>?_) (fun cdv A outer s H vs Q E hr h=>?_)
 ·obtain ⟨F,p,m,rfl,xF,fp,hp,hm,q⟩:=h
  rfl
 ·obtain ⟨F,p,m,rfl,xF,fp,hp,hm,q⟩:=h
  refine ⟨_,PSs.nox (pss_one (ps_ret (pe_lc (own:=[("_law_k",2)]) rfl sc_law_answers.nd (pi_range1 rfl (fr_range T) (pa_cons (pe_call G_law_draw (hr.mono (by decide)) rfl (g_law_draw T) kp_law_draw bi_law_draw .nil passF (pa_cons (pv 0) (pa_cons (pe_op op_add (pv 1) pe_int) pa_nil))) pa_nil)) (blkOk_by (N:=N_law_answers) (sc:=defScope sd_law_answers) (by decide +kernel)) (fun _ _ _ _ _=>(pg_name (i:=2) sc_law_answers.nd rfl (Or.inl rfl))) (fun _ _ _ _ _=>pts_nil) (fun _ _ _ _ _=>(pe_call G_law_draw (hr.mono (by decide)) rfl (g_law_draw T) kp_law_draw bi_law_draw .nil passF (pa_cons (pv 0) (pa_cons pe_int pa_nil))))))),?_⟩
  obtain ⟨x,y,z,hp⟩:=hp
  refine ⟨_,rfl,_,rfl,_,_,rfl,rfl,p,x,y,z,_,rfl,hp,(by omega),(by omega),fun x1 y1 z1 v v0 v1=>?_⟩
  generalize e1:upd _ p _=H1
  obtain ⟨s1,o1⟩:=set_of e1
  clear e1
  have r0:Rg (fun b=>b=p) F H F hp0 H:=Rg.start (Gr.refl xF)
  have r1:=r0.setM rfl fp o1
  obtain ⟨n,rfl⟩:∃ n:Nat,v=(n:Int):=⟨v.toNat,by omega⟩
  refine ⟨_,rfl,(by omega),(by omega),fun D nD=>?_⟩
  have hDp:¬ (D=p):=fun e=>by rw [e,s1] at nD;cases nD
  refine lc_it (walk_range (lo:=0) (n:=n)) (fun i H'=>∃ bits:List Bool,bits.length=i∧Rg (fun b=>b=p) F H F (upd hp0 D (.lst (bits.map bV))) H'∧Src H' p) ?_ ?_ ?_ ?_
  ·exact ⟨[],rfl,r1.newR hDp nD upd_same (fun b hb=>upd_ne hb),x1,y1,z1,by rw [upd_ne (fun z=>hDp z.symm)];exact s1⟩
  ·exact fun _ _ _ _=>True.intro
  ·rintro i v2 Ja Jb hi ⟨bits,hl,r2,⟨a1,a2,a3,ha⟩⟩ ⟨rfl,rfl⟩
   refine ⟨rfl,_,rfl,p,a1,a2,a3,2,rfl,ha,by decide,by decide,fun x3 y3 z3 v3 v30 v31=>?_⟩
   generalize e3:upd _ p _=H3
   obtain ⟨s3,o3⟩:=set_of e3
   clear e3
   have r3:=r2.setM rfl fp o3
   obtain ⟨b,eb⟩:=bit_of v30 v31
   refine ⟨_,r3.rh _ _ upd_same,szl (by rw [List.length_map];omega),?_⟩
   rw [eb]
   generalize e4:upd _ D _=H4
   obtain ⟨s4,o4⟩:=set_of e4
   clear e4
   have r4:=r3.setR upd_same s4 o4
   refine ⟨bits++[b],by simp [hl],?_,x3,y3,z3,by rw [o4 p (fun z=>hDp z.symm)];exact s3⟩
   have eU:upd (upd hp0 D (.lst (bits.map bV))) D (.lst (bits.map bV++[bV b]))=upd hp0 D (.lst ((bits++[b]).map bV)):=by
    rw [List.map_append]
    funext c
    by_cases z:c=D
    ·rw [z,upd_same,upd_same]<;>rfl
    ·rw [upd_ne z,upd_ne z,upd_ne z]
   rw [eU] at r4
   exact r4
  ·rintro H2 ⟨bits,hl,r2,hs2⟩
   refine q (joinH F (upd hp0 D (.lst (bits.map bV)))) H2 D bits r2.done ?_ hs2 (joinH_r upd_same) (by omega)
   unfold joinH
   rw [upd_ne (fun z=>hDp z.symm)]
   exact fp
end
end
section
open FcM (Way Node Tab)
theorem dAll_le67 {n:Nat}:∀ {l:List PyData},(∀ x∈l,x.depth≤n)→PyData.depthAll l≤n
 | [],_=>Nat.zero_le _
 | y::l,h=>by
  show max _ _≤n
  have h1:=h y List.mem_cons_self
  have h2:=dAll_le67 (l:=l) fun x hx=>h x (List.mem_cons_of_mem _ hx)
  omega
theorem mk_depth {l:Int} {d:PyData} (sv:SV l d) {es:List PyData} (h:∀ x∈es,∃ y∈partsD d,x.depth≤y.depth):(mkD d es).depth≤d.depth:=by
 have hm:PyData.depthAll es≤PyData.depthAll (partsD d):=dAll_le67 fun x hx=>by
  obtain ⟨y,hy,hl⟩:=h x hx
  exact Nat.le_trans hl (depth_le67 hy)
 have nil:partsD d=[]→es=[]:=fun e=>by
  cases es with
  | nil=>rfl
  | cons a b =>
   obtain ⟨y,hy,_⟩:=h a List.mem_cons_self
   rw [e] at hy
   exact nomatch hy
 cases sv with
 | do_ x=>rw [nil rfl];exact Nat.le_refl _
 | call x=>rw [nil rfl];exact Nat.le_refl _
 | iff x a b =>
  have e1:mkD (.tuple [.str "if",.str x,a,b]) es=.tuple (.str "if"::.str x::es):=rfl
  have e2:partsD (.tuple [.str "if",.str x,a,b])=[a,b]:=rfl
  rw [e1]
  rw [e2] at hm
  simp only [PyData.depth,PyData.depthAll] at hm ⊢
  omega
 | whl x a =>
  have e1:mkD (.tuple [.str "while",.str x,a]) es=.tuple (.str "while"::.str x::es):=rfl
  have e2:partsD (.tuple [.str "while",.str x,a])=[a]:=rfl
  rw [e1]
  rw [e2] at hm
  simp only [PyData.depth,PyData.depthAll] at hm ⊢
  omega
 | seq p ps =>
  have e1:mkD (.tuple [.str "seq",.tuple (p::ps)]) es=.tuple [.str "seq",.tuple es]:=rfl
  have e3:PyData.depthAll (partsD (.tuple [.str "seq",.tuple (p::ps)]))≤PyData.depthAll (p::ps):=dAll_le67 fun x hx=>depth_le67 (List.mem_of_mem_take (show x∈(p::ps).take 401 from hx))
  rw [e1]
  simp only [PyData.depth,PyData.depthAll] at hm e3 ⊢
  omega
 | brk n h1 h2=>rw [nil rfl];exact Nat.le_refl _
 | cnt n h1 h2=>rw [nil rfl];exact Nat.le_refl _
 | ret=>rw [nil rfl];exact Nat.le_refl _
 | rai=>rw [nil rfl];exact Nat.le_refl _
 | tr a b =>
  have e1:mkD (.tuple [.str "try",a,b]) es=.tuple (.str "try"::es):=rfl
  have e2:partsD (.tuple [.str "try",a,b])=[a,b]:=rfl
  rw [e1]
  rw [e2] at hm
  simp only [PyData.depth,PyData.depthAll] at hm ⊢
  omega
 | fin a b =>
  have e1:mkD (.tuple [.str "final",a,b]) es=.tuple (.str "final"::es):=rfl
  have e2:partsD (.tuple [.str "final",a,b])=[a,b]:=rfl
  rw [e1]
  rw [e2] at hm
  simp only [PyData.depth,PyData.depthAll] at hm ⊢
  omega
theorem cut_depth {rows:List Row} {lp:Nat→Nat} (X:AllK rows lp):∀ (k n:Nat) (r:Row),rows.length - n≤k→rows[n]?=some r→(cutN rows (ddN rows) n).depth≤r.d.depth
 | 0,n,r,hk,hr=>by have:=(List.getElem?_eq_some_iff.mp hr).1;omega
 | k + 1,n,r,hk,hr=>by
  have U:=up_of X
  have sv:=(X.w.sv n r hr).1
  by_cases hc:Cut rows n
  ·obtain ⟨r2,a,b2,h1,h2,h3,h4⟩:=hc
   rw [hr] at h1
   cases h1
   have ha:=kid_lt X hr (c:=a) (by rw [h3];simp)
   obtain ⟨ra,hra,hlt⟩:=U.dp n r hr a (by rw [h3];simp)
   rw [cut_try U hr h2 h3 h4]
   have:=cut_depth X k a ra (by omega) hra
   omega
  ·rw [cut_mk U hr fun z=>by
    obtain ⟨a,b2,e3⟩:=U.two _ r hr z.1
    exact hc ⟨r,a,b2,hr,z.1,e3,by have:=z.2;rw [e3] at this;exact this⟩]
   refine mk_depth sv fun x hx=>?_
   obtain ⟨c,hcm,rfl⟩:=List.mem_map.mp hx
   have hcm:=(List.mem_filter.mp hcm).1
   obtain ⟨j,hj⟩:=List.getElem?_of_mem hcm
   obtain ⟨rc,g1,g2⟩:=X.w.pr n r hr j c hj
   have lt:=kid_lt X hr hcm
   exact ⟨rc.d,List.mem_of_getElem? g2,cut_depth X k c rc (by omega) g1⟩
end
section
mutual
def kln:PyData→Bool
 | .str _=>true
 | .int _=>true
 | .none=>true
 | .tuple l=>klnA l
 | .list l=>klnA l
 | _=>false
def klnA:List PyData→Bool
 | []=>true
 | a::l=>kln a && klnA l
end
mutual
theorem kln_eq:∀ (d e:PyData),kln d=true→kln e=true→PyData.eqv d e=true→d=e
 | .str x,.str y,_,_,h=>by
  have:(x == y)=true:=h
  rw [eq_of_beq this]
 | .int i,.int j,_,_,h=>by
  have:(i == j)=true:=h
  rw [eq_of_beq this]
 | .none,.none,_,_,_=>rfl
 | .tuple l,.tuple m,h1,h2,h=>by
  have:=klnA_eq l m h1 h2 h
  rw [this]
 | .list l,.list m,h1,h2,h=>by
  have:=klnA_eq l m h1 h2 h
  rw [this]
 | .str _,.int _,_,_,h=>by cases h
 | .str _,.tuple _,_,_,h=>by cases h
 | .str _,.list _,_,_,h=>by cases h
 | .str _,.none,_,_,h=>by cases h
 | .int _,.str _,_,_,h=>by cases h
 | .int _,.tuple _,_,_,h=>by cases h
 | .int _,.list _,_,_,h=>by cases h
 | .int _,.none,_,_,h=>by cases h
 | .none,.str _,_,_,h=>by cases h
 | .none,.int _,_,_,h=>by cases h
 | .none,.tuple _,_,_,h=>by cases h
 | .none,.list _,_,_,h=>by cases h
 | .tuple _,.str _,_,_,h=>by cases h
 | .tuple _,.int _,_,_,h=>by cases h
 | .tuple _,.none,_,_,h=>by cases h
 | .tuple _,.list _,_,_,h=>by cases h
 | .list _,.str _,_,_,h=>by cases h
 | .list _,.int _,_,_,h=>by cases h
 | .list _,.none,_,_,h=>by cases h
 | .list _,.tuple _,_,_,h=>by cases h
 | .bool _,_,h,_,_=>by cases h
 | .dict _,_,h,_,_=>by cases h
 | _,.bool _,_,h,_=>by cases h
 | _,.dict _,_,h,_=>by cases h
theorem klnA_eq:∀ (l m:List PyData),klnA l=true→klnA m=true→PyData.eqvAll l m=true→l=m
 | [],[],_,_,_=>rfl
 | a::l,b::m,h1,h2,h=>by
  have h1:=Bool.and_eq_true_iff.mp (show (kln a && klnA l)=true from h1)
  have h2:=Bool.and_eq_true_iff.mp (show (kln b && klnA m)=true from h2)
  have h:=Bool.and_eq_true_iff.mp (show (PyData.eqv a b && PyData.eqvAll l m)=true from h)
  rw [kln_eq a b h1.1 h2.1 h.1,klnA_eq l m h1.2 h2.2 h.2]
 | [],_::_,_,_,h=>by cases h
 | _::_,[],_,_,h=>by cases h
end
end
section
open FcM (Way Node Tab)
theorem klnA_of {l:List PyData} (h:∀ x∈l,kln x=true):klnA l=true:=by
 induction l with
 | nil=>rfl
 | cons a l ih =>
  show (kln a && klnA l)=true
  rw [h a List.mem_cons_self,ih fun x hx=>h x (List.mem_cons_of_mem _ hx)]
  rfl
theorem sv_kln {l:Int} {d:PyData} (sv:SV l d) (hp:(partsD d).length≤400) (h:∀ x∈partsD d,kln x=true):kln d=true:=by
 have two:∀ {k:Str} {r:List PyData},(∀ x∈r,kln x=true)→kln (.tuple (.str k::r))=true:=fun {k r} h=>klnA_of (l:=.str k::r) fun x hx=>by
  rcases List.mem_cons.mp hx with rfl | hx
  ·rfl
  ·exact h x hx
 cases sv with
 | do_ x=>exact two fun y hy=>by rw [List.mem_singleton.mp hy]<;>rfl
 | call x=>exact two fun y hy=>by rw [List.mem_singleton.mp hy]<;>rfl
 | iff x a b =>
  refine two fun y hy=>?_
  rcases List.mem_cons.mp hy with rfl | hy
  ·rfl
  ·exact h y hy
 | whl x a =>
  refine two fun y hy=>?_
  rcases List.mem_cons.mp hy with rfl | hy
  ·rfl
  ·exact h y hy
 | seq p qs =>
  have e:partsD (.tuple [.str "seq",.tuple (p::qs)])=(p::qs).take 401:=rfl
  rw [e] at h hp
  rw [List.length_take] at hp
  rw [List.take_of_length_le (by omega)] at h
  refine two fun y hy=>?_
  rw [List.mem_singleton.mp hy]
  exact klnA_of h
 | brk n h1 h2=>exact two fun y hy=>by rw [List.mem_singleton.mp hy]<;>rfl
 | cnt n h1 h2=>exact two fun y hy=>by rw [List.mem_singleton.mp hy]<;>rfl
 | ret=>exact two fun y hy=>nomatch hy
 | rai=>exact two fun y hy=>nomatch hy
 | tr a b=>exact two h
 | fin a b=>exact two h
theorem okS_pos67 {l d b w:Nat} {e:PyData} (h:OkS l d b w e):1≤w:=by
 cases h
 omega
theorem sum_ge67 {f:Nat→Nat}:∀ {n:Nat},(∀ i,i<n→1≤f i)→n≤((List.range n).map f).sum
 | 0,_=>Nat.zero_le _
 | n + 1,h=>by
  rw [List.range_succ,List.map_append,List.sum_append]
  have:=sum_ge67 (n:=n) fun i hi=>h i (by omega)
  have:=h n (by omega)
  simp
  omega
theorem okS_kln {l dp b w:Nat} {d:PyData} (h:OkS l dp b w d):w≤400→kln d=true:=by
 induction h with
 | @mk l dp b d wt st hd hb ps ih =>
  intro hw
  refine sv_kln (sv_of st) ?_ fun x hx=>?_
  ·have:=sum_ge67 (f:=wt) (n:=(partsD d).length) fun i hi=>okS_pos67 (ps i _ (List.getElem?_eq_getElem hi))
   omega
  ·obtain ⟨i,hi⟩:=List.getElem?_of_mem hx
   have:=sum_at67 (f:=wt) (List.getElem?_eq_some_iff.mp hi).1
   exact ih i x hi (by omega)
theorem bd_det67 {m:Nat} {st:List WIt} {rows fin:List Row} (b:Builds m st rows fin):∀ {m':Nat} {fin':List Row},Builds m' st rows fin'→m=m'∧fin=fin':=by
 induction b with
 | done=>intro m' fin' h;cases h;exact ⟨rfl,rfl⟩
 | step ok h ih =>
  intro m' fin' h'
  cases h' with
  | step ok' h' =>
   obtain ⟨e1,e2⟩:=ih h'
   exact ⟨by rw [e1],e2⟩
theorem dead_same {d:PyData} {N N' w w':Nat} {fin fin':List Row} {lp lp':Nat→Nat} {f:Nat→Nat} (D:TD d N fin lp) (X:AllK fin lp) (hl:fin.length≤400) (w4:w≤400) (w4':w'≤400) (ok:OkS 0 1 0 w d) (ok':OkS 0 1 0 w' (cutN fin (ddN fin) 0)) (D':TD (cutN fin (ddN fin) 0) N' fin' lp') (M:MorB fin' fin lp' f) (can:PyData.canLay0 d=true) :
  PyData.eqv (.list ((ddN fin).map fun n:Nat=>.int (n:Int))) (.list [])=PyData.eqv (cutN fin (ddN fin) 0) d:=by
 obtain ⟨r,hr,ed⟩:=D.r0
 cases e:ddN fin with
 | nil =>
  have:=cut_self X hl e _ 0 r (Nat.le_refl _) hr
  rw [e] at this
  rw [this,ed,PySem.SeqAt.eqv_refl _ can]
  rfl
 | cons a l =>
  have e1:PyData.eqv (.list ((a::l).map fun n:Nat=>.int (n:Int))) (.list [])=false:=by simp [PyData.eqv,PyData.eqvAll]
  rw [e1]
  cases e2:PyData.eqv (cutN fin (a::l) 0) d with
  | false=>rfl
  | true =>
   have e3:=kln_eq _ _ (by rw [← e];exact okS_kln ok' w4') (okS_kln ok w4) e2
   rw [← e] at e3
   have bd:=D'.bd
   rw [e3] at bd
   have e4:=(bd_det67 bd D.bd).2
   have:=dd_nil M
   rw [e4,e] at this
   cases this
end
section
open FcM (Way Node Tab Pd Rs)
def endR67:FcM.Wt→Str
 | .inl _=>"wait"
 | .inr w=>endS w
theorem run_facts67 {rows:List Row} {lp:Nat→Nat} {bits:List Bool} {w m:Nat} (W:TW rows lp) (hg:FcM.Hg (tabOf rows) m 0) (hm:m≤900) (hw:w≤400) (wg:FcM.Wg (tabOf rows) w 0) (hb:bits.length≤200):∃ (r:FcM.Wt) (u:Nat) (v:List Nat) (k e N:Nat) (cf:FcM.Cfg),FcM.goF (tabOf rows) bits m 0 [] 0 []=(r,u,v)∧v.length≤90000∧FcM.Ent (tabOf rows) k 0 e∧FcM.Re (tabOf rows) bits 1000 N ⟨.inl e,[],0,[]⟩ cf∧cf.vs=v∧cf.us=u∧endT cf=endR67 r∧(∀ w,cf.at_=.inr w→FcM.WOk 0 w)∧(∀ s,cf.at_=.inl s→r=.inl (s,cf.pd))∧(match r with | .inl x=>cf.at_=.inl x.1∧cf.pd=x.2 | .inr w=>cf.at_=.inr w):=by
 obtain ⟨k,e,N,cf,h1,h2,h3,h4,h5⟩:=FcM.whole (bits:=bits) (B:=1000) W.wf hg (by omega)
 have bd:=FcM.goF_bd (bits:=bits) m 0 [] 0 [] w wg
 have gu:=goU (bits:=bits) (lp:=lp) (v:=[]) W.wf hg W.wf.ne (P:=[]) (by simpa using hm) (Nat.zero_le _)
 rcases hr:FcM.goF (tabOf rows) bits m 0 [] 0 [] with ⟨r,u,v⟩
 rw [hr] at h3 h4 h5 bd gu
 obtain ⟨_,b2⟩:=bd
 dsimp only at b2 gu h3 h4 h5
 have b3:w * (u + 1)≤400 * 201:=Nat.mul_le_mul hw (by omega)
 refine ⟨r,u,v,k,e,N,cf,rfl,(by simp at b2;omega),h1,h2,h3,h4,?_,?_,?_,?_⟩
 ·cases r with
  | inl x=>unfold endT;rw [h5.1]<;>rfl
  | inr w=>unfold endT;rw [h5.1]<;>rfl
 ·intro w' hw'
  cases r with
  | inl x=>rw [h5.1] at hw';cases hw'
  | inr w=>rw [h5.1] at hw';cases hw';exact h5.2
 ·intro s hs
  cases r with
  | inl x=>rw [h5.1] at hs;cases hs;rw [h5.2]
  | inr w=>rw [h5.1] at hs;cases hs
 ·cases r with
  | inl x=>exact h5
  | inr w=>exact h5.1
end
section
open FcM (Way Node Tab Pd Rs)
def MotLt (N:Nat) (ps:List Nat):Nat ⊕ List Nat→Prop
 | .inl n=>n<N→∀ q∈ps,q<N
 | .inr cs=>(∀ c∈cs,c<N)→∀ q∈ps,q<N
theorem ewp_lt67 {t:Tab} {N:Nat} (dn:∀ n,n<N→∀ c∈(t.nd n).ch,c<N) {x:Nat ⊕ List Nat} {l L:List Int} {o:Option Way} {ps:List Nat} (r:Ewp t x l L o ps):MotLt N ps x:=by
 have ap:∀ {a b:List Nat},(∀ q∈a,q<N)→(∀ q∈b,q<N)→∀ q∈a++b,q<N:=fun h k q hq=>(List.mem_append.mp hq).elim (h q) (k q)
 have cn:∀ {a:Nat} {b:List Nat},a<N→(∀ q∈b,q<N)→∀ q∈a::b,q<N:=fun h k q hq=>(List.mem_cons.mp hq).elim (fun e=>e ▸ h) (k q)
 have nl:∀ q∈([]:List Nat),q<N:=fun q h=>nomatch h
 have kid:∀ {n:Nat} {nd:Node},t.nd n=nd→n<N→∀ c∈nd.ch,c<N:=fun e h c hc=>dn _ h c (by rw [e];exact hc)
 induction r with
 | quiet h=>exact fun hn=>cn hn nl
 | call0 h=>exact fun hn=>cn hn nl
 | call1 h=>exact fun hn=>cn hn nl
 | ask h=>exact fun hn=>cn hn nl
 | wh0 h=>exact fun hn=>cn hn nl
 | if0 h r ih=>exact fun hn=>cn hn (ih (kid h hn _ (by simp [Node.ch])))
 | if1 h r ih=>exact fun hn=>cn hn (ih (kid h hn _ (by simp [Node.ch])))
 | whW h r ih=>exact fun hn=>cn hn (ih (kid h hn _ (by simp [Node.ch])))
 | whO h r hw ih=>exact fun hn=>cn hn (ih (kid h hn _ (by simp [Node.ch])))
 | whA h r hw r2 ih ih2=>exact fun hn=>cn hn (ap (ih (kid h hn _ (by simp [Node.ch]))) (ih2 hn))
 | seq h r ih=>exact fun hn=>ih (kid h hn)
 | trO h r ho ih=>exact fun hn=>ih (kid h hn _ (by simp [Node.ch]))
 | trH h r r2 ih ih2=>exact fun hn=>ap (ih (kid h hn _ (by simp [Node.ch]))) (ih2 (kid h hn _ (by simp [Node.ch])))
 | finW h r ih=>exact fun hn=>ih (kid h hn _ (by simp [Node.ch]))
 | finB h r r2 ho ih ih2=>exact fun hn=>ap (ih (kid h hn _ (by simp [Node.ch]))) (ih2 (kid h hn _ (by simp [Node.ch])))
 | finN h r r2 ih ih2=>exact fun hn=>ap (ap (ih (kid h hn _ (by simp [Node.ch]))) (ih2 (kid h hn _ (by simp [Node.ch])))) (cn hn nl)
 | sNil=>exact fun _=>nl
 | sOne r r2 ih ih2=>exact fun hc=>ap (ih (hc _ List.mem_cons_self)) (ih2 fun c h=>hc c (List.mem_cons_of_mem _ h))
 | sOut r ho ih=>exact fun hc=>ih (hc _ List.mem_cons_self)
theorem vs_lt67 {rows:List Row} {lp:Nat→Nat} (X:AllK rows lp) {bits:List Bool} {m:Nat} (hg:FcM.Hg (tabOf rows) m 0) {r:FcM.Wt} {u:Nat} {v:List Nat} (h:FcM.goF (tabOf rows) bits m 0 [] 0 []=(r,u,v)):∀ n∈v,n<rows.length:=by
 obtain ⟨L,o,k,ew⟩:=ew_all hg (intB bits) (intB_bits bits)
 obtain ⟨ps,e⟩:=ew_ewp ew
 have z:=ewp_go (bits:=bits) e m [] 0 [] (bits.length + 1) hg rfl (by omega)
 rw [unf_go,h] at z
 have hp:∀ q∈ps,q<rows.length:=ewp_lt67 (N:=rows.length) (fun n hn c hc=>(X.w.wf.dn n hn c hc).2.1) e X.w.wf.ne
 intro n hn
 cases r with
 | inl x =>
  obtain ⟨_,p0,e3,e4⟩:=z
  rw [e4,List.nil_append] at hn
  exact hp n (by rw [e3];exact List.mem_append_left _ hn)
 | inr w =>
  obtain ⟨_,_,e4,_⟩:=z
  rw [e4,List.nil_append] at hn
  exact hp n hn
end
section
open FcM (Way Node Tab)
theorem can_st {rows:List Row} {lp:Nat→Nat} (X:AllK rows lp) (hc:∀ (n:Nat) (r:Row),rows[n]?=some r→PyData.canLay0 r.d=true) {n:Nat} (hn:n<rows.length) (hk:kindD (dOf rows n)∈shL):PyData.canLay0 (stD rows n)=true:=by
 obtain ⟨r,hr⟩:=row_at hn
 have ed:dOf rows n=r.d:=by unfold dOf;rw [hr]<;>rfl
 rw [ed] at hk
 obtain ⟨t,e⟩:=lab_sh (X.w.sv n r hr).1 hk
 have h:=hc n r hr
 rw [e] at h
 have h:(PyData.canLay0 (.str (kindD r.d)) && (PyData.canLay0 (.str (labS r.d)) && PyData.canLayAll0 t))=true:=h
 obtain ⟨h1,h2⟩:=Bool.and_eq_true_iff.mp h
 have h2:=(Bool.and_eq_true_iff.mp h2).1
 unfold stD
 rw [ed]
 show (PyData.canLay0 (.str (kindD r.d)) && (PyData.canLay0 (.str (labS r.d)) && true))=true
 rw [h1,h2]<;>rfl
theorem can_look {rows:List Row} {lp:Nat→Nat} (X:AllK rows lp) (hc:∀ (n:Nat) (r:Row),rows[n]?=some r→PyData.canLay0 r.d=true) {vs:List Nat} (hv:∀ n∈vs,n<rows.length) (u:Nat) {e:Str} (he:PyData.canLay0 (.str e)=true):PyData.canLay0 (lookD rows vs u e)=true:=by
 have h1:PyData.canLayAll0 ((shN rows vs).map (stD rows))=true:=canAll fun d hd=>by
  obtain ⟨n,hn,rfl⟩:=List.mem_map.mp hd
  obtain ⟨a,b⟩:=List.mem_filter.mp hn
  exact can_st X hc (hv n a) (of_decide_eq_true b)
 show (PyData.canLayAll0 ((shN rows vs).map (stD rows)) && (PyData.canLay0 (.int (u:Int)) && (PyData.canLay0 (.str e) && true)))=true
 rw [h1,he]<;>rfl
theorem dep_look (rows:List Row) (vs:List Nat) (u:Nat) (e:Str):(lookD rows vs u e).depth≤200:=by
 have h1:PyData.depthAll ((shN rows vs).map (stD rows))≤5:=dAll_le67 fun d hd=>by
  obtain ⟨n,_,rfl⟩:=List.mem_map.mp hd
  unfold stD
  simp only [PyData.depth,PyData.depthAll]
  omega
 unfold lookD
 simp only [PyData.depth,PyData.depthAll]
 omega
end
section
open FcM (Way Node Tab)
structure Two67 (d:PyData) (N:Nat) (fin:List Row) (lp:Nat→Nat) (w:Nat) (N':Nat) (fin':List Row) (lp':Nat→Nat) (w':Nat):Prop where
 D:TD d N fin lp
 X:AllK fin lp
 l:fin.length=w
 w4:w≤400
 ww:w'≤w
 ok:OkS 0 1 0 w d
 ok':OkS 0 1 0 w' (cutN fin (ddN fin) 0)
 D':TD (cutN fin (ddN fin) 0) N' fin' lp'
 X':AllK fin' lp'
 l':fin'.length=w'
 m:MorB fin' fin lp' (fN fin' fin)
 gs:GS d
 gs':GS (cutN fin (ddN fin) 0)
 dp:d.depth≤60
 dp':(cutN fin (ddN fin) 0).depth≤60
 can:∀ (n:Nat) (r:Row),fin[n]?=some r→PyData.canLay0 r.d=true
 d0:Dn (tabOf fin) 0 (fN fin' fin 0)
theorem two67 {w:Nat} {d:PyData} (ok:OkS 0 1 0 w d) (hw:w≤400) (gs:GS d) (dp:d.depth≤60):∃ N fin lp N' fin' lp' w',Two67 d N fin lp w N' fin' lp' w':=by
 obtain ⟨N,fin,lp,N',fin',lp',w',D,X,l,ww,ok',D',X',l',m⟩:=two_of ok hw
 obtain ⟨r,hr,ed⟩:=D.r0
 obtain ⟨ls,bi⟩:=BI.all D.bd (BI.start d)
 have pn:=par_none67 D.bd (BI.start d) (fun n r z=>by simp at z)
 have hs:=rows_in67 bi pn (G:=GS) (fun e he=>(gs_sz he).2.2.1) gs (fun r hr=>Builds.first D.bd hr)
 have al:(bgN (tabOf fin) 0).isSome=true:=by rw [bgN_zero X.w X.g]<;>rfl
 have dpc:=cut_depth X _ 0 r (Nat.le_refl _) hr
 rw [ed] at dpc
 refine ⟨N,fin,lp,N',fin',lp',w',D,X,l,hw,ww,ok,ok',D',X',l',m,gs,cut_gs X hs _ 0 r (Nat.le_refl _) hr al,dp,by omega,fun n r h=>(gs_sz (hs n r h)).1,?_⟩
 obtain ⟨r1,hr1,_⟩:=D'.r0
 have hp:r1.par=none:=by
  have z:fin'[0]?.bind Row.par=none:=X'.w.wf.root
  rw [hr1] at z
  exact z
 rw [fN_root (lp':=lp') hr1 hp]
 exact (real_ok X _ 0 (Nat.le_refl _) X.w.wf.ne al).2.2.1
theorem dp_ints67 {K:PySem.W.Frag} {F:Hp}:∀ l:List Nat,DpAll K F (intsV l) (l.map fun n:Nat=>.int (n:Int))
 | []=>.nil
 | a::l=>.cons (.int _) (dp_ints67 l)
theorem can_ints67 (l:List Nat):PyData.canLay0 (.list (l.map fun n:Nat=>.int (n:Int)))=true:=canAll (l:=l.map fun n:Nat=>.int (n:Int)) fun d hd=>by
 obtain ⟨n,_,rfl⟩:=List.mem_map.mp hd
 rfl
def sp_right67 (K:PySem.W.Frag):Sp:=fun vs H Q _=>∃ (F:Hp) (p:Addr) (A:CAd) (d:PyData) (N:Nat) (fin:List Row) (lp:Nat→Nat) (w N':Nat) (fin':List Row) (lp':Nat→Nat) (w' m:Nat),vs=[.ref p,.ref A.p,.int (m:Int)]∧Ex F H∧F p=none∧Src H p∧CodeH K F F A fin∧Two67 d N fin lp w N' fin' lp' w'∧m≤100 ∧
 ∀ H',(∀ b o,H b=some o→b≠p→H' b=some o)→Q (.bl true) H'
section
variable {P:Program} {w:World} {h:Heap} {K:PySem.W.Frag} {mg:Str→Option Value} {base:Heap}
abbrev N_law_right:List Str:=["_law_source","_law_prog","_law_most","_law_told","_law_turn","_law_answers_here"]
theorem sc_law_right:FnScope N_law_right ["_law_source","_law_prog","_law_most"] (defScope sd_law_right):=⟨rfl,rfl,rfl,by decide +kernel,rfl,by decide +kernel,by decide +kernel⟩
theorem okF_law_right (T:Tx w h K mg):∃ fd,FnOk P w K mg base (CX P w) 80 (He.fAd K ("_law_right",none)) fd ["_law_source","_law_prog","_law_most"] (sp_right67 K)∧Binds K fd ["_law_source","_law_prog","_law_most"] []∧PySem.W.keepIn K (.ref (He.fAd K ("_law_right",none)))=true∧FunD K "_law_right" "_law_right" (defArgs sd_law_right) (defBody sd_law_right) (defScope sd_law_right) [] [] (He.fAd K ("_law_right",none)) fd:=by
 obtain ⟨fd,F⟩:=F_law_right T
 refine ⟨fd,?_,F.bindsN (fun _ _ _ _ _ _ us hl=>match us,hl with | [_,_,_],_=>rfl),F.kp,F⟩
 obtain ⟨fd_law_answers,G_law_answers,bi_law_answers,kp_law_answers⟩:=ok_law_answers (P:=P) (base:=base) T
 obtain ⟨fd_law_look,G_law_look,bi_law_look,kp_law_look⟩:=ok_law_look (P:=P) (base:=base) T
 obtain ⟨fd_dead,G_dead,bi_dead,kp_dead⟩:=ok_dead (P:=P) (base:=base) T
 obtain ⟨fd_reached,G_reached,bi_reached,kp_reached⟩:=ok_reached (P:=P) (base:=base) T
 obtain ⟨fd_without_dead,G_without_dead,bi_without_dead,kp_without_dead,FD_without_dead⟩:=okF_without_dead (P:=P) (base:=base) T
 obtain ⟨fd_Code___init__,G_Code___init__,bi_Code___init__,kp_Code___init__⟩:=ok_Code___init__ (P:=P) (base:=base) T
 obtain ⟨fd_Code___eq__,G_Code___eq__,bi_Code___eq__,kp_Code___eq__⟩:=ok_Code___eq__ (P:=P) (base:=base) T
 obtain ⟨fd_Code___len__,G_Code___len__,bi_Code___len__,kp_Code___len__⟩:=ok_Code___len__ (P:=P) (base:=base) T
 obtain ⟨fd_law_cut,G_law_cut,bi_law_cut,kp_law_cut⟩:=ok_cut (P:=P) (base:=base) T 60
 refine F.ok sc_law_right (fun vs H Q E h=>?_) (fun cdv A outer s H vs Q E hr h=>?_)
 ·obtain ⟨F,p,A,d,N,fin,lp,w1,N',fin',lp',w',m,rfl,xF,fp,hp,C,TW67,hm,q⟩:=h
  rfl
 ·obtain ⟨F,p,A,d,N,fin,lp,w1,N',fin',lp',w',m,rfl,xF,fp,hp,C,TW67,hm,q⟩:=h
  refine ⟨_,PSs.nox (pss_cons (ps_set (i:=3) sc_law_right.nd rfl (Or.inl rfl) (pe_call G_without_dead (hr.mono (by decide)) rfl (g_without_dead T) kp_without_dead bi_without_dead .nil passF (pa_cons (pv 1) pa_nil))) (pss_cons (ps_if (PW.pt (pw_or (pt_cmpR (FcO.op_neO G_Code___eq__ (hr.mono (by decide)) (me_Code___eq__ T) (eq_Code T) bi_Code___eq__ passF) (pv 3) (pe_make (mk_Code T) G_Code___init__ (hr.mono (by decide)) rfl (g_Code T) bi_Code___init__ .nil passF (pa_cons (pe_call G_law_cut (hr.mono (by decide)) rfl (g_law_cut T) kp_law_cut bi_law_cut .nil passF (pa_cons (pv 1) (pa_cons pe_int (pa_cons (pe_call G_reached (hr.mono (by decide)) rfl (g_reached T) kp_reached bi_reached .nil passF (pa_cons (pv 1) pa_nil)) pa_nil)))) pa_nil)) (nomark _)) (pw_or1 (pt_cmpR (FcO.op_neO G_Code___eq__ (hr.mono (by decide)) (me_Code___eq__ T) (eq_Code T) bi_Code___eq__ passF) (pv 3) (FcX.pe_callW (ks:=["code"]) (g:=fun | [z0]=>[z0] | _=>[]) (gV:=fun | [z0]=>[z0] | _=>[]) G_without_dead (hr.mono (by decide)) rfl (g_without_dead T) kp_without_dead (fun s ws hl=>match ws,hl with | [_],_=>FcX.bindsX FD_without_dead (fun _ _ _ _ _ _=>rfl) s) (fun r _=>match r with | (.cons r0 .nil)=>(.cons r0 .nil)) passF (pk_cons (pv 1) pk_nil)) (nomark _))))) (pss_one (ps_ret pe_bl)) pss_nil) (pss_cons (ps_if (PW.pt (pw_or (pt_cmpR (op_neM hr) (pe_call G_dead (hr.mono (by decide)) rfl (g_dead T) kp_dead bi_dead .nil passF (pa_cons (pv 3) pa_nil)) (pe_lst pa_nil) (nomark _)) (pw_or (pt_cmpR (FcO.op_neO G_Code___eq__ (hr.mono (by decide)) (me_Code___eq__ T) (eq_Code T) bi_Code___eq__ passF) (pe_call G_without_dead (hr.mono (by decide)) rfl (g_without_dead T) kp_without_dead bi_without_dead .nil passF (pa_cons (pv 3) pa_nil)) (pv 3) (nomark _)) (pw_or1 (pt_cmpR op_gt (pe_callB (FcO.call_lenO G_Code___len__ (hr.mono (by decide)) (me_Code___len__ T) bi_Code___len__ passF) rfl (fr_len T) b_len (pa_cons (pv 3) pa_nil)) (pe_callB (FcO.call_lenO G_Code___len__ (hr.mono (by decide)) (me_Code___len__ T) bi_Code___len__ passF) rfl (fr_len T) b_len (pa_cons (pv 1) pa_nil)) (nomark _)))))) (pss_one (ps_ret pe_bl)) pss_nil) (pss_cons (ps_if (pt_cmpR op_ne (pe_cmpR (op_eqM hr) (pe_call G_dead (hr.mono (by decide)) rfl (g_dead T) kp_dead bi_dead .nil passF (pa_cons (pv 1) pa_nil)) (pe_lst pa_nil) (nomark _)) (pe_cmpR (FcO.op_eqO G_Code___eq__ (hr.mono (by decide)) (me_Code___eq__ T) bi_Code___eq__ passF) (pv 3) (pv 1) (nomark _)) (nomark _)) (pss_one (ps_ret pe_bl)) pss_nil) (pss_cons (ps_for PassesOwn.never rfl (pi_range1 rfl (fr_range T) (pa_cons pe_int pa_nil)) (pg_name (i:=4) sc_law_right.nd rfl (Or.inl rfl)) (pss_cons (ps_set (i:=5) sc_law_right.nd rfl (Or.inl rfl) (pe_call G_law_answers (hr.mono (by decide)) rfl (g_law_answers T) kp_law_answers bi_law_answers .nil passF (pa_cons (pv 0) (pa_cons (pv 2) pa_nil)))) (pss_one (ps_if (pt_cmpR (op_neM hr) (pe_call G_law_look (hr.mono (by decide)) rfl (g_law_look T) kp_law_look bi_law_look .nil passF (pa_cons (pv 1) (pa_cons (pv 5) pa_nil))) (pe_call G_law_look (hr.mono (by decide)) rfl (g_law_look T) kp_law_look bi_law_look .nil passF (pa_cons (pv 3) (pa_cons (pv 5) pa_nil))) (nomark _)) (pss_one (ps_ret pe_bl)) pss_nil)))) (pss_one (ps_ret pe_bl))))))),?_⟩
  obtain ⟨DD,X,hl,w4,ww,ok,ok',D',X',hl',M,gs,gs',dp,dp',can67,d0⟩:=TW67
  have S0:=Sg.start xF fp hp
  have CKA:=DD.ck C
  obtain ⟨r0,hr0,er0⟩:=DD.r0
  obtain ⟨r1,hr1,er1⟩:=D'.r0
  have dp0:r0.d.depth≤60:=by rw [er0];exact dp
  refine ⟨_,rfl,F,A,fin,lp,r0,N',fin',rfl,CKA,xF,up_of X,hr0,dp0,gs',D'.bd,fun F1 H1 A1 g1 C1=>?_⟩
  have S1:=S0.sub g1
  have CK1:CK K F1 A fin lp:=ck_ex67 g1.ff CKA
  refine ⟨_,rfl,?_⟩
  refine ⟨_,rfl,_,rfl,F1,A,fin,lp,rfl,CK1,S1.g.fh,fun H2 ga x2 nga sga=>?_⟩
  have S2a:Sg p F H F1 H2:=S1.sub (Gr.new S1.g.fh x2)
  obtain ⟨e2,S2⟩:=S2a.frz (S1.n0 nga) sga (ex_none S1.g.fh nga) (S1.ne nga)
  have k2:upd F1 ga (.lst (intsV (rcN fin))) ga=some (.lst (intsV (rcN fin))):=upd_same
  generalize upd F1 ga (.lst (intsV (rcN fin)))=F2 at *
  have al:(bgN (tabOf fin) 0).isSome=true:=by rw [bgN_zero X.w X.g]<;>rfl
  refine ⟨F2,A,fin,lp,ga,0,r0,rfl,ck_ex67 e2 CK1,X,S2.g.fh,k2,hr0,al,dp0,fun F3 H3 v3 g3 dv3=>?_⟩
  have S3:=S2.sub g3
  refine fun q7 dx nq nd ne=>?_
  generalize e7:upd (upd _ dx _) q7 _=H7
  obtain ⟨x7,hq7⟩:=make_of e7 nq nd
  clear e7
  refine ⟨F3,q7,dx,v3,_,GS,N',fin',rfl,hq7,S3.g.fh.trans x7,ex_none S3.g.fh nq,dv3,fun e he=>gs_parts he,gs',D'.bd,fun A8 F8 H8 eA g8 C8=>⟨rfl,?_⟩⟩
  subst eA
  have nA:=S3.n0 nq
  have S8:Sg p F H F8 H8:=by
   obtain ⟨y1,y2,y3,hy⟩:=S3.s
   have hy7:=x7 _ _ hy
   have ne3:p≠A8.p:=S3.ne nq
   exact ⟨(S3.g.trans (Gr.new S3.g.fh x7)).hide g8 (fun x hx=>.inl (by rw [hx];exact nA)),g8.nw p (by rw [hy7];exact fun z=>nomatch z) S3.f ne3,y1,y2,y3,g8.kp _ _ hy7 ne3⟩
  have e18:=(e2.trans g3.ff).trans g8.ff
  have C18:CodeH K F8 F8 A1 fin':=C1.ex e18 e18
  have ob:∀ {A:CAd} {rows:List Row} {F' H':Hp},CodeH K F' F' A rows→Ex F' H'→H' A.p=some (.ins (He.ga K "Code") A.dx (cFs A)):=fun {A rows F' H'} C e=>by
   obtain ⟨_,c,_⟩:=C.ex (Evl.Ex.refl _) e
   exact c.ob
  have can1:PyData.canLay0 r1.d=true:=by rw [er1];exact (gs_sz gs').1
  have dep1:r1.d.depth≤200:=by rw [er1];omega
  refine ⟨A1.p,_,_,.ref (He.ga K "Code"),rfl,ob C18 S8.g.fh,FcO.ty_ins (c_Code T) (eq_Code T) (ob C8 S8.g.fh),same_firstC,F8,A1,fin',r1,_,rfl,C18,S8.g.fh,hr1,can1,dep1,.inl ⟨F8,A8,fin',r1,rfl,C8,S8.g.fh,hr1,can1,_,rfl,_,rfl,itF (by rw [PySem.SeqAt.eqv_refl _ can1]<;>rfl) ?_⟩⟩
  have CK8:CK K F8 A fin lp:=ck_ex67 e18 CK1
  refine ⟨_,rfl,_,rfl,rfl,F8,A,fin,lp,r0,N',fin',rfl,CK8,S8.g.fh,up_of X,hr0,dp0,gs',D'.bd,fun F9 H9 A9 g9 C9=>?_⟩
  have S9:=S8.sub g9
  have C19:CodeH K F9 F9 A1 fin':=C18.ex g9.ff g9.ff
  refine ⟨A1.p,_,_,.ref (He.ga K "Code"),rfl,ob C19 S9.g.fh,FcO.ty_ins (c_Code T) (eq_Code T) (ob C9 S9.g.fh),same_firstC,F9,A1,fin',r1,_,rfl,C19,S9.g.fh,hr1,can1,dep1,.inl ⟨F9,A9,fin',r1,rfl,C9,S9.g.fh,hr1,can1,_,rfl,_,rfl,itF (by rw [PySem.SeqAt.eqv_refl _ can1]<;>rfl) ?_⟩⟩
  have CK9:CK K F9 A fin lp:=ck_ex67 g9.ff CK8
  have CK19:CK K F9 A1 fin' lp':=D'.ck C19
  have dd':ddN fin'=[]:=dd_nil M
  refine ⟨_,rfl,F9,A1,fin',lp',rfl,CK19,S9.g.fh,fun H10 da x10 nda sda=>?_⟩
  rw [dd'] at sda
  refine ⟨sz (by simp),?_⟩
  intro p11 n11
  generalize e11:upd _ p11 _=H11
  obtain ⟨x11,s11,o11⟩:=new_of e11 n11
  clear e11
  have S10:Sg p F H F9 H10:=S9.sub (Gr.new S9.g.fh x10)
  have S11:Sg p F H F9 H11:=S10.sub (Gr.new S10.g.fh x11)
  refine ⟨.list [],.list [],.lst (Evl.sq_of (x11 _ _ sda)) .nil,.lst (Evl.sq_of s11) .nil,rfl,rfl,by decide,_,rfl,itF rfl ?_⟩
  have ecs:cutN fin' (ddN fin') 0=cutN fin (ddN fin) 0:=(cut_self X' (by omega) dd' _ 0 r1 (Nat.le_refl _) hr1).trans er1
  refine ⟨_,rfl,F9,A1,fin',lp',r1,N',fin',rfl,CK19,S11.g.fh,up_of X',hr1,by rw [er1];exact dp',by rw [ecs];exact gs',by rw [ecs];exact D'.bd,fun F12 H12 A12 g12 C12=>?_⟩
  have S12:=S11.sub g12
  have C112:CodeH K F12 F12 A1 fin':=C19.ex g12.ff g12.ff
  have CA12:CodeH K F12 F12 A fin:=(ck_ex67 g12.ff CK9).c
  refine ⟨_,rfl,A12.p,_,_,.ref (He.ga K "Code"),rfl,ob C12 S12.g.fh,FcO.ty_ins (c_Code T) (eq_Code T) (ob C112 S12.g.fh),same_firstC,F12,A12,fin',r1,_,rfl,C12,S12.g.fh,hr1,can1,dep1,.inl ⟨F12,A1,fin',r1,rfl,C112,S12.g.fh,hr1,can1,_,rfl,_,rfl,itF (by rw [PySem.SeqAt.eqv_refl _ can1]<;>rfl) ?_⟩⟩
  refine ⟨_,rfl,A1.p,_,_,rfl,ob C112 S12.g.fh,F12,A1,fin',rfl,C112,S12.g.fh,_,rfl,by omega,?_⟩
  refine ⟨_,rfl,A.p,_,_,rfl,ob CA12 S12.g.fh,F12,A,fin,rfl,CA12,S12.g.fh,_,rfl,by omega,?_⟩
  refine ⟨_,_,rfl,rfl,_,rfl,itF (decide_eq_false (by omega)) ?_⟩
  have CK12:CK K F12 A fin lp:=DD.ck CA12
  refine ⟨_,rfl,F12,A,fin,lp,rfl,CK12,S12.g.fh,fun H13 db x13 ndb sdb=>?_⟩
  refine ⟨sz (by simp),?_⟩
  intro p14 n14
  generalize e14:upd _ p14 _=H14
  obtain ⟨x14,s14,o14⟩:=new_of e14 n14
  clear e14
  have S13:Sg p F H F12 H13:=S12.sub (Gr.new S12.g.fh x13)
  have S14:Sg p F H F12 H14:=S13.sub (Gr.new S13.g.fh x14)
  refine ⟨.list ((ddN fin).map fun n:Nat=>.int (n:Int)),.list [],.lst (Evl.sq_of (x14 _ _ sdb)) (dp_ints67 _),.lst (Evl.sq_of s14) .nil,can_ints67 _,rfl,Nat.le_trans (Nat.min_le_right _ _) (by decide),?_⟩
  have can0:PyData.canLay0 r0.d=true:=by rw [er0];exact (gs_sz gs).1
  refine ⟨_,rfl,_,rfl,A1.p,_,_,.ref (He.ga K "Code"),rfl,ob C112 S14.g.fh,FcO.ty_ins (c_Code T) (eq_Code T) (ob CA12 S14.g.fh),same_firstC,F12,A1,fin',r1,_,rfl,C112,S14.g.fh,hr1,can1,dep1,.inl ⟨F12,A,fin,r0,rfl,CA12,S14.g.fh,hr0,can0,_,rfl,?_⟩⟩
  have same:=dead_same DD X (by omega) w4 (by omega) ok ok' D' M (gs_sz gs).1
  rw [same,er1,er0]
  refine ⟨rfl,_,rfl,itF (by simp) ?_⟩
  refine ⟨6,rfl,by decide,by decide,?_⟩
  refine for_it (walk_range (lo:=0) (n:=6)) (fun j σ' H'=>∃ (F':Hp) (o4 o5:Option V),σ'=[some (.ref p),some (.ref A.p),some (.int (m:Int)),some (.ref A1.p),o4,o5]∧Sg p F H F' H'∧Ex F12 F') ?_ ?_ ?_ ?_
  ·exact ⟨F12,_,_,rfl,S14,Evl.Ex.refl _⟩
  ·exact fun _ _ _ _ _=>True.intro
  rotate_left
  ·rintro σ' H20 ⟨F20,o4,o5,rfl,S20,_⟩
   exact q H20 fun b o hb nb=>S20.g.kp b o hb nb
  rintro j vj σ' Hc H15 hj ⟨F15,o4,o5,rfl,S15,e15⟩ ⟨rfl,rfl⟩
  refine ⟨_,rfl,_,rfl,F15,p,m,rfl,S15.g.fh,S15.f,S15.s,by omega,fun F16 H16 ba bits g16 f16 s16 lba hbl=>?_⟩
  have S16:Sg p F H F16 H16:=⟨S15.g.trans g16,f16,s16⟩
  have e16:=e15.trans g16.ff
  have CA16:=CA12.ex e16 e16
  have C116:=C112.ex e16 e16
  obtain ⟨ra,u,v,k1,e1,N1,cf,hR,hvl,hE,hRe,hcv,hcu,hend,hok,_⟩:=run_facts67 (bits:=bits) X.w (X.h 0 X.w.wf.ne) (by decide) w4 (wg_of X.w ok hr0 er0) (by omega)
  obtain ⟨ra',u',v',k1',e1',N1',cf',hR',hvl',hE',hRe',hcv',hcu',hend',hok',_⟩:=run_facts67 (bits:=bits) X'.w (X'.h 0 X'.w.wf.ne) (by decide) (by omega) (wg_of X'.w ok' hr1 er1) (by omega)
  refine ⟨_,rfl,_,rfl,F16,A,fin,lp,ba,bits,k1,e1,N1,cf,rfl,CA16,X.w,S16.g.fh,Evl.sq_of lba,by omega,hE,hRe,by rw [hcv];exact hvl,hok,by rw [hcv];exact vs_lt67 X (X.h 0 X.w.wf.ne) hR,fun F17 H17 vA g17 dvA=>?_⟩
  have S17:=S16.sub g17
  refine ⟨_,rfl,_,rfl,F17,A1,fin',lp',ba,bits,k1',e1',N1',cf',rfl,C116.ex g17.ff g17.ff,X'.w,S17.g.fh,Evl.sq_of (g17.ff _ _ lba),by omega,hE',hRe',by rw [hcv'];exact hvl',hok',by rw [hcv'];exact vs_lt67 X' (X'.h 0 X'.w.wf.ne) hR',fun F18 H18 vB g18 dvB=>?_⟩
  have S18:=S17.sub g18
  obtain ⟨ev,eu,ew⟩:=run_mor X X' M.m d0 (X.h 0 X.w.wf.ne) (by decide) (X'.h 0 X'.w.wf.ne) (by decide) hR hR'
  have eend:endT cf=endT cf':=by
   rw [hend,hend']
   cases ra with
   | inl x =>
    cases ra' with
    | inl x'=>rfl
    | inr w=>exact nomatch (ew w).mpr rfl
   | inr w=>rw [(ew w).mp rfl]
  have elook:lookD fin' cf'.vs cf'.us (endT cf')=lookD fin cf.vs cf.us (endT cf):=by
   rw [← look_same X X' (fun r h=>Builds.first D'.bd h) (by rw [hcv'];exact vs_lt67 X' (X'.h 0 X'.w.wf.ne) hR'),hcv',hcu',← ev,← eu,← eend,hcv,hcu]
  have cend:PyData.canLay0 (.str (endT cf))=true:=by
   rw [hend]
   cases ra with
   | inl x=>kernel_rfl
   | inr w=>cases w<;>kernel_rfl
  have cl:=can_look X can67 (vs:=cf.vs) (by rw [hcv];exact vs_lt67 X (X.h 0 X.w.wf.ne) hR) cf.us cend
  rw [elook] at dvB
  refine ⟨_,_,dp_ex (g18.ff.trans S18.g.fh) dvA,dp_ex S18.g.fh dvB,cl,cl,Nat.le_trans (Nat.min_le_left _ _) (dep_look ..),_,rfl,itF (by rw [PySem.SeqAt.eqv_refl _ cl]<;>rfl) ?_⟩
  exact ⟨F18,_,_,rfl,S18,(e16.trans g17.ff).trans g18.ff⟩
theorem ok_law_right (T:Tx w h K mg):Ok P w K mg base 80 ("_law_right",none) ["_law_source","_law_prog","_law_most"] (sp_right67 K):=by
 obtain ⟨fd,a,b,c,_⟩:=okF_law_right (P:=P) (base:=base) T
 exact ⟨fd,a,b,c⟩
end
end
section
def sp_law (K:PySem.W.Frag):Sp:=fun vs H Q _=>∃ (a:Addr) (ns:List Int),vs=[.ref a]∧ns.length≤63∧SqL K H a (ns.map V.int)∧∀ H',Q (.bl true) H'
theorem cut_mem {xs:List V} {lo hi:Option Int} {x:V} (h:x∈cutV xs lo hi):x∈xs:=by
 unfold cutV at h
 exact List.mem_of_mem_drop (List.mem_of_mem_take h)
section
variable {P:Program} {w:World} {h:Heap} {K:PySem.W.Frag} {mg:Str→Option Value} {base:Heap}
end
end
section
open FcM (Way Node Tab Pd Rs)
theorem Sg.made67 {p:Addr} {F0 H0 F H H3 F4 H4:Hp} {q:Addr} (S:Sg p F0 H0 F H) (x3:Ex H H3) (nq:H q=none) (g4:Gr (fun x=>x=q) F H3 F4 H4):Sg p F0 H0 F4 H4:=by
 have nA:=S.n0 nq
 obtain ⟨y1,y2,y3,hy⟩:=S.s
 have hy3:=x3 _ _ hy
 have ne3:p≠q:=S.ne nq
 exact ⟨(S.g.trans (Gr.new S.g.fh x3)).hide g4 (fun x hx=>.inl (by rw [hx];exact nA)),g4.nw p (by rw [hy3];exact fun z=>nomatch z) S.f ne3,y1,y2,y3,g4.kp _ _ hy3 ne3⟩
section
variable {P:Program} {w:World} {h:Heap} {K:PySem.W.Frag} {mg:Str→Option Value} {base:Heap}
abbrev N_law:List Str:=["_law_script","_law_source","_law_cell"]
theorem sc_law:FnScope N_law ["_law_script"] (defScope sd_law):=⟨rfl,rfl,rfl,by decide +kernel,rfl,by decide +kernel,by decide +kernel⟩
theorem okF_law (T:Tx w h K mg):∃ fd,FnOk P w K mg base (CX P w) 90 (He.fAd K ("law",none)) fd ["_law_script"] (sp_law K)∧Binds K fd ["_law_script"] []∧PySem.W.keepIn K (.ref (He.fAd K ("law",none)))=true∧FunD K "law" "law" (defArgs sd_law) (defBody sd_law) (defScope sd_law) [] [] (He.fAd K ("law",none)) fd:=by
 obtain ⟨fd,F⟩:=F_law T
 refine ⟨fd,?_,F.bindsN (fun _ _ _ _ _ _ us hl=>match us,hl with | [_],_=>rfl),F.kp,F⟩
 obtain ⟨fd_law_cell_at,G_law_cell_at,bi_law_cell_at,kp_law_cell_at⟩:=ok_law_cell_at (P:=P) (base:=base) T
 obtain ⟨fd_law_draw,G_law_draw,bi_law_draw,kp_law_draw⟩:=ok_law_draw (P:=P) (base:=base) T
 obtain ⟨fd_law_right,G_law_right,bi_law_right,kp_law_right⟩:=ok_law_right (P:=P) (base:=base) T
 obtain ⟨fd_law_source_of,G_law_source_of,bi_law_source_of,kp_law_source_of⟩:=ok_law_source_of (P:=P) (base:=base) T
 obtain ⟨fd_law_wide,G_law_wide,bi_law_wide,kp_law_wide⟩:=ok_law_wide (P:=P) (base:=base) T
 obtain ⟨fd_Code___init__,G_Code___init__,bi_Code___init__,kp_Code___init__⟩:=ok_Code___init__ (P:=P) (base:=base) T
 obtain ⟨fd_law_statement,G_law_statement,bi_law_statement,kp_law_statement⟩:=ok_stm (P:=P) (base:=base) T 6
 refine F.ok sc_law (fun vs H Q E h=>?_) (fun cdv A outer s H vs Q E hr h=>?_)
 ·obtain ⟨a,ns,rfl,hl,hs,q⟩:=h
  rfl
 ·obtain ⟨a,ns,rfl,hl,hs,q⟩:=h
  refine ⟨_,PSs.nox (pss_cons (ps_set (i:=1) sc_law.nd rfl (Or.inl rfl) (pe_call G_law_source_of (hr.mono (by decide)) rfl (g_law_source_of T) kp_law_source_of bi_law_source_of .nil passF (pa_cons (pe_call G_law_cell_at (hr.mono (by decide)) rfl (g_law_cell_at T) kp_law_cell_at bi_law_cell_at .nil passF (pa_cons (pv 0) (pa_cons pe_int pa_nil))) pa_nil))) (pss_cons (ps_if (pt_not (pt_val (pe_call G_law_right (hr.mono (by decide)) rfl (g_law_right T) kp_law_right bi_law_right .nil passF (pa_cons (pv 1) (pa_cons (pe_make (mk_Code T) G_Code___init__ (hr.mono (by decide)) rfl (g_Code T) bi_Code___init__ .nil passF (pa_cons (pe_call G_law_wide (hr.mono (by decide)) rfl (g_law_wide T) kp_law_wide bi_law_wide .nil passF (pa_cons (pv 1) pa_nil)) pa_nil)) (pa_cons pe_int pa_nil)))))) (pss_one (ps_ret pe_bl)) pss_nil) (pss_cons (ps_for PassesOwn.never rfl (pi_list (pe_op op_cat (pe_lst (pa_cons (pe_call G_law_cell_at (hr.mono (by decide)) rfl (g_law_cell_at T) kp_law_cell_at bi_law_cell_at .nil passF (pa_cons (pv 0) (pa_cons pe_int pa_nil))) pa_nil)) (pe_slice sl_list (pv 0) (po_some pe_int) (po_some pe_int)))) (pg_name (i:=2) sc_law.nd rfl (Or.inl rfl)) (pss_cons (ps_set (i:=1) sc_law.nd rfl (Or.inl rfl) (pe_call G_law_source_of (hr.mono (by decide)) rfl (g_law_source_of T) kp_law_source_of bi_law_source_of .nil passF (pa_cons (pv 2) pa_nil))) (pss_one (ps_if (pt_not (pt_val (pe_call G_law_right (hr.mono (by decide)) rfl (g_law_right T) kp_law_right bi_law_right .nil passF (pa_cons (pv 1) (pa_cons (pe_make (mk_Code T) G_Code___init__ (hr.mono (by decide)) rfl (g_Code T) bi_Code___init__ .nil passF (pa_cons (pe_call G_law_statement (hr.mono (by decide)) rfl (g_law_statement T) kp_law_statement bi_law_statement .nil passF (pa_cons (pv 1) (pa_cons (pe_op op_add pe_int (pe_call G_law_draw (hr.mono (by decide)) rfl (g_law_draw T) kp_law_draw bi_law_draw .nil passF (pa_cons (pv 1) (pa_cons pe_int pa_nil)))) (pa_cons pe_int pa_nil)))) pa_nil)) (pa_cons pe_int pa_nil)))))) (pss_one (ps_ret pe_bl)) pss_nil)))) (pss_one (ps_ret pe_bl))))),?_⟩
  refine ⟨_,rfl,a,ns,0,rfl,hs,_,rfl,fun p1 sx1 sy1 n1=>?_⟩
  generalize e1:upd _ p1 _=H1
  obtain ⟨x1,s1,o1⟩:=new_of e1 n1
  clear e1
  have S1:Sg p1 hp0 H1 hp0 H1:=Sg.start (fun b o z=>by cases z) rfl ⟨_,_,_,s1⟩
  refine ⟨_,rfl,_,rfl,hp0,p1,rfl,S1.g.fh,rfl,S1.s,fun F2 H2 v2 d2 w2 g2 f2 s2 dv2 ok2 w4 gs2 dp2=>?_⟩
  have S2:Sg p1 hp0 H1 F2 H2:=⟨S1.g.trans g2,f2,s2⟩
  obtain ⟨N,fin,lp,N',fin',lp',w',T2⟩:=two67 ok2 w4 gs2 dp2
  refine fun q3 dx3 nq3 nd3 ne3=>?_
  generalize e3:upd (upd _ dx3 _) q3 _=H3
  obtain ⟨x3,hq3⟩:=make_of e3 nq3 nd3
  clear e3
  refine ⟨F2,q3,dx3,v2,d2,GS,N,fin,rfl,hq3,S2.g.fh.trans x3,ex_none S2.g.fh nq3,dv2,fun e he=>gs_parts he,gs2,T2.D.bd,fun A4 F4 H4 eA g4 C4=>⟨rfl,?_⟩⟩
  subst eA
  have S4:=S2.made67 x3 nq3 g4
  refine ⟨F4,p1,A4,d2,N,fin,lp,w2,N',fin',lp',w',90,rfl,S4.g.fh,S4.f,S4.s,C4,T2,by decide,fun H5 k5=>?_⟩
  have e5:Ex H H5:=fun b o hb=>k5 b o (S4.g.kp b o (x1 _ _ hb) (ne_of_none hb n1)) (ne_of_none hb n1)
  have hs5:=Evl.ex_l e5 hs
  refine ⟨_,rfl,itF rfl ?_⟩
  refine ⟨_,rfl,a,ns,0,rfl,hs5,sz (by simp),?_⟩
  intro p6 n6
  generalize e6:upd _ p6 _=H6
  obtain ⟨x6,s6,o6⟩:=new_of e6 n6
  clear e6
  have hs6:=Evl.ex_l x6 hs5
  refine ⟨_,rfl,1,rfl,5,rfl,a,_,rfl,hs6,?_⟩
  intro p7 n7
  generalize e7:upd _ p7 _=H7
  obtain ⟨x7,s7,o7⟩:=new_of e7 n7
  clear e7
  have hc2:(cutV (ns.map V.int) (some 1) (some 5)).length≤63:=Nat.le_trans (cutV_length ..) (by rw [List.length_map];exact hl)
  refine ⟨p6,p7,_,_,rfl,rfl,x7 _ _ s6,s7,sz (by simp;omega),?_⟩
  intro p8 n8
  generalize e8:upd _ p8 _=H8
  obtain ⟨x8,s8,o8⟩:=new_of e8 n8
  clear e8
  have isI:∀ (i:Nat) (x:V),([V.int (ns.getD 0 0)]++cutV (ns.map V.int) (some 1) (some 5))[i]?=some x→∃ c,x=.int c:=fun i x hx=>by
   have hm:=List.mem_of_getElem? hx
   rcases List.mem_append.mp hm with h1 | h1
   ·exact ⟨_,List.mem_singleton.mp h1⟩
   ·obtain ⟨c,_,e⟩:=List.mem_map.mp (cut_mem h1)
    exact ⟨c,e.symm⟩
  generalize [V.int (ns.getD 0 0)]++cutV (ns.map V.int) (some 1) (some 5)=cs at s8 isI
  refine ⟨p8,rfl,⟨_,Evl.sq_of s8⟩,?_⟩
  refine for_it (walk_list (xs:=cs)) (fun i σ' H'=>Ex H8 H'∧∃ u1 u2,σ'=[some (.ref a),u1,u2]) ?_ ?_ ?_ ?_
  ·exact ⟨Evl.Ex.refl _,_,_,rfl⟩
  ·exact fun i σ' H' _ ⟨e,_⟩=>Evl.sq_of (e _ _ s8)
  rotate_left
  ·rintro σ' H' _
   exact q H'
  rintro i v σ' Ha Hb hi ⟨e9,u1,u2,rfl⟩ ⟨rfl,hv⟩
  obtain ⟨c,rfl⟩:=isI i v hv
  refine ⟨_,rfl,c,rfl,fun p9 sx9 sy9 n9=>?_⟩
  generalize e10:upd _ p9 _=H10
  obtain ⟨x10,s10,o10⟩:=new_of e10 n9
  clear e10
  have S10:Sg p9 hp0 H10 hp0 H10:=Sg.start (fun b o z=>by cases z) rfl ⟨_,_,_,s10⟩
  refine ⟨_,rfl,_,rfl,_,rfl,p9,sx9,sy9,0,5,rfl,s10,(by decide),(by decide),fun sx' sy' sz' v v0 v1=>?_⟩
  generalize e11:upd _ p9 _=H11
  obtain ⟨s11,o11⟩:=set_of e11
  clear e11
  obtain ⟨n,rfl⟩:∃ n:Nat,v=(n:Int):=⟨v.toNat,by omega⟩
  have en:(2:Int) + (n:Int)=((2 + n:Nat):Int):=by omega
  have S11:=S10.one o11 ⟨_,_,_,s11⟩
  refine ⟨_,_,rfl,rfl,hp0,p9,2 + n,0,(by show [V.ref p9,V.int (2 + (n:Int)),V.int 0]=_;rw [en]<;>rfl),by omega,S11.g.fh,rfl,S11.s,by omega,fun F12 H12 vd d g12 f12 s12 dvd sd=>?_⟩
  have sd6:SD 6 0 d:=sd.mono (by omega)
  have S12:Sg p9 hp0 H10 F12 H12:=⟨S11.g.trans g12,f12,s12⟩
  obtain ⟨w12,hw,ok12⟩:=okS_sd sd6 (deep:=1) (blocks:=0) (by omega) (by omega)
  have h6:wMax 6=364:=by decide
  have dp12:=sd_depth67 sd6
  have gs12:=sd_gs67 sd6
  obtain ⟨N,fin,lp,N',fin',lp',w',T12⟩:=two67 ok12 (by omega) gs12 (by omega)
  refine fun q13 dx13 nq13 nd13 ne13=>?_
  generalize e13:upd (upd _ dx13 _) q13 _=H13
  obtain ⟨x13,hq13⟩:=make_of e13 nq13 nd13
  clear e13
  refine ⟨F12,q13,dx13,vd,d,GS,N,fin,rfl,hq13,S12.g.fh.trans x13,ex_none S12.g.fh nq13,dvd,fun e he=>gs_parts he,gs12,T12.D.bd,fun A14 F14 H14 eA g14 C14=>⟨rfl,?_⟩⟩
  subst eA
  have S14:=S12.made67 x13 nq13 g14
  refine ⟨F14,p9,A14,d,N,fin,lp,w12,N',fin',lp',w',16,rfl,S14.g.fh,S14.f,S14.s,C14,T12,by decide,fun H15 k15=>?_⟩
  refine ⟨_,rfl,itF rfl ?_⟩
  exact ⟨fun b o hb=>k15 b o (S14.g.kp b o (x10 _ _ (e9 _ _ hb)) (ne_of_none (e9 _ _ hb) n9)) (ne_of_none (e9 _ _ hb) n9),_,_,rfl⟩
end
end
end Fc
namespace Fc
open PySem PySem.Spec PyProof.Rows L2
theorem calm_fn {P:Program} {w:World} {K:PySem.W.Frag} {mg:Str→Option Value} {base:Heap} {k:Nat} {f:Addr} {fd:FuncData} {ps:List Str} {sp:Sp} (G:FnOk P w K mg base (L2.CX P w) k f fd ps sp) (hsp:∀ vs H Q E,sp vs H Q E→sp vs H Q (fun _ _ _=>False)):FnOk P w K mg base CX0 k f fd ps sp :=
 ⟨G.len,fun A outer s H args us vs Q E hr e b r h=>codeAny_mono (G.run A outer s H args us vs Q (fun _ _ _=>False) hr e b r (hsp _ _ _ _ h)) fun r s' hq=>by
  cases r with
  | error e =>
   obtain ⟨_,_,_,_,_,_,_,_,_,_,_,_,z⟩:=hq
   exact z.elim
  | ok fl=>cases fl<;>exact hq⟩
end Fc
open PySem PySem.W PyProof.Rows in
set_option maxRecDepth 100000 in
set_option maxHeartbeats 0 in
theorem PySem.Challenge.cw_finallycopies_k67_dead_parts_left_out_holds : PySem.Challenge.rw_finallycopies_k67_dead_parts_left_out.Holds := by
 w_on;o_law
 refine HandSHeadRun.head_any (r:=Fc.R) (q:=view Fc.R.prog [68]) (H:=Fc.hk) (ob:=Fc.ob) (M:=20000) (loose:=Fc.looseL) (d:=HandSHeadRun.topDef Fc.R.prog 68) (kwd:=[]) Fc.ob_eq
  (by kernel_rfl) (fun s=>by kernel_rfl) Fc.run (by kernel_rfl) (by kernel_rfl) (by kernel_rfl) (by rfl) (by first | assumption | decide +kernel) (by decide +kernel) ⟨rfl,rfl,rfl,rfl,rfl,by decide +kernel⟩ ?hw ?hc
 case hw=>w_witness2
 case hc =>
  refine L2.walk_ofE (l:=PySem.Challenge.rw_finallycopies_k67_dead_parts_left_out) (n:=63) (k:=90) (x:="_law_script") (CX:=L2.CX0) rfl (by decide) (by kernel_rfl) ⟨rfl,by decide,by decide⟩ ?F (fun _ _ _ _ z=>z)
  intro w mg fa h Y G hmg0
  obtain ⟨K,KX,c⟩:=Y
  have hmg:mg ("law":PySem.Str)=some (.ref fa):=by
   have e:(HandSHeadRun.topDef Fc.R.prog 68).name=("law":PySem.Str):=by kernel_rfl
   rw [← e]
   exact hmg0
  have T:Fc.Tx w h K mg:=⟨KX,G,c⟩
  obtain rfl:fa=He.ga K "law":=Value.ref.inj (Option.some.inj (hmg.symm.trans (Fc.g_law T)))
  obtain ⟨fd,F⟩:=Fc.F_law T
  have b:=L2.FunD.bindsA (ps:=["_law_script"]) F fun _ _ _ _ _ _ us hl=>match us,hl with | [_],_=>rfl
  refine ⟨K,fd,Fc.sp_law K,KX,fun s v=>b s [v] rfl,fun H a ns hl _ hS=>⟨a,ns,rfl,hl,hS,fun _=>rfl⟩,fun base _ _=>?_⟩
  obtain ⟨fd',G',_,_,F'⟩:=Fc.okF_law (P:=(PySem.Challenge.rw_finallycopies_k67_dead_parts_left_out).prog) (base:=base) T
  obtain rfl:fd=fd':=by
   obtain ⟨_,_,_,_,_,_,_,_,_,_,_,l1,_⟩:=F.ex
   obtain ⟨_,_,_,_,_,_,_,_,_,_,_,l2,_⟩:=F'.ex
   have z:=l1.symm.trans l2
   cases z
   rfl
  exact Fc.calm_fn G' (fun _ _ _ _ z=>z)
