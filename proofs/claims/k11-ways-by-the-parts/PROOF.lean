import PyProof.Rows.All
import Wide.All
import OpenK.AllK
import Wide.FinOn
import KE.KDictItemsList
import HandS.ForMost
import PyProof.EqAt
import PyProof.EqKinds
import PyProof.EnumMake
import HandS.Exc
import HandS.Conv
import HandS.Evl
import HandS.IsInst
import HandS.Style
import HandS.TupAny
import HandS.Defaults
import HandS.HeadHook4
import HandS.Walk
import KE.KExcInit
import KE.KExcIs
import HandS.ExcOwn
import HandS.ExcInit
import HandS.ExcValue
import HandS.OwnEq
import HandS.MakeKw
import HandS.TryMany
import HandS.ExcField
import HandS.CallLocal
import HandS.Lambda
import HandS.Nested
import HandS.EndTab
import HandS.HeadWalk
import PyProof.ReprRoads
import HandS.Head0
import HandS.Head1
import HandS.Head2
import HandS.HeadEnd
import HandS.HeadHook1
import HandS.HeadHook2
import HandS.HeadHook3
import HandS.More
import KE.KDictWalk
import KE.KDictDisplayH
import HandS.Iter
import HandS.Dict
import HandS.DictTup
import HandS.Small
import KE.LtData
import KE.SortData
import KE.KDictSum
import HandS.TupSets
import KE.KeyNested
import KE.KDictKeyed
import KE.KDictPairs
import HandS.SetFor
import HandS.Strs
import PyProof.CallFns
import PySem.Challenge.RW_finallycopies_k11_whole_ways_by_the_part
set_option Elab.async false
set_option linter.all false
set_option maxRecDepth 100000
set_option maxHeartbeats 4000000
namespace FcE
open PySem PySem.W PySem.Calls PyProof.Rows PyProof.V PySem.Spec
def EnB (h:Heap) (e it a:Addr) (f:Bool) (i:Int) (item:Value):Prop :=
 h.get? e=some { cls:=.type "enumerate",dict:=none,data:=.fields #[rawInt a,.bool f,.ref it,rawInt i,.none,item],slots:=#[] }
section
variable {prog:Program} {w:World} {A:Around} {E:Value→Shared→Prop} {s:Shared}
theorem enB_next {e it l a:Addr} {f:Bool} {oa:Obj} {i:Nat} {items:Array Value} {x item:Value} {Q:Option Value→Shared→Prop}
  (he:EnB s.heap e it a f i item) (ha:s.heap.get? a=some oa) (hae:a≠e) (hai:a≠it) (hit:s.heap.IsListIter it l i) (hl:s.heap.IsList l items) (hx:items[i]?=some x) (hne:e≠it)
  (hQ:∀ h',EnB h' e it a true ((i:Int) + 1) item→h'.IsListIter it l (i + 1) →
   h'.get? s.heap.objs.size=some { cls:=.type "tuple",data:=.seq #[.int i s.toks,x] }→h'.objs.size=s.heap.objs.size + 1 →
   (∀ b o,b≠e→b≠it→s.heap.get? b=some o→h'.get? b=some o)→Q (some (.ref s.heap.objs.size)) { s with heap:=h',toks:=s.toks + 1 }) :
  wpAny (model prog w) A (pyNext (.ref e)) Q E s:=by
 obtain ⟨hp,g,d,tk,os⟩:=s
 have hT:Shared.TypeIs ⟨hp,g,d,tk,os⟩ (.ref e) "enumerate":=⟨_,he,rfl⟩
 unfold pyNext
 refine wpAny_bind (wpAny_attempt (wpAny_callSpecial?_slot (name:=Str.ofString "__next__") hT F.slot_enumerate_next
  (wpAny_call_entry F.slot_enumerate_next hT F.entry_enumerate_next ?_ (F.args_enumerate_next_1 _))))
 show wpAny _ _ (field (.ref e) 2 >>= _) _ _ _
 refine wpAny_bind (wpAny_field he rfl (x:=.ref it) rfl ?_)
 refine wpAny_bind (wpAny_nextOf_list_item hit hl hx fun h1 hit1 hs1=>?_)
 replace hs1:Heap.SameBut it hp h1:=hs1
 have he1:EnB h1 e it a f i item:=(hs1.2 e hne).trans he
 show wpAny _ _ (field (.ref e) 3 >>= _) _ _ ⟨h1,g,d,tk,os⟩
 refine wpAny_bind (wpAny_field he1 rfl (x:=rawInt i) rfl ?_)
 show wpAny _ _ (field (.ref e) 4 >>= _) _ _ ⟨h1,g,d,tk,os⟩
 refine wpAny_bind (wpAny_field he1 rfl (x:=.none) rfl ?_)
 show wpAny _ _ (mkInt i >>= _) _ _ ⟨h1,g,d,tk,os⟩
 refine wpAny_bind (wpAny_mkInt ?_)
 show wpAny _ _ (setField (.ref e) 3 (rawInt ((i:Int) + 1)) >>= _) _ _ ⟨h1,g,d,tk + 1,os⟩
 refine wpAny_bind (wpAny_setField_rec he1 (by simp) fun h2 he2 hs2=>?_)
 replace hs2:Heap.SameBut e h1 h2:=hs2
 replace he2:EnB h2 e it a f ((i:Int) + 1) item:=he2
 show wpAny _ _ (setField (.ref e) 4 .none >>= _) _ _ ⟨h2,g,d,tk + 1,os⟩
 refine wpAny_bind (wpAny_setField_rec he2 (by simp) fun h3 he3 hs3=>?_)
 replace hs3:Heap.SameBut e h2 h3:=hs3
 replace he3:EnB h3 e it a f ((i:Int) + 1) item:=he3
 show wpAny _ _ (newTuple [.int i tk,x] >>= _) _ _ ⟨h3,g,d,tk + 1,os⟩
 refine wpAny_bind (wpAny_newTuple ?_)
 have he4:EnB (h3.push { cls:=.type "tuple",data:=.seq #[.int i tk,x] }) e it a f ((i:Int) + 1) item:=Heap.get?_push_of_some _ he3
 generalize hh4:h3.push { cls:=.type "tuple",data:=.seq #[.int i tk,x] }=h4 at he4
 have hsz:h3.objs.size=hp.objs.size:=by rw [hs3.1,hs2.1,hs1.1]
 have hel:e<hp.objs.size:=Heap.lt_size he
 have ht4:h4.get? hp.objs.size=some { cls:=.type "tuple",data:=.seq #[.int i tk,x] }:=by rw [← hh4,← hsz];exact Heap.get?_push_size _ rfl
 have hz4:h4.objs.size=hp.objs.size + 1:=by rw [← hh4,Heap.size_push,hsz]
 have hk4:∀ b o,b≠e→b≠it→hp.get? b=some o→h4.get? b=some o:=fun b o hbe hbi hb=>by
  rw [← hh4];exact Heap.get?_push_of_some _ (hs3.extBut b o hbe (hs2.extBut b o hbe (hs1.extBut b o hbi hb)))
 have hit4:h4.IsListIter it l (i + 1):=by
  rw [← hh4];obtain ⟨o,ho,r⟩:=(hit1.extBut hs2.extBut (Ne.symm hne)).extBut hs3.extBut (Ne.symm hne);exact ⟨o,Heap.get?_push_of_some _ ho,r⟩
 show wpAny _ _ (Builtin.SmallTypes.ownedTupleIsFree (.ref e) >>= _) _ _ ⟨h4,g,d,tk + 1,os⟩
 rw [hsz]
 have ha4:h4.get? a=some oa:=hk4 a oa hae hai ha
 clear hh4 he3 hs3 he2 hs2 he1 hs1 hit1 hsz h3 h2 h1
 refine wpAny_bind ?_
 unfold Builtin.SmallTypes.ownedTupleIsFree
 refine wpAny_bind (wpAny_field he4 rfl (x:=rawInt a) rfl ?_)
 show wpAny _ _ (loadIfAlive ((a:Int).toNat) >>= _) _ _ _
 rw [Int.toNat_natCast]
 refine wpAny_bind (kdx_alive ha4 ?_)
 simp only [Option.isNone_some,Bool.false_eq_true,if_false]
 refine wpAny_bind (wpAny_field he4 rfl (x:=.bool f) rfl ?_)
 have fin:∀ h5:Heap,EnB h5 e it a true ((i:Int) + 1) item→Heap.SameBut e h4 h5→Q (some (.ref hp.objs.size)) ⟨h5,g,d,tk + 1,os⟩:=fun h5 he5 hs5 =>
  hQ h5 he5 (hit4.extBut hs5.extBut (Ne.symm hne)) (by exact hs5.extBut _ _ (Nat.ne_of_gt hel) ht4) (by show h5.objs.size=hp.objs.size + 1;rw [hs5.1,hz4]) fun b o hbe hbi hb=>hs5.extBut b o hbe (hk4 b o hbe hbi hb)
 cases f with
 | true =>
  rw [if_neg (show ¬ ((Value.bool true != Value.bool true)=true) from Bool.false_ne_true)]
  refine wpAny_pure ?_
  simp only [Bool.false_eq_true,if_false]
  exact wpAny_pure ⟨_,rfl,wpAny_pure (fin h4 he4 (Heap.SameBut.refl _ _))⟩
 | false =>
  rw [if_pos (show (Value.bool false != Value.bool true)=true from rfl)]
  refine wpAny_bind (wpAny_setField_rec he4 (by simp) fun h5 he5 hs5=>?_)
  replace hs5:Heap.SameBut e h4 h5:=hs5
  replace he5:EnB h5 e it a true ((i:Int) + 1) item:=he5
  refine wpAny_pure ?_
  simp only [Bool.false_eq_true,if_false]
  exact wpAny_pure ⟨_,rfl,wpAny_pure (fin h5 he5 hs5)⟩
theorem enB_done {e it l a:Addr} {f:Bool} {i:Nat} {items:Array Value} {item:Value} {Q:Option Value→Shared→Prop} (hh:A.handled=none)
  (he:EnB s.heap e it a f i item) (hit:s.heap.IsListIter it l i) (hl:s.heap.IsList l items) (hx:items[i]?=none)
  (hQ:∀ h',Heap.ExtBut it s.heap h'→Q none { s with heap:=h' }):wpAny (model prog w) A (pyNext (.ref e)) Q E s:=by
 have hT:s.TypeIs (.ref e) "enumerate":=⟨_,he,rfl⟩
 unfold pyNext
 refine wpAny_bind (wpAny_attempt (wpAny_callSpecial?_slot (name:=Str.ofString "__next__") hT F.slot_enumerate_next
  (wpAny_call_entry F.slot_enumerate_next hT F.entry_enumerate_next ?_ (F.args_enumerate_next_1 _))))
 show wpAny _ _ (field (.ref e) 2 >>= _) _ _ _
 refine wpAny_bind (wpAny_field he rfl (x:=.ref it) rfl ?_)
 refine wpAny_bind (wpAny_nextOf_list_end hh hit hl hx fun h' x he' hx'=>?_)
 obtain ⟨o,ho,hc⟩:=hx'
 refine wpAny_bind (wpAny_isInstance (T:="StopIteration") (b:=true) ⟨o,ho,hc⟩ isSubtype_stop ?_)
 exact wpAny_pure (hQ _ he')
end
def EnSt (h:Heap) (e it S:Addr) (i:Nat):Prop :=
 (i=0∧∃ old,IsEnum h e it 0 old)∨∃ a f oa item,EnB h e it a f i item∧h.get? a=some oa∧a≠e∧a≠it∧a≠S
theorem EnSt.keep {h h':Heap} {e it S:Addr} {i:Nat} (x:EnSt h e it S i) (hk:∀ b o,b≠S→h.get? b=some o→h'.get? b=some o) (hS:e≠S):EnSt h' e it S i:=by
 rcases x with ⟨z,old,q⟩ | ⟨a,f,oa,item,q,r,n1,n2,n3⟩
 ·exact .inl ⟨z,old,hk e _ hS q⟩
 ·exact .inr ⟨a,f,oa,item,hk e _ hS q,hk a oa n3 r,n1,n2,n3⟩
structure EnG (items:Array Value) (lo:Addr) (h:Heap) (as:List Addr):Prop where
 above:∀ a∈as,lo<a
 nodup:as.Nodup
 pairs:∀ (j:Nat) (a:Addr),as[j]?=some a→∃ t x,items[j]?=some x∧h.get? a=some { cls:=.type "tuple",data:=.seq #[.int j t,x] }
section
variable {prog:Program} {w:World} {A:Around} {E:Value→Shared→Prop} {s:Shared} {R:Result→Shared→Prop} {items:Array Value}
theorem en_item {e it l S:Addr} {i:Nat} {x:Value} {Q:Option Value→Shared→Prop} (hst:EnSt s.heap e it S i) (hS:S<s.heap.objs.size) (hit:s.heap.IsListIter it l i) (hl:s.heap.IsList l items) (hx:items[i]?=some x) (hne:e≠it)
  (hQ:∀ h',EnSt h' e it S (i + 1)→h'.IsListIter it l (i + 1)→h'.get? s.heap.objs.size=some { cls:=.type "tuple",data:=.seq #[.int i s.toks,x] }→h'.objs.size=s.heap.objs.size + 1 →
   (∀ b o,b≠e→b≠it→s.heap.get? b=some o→h'.get? b=some o)→Q (some (.ref s.heap.objs.size)) { s with heap:=h',toks:=s.toks + 1 }) :
  wpAny (model prog w) A (pyNext (.ref e)) Q E s:=by
 have itl:it<s.heap.objs.size:=by obtain ⟨_,q,_⟩:=hit;exact Heap.lt_size q
 rcases hst with ⟨z,old,q⟩ | ⟨a,f,oa,item,q,r,n1,n2,n3⟩
 ·subst z
  refine wpAny_pyNext_enum_item q hit hl hx hne fun h' ho h1 h2 h3 hk=>hQ h' (.inr ⟨s.heap.objs.size,false,_,x,?_,h2,Nat.ne_of_gt (Heap.lt_size q),Nat.ne_of_gt itl,Nat.ne_of_gt hS⟩) h1 h2 h3 hk
  exact ho
 ·refine enB_next q r n1 n2 hit hl hx hne fun h' ho h1 h2 h3 hk=>hQ h' (.inr ⟨a,true,oa,item,?_,hk a oa n1 n2 r,n1,n2,n3⟩) h1 h2 h3 hk
  have z:((i + 1:Nat):Int)=(i:Int) + 1:=by omega
  rw [z]
  exact ho
theorem en_done {e it l S:Addr} {i:Nat} {Q:Option Value→Shared→Prop} (hh:A.handled=none) (hst:EnSt s.heap e it S i) (hit:s.heap.IsListIter it l i) (hl:s.heap.IsList l items) (hx:items[i]?=none)
  (hQ:∀ h',Heap.ExtBut it s.heap h'→Q none { s with heap:=h' }):wpAny (model prog w) A (pyNext (.ref e)) Q E s:=by
 rcases hst with ⟨z,old,q⟩ | ⟨a,f,oa,item,q,r,n1,n2,n3⟩
 ·subst z
  exact wpAny_pyNext_enum_end hh q hit hl hx hQ
 ·exact enB_done hh q hit hl hx hQ
theorem en_loop {S e it l:Addr} (hh:A.handled=none) (hSe:e<S) (hSi:it<S) (hSl:l≠S) (hle:l≠e) (hli:l≠it) (hne:e≠it) (hn:items.size≤sizeLine) (res:Value) {h0:Heap}
  (hR:∀ h' tk acc c as,(∀ b o,b≠S→b≠e→b≠it→h0.get? b=some o→h'.get? b=some o)→h'.get? S=some { cls:=.type "list",dict:=none,data:=.seq acc c,slots:=#[] }→as.length=items.size→EnG items S h' as →
   acc.toList=as.map Value.ref→R (.ok (.ret res)) { s with heap:=h',toks:=tk }) :
  ∀ (k i:Nat) (h:Heap) (tk c:Nat) (acc:Array Value) (as:List Addr),items.size - i=k→i≤items.size→EnSt h e it S i→h.IsListIter it l i→h.IsList l items→(∀ b o,b≠S→b≠e→b≠it→h0.get? b=some o→h.get? b=some o) →
   h.get? S=some { cls:=.type "list",dict:=none,data:=.seq acc c,slots:=#[] }→acc.toList=as.map Value.ref→as.length=i→EnG items S h as →
   codeAny (model prog w) A (.builtin "list.extend.loop" ⟨[.ref S,.ref e,res],[]⟩) R { s with heap:=h,toks:=tk }:=by
 have nSe:S≠e:=Nat.ne_of_gt hSe
 have nSi:S≠it:=Nat.ne_of_gt hSi
 intro k
 induction k with
 | zero =>
  intro i h tk c acc as hk hi hst hit hl hkeep hS hacc hal hG
  have hin:i=items.size:=by omega
  refine codeAny_builtin PySem.F.entry_extend_loop ?_
  rw [Around.under_plainId PySem.F.plain_extend_loop _]
  show wpAny _ A.in1 (pyNext (.ref e) >>= _) _ _ _
  refine wpAny_bind (en_done (s:={ s with heap:=h,toks:=tk }) (A:=A.in1) hh hst hit hl (Array.getElem?_eq_none (by omega)) fun h' he=>?_)
  refine wpAny_pure (hR h' tk acc c as (fun b o h1 h2 h3 z=>he b o h3 (hkeep b o h1 h2 h3 z)) (he S _ nSi hS) (by omega) ⟨hG.above,hG.nodup,fun j a hj=>?_⟩ hacc)
  obtain ⟨t,x,e1,e2⟩:=hG.pairs j a hj
  exact ⟨t,x,e1,he a _ (Nat.ne_of_gt (Nat.lt_trans hSi (hG.above a (List.mem_of_getElem? hj)))) e2⟩
 | succ k ih =>
  intro i h tk c acc as hk hi hst hit hl hkeep hS hacc hal hG
  have hlt:i<items.size:=by omega
  have hsz:acc.size=i:=by rw [← Array.length_toList,hacc,List.length_map,hal]
  have hx:items[i]?=some items[i]:=Array.getElem?_eq_getElem hlt
  have hSz:S<h.objs.size:=Heap.lt_size hS
  refine codeAny_builtin PySem.F.entry_extend_loop ?_
  rw [Around.under_plainId PySem.F.plain_extend_loop _]
  show wpAny _ A.in1 (pyNext (.ref e) >>= _) _ _ _
  refine wpAny_bind (en_item (s:={ s with heap:=h,toks:=tk }) (S:=S) hst hSz hit hl hx hne fun h' hst' hit' ht hz hkp=>?_)
  dsimp only at ht hz hkp ⊢
  have hS':=hkp S _ nSe nSi hS
  have up:∀ b o,b≠S→h'.get? b=some o→(h'.update S (Obj.mapSeq (·.push (Value.ref h.objs.size)))).get? b=some o:=fun b o hb z=>(Heap.get?_update_other _ _ (Ne.symm hb)).trans z
  have hl':(h'.update S (Obj.mapSeq (·.push (Value.ref h.objs.size)))).IsList l items:=hl.at fun o z=>up l o hSl (hkp l o hle hli z)
  have hit2:(h'.update S (Obj.mapSeq (·.push (Value.ref h.objs.size)))).IsListIter it l (i + 1):=hit'.at fun o z=>up it o (Ne.symm nSi) z
  show wpAny _ A.in1 (updateSeq S (·.push (Value.ref h.objs.size)) >>= _) _ _ _
  refine wpAny_bind ?_
  refine wpAny_updateSeq hS' rfl (wpAny_pure ⟨plainId_quiet PySem.F.plain_extend_loop _,ih (i + 1) _ (tk + 1) _ (acc.push (Value.ref h.objs.size)) (as++[h.objs.size]) (by omega) hlt (hst'.keep up (Ne.symm nSe)) hit2 hl'
   (fun b o h1 h2 h3 z=>up b o h1 (hkp b o h2 h3 (hkeep b o h1 h2 h3 z))) (Heap.get?_update_self _ hS' rfl) (by rw [Array.toList_push,hacc,List.map_append];rfl) (by rw [List.length_append,hal];rfl) ⟨?_,?_,?_⟩⟩) (by rw [hsz];omega) (by show (acc.push (Value.ref h.objs.size)).size≤sizeLine + 1;rw [Array.size_push,hsz];omega)
  ·intro a ha
   rcases List.mem_append.mp ha with ha | ha
   ·exact hG.above a ha
   ·rw [List.mem_singleton.mp ha];exact hSz
  ·refine List.nodup_append.mpr ⟨hG.nodup,List.nodup_cons.mpr ⟨List.not_mem_nil,List.nodup_nil⟩,fun a ha b hb=>?_⟩
   rw [List.mem_singleton.mp hb]
   obtain ⟨j,hj⟩:=List.mem_iff_getElem?.mp ha
   obtain ⟨_,_,_,z⟩:=hG.pairs j a hj
   exact Nat.ne_of_lt (Heap.lt_size z)
  ·intro j b hj
   rcases Nat.lt_trichotomy j as.length with h1 | h1 | h1
   ·rw [List.getElem?_append_left h1] at hj
    obtain ⟨t,x,e1,e2⟩:=hG.pairs j b hj
    have hb:=hG.above b (List.mem_of_getElem? hj)
    exact ⟨t,x,e1,up b _ (Nat.ne_of_gt hb) (hkp b _ (Nat.ne_of_gt (Nat.lt_trans hSe hb)) (Nat.ne_of_gt (Nat.lt_trans hSi hb)) e2)⟩
   ·subst h1
    have hb:h.objs.size=b:=by simpa using hj
    subst hb
    subst hal
    exact ⟨tk,_,hx,up _ _ (Nat.ne_of_gt hSz) ht⟩
   ·have hnone:(as++[h.objs.size])[j]?=none:=List.getElem?_eq_none (by rw [List.length_append,List.length_singleton];omega)
    rw [hnone] at hj;cases hj
end
theorem nolen_enum:typeLookup (.type "enumerate") "__len__"=pure none:=by rw [typeLookup_type,builtinLookup_eq_fast];kernel_rfl
theorem nohint_enum:typeLookup (.type "enumerate") "__length_hint__"=pure none:=by rw [typeLookup_type,builtinLookup_eq_fast];kernel_rfl
section
variable {prog:Program} {w:World} {A:Around} {E:Value→Shared→Prop} {s:Shared} {items:Array Value}
theorem en_hint {r:Addr} {Q:Bool→Shared→Prop} (hT:s.TypeIs (.ref r) "enumerate") (h:Q true s):wpAny (model prog w) A (Builtin.List.listLengthHint (.ref r)) Q E s:=by
 unfold Builtin.List.listLengthHint
 refine wpAny_bind (wpAny_specialOf hT nolen_enum ?_)
 refine wpAny_ite_split (fun hab=>absurd hab (by decide)) (fun _=>?_)
 refine wpAny_ite_split (fun hab=>absurd hab (by decide)) (fun _=>?_)
 refine wpAny_bind (wpAny_specialOf hT nohint_enum ?_)
 exact wpAny_pure h
theorem en_extend {R:Result→Shared→Prop} {S e it l:Addr} (hh:A.handled=none) (hSe:e<S) (hSi:it<S) (hSl:l≠S) (hle:l≠e) (hli:l≠it) (hne:e≠it) (hst:IsEnum s.heap e it 0 .none) (hit:s.heap.IsListIter it l 0) (hl:s.heap.IsList l items)
  (res:Value) (c0:Nat) (hS:s.heap.get? S=some { cls:=.type "list",data:=.seq #[] c0 })
  (hR:∀ h' tk acc c as,(∀ b o,b≠S→b≠e→b≠it→s.heap.get? b=some o→h'.get? b=some o)→h'.get? S=some { cls:=.type "list",dict:=none,data:=.seq acc c,slots:=#[] }→as.length=items.size→EnG items S h' as →
   acc.toList=as.map Value.ref→R (.ok (.ret res)) { s with heap:=h',toks:=tk }) (hn:items.size≤sizeLine) :
  wpAny (model prog w) A.in1 (Builtin.List.listExtendWith (.ref S) (.ref e) res)
   (fun fin s'=>match fin with | .done f=>R (.ok f) s' | .again c'=>c'.quiet=true∧codeAny (model prog w) A c' R s') (fun e s'=>R (.error e) s') s:=by
 have nSe:S≠e:=Nat.ne_of_gt hSe
 have hT:s.TypeIs (.ref e) "enumerate":=⟨_,hst,rfl⟩
 have key:∀ (h:Heap) (c1 tk:Nat),(∀ b o,b≠S→s.heap.get? b=some o→h.get? b=some o)→h.get? S=some { cls:=.type "list",data:=.seq #[] c1 } →
   codeAny (model prog w) A (.builtin "list.extend.loop" ⟨[.ref S,.ref e,res],[]⟩) R { s with heap:=h,toks:=tk }:=by
  intro h c1 tk hk hS1
  exact en_loop (items:=items) (s:=s) (h0:=s.heap) hh hSe hSi hSl hle hli hne hn res hR items.size 0 h tk c1 #[] [] (Nat.sub_zero _) (Nat.zero_le _) (.inl ⟨rfl,.none,hk e _ (Ne.symm nSe) hst⟩)
   (hit.at fun o z=>hk it o (Nat.ne_of_lt hSi) z) (hl.at fun o z=>hk l o hSl z) (fun b o h1 _ _ z=>hk b o h1 z) hS1 rfl rfl ⟨(fun _ z=>nomatch z),List.nodup_nil,fun j a hj=>by simp at hj⟩
 unfold Builtin.List.listExtendWith
 refine wpAny_bind (wpAny_typeOf (T:="enumerate") hT ?_)
 have h1:Builtin.List.listSameRef (.ref S) (.ref e)=false:=by simp [Builtin.List.listSameRef,nSe]
 have h2:(Value.type "enumerate" == Value.type "list")=false:=by decide
 have h3:(Value.type "enumerate" == Value.type "tuple")=false:=by decide
 simp only [h1,h2,h3,Bool.or_false,Bool.false_eq_true,if_false]
 refine wpAny_bind (wpAny_pyIter_enum hst ?_)
 refine wpAny_bind (wpAny_holding (en_hint hT ?_))
 refine wpAny_ite_split (fun _=>?_) (fun _=>wpAny_pure ⟨plainId_quiet PySem.F.plain_extend_loop _,key _ c0 _ (fun b o _ z=>z) hS⟩)
 refine wpAny_bind (wpAny_rule ?_)
 refine wpAny_bind ?_
 show wpAny _ _ (updateSeq S (·.push .none) >>= fun _=>updateSeq S (·.pop)) _ _ _
 refine wpAny_bind (wpAny_updateSeq hS rfl ?_)
 have hS2:=Heap.get?_update_self (Obj.mapSeq (·.push Value.none)) hS rfl
 refine wpAny_updateSeq (hz:=by seq_fits) hS2 rfl ?_
 have hS3:=Heap.get?_update_self (Obj.mapSeq (·.pop)) hS2 rfl
 refine wpAny_pure ⟨plainId_quiet PySem.F.plain_extend_loop _,key _ _ _ (fun b o hb z=>?_) hS3⟩
 exact (Heap.get?_update_other _ _ (Ne.symm hb)).trans ((Heap.get?_update_other _ _ (Ne.symm hb)).trans z)
theorem en_call {Q:Value→Shared→Prop} {e it l:Addr} (hh:A.handled=none) (hle:l≠e) (hli:l≠it) (hne:e≠it) (hst:IsEnum s.heap e it 0 .none) (hit:s.heap.IsListIter it l 0) (hl:s.heap.IsList l items) (hn:items.size≤sizeLine)
  (hQ:∀ h' tk acc c as,(∀ b o,b≠e→b≠it→s.heap.get? b=some o→h'.get? b=some o)→h'.get? s.heap.objs.size=some { cls:=.type "list",dict:=none,data:=.seq acc c,slots:=#[] }→as.length=items.size→EnG items s.heap.objs.size h' as →
   acc.toList=as.map Value.ref→Q (.ref s.heap.objs.size) { s with heap:=h',toks:=tk }) :
  wpAny (model prog w) A (call (.type "list") [.ref e]) Q E s:=by
 refine callType_codes (Q₁:=fun obj s₁=>obj=.ref s.heap.objs.size∧s₁={ s with heap:=s.heap.push { cls:=.type "list",data:=.seq #[] } }) PySem.F.called_list (PySem.F.typeCall_list_1 _) PySem.F.entry_list_init
  (code_list_new _ ⟨rfl,rfl⟩) fun obj s₁ h₁=>?_
 obtain ⟨rfl,rfl⟩:=h₁
 have up:∀ b o,s.heap.get? b=some o→(s.heap.push { cls:=.type "list",data:=.seq #[] }).get? b=some o:=fun b o z=>Heap.get?_push_of_some _ z
 have hS:(s.heap.push { cls:=.type "list",data:=.seq #[] }).get? s.heap.objs.size=some { cls:=.type "list",data:=.seq #[] }:=Heap.get?_push_size _ rfl
 have le:e<s.heap.objs.size:=Heap.lt_size hst
 have li:it<s.heap.objs.size:=by obtain ⟨_,q,_⟩:=hit;exact Heap.lt_size q
 have ll:l≠s.heap.objs.size:=by obtain ⟨_,q,_⟩:=hl;exact Nat.ne_of_lt (Heap.lt_size q)
 refine ⟨⟨_,hS,rfl⟩,PySem.F.args_list_init_2 _ _,?_⟩
 show wpAny _ _ (do let old ← Builtin.List.listItems (.ref s.heap.objs.size);Builtin.List.listUpdate (.ref s.heap.objs.size) (fun _=>#[]);letGo old.toList.reverse;Builtin.List.listExtendWith (.ref s.heap.objs.size) (.ref e) .none) _ _ _
 refine wpAny_bind ?_
 unfold Builtin.List.listItems
 refine wpAny_bind (wpAny_seqItems hS rfl (wpAny_pure ?_))
 show wpAny _ _ (updateSeq s.heap.objs.size (fun _=>#[]) >>= fun _=>letGo (#[]:Array Value).toList.reverse >>= fun _=>Builtin.List.listExtendWith (.ref s.heap.objs.size) (.ref e) .none) _ _ _
 refine wpAny_bind (wpAny_updateSeq hS rfl ?_)
 have hS2:=Heap.get?_update_self (Obj.mapSeq (fun _=>(#[]:Array Value))) hS rfl
 have oth:∀ b o,b≠s.heap.objs.size→s.heap.get? b=some o→((s.heap.push { cls:=.type "list",data:=.seq #[] }).update s.heap.objs.size (Obj.mapSeq (fun _=>(#[]:Array Value)))).get? b=some o :=
  fun b o hb z=>(Heap.get?_update_other _ _ (Ne.symm hb)).trans (up b o z)
 refine wpAny_bind (wpAny_letGo ?_)
 refine en_extend (A:=A.in1) hh le li ll hle hli hne (oth e _ (Nat.ne_of_lt le) hst) (hit.at fun o z=>oth it o (Nat.ne_of_lt li) z) (hl.at fun o z=>oth l o ll z) .none _ hS2 (fun h' tk acc c as hk h1 h2 h3 h4=>?_) hn
 exact ⟨rfl,hQ h' tk acc c as (fun b o n1 n2 z=>hk b o (Nat.ne_of_lt (Heap.lt_size z)) n1 n2 (oth b o (Nat.ne_of_lt (Heap.lt_size z)) z)) h1 h2 h3 h4⟩
end
end FcE
set_option maxRecDepth 100000
set_option maxHeartbeats 4000000
namespace FcR
open PySem PySem.Spec PyProof.Rows L2
theorem passF {P:Program} {w:World} {X:Cx}:Passes (CX P w) X (fun _ _ _=>False):=fun _ _ _ _ _ _ _ h=>by
 obtain ⟨_,_,_,_,_,_,_,_,_,_,_,_,z⟩:=h
 exact z.elim
def gFld (K:PySem.W.Frag) (to:TE) (f:Str):TG:=fun v σ H Q=>to σ H fun x H1=>∃ a C dx fs,x=.ref a∧H1 a=some (.ins C dx fs)∧Cls K C∧NoAttr K C f∧fs.length<1000∧Q σ (upd H1 a (.ins C dx (putF f v fs)))
theorem pg_fld {X:Cx} {o:Expr} {f:Str} {pos:Pos} {to:TE} (ho:PE X o to):PG X (.Attribute o f pos) (gFld X.K to f):=by
 refine ⟨fun pins s σ H v u Q I r h=>?_⟩
 have ea:assign (.Attribute o f pos) X.env u=(do
   let ov ← holding [u] (eval o X.env)
   standAt pos.atName
   holding [u,ov] (setAttr ov f u)
   release [u,ov] []):=rfl
 rw [ea]
 refine wpAny_bind (wpAny_holding (thn (ho.run pins s σ H _ I h) fun ov s1 ⟨x,H1,I1,r1,a,C,dx,fs,ex,e1,c,n,l,q⟩=>?_))
 subst ex
 obtain rfl:ov=Value.ref a:=r1
 refine wpAny_bind (wpAny_standAt (wpAny_bind (wpAny_holding ?_)))
 exact setattr_ok I1 e1 c n l r fun s3 I3=>wpAny_release ⟨σ,_,I3,q⟩
def putP:Hp→List Addr→Nat→List V→Hp
 | H,a::as,j,x::xs=>putP (upd H a (.tup [.int (j:Int),x])) as (j + 1) xs
 | H,_,_,_=>H
theorem putP_off {b:Addr}:∀ (as:List Addr) (xs:List V) (j:Nat) (H:Hp),b ∉ as→putP H as j xs b=H b
 | [],_,_,_,_=>rfl
 | _::_,[],_,_,_=>rfl
 | a::as,x::xs,j,H,h=>by
  show putP (upd H a (.tup [.int (j:Int),x])) as (j + 1) xs b=H b
  rw [putP_off as xs _ _ (fun z=>h (List.mem_cons_of_mem _ z)),upd_ne (fun z=>h (by rw [z];exact List.mem_cons_self))]
theorem putP_at:∀ (as:List Addr) (xs:List V) (j:Nat) (H:Hp),as.length=xs.length→as.Nodup→∀ (i:Nat) (a:Addr) (x:V),as[i]?=some a→xs[i]?=some x→putP H as j xs a=some (.tup [.int ((j + i:Nat):Int),x])
 | [],_,_,_,_,_,i,a,x,h,_=>by simp at h
 | _::_,[],_,_,h,_,_,_,_,_,_=>by cases h
 | a0::as,x0::xs,j,H,h,hn,0,a,x,h1,h2=>by
  have hn':=List.nodup_cons.mp hn
  simp at h1 h2
  subst h1 h2
  show putP (upd H a0 (.tup [.int (j:Int),x0])) as (j + 1) xs a0=_
  rw [putP_off as xs _ _ hn'.1,upd_same]<;>rfl
 | a0::as,x0::xs,j,H,h,hn,i + 1,a,x,h1,h2=>by
  have ih:=putP_at as xs (j + 1) (upd H a0 (.tup [.int (j:Int),x0])) (Nat.succ.inj h) (List.nodup_cons.mp hn).2 i a x (by simpa using h1) (by simpa using h2)
  have e:j + 1 + i=j + (i + 1):=by omega
  rw [e] at ih
  exact ih
def rEnumL (K:PySem.W.Frag):V→Hp→VK→Prop:=fun x H Q=>∃ (a:Addr) (xs:List V),x=.ref a∧SqL K H a xs ∧
 ∀ (H':Hp) (p:Addr) (ts:List Addr),(∀ b o,H b=some o→H' b=some o)→H p=none→(∀ t∈ts,H t=none)→p ∉ ts→ts.Nodup→ts.length=xs.length→H' p=some (.lst (ts.map V.ref)) →
  (∀ (i:Nat) (t:Addr) (x:V),ts[i]?=some t→xs[i]?=some x→H' t=some (.tup [.int (i:Int),x]))→Q (.ref p) H'
def tListEnum (K:PySem.W.Frag) (te:TE):TE:=fun σ H Q=>te σ H fun x H1=>rEnumL K x H1 Q
theorem vals_refs:∀ as:List Addr,Vals (as.map V.ref) (as.map Value.ref)
 | []=>.nil
 | _::as=>.cons rfl (vals_refs as)
section
variable {X:Cx} {e:Expr} {te:TE} {p p2 pos2 pos:Pos}
theorem enum_laid {pins:List (Addr×Obj)} {σ:L2.St} {H:Hp} {s:Shared} {h':Heap} {tk:Nat} {xs:List V} {its:List Value} {acc:Array Value} {c:Nat} {as:List Addr} {S:Addr} (hge:s.heap.objs.size≤S) (I:Inv X pins σ H s) (hz:xs.length≤sizeLine) (rv:Vals xs its)
  (hk:∀ b o,s.heap.get? b=some o→h'.get? b=some o) (hS:h'.get? S=some { cls:=.type "list",dict:=none,data:=.seq acc c,slots:=#[] }) (hl:as.length=xs.length) (hG:FcE.EnG its.toArray S h' as) (hacc:acc.toList=as.map Value.ref) :
  ∃ H':Hp,(∀ b o,H b=some o→H' b=some o)∧H S=none∧(∀ t∈as,H t=none)∧S ∉ as∧H' S=some (.lst (as.map V.ref)) ∧
   (∀ (i:Nat) (t:Addr) (x:V),as[i]?=some t→xs[i]?=some x→H' t=some (.tup [.int (i:Int),x]))∧Inv X pins σ H' { s with heap:=h',toks:=tk }:=by
 have hSn:S ∉ as:=fun z=>Nat.lt_irrefl _ (hG.above _ z)
 have new:∀ t∈as,H t=none:=fun t ht=>I.hok.fresh (Nat.le_trans hge (Nat.le_of_lt (hG.above t ht)))
 have newS:H S=none:=I.hok.fresh hge
 have atP:∀ (i:Nat) (t:Addr) (x:V),as[i]?=some t→xs[i]?=some x→putP (upd H S (.lst (as.map V.ref))) as 0 xs t=some (.tup [.int (i:Int),x]):=fun i t x h1 h2=>by
  have z:=putP_at as xs 0 (upd H S (.lst (as.map V.ref))) hl hG.nodup i t x h1 h2
  rw [Nat.zero_add] at z
  exact z
 have off:∀ b,b ∉ as→b≠S→putP (upd H S (.lst (as.map V.ref))) as 0 xs b=H b:=fun b h1 h2=>by rw [putP_off as xs _ _ h1,upd_ne h2]
 have low:∀ b o,s.heap.get? b=some o→b ∉ as∧b≠S:=fun b o z=>⟨fun y=>absurd (Heap.lt_size z) (Nat.not_lt.mpr (Nat.le_trans hge (Nat.le_of_lt (hG.above b y)))),Nat.ne_of_lt (Nat.lt_of_lt_of_le (Heap.lt_size z) hge)⟩
 have kp:∀ b u,H b=some u→(putP (upd H S (.lst (as.map V.ref))) as 0 xs) b=some u:=fun b u z=>by
  rw [off b (fun y=>by rw [new b y] at z;cases z) (fun y=>by rw [y,newS] at z;cases z)]
  exact z
 have eS:putP (upd H S (.lst (as.map V.ref))) as 0 xs S=some (.lst (as.map V.ref)):=by rw [putP_off as xs _ _ hSn,upd_same]
 refine ⟨putP (upd H S (.lst (as.map V.ref))) as 0 xs,kp,newS,new,hSn,eS,atP,?_⟩
 refine I.call' (ch:=[]) rfl ⟨fun b o q _ _ _=>hk b o q,fun b o q _ _ _=>⟨o.slots,hk b o q⟩,fun b o q n _=>?_,fun b o q _=>⟨o,hk b o q⟩,fun b ys q=>kp b _ q,fun b o u q=>kp b _ q,fun b ps q=>⟨#[],by rw [kp b _ q];simp⟩⟩ (fun b u q=>?_) I.bare fun b z=>by simp at z
 ·obtain ⟨z1,z2⟩:=low b o q
  rw [off b z1 z2]
  exact n
 ·by_cases hb:b∈as
  ·obtain ⟨j,hj⟩:=List.mem_iff_getElem?.mp hb
   have jl:j<xs.length:=by rw [← hl];exact (List.getElem?_eq_some_iff.mp hj).1
   have hx:xs[j]?=some xs[j]:=List.getElem?_eq_getElem jl
   rw [atP j b _ hj hx] at q
   cases q
   obtain ⟨t,x,f1,f2⟩:=hG.pairs j b hj
   obtain ⟨u,g1,g2⟩:=rv.get hx
   have ex:x=u:=by
    have f1':its[j]?=some x:=by simpa using f1
    rw [g1] at f1'
    exact (Option.some.inj f1').symm
   exact ⟨by show 2≤sizeLine;decide,[.int (j:Int) t,x],.cons ⟨t,rfl⟩ (.cons (by rw [ex];exact g2) .nil),⟨_,f2,rfl,_,rfl⟩⟩
  ·by_cases hb2:b=S
   ·rw [hb2] at q ⊢
    rw [eS] at q
    cases q
    refine ⟨by rw [List.length_map];omega,acc.toList,c,by rw [hacc];exact vals_refs as,?_⟩
    rw [Array.toArray_toList]
    exact hS
   ·rw [off b hb hb2] at q
    exact (I.hok b u q).stay (fun d v _ y=>hk d v y) (fun d y=>kp d _ y) fun d ys y=>kp d _ y
theorem pe_listEnum (hc:X.calm=true) (he:PE X e te) (hg:Gl X "list") (hm:X.mg "list"=none) (hv:bootBuiltins "list"=some (.type "list")) (hg2:Gl X "enumerate") (hm2:X.mg "enumerate"=none) (hv2:bootBuiltins "enumerate"=some (.type "enumerate"))
  (hs:starEach [.Call (.Name "enumerate" p2) [e] [] pos2] X.env=(false,eval (.Call (.Name "enumerate" p2) [e] [] pos2) X.env)::starEach [] X.env:=by rfl) (hs2:starEach [e] X.env=(false,eval e X.env)::starEach [] X.env:=by rfl) :
  PE X (.Call (.Name "list" p) [.Call (.Name "enumerate" p2) [e] [] pos2] [] pos) (tListEnum X.K te):=by
 refine ⟨fun pins s σ H Q I hq=>?_⟩
 refine wpAny_Call_Name_kw (ld_blt I hg hm hv ?_)
 refine PyProof.Rows.callWith_type1 ?_ hs rfl
 rw [hs]
 show wpAny _ _ (spliced ((false,eval (.Call (.Name "enumerate" p2) [e] [] pos2) X.env)::backTo pos (starEach [] X.env))) _ _ s
 refine Calls.spliced_cons ?_
 refine wpAny_Call_Name_kw (ld_blt I hg2 hm2 hv2 ?_)
 refine PyProof.Rows.callWith_type1 ?_ hs2 rfl
 rw [hs2]
 show wpAny _ _ (spliced ((false,eval e X.env)::backTo pos2 (starEach [] X.env))) _ _ s
 refine Calls.spliced_cons (thn (he.run pins s σ H _ I hq) fun u s1 ⟨x,H1,I1,rx,a,xs,ex,hL,q⟩=>?_)
 subst ex
 obtain rfl:u=Value.ref a:=rx
 refine Calls.spliced_nil ?_
 obtain ⟨its,rv,hl0,hz⟩:=I1.list hL
 have hl:s1.heap.IsList a its.toArray:=hl0.isList
 have al:a<s1.heap.objs.size:=by obtain ⟨_,y,_⟩:=hl;exact Heap.lt_size y
 refine call_enumerate_list hl fun h1 hE hI hsz hk=>?_
 refine Calls.spliced_nil ?_
 have hl1:h1.IsList a its.toArray:=hl.at fun o y=>hk a o y
 have lx:xs.length=its.length:=rv.length
 have hlen:its.toArray.size=xs.length:=by simp [lx]
 refine FcE.en_call (items:=its.toArray) (I1.ok.hd hc) (Nat.ne_of_lt (Nat.lt_succ_of_lt al)) (Nat.ne_of_lt al) (Nat.succ_ne_self _) hE hI hl1 (by rw [hlen];exact hz) fun h' tk acc c as hkk hS hla hG hacc=>?_
 obtain ⟨H',k1,k2,k3,k4,k5,k6,J⟩:=enum_laid (tk:=tk) (S:=h1.objs.size) (by rw [hsz];exact Nat.le_add_right _ _) I1 hz rv
  (fun b o y=>hkk b o (Nat.ne_of_lt (Nat.lt_succ_of_lt (Heap.lt_size y))) (Nat.ne_of_lt (Heap.lt_size y)) (hk b o y)) hS (by rw [hla,hlen]) hG hacc
 exact ⟨.ref _,H',J,rfl,q H' _ as k1 k2 k3 k4 hG.nodup (by rw [hla,hlen]) k5 k6⟩
def rEqM (K:PySem.W.Frag):R2:=fun x y H Q=>∃ d e,Dp K H x d∧Dp K H y e∧PyData.canLay0 d=true∧PyData.canLay0 e=true∧min d.depth e.depth≤200∧Q (.bl (PyData.eqv d e)) H
def rNeM (K:PySem.W.Frag):R2:=fun x y H Q=>∃ d e,Dp K H x d∧Dp K H y e∧PyData.canLay0 d=true∧PyData.canLay0 e=true∧min d.depth e.depth≤200∧Q (.bl (!PyData.eqv d e)) H
theorem op_eqM {k:Nat} (hr:Room k X.A):OpR X (compareOp .Eq) (rEqM X.K):=by
 intro pins s σ H x y v u Q I rx ry h
 obtain ⟨d,e,hd,he,sd,se,hm,q⟩:=h
 obtain ⟨as,r1⟩:=Dp.reads I d x v hd rx
 obtain ⟨bs,r2⟩:=Dp.reads I e y u he ry
 exact SeqAt.compareEq_reads r1 r2 sd se (by have:=hr.un;omega) ⟨.bl _,H,I,rfl,q⟩
theorem op_neM {k:Nat} (hr:Room k X.A):OpR X (compareOp .NotEq) (rNeM X.K):=by
 intro pins s σ H x y v u Q I rx ry h
 obtain ⟨d,e,hd,he,sd,se,hm,q⟩:=h
 obtain ⟨as,r1⟩:=Dp.reads I d x v hd rx
 obtain ⟨bs,r2⟩:=Dp.reads I e y u he ry
 exact SeqAt.compareNe_reads r1 r2 sd se (by have:=hr.un;omega) ⟨.bl _,H,I,rfl,q⟩
def rInT (K:PySem.W.Frag):R2:=fun x y H Q=>∃ d ds,Dp K H x d∧Dp K H y (.tuple ds)∧PyData.canLay0 d=true∧PyData.canLayAll0 ds=true∧min (PyData.depthAll ds) d.depth≤150∧Q (.bl (ds.any fun z=>PyData.eqv z d)) H
theorem op_inT {k:Nat} (hr:Room k X.A):OpR X (compareOp .In) (rInT X.K):=by
 intro pins s σ H x y v u Q I rx ry h
 obtain ⟨d,ds,hd,he,sd,se,hm,q⟩:=h
 obtain ⟨as,r1⟩:=Dp.reads I d x v hd rx
 obtain ⟨bs,r2⟩:=Dp.reads I (.tuple ds) y u he ry
 exact SeqAt.in_tuple_reads r2 r1 se sd (by have:=hr.un;omega) ⟨.bl _,H,I,rfl,q⟩
end
end FcR
set_option maxRecDepth 100000
set_option maxHeartbeats 4000000
namespace Fc
open PySem PySem.Spec PyProof.Rows L2 FcR
open Evl (Ex)
section
theorem b_len:bootBuiltins "len"=some (.builtin "len"):=by decide +kernel
theorem b_isinstance:bootBuiltins "isinstance"=some (.builtin "isinstance"):=by decide +kernel
theorem b_all:bootBuiltins "all"=some (.builtin "all"):=by decide +kernel
theorem b_list:bootBuiltins "list"=some (.type "list"):=by decide +kernel
theorem b_tuple:bootBuiltins "tuple"=some (.type "tuple"):=by decide +kernel
theorem b_int:bootBuiltins "int"=some (.type "int"):=by decide +kernel
theorem b_bool:bootBuiltins "bool"=some (.type "bool"):=by decide +kernel
theorem b_str:bootBuiltins "str"=some (.type "str"):=by decide +kernel
theorem b_enumerate:bootBuiltins "enumerate"=some (.type "enumerate"):=by decide +kernel
def Ok (P:Program) (w:World) (K:PySem.W.Frag) (mg:Str→Option Value) (base:Heap) (k:Nat) (at_:Str×Option Str) (ps:List Str) (sp:Sp):Prop :=
 ∃ fd,FnOk P w K mg base (CX P w) k (He.fAd K at_) fd ps sp∧Binds K fd ps []∧PySem.W.keepIn K (.ref (He.fAd K at_))=true
theorem Ok.mono {P:Program} {w:World} {K:PySem.W.Frag} {mg:Str→Option Value} {base:Heap} {j k:Nat} {at_:Str×Option Str} {ps:List Str} {sp:Sp} (h:Ok P w K mg base j at_ ps sp) (e:j≤k):Ok P w K mg base k at_ ps sp:=by
 obtain ⟨fd,G,b,kp⟩:=h
 exact ⟨fd,G.mono e,b,kp⟩
theorem ite_of {c:Bool} {A B:Prop} (h1:c=true→A) (h2:c=false→B):if c=true then A else B:=by
 cases c with
 | true=>rw [if_pos rfl];exact h1 rfl
 | false=>rw [if_neg Bool.false_ne_true];exact h2 rfl
theorem itT {c:Bool} {A B:Prop} (hc:c=true) (h:A):if c=true then A else B:=by
 rw [if_pos hc]
 exact h
theorem itF {c:Bool} {A B:Prop} (hc:c=false) (h:B):if c=true then A else B:=by
 rw [hc,if_neg Bool.false_ne_true]
 exact h
theorem sz {n:Nat} (h:n≤100000):n≤sizeLine:=Evl.sz_of h
theorem szl {n:Nat} (h:n<100000):n<sizeLine:=Evl.sz_lt h
mutual
theorem dp_ex {K:PySem.W.Frag} {H H':Hp} (e:Ex H H'):∀ {d:PyData} {v:V},Dp K H v d→Dp K H' v d
 | _,_,.non=>.non
 | _,_,.bl b=>.bl b
 | _,_,.int i=>.int i
 | _,_,.str x=>.str x
 | _,_,.lst h a=>.lst (Evl.ex_l e h) (dpA_ex e a)
 | _,_,.tup h a=>.tup (Evl.ex_t e h) (dpA_ex e a)
theorem dpA_ex {K:PySem.W.Frag} {H H':Hp} (e:Ex H H'):∀ {ds:List PyData} {vs:List V},DpAll K H vs ds→DpAll K H' vs ds
 | _,_,.nil=>.nil
 | _,_,.cons h a=>.cons (dp_ex e h) (dpA_ex e a)
end
theorem dpA_len {K:PySem.W.Frag} {H:Hp}:∀ {ds:List PyData} {vs:List V},DpAll K H vs ds→vs.length=ds.length
 | _,_,.nil=>rfl
 | _,_,.cons _ a=>congrArg Nat.succ (dpA_len a)
theorem dpA_get {K:PySem.W.Frag} {H:Hp}:∀ {ds:List PyData} {vs:List V},DpAll K H vs ds→∀ {i:Nat} {d:PyData},ds[i]?=some d→∃ v,vs[i]?=some v∧Dp K H v d
 | _,_,.nil,i,d,h=>by simp at h
 | _,_,.cons h a,0,d,e=>by simp at e;subst e;exact ⟨_,rfl,h⟩
 | _,_,.cons h a,i + 1,d,e=>by
  obtain ⟨v,e1,e2⟩:=dpA_get a (i:=i) (d:=d) (by simpa using e)
  exact ⟨v,by simpa using e1,e2⟩
theorem dpA_app {K:PySem.W.Frag} {H:Hp}:∀ {ds es:List PyData} {vs ws:List V},DpAll K H vs ds→DpAll K H ws es→DpAll K H (vs++ws) (ds++es)
 | _,_,_,_,.nil,b=>b
 | _,_,_,_,.cons h a,b=>.cons h (dpA_app a b)
theorem dpA_drop {K:PySem.W.Frag} {H:Hp}:∀ {ds:List PyData} {vs:List V} (n:Nat),DpAll K H vs ds→DpAll K H (vs.drop n) (ds.drop n)
 | _,_,0,a=>a
 | _,_,_ + 1,.nil=>.nil
 | _,_,n + 1,.cons _ a=>dpA_drop n a
theorem dpA_take {K:PySem.W.Frag} {H:Hp}:∀ {ds:List PyData} {vs:List V} (n:Nat),DpAll K H vs ds→DpAll K H (vs.take n) (ds.take n)
 | _,_,0,_=>.nil
 | _,_,_ + 1,.nil=>.nil
 | _,_,n + 1,.cons h a=>.cons h (dpA_take n a)
theorem dp_tup {K:PySem.W.Frag} {H:Hp} {v:V} {ds:List PyData} (h:Dp K H v (.tuple ds)):∃ a xs,v=.ref a∧SqT K H a xs∧DpAll K H xs ds:=by
 cases h with
 | tup h a=>exact ⟨_,_,rfl,h,a⟩
theorem dp_str {K:PySem.W.Frag} {H:Hp} {v:V} {x:Str} (h:Dp K H v (.str x)):v=.str x:=by cases h;rfl
theorem dp_int {K:PySem.W.Frag} {H:Hp} {v:V} {x:Int} (h:Dp K H v (.int x)):v=.int x:=by cases h;rfl
theorem exu {F H:Hp} {p:Addr} {o:HO} (e:Ex F H) (hp:H p=none):Ex F (upd H p o):=fun a u h=>by
 rw [upd_ne (ne_of_none (e a u h) hp)]
 exact e a u h
theorem exm {F H:Hp} {p:Addr} {o:HO} (e:Ex F H) (hp:F p=none):Ex F (upd H p o):=Evl.Ex.mut e hp
theorem new_of {H H1:Hp} {p:Addr} {o:HO} (e:upd H p o=H1) (n:H p=none):Ex H H1∧H1 p=some o∧∀ b,b≠p→H1 b=H b:=by
 subst e
 exact ⟨exu (Evl.Ex.refl _) n,upd_same,fun b hb=>upd_ne hb⟩
theorem set_of {H H1:Hp} {p:Addr} {o:HO} (e:upd H p o=H1):H1 p=some o∧∀ b,b≠p→H1 b=H b:=by
 subst e
 exact ⟨upd_same,fun b hb=>upd_ne hb⟩
theorem set_ex {F H H1:Hp} {p:Addr} (x:Ex F H) (n:F p=none) (o:∀ b,b≠p→H1 b=H b):Ex F H1:=fun b u e=>by
 rw [o b (ne_of_none e n)]
 exact x b u e
theorem ex_none {F H:Hp} {p:Addr} (x:Ex F H) (n:H p=none):F p=none:=by
 cases e:F p with
 | none=>rfl
 | some u=>rw [x _ _ e] at n;cases n
end
end Fc
set_option maxRecDepth 100000
set_option maxHeartbeats 4000000
namespace FcX
open PySem PySem.Spec PyProof.Rows PySem.HandSPX
section
variable {M:Model} {A:Around} {E:Value→Shared→Prop} {h:Heap} {g:Array GenState} {d:Drawn} {t:Nat} {os:OsState}
variable {nm q:Str} {C N:Addr} {bs bm bmB:List Value} {hdct:Bool} {sn:List Str} {sub:List Value} {ab:Bool} {col:Option Bool} {dd:Option Addr} {k0 k1 k2 k3 k5:Option Value} {B newId initId:String}
end
section
variable {prog:Program} {w:World} {A:Around} {E:Value→Shared→Prop} {R:Result→Shared→Prop} {h:Heap} {g:Array GenState} {d:Drawn} {t:Nat} {os:OsState}
variable {nm q:Str} {C N:Addr} {bs bm bmB:List Value} {hdct:Bool} {sn:List Str} {sub:List Value} {ab:Bool} {col:Option Bool} {dd:Option Addr} {k0 k1 k2 k3 k5:Option Value} {B newId initId:String}
end
end FcX
set_option maxRecDepth 100000
set_option maxHeartbeats 4000000
namespace FcX
open PySem PySem.Spec PyProof.Rows L2 FcR
abbrev aeT:List Value:=[.type "ArithmeticError",.type "Exception",.type "BaseException",.type "object"]
structure XC (K:PySem.W.Frag) (C:Addr):Prop where
 ini:PySem.W.excInitIn K C aeT "ArithmeticError.__new__"=true
 over:PySem.W.excOver K C aeT=true
 sa:PySem.W.findIn K (.ref C) "__setattr__"=some (some (.builtin "object.__setattr__"))
 ga:PySem.W.findIn K (.ref C) "__getattribute__"=some (some (.builtin "BaseException.__getattribute__"))
 gt:PySem.W.findIn K (.ref C) "__getattr__"=some none
 ex:PySem.W.subIn K (.ref C) (.type "BaseException")=some true
 ty:PySem.W.typeIn K (.ref C)=some (.type "type")
 kp:PySem.W.keepIn K (.ref C)=true
 hd:PySem.W.hasDictIn K C=true
 cl:PySem.W.findIn K (.ref C) "__class__"=some (some (.builtin "object.__class__"))
 cg:PySem.W.specialIn K (.builtin "object.__class__") "__get__"=some (some (.builtin "getset_descriptor.__get__"))
 ct:PySem.W.takesIn K (.builtin "object.__class__")=some true
 mo:PySem.W.mroIn K C (.type "object")=some true
def xcB (K:PySem.W.Frag) (C:Addr):Bool:=PySem.W.excInitIn K C aeT "ArithmeticError.__new__" && (PySem.W.excOver K C aeT && (
 decide (PySem.W.findIn K (.ref C) "__setattr__"=some (some (.builtin "object.__setattr__"))) && (decide (PySem.W.findIn K (.ref C) "__getattribute__"=some (some (.builtin "BaseException.__getattribute__"))) && (
 decide (PySem.W.findIn K (.ref C) "__getattr__"=some none) && (decide (PySem.W.subIn K (.ref C) (.type "BaseException")=some true) && (decide (PySem.W.typeIn K (.ref C)=some (.type "type")) && (PySem.W.keepIn K (.ref C) && (PySem.W.hasDictIn K C && (
 decide (PySem.W.findIn K (.ref C) "__class__"=some (some (.builtin "object.__class__"))) && (decide (PySem.W.specialIn K (.builtin "object.__class__") "__get__"=some (some (.builtin "getset_descriptor.__get__"))) && (
 decide (PySem.W.takesIn K (.builtin "object.__class__")=some true) && decide (PySem.W.mroIn K C (.type "object")=some true))))))))))))
def xiB (K:PySem.W.Frag) (C fI:Addr) (f:Str):Bool:=decide (PySem.W.findIn K (.ref C) "__init__"=some (some (.ref fI))) && (decide (PySem.W.typeIn K (.ref fI)=some (.type "function")) && (decide (PySem.W.takerIn K C f=some none) && decide (PySem.W.findIn K (.ref C) f=some none)))
section
variable {X:Cx} {pins:List (Addr×Obj)} {σ:L2.St} {H:Hp} {s:Shared} {a C fI:Addr} {f:Str} {y:V} {u:Value} {A:Around} {E:Value→Shared→Prop}
end
def XV (H:Hp) (C:Addr) (f:Str) (y:V) (a:Addr):Prop:=∃ d,H a=some (exo a C (some d))∧H d=some (exd d [(f,y)])
theorem XV.ex {H H':Hp} {C:Addr} {f:Str} {y:V} {a:Addr} (h:XV H C f y a) (e:Evl.Ex H H'):XV H' C f y a:=by
 obtain ⟨d,h1,h2⟩:=h
 exact ⟨d,e _ _ h1,e _ _ h2⟩
section
variable {X:Cx} {CX:CXT} {k:Nat} {C fI:Addr} {fd:FuncData} {f n x:Str} {p pos kpos:Pos} {e:Expr} {es:List Expr} {ta:TA} {te:TE}
end
def xkB (K:PySem.W.Frag) (ns:List Str):Bool:=ns.all fun c=>ns.all (fun d=>decide (PySem.W.kitOne K (.ref (He.ga K c)) (.ref (He.ga K d))=some (c == d || d == "CopyError"))) &&
 (decide (PySem.W.kitOne K (.ref (He.ga K c)) (.type "ArithmeticError")=some true) && decide (PySem.W.kitAny K (.ref (He.ga K c)) [.type "ValueError",.type "TypeError",.type "LookupError"]=some false))
end FcX
set_option maxRecDepth 100000
set_option maxHeartbeats 4000000
namespace Fc
open PySem PySem.Spec PyProof.Rows L2 FcR
open Evl (Ex)
section
def frz (F H:Hp) (L:List Addr):Hp:=fun b=>if b∈L then H b else F b
theorem frz_in {F H:Hp} {L:List Addr} {b:Addr} (h:b∈L):frz F H L b=H b:=if_pos h
theorem frz_out {F H:Hp} {L:List Addr} {b:Addr} (h:b ∉ L):frz F H L b=F b:=if_neg h
theorem frz_ex {F H:Hp} {L:List Addr} (h:∀ b∈L,F b=none):Ex F (frz F H L):=fun b o e=>by
 rw [frz_out (fun z=>by rw [h b z] at e;cases e)]
 exact e
theorem frz_le {F H:Hp} {L:List Addr} (e:Ex F H):Ex (frz F H L) H:=fun b o h=>by
 by_cases z:b∈L
 ·rw [frz_in z] at h;exact h
 ·rw [frz_out z] at h;exact e b o h
structure Gr (M:Addr→Prop) (F H F' H':Hp):Prop where
 ff:Ex F F'
 fh:Ex F' H'
 nw:∀ b,H b≠none→F b=none→¬ M b→F' b=none
 kp:∀ b o,H b=some o→¬ M b→H' b=some o
theorem Gr.refl {M:Addr→Prop} {F H:Hp} (x:Ex F H):Gr M F H F H:=⟨Evl.Ex.refl _,x,fun _ _ e _=>e,fun _ _ e _=>e⟩
theorem Gr.trans {M:Addr→Prop} {F H F1 H1 F2 H2:Hp} (a:Gr M F H F1 H1) (b:Gr M F1 H1 F2 H2):Gr M F H F2 H2 :=
 ⟨a.ff.trans b.ff,b.fh,fun c h1 h2 h3=>b.nw c (fun z=>by
  cases e:H c with
  | none=>exact h1 e
  | some o=>rw [a.kp c o e h3] at z;cases z) (a.nw c h1 h2 h3) h3,fun c o e h=>b.kp c o (a.kp c o e h) h⟩
theorem Gr.new {M:Addr→Prop} {F H H1:Hp} (x:Ex F H) (e:Ex H H1):Gr M F H F H1:=⟨Evl.Ex.refl _,x.trans e,fun _ _ h _=>h,fun b o h _=>e b o h⟩
theorem Gr.set {M:Addr→Prop} {F H H1:Hp} {p:Addr} (x:Ex F H) (hp:M p) (hf:F p=none) (o:∀ b,b≠p→H1 b=H b):Gr M F H F H1 :=
 ⟨Evl.Ex.refl _,set_ex x hf o,fun _ _ h _=>h,fun b u e hb=>by rw [o b (fun z=>hb (z ▸ hp))];exact e⟩
theorem Gr.frz {M:Addr→Prop} {F H H1:Hp} {p:Addr} {u:HO} (x:Ex F H) (n:H p=none) (s:H1 p=some u) (o:∀ b,b≠p→H1 b=H b):Gr M F H (upd F p u) H1:=by
 refine ⟨exu (Evl.Ex.refl _) (ex_none x n),fun b w e=>?_,fun b h1 h2 _=>?_,fun b w e _=>?_⟩
 ·by_cases z:b=p
  ·rw [z,upd_same] at e
   cases e
   rw [z]
   exact s
  ·rw [upd_ne z] at e
   rw [o b z]
   exact x b w e
 ·rw [upd_ne (fun z=>h1 (by rw [z];exact n))]
  exact h2
 ·rw [o b (ne_of_none e n)]
  exact e
theorem Gr.mono {M M':Addr→Prop} {F H F' H':Hp} (g:Gr M F H F' H') (h:∀ b,M b→M' b):Gr M' F H F' H' :=
 ⟨g.ff,g.fh,fun b h1 h2 h3=>g.nw b h1 h2 fun z=>h3 (h b z),fun b o e hb=>g.kp b o e fun z=>hb (h b z)⟩
theorem Gr.ex {F H F' H':Hp} (g:Gr (fun _=>False) F H F' H'):Ex H H':=fun b o e=>g.kp b o e id
theorem Gr.hide {M M':Addr→Prop} {F H F1 H1 F2 H2:Hp} (a:Gr M F H F1 H1) (b:Gr M' F1 H1 F2 H2) (h:∀ x,M' x→H x=none∨M x):Gr M F H F2 H2:=by
 have hn:∀ x,H x≠none→¬ M x→¬ M' x:=fun x h1 h2 h3=>(h x h3).elim h1 h2
 refine ⟨a.ff.trans b.ff,b.fh,fun x h1 h2 h3=>b.nw x (fun z=>?_) (a.nw x h1 h2 h3) (hn x h1 h3),fun x o e h1=>b.kp x o (a.kp x o e h1) (hn x (by rw [e];exact fun z=>nomatch z) h1)⟩
 cases e:H x with
 | none=>exact h1 e
 | some o=>rw [a.kp x o e h3] at z;cases z
theorem Gr.frzAt {M:Addr→Prop} {F H F1 H1:Hp} {p:Addr} {o:HO} (g:Gr M F H F1 H1) (hp:H p=none) (h1:H1 p=some o) (hf:F1 p=none):Gr M F H (upd F1 p o) H1:=by
 refine ⟨exu g.ff hf,fun b u e=>?_,fun b a1 a2 a3=>?_,g.kp⟩
 ·by_cases z:b=p
  ·rw [z,upd_same] at e;cases e;rw [z];exact h1
  ·rw [upd_ne z] at e;exact g.fh b u e
 ·rw [upd_ne (fun z=>a1 (by rw [z];exact hp))]
  exact g.nw b a1 a2 a3
structure Rg (M:Addr→Prop) (F0 H F R H':Hp):Prop where
 g:Gr M F0 H F H'
 rh:Ex R H'
 dj:∀ b o,R b=some o→F b=none
 rn:∀ b o,R b=some o→H b=none∧¬ M b
def hp0:Hp:=fun _=>none
section
variable {M:Addr→Prop} {F0 H F R H':Hp}
theorem Rg.start (g:Gr M F0 H F H'):Rg M F0 H F hp0 H':=⟨g,fun b o e=>(by cases e),fun b o e=>(by cases e),fun b o e=>(by cases e)⟩
theorem Rg.fresh (x:Rg M F0 H F R H') {p:Addr} (n:H' p=none):F p=none∧R p=none∧(¬ M p→H p=none):=by
 refine ⟨ex_none x.g.fh n,ex_none x.rh n,fun hm=>?_⟩
 cases e:H p with
 | none=>rfl
 | some o=>rw [x.g.kp p o e hm] at n;cases n
theorem Rg.call {M':Addr→Prop} {F2 H2:Hp} (x:Rg M F0 H F R H') (c:Gr M' F H' F2 H2) (hM:∀ b,M' b→M b):Rg M F0 H F2 R H2:=by
 refine ⟨x.g.trans (c.mono hM),fun b o h=>c.kp b o (x.rh b o h) fun z=>(x.rn b o h).2 (hM b z),fun b o h=>?_,x.rn⟩
 exact c.nw b (by rw [x.rh b o h];exact fun z=>nomatch z) (x.dj b o h) fun z=>(x.rn b o h).2 (hM b z)
theorem Rg.only (x:Rg M F0 H F R H') {R':Hp} (e:Ex R' R):Rg M F0 H F R' H':=⟨x.g,e.trans x.rh,fun b o h=>x.dj b o (e b o h),fun b o h=>x.rn b o (e b o h)⟩
def joinH (F R:Hp):Hp:=fun b=>match R b with
 | some o=>some o
 | none=>F b
theorem joinH_f (dj:∀ b o,R b=some o→F b=none):Ex F (joinH F R):=fun b o h=>by
 unfold joinH
 cases e:R b with
 | none=>exact h
 | some u=>rw [dj b u e] at h;cases h
theorem Rg.done (x:Rg M F0 H F R H'):Gr M F0 H (joinH F R) H':=by
 refine ⟨x.g.ff.trans (joinH_f x.dj),fun b o h=>?_,fun b h1 h2 h3=>?_,x.g.kp⟩
 ·unfold joinH at h
  cases e:R b with
  | none=>rw [e] at h;exact x.g.fh b o h
  | some u=>rw [e] at h;cases h;exact x.rh b _ e
 ·unfold joinH
  cases e:R b with
  | none=>exact x.g.nw b h1 h2 h3
  | some u=>exact absurd (x.rn b u e).1 h1
theorem Rg.part (x:Rg M F0 H F R H') {R1 R2:Hp} (e1:Ex R1 R) (e2:Ex R2 R) (d:∀ b o,R1 b=some o→R2 b=none):Rg M F0 H (joinH F R2) R1 H':=by
 refine ⟨(x.only e2).done,e1.trans x.rh,fun b o h=>?_,fun b o h=>x.rn b o (e1 b o h)⟩
 unfold joinH
 rw [d b o h]
 exact x.dj b o (e1 b o h)
end
end
end Fc
set_option maxRecDepth 100000
set_option maxHeartbeats 4000000
namespace FcO
open PySem PySem.Spec PyProof.Rows L2
section
variable {X:Cx} {CX:CXT} {C f:Addr} {fd:FuncData} {ps:List Str} {sp:Sp} {E:XK} {k:Nat}
theorem run_sub {A:Around} (F:FnOk X.prog X.w X.K X.mg X.base CX k f fd ps sp) (sb:Sub X k A) (hb:Binds X.K fd ps []) (hx:Passes CX X E) {pins:List (Addr×Obj)} {σ:L2.St} {H:Hp} {s:Shared} {us:List Value} {vs:List V} {Q:VK} (I:Inv X pins σ H s) (r:Vals vs us) (h:sp vs H Q E) :
  wpAny (model X.prog X.w) A (call (.ref f) us) (EP X pins σ Q) X.xe s:=by
 have e0:Env0 X.prog X.w X.K X.mg X.base A X.stack s H:=by
  have e:=I.env0
  exact ⟨by rw [sb.fr];exact e.frames,e.mod,e.bs,e.bsz,e.funs,e.frf,e.hok,e.bare⟩
 have hl:=F.len _ _ _ _ h
 refine wpAny_call (codeAny_mono (F.run A X.stack s H ⟨us,[]⟩ us vs _ E sb.room e0 (by
  have:=hb s us I.kIn (by rw [List.append_nil,← r.length];exact hl)
  rw [List.append_nil] at this
  exact this) r h) fun r s' hq=>?_)
 cases r with
 | error e=>exact hx pins σ H s e s' I hq
 | ok fl =>
  cases fl with
  | ret w=>exact I.after hq
  | next=>exact False.elim hq
  | brk=>exact False.elim hq
  | cont=>exact False.elim hq
theorem special_own {M:Model} {A:Around} {E:Value→Shared→Prop} {s:Shared} {K:PySem.W.Frag} {x C f:Addr} {ox:Obj} {od:Option Obj} {name:Str} {args:List Value} {Q:Option Value→Shared→Prop} (X:K.In s.heap) (I:PySem.W.InstAt s.heap x ox C od) (hs:PySem.W.findIn K (.ref C) name=some (some (.ref f))) (hf:PySem.W.isFn K (.ref f)=true)
  (h:wpAny M A (call (.ref f) (.ref x::args)) (fun v=>Q (some v)) E s):wpAny M A (callSpecial? (.ref x) name args) Q E s:=by
 simp only [callSpecial?]
 refine wpAny_bind (wpAny_bind (I.type.here ((PySem.W.looks_findIn X hs).here ?_)))
 refine wpAny_holding (wpAny_bind ((PySem.W.bind_fn X _ (beq_iff_eq.mp hf)).here ?_))
 exact wpAny_bind (wpAny_mono h (fun v s' h'=>wpAny_pure h') fun _ _ h'=>h')
abbrev rLenO (C:Addr) (sp:Sp) (E:XK):List V→Hp→VK→Prop:=fun xs H Q=>∃ (a dx:Addr) (fs:List (Str×V)),xs=[.ref a]∧H a=some (.ins C dx fs)∧sp [.ref a] H (fun v H'=>∃ n:Nat,v=.int (n:Int)∧(n:Int)<2 ^ 63∧Q (.int (n:Int)) H') E
theorem call_lenO (F:FnOk X.prog X.w X.K X.mg X.base CX k f fd ps sp) (hr:Room (k + 1) X.A) (hm:Meth X.K C "__len__" f) (hb:Binds X.K fd ps []) (hx:Passes CX X E):CallR X (.builtin "len") (rLenO C sp E):=by
 intro pins s σ H xs us Q I r h
 obtain ⟨a,dx,fs,rfl,ha,q⟩:=h
 obtain ⟨u,rfl,ru⟩:=vals1 r
 obtain rfl:u=Value.ref a:=ru
 obtain ⟨mA,J,_⟩:=ins_get I.hok ha
 obtain ⟨od,J,_⟩:=J.look
 refine Calls.call_function_entry kind_len plain_len entry_len (args_len1 _) ?_
 unfold Builtin.«len»
 refine wpAny_bind (m:=oneArg "len" _) (wpAny_pure ?_)
 refine wpAny_bind (m:=callSpecial? (.ref a) (PySem.Str.ofString "__len__")) (special_own I.kIn J hm.at_ hm.fn (wpAny_mono (run_sub F ⟨hr.in1,rfl⟩ hb hx I r q) (fun v s1 hv=>?_) fun _ _ e=>e))
 obtain ⟨z,H1,I1,rz,n,rfl,hn,q1⟩:=hv
 obtain ⟨t,rfl⟩:∃ t,v=Value.int (n:Int) t:=rz
 refine wpAny_bind (wpAny_holding (wpAny_pure ?_))
 refine wpAny_bind (wpAny_letGo ?_)
 show wpAny _ _ (if ((n:Nat):Int)<0 then _ else _) _ _ _
 rw [if_neg (by omega)]
 show wpAny _ _ (if ((n:Nat):Int) ≥ 2 ^ 63 then _ else _) _ _ _
 rw [if_neg (by omega)]
 exact wpAny_bind (wpAny_mkInt (wpAny_pure ⟨_,rfl,⟨.int (n:Int),H1,I1.tok _,⟨_,rfl⟩,q1⟩⟩))
end
end FcO
namespace FcO
open PySem PySem.Spec PyProof.Rows L2
def eqB (K : PySem.W.Frag) (C : Addr) : Bool :=
  (decide (PySem.W.findIn K (.ref C) "__ne__" = some (some (.builtin "object.__ne__"))) && decide (PySem.W.findIn K (.ref C) "__class__" = some (some (.builtin "object.__class__")))) &&
  ((decide (PySem.W.specialIn K (.builtin "object.__class__") "__get__" = some (some (.builtin "getset_descriptor.__get__"))) && decide (PySem.W.takesIn K (.builtin "object.__class__") = some true)) &&
  ((decide (PySem.W.mroIn K C (.type "object") = some true) && decide (PySem.W.kitOne K (.ref C) (.ref C) = some true)) &&
   ((["NoneType", "bool", "int", "str", "list", "tuple", "dict"] : List String).all fun T => decide (PySem.W.kitOne K (.type T) (.ref C) = some false))))
section
variable {X:Cx} {CX:CXT} {C f:Addr} {fd:FuncData} {ps:List Str} {sp:Sp} {E:XK} {k:Nat}
end
end FcO
namespace FcO
open PySem PySem.Spec PyProof.Rows L2
section
variable {X:Cx} {CX:CXT} {C f:Addr} {fd:FuncData} {ps ks:List Str} {sp:Sp} {E:XK} {k:Nat} {x:Str} {p pos:Pos} {kws:List Keyword} {tk:TA} {g:List Value→List Value} {gV:List V→List V}
end
end FcO
set_option maxRecDepth 100000
set_option maxHeartbeats 4000000
namespace FcX
open PySem PySem.Spec PyProof.Rows L2 FcR
section
variable {X:Cx} {CX:CXT} {k:Nat} {C fI:Addr} {fd:FuncData} {f n x:Str} {p pos:Pos} {e:Expr} {te:TE}
end
end FcX
set_option maxRecDepth 100000
set_option maxHeartbeats 4000000
namespace FcX
open PySem PySem.Spec PyProof.Rows L2 FcR
def xhB (K:PySem.W.Frag) (ns:List Str):Bool:=ns.all fun c=>ns.all fun d=>decide (PySem.W.exmOne K (.ref (He.ga K c)) (.ref (He.ga K d))=some (c == d || d == "CopyError"))
theorem XC.xf {K:PySem.W.Frag} {C:Addr} (T:XC K C):XfC K C:=⟨T.ga,T.gt,T.ex,T.hd⟩
abbrev Cl:=Value×Option Nat×(Addr→Value→Option Addr→TS)
section
variable {X:Cx} {body:List Stmt} {h₀:ExceptHandler} {hds:List ExceptHandler} {l:List Cl} {pos:Pos} {tb:WX→TS} {Wout:WX}
end
structure HeldX (P:Program) (w:World) (K:PySem.W.Frag) (mg:Str→Option Value) (base:Heap) (k:Nat) (f:Addr) (sp:Sp):Prop where
 ex:∃ (fd:FuncData) (ps:List Str),FnOk P w K mg base (L2.CX P w) k f fd ps sp∧PySem.W.keepIn K (.ref f)=true∧Binds K fd ps []
section
variable {X:Cx} {k i:Nat} {x:Str} {p pos:Pos} {e:Expr} {es:List Expr} {t:TA} {W:WX}
end
end FcX
set_option maxRecDepth 100000
set_option maxHeartbeats 4000000
namespace FcX
open PySem PySem.Spec PyProof.Rows L2 FcR
section
variable {X:Cx} {k:Nat} {f C:Addr} {S:Sp→Prop} {W:WX} {x m:Str} {p pos apos:Pos} {e o:Expr} {es:List Expr} {ta:TE} {t:TA}
end
end FcX
set_option maxRecDepth 100000
set_option maxHeartbeats 4000000
namespace FcL
open PySem PySem.Spec PyProof.Rows L2 FcR FcX LamX NdefX
structure FnG (P:Program) (w:World) (K:PySem.W.Frag) (mg:Str→Option Value) (base:Heap) (k:Nat) (f:Addr) (fd:FuncData) (ps:List Str) (sp:Sp):Prop where
 len:∀ vs H Q E,sp vs H Q E→vs.length=ps.length
 run:∀ (A:Around) (outer:List Env) (s:Shared) (H:Hp) (args:Args) (us:List Value) (vs:List V) (Q:VK) (E:XK),A.guards=some []→Room k A→Env0 P w K mg base A outer s H→BindsTo s fd args (ps.zip us)→Vals vs us→sp vs H Q E →
  codeAny (model P w) A (.call (.ref f) args) (CR (L2.CX P w) outer P w H s Q E) s
theorem FnG.of {P:Program} {w:World} {K:PySem.W.Frag} {mg:Str→Option Value} {base:Heap} {k:Nat} {f:Addr} {fd:FuncData} {ps:List Str} {sp:Sp} (F:FnOk P w K mg base (L2.CX P w) k f fd ps sp):FnG P w K mg base k f fd ps sp :=
 ⟨F.len,fun A outer s H args us vs Q E _ hr e0 b r h=>F.run A outer s H args us vs Q E hr e0 b r h⟩
theorem FnG.mono {P:Program} {w:World} {K:PySem.W.Frag} {mg:Str→Option Value} {base:Heap} {j k:Nat} {f:Addr} {fd:FuncData} {ps:List Str} {sp:Sp} (F:FnG P w K mg base j f fd ps sp) (h:j≤k):FnG P w K mg base k f fd ps sp :=
 ⟨F.len,fun A outer s H args us vs Q E hg hr=>F.run A outer s H args us vs Q E hg (hr.mono h)⟩
section
variable {P:Program} {w:World} {K:PySem.W.Frag} {mg:Str→Option Value} {base:Heap} {x qual:Str} {params:Arguments} {body:List Stmt} {scope:Scope} {dvs:List V} {kws:List (Str×V)} {fd:FuncData} {at_:Str×Option Str}
end
section
variable {X:Cx} {k:Nat} {f:Addr} {fd:FuncData} {ps:List Str} {sp:Sp} {x:Str} {p pos:Pos} {e:Expr} {es:List Expr} {t:TA}
end
end FcL
set_option maxRecDepth 100000
set_option maxHeartbeats 0
namespace Fc
open PySem PySem.Spec PyProof.Rows L2
def topS (i:Nat):Stmt:=PySem.Challenge.pw_finallycopies_k11_whole_ways_by_the_part.main.body.getD i (.Pass ⟨0,0,0,0⟩)
abbrev sd_wall:Stmt:=topS 0
def d_wall:He.DefD:=⟨("_wall",none),"_wall","_wall",defArgs sd_wall,defBody sd_wall,defScope sd_wall,[],[]⟩
abbrev sd_InvalidCode___init__:Stmt:=inClass (topS 3) 0
def d_InvalidCode___init__:He.DefD:=⟨("InvalidCode",some "__init__"),"__init__","InvalidCode.__init__",defArgs sd_InvalidCode___init__,defBody sd_InvalidCode___init__,defScope sd_InvalidCode___init__,[],[]⟩
abbrev sd_InvalidNumber___init__:Stmt:=inClass (topS 4) 0
def d_InvalidNumber___init__:He.DefD:=⟨("InvalidNumber",some "__init__"),"__init__","InvalidNumber.__init__",defArgs sd_InvalidNumber___init__,defBody sd_InvalidNumber___init__,defScope sd_InvalidNumber___init__,[],[]⟩
abbrev sd_LimitExceeded___init__:Stmt:=inClass (topS 5) 0
def d_LimitExceeded___init__:He.DefD:=⟨("LimitExceeded",some "__init__"),"__init__","LimitExceeded.__init__",defArgs sd_LimitExceeded___init__,defBody sd_LimitExceeded___init__,defScope sd_LimitExceeded___init__,[],[]⟩
abbrev sd_is_integer:Stmt:=topS 7
def d_is_integer:He.DefD:=⟨("is_integer",none),"is_integer","is_integer",defArgs sd_is_integer,defBody sd_is_integer,defScope sd_is_integer,[],[]⟩
abbrev sd_is_between:Stmt:=topS 8
def d_is_between:He.DefD:=⟨("is_between",none),"is_between","is_between",defArgs sd_is_between,defBody sd_is_between,defScope sd_is_between,[],[]⟩
abbrev sd_comes_first:Stmt:=topS 12
def d_comes_first:He.DefD:=⟨("comes_first",none),"comes_first","comes_first",defArgs sd_comes_first,defBody sd_comes_first,defScope sd_comes_first,[],[]⟩
abbrev sd_keep_first:Stmt:=topS 13
def d_keep_first:He.DefD:=⟨("keep_first",none),"keep_first","keep_first",defArgs sd_keep_first,defBody sd_keep_first,defScope sd_keep_first,[],[]⟩
abbrev sd_first_shortest:Stmt:=topS 14
def d_first_shortest:He.DefD:=⟨("first_shortest",none),"first_shortest","first_shortest",defArgs sd_first_shortest,defBody sd_first_shortest,defScope sd_first_shortest,[],[]⟩
abbrev sd_left_by_leaf:Stmt:=topS 15
def d_left_by_leaf:He.DefD:=⟨("left_by_leaf",none),"left_by_leaf","left_by_leaf",defArgs sd_left_by_leaf,defBody sd_left_by_leaf,defScope sd_left_by_leaf,[],[]⟩
abbrev sd_left_by_if:Stmt:=topS 16
def d_left_by_if:He.DefD:=⟨("left_by_if",none),"left_by_if","left_by_if",defArgs sd_left_by_if,defBody sd_left_by_if,defScope sd_left_by_if,[],[]⟩
abbrev sd_left_by_while:Stmt:=topS 17
def d_left_by_while:He.DefD:=⟨("left_by_while",none),"left_by_while","left_by_while",defArgs sd_left_by_while,defBody sd_left_by_while,defScope sd_left_by_while,[],[]⟩
abbrev sd_left_by_seq:Stmt:=topS 18
def d_left_by_seq:He.DefD:=⟨("left_by_seq",none),"left_by_seq","left_by_seq",defArgs sd_left_by_seq,defBody sd_left_by_seq,defScope sd_left_by_seq,[],[]⟩
abbrev sd_left_by_try:Stmt:=topS 19
def d_left_by_try:He.DefD:=⟨("left_by_try",none),"left_by_try","left_by_try",defArgs sd_left_by_try,defBody sd_left_by_try,defScope sd_left_by_try,[],[]⟩
abbrev sd_left_by_final:Stmt:=topS 20
def d_left_by_final:He.DefD:=⟨("left_by_final",none),"left_by_final","left_by_final",defArgs sd_left_by_final,defBody sd_left_by_final,defScope sd_left_by_final,[],[]⟩
abbrev sd_shortest_answers:Stmt:=topS 21
def d_shortest_answers:He.DefD:=⟨("shortest_answers",none),"shortest_answers","shortest_answers",defArgs sd_shortest_answers,defBody sd_shortest_answers,defScope sd_shortest_answers,[],[]⟩
abbrev sd_all_ways:Stmt:=topS 22
def d_all_ways:He.DefD:=⟨("all_ways",none),"all_ways","all_ways",defArgs sd_all_ways,defBody sd_all_ways,defScope sd_all_ways,[],[]⟩
abbrev sd_ways:Stmt:=topS 23
def d_ways:He.DefD:=⟨("ways",none),"ways","ways",defArgs sd_ways,defBody sd_ways,defScope sd_ways,[],[]⟩
abbrev sd_is_name:Stmt:=topS 33
def d_is_name:He.DefD:=⟨("is_name",none),"is_name","is_name",defArgs sd_is_name,defBody sd_is_name,defScope sd_is_name,[],[]⟩
abbrev sd_is_statement:Stmt:=topS 34
def d_is_statement:He.DefD:=⟨("is_statement",none),"is_statement","is_statement",defArgs sd_is_statement,defBody sd_is_statement,defScope sd_is_statement,[],[]⟩
abbrev sd_parts_in:Stmt:=topS 35
def d_parts_in:He.DefD:=⟨("parts_in",none),"parts_in","parts_in",defArgs sd_parts_in,defBody sd_parts_in,defScope sd_parts_in,[],[]⟩
abbrev sd_Code___init__:Stmt:=inClass (topS 36) 0
def d_Code___init__:He.DefD:=⟨("Code",some "__init__"),"__init__","Code.__init__",defArgs sd_Code___init__,defBody sd_Code___init__,defScope sd_Code___init__,[],[]⟩
abbrev sd_Code_check:Stmt:=inClass (topS 36) 1
def d_Code_check:He.DefD:=⟨("Code",some "check"),"check","Code.check",defArgs sd_Code_check,defBody sd_Code_check,defScope sd_Code_check,[],[]⟩
abbrev sd_Code_keep:Stmt:=inClass (topS 36) 2
def d_Code_keep:He.DefD:=⟨("Code",some "keep"),"keep","Code.keep",defArgs sd_Code_keep,defBody sd_Code_keep,defScope sd_Code_keep,[],[]⟩
abbrev sd_Code___eq__:Stmt:=inClass (topS 36) 3
def d_Code___eq__:He.DefD:=⟨("Code",some "__eq__"),"__eq__","Code.__eq__",defArgs sd_Code___eq__,defBody sd_Code___eq__,defScope sd_Code___eq__,[],[]⟩
abbrev sd_Code___len__:Stmt:=inClass (topS 36) 4
def d_Code___len__:He.DefD:=⟨("Code",some "__len__"),"__len__","Code.__len__",defArgs sd_Code___len__,defBody sd_Code___len__,defScope sd_Code___len__,[],[]⟩
abbrev sd_Code___getitem__:Stmt:=inClass (topS 36) 5
def d_Code___getitem__:He.DefD:=⟨("Code",some "__getitem__"),"__getitem__","Code.__getitem__",defArgs sd_Code___getitem__,defBody sd_Code___getitem__,defScope sd_Code___getitem__,[],[]⟩
abbrev sd_Code___iter__:Stmt:=inClass (topS 36) 6
def d_Code___iter__:He.DefD:=⟨("Code",some "__iter__"),"__iter__","Code.__iter__",defArgs sd_Code___iter__,defBody sd_Code___iter__,defScope sd_Code___iter__,[],[]⟩
abbrev sd_Code_check_number:Stmt:=inClass (topS 36) 7
def d_Code_check_number:He.DefD:=⟨("Code",some "check_number"),"check_number","Code.check_number",defArgs sd_Code_check_number,defBody sd_Code_check_number,defScope sd_Code_check_number,[],[]⟩
abbrev sd_Code_is_place:Stmt:=inClass (topS 36) 8
def d_Code_is_place:He.DefD:=⟨("Code",some "is_place"),"is_place","Code.is_place",defArgs sd_Code_is_place,defBody sd_Code_is_place,defScope sd_Code_is_place,[],[]⟩
abbrev sd_Code_check_place:Stmt:=inClass (topS 36) 9
def d_Code_check_place:He.DefD:=⟨("Code",some "check_place"),"check_place","Code.check_place",defArgs sd_Code_check_place,defBody sd_Code_check_place,defScope sd_Code_check_place,[],[]⟩
abbrev sd_Code_kind:Stmt:=inClass (topS 36) 10
def d_Code_kind:He.DefD:=⟨("Code",some "kind"),"kind","Code.kind",defArgs sd_Code_kind,defBody sd_Code_kind,defScope sd_Code_kind,[],[]⟩
abbrev sd_Code_parent:Stmt:=inClass (topS 36) 11
def d_Code_parent:He.DefD:=⟨("Code",some "parent"),"parent","Code.parent",defArgs sd_Code_parent,defBody sd_Code_parent,defScope sd_Code_parent,[],[]⟩
abbrev sd_Code_parts:Stmt:=inClass (topS 36) 12
def d_Code_parts:He.DefD:=⟨("Code",some "parts"),"parts","Code.parts",defArgs sd_Code_parts,defBody sd_Code_parts,defScope sd_Code_parts,[],[]⟩
abbrev sd_Code_places:Stmt:=inClass (topS 36) 13
def d_Code_places:He.DefD:=⟨("Code",some "places"),"places","Code.places",defArgs sd_Code_places,defBody sd_Code_places,defScope sd_Code_places,[],[]⟩
abbrev sd_Code_entry:Stmt:=inClass (topS 36) 14
def d_Code_entry:He.DefD:=⟨("Code",some "entry"),"entry","Code.entry",defArgs sd_Code_entry,defBody sd_Code_entry,defScope sd_Code_entry,[],[]⟩
abbrev sd_Code_entry_of:Stmt:=inClass (topS 36) 15
def d_Code_entry_of:He.DefD:=⟨("Code",some "entry_of"),"entry_of","Code.entry_of",defArgs sd_Code_entry_of,defBody sd_Code_entry_of,defScope sd_Code_entry_of,[],[]⟩
abbrev sd_Code_layers:Stmt:=inClass (topS 36) 16
def d_Code_layers:He.DefD:=⟨("Code",some "layers"),"layers","Code.layers",defArgs sd_Code_layers,defBody sd_Code_layers,defScope sd_Code_layers,[],[]⟩
abbrev sd_Code_layers_of:Stmt:=inClass (topS 36) 17
def d_Code_layers_of:He.DefD:=⟨("Code",some "layers_of"),"layers_of","Code.layers_of",defArgs sd_Code_layers_of,defBody sd_Code_layers_of,defScope sd_Code_layers_of,[],[]⟩
abbrev sd_law_cell_at:Stmt:=topS 38
def d_law_cell_at:He.DefD:=⟨("_law_cell_at",none),"_law_cell_at","_law_cell_at",defArgs sd_law_cell_at,defBody sd_law_cell_at,defScope sd_law_cell_at,[],[]⟩
abbrev sd_law_source:Stmt:=topS 39
def d_law_source:He.DefD:=⟨("_law_source",none),"_law_source","_law_source",defArgs sd_law_source,defBody sd_law_source,defScope sd_law_source,[],[]⟩
abbrev sd_law_draw:Stmt:=topS 40
def d_law_draw:He.DefD:=⟨("_law_draw",none),"_law_draw","_law_draw",defArgs sd_law_draw,defBody sd_law_draw,defScope sd_law_draw,[],[]⟩
abbrev sd_law_choice:Stmt:=topS 41
def d_law_choice:He.DefD:=⟨("_law_choice",none),"_law_choice","_law_choice",defArgs sd_law_choice,defBody sd_law_choice,defScope sd_law_choice,[],[]⟩
abbrev sd_law_name:Stmt:=topS 42
def d_law_name:He.DefD:=⟨("_law_name",none),"_law_name","_law_name",defArgs sd_law_name,defBody sd_law_name,defScope sd_law_name,[],[]⟩
abbrev sd_law_leaf:Stmt:=topS 43
def d_law_leaf:He.DefD:=⟨("_law_leaf",none),"_law_leaf","_law_leaf",defArgs sd_law_leaf,defBody sd_law_leaf,defScope sd_law_leaf,[],[]⟩
abbrev sd_law_statement:Stmt:=topS 44
def d_law_statement:He.DefD:=⟨("_law_statement",none),"_law_statement","_law_statement",defArgs sd_law_statement,defBody sd_law_statement,defScope sd_law_statement,[],[]⟩
abbrev sd_law_outside:Stmt:=topS 45
def d_law_outside:He.DefD:=⟨("_law_outside",none),"_law_outside","_law_outside",defArgs sd_law_outside,defBody sd_law_outside,defScope sd_law_outside,[],[]⟩
abbrev sd_law_of_seq:Stmt:=topS 46
def d_law_of_seq:He.DefD:=⟨("_law_of_seq",none),"_law_of_seq","_law_of_seq",defArgs sd_law_of_seq,defBody sd_law_of_seq,defScope sd_law_of_seq,[],[]⟩
abbrev sd_law_by_parts:Stmt:=topS 47
def d_law_by_parts:He.DefD:=⟨("_law_by_parts",none),"_law_by_parts","_law_by_parts",defArgs sd_law_by_parts,defBody sd_law_by_parts,defScope sd_law_by_parts,[],[]⟩
abbrev sd_law_deep_right:Stmt:=topS 48
def d_law_deep_right:He.DefD:=⟨("_law_deep_right",none),"_law_deep_right","_law_deep_right",defArgs sd_law_deep_right,defBody sd_law_deep_right,defScope sd_law_deep_right,[],[]⟩
abbrev sd_law:Stmt:=topS 49
def d_law:He.DefD:=⟨("law",none),"law","law",defArgs sd_law,defBody sd_law,defScope sd_law,[],[]⟩
def fnL0:List He.DefD:=[d_wall,d_InvalidCode___init__,d_InvalidNumber___init__,d_LimitExceeded___init__,d_is_integer,d_is_between,d_comes_first,d_keep_first,d_first_shortest,d_left_by_leaf,d_left_by_if,d_left_by_while,d_left_by_seq,d_left_by_try,d_left_by_final,d_shortest_answers,d_all_ways,d_ways,d_is_name,d_is_statement,d_parts_in,d_Code___init__,d_Code_check,d_Code_keep,d_Code___eq__,d_Code___len__,d_Code___getitem__,d_Code___iter__,d_Code_check_number,d_Code_is_place]
def fnL1:List He.DefD:=[d_Code_check_place,d_Code_kind,d_Code_parent,d_Code_parts,d_Code_places,d_Code_entry,d_Code_entry_of,d_Code_layers,d_Code_layers_of,d_law_cell_at,d_law_source,d_law_draw,d_law_choice,d_law_name,d_law_leaf,d_law_statement,d_law_outside,d_law_of_seq,d_law_by_parts,d_law_deep_right,d_law]
def fnL:List He.DefD:=fnL0++fnL1
def faL0:List He.Fa:=[.glo "_wall",.glo "CopyError",.glo "InvalidCode",.glo "InvalidNumber",.glo "LimitExceeded",.glo "is_integer",.glo "is_between",.glo "NORMAL",.glo "RAISE",.glo "comes_first",.glo "keep_first",.glo "first_shortest",.glo "left_by_leaf",.glo "left_by_if",.glo "left_by_while",.glo "left_by_seq",.glo "left_by_try",.glo "left_by_final",.glo "shortest_answers",.glo "all_ways",.glo "ways",.glo "SIZES",.glo "NAMED",.glo "JUMPS",.glo "is_name",.glo "is_statement",.glo "parts_in",.glo "Code",.glo "_law_cell_at",.glo "_law_source"]
def faL1:List He.Fa:=[.glo "_law_draw",.glo "_law_choice",.glo "_law_name",.glo "_law_leaf",.glo "_law_statement",.glo "_law_outside",.glo "_law_of_seq",.glo "_law_by_parts",.glo "_law_deep_right",.glo "law",.free "ArithmeticError",.free "TypeError",.free "all",.free "bool",.free "enumerate",.free "int",.free "isinstance",.free "len",.free "list",.free "range",.free "reversed",.free "set",.free "sorted",.free "str",.free "tuple",.int "MOST_STATEMENTS" 400,.int "MOST_DEEP" 100,.int "MOST_BLOCKS" 25,.int "MOST_LETTERS" 8,.str "LETTERS" "abcdefghijklmnopqrstuvwxyz"]
def faL2:List He.Fa:=[.cls "Code",.mkr "Code",.noat "Code" "children",.noat "Code" "kinds",.noat "Code" "labels",.noat "Code" "parents",.noat "Code" "statements",.meth "Code" "check",.meth "Code" "keep",.meth "Code" "__eq__",.meth "Code" "__len__",.meth "Code" "__getitem__",.meth "Code" "__iter__",.meth "Code" "check_number",.meth "Code" "is_place",.meth "Code" "check_place",.meth "Code" "kind",.meth "Code" "parent",.meth "Code" "parts",.meth "Code" "places",.meth "Code" "entry",.meth "Code" "entry_of",.meth "Code" "layers",.meth "Code" "layers_of"]
def faL:List He.Fa:=faL0++faL1++faL2
def tabL:List He.Tab:=[(fun K=>He.ga K "SIZES",["do","call","if","while","seq","break","continue","return","raise","try","final"])]
def tfL:List He.Defn:=[]
def xN:List PySem.Str:=["CopyError","InvalidCode","InvalidNumber","LimitExceeded"]
def exB (K:PySem.W.Frag):Bool:=(He.tupB K "NORMAL" [.str "normal"]) && (He.tupB K "RAISE" [.str "raise"]) && (He.tupB K "NAMED" [.str "do",.str "call",.str "if",.str "while"]) && (He.tupB K "JUMPS" [.str "break",.str "continue"]) && (He.valsB K (He.ga K "SIZES") [("do",.int 2),("call",.int 2),("if",.int 4),("while",.int 3),("seq",.int 2),("break",.int 2),("continue",.int 2),("return",.int 1),("raise",.int 1),("try",.int 3),("final",.int 3)]) && (FcX.xcB K (He.ga K "CopyError") && PySem.W.excIn K (He.ga K "CopyError") FcX.aeT "ArithmeticError.__new__") && (FcX.xcB K (He.ga K "InvalidCode") && FcX.xiB K (He.ga K "InvalidCode") (He.fAd K ("InvalidCode",some "__init__")) "number") && (FcX.xcB K (He.ga K "InvalidNumber") && FcX.xiB K (He.ga K "InvalidNumber") (He.fAd K ("InvalidNumber",some "__init__")) "number") && (FcX.xcB K (He.ga K "LimitExceeded") && FcX.xiB K (He.ga K "LimitExceeded") (He.fAd K ("LimitExceeded",some "__init__")) "limit") && (FcX.xkB K xN) && (FcO.eqB K (He.ga K "Code")) && (FcX.xhB K xN)
def looseL0:List PySem.Str:=["_wall","CopyError","InvalidCode","InvalidNumber","LimitExceeded","is_integer","is_between","NORMAL","RAISE","comes_first","keep_first","first_shortest","left_by_leaf","left_by_if","left_by_while","left_by_seq","left_by_try","left_by_final","shortest_answers","all_ways","ways","SIZES","NAMED","JUMPS","is_name","is_statement","parts_in","Code","_law_cell_at","_law_source"]
def looseL1:List PySem.Str:=["_law_draw","_law_choice","_law_name","_law_leaf","_law_statement","_law_outside","_law_of_seq","_law_by_parts","_law_deep_right","MOST_STATEMENTS","MOST_DEEP","MOST_BLOCKS","MOST_LETTERS","LETTERS"]
def looseL:List PySem.Str:=looseL0++looseL1
abbrev R:PySem.W.OpenRow:=PySem.W.OpenLaw.row PySem.Challenge.rw_finallycopies_k11_whole_ways_by_the_part
abbrev hk:PySem.W.Hook:=He.hookX 4 faL fnL tabL tfL exB
def ob (s:PySem.W.SharedT):He.AlX:=He.obsX 4 faL fnL tabL tfL exB (HandSHeadRun.getT s)
theorem ob_eq (s:PySem.W.SharedT):ob s=hk.obs s.abs:=He.obsX_eq (HandSHeadRun.getT_eq s)
theorem map3 {α β γ δ:Type} {o:Option α} {f:α→β} {g:α→γ} {h:α→δ} {a:β} {b:γ} {c:δ} (h1:o.map f=some a) (h2:o.map g=some b) (h3:o.map h=some c):o.map (fun s=>(f s,g s,h s))=some (a,b,c):=by
 cases o with
 | none=>cases h1
 | some x=>cases h1;cases h2;cases h3;rfl
theorem mapP {α β γ:Type} {o:Option α} {h:α→β×γ} {c:β×γ} (h1:o.map (fun s=>(h s).1)=some c.1) (h2:o.map (fun s=>(h s).2)=some c.2):o.map h=some c:=by
 cases o with
 | none=>cases h1
 | some x =>
  have e1:(h x).1=c.1:=Option.some.inj h1
  have e2:(h x).2=c.2:=Option.some.inj h2
  show some (h x)=some c
  rw [← Prod.eta (h x),← Prod.eta c,e1,e2]
theorem mapB {α:Type} {o:Option α} {f g:α→Bool} (h1:o.map f=some true) (h2:o.map g=some true):o.map (fun s=>f s && g s)=some true:=by
 cases o with
 | none=>cases h1
 | some x =>
  have e1:f x=true:=Option.some.inj h1
  have e2:g x=true:=Option.some.inj h2
  show some (f x && g x)=some true
  rw [e1,e2]<;>rfl
theorem mapA {α β:Type} {o:Option α} {l:List β} {p:α→β→Bool} (n:Nat) (h1:o.map (fun s=>(l.take n).all (p s))=some true) (h2:o.map (fun s=>(l.drop n).all (p s))=some true):o.map (fun s=>l.all (p s))=some true:=by
 cases o with
 | none=>cases h1
 | some x =>
  have e1:(l.take n).all (p x)=true:=Option.some.inj h1
  have e2:(l.drop n).all (p x)=true:=Option.some.inj h2
  show some (l.all (p x))=some true
  rw [← List.take_append_drop n l,List.all_append,e1,e2]<;>rfl
theorem mapF {α β γ:Type} {o:Option α} {f:α→β} {g:α→γ} {a:β} {b:γ} (h:o.map (fun s=>(f s,g s))=some (a,b)):o.map f=some a:=by
 cases o with
 | none=>cases h
 | some x=>cases h;rfl
theorem mapS {α β γ:Type} {o:Option α} {f:α→β} {g:α→γ} {a:β} {b:γ} (h:o.map (fun s=>(f s,g s))=some (a,b)):o.map g=some b:=by
 cases o with
 | none=>cases h
 | some x=>cases h;rfl
theorem runF_a (w:World) (os:PySem.OsState):(HandSHeadRun.endF (HandSHeadRun.stepQ (HandSHeadRun.denQ HandSHeadRun.tabQ) R.prog (w.withFollow "special-get-raises" false)) 20000 R.prog (w.withFollow "special-get-raises" false) os).map (fun s=>HandSHeadRun.looksF R.prog (PySem.W.boot_heap (w.withFollow "special-get-raises" false).params) s.abs)=some true:=by kernel_rfl
theorem runF_b (w:World) (os:PySem.OsState):(HandSHeadRun.endF (HandSHeadRun.stepQ (HandSHeadRun.denQ HandSHeadRun.tabQ) R.prog (w.withFollow "special-get-raises" false)) 20000 R.prog (w.withFollow "special-get-raises" false) os).map (fun s=>HandSHeadRun.seenQ (PySem.W.view R.prog [49]) looseL (PySem.importedModules R.prog.main.body) (fun s=>PySem.W.xlAt (PySem.W.view R.prog [49]) [] s && PySem.W.recOk R.toRowW.records s) s.abs)=some (PySem.W.openGood (PySem.W.view R.prog [49]) looseL):=by kernel_rfl
theorem runF_c1 (w:World) (os:PySem.OsState):(HandSHeadRun.endF (HandSHeadRun.stepQ (HandSHeadRun.denQ HandSHeadRun.tabQ) R.prog (w.withFollow "special-get-raises" false)) 20000 R.prog (w.withFollow "special-get-raises" false) os).map (fun s=>faL.all fun f=>f.ok (He.frT (HandSHeadRun.getT s) (He.asD (HandSHeadRun.getT s) 4)))=some true:=by kernel_rfl
theorem runF_c2a (w:World) (os:PySem.OsState):(HandSHeadRun.endF (HandSHeadRun.stepQ (HandSHeadRun.denQ HandSHeadRun.tabQ) R.prog (w.withFollow "special-get-raises" false)) 20000 R.prog (w.withFollow "special-get-raises" false) os).map (fun s=>(fnL.take (fnL.length / 2)).all fun d=>d.ok (He.frT (HandSHeadRun.getT s) (He.asD (HandSHeadRun.getT s) 4)))=some true:=by kernel_rfl
theorem runF_c2b (w:World) (os:PySem.OsState):(HandSHeadRun.endF (HandSHeadRun.stepQ (HandSHeadRun.denQ HandSHeadRun.tabQ) R.prog (w.withFollow "special-get-raises" false)) 20000 R.prog (w.withFollow "special-get-raises" false) os).map (fun s=>(fnL.drop (fnL.length / 2)).all fun d=>d.ok (He.frT (HandSHeadRun.getT s) (He.asD (HandSHeadRun.getT s) 4)))=some true:=by kernel_rfl
theorem runF_c2 (w:World) (os:PySem.OsState):(HandSHeadRun.endF (HandSHeadRun.stepQ (HandSHeadRun.denQ HandSHeadRun.tabQ) R.prog (w.withFollow "special-get-raises" false)) 20000 R.prog (w.withFollow "special-get-raises" false) os).map (fun s=>fnL.all fun d=>d.ok (He.frT (HandSHeadRun.getT s) (He.asD (HandSHeadRun.getT s) 4)))=some true:=mapA (p:=fun s (d:He.DefD)=>d.ok (He.frT (HandSHeadRun.getT s) (He.asD (HandSHeadRun.getT s) 4))) (fnL.length / 2) (runF_c2a w os) (runF_c2b w os)
theorem runF_c34 (w:World) (os:PySem.OsState):(HandSHeadRun.endF (HandSHeadRun.stepQ (HandSHeadRun.denQ HandSHeadRun.tabQ) R.prog (w.withFollow "special-get-raises" false)) 20000 R.prog (w.withFollow "special-get-raises" false) os).map (fun s=>(fnL.map fun d=>He.fnW (He.frT (HandSHeadRun.getT s) (He.asD (HandSHeadRun.getT s) 4)) d.at_,tabL.map fun t=>He.dicW (He.frT (HandSHeadRun.getT s) (He.asD (HandSHeadRun.getT s) 4)) (t.1 (He.frT (HandSHeadRun.getT s) (He.asD (HandSHeadRun.getT s) 4)))))=some (fnL.map He.DefD.val,tabL.map fun t=>some (He.keysIn (w.withFollow "special-get-raises" false).params t.2)):=by kernel_rfl
theorem runF_c3 (w:World) (os:PySem.OsState):(HandSHeadRun.endF (HandSHeadRun.stepQ (HandSHeadRun.denQ HandSHeadRun.tabQ) R.prog (w.withFollow "special-get-raises" false)) 20000 R.prog (w.withFollow "special-get-raises" false) os).map (fun s=>fnL.map fun d=>He.fnW (He.frT (HandSHeadRun.getT s) (He.asD (HandSHeadRun.getT s) 4)) d.at_)=some (fnL.map He.DefD.val):=mapF (runF_c34 w os)
theorem runF_c4 (w:World) (os:PySem.OsState):(HandSHeadRun.endF (HandSHeadRun.stepQ (HandSHeadRun.denQ HandSHeadRun.tabQ) R.prog (w.withFollow "special-get-raises" false)) 20000 R.prog (w.withFollow "special-get-raises" false) os).map (fun s=>tabL.map fun t=>He.dicW (He.frT (HandSHeadRun.getT s) (He.asD (HandSHeadRun.getT s) 4)) (t.1 (He.frT (HandSHeadRun.getT s) (He.asD (HandSHeadRun.getT s) 4))))=some (tabL.map fun t=>some (He.keysIn (w.withFollow "special-get-raises" false).params t.2)):=mapS (runF_c34 w os)
theorem runF_c (w:World) (os:PySem.OsState):(HandSHeadRun.endF (HandSHeadRun.stepQ (HandSHeadRun.denQ HandSHeadRun.tabQ) R.prog (w.withFollow "special-get-raises" false)) 20000 R.prog (w.withFollow "special-get-raises" false) os).map (fun s=>(ob s).1)=some (hk.val (w.withFollow "special-get-raises" false)).1:=mapP (h:=fun s=>(ob s).1) (c:=(hk.val (w.withFollow "special-get-raises" false)).1) (mapP (h:=fun s=>(ob s).1.1) (c:=(hk.val (w.withFollow "special-get-raises" false)).1.1) (mapB (runF_c1 w os) (runF_c2 w os)) (runF_c3 w os)) (runF_c4 w os)
theorem runF_d (w:World) (os:PySem.OsState):(HandSHeadRun.endF (HandSHeadRun.stepQ (HandSHeadRun.denQ HandSHeadRun.tabQ) R.prog (w.withFollow "special-get-raises" false)) 20000 R.prog (w.withFollow "special-get-raises" false) os).map (fun s=>(ob s).2)=some (hk.val (w.withFollow "special-get-raises" false)).2:=by kernel_rfl
theorem runF (w:World):HandSHeadRun.RunEq R (PySem.W.view R.prog [49]) hk ob 20000 looseL (w.withFollow "special-get-raises" false):=fun os=>map3 (runF_a w os) (runF_b w os) (mapP (h:=ob) (runF_c w os) (runF_d w os))
theorem runT_a (w:World) (os:PySem.OsState):(HandSHeadRun.endF (HandSHeadRun.stepQ (HandSHeadRun.denQ HandSHeadRun.tabQ) R.prog (w.withFollow "special-get-raises" true)) 20000 R.prog (w.withFollow "special-get-raises" true) os).map (fun s=>HandSHeadRun.looksF R.prog (PySem.W.boot_heap (w.withFollow "special-get-raises" true).params) s.abs)=some true:=by kernel_rfl
theorem runT_b (w:World) (os:PySem.OsState):(HandSHeadRun.endF (HandSHeadRun.stepQ (HandSHeadRun.denQ HandSHeadRun.tabQ) R.prog (w.withFollow "special-get-raises" true)) 20000 R.prog (w.withFollow "special-get-raises" true) os).map (fun s=>HandSHeadRun.seenQ (PySem.W.view R.prog [49]) looseL (PySem.importedModules R.prog.main.body) (fun s=>PySem.W.xlAt (PySem.W.view R.prog [49]) [] s && PySem.W.recOk R.toRowW.records s) s.abs)=some (PySem.W.openGood (PySem.W.view R.prog [49]) looseL):=by kernel_rfl
theorem runT_c1 (w:World) (os:PySem.OsState):(HandSHeadRun.endF (HandSHeadRun.stepQ (HandSHeadRun.denQ HandSHeadRun.tabQ) R.prog (w.withFollow "special-get-raises" true)) 20000 R.prog (w.withFollow "special-get-raises" true) os).map (fun s=>faL.all fun f=>f.ok (He.frT (HandSHeadRun.getT s) (He.asD (HandSHeadRun.getT s) 4)))=some true:=by kernel_rfl
theorem runT_c2a (w:World) (os:PySem.OsState):(HandSHeadRun.endF (HandSHeadRun.stepQ (HandSHeadRun.denQ HandSHeadRun.tabQ) R.prog (w.withFollow "special-get-raises" true)) 20000 R.prog (w.withFollow "special-get-raises" true) os).map (fun s=>(fnL.take (fnL.length / 2)).all fun d=>d.ok (He.frT (HandSHeadRun.getT s) (He.asD (HandSHeadRun.getT s) 4)))=some true:=by kernel_rfl
theorem runT_c2b (w:World) (os:PySem.OsState):(HandSHeadRun.endF (HandSHeadRun.stepQ (HandSHeadRun.denQ HandSHeadRun.tabQ) R.prog (w.withFollow "special-get-raises" true)) 20000 R.prog (w.withFollow "special-get-raises" true) os).map (fun s=>(fnL.drop (fnL.length / 2)).all fun d=>d.ok (He.frT (HandSHeadRun.getT s) (He.asD (HandSHeadRun.getT s) 4)))=some true:=by kernel_rfl
theorem runT_c2 (w:World) (os:PySem.OsState):(HandSHeadRun.endF (HandSHeadRun.stepQ (HandSHeadRun.denQ HandSHeadRun.tabQ) R.prog (w.withFollow "special-get-raises" true)) 20000 R.prog (w.withFollow "special-get-raises" true) os).map (fun s=>fnL.all fun d=>d.ok (He.frT (HandSHeadRun.getT s) (He.asD (HandSHeadRun.getT s) 4)))=some true:=mapA (p:=fun s (d:He.DefD)=>d.ok (He.frT (HandSHeadRun.getT s) (He.asD (HandSHeadRun.getT s) 4))) (fnL.length / 2) (runT_c2a w os) (runT_c2b w os)
theorem runT_c34 (w:World) (os:PySem.OsState):(HandSHeadRun.endF (HandSHeadRun.stepQ (HandSHeadRun.denQ HandSHeadRun.tabQ) R.prog (w.withFollow "special-get-raises" true)) 20000 R.prog (w.withFollow "special-get-raises" true) os).map (fun s=>(fnL.map fun d=>He.fnW (He.frT (HandSHeadRun.getT s) (He.asD (HandSHeadRun.getT s) 4)) d.at_,tabL.map fun t=>He.dicW (He.frT (HandSHeadRun.getT s) (He.asD (HandSHeadRun.getT s) 4)) (t.1 (He.frT (HandSHeadRun.getT s) (He.asD (HandSHeadRun.getT s) 4)))))=some (fnL.map He.DefD.val,tabL.map fun t=>some (He.keysIn (w.withFollow "special-get-raises" true).params t.2)):=by kernel_rfl
theorem runT_c3 (w:World) (os:PySem.OsState):(HandSHeadRun.endF (HandSHeadRun.stepQ (HandSHeadRun.denQ HandSHeadRun.tabQ) R.prog (w.withFollow "special-get-raises" true)) 20000 R.prog (w.withFollow "special-get-raises" true) os).map (fun s=>fnL.map fun d=>He.fnW (He.frT (HandSHeadRun.getT s) (He.asD (HandSHeadRun.getT s) 4)) d.at_)=some (fnL.map He.DefD.val):=mapF (runT_c34 w os)
theorem runT_c4 (w:World) (os:PySem.OsState):(HandSHeadRun.endF (HandSHeadRun.stepQ (HandSHeadRun.denQ HandSHeadRun.tabQ) R.prog (w.withFollow "special-get-raises" true)) 20000 R.prog (w.withFollow "special-get-raises" true) os).map (fun s=>tabL.map fun t=>He.dicW (He.frT (HandSHeadRun.getT s) (He.asD (HandSHeadRun.getT s) 4)) (t.1 (He.frT (HandSHeadRun.getT s) (He.asD (HandSHeadRun.getT s) 4))))=some (tabL.map fun t=>some (He.keysIn (w.withFollow "special-get-raises" true).params t.2)):=mapS (runT_c34 w os)
theorem runT_c (w:World) (os:PySem.OsState):(HandSHeadRun.endF (HandSHeadRun.stepQ (HandSHeadRun.denQ HandSHeadRun.tabQ) R.prog (w.withFollow "special-get-raises" true)) 20000 R.prog (w.withFollow "special-get-raises" true) os).map (fun s=>(ob s).1)=some (hk.val (w.withFollow "special-get-raises" true)).1:=mapP (h:=fun s=>(ob s).1) (c:=(hk.val (w.withFollow "special-get-raises" true)).1) (mapP (h:=fun s=>(ob s).1.1) (c:=(hk.val (w.withFollow "special-get-raises" true)).1.1) (mapB (runT_c1 w os) (runT_c2 w os)) (runT_c3 w os)) (runT_c4 w os)
theorem runT_d (w:World) (os:PySem.OsState):(HandSHeadRun.endF (HandSHeadRun.stepQ (HandSHeadRun.denQ HandSHeadRun.tabQ) R.prog (w.withFollow "special-get-raises" true)) 20000 R.prog (w.withFollow "special-get-raises" true) os).map (fun s=>(ob s).2)=some (hk.val (w.withFollow "special-get-raises" true)).2:=by kernel_rfl
theorem runT (w:World):HandSHeadRun.RunEq R (PySem.W.view R.prog [49]) hk ob 20000 looseL (w.withFollow "special-get-raises" true):=fun os=>map3 (runT_a w os) (runT_b w os) (mapP (h:=ob) (runT_c w os) (runT_d w os))
theorem run (w:World):HandSHeadRun.RunEq R (PySem.W.view R.prog [49]) hk ob 20000 looseL w:=PySem.W.byRow2 "special-get-raises" (P:=fun w=>HandSHeadRun.RunEq R (PySem.W.view R.prog [49]) hk ob 20000 looseL w) runF runT w
structure Tx (w:World) (h:Heap) (K:PySem.W.Frag) (mg:Str→Option Value):Prop where
 X:K.In h
 G:h.Ns mainGlobals mg
 c:He.SaysX faL fnL tabL tfL exB w h K
section
variable {w:World} {h:Heap} {K:PySem.W.Frag} {mg:Str→Option Value}
theorem g_is_integer (T:Tx w h K mg):mg "is_integer"=some (.ref (He.ga K "is_integer")):=He.glo_ok T.X T.G (T.c.t.d.fact 5 rfl)
theorem g_is_between (T:Tx w h K mg):mg "is_between"=some (.ref (He.ga K "is_between")):=He.glo_ok T.X T.G (T.c.t.d.fact 6 rfl)
theorem g_NORMAL (T:Tx w h K mg):mg "NORMAL"=some (.ref (He.ga K "NORMAL")):=He.glo_ok T.X T.G (T.c.t.d.fact 7 rfl)
theorem g_RAISE (T:Tx w h K mg):mg "RAISE"=some (.ref (He.ga K "RAISE")):=He.glo_ok T.X T.G (T.c.t.d.fact 8 rfl)
theorem g_comes_first (T:Tx w h K mg):mg "comes_first"=some (.ref (He.ga K "comes_first")):=He.glo_ok T.X T.G (T.c.t.d.fact 9 rfl)
theorem g_keep_first (T:Tx w h K mg):mg "keep_first"=some (.ref (He.ga K "keep_first")):=He.glo_ok T.X T.G (T.c.t.d.fact 10 rfl)
theorem g_first_shortest (T:Tx w h K mg):mg "first_shortest"=some (.ref (He.ga K "first_shortest")):=He.glo_ok T.X T.G (T.c.t.d.fact 11 rfl)
theorem g_left_by_leaf (T:Tx w h K mg):mg "left_by_leaf"=some (.ref (He.ga K "left_by_leaf")):=He.glo_ok T.X T.G (T.c.t.d.fact 12 rfl)
theorem g_left_by_if (T:Tx w h K mg):mg "left_by_if"=some (.ref (He.ga K "left_by_if")):=He.glo_ok T.X T.G (T.c.t.d.fact 13 rfl)
theorem g_left_by_while (T:Tx w h K mg):mg "left_by_while"=some (.ref (He.ga K "left_by_while")):=He.glo_ok T.X T.G (T.c.t.d.fact 14 rfl)
theorem g_left_by_seq (T:Tx w h K mg):mg "left_by_seq"=some (.ref (He.ga K "left_by_seq")):=He.glo_ok T.X T.G (T.c.t.d.fact 15 rfl)
theorem g_left_by_try (T:Tx w h K mg):mg "left_by_try"=some (.ref (He.ga K "left_by_try")):=He.glo_ok T.X T.G (T.c.t.d.fact 16 rfl)
theorem g_left_by_final (T:Tx w h K mg):mg "left_by_final"=some (.ref (He.ga K "left_by_final")):=He.glo_ok T.X T.G (T.c.t.d.fact 17 rfl)
theorem g_shortest_answers (T:Tx w h K mg):mg "shortest_answers"=some (.ref (He.ga K "shortest_answers")):=He.glo_ok T.X T.G (T.c.t.d.fact 18 rfl)
theorem g_all_ways (T:Tx w h K mg):mg "all_ways"=some (.ref (He.ga K "all_ways")):=He.glo_ok T.X T.G (T.c.t.d.fact 19 rfl)
theorem g_ways (T:Tx w h K mg):mg "ways"=some (.ref (He.ga K "ways")):=He.glo_ok T.X T.G (T.c.t.d.fact 20 rfl)
theorem g_SIZES (T:Tx w h K mg):mg "SIZES"=some (.ref (He.ga K "SIZES")):=He.glo_ok T.X T.G (T.c.t.d.fact 21 rfl)
theorem g_NAMED (T:Tx w h K mg):mg "NAMED"=some (.ref (He.ga K "NAMED")):=He.glo_ok T.X T.G (T.c.t.d.fact 22 rfl)
theorem g_JUMPS (T:Tx w h K mg):mg "JUMPS"=some (.ref (He.ga K "JUMPS")):=He.glo_ok T.X T.G (T.c.t.d.fact 23 rfl)
theorem g_is_name (T:Tx w h K mg):mg "is_name"=some (.ref (He.ga K "is_name")):=He.glo_ok T.X T.G (T.c.t.d.fact 24 rfl)
theorem g_is_statement (T:Tx w h K mg):mg "is_statement"=some (.ref (He.ga K "is_statement")):=He.glo_ok T.X T.G (T.c.t.d.fact 25 rfl)
theorem g_parts_in (T:Tx w h K mg):mg "parts_in"=some (.ref (He.ga K "parts_in")):=He.glo_ok T.X T.G (T.c.t.d.fact 26 rfl)
theorem g_Code (T:Tx w h K mg):mg "Code"=some (.ref (He.ga K "Code")):=He.glo_ok T.X T.G (T.c.t.d.fact 27 rfl)
theorem g_law_cell_at (T:Tx w h K mg):mg "_law_cell_at"=some (.ref (He.ga K "_law_cell_at")):=He.glo_ok T.X T.G (T.c.t.d.fact 28 rfl)
theorem g_law_source (T:Tx w h K mg):mg "_law_source"=some (.ref (He.ga K "_law_source")):=He.glo_ok T.X T.G (T.c.t.d.fact 29 rfl)
theorem g_law_draw (T:Tx w h K mg):mg "_law_draw"=some (.ref (He.ga K "_law_draw")):=He.glo_ok T.X T.G (T.c.t.d.fact 30 rfl)
theorem g_law_choice (T:Tx w h K mg):mg "_law_choice"=some (.ref (He.ga K "_law_choice")):=He.glo_ok T.X T.G (T.c.t.d.fact 31 rfl)
theorem g_law_name (T:Tx w h K mg):mg "_law_name"=some (.ref (He.ga K "_law_name")):=He.glo_ok T.X T.G (T.c.t.d.fact 32 rfl)
theorem g_law_leaf (T:Tx w h K mg):mg "_law_leaf"=some (.ref (He.ga K "_law_leaf")):=He.glo_ok T.X T.G (T.c.t.d.fact 33 rfl)
theorem g_law_statement (T:Tx w h K mg):mg "_law_statement"=some (.ref (He.ga K "_law_statement")):=He.glo_ok T.X T.G (T.c.t.d.fact 34 rfl)
theorem g_law_outside (T:Tx w h K mg):mg "_law_outside"=some (.ref (He.ga K "_law_outside")):=He.glo_ok T.X T.G (T.c.t.d.fact 35 rfl)
theorem g_law_of_seq (T:Tx w h K mg):mg "_law_of_seq"=some (.ref (He.ga K "_law_of_seq")):=He.glo_ok T.X T.G (T.c.t.d.fact 36 rfl)
theorem g_law_by_parts (T:Tx w h K mg):mg "_law_by_parts"=some (.ref (He.ga K "_law_by_parts")):=He.glo_ok T.X T.G (T.c.t.d.fact 37 rfl)
theorem g_law_deep_right (T:Tx w h K mg):mg "_law_deep_right"=some (.ref (He.ga K "_law_deep_right")):=He.glo_ok T.X T.G (T.c.t.d.fact 38 rfl)
theorem g_law (T:Tx w h K mg):mg "law"=some (.ref (He.ga K "law")):=He.glo_ok T.X T.G (T.c.t.d.fact 39 rfl)
theorem fr_all (T:Tx w h K mg):mg "all"=none:=He.free_ok T.X T.G (T.c.t.d.fact 42 rfl)
theorem fr_bool (T:Tx w h K mg):mg "bool"=none:=He.free_ok T.X T.G (T.c.t.d.fact 43 rfl)
theorem fr_enumerate (T:Tx w h K mg):mg "enumerate"=none:=He.free_ok T.X T.G (T.c.t.d.fact 44 rfl)
theorem fr_int (T:Tx w h K mg):mg "int"=none:=He.free_ok T.X T.G (T.c.t.d.fact 45 rfl)
theorem fr_isinstance (T:Tx w h K mg):mg "isinstance"=none:=He.free_ok T.X T.G (T.c.t.d.fact 46 rfl)
theorem fr_len (T:Tx w h K mg):mg "len"=none:=He.free_ok T.X T.G (T.c.t.d.fact 47 rfl)
theorem fr_list (T:Tx w h K mg):mg "list"=none:=He.free_ok T.X T.G (T.c.t.d.fact 48 rfl)
theorem fr_range (T:Tx w h K mg):mg "range"=none:=He.free_ok T.X T.G (T.c.t.d.fact 49 rfl)
theorem fr_reversed (T:Tx w h K mg):mg "reversed"=none:=He.free_ok T.X T.G (T.c.t.d.fact 50 rfl)
theorem fr_set (T:Tx w h K mg):mg "set"=none:=He.free_ok T.X T.G (T.c.t.d.fact 51 rfl)
theorem fr_sorted (T:Tx w h K mg):mg "sorted"=none:=He.free_ok T.X T.G (T.c.t.d.fact 52 rfl)
theorem fr_str (T:Tx w h K mg):mg "str"=none:=He.free_ok T.X T.G (T.c.t.d.fact 53 rfl)
theorem fr_tuple (T:Tx w h K mg):mg "tuple"=none:=He.free_ok T.X T.G (T.c.t.d.fact 54 rfl)
theorem i_MOST_STATEMENTS (T:Tx w h K mg):∃ t,mg "MOST_STATEMENTS"=some (.int 400 t):=He.int_ok T.X T.G (T.c.t.d.fact 55 rfl)
theorem i_MOST_DEEP (T:Tx w h K mg):∃ t,mg "MOST_DEEP"=some (.int 100 t):=He.int_ok T.X T.G (T.c.t.d.fact 56 rfl)
theorem i_MOST_BLOCKS (T:Tx w h K mg):∃ t,mg "MOST_BLOCKS"=some (.int 25 t):=He.int_ok T.X T.G (T.c.t.d.fact 57 rfl)
theorem i_MOST_LETTERS (T:Tx w h K mg):∃ t,mg "MOST_LETTERS"=some (.int 8 t):=He.int_ok T.X T.G (T.c.t.d.fact 58 rfl)
theorem i_LETTERS (T:Tx w h K mg):∃ t,mg "LETTERS"=some (.str "abcdefghijklmnopqrstuvwxyz" t):=He.str_ok T.X T.G (T.c.t.d.fact 59 rfl)
theorem c_Code (T:Tx w h K mg):Cls K (He.ga K "Code"):=He.cls_ok (T.c.t.d.fact 60 rfl)
theorem mk_Code (T:Tx w h K mg):Mk K (He.ga K "Code") (He.ma K (He.ga K "Code") "__init__"):=He.mkr_ok (T.c.t.d.fact 61 rfl)
theorem na_Code_children (T:Tx w h K mg):NoAttr K (He.ga K "Code") "children":=He.noat_ok (T.c.t.d.fact 62 rfl)
theorem na_Code_kinds (T:Tx w h K mg):NoAttr K (He.ga K "Code") "kinds":=He.noat_ok (T.c.t.d.fact 63 rfl)
theorem na_Code_labels (T:Tx w h K mg):NoAttr K (He.ga K "Code") "labels":=He.noat_ok (T.c.t.d.fact 64 rfl)
theorem na_Code_parents (T:Tx w h K mg):NoAttr K (He.ga K "Code") "parents":=He.noat_ok (T.c.t.d.fact 65 rfl)
theorem na_Code_statements (T:Tx w h K mg):NoAttr K (He.ga K "Code") "statements":=He.noat_ok (T.c.t.d.fact 66 rfl)
theorem me_Code_check (T:Tx w h K mg):Meth K (He.ga K "Code") "check" (He.ma K (He.ga K "Code") "check"):=He.meth_ok (T.c.t.d.fact 67 rfl)
theorem me_Code_keep (T:Tx w h K mg):Meth K (He.ga K "Code") "keep" (He.ma K (He.ga K "Code") "keep"):=He.meth_ok (T.c.t.d.fact 68 rfl)
theorem me_Code___len__ (T:Tx w h K mg):Meth K (He.ga K "Code") "__len__" (He.ma K (He.ga K "Code") "__len__"):=He.meth_ok (T.c.t.d.fact 70 rfl)
theorem me_Code___getitem__ (T:Tx w h K mg):Meth K (He.ga K "Code") "__getitem__" (He.ma K (He.ga K "Code") "__getitem__"):=He.meth_ok (T.c.t.d.fact 71 rfl)
theorem me_Code_check_number (T:Tx w h K mg):Meth K (He.ga K "Code") "check_number" (He.ma K (He.ga K "Code") "check_number"):=He.meth_ok (T.c.t.d.fact 73 rfl)
theorem me_Code_kind (T:Tx w h K mg):Meth K (He.ga K "Code") "kind" (He.ma K (He.ga K "Code") "kind"):=He.meth_ok (T.c.t.d.fact 76 rfl)
theorem me_Code_parts (T:Tx w h K mg):Meth K (He.ga K "Code") "parts" (He.ma K (He.ga K "Code") "parts"):=He.meth_ok (T.c.t.d.fact 78 rfl)
theorem F_is_integer (T:Tx w h K mg):∃ fd,FunD K "is_integer" "is_integer" (defArgs sd_is_integer) (defBody sd_is_integer) (defScope sd_is_integer) [] [] (He.fAd K ("is_integer",none)) fd:=T.c.t.d.def_ 4 rfl
theorem F_is_between (T:Tx w h K mg):∃ fd,FunD K "is_between" "is_between" (defArgs sd_is_between) (defBody sd_is_between) (defScope sd_is_between) [] [] (He.fAd K ("is_between",none)) fd:=T.c.t.d.def_ 5 rfl
theorem F_comes_first (T:Tx w h K mg):∃ fd,FunD K "comes_first" "comes_first" (defArgs sd_comes_first) (defBody sd_comes_first) (defScope sd_comes_first) [] [] (He.fAd K ("comes_first",none)) fd:=T.c.t.d.def_ 6 rfl
theorem F_keep_first (T:Tx w h K mg):∃ fd,FunD K "keep_first" "keep_first" (defArgs sd_keep_first) (defBody sd_keep_first) (defScope sd_keep_first) [] [] (He.fAd K ("keep_first",none)) fd:=T.c.t.d.def_ 7 rfl
theorem F_first_shortest (T:Tx w h K mg):∃ fd,FunD K "first_shortest" "first_shortest" (defArgs sd_first_shortest) (defBody sd_first_shortest) (defScope sd_first_shortest) [] [] (He.fAd K ("first_shortest",none)) fd:=T.c.t.d.def_ 8 rfl
theorem F_left_by_leaf (T:Tx w h K mg):∃ fd,FunD K "left_by_leaf" "left_by_leaf" (defArgs sd_left_by_leaf) (defBody sd_left_by_leaf) (defScope sd_left_by_leaf) [] [] (He.fAd K ("left_by_leaf",none)) fd:=T.c.t.d.def_ 9 rfl
theorem F_left_by_if (T:Tx w h K mg):∃ fd,FunD K "left_by_if" "left_by_if" (defArgs sd_left_by_if) (defBody sd_left_by_if) (defScope sd_left_by_if) [] [] (He.fAd K ("left_by_if",none)) fd:=T.c.t.d.def_ 10 rfl
theorem F_left_by_while (T:Tx w h K mg):∃ fd,FunD K "left_by_while" "left_by_while" (defArgs sd_left_by_while) (defBody sd_left_by_while) (defScope sd_left_by_while) [] [] (He.fAd K ("left_by_while",none)) fd:=T.c.t.d.def_ 11 rfl
theorem F_left_by_seq (T:Tx w h K mg):∃ fd,FunD K "left_by_seq" "left_by_seq" (defArgs sd_left_by_seq) (defBody sd_left_by_seq) (defScope sd_left_by_seq) [] [] (He.fAd K ("left_by_seq",none)) fd:=T.c.t.d.def_ 12 rfl
theorem F_left_by_try (T:Tx w h K mg):∃ fd,FunD K "left_by_try" "left_by_try" (defArgs sd_left_by_try) (defBody sd_left_by_try) (defScope sd_left_by_try) [] [] (He.fAd K ("left_by_try",none)) fd:=T.c.t.d.def_ 13 rfl
theorem F_left_by_final (T:Tx w h K mg):∃ fd,FunD K "left_by_final" "left_by_final" (defArgs sd_left_by_final) (defBody sd_left_by_final) (defScope sd_left_by_final) [] [] (He.fAd K ("left_by_final",none)) fd:=T.c.t.d.def_ 14 rfl
theorem F_shortest_answers (T:Tx w h K mg):∃ fd,FunD K "shortest_answers" "shortest_answers" (defArgs sd_shortest_answers) (defBody sd_shortest_answers) (defScope sd_shortest_answers) [] [] (He.fAd K ("shortest_answers",none)) fd:=T.c.t.d.def_ 15 rfl
theorem F_all_ways (T:Tx w h K mg):∃ fd,FunD K "all_ways" "all_ways" (defArgs sd_all_ways) (defBody sd_all_ways) (defScope sd_all_ways) [] [] (He.fAd K ("all_ways",none)) fd:=T.c.t.d.def_ 16 rfl
theorem F_ways (T:Tx w h K mg):∃ fd,FunD K "ways" "ways" (defArgs sd_ways) (defBody sd_ways) (defScope sd_ways) [] [] (He.fAd K ("ways",none)) fd:=T.c.t.d.def_ 17 rfl
theorem F_is_name (T:Tx w h K mg):∃ fd,FunD K "is_name" "is_name" (defArgs sd_is_name) (defBody sd_is_name) (defScope sd_is_name) [] [] (He.fAd K ("is_name",none)) fd:=T.c.t.d.def_ 18 rfl
theorem F_is_statement (T:Tx w h K mg):∃ fd,FunD K "is_statement" "is_statement" (defArgs sd_is_statement) (defBody sd_is_statement) (defScope sd_is_statement) [] [] (He.fAd K ("is_statement",none)) fd:=T.c.t.d.def_ 19 rfl
theorem F_parts_in (T:Tx w h K mg):∃ fd,FunD K "parts_in" "parts_in" (defArgs sd_parts_in) (defBody sd_parts_in) (defScope sd_parts_in) [] [] (He.fAd K ("parts_in",none)) fd:=T.c.t.d.def_ 20 rfl
theorem F_Code___init__ (T:Tx w h K mg):∃ fd,FunD K "__init__" "Code.__init__" (defArgs sd_Code___init__) (defBody sd_Code___init__) (defScope sd_Code___init__) [] [] (He.fAd K ("Code",some "__init__")) fd:=T.c.t.d.def_ 21 rfl
theorem F_Code_check (T:Tx w h K mg):∃ fd,FunD K "check" "Code.check" (defArgs sd_Code_check) (defBody sd_Code_check) (defScope sd_Code_check) [] [] (He.fAd K ("Code",some "check")) fd:=T.c.t.d.def_ 22 rfl
theorem F_Code_keep (T:Tx w h K mg):∃ fd,FunD K "keep" "Code.keep" (defArgs sd_Code_keep) (defBody sd_Code_keep) (defScope sd_Code_keep) [] [] (He.fAd K ("Code",some "keep")) fd:=T.c.t.d.def_ 23 rfl
theorem F_Code___len__ (T:Tx w h K mg):∃ fd,FunD K "__len__" "Code.__len__" (defArgs sd_Code___len__) (defBody sd_Code___len__) (defScope sd_Code___len__) [] [] (He.fAd K ("Code",some "__len__")) fd:=T.c.t.d.def_ 25 rfl
theorem F_Code___getitem__ (T:Tx w h K mg):∃ fd,FunD K "__getitem__" "Code.__getitem__" (defArgs sd_Code___getitem__) (defBody sd_Code___getitem__) (defScope sd_Code___getitem__) [] [] (He.fAd K ("Code",some "__getitem__")) fd:=T.c.t.d.def_ 26 rfl
theorem F_Code_check_number (T:Tx w h K mg):∃ fd,FunD K "check_number" "Code.check_number" (defArgs sd_Code_check_number) (defBody sd_Code_check_number) (defScope sd_Code_check_number) [] [] (He.fAd K ("Code",some "check_number")) fd:=T.c.t.d.def_ 28 rfl
theorem F_Code_kind (T:Tx w h K mg):∃ fd,FunD K "kind" "Code.kind" (defArgs sd_Code_kind) (defBody sd_Code_kind) (defScope sd_Code_kind) [] [] (He.fAd K ("Code",some "kind")) fd:=T.c.t.d.def_ 31 rfl
theorem F_Code_parts (T:Tx w h K mg):∃ fd,FunD K "parts" "Code.parts" (defArgs sd_Code_parts) (defBody sd_Code_parts) (defScope sd_Code_parts) [] [] (He.fAd K ("Code",some "parts")) fd:=T.c.t.d.def_ 33 rfl
theorem F_law_cell_at (T:Tx w h K mg):∃ fd,FunD K "_law_cell_at" "_law_cell_at" (defArgs sd_law_cell_at) (defBody sd_law_cell_at) (defScope sd_law_cell_at) [] [] (He.fAd K ("_law_cell_at",none)) fd:=T.c.t.d.def_ 39 rfl
theorem F_law_source (T:Tx w h K mg):∃ fd,FunD K "_law_source" "_law_source" (defArgs sd_law_source) (defBody sd_law_source) (defScope sd_law_source) [] [] (He.fAd K ("_law_source",none)) fd:=T.c.t.d.def_ 40 rfl
theorem F_law_draw (T:Tx w h K mg):∃ fd,FunD K "_law_draw" "_law_draw" (defArgs sd_law_draw) (defBody sd_law_draw) (defScope sd_law_draw) [] [] (He.fAd K ("_law_draw",none)) fd:=T.c.t.d.def_ 41 rfl
theorem F_law_choice (T:Tx w h K mg):∃ fd,FunD K "_law_choice" "_law_choice" (defArgs sd_law_choice) (defBody sd_law_choice) (defScope sd_law_choice) [] [] (He.fAd K ("_law_choice",none)) fd:=T.c.t.d.def_ 42 rfl
theorem F_law_name (T:Tx w h K mg):∃ fd,FunD K "_law_name" "_law_name" (defArgs sd_law_name) (defBody sd_law_name) (defScope sd_law_name) [] [] (He.fAd K ("_law_name",none)) fd:=T.c.t.d.def_ 43 rfl
theorem F_law_leaf (T:Tx w h K mg):∃ fd,FunD K "_law_leaf" "_law_leaf" (defArgs sd_law_leaf) (defBody sd_law_leaf) (defScope sd_law_leaf) [] [] (He.fAd K ("_law_leaf",none)) fd:=T.c.t.d.def_ 44 rfl
theorem F_law_statement (T:Tx w h K mg):∃ fd,FunD K "_law_statement" "_law_statement" (defArgs sd_law_statement) (defBody sd_law_statement) (defScope sd_law_statement) [] [] (He.fAd K ("_law_statement",none)) fd:=T.c.t.d.def_ 45 rfl
theorem F_law_outside (T:Tx w h K mg):∃ fd,FunD K "_law_outside" "_law_outside" (defArgs sd_law_outside) (defBody sd_law_outside) (defScope sd_law_outside) [] [] (He.fAd K ("_law_outside",none)) fd:=T.c.t.d.def_ 46 rfl
theorem F_law_of_seq (T:Tx w h K mg):∃ fd,FunD K "_law_of_seq" "_law_of_seq" (defArgs sd_law_of_seq) (defBody sd_law_of_seq) (defScope sd_law_of_seq) [] [] (He.fAd K ("_law_of_seq",none)) fd:=T.c.t.d.def_ 47 rfl
theorem F_law_by_parts (T:Tx w h K mg):∃ fd,FunD K "_law_by_parts" "_law_by_parts" (defArgs sd_law_by_parts) (defBody sd_law_by_parts) (defScope sd_law_by_parts) [] [] (He.fAd K ("_law_by_parts",none)) fd:=T.c.t.d.def_ 48 rfl
theorem F_law_deep_right (T:Tx w h K mg):∃ fd,FunD K "_law_deep_right" "_law_deep_right" (defArgs sd_law_deep_right) (defBody sd_law_deep_right) (defScope sd_law_deep_right) [] [] (He.fAd K ("_law_deep_right",none)) fd:=T.c.t.d.def_ 49 rfl
theorem F_law (T:Tx w h K mg):∃ fd,FunD K "law" "law" (defArgs sd_law) (defBody sd_law) (defScope sd_law) [] [] (He.fAd K ("law",none)) fd:=T.c.t.d.def_ 50 rfl
theorem t_NORMAL (T:Tx w h K mg) (H:Hp):SqT K H (He.ga K "NORMAL") [.str "normal"]:=He.tupB_ok (x:="NORMAL") (vs:=[.str "normal"]) (He.ba (He.ba (He.ba (He.ba (He.ba (He.ba (He.ba (He.ba (He.ba (He.ba (He.ba T.c.more).1).1).1).1).1).1).1).1).1).1).1 H
theorem t_RAISE (T:Tx w h K mg) (H:Hp):SqT K H (He.ga K "RAISE") [.str "raise"]:=He.tupB_ok (x:="RAISE") (vs:=[.str "raise"]) (He.ba (He.ba (He.ba (He.ba (He.ba (He.ba (He.ba (He.ba (He.ba (He.ba (He.ba T.c.more).1).1).1).1).1).1).1).1).1).1).2 H
theorem t_NAMED (T:Tx w h K mg) (H:Hp):SqT K H (He.ga K "NAMED") [.str "do",.str "call",.str "if",.str "while"]:=He.tupB_ok (x:="NAMED") (vs:=[.str "do",.str "call",.str "if",.str "while"]) (He.ba (He.ba (He.ba (He.ba (He.ba (He.ba (He.ba (He.ba (He.ba (He.ba T.c.more).1).1).1).1).1).1).1).1).1).2 H
theorem t_JUMPS (T:Tx w h K mg) (H:Hp):SqT K H (He.ga K "JUMPS") [.str "break",.str "continue"]:=He.tupB_ok (x:="JUMPS") (vs:=[.str "break",.str "continue"]) (He.ba (He.ba (He.ba (He.ba (He.ba (He.ba (He.ba (He.ba (He.ba T.c.more).1).1).1).1).1).1).1).1).2 H
theorem d_SIZES (T:Tx w h K mg):∃ es n,KDict K w (He.ga K "SIZES") es n:=T.c.t.tab 0 rfl
theorem dk_SIZES (T:Tx w h K mg):He.dicW K (He.ga K "SIZES")=some (He.keysIn w.params ["do","call","if","while","seq","break","continue","return","raise","try","final"]):=Option.some.inj (show some (He.dicW K (He.ga K "SIZES"))=some (some (He.keysIn w.params ["do","call","if","while","seq","break","continue","return","raise","try","final"])) from congrArg (fun z:He.AlT=>z.2[0]?) T.c.t)
theorem v_SIZES (T:Tx w h K mg) {q:Str×He.Dv} (hq:q∈([("do",.int 2),("call",.int 2),("if",.int 4),("while",.int 3),("seq",.int 2),("break",.int 2),("continue",.int 2),("return",.int 1),("raise",.int 1),("try",.int 3),("final",.int 3)]:List (Str×He.Dv))):∃ u,PySem.W.nsIn K (He.ga K "SIZES") q.1=some (some u)∧RelV (q.2.v K) u:=He.valsB_ok (He.ba (He.ba (He.ba (He.ba (He.ba (He.ba (He.ba (He.ba T.c.more).1).1).1).1).1).1).1).2 hq
end
end Fc
set_option maxRecDepth 100000
set_option maxHeartbeats 4000000
namespace Fc
open PySem PySem.Spec PyProof.Rows L2 FcR
open Evl (Ex)
section
theorem find_none_of {P:Params} {z:Str}:∀ {l:List DictEntry} {ks:List Str},l.map He.keyOf=He.keysIn P ks→z ∉ ks→l.find? (·.key.isStr z)=none∧l.any (·.refKey)=false
 | [],_,_,_=>⟨rfl,rfl⟩
 | e::r,[],h,_=>by cases h
 | e::r,k::ks,h,hz=>by
  have h1:He.keyOf e::r.map He.keyOf=some (k,PyData.keyHash P k)::He.keysIn P ks:=h
  injection h1 with h2 h3
  obtain ⟨i1,i2⟩:=find_none_of (z:=z) h3 fun y=>hz (List.mem_cons_of_mem _ y)
  unfold He.keyOf at h2
  split at h2
  ·rename_i x t q
   have h4:=Option.some.inj h2
   obtain ⟨h5,h6⟩:=Prod.mk.inj h4
   have ne:x≠z:=fun y=>hz (by rw [← y,h5];exact List.mem_cons_self)
   constructor
   ·rw [List.find?_cons]
    have e1:e.key.isStr z=false:=by
     rw [q]
     show (x == z)=false
     simpa using ne
    rw [e1]
    exact i1
   ·rw [List.any_cons,i2]
    have e2:e.refKey=false:=by
     unfold DictEntry.refKey
     rw [q]<;>rfl
    rw [e2]<;>rfl
  ·cases h2
theorem ns_none {K:PySem.W.Frag} {P:Params} {a:Addr} {ks:List Str} {z:Str} (h:He.dicW K a=some (He.keysIn P ks)) (hz:z ∉ ks):PySem.W.nsIn K a z=some none:=by
 unfold He.dicW at h
 unfold PySem.W.nsIn
 cases q:K.lookup a with
 | none=>rw [q] at h;cases h
 | some o =>
  obtain ⟨oc,od,dt,osl⟩:=o
  rw [q] at h
  cases oc with
  | type c =>
   cases od with
   | none =>
    cases dt with
    | dict es n =>
     have h1:(match decide (c="dict") && (osl.isEmpty && !(a == sysModules)) with
      | true=>some (es.toList.map He.keyOf)
      | false=>none)=some (He.keysIn P ks):=h
     split at h1
     ·obtain ⟨i1,i2⟩:=find_none_of (z:=z) (Option.some.inj h1) hz
      show (match es.toList.find? (·.key.isStr z) with
       | some e=>some (some e.val)
       | none=>if es.toList.any (·.refKey) then none else some none)=some none
      rw [i1,i2]
      rfl
     ·cases h1
    | _=>cases h
   | some b=>cases dt<;>cases h
  | _=>cases od<;>cases dt<;>cases h
def tyD:PyData→String
 | .none=>"NoneType"
 | .bool _=>"bool"
 | .int _=>"int"
 | .str _=>"str"
 | .list _=>"list"
 | .tuple _=>"tuple"
 | .dict _=>"dict"
theorem ty_lst {K:PySem.W.Frag} {H:Hp} {a:Addr} {xs:List V} (h:SqL K H a xs):TyX K H (.ref a) (.type "list"):=by
 rcases h with (h | ⟨o,h⟩) | ⟨o,its,n,hk,hc,_⟩
 ·exact .base (.lst h)
 ·exact .base (.frz h)
 ·exact .kList hk hc
theorem ty_tup {K:PySem.W.Frag} {H:Hp} {a:Addr} {xs:List V} (h:SqT K H a xs):TyX K H (.ref a) (.type "tuple"):=by
 rcases h with (h | ⟨o,h⟩) | ⟨o,its,n,hk,hc,_⟩
 ·exact .base (.tup h)
 ·exact .fTuple h
 ·exact .kTuple hk hc
theorem dp_ty {K:PySem.W.Frag} {H:Hp} {v:V} {d:PyData} (h:Dp K H v d):TyX K H v (.type (tyD d)):=by
 cases h with
 | non=>exact .base .non
 | bl b=>exact .base (.bl b)
 | int i=>exact .base (.int i)
 | str x=>exact .base (.str x)
 | lst h _=>exact ty_lst h
 | tup h _=>exact ty_tup h
def isT (n:String) (d:PyData):Bool:=tyD d == n
theorem k_str {K:PySem.W.Frag}:∀ d:PyData,PySem.W.kitOne K (.type (tyD d)) (.type "str")=some (isT "str" d)
 | .none=>kit_ty (show kitB "NoneType" "str"=some false by decide +kernel)
 | .bool _=>kit_ty (show kitB "bool" "str"=some false by decide +kernel)
 | .int _=>kit_ty (show kitB "int" "str"=some false by decide +kernel)
 | .str _=>kit_ty (show kitB "str" "str"=some true by decide +kernel)
 | .list _=>kit_ty (show kitB "list" "str"=some false by decide +kernel)
 | .tuple _=>kit_ty (show kitB "tuple" "str"=some false by decide +kernel)
 | .dict _=>kit_ty (show kitB "dict" "str"=some false by decide +kernel)
theorem k_tuple {K:PySem.W.Frag}:∀ d:PyData,PySem.W.kitOne K (.type (tyD d)) (.type "tuple")=some (isT "tuple" d)
 | .none=>kit_ty (show kitB "NoneType" "tuple"=some false by decide +kernel)
 | .bool _=>kit_ty (show kitB "bool" "tuple"=some false by decide +kernel)
 | .int _=>kit_ty (show kitB "int" "tuple"=some false by decide +kernel)
 | .str _=>kit_ty (show kitB "str" "tuple"=some false by decide +kernel)
 | .list _=>kit_ty (show kitB "list" "tuple"=some false by decide +kernel)
 | .tuple _=>kit_ty (show kitB "tuple" "tuple"=some true by decide +kernel)
 | .dict _=>kit_ty (show kitB "dict" "tuple"=some false by decide +kernel)
theorem k_bool {K:PySem.W.Frag}:∀ d:PyData,PySem.W.kitOne K (.type (tyD d)) (.type "bool")=some (isT "bool" d)
 | .none=>kit_ty (show kitB "NoneType" "bool"=some false by decide +kernel)
 | .bool _=>kit_ty (show kitB "bool" "bool"=some true by decide +kernel)
 | .int _=>kit_ty (show kitB "int" "bool"=some false by decide +kernel)
 | .str _=>kit_ty (show kitB "str" "bool"=some false by decide +kernel)
 | .list _=>kit_ty (show kitB "list" "bool"=some false by decide +kernel)
 | .tuple _=>kit_ty (show kitB "tuple" "bool"=some false by decide +kernel)
 | .dict _=>kit_ty (show kitB "dict" "bool"=some false by decide +kernel)
def isIntB:PyData→Bool
 | .int _=>true
 | .bool _=>true
 | _=>false
theorem k_int {K:PySem.W.Frag}:∀ d:PyData,PySem.W.kitOne K (.type (tyD d)) (.type "int")=some (isIntB d)
 | .none=>kit_ty (show kitB "NoneType" "int"=some false by decide +kernel)
 | .bool _=>kit_ty (show kitB "bool" "int"=some true by decide +kernel)
 | .int _=>kit_ty (show kitB "int" "int"=some true by decide +kernel)
 | .str _=>kit_ty (show kitB "str" "int"=some false by decide +kernel)
 | .list _=>kit_ty (show kitB "list" "int"=some false by decide +kernel)
 | .tuple _=>kit_ty (show kitB "tuple" "int"=some false by decide +kernel)
 | .dict _=>kit_ty (show kitB "dict" "int"=some false by decide +kernel)
def letters:List Nat:=(Str.ofString "abcdefghijklmnopqrstuvwxyz").cps.toList
def nameOk (x:Str):Bool:=(decide ((1:Int)≤x.length) && decide ((x.length:Int)≤8)) && x.cps.toList.all fun c=>decide (c∈letters)
def isName:PyData→Bool
 | .str x=>nameOk x
 | _=>false
def isNum (lo hi:Int):PyData→Bool
 | .int n=>decide (lo≤n) && decide (n≤hi)
 | _=>false
def kNamed:List Str:=["do","call","if","while"]
def kJumps:List Str:=["break","continue"]
def kSizes:List (Str×Int):=[("do",2),("call",2),("if",4),("while",3),("seq",2),("break",2),("continue",2),("return",1),("raise",1),("try",3),("final",3)]
def nonEmptyT:PyData→Bool
 | .tuple (_::_)=>true
 | _=>false
def isStm:PyData→Int→Bool
 | .tuple (.str k::r),loops=>(match kSizes.lookup k with
  | none=>false
  | some n=>if (r.length:Int) + 1≠n then false else
   if k∈kNamed then isName (r.getD 0 .none) else if k∈kJumps then isNum 1 loops (r.getD 0 .none) else
    (if k≠"seq" then true else nonEmptyT (r.getD 0 .none)))
 | _,_=>false
def partsD:PyData→List PyData
 | .tuple (.str k::r)=>if k="seq" then (match r with
   | .tuple ps::_=>ps.take 401
   | _=>[]) else if k∈kNamed then r.drop 1 else if k="try"∨k="final" then r else []
 | _=>[]
end
section
def sp_is_integer (K:PySem.W.Frag):Sp:=fun vs H Q _=>∃ (v:V) (t:Value) (b1 b2:Bool),vs=[v]∧TyX K H v t∧PySem.W.kitOne K t (.type "int")=some b1∧PySem.W.kitOne K t (.type "bool")=some b2∧Q (.bl (b1 && !b2)) H
def sp_is_between (K:PySem.W.Frag):Sp:=fun vs H Q _=>∃ (v:V) (i j:Int),vs=[v,.int i,.int j] ∧
 ((∃ n,v=.int n∧Q (.bl (decide (i≤n) && decide (n≤j))) H)∨(∃ t b1 b2,TyX K H v t∧PySem.W.kitOne K t (.type "int")=some b1∧PySem.W.kitOne K t (.type "bool")=some b2∧(b1 && !b2)=false∧Q (.bl false) H))
theorem k_ii {K:PySem.W.Frag}:PySem.W.kitOne K (.type "int") (.type "int")=some true:=kit_ty (by decide +kernel)
theorem k_ib {K:PySem.W.Frag}:PySem.W.kitOne K (.type "int") (.type "bool")=some false:=kit_ty (by decide +kernel)
section
variable {P:Program} {w:World} {h:Heap} {K:PySem.W.Frag} {mg:Str→Option Value} {base:Heap}
abbrev N_is_integer:List Str:=["value"]
theorem sc_is_integer:FnScope N_is_integer ["value"] (defScope sd_is_integer):=⟨rfl,rfl,rfl,by decide +kernel,rfl,by decide +kernel,by decide +kernel⟩
theorem ok_is_integer (T:Tx w h K mg):Ok P w K mg base 1 ("is_integer",none) ["value"] (sp_is_integer K):=by
 obtain ⟨fd,F⟩:=F_is_integer T
 refine ⟨fd,?_,F.bindsN (fun _ _ _ _ _ _ us hl=>match us,hl with | [_],_=>rfl),F.kp⟩
 refine F.ok sc_is_integer (fun vs H Q E h=>?_) (fun cdv A outer s H vs Q E hr h=>?_)
 ·obtain ⟨v,t,b1,b2,rfl,ty,k1,k2,q⟩:=h
  rfl
 ·obtain ⟨v,t,b1,b2,rfl,ty,k1,k2,q⟩:=h
  refine ⟨_,PSs.nox (pss_one (ps_ret (pe_and (pe_callB call_isi rfl (fr_isinstance T) b_isinstance (pa_cons (pv 0) (pa_cons (pe_bltn (v:=.ty "int") rfl (fr_int T) b_int rfl) pa_nil))) (pe_one (pe_not (pe_callB call_isi rfl (fr_isinstance T) b_isinstance (pa_cons (pv 0) (pa_cons (pe_bltn (v:=.ty "bool") rfl (fr_bool T) b_bool rfl) pa_nil)))))))),?_⟩
  refine ⟨_,rfl,v,.ty "int",t,_,b1,rfl,.ty _,ty,k1,_,rfl,ite_of (fun h1=>?_) (fun h1=>?_)⟩
  ·subst h1
   exact ⟨_,rfl,v,.ty "bool",t,_,b2,rfl,.ty _,ty,k2,_,rfl,q⟩
  ·subst h1
   exact q
abbrev N_is_between:List Str:=["value","low","high"]
theorem sc_is_between:FnScope N_is_between ["value","low","high"] (defScope sd_is_between):=⟨rfl,rfl,rfl,by decide +kernel,rfl,by decide +kernel,by decide +kernel⟩
theorem ok_is_between (T:Tx w h K mg):Ok P w K mg base 2 ("is_between",none) ["value","low","high"] (sp_is_between K):=by
 obtain ⟨fd,F⟩:=F_is_between T
 refine ⟨fd,?_,F.bindsN (fun _ _ _ _ _ _ us hl=>match us,hl with | [_,_,_],_=>rfl),F.kp⟩
 obtain ⟨fd_is_integer,G_is_integer,bi_is_integer,kp_is_integer⟩:=ok_is_integer (P:=P) (base:=base) T
 refine F.ok sc_is_between (fun vs H Q E h=>?_) (fun cdv A outer s H vs Q E hr h=>?_)
 ·obtain ⟨v,i,j,rfl,q⟩:=h
  rfl
 ·obtain ⟨v,i,j,rfl,q⟩:=h
  refine ⟨_,PSs.nox (pss_one (ps_ret (pe_and (pe_call G_is_integer (hr.mono (by decide)) rfl (g_is_integer T) kp_is_integer bi_is_integer .nil passF (pa_cons (pv 0) pa_nil)) (pe_one (pe_chain op_le op_le (pv 1) (pv 0) (pv 2)))))),?_⟩
  rcases q with ⟨n,rfl,q⟩ | ⟨t,b1,b2,ty,k1,k2,hb,q⟩
  ·refine ⟨_,rfl,.int n,.type "int",true,false,rfl,.base (.int n),k_ii,k_ib,_,rfl,itT rfl ?_⟩
   refine ⟨_,rfl,_,rfl,_,_,rfl,rfl,_,rfl,ite_of (fun h1=>?_) (fun h1=>?_)⟩
   ·refine ⟨_,rfl,_,_,rfl,rfl,?_⟩
    rw [h1] at q
    exact q
   ·rw [h1] at q
    exact q
  ·refine ⟨_,rfl,v,t,b1,b2,rfl,ty,k1,k2,_,rfl,itF hb q⟩
end
end
section
def sp_is_name (K:PySem.W.Frag):Sp:=fun vs H Q _=>∃ (v:V) (d:PyData),vs=[v]∧Dp K H v d∧(∀ x,d=.str x→x.length≤100000)∧∀ H',Ex H H'→Q (.bl (isName d)) H'
theorem take_one {α:Type} {l:List α} {i:Nat} {x:α} (h:l[i]?=some x):l.take (i + 1)=l.take i++[x]:=by
 rw [List.take_add_one,h]<;>rfl
section
variable {P:Program} {w:World} {h:Heap} {K:PySem.W.Frag} {mg:Str→Option Value} {base:Heap}
abbrev N_is_name:List Str:=["value","sign"]
theorem sc_is_name:FnScope N_is_name ["value"] (defScope sd_is_name):=⟨rfl,rfl,rfl,by decide +kernel,rfl,by decide +kernel,by decide +kernel⟩
theorem ok_is_name (T:Tx w h K mg):Ok P w K mg base 1 ("is_name",none) ["value"] (sp_is_name K):=by
 obtain ⟨fd,F⟩:=F_is_name T
 refine ⟨fd,?_,F.bindsN (fun _ _ _ _ _ _ us hl=>match us,hl with | [_],_=>rfl),F.kp⟩
 obtain ⟨tm_LETTERS,m_LETTERS⟩:=i_LETTERS T
 obtain ⟨tm_MOST_LETTERS,m_MOST_LETTERS⟩:=i_MOST_LETTERS T
 refine F.ok sc_is_name (fun vs H Q E h=>?_) (fun cdv A outer s H vs Q E hr h=>?_)
 ·obtain ⟨v,d,rfl,hd,hl,q⟩:=h
  rfl
 ·obtain ⟨v,d,rfl,hd,hl,q⟩:=h
  refine ⟨_,PSs.nox (pss_one (ps_ret (pe_and (pe_callB call_isi rfl (fr_isinstance T) b_isinstance (pa_cons (pv 0) (pa_cons (pe_bltn (v:=.ty "str") rfl (fr_str T) b_str rfl) pa_nil))) (pe_and (pe_chain op_le op_le pe_int (pe_callB call_len_str rfl (fr_len T) b_len (pa_cons (pv 0) pa_nil)) (pe_glob (v:=.int 8) rfl m_MOST_LETTERS ⟨_,rfl⟩)) (pe_one (pe_callB (cr_all rfl) rfl (fr_all T) b_all (pa_cons (pe_lc (own:=[("sign",1)]) rfl sc_is_name.nd (pi_str (pv 0)) (blkOk_by (N:=N_is_name) (sc:=defScope sd_is_name) (by decide +kernel)) (fun _ _ _ _ _=>(pg_name (i:=1) sc_is_name.nd rfl (Or.inl rfl))) (fun _ _ _ _ _=>pts_nil) (fun _ _ _ _ _=>(pe_cmpR op_in_sign (pv 1) (pe_glob (v:=.str "abcdefghijklmnopqrstuvwxyz") rfl m_LETTERS ⟨_,rfl⟩) (by rfl)))) pa_nil))))))),?_⟩
  refine ⟨_,rfl,v,.ty "str",_,_,_,rfl,.ty _,dp_ty hd,k_str d,_,rfl,ite_of (fun h1=>?_) (fun h1=>?_)⟩
  ·obtain ⟨x,rfl⟩:∃ x,d=.str x:=by cases d<;>first | exact ⟨_,rfl⟩ | cases h1
   obtain rfl:=dp_str hd
   have hx:=hl x rfl
   have e1:isName (.str x)=((decide ((1:Int)≤x.length) && decide ((x.length:Int)≤8)) && x.cps.toList.all fun c=>decide (c∈letters)):=rfl
   rw [e1] at q
   refine ⟨_,rfl,x,rfl,sz hx,_,_,rfl,rfl,_,rfl,ite_of (fun h2=>?_) (fun h2=>?_)⟩
   ·refine ⟨_,_,rfl,rfl,_,rfl,ite_of (fun h3=>?_) (fun h3=>?_)⟩
    ·refine ⟨_,rfl,x,rfl,fun D hD=>lc_it walk_str (fun i H'=>Ex H H'∧H' D=some (.lst ((x.cps.toList.take i).map fun c=>V.bl (decide (c∈letters))))) ?_ (fun _ _ _ _=>True.intro) ?_ ?_⟩
     ·exact ⟨exu (Evl.Ex.refl H) hD,upd_same⟩
     ·rintro i y H1 H2 hi ⟨k1,k2⟩ ⟨rfl,c,hc,rfl⟩
      refine ⟨rfl,?_⟩
      refine ⟨_,rfl,c,_,rfl,rfl,_,k2,szl ?_,exm k1 hD,?_⟩
      ·have e2:x.cps.size=x.length:=rfl
       rw [List.length_map,List.length_take]
       omega
      ·have hc':x.cps.toList[i]?=some c:=by simpa using hc
       rw [take_one hc',List.map_append,upd_same]<;>rfl
     ·rintro H1 ⟨k1,k2⟩
      refine ⟨D,x.cps.toList.map fun c=>decide (c∈letters),rfl,Evl.sq_of ?_,?_⟩
      ·have e4:x.cps.size=x.cps.toList.length:=by simp
       rw [k2,e4,List.take_length,List.map_map]<;>rfl
      ·rw [h2,h3] at q
       have e3:((x.cps.toList.map fun c=>decide (c∈letters)).all id)=x.cps.toList.all fun c=>decide (c∈letters):=by simp [List.all_map]
       rw [e3]
       exact q H1 k1
    ·rw [h2,h3] at q
     exact q H (Evl.Ex.refl H)
   ·refine ⟨_,rfl,itF rfl ?_⟩
    rw [h2] at q
    exact q H (Evl.Ex.refl H)
  ·have e:isName d=false:=by cases d<;>first | rfl | cases h1
   rw [e] at q
   exact q H (Evl.Ex.refl H)
end
end
section
theorem at0 {α:Type} {v:α} {r:List α}:atI (v::r) 0=some v:=atI_nat (j:=0) rfl
theorem at1 {α:Type} {u v:α} {r:List α}:atI (u::v::r) 1=some v:=atI_nat (j:=1) rfl
def szD (d:PyData):Prop:=∀ k x r,d=.tuple (k::.str x::r)→x.length≤100000
def sp_is_statement (K:PySem.W.Frag):Sp:=fun vs H Q _=>∃ (v:V) (d:PyData) (loops:Int),vs=[v,.int loops]∧Dp K H v d∧PyData.canLay0 d=true∧szD d∧∀ H',Ex H H'→Q (.bl (isStm d loops)) H'
theorem eqv_nil (ds:List PyData):PyData.eqv (.tuple ds) (.tuple [])=ds.isEmpty:=by
 cases ds<;>simp [PyData.eqv,PyData.eqvAll]
theorem min_nil (d:PyData):min d.depth (PyData.tuple []).depth≤200:=Nat.le_trans (Nat.min_le_right _ _) (by decide)
theorem inV_strs (k:Str) (l:List Str):inV (.str k) (l.map V.str)=decide (k∈l):=by
 unfold inV
 rw [List.any_map]
 induction l with
 | nil=>rfl
 | cons a l ih =>
  rw [List.any_cons,ih]
  show ((a == k) || decide (k∈l))=decide (k∈a::l)
  by_cases h:a=k
  ·subst h;simp
  ·have h2:(a == k)=false:=by simpa using h
   have h3:¬ k=a:=fun e=>h e.symm
   simp [h2,h3]
theorem flat_strs (l:List Str):(l.map V.str).all flatV=true:=by
 rw [List.all_map]
 exact List.all_eq_true.mpr fun _ _=>rfl
theorem named_two {k:Str} {n:Int} (h:k∈kNamed) (e:kSizes.lookup k=some n):2≤n:=by
 simp only [kNamed,List.mem_cons,List.not_mem_nil,or_false] at h
 rcases h with rfl | rfl | rfl | rfl
 ·have:kSizes.lookup ("do":Str)=some 2:=by decide +kernel
  rw [this] at e;cases e;decide
 ·have:kSizes.lookup ("call":Str)=some 2:=by decide +kernel
  rw [this] at e;cases e;decide
 ·have:kSizes.lookup ("if":Str)=some 4:=by decide +kernel
  rw [this] at e;cases e;decide
 ·have:kSizes.lookup ("while":Str)=some 3:=by decide +kernel
  rw [this] at e;cases e;decide
theorem jumps_two {k:Str} {n:Int} (h:k∈kJumps) (e:kSizes.lookup k=some n):n=2:=by
 simp only [kJumps,List.mem_cons,List.not_mem_nil,or_false] at h
 rcases h with rfl | rfl
 ·have:kSizes.lookup ("break":Str)=some 2:=by decide +kernel
  rw [this] at e;cases e;rfl
 ·have:kSizes.lookup ("continue":Str)=some 2:=by decide +kernel
  rw [this] at e;cases e;rfl
theorem seq_two {n:Int} (e:kSizes.lookup ("seq":Str)=some n):n=2:=by
 have:kSizes.lookup ("seq":Str)=some 2:=by decide +kernel
 rw [this] at e;cases e;rfl
theorem lookup_mem {k:Str} {n:Int}:∀ {l:List (Str×Int)},l.lookup k=some n→(k,n)∈l
 | [],h=>by cases h
 | (a,b)::l,h=>by
  rw [List.lookup_cons] at h
  by_cases e:k=a
  ·subst e
   have e2:(k == k)=true:=by simp
   rw [e2] at h
   cases h
   exact List.mem_cons_self
  ·have e2:(k == a)=false:=by simpa using e
   rw [e2] at h
   exact List.mem_cons_of_mem _ (lookup_mem h)
theorem lookup_none {k:Str}:∀ {l:List (Str×Int)},l.lookup k=none→k ∉ l.map (·.1)
 | [],_=>fun h=>by cases h
 | (a,b)::l,h=>by
  rw [List.lookup_cons] at h
  by_cases e:k=a
  ·subst e
   have e2:(k == k)=true:=by simp
   rw [e2] at h
   cases h
  ·have e2:(k == a)=false:=by simpa using e
   rw [e2] at h
   intro m
   rcases List.mem_cons.mp m with m | m
   ·exact e m
   ·exact lookup_none h m
section
variable {P:Program} {w:World} {h:Heap} {K:PySem.W.Frag} {mg:Str→Option Value} {base:Heap}
theorem sizes_ns (T:Tx w h K mg) (k:Str):∃ r,PySem.W.nsIn K (He.ga K "SIZES") k=some r∧(match kSizes.lookup k with
  | none=>r=none
  | some n=>∃ u,r=some u∧RelV (.int n) u):=by
 cases e:kSizes.lookup k with
 | none=>exact ⟨none,ns_none (dk_SIZES T) (lookup_none e),rfl⟩
 | some n =>
  have m:=lookup_mem e
  have m2:(k,He.Dv.int n)∈([("do",.int 2),("call",.int 2),("if",.int 4),("while",.int 3),("seq",.int 2),("break",.int 2),("continue",.int 2),("return",.int 1),("raise",.int 1),("try",.int 3),("final",.int 3)]:List (Str×He.Dv)) :=
   List.mem_map_of_mem (f:=fun q:Str×Int=>(q.1,He.Dv.int q.2)) m
  obtain ⟨u,e1,e2⟩:=v_SIZES T m2
  exact ⟨some u,e1,u,rfl,e2⟩
abbrev N_is_statement:List Str:=["value","loops"]
theorem sc_is_statement:FnScope N_is_statement ["value","loops"] (defScope sd_is_statement):=⟨rfl,rfl,rfl,by decide +kernel,rfl,by decide +kernel,by decide +kernel⟩
theorem ok_is_statement (T:Tx w h K mg):Ok P w K mg base 3 ("is_statement",none) ["value","loops"] (sp_is_statement K):=by
 obtain ⟨fd,F⟩:=F_is_statement T
 refine ⟨fd,?_,F.bindsN (fun _ _ _ _ _ _ us hl=>match us,hl with | [_,_],_=>rfl),F.kp⟩
 obtain ⟨fd_is_between,G_is_between,bi_is_between,kp_is_between⟩:=ok_is_between (P:=P) (base:=base) T
 obtain ⟨fd_is_name,G_is_name,bi_is_name,kp_is_name⟩:=ok_is_name (P:=P) (base:=base) T
 obtain ⟨es,nE,D⟩:=d_SIZES T
 refine F.ok sc_is_statement (fun vs H Q E h=>?_) (fun cdv A outer s H vs Q E hr h=>?_)
 ·obtain ⟨v,d,loops,rfl,hd,hc,hz,q⟩:=h
  rfl
 ·obtain ⟨v,d,loops,rfl,hd,hc,hz,q⟩:=h
  refine ⟨_,PSs.nox (pss_cons (ps_if (PW.pt (pw_or (pt_not (pt_val (pe_callB call_isi rfl (fr_isinstance T) b_isinstance (pa_cons (pv 0) (pa_cons (pe_bltn (v:=.ty "tuple") rfl (fr_tuple T) b_tuple rfl) pa_nil))))) (pw_or (pt_cmpR (op_eqM hr) (pv 0) (pe_tup pa_nil) (nomark _)) (pw_or1 (pt_not (pt_val (pe_callB call_isi rfl (fr_isinstance T) b_isinstance (pa_cons (pe_ix ix_tup (pv 0) pe_int (fun _ _=>rfl)) (pa_cons (pe_bltn (v:=.ty "str") rfl (fr_str T) b_str rfl) pa_nil))))))))) (pss_one (ps_ret pe_bl)) pss_nil) (pss_cons (ps_if (PW.pt (pw_or (pt_cmpR (op_notIn_kd D) (pe_ix ix_tup (pv 0) pe_int (fun _ _=>rfl)) (pe_glob (v:=.ref (He.ga K "SIZES")) rfl (g_SIZES T) rfl) (by rfl)) (pw_or1 (pt_cmpR op_ne (pe_callB call_len_seq rfl (fr_len T) b_len (pa_cons (pv 0) pa_nil)) (pe_ix ix_kdict (pe_glob (v:=.ref (He.ga K "SIZES")) rfl (g_SIZES T) rfl) (pe_ix ix_tup (pv 0) pe_int (fun _ _=>rfl)) (fun _ _=>rfl)) (nomark _))))) (pss_one (ps_ret pe_bl)) pss_nil) (pss_cons (ps_if (pt_cmpR op_in_seq (pe_ix ix_tup (pv 0) pe_int (fun _ _=>rfl)) (pe_glob (v:=.ref (He.ga K "NAMED")) rfl (g_NAMED T) rfl) (by rfl)) (pss_one (ps_ret (pe_call G_is_name (hr.mono (by decide)) rfl (g_is_name T) kp_is_name bi_is_name .nil passF (pa_cons (pe_ix ix_tup (pv 0) pe_int (fun _ _=>rfl)) pa_nil)))) pss_nil) (pss_cons (ps_if (pt_cmpR op_in_seq (pe_ix ix_tup (pv 0) pe_int (fun _ _=>rfl)) (pe_glob (v:=.ref (He.ga K "JUMPS")) rfl (g_JUMPS T) rfl) (by rfl)) (pss_one (ps_ret (pe_call G_is_between (hr.mono (by decide)) rfl (g_is_between T) kp_is_between bi_is_between .nil passF (pa_cons (pe_ix ix_tup (pv 0) pe_int (fun _ _=>rfl)) (pa_cons pe_int (pa_cons (pv 1) pa_nil)))))) pss_nil) (pss_one (ps_ret (pe_or (pe_cmpR op_ne (pe_ix ix_tup (pv 0) pe_int (fun _ _=>rfl)) pe_str (nomark _)) (pe_one (pe_and (pe_callB call_isi rfl (fr_isinstance T) b_isinstance (pa_cons (pe_ix ix_tup (pv 0) pe_int (fun _ _=>rfl)) (pa_cons (pe_bltn (v:=.ty "tuple") rfl (fr_tuple T) b_tuple rfl) pa_nil))) (pe_one (pe_cmpR (op_neM hr) (pe_ix ix_tup (pv 0) pe_int (fun _ _=>rfl)) (pe_tup pa_nil) (nomark _)))))))))))),?_⟩
  refine ⟨_,rfl,v,.ty "tuple",_,_,_,rfl,.ty _,dp_ty hd,k_tuple d,_,rfl,ite_of (fun h1=>?_) (fun h1=>?_)⟩
  ·have e:isStm d loops=false:=by cases d<;>first | rfl | cases h1
   rw [e] at q
   exact q H (Evl.Ex.refl H)
  obtain ⟨ds,rfl⟩:∃ ds,d=.tuple ds:=by cases d<;>first | exact ⟨_,rfl⟩ | cases h1
  obtain ⟨a,xs,rfl,hS,hA⟩:=dp_tup hd
  refine ⟨_,rfl,sz (by decide),fun p hp=>?_⟩
  have x1:Ex H (upd H p (.tup [])):=exu (Evl.Ex.refl H) hp
  refine ⟨.tuple ds,.tuple [],dp_ex x1 hd,.tup (Evl.st_of upd_same) .nil,hc,rfl,min_nil _,_,rfl,ite_of (fun h2=>?_) (fun h2=>?_)⟩
  ·rw [eqv_nil] at h2
   cases ds with
   | nil=>exact q _ x1
   | cons _ _=>cases h2
  rw [eqv_nil] at h2
  cases hA with
  | nil=>cases h2
  | @cons v0 xr d0 dr h0 hA =>
  have hS1:=Evl.ex_t x1 hS
  refine ⟨_,rfl,a,_,_,_,rfl,rfl,hS1,at0,v0,.ty "str",_,_,_,rfl,.ty _,dp_ty (dp_ex x1 h0),k_str d0,_,rfl,ite_of (fun h3=>?_) (fun h3=>?_)⟩
  ·have e:isStm (.tuple (d0::dr)) loops=false:=by cases d0<;>first | rfl | cases h3
   rw [e] at q
   exact q _ x1
  obtain ⟨k,rfl⟩:∃ k,d0=.str k:=by cases d0<;>first | exact ⟨_,rfl⟩ | cases h3
  obtain rfl:=dp_str h0
  have el:=dpA_len hA
  obtain ⟨r,n1,n2⟩:=sizes_ns T k
  refine ⟨_,rfl,a,_,_,_,rfl,rfl,hS1,at0,k,r,rfl,rfl,n1,_,rfl,ite_of (fun h4=>?_) (fun h4=>?_)⟩
  ·have e:isStm (.tuple (.str k::dr)) loops=false:=by
    cases e1:kSizes.lookup k with
    | none=>simp only [isStm,e1]
    | some n =>
     rw [e1] at n2
     obtain ⟨u,rfl,_⟩:=n2
     cases h4
   rw [e] at q
   exact q _ x1
  cases e1:kSizes.lookup k with
  | none =>
   rw [e1] at n2
   subst n2
   cases h4
  | some n =>
  rw [e1] at n2
  obtain ⟨u,rfl,ru⟩:=n2
  have q':∀ b,(isStm (.tuple (.str k::dr)) loops=b)→∀ H',Ex H H'→Q (.bl b) H':=fun b e=>by rw [← e];exact q
  refine ⟨_,rfl,a,_,rfl,.inr hS1,_,rfl,a,_,_,_,rfl,rfl,hS1,at0,_,k,.int n,rfl,rfl,⟨es,nE,u,D.at_,D.lit,n1,ru⟩,rfl,_,rfl,ite_of (fun h5=>?_) (fun h5=>?_)⟩
  ·refine q' false ?_ _ x1
   have h6:¬ ((dr.length:Int) + 1=n):=by
    intro e
    have:decide (V.int ((V.str k::xr).length:Int)=V.int n)=true:=decide_eq_true (by rw [List.length_cons,el];congr 1)
    rw [this] at h5
    cases h5
   simp only [isStm,e1,if_pos h6]
  have hn:(dr.length:Int) + 1=n:=by
   have h6:decide (V.int ((V.str k::xr).length:Int)=V.int n)=true:=by
    cases z:decide (V.int ((V.str k::xr).length:Int)=V.int n) with
    | true=>rfl
    | false=>rw [z] at h5;cases h5
   have h7:=V.int.inj (of_decide_eq_true h6)
   rw [List.length_cons,el] at h7
   omega
  have es0:isStm (.tuple (.str k::dr)) loops=(if k∈kNamed then isName (dr.getD 0 .none) else if k∈kJumps then isNum 1 loops (dr.getD 0 .none) else (if k≠"seq" then true else nonEmptyT (dr.getD 0 .none))):=by
   simp only [isStm,e1,if_neg (show ¬ ((dr.length:Int) + 1≠n) from fun z=>z hn)]
  refine ⟨_,rfl,a,_,_,_,rfl,rfl,hS1,at0,He.ga K "NAMED",_,rfl,.inr (t_NAMED T _),rfl,flat_strs kNamed,_,rfl,ite_of (fun h6=>?_) (fun h6=>?_)⟩
  ·have h6:inV (.str k) (kNamed.map V.str)=true:=h6
   rw [inV_strs] at h6
   have hk:=of_decide_eq_true h6
   have n2:=named_two hk e1
   cases hA with
   | nil=>simp at hn;omega
   | @cons v1 xr d1 dr g1 hA =>
   refine ⟨_,rfl,a,_,_,_,rfl,rfl,hS1,at1,v1,d1,rfl,dp_ex x1 g1,fun x e=>hz (.str k) x dr (by rw [e]),fun H' x2=>q' _ ?_ H' (x1.trans x2)⟩
   rw [es0,if_pos hk]<;>rfl
  have h6:inV (.str k) (kNamed.map V.str)=false:=h6
  rw [inV_strs] at h6
  have hk:¬ k∈kNamed:=of_decide_eq_false h6
  refine ⟨_,rfl,a,_,_,_,rfl,rfl,hS1,at0,He.ga K "JUMPS",_,rfl,.inr (t_JUMPS T _),rfl,flat_strs kJumps,_,rfl,ite_of (fun h7=>?_) (fun h7=>?_)⟩
  ·have h7:inV (.str k) (kJumps.map V.str)=true:=h7
   rw [inV_strs] at h7
   have hj:=of_decide_eq_true h7
   have n2:=jumps_two hj e1
   cases hA with
   | nil=>simp at hn;omega
   | @cons v1 xr d1 dr g1 hA =>
   have e2:isStm (.tuple (.str k::d1::dr)) loops=isNum 1 loops d1:=by rw [es0,if_neg hk,if_pos hj]<;>rfl
   refine ⟨_,rfl,a,_,_,_,rfl,rfl,hS1,at1,_,rfl,v1,1,loops,rfl,?_⟩
   cases d1 with
   | int m =>
    obtain rfl:=dp_int g1
    exact .inl ⟨m,rfl,q' _ e2 _ x1⟩
   | _=>exact .inr ⟨_,_,_,dp_ty (dp_ex x1 g1),k_int _,k_bool _,rfl,q' _ e2 _ x1⟩
  have h7:inV (.str k) (kJumps.map V.str)=false:=h7
  rw [inV_strs] at h7
  have hj:¬ k∈kJumps:=of_decide_eq_false h7
  rw [if_neg hk,if_neg hj] at es0
  refine ⟨_,rfl,a,_,_,_,rfl,rfl,hS1,at0,rfl,_,rfl,ite_of (fun h8=>?_) (fun h8=>?_)⟩
  ·have hs:k≠"seq":=by
    intro e
    subst e
    have z:decide (V.str "seq"=V.str "seq")=true:=decide_eq_true rfl
    rw [z] at h8
    cases h8
   exact q' true (by rw [es0,if_pos hs]) _ x1
  have hs:k="seq":=by
   cases z:decide (V.str k=V.str "seq") with
   | true=>exact V.str.inj (of_decide_eq_true z)
   | false=>rw [z] at h8;cases h8
  subst hs
  have n2:=seq_two e1
  cases hA with
  | nil=>simp at hn;omega
  | @cons v1 xr d1 dr g1 hA =>
  rw [if_neg (fun z=>z rfl)] at es0
  refine ⟨_,rfl,a,_,_,_,rfl,rfl,hS1,at1,v1,.ty "tuple",_,_,_,rfl,.ty _,dp_ty (dp_ex x1 g1),k_tuple d1,_,rfl,ite_of (fun h9=>?_) (fun h9=>?_)⟩
  ·obtain ⟨es2,rfl⟩:∃ ds,d1=.tuple ds:=by cases d1<;>first | exact ⟨_,rfl⟩ | cases h9
   refine ⟨_,rfl,a,_,_,_,rfl,rfl,hS1,at1,sz (by decide),fun p2 hp2=>?_⟩
   have x2:Ex H (upd (upd H p (.tup [])) p2 (.tup [])):=exu x1 hp2
   have hc1:PyData.canLay0 (.tuple es2)=true:=by
    have z:(PyData.canLay0 (.str "seq") && (PyData.canLay0 (.tuple es2) && PyData.canLayAll0 dr))=true:=hc
    exact (Bool.and_eq_true_iff.mp (Bool.and_eq_true_iff.mp z).2).1
   refine ⟨.tuple es2,.tuple [],dp_ex x2 g1,.tup (Evl.st_of upd_same) .nil,hc1,rfl,min_nil _,q' _ ?_ _ x2⟩
   rw [es0,eqv_nil]
   cases es2<;>rfl
  ·refine q' false ?_ _ x1
   rw [es0]
   cases d1<;>first | rfl | cases h9
end
end
section
theorem sl_any {K:PySem.W.Frag} {H:Hp} {a:Addr} {xs:List V} {lo hi:Option Int} {Q:VK} (hS:SqT K H a xs) (k:∀ p H',Ex H H'→SqT K H' p (cutV xs lo hi)→Q (.ref p) H'):rSlA K (.ref a) lo hi H Q:=by
 refine ⟨a,xs,rfl,hS,fun h=>k a H (Evl.Ex.refl H) ?_,fun _ p hp=>k p _ (exu (Evl.Ex.refl H) hp) (Evl.st_of upd_same)⟩
 have e:cutV xs lo hi=xs:=by
  unfold cutV
  rw [h.1,h.2]
  simp
 rw [e]
 exact hS
theorem cut_from (xs:List V) (n:Nat):cutV xs (some (n:Int)) none=xs.drop n:=by
 unfold cutV
 rw [HT.sIx_none,HT.sIx_nat]
 by_cases h:n≤xs.length
 ·rw [Nat.min_eq_left h,List.take_of_length_le (by rw [List.length_drop];omega)]
 ·rw [Nat.min_eq_right (by omega),List.drop_eq_nil_of_le (by omega),List.drop_eq_nil_of_le (by omega)]
  simp
theorem cut_to (xs:List V) (n:Nat):cutV xs none (some (n:Int))=xs.take n:=by
 unfold cutV
 rw [HT.sIx_none,HT.sIx_nat]
 simp only [List.drop_zero,Nat.sub_zero]
 by_cases h:n≤xs.length
 ·rw [Nat.min_eq_left h]
 ·rw [Nat.min_eq_right (by omega),List.take_of_length_le (Nat.le_refl _),List.take_of_length_le (by omega)]
def sp_parts_in (K:PySem.W.Frag):Sp:=fun vs H Q _=>∃ (F:Hp) (v:V) (d:PyData) (loops:Int),vs=[v]∧Ex F H∧Dp K F v d∧isStm d loops=true ∧
 ∀ p H' xs,H p=none→Ex H H'→H' p=some (.lst xs)→DpAll K F xs (partsD d)→Q (.ref p) H'
theorem isStm_shape {d:PyData} {loops:Int} (h:isStm d loops=true):∃ k r n,d=.tuple (.str k::r)∧kSizes.lookup k=some n∧(r.length:Int) + 1=n ∧
  (if k∈kNamed then isName (r.getD 0 .none) else if k∈kJumps then isNum 1 loops (r.getD 0 .none) else (if k≠"seq" then true else nonEmptyT (r.getD 0 .none)))=true:=by
 unfold isStm at h
 split at h
 ·rename_i k r
  split at h
  ·cases h
  ·rename_i n e
   split at h
   ·cases h
   ·rename_i hn
    exact ⟨k,r,n,rfl,e,Decidable.not_not.mp hn,h⟩
 ·cases h
theorem fresh_up {H H':Hp} {p:Addr} (e:Ex H H') (h:H' p=none):H p=none:=Evl.fresh_back e h
section
variable {P:Program} {w:World} {h:Heap} {K:PySem.W.Frag} {mg:Str→Option Value} {base:Heap}
abbrev N_parts_in:List Str:=["statement"]
theorem sc_parts_in:FnScope N_parts_in ["statement"] (defScope sd_parts_in):=⟨rfl,rfl,rfl,by decide +kernel,rfl,by decide +kernel,by decide +kernel⟩
theorem ok_parts_in (T:Tx w h K mg):Ok P w K mg base 1 ("parts_in",none) ["statement"] (sp_parts_in K):=by
 obtain ⟨fd,F⟩:=F_parts_in T
 refine ⟨fd,?_,F.bindsN (fun _ _ _ _ _ _ us hl=>match us,hl with | [_],_=>rfl),F.kp⟩
 obtain ⟨tm_MOST_STATEMENTS,m_MOST_STATEMENTS⟩:=i_MOST_STATEMENTS T
 refine F.ok sc_parts_in (fun vs H Q E h=>?_) (fun cdv A outer s H vs Q E hr h=>?_)
 ·obtain ⟨F0,v,d,loops,rfl,xF,hd,hs,q⟩:=h
  rfl
 ·obtain ⟨F0,v,d,loops,rfl,xF,hd,hs,q⟩:=h
  refine ⟨_,PSs.nox (pss_cons (ps_if (pt_cmpR op_eq (pe_ix ix_tup (pv 0) pe_int (fun _ _=>rfl)) pe_str (nomark _)) (pss_one (ps_ret (pe_callTy call_list_of rfl (fr_list T) b_list (pa_cons (pe_slice sl_tupA (pe_ix ix_tup (pv 0) pe_int (fun _ _=>rfl)) po_none (po_some (pe_op op_add (pe_glob (v:=.int 400) rfl m_MOST_STATEMENTS ⟨_,rfl⟩) pe_int))) pa_nil)))) pss_nil) (pss_cons (ps_if (pt_cmpR op_in_seq (pe_ix ix_tup (pv 0) pe_int (fun _ _=>rfl)) (pe_glob (v:=.ref (He.ga K "NAMED")) rfl (g_NAMED T) rfl) (by rfl)) (pss_one (ps_ret (pe_callTy call_list_of rfl (fr_list T) b_list (pa_cons (pe_slice sl_tupA (pv 0) (po_some pe_int) po_none) pa_nil)))) pss_nil) (pss_one (ps_ret (pe_ifExp (pt_cmpR op_in_seq (pe_ix ix_tup (pv 0) pe_int (fun _ _=>rfl)) (pe_tup (pa_cons pe_str (pa_cons pe_str pa_nil))) (by rfl)) (pe_callTy call_list_of rfl (fr_list T) b_list (pa_cons (pe_slice sl_tupA (pv 0) (po_some pe_int) po_none) pa_nil)) (pe_lst pa_nil)))))),?_⟩
  obtain ⟨k,r,n,rfl,e1,hn,hs⟩:=isStm_shape hs
  obtain ⟨a,xs,rfl,hS,hA⟩:=dp_tup hd
  have hS:=Evl.ex_t xF hS
  cases hA with
  | @cons v0 xr _ _ h0 hA =>
  obtain rfl:=dp_str h0
  refine ⟨_,rfl,a,_,_,_,rfl,rfl,hS,at0,rfl,_,rfl,ite_of (fun h1=>?_) (fun h1=>?_)⟩
  ·have hk:k="seq":=V.str.inj (of_decide_eq_true h1)
   subst hk
   have n2:=seq_two e1
   have nn:¬ (("seq":Str)∈kNamed):=by decide +kernel
   have nj:¬ (("seq":Str)∈kJumps):=by decide +kernel
   rw [if_neg nn,if_neg nj,if_neg (fun z=>z rfl)] at hs
   cases hA with
   | nil=>simp at hn;omega
   | @cons v1 xr d1 dr g1 hA =>
   obtain ⟨ps,rfl⟩:∃ ps,d1=.tuple ps:=by cases d1<;>first | exact ⟨_,rfl⟩ | cases hs
   obtain ⟨b,ys,rfl,gS,gA⟩:=dp_tup g1
   have gS:=Evl.ex_t xF gS
   refine ⟨_,rfl,a,_,_,_,rfl,rfl,hS,at1,_,_,rfl,rfl,_,rfl,?_⟩
   refine sl_any (lo:=none) gS fun p H1 x1 s1=>?_
   refine ⟨p,_,rfl,.inr s1,fun l hl=>q l _ _ (fresh_up x1 hl) (exu x1 hl) upd_same ?_⟩
   rw [show ((400:Int) + 1)=((401:Nat):Int) from rfl,cut_to]
   exact dpA_take 401 gA
  have hk:¬ k="seq":=fun e=>by
   have z:decide (V.str k=V.str "seq")=true:=decide_eq_true (by rw [e])
   rw [z] at h1
   cases h1
  refine ⟨_,rfl,a,_,_,_,rfl,rfl,hS,at0,He.ga K "NAMED",_,rfl,.inr (t_NAMED T _),rfl,flat_strs kNamed,_,rfl,ite_of (fun h2=>?_) (fun h2=>?_)⟩
  ·have h2:inV (.str k) (kNamed.map V.str)=true:=h2
   rw [inV_strs] at h2
   have hm:=of_decide_eq_true h2
   refine ⟨_,rfl,_,rfl,?_⟩
   dsimp only [tNoPart]
   refine sl_any (hi:=none) hS fun p H1 x1 s1=>?_
   refine ⟨p,_,rfl,.inr s1,fun l hl=>q l _ _ (fresh_up x1 hl) (exu x1 hl) upd_same ?_⟩
   rw [show (2:Int)=((2:Nat):Int) from rfl,cut_from]
   show DpAll K F0 (xr.drop 1) (partsD (.tuple (.str k::r)))
   rw [show partsD (.tuple (.str k::r))=r.drop 1 from by simp only [partsD,if_neg hk,if_pos hm]]
   exact dpA_drop 1 hA
  have h2:inV (.str k) (kNamed.map V.str)=false:=h2
  rw [inV_strs] at h2
  have hm:¬ k∈kNamed:=of_decide_eq_false h2
  refine ⟨_,rfl,a,_,_,_,rfl,rfl,hS,at0,sz (by decide),fun p0 hp0=>⟨p0,_,rfl,.inr (Evl.st_of upd_same),rfl,flat_strs ["try","final"],_,rfl,ite_of (fun h3=>?_) (fun h3=>?_)⟩⟩
  ·have h3:inV (.str k) ((["try","final"]:List Str).map V.str)=true:=h3
   rw [inV_strs] at h3
   have ht:k="try"∨k="final":=by simpa using of_decide_eq_true h3
   have x0:Ex H (upd H p0 (.tup [.str "try",.str "final"])):=exu (Evl.Ex.refl H) hp0
   refine ⟨_,rfl,_,rfl,?_⟩
   dsimp only [tNoPart]
   refine sl_any (hi:=none) (Evl.ex_t x0 hS) fun p H1 x1 s1=>?_
   have x2:=x0.trans x1
   refine ⟨p,_,rfl,.inr s1,fun l hl=>q l _ _ (fresh_up x2 hl) (exu x2 hl) upd_same ?_⟩
   rw [show (1:Int)=((1:Nat):Int) from rfl,cut_from]
   show DpAll K F0 xr (partsD (.tuple (.str k::r)))
   rw [show partsD (.tuple (.str k::r))=r from by simp only [partsD,if_neg hk,if_neg hm,if_pos ht]]
   exact hA
  ·have h3:inV (.str k) ((["try","final"]:List Str).map V.str)=false:=h3
   rw [inV_strs] at h3
   have ht:¬ (k="try"∨k="final"):=by simpa using of_decide_eq_false h3
   have x0:Ex H (upd H p0 (.tup [.str "try",.str "final"])):=exu (Evl.Ex.refl H) hp0
   refine ⟨sz (by decide),fun l hl=>q l _ _ (fresh_up x0 hl) (exu x0 hl) upd_same ?_⟩
   rw [show partsD (.tuple (.str k::r))=[] from by simp only [partsD,if_neg hk,if_neg hm,if_neg ht]]
   exact .nil
end
end
section
def fl_Code (v0 v1 v2 v3 v4:V):List (Str×V):=[("statements",v0),("kinds",v1),("labels",v2),("parents",v3),("children",v4)]
theorem fl_Code_statements (v0 v1 v2 v3 v4:V):(fl_Code v0 v1 v2 v3 v4).lookup ("statements":Str)=some v0:=by kernel_rfl
theorem fl_Code_kinds (v0 v1 v2 v3 v4:V):(fl_Code v0 v1 v2 v3 v4).lookup ("kinds":Str)=some v1:=by kernel_rfl
theorem fl_Code_labels (v0 v1 v2 v3 v4:V):(fl_Code v0 v1 v2 v3 v4).lookup ("labels":Str)=some v2:=by kernel_rfl
theorem fl_Code_parents (v0 v1 v2 v3 v4:V):(fl_Code v0 v1 v2 v3 v4).lookup ("parents":Str)=some v3:=by kernel_rfl
theorem fl_Code_children (v0 v1 v2 v3 v4:V):(fl_Code v0 v1 v2 v3 v4).lookup ("children":Str)=some v4:=by kernel_rfl
theorem fm_Code_check (v0 v1 v2 v3 v4:V):(fl_Code v0 v1 v2 v3 v4).lookup ("check":Str)=none:=by kernel_rfl
theorem fm_Code_keep (v0 v1 v2 v3 v4:V):(fl_Code v0 v1 v2 v3 v4).lookup ("keep":Str)=none:=by kernel_rfl
theorem fm_Code_check_number (v0 v1 v2 v3 v4:V):(fl_Code v0 v1 v2 v3 v4).lookup ("check_number":Str)=none:=by kernel_rfl
theorem fm_Code_kind (v0 v1 v2 v3 v4:V):(fl_Code v0 v1 v2 v3 v4).lookup ("kind":Str)=none:=by kernel_rfl
theorem fi_Code_0 (v0:V):putF "statements" v0 ([]:List (Str×V))=([(("statements":Str),v0)]:List (Str×V)):=by kernel_rfl
theorem fi_Code_1 (v0 v1:V):putF "kinds" v1 ([(("statements":Str),v0)]:List (Str×V))=([(("statements":Str),v0),(("kinds":Str),v1)]:List (Str×V)):=by kernel_rfl
theorem fi_Code_2 (v0 v1 v2:V):putF "labels" v2 ([(("statements":Str),v0),(("kinds":Str),v1)]:List (Str×V))=([(("statements":Str),v0),(("kinds":Str),v1),(("labels":Str),v2)]:List (Str×V)):=by kernel_rfl
theorem fi_Code_3 (v0 v1 v2 v3:V):putF "parents" v3 ([(("statements":Str),v0),(("kinds":Str),v1),(("labels":Str),v2)]:List (Str×V))=([(("statements":Str),v0),(("kinds":Str),v1),(("labels":Str),v2),(("parents":Str),v3)]:List (Str×V)):=by kernel_rfl
theorem fi_Code_4 (v0 v1 v2 v3 v4:V):putF "children" v4 ([(("statements":Str),v0),(("kinds":Str),v1),(("labels":Str),v2),(("parents":Str),v3)]:List (Str×V))=([(("statements":Str),v0),(("kinds":Str),v1),(("labels":Str),v2),(("parents":Str),v3),(("children":Str),v4)]:List (Str×V)):=by kernel_rfl
end
section
structure Row where
 d:PyData
 par:Option Nat
 ch:List Nat
def kindD:PyData→Str
 | .tuple (.str k::_)=>k
 | _=>""
def kLab:List Str:=kNamed++kJumps
def labD:PyData→V
 | .tuple (.str k::r)=>if k∈kLab then (match r with
   | .str x::_=>.str x
   | .int n::_=>.int n
   | _=>.non) else .non
 | _=>.non
def parV:Option Nat→V
 | none=>.non
 | some i=>.int (i:Int)
def intsV (l:List Nat):List V:=l.map fun n:Nat=>V.int (n:Int)
structure CAd where
 p:Addr
 dx:Addr
 a1:Addr
 a2:Addr
 a3:Addr
 a4:Addr
 a5:Addr
 cs:List Addr
def CAd.all (A:CAd):List Addr:=A.p::A.a1::A.a2::A.a3::A.a4::A.a5::A.cs
def cFs (A:CAd):List (Str×V):=fl_Code (.ref A.a1) (.ref A.a2) (.ref A.a3) (.ref A.a4) (.ref A.a5)
structure CL (K:PySem.W.Frag) (H:Hp) (A:CAd) (L1 L2 L3 L4:List V) (Cs:List (List V)):Prop where
 ob:H A.p=some (.ins (He.ga K "Code") A.dx (cFs A))
 h1:H A.a1=some (.lst L1)
 h2:H A.a2=some (.lst L2)
 h3:H A.a3=some (.lst L3)
 h4:H A.a4=some (.lst L4)
 h5:H A.a5=some (.lst (A.cs.map V.ref))
 cl:A.cs.length=Cs.length
 cc:∀ (i:Nat) (c:Addr) (x:List V),A.cs[i]?=some c→Cs[i]?=some x→H c=some (.lst x)
 nd:A.all.Nodup
section
variable {K:PySem.W.Frag} {F H H':Hp} {A:CAd} {L1 L2 L3 L4:List V} {Cs:List (List V)}
theorem CL.ex (x:CL K H A L1 L2 L3 L4 Cs) (e:Ex H H'):CL K H' A L1 L2 L3 L4 Cs :=
 ⟨e _ _ x.ob,e _ _ x.h1,e _ _ x.h2,e _ _ x.h3,e _ _ x.h4,e _ _ x.h5,x.cl,fun i c y h1 h2=>e _ _ (x.cc i c y h1 h2),x.nd⟩
theorem CL.ne (x:CL K H A L1 L2 L3 L4 Cs) :
  (A.p≠A.a1∧A.p≠A.a2∧A.p≠A.a3∧A.p≠A.a4∧A.p≠A.a5∧A.p ∉ A.cs)∧(A.a1≠A.a2∧A.a1≠A.a3∧A.a1≠A.a4∧A.a1≠A.a5∧A.a1 ∉ A.cs) ∧
  (A.a2≠A.a3∧A.a2≠A.a4∧A.a2≠A.a5∧A.a2 ∉ A.cs)∧(A.a3≠A.a4∧A.a3≠A.a5∧A.a3 ∉ A.cs)∧(A.a4≠A.a5∧A.a4 ∉ A.cs)∧A.a5 ∉ A.cs∧A.cs.Nodup:=by
 have z:=x.nd
 simp only [CAd.all,List.nodup_cons,List.mem_cons,not_or] at z
 exact ⟨z.1,z.2.1,z.2.2.1,z.2.2.2.1,z.2.2.2.2.1,z.2.2.2.2.2⟩
theorem CL.there (x:CL K H A L1 L2 L3 L4 Cs) {b:Addr} (hb:b∈A.all):∃ o,H b=some o:=by
 simp only [CAd.all,List.mem_cons] at hb
 rcases hb with rfl | rfl | rfl | rfl | rfl | rfl | hb
 ·exact ⟨_,x.ob⟩
 ·exact ⟨_,x.h1⟩
 ·exact ⟨_,x.h2⟩
 ·exact ⟨_,x.h3⟩
 ·exact ⟨_,x.h4⟩
 ·exact ⟨_,x.h5⟩
 ·obtain ⟨i,hi⟩:=List.mem_iff_getElem?.mp hb
  have l:i<Cs.length:=by rw [← x.cl];exact (List.getElem?_eq_some_iff.mp hi).1
  exact ⟨_,x.cc i b _ hi (List.getElem?_eq_getElem l)⟩
theorem CL.fresh (x:CL K H A L1 L2 L3 L4 Cs) {q:Addr} (h:H q=none):q ∉ A.all:=fun z=>by
 obtain ⟨o,e⟩:=x.there z
 rw [h] at e
 cases e
theorem CL.off (x:CL K H A L1 L2 L3 L4 Cs) {q:Addr} {o:HO} (h:q ∉ A.all):CL K (upd H q o) A L1 L2 L3 L4 Cs:=by
 have n:∀ {b:Addr},b∈A.all→b≠q:=fun hb e=>h (e ▸ hb)
 have mc:∀ {c:Addr},c∈A.cs→c∈A.all:=fun hc=>by simp [CAd.all,hc]
 exact ⟨by rw [upd_ne (n (by simp [CAd.all]))];exact x.ob,by rw [upd_ne (n (by simp [CAd.all]))];exact x.h1,by rw [upd_ne (n (by simp [CAd.all]))];exact x.h2,by rw [upd_ne (n (by simp [CAd.all]))];exact x.h3,
  by rw [upd_ne (n (by simp [CAd.all]))];exact x.h4,by rw [upd_ne (n (by simp [CAd.all]))];exact x.h5,x.cl,fun i c y h1 h2=>by rw [upd_ne (n (mc (List.mem_of_getElem? h1)))];exact x.cc i c y h1 h2,x.nd⟩
theorem nin {c b:Addr} {l:List Addr} (h:b ∉ l) (hc:c∈l):c≠b:=fun e=>h (e ▸ hc)
theorem CL.s1 (x:CL K H A L1 L2 L3 L4 Cs) (y:List V):CL K (upd H A.a1 (.lst y)) A y L2 L3 L4 Cs:=by
 obtain ⟨⟨n1,n2,n3,n4,n5,n6⟩,⟨m12,m13,m14,m15,m1⟩,⟨m23,m24,m25,m2⟩,⟨m34,m35,m3⟩,⟨m45,m4⟩,m5,m6⟩:=x.ne
 exact ⟨by rw [upd_ne n1];exact x.ob,upd_same,by rw [upd_ne m12.symm];exact x.h2,by rw [upd_ne m13.symm];exact x.h3,by rw [upd_ne m14.symm];exact x.h4,by rw [upd_ne m15.symm];exact x.h5,x.cl,
  fun i c z g1 g2=>by rw [upd_ne (nin m1 (List.mem_of_getElem? g1))];exact x.cc i c z g1 g2,x.nd⟩
theorem CL.s2 (x:CL K H A L1 L2 L3 L4 Cs) (y:List V):CL K (upd H A.a2 (.lst y)) A L1 y L3 L4 Cs:=by
 obtain ⟨⟨n1,n2,n3,n4,n5,n6⟩,⟨m12,m13,m14,m15,m1⟩,⟨m23,m24,m25,m2⟩,⟨m34,m35,m3⟩,⟨m45,m4⟩,m5,m6⟩:=x.ne
 exact ⟨by rw [upd_ne n2];exact x.ob,by rw [upd_ne m12];exact x.h1,upd_same,by rw [upd_ne m23.symm];exact x.h3,by rw [upd_ne m24.symm];exact x.h4,by rw [upd_ne m25.symm];exact x.h5,x.cl,
  fun i c z g1 g2=>by rw [upd_ne (nin m2 (List.mem_of_getElem? g1))];exact x.cc i c z g1 g2,x.nd⟩
theorem CL.s3 (x:CL K H A L1 L2 L3 L4 Cs) (y:List V):CL K (upd H A.a3 (.lst y)) A L1 L2 y L4 Cs:=by
 obtain ⟨⟨n1,n2,n3,n4,n5,n6⟩,⟨m12,m13,m14,m15,m1⟩,⟨m23,m24,m25,m2⟩,⟨m34,m35,m3⟩,⟨m45,m4⟩,m5,m6⟩:=x.ne
 exact ⟨by rw [upd_ne n3];exact x.ob,by rw [upd_ne m13];exact x.h1,by rw [upd_ne m23];exact x.h2,upd_same,by rw [upd_ne m34.symm];exact x.h4,by rw [upd_ne m35.symm];exact x.h5,x.cl,
  fun i c z g1 g2=>by rw [upd_ne (nin m3 (List.mem_of_getElem? g1))];exact x.cc i c z g1 g2,x.nd⟩
theorem CL.s4 (x:CL K H A L1 L2 L3 L4 Cs) (y:List V):CL K (upd H A.a4 (.lst y)) A L1 L2 L3 y Cs:=by
 obtain ⟨⟨n1,n2,n3,n4,n5,n6⟩,⟨m12,m13,m14,m15,m1⟩,⟨m23,m24,m25,m2⟩,⟨m34,m35,m3⟩,⟨m45,m4⟩,m5,m6⟩:=x.ne
 exact ⟨by rw [upd_ne n4];exact x.ob,by rw [upd_ne m14];exact x.h1,by rw [upd_ne m24];exact x.h2,by rw [upd_ne m34];exact x.h3,upd_same,by rw [upd_ne m45.symm];exact x.h5,x.cl,
  fun i c z g1 g2=>by rw [upd_ne (nin m4 (List.mem_of_getElem? g1))];exact x.cc i c z g1 g2,x.nd⟩
theorem nd_get {α:Type} {l:List α} (h:l.Nodup) {i j:Nat} {x:α} (hi:l[i]?=some x) (hj:l[j]?=some x):i=j:=by
 obtain ⟨h1,e1⟩:=List.getElem?_eq_some_iff.mp hi
 obtain ⟨h2,e2⟩:=List.getElem?_eq_some_iff.mp hj
 exact (List.getElem_inj h).mp (e1.trans e2.symm)
theorem CL.child (x:CL K H A L1 L2 L3 L4 Cs) {i:Nat} {c:Addr} (hc:A.cs[i]?=some c) (y:List V):CL K (upd H c (.lst y)) A L1 L2 L3 L4 (Cs.set i y):=by
 obtain ⟨⟨n1,n2,n3,n4,n5,n6⟩,⟨m12,m13,m14,m15,m1⟩,⟨m23,m24,m25,m2⟩,⟨m34,m35,m3⟩,⟨m45,m4⟩,m5,m6⟩:=x.ne
 have hm:c∈A.cs:=List.mem_of_getElem? hc
 refine ⟨by rw [upd_ne (nin n6 hm).symm];exact x.ob,by rw [upd_ne (nin m1 hm).symm];exact x.h1,by rw [upd_ne (nin m2 hm).symm];exact x.h2,by rw [upd_ne (nin m3 hm).symm];exact x.h3,by rw [upd_ne (nin m4 hm).symm];exact x.h4,
  by rw [upd_ne (nin m5 hm).symm];exact x.h5,by rw [List.length_set];exact x.cl,fun j c' z g1 g2=>?_,x.nd⟩
 by_cases e:i=j
 ·subst e
  rw [hc] at g1
  cases g1
  have l:i<Cs.length:=by rw [← x.cl];exact (List.getElem?_eq_some_iff.mp hc).1
  rw [List.getElem?_set_self l] at g2
  cases g2
  exact upd_same
 ·rw [List.getElem?_set_ne e] at g2
  have nc:c'≠c:=fun q=>e (nd_get m6 hc (by rw [← q];exact g1))
  rw [upd_ne nc]
  exact x.cc j c' z g1 g2
theorem CL.push (x:CL K H A L1 L2 L3 L4 Cs) {c:Addr} (hc:H c=none):CL K (upd (upd H c (.lst [])) A.a5 (.lst (A.cs.map V.ref++[.ref c]))) { A with cs:=A.cs++[c] } L1 L2 L3 L4 (Cs++[[]]):=by
 obtain ⟨⟨n1,n2,n3,n4,n5,n6⟩,⟨m12,m13,m14,m15,m1⟩,⟨m23,m24,m25,m2⟩,⟨m34,m35,m3⟩,⟨m45,m4⟩,m5,m6⟩:=x.ne
 have f:=x.fresh hc
 have y:=x.off (o:=.lst []) f
 simp only [CAd.all,List.mem_cons,not_or] at f
 obtain ⟨f0,f1,f2,f3,f4,f5,f6⟩:=f
 refine ⟨by rw [upd_ne n5];exact y.ob,by rw [upd_ne m15];exact y.h1,by rw [upd_ne m25];exact y.h2,by rw [upd_ne m35];exact y.h3,by rw [upd_ne m45];exact y.h4,?_,by simp [x.cl],fun i c' z g1 g2=>?_,?_⟩
 ·show upd _ A.a5 _ A.a5=some (HO.lst ((A.cs++[c]).map V.ref))
  rw [upd_same,List.map_append]<;>rfl
 ·have g1:(A.cs++[c])[i]?=some c':=g1
  rcases Nat.lt_or_ge i A.cs.length with l | l
  ·rw [List.getElem?_append_left l] at g1
   rw [List.getElem?_append_left (by rw [← x.cl];exact l)] at g2
   rw [upd_ne (nin m5 (List.mem_of_getElem? g1))]
   exact y.cc i c' z g1 g2
  ·rw [List.getElem?_append_right l] at g1
   rw [List.getElem?_append_right (by rw [← x.cl];exact l)] at g2
   have e1:i - A.cs.length=0:=by
    have:=(List.getElem?_eq_some_iff.mp g1).1
    simp at this
    omega
   rw [e1] at g1
   rw [← x.cl,e1] at g2
   cases g1
   cases g2
   rw [upd_ne f5]
   exact upd_same
 ·show (A.p::A.a1::A.a2::A.a3::A.a4::A.a5::(A.cs++[c])).Nodup
  simp only [List.nodup_cons,List.mem_cons,List.mem_append,List.mem_singleton,not_or,List.not_mem_nil,or_false]
  refine ⟨⟨n1,n2,n3,n4,n5,n6,fun e=>f0 e.symm⟩,⟨m12,m13,m14,m15,m1,fun e=>f1 e.symm⟩,⟨m23,m24,m25,m2,fun e=>f2 e.symm⟩,⟨m34,m35,m3,fun e=>f3 e.symm⟩,⟨m45,m4,fun e=>f4 e.symm⟩,⟨m5,fun e=>f5 e.symm⟩,?_⟩
  exact List.nodup_append.mpr ⟨m6,List.nodup_cons.mpr ⟨List.not_mem_nil,List.nodup_nil⟩,fun a ha b hb=>by rw [List.mem_singleton.mp hb];exact fun e=>f6 (e ▸ ha)⟩
end
def CodeH (K:PySem.W.Frag) (F H:Hp) (A:CAd) (rows:List Row):Prop :=
 ∃ vs,CL K H A vs (rows.map fun r=>V.str (kindD r.d)) (rows.map fun r=>labD r.d) (rows.map fun r=>parV r.par) (rows.map fun r=>intsV r.ch)∧DpAll K F vs (rows.map Row.d)
def addCh (rows:List Row) (i n:Nat):List Row:=rows.modify i fun r=>{ r with ch:=r.ch++[n] }
def addRow (rows:List Row) (d:PyData) (par:Option Nat):List Row:=(match par with
 | none=>rows
 | some i=>addCh rows i rows.length)++[⟨d,par,[]⟩]
def sp_Code_check (K:PySem.W.Frag):Sp:=fun vs H Q _=>∃ (v0 v:V) (d:PyData) (n deep loops blocks:Int),vs=[v0,v,.int n,.int deep,.int loops,.int blocks]∧Dp K H v d∧PyData.canLay0 d=true∧szD d∧n<400∧deep≤100∧blocks≤25∧isStm d loops=true ∧
 ∀ H',Ex H H'→Q .non H'
section
variable {P:Program} {w:World} {h:Heap} {K:PySem.W.Frag} {mg:Str→Option Value} {base:Heap}
abbrev N_Code_check:List Str:=["self","value","number","deep","loops","blocks"]
theorem sc_Code_check:FnScope N_Code_check ["self","value","number","deep","loops","blocks"] (defScope sd_Code_check):=⟨rfl,rfl,rfl,by decide +kernel,rfl,by decide +kernel,by decide +kernel⟩
theorem ok_Code_check (T:Tx w h K mg):Ok P w K mg base 4 ("Code",some "check") ["self","value","number","deep","loops","blocks"] (sp_Code_check K):=by
 obtain ⟨fd,F⟩:=F_Code_check T
 refine ⟨fd,?_,F.bindsN (fun _ _ _ _ _ _ us hl=>match us,hl with | [_,_,_,_,_,_],_=>rfl),F.kp⟩
 obtain ⟨fd_is_statement,G_is_statement,bi_is_statement,kp_is_statement⟩:=ok_is_statement (P:=P) (base:=base) T
 obtain ⟨tm_MOST_BLOCKS,m_MOST_BLOCKS⟩:=i_MOST_BLOCKS T
 obtain ⟨tm_MOST_DEEP,m_MOST_DEEP⟩:=i_MOST_DEEP T
 obtain ⟨tm_MOST_STATEMENTS,m_MOST_STATEMENTS⟩:=i_MOST_STATEMENTS T
 refine F.ok sc_Code_check (fun vs H Q E h=>?_) (fun cdv A outer s H vs Q E hr h=>?_)
 ·obtain ⟨v0,v,d,n,deep,loops,blocks,rfl,hd,hc,hz,l1,l2,l3,hs,q⟩:=h
  rfl
 ·obtain ⟨v0,v,d,n,deep,loops,blocks,rfl,hd,hc,hz,l1,l2,l3,hs,q⟩:=h
  refine ⟨_,PSs.nox (pss_cons (ps_if (pt_cmpR op_ge (pv 2) (pe_glob (v:=.int 400) rfl m_MOST_STATEMENTS ⟨_,rfl⟩) (nomark _)) (pss_one ps_never) pss_nil) (pss_cons (ps_if (pt_cmpR op_gt (pv 3) (pe_glob (v:=.int 100) rfl m_MOST_DEEP ⟨_,rfl⟩) (nomark _)) (pss_one ps_never) pss_nil) (pss_cons (ps_if (pt_cmpR op_gt (pv 5) (pe_glob (v:=.int 25) rfl m_MOST_BLOCKS ⟨_,rfl⟩) (nomark _)) (pss_one ps_never) pss_nil) (pss_one (ps_if (pt_not (pt_val (pe_call G_is_statement (hr.mono (by decide)) rfl (g_is_statement T) kp_is_statement bi_is_statement .nil passF (pa_cons (pv 1) (pa_cons (pv 4) pa_nil))))) (pss_one ps_never) pss_nil))))),?_⟩
  refine ⟨_,rfl,_,_,rfl,rfl,_,rfl,itF (decide_eq_false (by omega)) ?_⟩
  refine ⟨_,rfl,_,_,rfl,rfl,_,rfl,itF (decide_eq_false (by omega)) ?_⟩
  refine ⟨_,rfl,_,_,rfl,rfl,_,rfl,itF (decide_eq_false (by omega)) ?_⟩
  refine ⟨_,rfl,_,rfl,v,d,loops,rfl,hd,hc,hz,fun H' x=>⟨_,rfl,itF (by rw [hs]<;>rfl) (q H' x)⟩⟩
end
end
section
theorem map_modify_same {α β:Type} (f:α→β) (g:α→α) (h:∀ x,f (g x)=f x) (l:List α) (i:Nat):(l.modify i g).map f=l.map f:=by
 apply List.ext_getElem?
 intro j
 rw [List.getElem?_map,List.getElem?_map,List.getElem?_modify]
 cases l[j]? with
 | none=>rfl
 | some x=>by_cases e:i=j<;>simp [e,h]
def noteCh (n:Nat) (r:Row):Row:={ r with ch:=r.ch++[n] }
theorem addCh_eq (rows:List Row) (i n:Nat):addCh rows i n=rows.modify i (noteCh n):=rfl
theorem addCh_len (rows:List Row) (i n:Nat):(addCh rows i n).length=rows.length:=by simp [addCh]
theorem addCh_map {β:Type} (f:Row→β) (rows:List Row) (i n:Nat) (h:∀ r,f (noteCh n r)=f r):(addCh rows i n).map f=rows.map f:=map_modify_same f (noteCh n) h rows i
theorem addCh_ch (rows:List Row) (i n:Nat) (r:Row) (h:rows[i]?=some r):(addCh rows i n).map (fun r=>intsV r.ch)=(rows.map fun r=>intsV r.ch).set i (intsV r.ch++[.int (n:Int)]):=by
 apply List.ext_getElem?
 intro j
 rw [addCh_eq,List.getElem?_map,List.getElem?_modify,List.getElem?_set,List.getElem?_map]
 have li:i<rows.length:=(List.getElem?_eq_some_iff.mp h).1
 by_cases e:i=j
 ·subst e
  rw [h]
  simp [noteCh,intsV,li]
 ·cases rows[j]?<;>simp [e]
def stepRows (rows:List Row) (par:Option Nat):List Row:=match par with
 | none=>rows
 | some i=>addCh rows i rows.length
theorem stepRows_len (rows:List Row) (par:Option Nat):(stepRows rows par).length=rows.length:=by
 cases par with
 | none=>rfl
 | some i=>exact addCh_len _ _ _
def sp_Code_keep (K:PySem.W.Frag):Sp:=fun vs H Q _=>∃ (F:Hp) (A:CAd) (rows:List Row) (v:V) (d:PyData) (loops:Int) (par:Option Nat),vs=[.ref A.p,v,parV par]∧Ex F H∧CodeH K F H A rows∧(∀ b∈A.all,F b=none)∧Dp K F v d∧isStm d loops=true ∧
 rows.length<1000∧(∀ i,par=some i→∃ r,rows[i]?=some r∧r.ch.length<1000) ∧
 ∀ c H',H c=none→CodeH K F H' { A with cs:=A.cs++[c] } (addRow rows d par)→(∀ b o,H b=some o→b ∉ A.all→H' b=some o)→Q .non H'
theorem stm_lab {k:Str} {r:List PyData} {loops:Int} (h:isStm (.tuple (.str k::r)) loops=true) (hk:k∈kLab):(∃ x r',r=.str x::r')∨∃ n r',r=.int n::r':=by
 obtain ⟨k',r',n,e,e1,hn,hs⟩:=isStm_shape h
 cases e
 rcases List.mem_append.mp hk with hk | hk
 ·rw [if_pos hk] at hs
  cases r with
  | nil=>cases hs
  | cons d r'=>cases d with
   | str x=>exact .inl ⟨x,r',rfl⟩
   | _=>cases hs
 ·by_cases h2:k∈kNamed
  ·rw [if_pos h2] at hs
   cases r with
   | nil=>cases hs
   | cons d r'=>cases d with
    | str x=>exact .inl ⟨x,r',rfl⟩
    | _=>cases hs
  ·rw [if_neg h2,if_pos hk] at hs
   cases r with
   | nil=>cases hs
   | cons d r'=>cases d with
    | int x=>exact .inr ⟨x,r',rfl⟩
    | _=>cases hs
theorem in_all1 (A:CAd):A.a1∈A.all:=by simp [CAd.all]
theorem in_all2 (A:CAd):A.a2∈A.all:=by simp [CAd.all]
theorem in_all3 (A:CAd):A.a3∈A.all:=by simp [CAd.all]
theorem in_all4 (A:CAd):A.a4∈A.all:=by simp [CAd.all]
theorem in_all5 (A:CAd):A.a5∈A.all:=by simp [CAd.all]
theorem in_allc {A:CAd} {c:Addr} (h:c∈A.cs):c∈A.all:=by simp [CAd.all,h]
section
variable {P:Program} {w:World} {h:Heap} {K:PySem.W.Frag} {mg:Str→Option Value} {base:Heap}
abbrev N_Code_keep:List Str:=["self","statement","parent"]
theorem sc_Code_keep:FnScope N_Code_keep ["self","statement","parent"] (defScope sd_Code_keep):=⟨rfl,rfl,rfl,by decide +kernel,rfl,by decide +kernel,by decide +kernel⟩
theorem ok_Code_keep (T:Tx w h K mg):Ok P w K mg base 1 ("Code",some "keep") ["self","statement","parent"] (sp_Code_keep K):=by
 obtain ⟨fd,F⟩:=F_Code_keep T
 refine ⟨fd,?_,F.bindsN (fun _ _ _ _ _ _ us hl=>match us,hl with | [_,_,_],_=>rfl),F.kp⟩
 refine F.ok sc_Code_keep (fun vs H Q E h=>?_) (fun cdv A outer s H vs Q E hr h=>?_)
 ·obtain ⟨F0,A,rows,v,d,loops,par,rfl,xF,⟨L1,C,dL⟩,nw,hd,hs,hl,hpar,q⟩:=h
  rfl
 ·obtain ⟨F0,A,rows,v,d,loops,par,rfl,xF,⟨L1,C,dL⟩,nw,hd,hs,hl,hpar,q⟩:=h
  refine ⟨_,PSs.nox (Evl.pss_cut (ps_if (pt_cmpR op_notN (pv 2) pe_non (nomark _)) (pss_one (ps_expr (pe_bm PySem.F.plainAttrs_list PySem.F.slot_list_append PySem.F.type_list_append mt_append (pe_ix ix_list (pe_fld (pv 0) rfl) (pv 2) (fun _ _=>rfl)) (pa_cons (pe_callB call_len_seq rfl (fr_len T) b_len (pa_cons (pe_fld (pv 0) rfl) pa_nil)) pa_nil)))) pss_nil) (pss_cons (ps_expr (pe_bm PySem.F.plainAttrs_list PySem.F.slot_list_append PySem.F.type_list_append mt_append (pe_fld (pv 0) rfl) (pa_cons (pv 1) pa_nil))) (pss_cons (ps_expr (pe_bm PySem.F.plainAttrs_list PySem.F.slot_list_append PySem.F.type_list_append mt_append (pe_fld (pv 0) rfl) (pa_cons (pe_ix ix_tup (pv 1) pe_int (fun _ _=>rfl)) pa_nil))) (Evl.pss_cut (ps_expr (pe_bm PySem.F.plainAttrs_list PySem.F.slot_list_append PySem.F.type_list_append mt_append (pe_fld (pv 0) rfl) (pa_cons (pe_ifExp (pt_cmpR op_in_seq (pe_ix ix_tup (pv 1) pe_int (fun _ _=>rfl)) (pe_op op_catT (pe_glob (v:=.ref (He.ga K "NAMED")) rfl (g_NAMED T) rfl) (pe_glob (v:=.ref (He.ga K "JUMPS")) rfl (g_JUMPS T) rfl)) (by rfl)) (pe_ix ix_tup (pv 1) pe_int (fun _ _=>rfl)) pe_non) pa_nil))) (pss_cons (ps_expr (pe_bm PySem.F.plainAttrs_list PySem.F.slot_list_append PySem.F.type_list_append mt_append (pe_fld (pv 0) rfl) (pa_cons (pv 2) pa_nil))) (pss_one (ps_expr (pe_bm PySem.F.plainAttrs_list PySem.F.slot_list_append PySem.F.type_list_append mt_append (pe_fld (pv 0) rfl) (pa_cons (pe_lst pa_nil) pa_nil))))))))),?_⟩
  obtain ⟨k,r,n,rfl,_,_,_⟩:=isStm_shape hs
  obtain ⟨a,xs,rfl,hS,hA⟩:=dp_tup hd
  cases hA with
  | @cons v0 xr _ _ h0 hA =>
  obtain rfl:=dp_str h0
  refine ⟨fun σ' H'=>σ'=L2.start N_Code_keep [.ref A.p,.ref a,parV par]∧CL K H' A L1 (rows.map fun r=>V.str (kindD r.d)) (rows.map fun r=>labD r.d) (rows.map fun r=>parV r.par) ((stepRows rows par).map fun r=>intsV r.ch)∧Ex F0 H'∧(∀ b o,H b=some o→b ∉ A.all→H' b=some o)∧(∀ b,H' b=none→H b=none),?_,?_⟩
  ·refine ⟨_,rfl,rfl,_,rfl,ite_of (fun h1=>?_) (fun h1=>?_)⟩
   ·cases par with
    | none=>cases h1
    | some i =>
    obtain ⟨ri,e1,e2⟩:=hpar i rfl
    have li:i<A.cs.length:=by rw [C.cl,List.length_map];exact (List.getElem?_eq_some_iff.mp e1).1
    have hci:A.cs[i]?=some A.cs[i]:=List.getElem?_eq_getElem li
    have hcm:A.cs[i]∈A.cs:=List.getElem_mem li
    have hcc:=C.cc i _ _ hci (show (rows.map fun r=>intsV r.ch)[i]?=some (intsV ri.ch) from by rw [List.getElem?_map,e1]<;>rfl)
    refine ⟨_,rfl,A.p,_,_,_,_,rfl,C.ob,c_Code T,na_Code_children T,fl_Code_children _ _ _ _ _,_,rfl,A.a5,_,_,.ref A.cs[i],rfl,rfl,Evl.sq_of C.h5,atI_nat (by rw [List.getElem?_map,hci]<;>rfl),Or.inl ⟨rfl,_,Evl.sq_of hcc⟩,?_⟩
    refine ⟨_,rfl,A.p,_,_,_,_,rfl,C.ob,c_Code T,na_Code_kinds T,fl_Code_kinds _ _ _ _ _,A.a2,_,rfl,.inl (Evl.sq_of C.h2),A.cs[i],_,_,rfl,rfl,hcc,szl (by rw [intsV,List.length_map];omega),?_⟩
    refine ⟨rfl,?_,exm xF (nw _ (in_allc hcm)),fun b o e hb=>by rw [upd_ne (fun z=>hb (by rw [z];exact in_allc hcm))];exact e,fun b e=>?_⟩
    ·have y:=C.child hci (intsV ri.ch++[.int ((rows.map fun r=>V.str (kindD r.d)).length:Int)])
     have e3:(stepRows rows (some i)).map (fun r=>intsV r.ch)=(rows.map fun r=>intsV r.ch).set i (intsV ri.ch++[.int ((rows.map fun r=>V.str (kindD r.d)).length:Int)]):=by
      rw [List.length_map]
      exact addCh_ch rows i rows.length ri e1
     rw [e3]
     exact y
    ·by_cases z:b=A.cs[i]
     ·rw [z,upd_same] at e
      cases e
     ·rw [upd_ne z] at e
      exact e
   ·cases par with
    | some i=>cases h1
    | none=>exact ⟨rfl,C,xF,fun b o e _=>e,fun b e=>e⟩
  rintro σ' H1 ⟨rfl,C1,xF1,kp1,fr1⟩
  have es:(stepRows rows par).map (fun r=>V.str (kindD r.d))=rows.map (fun r=>V.str (kindD r.d)):=by cases par with
   | none=>rfl
   | some i=>exact addCh_map _ rows i _ fun _=>rfl
  have el:(stepRows rows par).map (fun r=>labD r.d)=rows.map (fun r=>labD r.d):=by cases par with
   | none=>rfl
   | some i=>exact addCh_map _ rows i _ fun _=>rfl
  have ep:(stepRows rows par).map (fun r=>parV r.par)=rows.map (fun r=>parV r.par):=by cases par with
   | none=>rfl
   | some i=>exact addCh_map _ rows i _ fun _=>rfl
  have ed:(stepRows rows par).map Row.d=rows.map Row.d:=by cases par with
   | none=>rfl
   | some i=>exact addCh_map _ rows i _ fun _=>rfl
  have l1:L1.length=rows.length:=by rw [dpA_len dL,List.length_map]
  refine ⟨_,rfl,A.p,_,_,_,_,rfl,C1.ob,c_Code T,na_Code_statements T,fl_Code_statements _ _ _ _ _,Or.inl ⟨rfl,_,Evl.sq_of C1.h1⟩,_,rfl,A.a1,_,_,rfl,rfl,C1.h1,szl (by omega),?_⟩
  have C2:=C1.s1 (L1++[.ref a])
  have xF2:=exm (o:=.lst (L1++[.ref a])) xF1 (nw _ (in_all1 A))
  refine ⟨_,rfl,A.p,_,_,_,_,rfl,C2.ob,c_Code T,na_Code_kinds T,fl_Code_kinds _ _ _ _ _,Or.inl ⟨rfl,_,Evl.sq_of C2.h2⟩,_,rfl,a,_,_,_,rfl,rfl,Evl.ex_t xF2 hS,at0,A.a2,_,_,rfl,rfl,C2.h2,szl (by rw [List.length_map];omega),?_⟩
  have C3:=C2.s2 (rows.map (fun r=>V.str (kindD r.d))++[.str k])
  have xF3:=exm (o:=.lst (rows.map (fun r=>V.str (kindD r.d))++[.str k])) xF2 (nw _ (in_all2 A))
  refine ⟨fun σ' H'=>σ'=L2.start N_Code_keep [.ref A.p,.ref a,parV par]∧CL K H' A (L1++[.ref a]) (rows.map (fun r=>V.str (kindD r.d))++[.str k]) (rows.map (fun r=>labD r.d)++[labD (.tuple (.str k::r))]) (rows.map fun r=>parV r.par) ((stepRows rows par).map fun r=>intsV r.ch)∧Ex F0 H'∧(∀ b o,H b=some o→b ∉ A.all→H' b=some o)∧(∀ b,H' b=none→H b=none),?_,?_⟩
  ·refine ⟨_,rfl,A.p,_,_,_,_,rfl,C3.ob,c_Code T,na_Code_labels T,fl_Code_labels _ _ _ _ _,Or.inl ⟨rfl,_,Evl.sq_of C3.h3⟩,_,rfl,a,_,_,_,rfl,rfl,Evl.ex_t xF3 hS,at0,He.ga K "NAMED",He.ga K "JUMPS",_,_,rfl,rfl,t_NAMED T _,t_JUMPS T _,(by simp),sz (by decide),(fun z=>by cases z),fun _ p0 hp0=>?_⟩
   have C4:=C3.off (o:=.tup (kLab.map V.str)) (C3.fresh hp0)
   have xF4:Ex F0 _:=exu (o:=.tup (kLab.map V.str)) xF3 hp0
   have fin:∀ (o1 o2 o4:HO) (H5:Hp),H5=upd (upd (upd (upd H1 A.a1 o1) A.a2 o2) p0 (.tup (kLab.map V.str))) A.a3 o4→(∀ b o,H b=some o→b ∉ A.all→H5 b=some o)∧(∀ b,H5 b=none→H b=none):=by
    intro o1 o2 o4 H5 e5
    subst e5
    have back:∀ {Hx:Hp} {q b:Addr} {o:HO},upd Hx q o b=none→Hx b=none:=fun {Hx q b o} e=>by
     by_cases z:b=q
     ·rw [z,upd_same] at e;cases e
     ·rw [upd_ne z] at e;exact e
    refine ⟨fun b o e hb=>?_,fun b e=>fr1 b (back (back (back (back e))))⟩
    have e1:=kp1 b o e hb
    have np:b≠p0:=fun z=>by
     have y:H1 p0=none:=by
      have y1:=back (back hp0)
      exact y1
     rw [z,y] at e1
     cases e1
    rw [upd_ne (fun z=>hb (by rw [z];exact in_all3 A)),upd_ne np,upd_ne (fun z=>hb (by rw [z];exact in_all2 A)),upd_ne (fun z=>hb (by rw [z];exact in_all1 A))]
    exact e1
   have tail:∀ u,u=labD (.tuple (.str k::r))→rAppend (.ref A.a3) [u] (upd (upd (upd H1 A.a1 (.lst (L1++[.ref a]))) A.a2 (.lst (rows.map (fun r=>V.str (kindD r.d))++[.str k]))) p0 (.tup (kLab.map V.str))) (fun _ H'=>L2.start N_Code_keep [.ref A.p,.ref a,parV par]=L2.start N_Code_keep [.ref A.p,.ref a,parV par]∧CL K H' A (L1++[.ref a]) (rows.map (fun r=>V.str (kindD r.d))++[.str k]) (rows.map (fun r=>labD r.d)++[labD (.tuple (.str k::r))]) (rows.map fun r=>parV r.par) ((stepRows rows par).map fun r=>intsV r.ch)∧Ex F0 H'∧(∀ b o,H b=some o→b ∉ A.all→H' b=some o)∧(∀ b,H' b=none→H b=none)):=by
    rintro u rfl
    obtain ⟨f1,f2⟩:=fin (.lst (L1++[.ref a])) (.lst (rows.map (fun r=>V.str (kindD r.d))++[.str k])) (.lst (rows.map (fun r=>labD r.d)++[labD (.tuple (.str k::r))])) _ rfl
    exact ⟨A.a3,_,_,rfl,rfl,C4.h3,szl (by rw [List.length_map];omega),rfl,C4.s3 _,exm xF4 (nw _ (in_all3 A)),f1,f2⟩
   refine ⟨p0,kLab.map V.str,rfl,.inr (Evl.st_of upd_same),rfl,flat_strs kLab,_,rfl,ite_of (fun h2=>?_) (fun h2=>?_)⟩
   ·have h2:inV (.str k) (kLab.map V.str)=true:=h2
    rw [inV_strs] at h2
    have hm:=of_decide_eq_true h2
    rcases stm_lab hs hm with ⟨x,r',rfl⟩ | ⟨x,r',rfl⟩
    ·cases hA with
     | @cons v1 xr' _ _ g1 hA =>
     obtain rfl:=dp_str g1
     refine ⟨_,rfl,a,_,_,_,rfl,rfl,Evl.ex_t xF4 hS,at1,tail _ ?_⟩
     simp only [labD,if_pos hm]
    ·cases hA with
     | @cons v1 xr' _ _ g1 hA =>
     obtain rfl:=dp_int g1
     refine ⟨_,rfl,a,_,_,_,rfl,rfl,Evl.ex_t xF4 hS,at1,tail _ ?_⟩
     simp only [labD,if_pos hm]
   ·have h2:inV (.str k) (kLab.map V.str)=false:=h2
    rw [inV_strs] at h2
    have hm:¬ k∈kLab:=of_decide_eq_false h2
    refine tail _ ?_
    simp only [labD,if_neg hm]
  rintro σ' H5 ⟨rfl,C5,xF5,kp5,fr5⟩
  refine ⟨_,rfl,A.p,_,_,_,_,rfl,C5.ob,c_Code T,na_Code_parents T,fl_Code_parents _ _ _ _ _,Or.inl ⟨rfl,_,Evl.sq_of C5.h4⟩,_,rfl,A.a4,_,_,rfl,rfl,C5.h4,szl (by rw [List.length_map];omega),?_⟩
  have C6:=C5.s4 (rows.map (fun r=>parV r.par)++[parV par])
  refine ⟨_,rfl,A.p,_,_,_,_,rfl,C6.ob,c_Code T,na_Code_children T,fl_Code_children _ _ _ _ _,Or.inl ⟨rfl,_,Evl.sq_of C6.h5⟩,sz (by decide),fun c hc=>?_⟩
  have nc5:A.a5≠c:=fun z=>C6.fresh hc (by rw [← z];exact in_all5 A)
  refine ⟨A.a5,_,_,rfl,rfl,by rw [upd_ne nc5];exact C6.h5,szl (by rw [List.length_map,C6.cl,List.length_map,stepRows_len];omega),?_⟩
  have C7:=C6.push hc
  have nc4:c≠A.a4:=fun z=>C6.fresh hc (by rw [z];exact in_all4 A)
  have hcH:H c=none:=fr5 c (by rw [upd_ne nc4] at hc;exact hc)
  have ea:addRow rows (.tuple (.str k::r)) par=stepRows rows par++[⟨.tuple (.str k::r),par,[]⟩]:=by cases par<;>rfl
  refine q c _ hcH ⟨L1++[.ref a],?_,?_⟩ fun b o e hb=>?_
  ·rw [ea,List.map_append,List.map_append,List.map_append,List.map_append,es,el,ep]
   exact C7
  ·rw [ea,List.map_append,ed]
   exact dpA_app dL (.cons hd .nil)
  ·have e5:=kp5 b o e hb
   have ncb:b≠c:=fun z=>by rw [z,hcH] at e;cases e
   rw [upd_ne (fun z=>hb (by rw [z];exact in_all5 A)),upd_ne ncb,upd_ne (fun z=>hb (by rw [z];exact in_all4 A))]
   exact e5
end
end
section
structure WIt where
 d:PyData
 par:Option Nat
 deep:Nat
 loops:Nat
 blocks:Nat
def okIt (it:WIt) (n:Nat):Prop:=n<400∧it.deep≤100∧it.blocks≤25∧isStm it.d (it.loops:Int)=true
def newIt (it:WIt) (n:Nat) (at_:Nat) (part:PyData):WIt :=
 ⟨part,some n,it.deep + 1,it.loops + (if kindD it.d="while" then 1 else 0),it.blocks + (if kindD it.d="final"∧at_=1 then 1 else 0)⟩
def newIts (it:WIt) (n:Nat):List WIt:=(partsD it.d).mapIdx fun i p=>newIt it n i p
inductive Builds:Nat→List WIt→List Row→List Row→Prop
 | done (rows:List Row):Builds 0 [] rows rows
 | step {n:Nat} {it:WIt} {st:List WIt} {rows fin:List Row} (ok:okIt it rows.length) (h:Builds n (newIts it rows.length++st) (addRow rows it.d it.par) fin):Builds (n + 1) (it::st) rows fin
theorem Builds.len {m:Nat} {st:List WIt} {rows fin:List Row} (b:Builds m st rows fin):st.length≤m:=by
 induction b with
 | done=>exact Nat.le_refl _
 | step ok h ih =>
  rw [List.length_append] at ih
  rw [List.length_cons]
  omega
def wV (v:V) (it:WIt):List V:=[v,parV it.par,.int (it.deep:Int),.int (it.loops:Int),.int (it.blocks:Int)]
def parD:Option Nat→PyData
 | none=>.none
 | some i=>.int (i:Int)
def wD (it:WIt):PyData:=.tuple [it.d,parD it.par,.int (it.deep:Int),.int (it.loops:Int),.int (it.blocks:Int)]
inductive WAt (K:PySem.W.Frag) (F:Hp):List Addr→List WIt→Prop
 | nil:WAt K F [] []
 | cons {t:Addr} {ts:List Addr} {it:WIt} {st:List WIt} {v:V} (h:F t=some (.tup (wV v it))) (hd:Dp K F v it.d) (r:WAt K F ts st):WAt K F (t::ts) (it::st)
theorem WAt.ex {K:PySem.W.Frag} {F F':Hp} (e:Ex F F'):∀ {ts:List Addr} {st:List WIt},WAt K F ts st→WAt K F' ts st
 | _,_,.nil=>.nil
 | _,_,.cons h hd r=>.cons (e _ _ h) (dp_ex e hd) (WAt.ex e r)
theorem WAt.len {K:PySem.W.Frag} {F:Hp}:∀ {ts:List Addr} {st:List WIt},WAt K F ts st→ts.length=st.length
 | _,_,.nil=>rfl
 | _,_,.cons _ _ r=>congrArg Nat.succ (WAt.len r)
theorem dp_par {K:PySem.W.Frag} {F:Hp} (o:Option Nat):Dp K F (parV o) (parD o):=by
 cases o with
 | none=>exact .non
 | some i=>exact .int _
theorem WAt.dp {K:PySem.W.Frag} {F:Hp}:∀ {ts:List Addr} {st:List WIt},WAt K F ts st→DpAll K F (ts.map V.ref) (st.map wD)
 | _,_,.nil=>.nil
 | _,_,.cons h hd r=>.cons (.tup (Evl.st_of h) (.cons hd (.cons (dp_par _) (.cons (.int _) (.cons (.int _) (.cons (.int _) .nil)))))) (WAt.dp r)
theorem dpA_rev {K:PySem.W.Frag} {F:Hp}:∀ {ds:List PyData} {vs:List V},DpAll K F vs ds→DpAll K F vs.reverse ds.reverse
 | _,_,.nil=>.nil
 | _,_,.cons h a=>by
  rw [List.reverse_cons,List.reverse_cons]
  exact dpA_app (dpA_rev a) (.cons h .nil)
theorem canAll {l:List PyData} (h:∀ d∈l,PyData.canLay0 d=true):PyData.canLayAll0 l=true:=by
 induction l with
 | nil=>rfl
 | cons a l ih =>
  show (PyData.canLay0 a && PyData.canLayAll0 l)=true
  rw [h a List.mem_cons_self,ih fun d hd=>h d (List.mem_cons_of_mem _ hd)]<;>rfl
theorem can_wD {it:WIt} (h:PyData.canLay0 it.d=true):PyData.canLay0 (wD it)=true:=by
 show (PyData.canLay0 it.d && (PyData.canLay0 (parD it.par) && (PyData.canLay0 (.int _) && (PyData.canLay0 (.int _) && (PyData.canLay0 (.int _) && PyData.canLayAll0 [])))))=true
 rw [h]
 cases it.par<;>rfl
theorem eqv_lnil (ds:List PyData):PyData.eqv (.list ds) (.list [])=ds.isEmpty:=by
 cases ds<;>simp [PyData.eqv,PyData.eqvAll]
theorem min_lnil (d:PyData):min d.depth (PyData.list []).depth≤200:=Nat.le_trans (Nat.min_le_right _ _) (by decide)
def sp_Code___init__ (K:PySem.W.Frag):Sp:=fun vs H Q _=>∃ (F:Hp) (p dx:Addr) (v:V) (d:PyData) (G:PyData→Prop) (N:Nat) (fin:List Row),vs=[.ref p,v]∧H p=some (.ins (He.ga K "Code") dx [])∧Ex F H∧F p=none∧Dp K F v d ∧
 (∀ e,G e→PyData.canLay0 e=true∧szD e∧∀ x∈partsD e,G x)∧G d∧Builds N [⟨d,none,1,0,0⟩] [] fin ∧
 ∀ A F' H',A.p=p→Gr (fun b=>b=p) F H F' H'→CodeH K F' F' A fin→Q .non H'
theorem nn_of {H:Hp} {a b:Addr} {o:HO} (h:H a=none) (h':H b=some o):b≠a:=ne_of_none h' h
theorem up_none {H:Hp} {a b:Addr} {o:HO} (h:upd H a o b=none):b≠a∧H b=none:=by
 by_cases z:b=a
 ·rw [z,upd_same] at h;cases h
 ·rw [upd_ne z] at h;exact ⟨z,h⟩
structure InW (K:PySem.W.Frag) (F0 H:Hp) (p wq:Addr) (Gd:PyData→Prop) (st:List WIt) (rows:List Row) (A:CAd) (ts:List Addr) (F' H':Hp):Prop where
 ap:A.p=p
 code:CodeH K F' H' A rows
 na:∀ b∈A.all,F' b=none
 wa:wq ∉ A.all
 fw:F' wq=none
 wl:H' wq=some (.lst (ts.map V.ref).reverse)
 wi:WAt K F' ts st
 ff:Ex F0 F'
 fh:Ex F' H'
 nw:∀ b,H b≠none→F0 b=none→F' b=none
 kp:∀ b o,H b=some o→b≠p→H' b=some o
 nh:∀ b∈A.all,b=p∨H b=none
 hw:H wq=none
 it:∀ i∈st,Gd i.d∧∀ j,i.par=some j→j<rows.length
 ch:∀ r∈rows,r.ch.length≤rows.length
theorem InW.fresh {K:PySem.W.Frag} {F0 H F' H':Hp} {p wq:Addr} {Gd:PyData→Prop} {st:List WIt} {rows:List Row} {A:CAd} {ts:List Addr} (x:InW K F0 H p wq Gd st rows A ts F' H') {c:Addr} (h:H' c=none):H c=none∧F' c=none∧c ∉ A.all∧c≠wq:=by
 obtain ⟨vs,C,_⟩:=x.code
 have n:c ∉ A.all:=C.fresh h
 have np:c≠p:=fun z=>n (by rw [z,← x.ap];simp [CAd.all])
 refine ⟨?_,?_,n,fun z=>by rw [z,x.wl] at h;cases h⟩
 ·cases e:H c with
  | none=>rfl
  | some o=>rw [x.kp c o e np] at h;cases h
 ·cases e:F' c with
  | none=>rfl
  | some o=>rw [x.fh c o e] at h;cases h
section
variable {K:PySem.W.Frag} {F0 H F' H' F2 H2:Hp} {p wq:Addr} {Gd:PyData→Prop} {st:List WIt} {rows:List Row} {A:CAd} {ts:List Addr}
theorem CodeH.ex {F F2 H H2:Hp} (c:CodeH K F H A rows) (e1:Ex F F2) (e2:Ex H H2):CodeH K F2 H2 A rows:=by
 obtain ⟨vs,C,dL⟩:=c
 exact ⟨vs,C.ex e2,dpA_ex e1 dL⟩
theorem InW.tr (x:InW K F0 H p wq Gd st rows A ts F' H') {b:Addr} (hb:b∈A.all):H' b≠none:=fun z=>by
 obtain ⟨vs,C,_⟩:=x.code
 exact C.fresh z hb
theorem InW.there (x:InW K F0 H p wq Gd st rows A ts F' H') {b:Addr} (hb:H b≠none):H' b≠none:=by
 by_cases z:b=p
 ·exact x.tr (by rw [z,← x.ap];simp [CAd.all])
 ·intro y
  cases e:H b with
  | none=>exact hb e
  | some o=>rw [x.kp b o e z] at y;cases y
theorem InW.ext (x:InW K F0 H p wq Gd st rows A ts F' H') (e1:Ex F' F2) (e2:Ex F2 H2) (e3:Ex H' H2) (e4:∀ b,H' b≠none→F' b=none→F2 b=none):InW K F0 H p wq Gd st rows A ts F2 H2 :=
 ⟨x.ap,x.code.ex e1 e3,fun b hb=>e4 b (x.tr hb) (x.na b hb),x.wa,e4 wq (by rw [x.wl];exact fun z=>nomatch z) x.fw,e3 _ _ x.wl,x.wi.ex e1,x.ff.trans e1,e2,fun b h1 h2=>e4 b (x.there h1) (x.nw b h1 h2),fun b o e hb=>e3 b o (x.kp b o e hb),x.nh,x.hw,x.it,x.ch⟩
theorem InW.new (x:InW K F0 H p wq Gd st rows A ts F' H') {q:Addr} {o:HO} (h:H' q=none):InW K F0 H p wq Gd st rows A ts F' (upd H' q o) :=
 x.ext (Evl.Ex.refl _) (exu x.fh h) (exu (Evl.Ex.refl _) h) fun _ _ e=>e
theorem InW.pop {it:WIt} {t:Addr} (x:InW K F0 H p wq Gd (it::st) rows A (t::ts) F' H'):InW K F0 H p wq Gd st rows A ts F' (upd H' wq (.lst (ts.map V.ref).reverse)):=by
 obtain ⟨vs,C,dL⟩:=x.code
 refine ⟨x.ap,⟨vs,C.off x.wa,dL⟩,x.na,x.wa,x.fw,upd_same,?_,x.ff,exm x.fh x.fw,x.nw,fun b o e hb=>?_,x.nh,x.hw,fun i hi=>x.it i (List.mem_cons_of_mem _ hi),x.ch⟩
 ·cases x.wi with
  | cons _ _ r=>exact r
 ·rw [upd_ne (nn_of x.hw e)]
  exact x.kp b o e hb
theorem addRow_len (rows:List Row) (d:PyData) (par:Option Nat):(addRow rows d par).length=rows.length + 1:=by
 cases par with
 | none=>simp [addRow]
 | some i=>simp [addRow,addCh]
theorem Builds.bd {m:Nat} {st:List WIt} {rows fin:List Row} (b:Builds m st rows fin):m=0∨rows.length + m≤400:=by
 induction b with
 | done=>exact .inl rfl
 | step ok h ih =>
  rw [addRow_len] at ih
  have:=ok.1
  omega
theorem addRow_ch {rows:List Row} {d:PyData} {par:Option Nat} (h:∀ r∈rows,r.ch.length≤rows.length):∀ r∈addRow rows d par,r.ch.length≤(addRow rows d par).length:=by
 rw [addRow_len]
 intro r hr
 rcases List.mem_append.mp hr with hr | hr
 ·cases par with
  | none =>
   have:=h r hr
   omega
  | some i =>
   have hr:r∈addCh rows i rows.length:=hr
   obtain ⟨j,hj⟩:=List.mem_iff_getElem?.mp hr
   rw [addCh_eq,List.getElem?_modify] at hj
   cases e:rows[j]? with
   | none=>rw [e] at hj;simp at hj
   | some r0 =>
    rw [e] at hj
    have h0:=h r0 (List.mem_of_getElem? e)
    by_cases z:i=j
    ·simp [z] at hj
     rw [← hj]
     simp [noteCh]
     omega
    ·simp [z] at hj
     rw [← hj]
     omega
 ·rw [List.mem_singleton.mp hr]
  simp
theorem InW.kept (x:InW K F0 H p wq Gd st rows A ts F' H') {c:Addr} {d:PyData} {par:Option Nat} (hc:H' c=none) (cd:CodeH K F' H2 { A with cs:=A.cs++[c] } (addRow rows d par)) (kp:∀ b o,H' b=some o→b ∉ A.all→H2 b=some o) :
  InW K F0 H p wq Gd st (addRow rows d par) { A with cs:=A.cs++[c] } ts F' H2:=by
 obtain ⟨f1,f2,f3,f4⟩:=x.fresh hc
 have mem:∀ b,b∈({ A with cs:=A.cs++[c] }:CAd).all→b∈A.all∨b=c:=fun b hb=>by
  simp only [CAd.all,List.mem_cons,List.mem_append,List.not_mem_nil,or_false] at hb ⊢
  rcases hb with h | h | h | h | h | h | h | h<;>simp [h]
 refine ⟨x.ap,cd,fun b hb=>?_,fun hb=>?_,x.fw,kp _ _ x.wl x.wa,x.wi,x.ff,fun b o e=>kp b o (x.fh b o e) (fun z=>by rw [x.na b z] at e;cases e),x.nw,fun b o e hb=>?_,fun b hb=>?_,x.hw,fun i hi=>⟨(x.it i hi).1,fun j e=>?_⟩,addRow_ch x.ch⟩
 ·rcases mem b hb with h | h
  ·exact x.na b h
  ·rw [h];exact f2
 ·rcases mem wq hb with h | h
  ·exact x.wa h
  ·exact f4 h.symm
 ·refine kp b o (x.kp b o e hb) fun z=>?_
  rcases x.nh b z with y | y
  ·exact hb y
  ·rw [y] at e;cases e
 ·rcases mem b hb with h | h
  ·exact x.nh b h
  ·rw [h];exact .inr f1
 ·rw [addRow_len]
  have:=(x.it i hi).2 j e
  omega
theorem InW.push {it:WIt} {t:Addr} {v:V} (x:InW K F0 H p wq Gd st rows A ts F' H') (ht:H' t=none) (hd:Dp K F' v it.d) (hit:Gd it.d∧∀ j,it.par=some j→j<rows.length) :
  InW K F0 H p wq Gd (it::st) rows A (t::ts) (upd F' t (.tup (wV v it))) (upd (upd H' t (.tup (wV v it))) wq (.lst (((t::ts).map V.ref).reverse))):=by
 obtain ⟨f1,f2,f3,f4⟩:=x.fresh ht
 have x1:=x.ext (F2:=upd F' t (.tup (wV v it))) (H2:=upd H' t (.tup (wV v it))) (exu (Evl.Ex.refl _) f2) (fun b o e=>by
   by_cases z:b=t
   ·rw [z,upd_same] at e ⊢;exact e
   ·rw [upd_ne z] at e ⊢;exact x.fh b o e) (exu (Evl.Ex.refl _) ht) (fun b h1 h2=>by rw [upd_ne (fun z=>h1 (by rw [z];exact ht))];exact h2)
 obtain ⟨vs,C,dL⟩:=x1.code
 refine ⟨x.ap,⟨vs,C.off x.wa,dL⟩,x1.na,x.wa,x1.fw,upd_same,.cons upd_same (dp_ex (exu (Evl.Ex.refl _) f2) hd) x1.wi,x1.ff,exm x1.fh x1.fw,x1.nw,fun b o e hb=>?_,x.nh,x.hw,fun i hi=>?_,x.ch⟩
 ·rw [upd_ne (nn_of x.hw e)]
  exact x1.kp b o e hb
 ·rcases List.mem_cons.mp hi with rfl | hi
  ·exact hit
  ·exact x.it i hi
end
theorem newIts_len (it:WIt) (n:Nat):(newIts it n).length=(partsD it.d).length:=by simp [newIts]
theorem newIts_get {it:WIt} {n j:Nat} {d:PyData} (h:(partsD it.d)[j]?=some d):(newIts it n)[j]?=some (newIt it n j d):=by
 unfold newIts
 rw [List.getElem?_mapIdx,h]<;>rfl
theorem wV_new (v:V) (it:WIt) (n j:Nat) (d:PyData):wV v (newIt it n j d)=[v,.int (n:Int),.int ((it.deep:Int) + 1),.int ((it.loops:Int) + (if decide (V.str (kindD it.d)=V.str "while")=true then 1 else 0)),
  .int ((it.blocks:Int) + (if kindD it.d="final"∧j=1 then 1 else 0))]:=by
 have e1:((it.deep + 1:Nat):Int)=(it.deep:Int) + 1:=by omega
 have e2:((it.loops + (if kindD it.d="while" then 1 else 0):Nat):Int)=(it.loops:Int) + (if decide (V.str (kindD it.d)=V.str "while")=true then 1 else 0):=by
  by_cases z:kindD it.d="while"
  ·rw [if_pos z,if_pos (decide_eq_true (by rw [z]))]<;>omega
  ·rw [if_neg z,if_neg (fun y=>z (V.str.inj (of_decide_eq_true y)))]<;>omega
 have e3:((it.blocks + (if kindD it.d="final"∧j=1 then 1 else 0):Nat):Int)=(it.blocks:Int) + (if kindD it.d="final"∧j=1 then 1 else 0):=by
  by_cases z:kindD it.d="final"∧j=1
  ·rw [if_pos z,if_pos z]<;>omega
  ·rw [if_neg z,if_neg z]<;>omega
 show [v,V.int (n:Int),V.int ((it.deep + 1:Nat):Int),V.int ((it.loops + (if kindD it.d="while" then 1 else 0):Nat):Int),V.int ((it.blocks + (if kindD it.d="final"∧j=1 then 1 else 0):Nat):Int)]=_
 rw [e1,e2,e3]
section
variable {P:Program} {w:World} {h:Heap} {K:PySem.W.Frag} {mg:Str→Option Value} {base:Heap}
abbrev N_Code___init__:List Str:=["self","statement","waiting","value","parent","deep","loops","blocks","number","at","part","inside"]
theorem sc_Code___init__:FnScope N_Code___init__ ["self","statement"] (defScope sd_Code___init__):=⟨rfl,rfl,rfl,by decide +kernel,rfl,by decide +kernel,by decide +kernel⟩
theorem okF_Code___init__ (T:Tx w h K mg):∃ fd,FnOk P w K mg base (CX P w) 6 (He.fAd K ("Code",some "__init__")) fd ["self","statement"] (sp_Code___init__ K)∧Binds K fd ["self","statement"] []∧PySem.W.keepIn K (.ref (He.fAd K ("Code",some "__init__")))=true∧FunD K "__init__" "Code.__init__" (defArgs sd_Code___init__) (defBody sd_Code___init__) (defScope sd_Code___init__) [] [] (He.fAd K ("Code",some "__init__")) fd:=by
 obtain ⟨fd,F⟩:=F_Code___init__ T
 refine ⟨fd,?_,F.bindsN (fun _ _ _ _ _ _ us hl=>match us,hl with | [_,_],_=>rfl),F.kp,F⟩
 obtain ⟨fd_parts_in,G_parts_in,bi_parts_in,kp_parts_in⟩:=ok_parts_in (P:=P) (base:=base) T
 obtain ⟨fd_Code_check,G_Code_check,bi_Code_check,kp_Code_check⟩:=ok_Code_check (P:=P) (base:=base) T
 obtain ⟨fd_Code_keep,G_Code_keep,bi_Code_keep,kp_Code_keep⟩:=ok_Code_keep (P:=P) (base:=base) T
 refine F.ok sc_Code___init__ (fun vs H Q E h=>?_) (fun cdv A outer s H vs Q E hr h=>?_)
 ·obtain ⟨F0,p,dx,v,d,Gd,N,fin,rfl,hp,xF,Fp,hd,hG,hGd,hB,q⟩:=h
  rfl
 ·obtain ⟨F0,p,dx,v,d,Gd,N,fin,rfl,hp,xF,Fp,hd,hG,hGd,hB,q⟩:=h
  refine ⟨_,PSs.nox (Evl.pss_cut (ps_asg (pe_tup (pa_cons (pe_lst pa_nil) (pa_cons (pe_lst pa_nil) (pa_cons (pe_lst pa_nil) pa_nil)))) (pg_tup rfl (pgs_cons (FcR.pg_fld (pv 0)) (pgs_cons (FcR.pg_fld (pv 0)) (pgs_cons (FcR.pg_fld (pv 0)) pgs_nil))))) (Evl.pss_cut (ps_asg (pe_tup (pa_cons (pe_lst pa_nil) (pa_cons (pe_lst pa_nil) pa_nil))) (pg_tup rfl (pgs_cons (FcR.pg_fld (pv 0)) (pgs_cons (FcR.pg_fld (pv 0)) pgs_nil)))) (pss_cons (ps_set (i:=2) sc_Code___init__.nd rfl (Or.inl rfl) (pe_lst (pa_cons (pe_tup (pa_cons (pv 1) (pa_cons pe_non (pa_cons pe_int (pa_cons pe_int (pa_cons pe_int pa_nil)))))) pa_nil))) (pss_one (ps_while PassesOwn.never (pt_cmpR (op_neM hr) (pv 2) (pe_lst pa_nil) (nomark _)) (pss_cons (ps_asg (pe_bm0 PySem.F.plainAttrs_list PySem.F.slot_list_pop PySem.F.type_list_pop mt_pop (pv 2)) (pg_tup rfl (pgs_cons (pg_name (i:=3) sc_Code___init__.nd rfl (Or.inl rfl)) (pgs_cons (pg_name (i:=4) sc_Code___init__.nd rfl (Or.inl rfl)) (pgs_cons (pg_name (i:=5) sc_Code___init__.nd rfl (Or.inl rfl)) (pgs_cons (pg_name (i:=6) sc_Code___init__.nd rfl (Or.inl rfl)) (pgs_cons (pg_name (i:=7) sc_Code___init__.nd rfl (Or.inl rfl)) pgs_nil))))))) (pss_cons (ps_set (i:=8) sc_Code___init__.nd rfl (Or.inl rfl) (pe_callB call_len_seq rfl (fr_len T) b_len (pa_cons (pe_fld (pv 0) rfl) pa_nil))) (pss_cons (ps_expr (pe_meth (pv 0) (c_Code T) (me_Code_check T) G_Code_check (hr.mono (by decide)) bi_Code_check .nil passF (pa_cons (pv 3) (pa_cons (pv 8) (pa_cons (pv 5) (pa_cons (pv 6) (pa_cons (pv 7) pa_nil))))))) (pss_cons (ps_expr (pe_meth (pv 0) (c_Code T) (me_Code_keep T) G_Code_keep (hr.mono (by decide)) bi_Code_keep .nil passF (pa_cons (pv 3) (pa_cons (pv 4) pa_nil)))) (pss_one (ps_for PassesOwn.never rfl (pi_reversed rfl (fr_reversed T) (pa_cons (FcR.pe_listEnum rfl (pe_call G_parts_in (hr.mono (by decide)) rfl (g_parts_in T) kp_parts_in bi_parts_in .nil passF (pa_cons (pv 3) pa_nil)) rfl (fr_list T) b_list rfl (fr_enumerate T) b_enumerate) pa_nil)) (pg_tup rfl (pgs_cons (pg_name (i:=9) sc_Code___init__.nd rfl (Or.inl rfl)) (pgs_cons (pg_name (i:=10) sc_Code___init__.nd rfl (Or.inl rfl)) pgs_nil))) (Evl.pss_cut (ps_set (i:=11) sc_Code___init__.nd rfl (Or.inl rfl) (pe_op op_add (pv 7) (pe_callTy call_int1 rfl (fr_int T) b_int (pa_cons (pe_and (pe_cmpR op_eq (pe_ix ix_tup (pv 3) pe_int (fun _ _=>rfl)) pe_str (nomark _)) (pe_one (pe_cmpR op_eq (pv 9) pe_int (nomark _)))) pa_nil)))) (pss_one (ps_expr (pe_bm PySem.F.plainAttrs_list PySem.F.slot_list_append PySem.F.type_list_append mt_append (pv 2) (pa_cons (pe_tup (pa_cons (pv 10) (pa_cons (pv 8) (pa_cons (pe_op op_add (pv 5) pe_int) (pa_cons (pe_op op_add (pv 6) (pe_callTy call_int1 rfl (fr_int T) b_int (pa_cons (pe_cmpR op_eq (pe_ix ix_tup (pv 3) pe_int (fun _ _=>rfl)) pe_str (nomark _)) pa_nil))) (pa_cons (pv 11) pa_nil)))))) pa_nil)))))))))))))))),?_⟩
  refine ⟨fun σ' H'=>σ'=L2.start N_Code___init__ [.ref p,v]∧∃ q1 q2 q3,H q1=none∧H q2=none∧H q3=none∧q2≠q1∧q3≠q1∧q3≠q2∧H' q1=some (.lst [])∧H' q2=some (.lst [])∧H' q3=some (.lst []) ∧
   H' p=some (.ins (He.ga K "Code") dx [("statements",.ref q1),("kinds",.ref q2),("labels",.ref q3)])∧(∀ b o,H b=some o→b≠p→H' b=some o)∧(∀ b,H' b=none→H b=none),?_,?_⟩
  ·refine ⟨sz (by simp),fun q1 f1=>⟨sz (by simp),fun q2 f2=>⟨sz (by simp),fun q3 f3=>⟨sz (by simp),fun t1 g1=>?_⟩⟩⟩⟩
   obtain ⟨n2a,f2⟩:=up_none f2
   obtain ⟨n3b,f3⟩:=up_none f3
   obtain ⟨n3a,f3⟩:=up_none f3
   obtain ⟨n1c,g1⟩:=up_none g1
   obtain ⟨n1b,g1⟩:=up_none g1
   obtain ⟨n1a,g1⟩:=up_none g1
   have p1:=nn_of f1 hp
   have p2:=nn_of f2 hp
   have p3:=nn_of f3 hp
   have p4:=nn_of g1 hp
   refine ⟨t1,_,rfl,Evl.st_of upd_same,rfl,_,_,rfl,_,rfl,p,_,dx,_,rfl,(by rw [upd_ne p4,upd_ne p3,upd_ne p2,upd_ne p1];exact hp),c_Code T,na_Code_statements T,(by simp),?_⟩
   rw [fi_Code_0]
   refine ⟨_,_,rfl,_,rfl,p,_,dx,_,rfl,upd_same,c_Code T,na_Code_kinds T,(by simp),?_⟩
   rw [fi_Code_1,upd_upd]
   refine ⟨_,_,rfl,_,rfl,p,_,dx,_,rfl,upd_same,c_Code T,na_Code_labels T,(by simp),rfl,?_⟩
   rw [fi_Code_2,upd_upd]
   refine ⟨rfl,q1,q2,q3,f1,f2,f3,n2a,n3a,n3b,?_,?_,?_,upd_same,fun b o e hb=>?_,fun b e=>?_⟩
   ·rw [upd_ne p1.symm,upd_ne n1a.symm,upd_ne n3a.symm,upd_ne n2a.symm,upd_same]
   ·rw [upd_ne p2.symm,upd_ne n1b.symm,upd_ne n3b.symm,upd_same]
   ·rw [upd_ne p3.symm,upd_ne n1c.symm,upd_same]
   ·rw [upd_ne hb,upd_ne (nn_of g1 e),upd_ne (nn_of f3 e),upd_ne (nn_of f2 e),upd_ne (nn_of f1 e)]
    exact e
   ·exact (up_none (up_none (up_none (up_none (up_none e).2).2).2).2).2
  rintro σ' H1 ⟨rfl,q1,q2,q3,f1,f2,f3,n21,n31,n32,h1,h2,h3,hp1,kp1,fr1⟩
  refine ⟨fun σ' H'=>σ'=L2.start N_Code___init__ [.ref p,v]∧∃ A:CAd,A.p=p∧A.dx=dx∧A.cs=[]∧CL K H' A [] [] [] [] []∧(∀ b∈A.all,b=p∨H b=none)∧(∀ b o,H b=some o→b≠p→H' b=some o)∧(∀ b,H' b=none→H b=none),?_,?_⟩
  ·refine ⟨sz (by simp),fun q4 f4=>⟨sz (by simp),fun q5 f5=>⟨sz (by simp),fun t2 g2=>?_⟩⟩⟩
   obtain ⟨n54,f5⟩:=up_none f5
   obtain ⟨m5,g2⟩:=up_none g2
   obtain ⟨m4,g2⟩:=up_none g2
   have p4:=nn_of f4 hp1
   have p5:=nn_of f5 hp1
   have pt:=nn_of g2 hp1
   refine ⟨t2,_,rfl,Evl.st_of upd_same,rfl,_,_,rfl,_,rfl,p,_,dx,_,rfl,(by rw [upd_ne pt,upd_ne p5,upd_ne p4];exact hp1),c_Code T,na_Code_parents T,(by simp),?_⟩
   rw [fi_Code_3]
   refine ⟨_,_,rfl,_,rfl,p,_,dx,_,rfl,upd_same,c_Code T,na_Code_children T,(by simp),rfl,?_⟩
   rw [fi_Code_4,upd_upd]
   have a1:=nn_of f4 h1
   have a2:=nn_of f4 h2
   have a3:=nn_of f4 h3
   have b1:=nn_of f5 h1
   have b2:=nn_of f5 h2
   have b3:=nn_of f5 h3
   have c1:=nn_of g2 h1
   have c2:=nn_of g2 h2
   have c3:=nn_of g2 h3
   have pn1:p≠q1:=nn_of f1 hp
   have pn2:p≠q2:=nn_of f2 hp
   have pn3:p≠q3:=nn_of f3 hp
   refine ⟨rfl,⟨p,dx,q1,q2,q3,q4,q5,[]⟩,rfl,rfl,rfl,⟨upd_same,?_,?_,?_,?_,?_,rfl,fun i c x e=>by simp at e,?_⟩,?_,fun b o e hb=>?_,fun b e=>?_⟩
   ·show upd _ p _ q1=_
    rw [upd_ne pn1.symm,upd_ne c1,upd_ne b1,upd_ne a1]
    exact h1
   ·show upd _ p _ q2=_
    rw [upd_ne pn2.symm,upd_ne c2,upd_ne b2,upd_ne a2]
    exact h2
   ·show upd _ p _ q3=_
    rw [upd_ne pn3.symm,upd_ne c3,upd_ne b3,upd_ne a3]
    exact h3
   ·show upd _ p _ q4=_
    rw [upd_ne p4.symm,upd_ne m4.symm,upd_ne n54.symm,upd_same]
   ·show upd _ p _ q5=_
    rw [upd_ne p5.symm,upd_ne m5.symm,upd_same]<;>rfl
   ·show [p,q1,q2,q3,q4,q5].Nodup
    simp only [List.nodup_cons,List.mem_cons,List.not_mem_nil,or_false,not_or,List.nodup_nil,and_true,not_false_eq_true]
    exact ⟨⟨pn1,pn2,pn3,p4,p5⟩,⟨n21.symm,n31.symm,a1,b1⟩,⟨n32.symm,a2,b2⟩,⟨a3,b3⟩,n54.symm⟩
   ·intro b hb
    have hb:b∈[p,q1,q2,q3,q4,q5]:=hb
    simp only [List.mem_cons,List.not_mem_nil,or_false] at hb
    rcases hb with rfl | rfl | rfl | rfl | rfl | rfl
    ·exact .inl rfl
    ·exact .inr f1
    ·exact .inr f2
    ·exact .inr f3
    ·exact .inr (fr1 _ f4)
    ·exact .inr (fr1 _ f5)
   ·have e1:=kp1 b o e hb
    rw [upd_ne hb,upd_ne (nn_of g2 e1),upd_ne (nn_of f5 e1),upd_ne (nn_of f4 e1)]
    exact e1
   ·exact fr1 _ (up_none (up_none (up_none (up_none e).2).2).2).2
  rintro σ' H2 ⟨rfl,A,rfl,rfl,ac,C,nA,kp2,fr2⟩
  refine ⟨_,rfl,sz (by simp),fun t3 g3=>⟨sz (by simp),fun wq gw=>?_⟩⟩
  obtain ⟨nwt,gw⟩:=up_none gw
  have gt:H2 t3=none:=g3
  have ft:F0 t3=none:=Evl.fresh_back xF (fr2 t3 gt)
  have v0:InW K F0 H A.p wq Gd [⟨d,none,1,0,0⟩] [] A [t3] (upd F0 t3 (.tup [v,.non,.int 1,.int 0,.int 0])) (upd (upd H2 t3 (.tup [v,.non,.int 1,.int 0,.int 0])) wq (.lst [.ref t3])):=by
   have C1:=(C.off (o:=.tup [v,.non,.int 1,.int 0,.int 0]) (C.fresh gt))
   have nwA:wq ∉ A.all:=C.fresh gw
   have C2:=C1.off (o:=.lst [.ref t3]) nwA
   have xx:Ex F0 (upd F0 t3 (.tup [v,.non,.int 1,.int 0,.int 0])):=exu (Evl.Ex.refl F0) ft
   have fA:∀ b∈A.all,F0 b=none:=fun b hb=>by
    rcases nA b hb with rfl | e
    ·exact Fp
    ·exact Evl.fresh_back xF e
   have ntA:t3 ∉ A.all:=C.fresh gt
   refine ⟨rfl,⟨[],C2,.nil⟩,fun b hb=>?_,nwA,?_,upd_same,.cons upd_same (dp_ex xx hd) .nil,xx,fun b o e=>?_,fun b e1 e2=>?_,fun b o e hb=>?_,nA,fr2 wq gw,fun i hi=>?_,fun r hr=>by cases hr⟩
   ·rw [upd_ne (fun z=>ntA (by rw [← z];exact hb))]
    exact fA b hb
   ·rw [upd_ne nwt]
    exact Evl.fresh_back xF (fr2 wq gw)
   ·by_cases z:b=t3
    ·rw [z,upd_same] at e
     cases e
     rw [z,upd_ne nwt.symm,upd_same]
    ·rw [upd_ne z] at e
     have e2:=xF b o e
     have nb:b≠A.p:=fun y=>by rw [y,Fp] at e;cases e
     rw [upd_ne (nn_of (fr2 wq gw) e2),upd_ne z]
     exact kp2 b o e2 nb
   ·rw [upd_ne (fun z=>e1 (by rw [z];exact fr2 t3 gt))]
    exact e2
   ·rw [upd_ne (nn_of (fr2 wq gw) e),upd_ne (nn_of (fr2 t3 gt) e)]
    exact kp2 b o e hb
   ·rw [List.mem_singleton.mp hi]
    exact ⟨hGd,fun j e=>by cases e⟩
  refine ⟨fun m σ' H'=>∃ st rows B ts F' o3 o4 o5 o6 o7 o8 o9 o10 o11,Builds m st rows fin∧σ'=[some (.ref A.p),some v,some (.ref wq),o3,o4,o5,o6,o7,o8,o9,o10,o11]∧InW K F0 H A.p wq Gd st rows B ts F' H',⟨N,_,_,_,_,_,_,_,_,_,_,_,_,_,_,hB,rfl,v0⟩,?_⟩
  rintro m σ' H3 ⟨st,rows,B,ts,F3,o3,o4,o5,o6,o7,o8,o9,o10,o11,bd,rfl,I3⟩
  have hcan:PyData.canLay0 (.list (st.map wD).reverse)=true:=canAll fun e he=>by
   obtain ⟨i,hi,rfl⟩:=List.mem_map.mp (List.mem_reverse.mp he)
   exact can_wD (hG _ (I3.it i hi).1).1
  refine ⟨_,rfl,sz (by simp),fun p4 g4=>?_⟩
  obtain ⟨r1,r2,r3,r4⟩:=I3.fresh g4
  have hdl:Dp K (upd H3 p4 (.lst [])) (.ref wq) (.list (st.map wD).reverse):=.lst (Evl.sq_of (by rw [upd_ne r4.symm];exact I3.wl)) (dpA_rev (dpA_ex (exu I3.fh g4) I3.wi.dp))
  refine ⟨_,_,hdl,.lst (Evl.sq_of upd_same) .nil,hcan,rfl,min_lnil _,_,rfl,ite_of (fun h4=>?_) (fun h4=>?_)⟩
  ·cases bd with
   | done=>simp [PyData.eqv,PyData.eqvAll] at h4
   | @step n it st' _ _ ok bd =>
   cases hts:I3.wi with
   | @cons t ts' _ _ v1 ht hv1 hr =>
   have I4:=(I3.new (o:=.lst []) g4).pop
   refine ⟨fun σ' H'=>∃ st rows B ts F' o3 o4 o5 o6 o7 o8 o9 o10 o11,Builds n st rows fin∧σ'=[some (.ref A.p),some v,some (.ref wq),o3,o4,o5,o6,o7,o8,o9,o10,o11]∧InW K F0 H A.p wq Gd st rows B ts F' H',fun σ' H' w=>⟨n,Nat.lt_succ_self _,w⟩,?_⟩
   have wl4:upd H3 p4 (.lst []) wq=some (.lst ((ts'.map V.ref).reverse++[.ref t])):=by
    rw [upd_ne r4.symm,I3.wl]<;>simp
   refine ⟨_,rfl,Or.inl ⟨rfl,_,Evl.sq_of wl4⟩,wq,_,.ref t,rfl,rfl,wl4,by simp,?_⟩
   rw [List.dropLast_concat]
   refine ⟨t,wV v1 it,rfl,Evl.st_of (I4.fh _ _ ht),rfl,_,_,rfl,_,_,rfl,_,_,rfl,_,_,rfl,_,_,rfl,rfl,?_⟩
   obtain ⟨L1,C4,dL4⟩:=id I4.code
   have ob4:∀ {H':Hp} {L1 L2 L3 L4:List V} {Cs:List (List V)},CL K H' B L1 L2 L3 L4 Cs→H' A.p=some (.ins (He.ga K "Code") B.dx (cFs B)):=fun C=>by rw [← I3.ap];exact C.ob
   refine ⟨_,rfl,A.p,_,_,_,_,rfl,ob4 C4,c_Code T,na_Code_kinds T,fl_Code_kinds _ _ _ _ _,B.a2,_,rfl,.inl (Evl.sq_of C4.h2),?_⟩
   have hgi:=hG _ (I3.it it List.mem_cons_self).1
   obtain ⟨k1,k2,k3,k4⟩:=id ok
   have ln:(rows.map fun r=>V.str (kindD r.d)).length=rows.length:=List.length_map _
   refine ⟨_,rfl,A.p,_,_,rfl,ob4 C4,fm_Code_check _ _ _ _ _,_,rfl,_,rfl,_,rfl,_,rfl,_,rfl,.ref A.p,v1,it.d,_,_,_,_,rfl,dp_ex I4.fh hv1,hgi.1,hgi.2.1,(by rw [ln];omega),(by omega),(by omega),k4,fun H5 x5=>?_⟩
   have I5:=I4.ext (Evl.Ex.refl _) (I4.fh.trans x5) x5 fun _ _ e=>e
   obtain ⟨L1',C5,dL5⟩:=id I5.code
   refine ⟨_,rfl,A.p,_,_,rfl,ob4 C5,fm_Code_keep _ _ _ _ _,_,rfl,_,rfl,F3,B,rows,v1,it.d,_,it.par,(by rw [← I3.ap]<;>rfl),I5.fh,I5.code,I5.na,hv1,k4,(by omega),fun i e=>?_,fun c H6 hc6 cd6 kp6=>?_⟩
   ·have li:=(I3.it it List.mem_cons_self).2 i e
    refine ⟨rows[i],List.getElem?_eq_getElem li,?_⟩
    have:=I3.ch rows[i] (List.getElem_mem li)
    omega
   have I6:=I5.kept hc6 cd6 kp6
   refine ⟨_,rfl,F3,v1,it.d,_,rfl,I6.fh,hv1,k4,fun pp H7 xs fp7 x7 hl7 dA7=>?_⟩
   have I7:=I6.ext (Evl.Ex.refl _) (I6.fh.trans x7) x7 fun _ _ e=>e
   refine ⟨pp,xs,rfl,Evl.sq_of hl7,fun H8 pe te k8 fpe fte npe nd8 lte hpe hte=>?_⟩
   have L8:∀ b∈pe::te,H7 b=none:=fun b hb=>by
    rcases List.mem_cons.mp hb with e | hb
    ·rw [e];exact fpe
    ·exact fte b hb
   have I8:InW K F0 H A.p wq Gd st' (addRow rows it.d it.par) { B with cs:=B.cs++[c] } ts' (frz F3 H8 (pe::te)) H8 :=
    I7.ext (frz_ex fun b hb=>(I7.fresh (L8 b hb)).2.1) (frz_le (I7.fh.trans k8)) k8 fun b h1 h2=>by rw [frz_out (fun z=>h1 (L8 b z))];exact h2
   have lx:xs.length=(partsD it.d).length:=dpA_len dA7
   have x38:Ex F3 (frz F3 H8 (pe::te)):=frz_ex fun b hb=>(I7.fresh (L8 b hb)).2.1
   obtain ⟨kk,rr,_,ek,_,_,_⟩:=isStm_shape k4
   obtain ⟨va,vxs,rfl,vS,vA⟩:=dp_tup (ek ▸ hv1)
   cases vA with
   | @cons vk vxr _ _ vk0 vA =>
   obtain rfl:=dp_str vk0
   have ekd:kindD it.d=kk:=by rw [ek]<;>rfl
   refine ⟨pe,_,rfl,Evl.sq_of hpe,for_it walk_rev (fun i σ' H'=>∃ ts'' F'' o9 o10 o11,σ'=[some (.ref A.p),some v,some (.ref wq),some (.ref va),some (parV it.par),some (.int (it.deep:Int)),some (.int (it.loops:Int)),some (.int (it.blocks:Int)),some (.int ((rows.map fun r=>V.str (kindD r.d)).length:Int)),o9,o10,o11] ∧
    InW K F0 H A.p wq Gd ((newIts it rows.length).drop (te.length - i)++st') (addRow rows it.d it.par) { B with cs:=B.cs++[c] } ts'' F'' H'∧Ex (frz F3 H8 (pe::te)) F'') ?_ ?_ ?_ ?_⟩
   ·refine ⟨ts',_,o9,o10,o11,rfl,?_,Evl.Ex.refl _⟩
    rw [Nat.sub_zero,List.drop_eq_nil_of_le (by rw [newIts_len,lte,lx];exact Nat.le_refl _)]
    exact I8
   ·rintro i σ' H' _ ⟨ts'',F'',_,_,_,_,I9,x9⟩
    exact Evl.sq_of (I9.fh _ _ (x9 _ _ (by rw [frz_in List.mem_cons_self];exact hpe)))
   ·rintro i x σ' H9x H9 hi ⟨ts'',F'',u9,u10,u11,rfl,I9,x9⟩ ⟨rfl,hx⟩
    rw [List.length_map] at hi hx
    have lj:te.length - 1 - i<te.length:=by omega
    have htj:te[te.length - 1 - i]?=some te[te.length - 1 - i]:=List.getElem?_eq_getElem lj
    rw [List.getElem?_map,htj] at hx
    cases hx
    have lxj:te.length - 1 - i<xs.length:=by rw [← lte];exact lj
    have hxj:xs[te.length - 1 - i]?=some xs[te.length - 1 - i]:=List.getElem?_eq_getElem lxj
    have lpj:te.length - 1 - i<(partsD it.d).length:=by rw [← lx];exact lxj
    have hpj:(partsD it.d)[te.length - 1 - i]?=some (partsD it.d)[te.length - 1 - i]:=List.getElem?_eq_getElem lpj
    obtain ⟨u,hu,hdu⟩:=dpA_get dA7 hpj
    rw [hxj] at hu
    cases hu
    have htu:=hte _ _ _ htj hxj
    have htF:H9 te[te.length - 1 - i]=some (.tup [.int ((te.length - 1 - i:Nat):Int),xs[te.length - 1 - i]]):=I9.fh _ _ (x9 _ _ (by rw [frz_in (List.mem_cons_of_mem _ (List.getElem_mem lj))];exact htu))
    have vS9:SqT K H9 va (V.str kk::vxr):=Evl.ex_t ((x38.trans x9).trans I9.fh) vS
    refine ⟨_,_,rfl,Evl.st_of htF,rfl,_,_,rfl,_,_,rfl,rfl,?_⟩
    refine ⟨fun σ' H'=>H'=H9∧σ'=[some (.ref A.p),some v,some (.ref wq),some (.ref va),some (parV it.par),some (.int (it.deep:Int)),some (.int (it.loops:Int)),some (.int (it.blocks:Int)),some (.int ((rows.map fun r=>V.str (kindD r.d)).length:Int)),some (.int ((te.length - 1 - i:Nat):Int)),some xs[te.length - 1 - i],some (.int ((it.blocks:Int) + (if kindD it.d="final"∧te.length - 1 - i=1 then 1 else 0)))],?_,?_⟩
    ·refine ⟨_,rfl,_,rfl,va,_,_,_,rfl,rfl,vS9,at0,rfl,_,rfl,ite_of (fun h5=>?_) (fun h5=>?_)⟩
     ·have e5:kk="final":=V.str.inj (of_decide_eq_true h5)
      refine ⟨_,rfl,rfl,.inr ⟨_,rfl,_,_,rfl,rfl,rfl,?_⟩⟩
      by_cases z:te.length - 1 - i=1
      ·rw [if_pos (show kindD it.d="final"∧te.length - 1 - i=1 from ⟨by rw [ekd,e5],z⟩),if_pos (decide_eq_true (by rw [z]<;>rfl))]<;>rfl
      ·rw [if_neg (show ¬ (kindD it.d="final"∧te.length - 1 - i=1) from fun y=>z y.2),if_neg (fun y=>z (by have:=V.int.inj (of_decide_eq_true y);omega))]<;>rfl
     ·have e5:¬ kk="final":=fun e=>by
       have y:decide (V.str kk=V.str "final")=true:=decide_eq_true (by rw [e])
       rw [y] at h5
       cases h5
      refine .inr ⟨_,rfl,_,_,rfl,rfl,rfl,?_⟩
      rw [if_neg (show ¬ (kindD it.d="final"∧te.length - 1 - i=1) from fun y=>e5 (by rw [← ekd];exact y.1))]<;>rfl
    rintro σ' H' ⟨rfl,rfl⟩
    refine ⟨_,rfl,Or.inl ⟨rfl,_,Evl.sq_of I9.wl⟩,_,rfl,_,rfl,_,rfl,_,_,rfl,rfl,_,rfl,_,rfl,va,_,_,_,rfl,rfl,vS9,at0,rfl,.inr ⟨_,rfl,_,_,rfl,rfl,_,rfl,sz (by simp),fun tn htn=>?_⟩⟩
    obtain ⟨z1,z2,z3,z4⟩:=I9.fresh htn
    refine ⟨wq,_,_,rfl,rfl,(by rw [upd_ne z4.symm];exact I9.wl),szl ?_,?_⟩
    ·have b1:=bd.len
     have b2:=bd.bd
     rw [List.length_append] at b1
     rw [List.length_reverse,List.length_map,I9.wi.len,List.length_append,List.length_drop]
     omega
    have I10:=I9.push (it:=newIt it rows.length (te.length - 1 - i) (partsD it.d)[te.length - 1 - i]) (v:=xs[te.length - 1 - i]) htn (dp_ex (x38.trans x9) hdu) ⟨hgi.2.2 _ (List.getElem_mem lpj),fun j e=>by cases e;rw [addRow_len];omega⟩
    have e6:(newIts it rows.length).drop (te.length - (i + 1))=newIt it rows.length (te.length - 1 - i) (partsD it.d)[te.length - 1 - i]::(newIts it rows.length).drop (te.length - i):=by
     have e7:te.length - (i + 1)=te.length - 1 - i:=by omega
     have l7:te.length - 1 - i<(newIts it rows.length).length:=by rw [newIts_len];exact lpj
     have g7:(newIts it rows.length)[te.length - 1 - i]=newIt it rows.length (te.length - 1 - i) (partsD it.d)[te.length - 1 - i]:=by
      have y:=newIts_get (n:=rows.length) hpj
      rw [List.getElem?_eq_getElem l7] at y
      exact Option.some.inj y
     rw [e7,List.drop_eq_getElem_cons l7,g7]
     congr 2
     omega
    refine ⟨tn::ts'',upd F'' tn (.tup (wV xs[te.length - 1 - i] (newIt it rows.length (te.length - 1 - i) (partsD it.d)[te.length - 1 - i]))),_,_,_,rfl,?_,x9.trans (exu (Evl.Ex.refl _) z2)⟩
    rw [e6,List.cons_append]
    have eH:upd (upd H' tn (.tup (wV xs[te.length - 1 - i] (newIt it rows.length (te.length - 1 - i) (partsD it.d)[te.length - 1 - i])))) wq (.lst (((tn::ts'').map V.ref).reverse)) =
      upd (upd H' tn (.tup [xs[te.length - 1 - i],.int ((rows.map fun r=>V.str (kindD r.d)).length:Int),.int ((it.deep:Int) + 1),.int ((it.loops:Int) + (if decide (V.str kk=V.str "while")=true then 1 else 0)),.int ((it.blocks:Int) + (if kindD it.d="final"∧te.length - 1 - i=1 then 1 else 0))])) wq (.lst ((ts''.map V.ref).reverse++[.ref tn])):=by
     rw [wV_new,ln,ekd,List.map_cons,List.reverse_cons]
    rw [eH] at I10
    exact I10
   ·rintro σ' H9 ⟨ts'',F'',u9,u10,u11,rfl,I9,x9⟩
    rw [List.length_map,Nat.sub_self,List.drop_zero] at I9
    exact ⟨_,_,_,_,_,_,_,_,_,_,_,_,_,_,bd,rfl,I9⟩
  ·rw [eqv_lnil] at h4
   cases bd with
   | step ok bd=>simp at h4
   | done =>
   have I5:=I3.new (o:=.lst []) g4
   obtain ⟨vs,C5,dL5⟩:=id I5.code
   have xf:Ex F3 (frz F3 (upd H3 p4 (.lst [])) B.all):=frz_ex I5.na
   refine q B (frz F3 (upd H3 p4 (.lst [])) B.all) _ I5.ap ⟨I5.ff.trans xf,frz_le I5.fh,fun b h1 h2 h3=>?_,fun b o e hb=>I5.kp b o e hb⟩ ⟨vs,?_,dpA_ex xf dL5⟩
   ·rw [frz_out (fun z=>by
     rcases I5.nh b z with y | y
     ·exact h3 y
     ·exact h1 y)]
    exact I5.nw b h1 h2
   ·have at_:∀ {b:Addr} {o:HO},b∈B.all→upd H3 p4 (.lst []) b=some o→frz F3 (upd H3 p4 (.lst [])) B.all b=some o:=fun hb e=>by rw [frz_in hb];exact e
    exact ⟨at_ (by simp [CAd.all]) C5.ob,at_ (in_all1 B) C5.h1,at_ (in_all2 B) C5.h2,at_ (in_all3 B) C5.h3,at_ (in_all4 B) C5.h4,at_ (in_all5 B) C5.h5,C5.cl,fun i c x h1 h2=>at_ (in_allc (List.mem_of_getElem? h1)) (C5.cc i c x h1 h2),C5.nd⟩
theorem ok_Code___init__ (T:Tx w h K mg):Ok P w K mg base 6 ("Code",some "__init__") ["self","statement"] (sp_Code___init__ K):=by
 obtain ⟨fd,a,b,c,_⟩:=okF_Code___init__ (P:=P) (base:=base) T
 exact ⟨fd,a,b,c⟩
end
theorem make_of {H H2:Hp} {q dx C:Addr} {fs:List (Str×V)} (e:upd (upd H dx (.own q)) q (.ins C dx fs)=H2) (nq:H q=none) (nd:H dx=none):Ex H H2∧H2 q=some (.ins C dx fs):=by
 subst e
 refine ⟨fun b o hb=>?_,upd_same⟩
 rw [upd_ne (ne_of_none hb nq),upd_ne (ne_of_none hb nd)]
 exact hb
end
end Fc
set_option maxRecDepth 100000
set_option maxHeartbeats 4000000
namespace FcM
inductive Way where
 | nrm
 | ret
 | rai
 | brk (k:Nat)
 | cnt (k:Nat)
 deriving DecidableEq
inductive Node where
 | do_
 | call
 | ret
 | rai
 | brk (k:Nat)
 | cnt (k:Nat)
 | iff (a b:Nat)
 | whl (a:Nat)
 | seq (l:List Nat)
 | tr (a b:Nat)
 | fin (a b:Nat)
def Node.ch:Node→List Nat
 | .iff a b=>[a,b]
 | .whl a=>[a]
 | .seq l=>l
 | .tr a b=>[a,b]
 | .fin a b=>[a,b]
 | _=>[]
structure Tab where
 len:Nat
 nd:Nat→Node
 pr:Nat→Option Nat
structure Tab.WF (t:Tab) (lp:Nat→Nat):Prop where
 ne:0<t.len
 root:t.pr 0=none
 lp0:lp 0=0
 dn:∀ n,n<t.len→∀ c∈(t.nd n).ch,n<c∧c<t.len∧t.pr c=some n∧lp c=lp n + (match t.nd n with | .whl _=>1 | _=>0)
 nd:∀ n,n<t.len→(t.nd n).ch.Nodup
 pu:∀ n p,n<t.len→t.pr n=some p→p<t.len
 sq:∀ n l,n<t.len→t.nd n=.seq l→l≠[]
 bk:∀ n k,n<t.len→t.nd n=.brk k→1≤k∧k≤lp n
 ct:∀ n k,n<t.len→t.nd n=.cnt k→1≤k∧k≤lp n
inductive Ent (t:Tab):Nat→Nat→Nat→Prop
 | here {n:Nat} (h:∀ l,t.nd n≠.seq l) (h2:∀ a b,t.nd n≠.tr a b) (h3:∀ a b,t.nd n≠.fin a b):Ent t 0 n n
 | seq {k n c e:Nat} {l:List Nat} (h:t.nd n=.seq (c::l)) (r:Ent t k c e):Ent t (k + 1) n e
 | tr {k n a b e:Nat} (h:t.nd n=.tr a b) (r:Ent t k a e):Ent t (k + 1) n e
 | fin {k n a b e:Nat} (h:t.nd n=.fin a b) (r:Ent t k a e):Ent t (k + 1) n e
inductive Hg (t:Tab):Nat→Nat→Prop
 | mk {h n:Nat} (r:∀ c∈(t.nd n).ch,Hg t h c):Hg t (h + 1) n
def decW:Way→Way
 | .brk k=>if k=1 then .nrm else .brk (k - 1)
 | .cnt k=>.cnt (k - 1)
 | w=>w
def again (w:Way):Bool:=decide (w=.nrm) || decide (w=.cnt 1)
abbrev Pd:=List (Nat×Way)
inductive Lv (t:Tab):Nat→Way→Pd→Nat ⊕ Way→Pd→Prop
 | top {n:Nat} {w:Way} {P:Pd} (h:t.pr n=none):Lv t n w P (.inr w) P
 | seqN {n p m k e:Nat} {l l1 l2:List Nat} {P:Pd} (h:t.pr n=some p) (hd:t.nd p=.seq l) (hl:l=l1++n::m::l2) (he:Ent t k m e):Lv t n .nrm P (.inl e) P
 | seqU {n p:Nat} {w:Way} {l:List Nat} {P P':Pd} {r:Nat ⊕ Way} (h:t.pr n=some p) (hd:t.nd p=.seq l) (hw:w≠.nrm∨l.getLast?=some n) (up:Lv t p w P r P'):Lv t n w P r P'
 | whlA {n p:Nat} {w:Way} {P:Pd} (h:t.pr n=some p) (hd:t.nd p=.whl n) (hw:again w=true):Lv t n w P (.inl p) P
 | whlU {n p:Nat} {w:Way} {P P':Pd} {r:Nat ⊕ Way} (h:t.pr n=some p) (hd:t.nd p=.whl n) (hw:again w=false) (up:Lv t p (decW w) P r P'):Lv t n w P r P'
 | tryH {n p b k e:Nat} {P:Pd} (h:t.pr n=some p) (hd:t.nd p=.tr n b) (he:Ent t k b e):Lv t n .rai P (.inl e) P
 | tryU {n p a b:Nat} {w:Way} {P P':Pd} {r:Nat ⊕ Way} (h:t.pr n=some p) (hd:t.nd p=.tr a b) (hw:w≠.rai∨n≠a) (up:Lv t p w P r P'):Lv t n w P r P'
 | iffU {n p a b:Nat} {w:Way} {P P':Pd} {r:Nat ⊕ Way} (h:t.pr n=some p) (hd:t.nd p=.iff a b) (up:Lv t p w P r P'):Lv t n w P r P'
 | finB {n p b k e:Nat} {w:Way} {P:Pd} (h:t.pr n=some p) (hd:t.nd p=.fin n b) (he:Ent t k b e):Lv t n w P (.inl e) (P++[(p,w)])
 | finE {n p a:Nat} {P:Pd} (h:t.pr n=some p) (hd:t.nd p=.fin a n) (hn:n≠a):Lv t n .nrm P (.inl p) P
 | finO {n p a:Nat} {w:Way} {P P':Pd} {x:Nat×Way} {r:Nat ⊕ Way} (h:t.pr n=some p) (hd:t.nd p=.fin a n) (hn:n≠a) (hw:w≠.nrm) (up:Lv t p w P r P'):Lv t n w (P++[x]) r P'
structure Cfg where
 at_:Nat ⊕ Way
 pd:Pd
 us:Nat
 vs:List Nat
def asks:Node→Bool
 | .call=>true
 | .iff _ _=>true
 | .whl _=>true
 | _=>false
def wayN:Node→Way
 | .ret=>.ret
 | .rai=>.rai
 | .brk k=>.brk k
 | .cnt k=>.cnt k
 | _=>.nrm
def quiet:Node→Prop
 | .do_=>True
 | .ret=>True
 | .rai=>True
 | .brk _=>True
 | .cnt _=>True
 | _=>False
inductive Dp1 (t:Tab) (s:Nat) (x:Bool):Pd→Nat ⊕ Way→Pd→Prop
 | iff {a b k e:Nat} {P:Pd} (h:t.nd s=.iff a b) (he:Ent t k (if x then b else a) e):Dp1 t s x P (.inl e) P
 | whlT {a k e:Nat} {P:Pd} (h:t.nd s=.whl a) (hx:x=true) (he:Ent t k a e):Dp1 t s x P (.inl e) P
 | whlF {a:Nat} {P P':Pd} {r:Nat ⊕ Way} (h:t.nd s=.whl a) (hx:x=false) (l:Lv t s .nrm P r P'):Dp1 t s x P r P'
 | call {P P':Pd} {r:Nat ⊕ Way} (h:t.nd s=.call) (l:Lv t s (if x then .rai else .nrm) P r P'):Dp1 t s x P r P'
 | fin {a b q:Nat} {w:Way} {P P':Pd} {r:Nat ⊕ Way} (h:t.nd s=.fin a b) (l:Lv t s w P r P'):Dp1 t s x (P++[(q,w)]) r P'
 | quiet {P P':Pd} {r:Nat ⊕ Way} (h:quiet (t.nd s)) (l:Lv t s (wayN (t.nd s)) P r P'):Dp1 t s x P r P'
inductive Step (t:Tab) (bits:List Bool):Cfg→Cfg→Prop
 | ask {s:Nat} {x:Bool} {P P':Pd} {u:Nat} {v:List Nat} {r:Nat ⊕ Way} (h:asks (t.nd s)=true) (hu:bits[u]?=some x) (d:Dp1 t s x P r P'):Step t bits ⟨.inl s,P,u,v⟩ ⟨r,P',u + 1,v++[s]⟩
 | on {s:Nat} {P P':Pd} {u:Nat} {v:List Nat} {r:Nat ⊕ Way} (h:asks (t.nd s)=false) (d:Dp1 t s false P r P'):Step t bits ⟨.inl s,P,u,v⟩ ⟨r,P',u,v++[s]⟩
inductive Stop (t:Tab) (bits:List Bool):Cfg→Prop
 | fin {w:Way} {P:Pd} {u:Nat} {v:List Nat}:Stop t bits ⟨.inr w,P,u,v⟩
 | wait {s:Nat} {P:Pd} {u:Nat} {v:List Nat} (h:asks (t.nd s)=true) (hu:bits[u]?=none):Stop t bits ⟨.inl s,P,u,v⟩
inductive Re (t:Tab) (bits:List Bool) (B:Nat):Nat→Cfg→Cfg→Prop
 | stop {c:Cfg} (h:Stop t bits c) (hb:c.pd.length≤B):Re t bits B 0 c c
 | step {n:Nat} {c d e:Cfg} (h:Step t bits c d) (hb:c.pd.length≤B) (r:Re t bits B n d e):Re t bits B (n + 1) c e
abbrev Wt:=(Nat×Pd) ⊕ Way
abbrev Rs:=Wt×Nat×List Nat
def loopF (bits:List Bool) (n:Nat) (P:Pd) (body:Nat→List Nat→Rs):Nat→Nat→List Nat→Rs
 | 0,u,v=>(.inl (n,P),u,v)
 | f + 1,u,v=>match bits[u]? with
  | none=>(.inl (n,P),u,v)
  | some false=>(.inr .nrm,u + 1,v++[n])
  | some true=>match body (u + 1) (v++[n]) with
   | (.inl x,u',v')=>(.inl x,u',v')
   | (.inr w,u',v')=>if again w=true then loopF bits n P body f u' v' else (.inr (decW w),u',v')
def seqF (go:Nat→Nat→List Nat→Rs):List Nat→Rs→Rs
 | [],r=>r
 | c::cs,(w,u,v)=>if w=.inr .nrm then seqF go cs (go c u v) else seqF go cs (w,u,v)
def finF (n:Nat) (w:Way):Rs→Rs
 | (.inl x,u,v)=>(.inl x,u,v)
 | (.inr w2,u,v)=>if w2=.nrm then (.inr w,u,v++[n]) else (.inr w2,u,v)
def goF (t:Tab) (bits:List Bool):Nat→Nat→Pd→Nat→List Nat→Rs
 | 0,n,P,u,v=>(.inl (n,P),u,v)
 | h + 1,n,P,u,v=>match t.nd n with
  | .whl a=>loopF bits n P (goF t bits h a P) (bits.length + 1) u v
  | .fin a b=>match goF t bits h a P u v with
   | (.inl x,u1,v1)=>(.inl x,u1,v1)
   | (.inr w,u1,v1)=>finF n w (goF t bits h b (P++[(n,w)]) u1 v1)
  | .call=>match bits[u]? with
   | none=>(.inl (n,P),u,v)
   | some x=>(.inr (if x then .rai else .nrm),u + 1,v++[n])
  | .iff a b=>match bits[u]? with
   | none=>(.inl (n,P),u,v)
   | some x=>goF t bits h (if x then b else a) P (u + 1) (v++[n])
  | .seq l=>seqF (fun c=>goF t bits h c P) l (.inr .nrm,u,v)
  | .tr a b=>match goF t bits h a P u v with
   | (.inr .rai,u1,v1)=>goF t bits h b P u1 v1
   | r=>r
  | d=>(.inr (wayN d),u,v++[n])
def WOk (l:Nat):Way→Prop
 | .brk k=>1≤k∧k≤l
 | .cnt k=>1≤k∧k≤l
 | _=>True
section
variable {t:Tab} {lp:Nat→Nat} {bits:List Bool}
def After (t:Tab) (bits:List Bool) (B n:Nat) (w:Way) (P:Pd) (u:Nat) (v:List Nat) (cf:Cfg):Prop:=∃ r P' N,Lv t n w P r P'∧Re t bits B N ⟨r,P',u,v⟩ cf
def From (t:Tab) (bits:List Bool) (B n:Nat) (P:Pd) (u:Nat) (v:List Nat) (cf:Cfg):Prop:=∃ k e N,Ent t k n e∧Re t bits B N ⟨.inl e,P,u,v⟩ cf
def Good (t:Tab) (bits:List Bool) (B:Nat) (lp:Nat→Nat) (n:Nat) (P:Pd) (u:Nat) (v:List Nat):Rs→Prop
 | (.inr w,u',v')=>u≤u'∧u'≤bits.length∧WOk (lp n) w∧∀ cf,After t bits B n w P u' v' cf→From t bits B n P u v cf
 | (.inl x,u',v')=>u≤u'∧u'≤bits.length∧∃ cf,From t bits B n P u v cf∧cf.vs=v'∧cf.us=u'∧cf.at_=.inl x.1∧cf.pd=x.2
end
end FcM
set_option maxRecDepth 100000
set_option maxHeartbeats 4000000
namespace FcW
open PySem PySem.Spec PyProof.Rows L2
abbrev Ent:=List Key×Addr×V
def RelE (p:Ent) (q:List Key×Addr×Value):Prop:=p.1=q.1∧p.2.1=q.2.1∧RelV p.2.2 q.2.2
def dW (P:Program) (w:World) (d:Addr) (o:Obj) (xs:List Ent):HO:=.ext fun h=>h.get? d=some o∧(d == sysModules)=false∧xs.length≤sizeLine∧o.ExactDict ∧
 ∃ ys:List (List Key×Addr×Value),Paired RelE xs ys∧(∃ es ep,o.data=.dict es ep∧es.toList=ys.map (entryOfKey (tupleKind (mixKind P w))))∧(ys.map (·.1)).Nodup
def kvs (xs:List Ent):List (List Key×V):=xs.map fun x=>(x.1,x.2.2)
def putW (xs:List Ent) (k:List Key) (b:Addr) (v:V):List Ent :=
 if (valV (kvs xs) k).isSome=true then xs.map (fun x=>if x.1=k then (x.1,x.2.1,v) else x) else xs++[(k,b,v)]
def KeysT (K:PySem.W.Frag) (H:Hp) (xs:List Ent):Prop:=∀ x∈xs,SqT K H x.2.1 (x.1.map kV)
def WD (P:Program) (w:World) (K:PySem.W.Frag) (H:Hp) (d:Addr) (o:Obj) (xs:List Ent):Prop:=H d=some (dW P w d o xs)∧KeysT K H xs
theorem len_putW (xs:List Ent) (k:List Key) (b:Addr) (v:V):(putW xs k b v).length≤xs.length + 1:=by
 unfold putW
 split
 ·rw [List.length_map];omega
 ·rw [List.length_append];simp
theorem keysT_put {K:PySem.W.Frag} {H H':Hp} {xs:List Ent} {k:List Key} {b:Addr} {v:V} (h:KeysT K H xs) (hb:SqT K H b (k.map kV)) (e:∀ c ys,SqT K H c ys→SqT K H' c ys):KeysT K H' (putW xs k b v):=by
 intro x hx
 unfold putW at hx
 split at hx
 ·obtain ⟨y,hy,rfl⟩:=List.mem_map.mp hx
  by_cases z:y.1=k
  ·simp only [z,if_true];rw [← z];exact e _ _ (h y hy)
  ·simp only [z,if_false];exact e _ _ (h y hy)
 ·rcases List.mem_append.mp hx with hx | hx
  ·exact e _ _ (h x hx)
  ·obtain rfl:=List.mem_singleton.mp hx
   exact e _ _ hb
section
variable {P:Program} {w:World} {H:Hp} {h:Heap} {d:Addr} {o:Obj} {xs:List Ent}
theorem dw_ok {ys:List (List Key×Addr×Value)} {es:Array DictEntry} {ep:Nat} (h1:h.get? d=some o) (h2:(d == sysModules)=false) (h3:xs.length≤sizeLine) (h4:o.ExactDict) (h5:Paired RelE xs ys) (h6:o.data=.dict es ep)
  (h7:es.toList=ys.map (entryOfKey (tupleKind (mixKind P w)))) (h8:(ys.map (·.1)).Nodup):ObjOk P w H h d (dW P w d o xs) :=
 ⟨⟨h1,h2,h3,h4,ys,h5,⟨es,ep,h6,h7⟩,h8⟩,⟨o,h1⟩,fun _ _ z k=>⟨k _ z.1,z.2⟩⟩
theorem dw_of (ok:HOk P w H h) (e:H d=some (dW P w d o xs)):h.get? d=some o∧(d == sysModules)=false∧xs.length≤sizeLine∧o.ExactDict ∧
  ∃ ys:List (List Key×Addr×Value),Paired RelE xs ys∧(∃ es ep,o.data=.dict es ep∧es.toList=ys.map (entryOfKey (tupleKind (mixKind P w))))∧(ys.map (·.1)).Nodup :=
 (show ObjOk P w H h d (dW P w d o xs) from ok d _ e).1
theorem relE_val {ys:List (List Key×Addr×Value)} (r:Paired RelE xs ys) (k:List Key):RelO (valV (kvs xs) k) ((atKey ys k).map (·.2)):=by
 induction r with
 | nil=>exact True.intro
 | @cons p q ps qs z t ih =>
  obtain ⟨z1,z2,z3⟩:=z
  by_cases e:p.1=k
  ·have e':q.1=k:=z1.symm.trans e
   have b:atKey (q::qs) k=some q.2:=by simp [atKey,List.find?_cons,e']
   rw [show kvs (p::ps)=(p.1,p.2.2)::kvs ps from rfl,valV_pos (p:=(p.1,p.2.2)) e,b];exact z3
  ·have e':¬ q.1=k:=fun y=>e (z1.trans y)
   have b:atKey (q::qs) k=atKey qs k:=by simp [atKey,List.find?_cons,e']
   rw [show kvs (p::ps)=(p.1,p.2.2)::kvs ps from rfl,valV_neg (p:=(p.1,p.2.2)) e,b];exact ih
theorem relE_put {ys:List (List Key×Addr×Value)} (r:Paired RelE xs ys) (k:List Key) (b:Addr) {v:V} {u:Value} (rv:RelV v u):Paired RelE (putW xs k b v) (storedH ys k b u):=by
 have e:(valV (kvs xs) k).isSome=(atKey ys k).isSome:=by rw [(relE_val r k).isSome_eq,Option.isSome_map]
 unfold putW storedH
 rw [e]
 by_cases q:(atKey ys k).isSome=true
 ·rw [if_pos q,if_pos q]
  clear e q
  induction r with
  | nil=>exact .nil
  | @cons p q ps qs z t ih =>
   rw [List.map_cons,List.map_cons]
   refine .cons ?_ ih
   obtain ⟨z1,z2,z3⟩:=z
   unfold putAt
   by_cases e:p.1=k
   ·rw [if_pos e,if_pos (z1.symm.trans e)];exact ⟨z1,z2,rv⟩
   ·rw [if_neg e,if_neg (fun y=>e (z1.trans y))];exact ⟨z1,z2,z3⟩
 ·rw [if_neg q,if_neg q];exact Paired.snoc r ⟨rfl,rfl,rv⟩
end
section
variable {X:Cx} {pins:List (Addr×Obj)} {σ:L2.St} {H:Hp} {s:Shared} {d b:Addr} {o:Obj} {xs:List Ent} {k:List Key} {v:V} {u:Value} {A:Around} {E:Value→Shared→Prop}
theorem key_is (I:Inv X pins σ H s) (e:SqT X.K H b (k.map kV)):(tupleKind (mixKind X.prog X.w)).is s.heap k b:=by
 obtain ⟨its,r,⟨ob,h1,h2,n,h3⟩,_⟩:=I.tuple e
 exact ⟨ob,its.toArray,n,h1,h2,h3,by simpa using items_are r⟩
theorem mem_pair {ys:List (List Key×Addr×Value)} (r:Paired RelE xs ys):∀ y∈ys,∃ x∈xs,RelE x y:=by
 induction r with
 | nil=>intro y hy;exact nomatch hy
 | @cons p q ps qs z t ih =>
  intro y hy
  rcases List.mem_cons.mp hy with rfl | hy
  ·exact ⟨p,List.mem_cons_self,z⟩
  ·obtain ⟨x,hx,e⟩:=ih y hy
   exact ⟨x,List.mem_cons_of_mem _ hx,e⟩
theorem Inv.way (I:Inv X pins σ H s) (D:WD X.prog X.w X.K H d o xs):s.heap.get? d=some o∧(d == sysModules)=false∧xs.length≤sizeLine∧o.ExactDict ∧
  ∃ (ys:List (List Key×Addr×Value)) (es:Array DictEntry) (ep:Nat),Paired RelE xs ys∧o.data=.dict es ep∧es.toList=ys.map (entryOfKey (tupleKind (mixKind X.prog X.w)))∧s.heap.DictOfH (tupleKind (mixKind X.prog X.w)) d ys:=by
 obtain ⟨h1,h2,h3,h4,ys,h5,⟨es,ep,h6,h7⟩,h8⟩:=dw_of I.hok D.1
 refine ⟨h1,h2,h3,h4,ys,es,ep,h5,h6,h7,o,es,ep,h1,h4,h6,h7,fun y hy=>?_,h8⟩
 obtain ⟨x,hx,e1,e2,_⟩:=mem_pair h5 y hy
 have z:=key_is I (D.2 x hx)
 rw [e1,e2] at z
 exact z
theorem w_getItem {Q:Value→Shared→Prop} (hu:A.units + 1<cLine) (I:Inv X pins σ H s) (D:WD X.prog X.w X.K H d o xs) (hb:SqT X.K H b (k.map kV)) (g:valV (kvs xs) k=some v) (h:∀ w' s',Inv X pins σ H s'→RelV v w'→Q w' s') :
  wpAny (model X.prog X.w) A (getItem (.ref d) (.ref b)) Q E s:=by
 obtain ⟨_,hd,_,_,ys,es,ep,rel,_,_,dd⟩:=Inv.way I D
 obtain ⟨w',hw,rw'⟩:=RelO.some_of (v:=v) (o:=(atKey ys k).map (·.2)) (by rw [← g];exact relE_val rel k)
 obtain ⟨p,hp,hp2⟩:=Option.map_eq_some_iff.mp hw
 refine wpAny_getItem_heap (tupleKind_room_in1 hu) (key_is I hb) dd hp ?_
 rw [hp2]
 exact h w' _ (I.tok _) rw'
theorem w_some (I:Inv X pins σ H s) (D:WD X.prog X.w X.K H d o xs) {ys:List (List Key×Addr×Value)} (rel:Paired RelE xs ys) (k:List Key):(atKey ys k).isSome=(valV (kvs xs) k).isSome:=by
 have q:=(relE_val rel k).isSome_eq
 rw [Option.isSome_map] at q
 exact q.symm
def rWIn (P:Program) (w:World) (K:PySem.W.Frag):R2:=fun y x H Q=>∃ (d b:Addr) (o:Obj) (xs:List Ent) (k:List Key),x=.ref d∧y=.ref b∧WD P w K H d o xs∧SqT K H b (k.map kV)∧Q (.bl (valV (kvs xs) k).isSome) H
def rWNotIn (P:Program) (w:World) (K:PySem.W.Frag):R2:=fun y x H Q=>∃ (d b:Addr) (o:Obj) (xs:List Ent) (k:List Key),x=.ref d∧y=.ref b∧WD P w K H d o xs∧SqT K H b (k.map kV)∧Q (.bl (!(valV (kvs xs) k).isSome)) H
theorem op_inW (hu:X.A.units + 1<cLine):OpR X (compareOp .In) (rWIn X.prog X.w X.K):=by
 intro pins s σ H y x u v Q I ry rx h
 obtain ⟨d,b,o,xs,k,rfl,rfl,D,hb,q⟩:=h
 cases rx;cases ry
 obtain ⟨_,hd,_,_,ys,es,ep,rel,_,_,dd⟩:=Inv.way I D
 refine wpAny_in_heap (tupleKind_room_in1 hu) (key_is I hb) hd dd ?_
 rw [w_some I D rel]
 exact ⟨.bl _,H,I.tok _,rfl,q⟩
theorem op_notinW (hu:X.A.units + 1<cLine):OpR X (compareOp .NotIn) (rWNotIn X.prog X.w X.K):=by
 intro pins s σ H y x u v Q I ry rx h
 obtain ⟨d,b,o,xs,k,rfl,rfl,D,hb,q⟩:=h
 cases rx;cases ry
 obtain ⟨_,hd,_,_,ys,es,ep,rel,_,_,dd⟩:=Inv.way I D
 refine wpAny_notIn_heap (tupleKind_room_in1 hu) (key_is I hb) hd dd ?_
 rw [w_some I D rel]
 exact ⟨.bl _,H,I.tok _,rfl,q⟩
def rWIx (P:Program) (w:World) (K:PySem.W.Frag):R2:=fun x y H Q=>∃ (d b:Addr) (o:Obj) (xs:List Ent) (k:List Key) (v:V),x=.ref d∧y=.ref b∧WD P w K H d o xs∧SqT K H b (k.map kV)∧valV (kvs xs) k=some v∧Q v H
theorem ix_way (hu:X.A.units + 1<cLine):IxR X (rWIx X.prog X.w X.K):=by
 intro value slice pins s σ H x y v u Q I rx ry h hs
 obtain ⟨d,b,o,xs,k,z,rfl,rfl,D,hb,g,q⟩:=h
 cases rx;cases ry
 obtain ⟨_,hd,_,_,ys,es,ep,rel,_,_,dd⟩:=Inv.way I D
 have hT:s.TypeIs (.ref d) "dict":=dd.typeIs
 unfold subscriptTail
 refine wpAny_bind ?_
 rw [getitemInPython_of_ne hT.not_modules]
 refine wpAny_bind (wpAny_specialOf hT PySem.F.slot_dict_getitem.lookup ?_)
 have fin:wpAny (model X.prog X.w) X.A (subscripted slice false (.ref d) (.ref b)) (fun r s₃=>wpAny (model X.prog X.w) X.A (letTemporaryGo value (.ref d) r >>= fun _=>pure r) (EP X pins σ Q) X.xe s₃) X.xe s:=by
  rw [hs]
  exact wpAny_operating (w_getItem hu I D hb g fun w' s' I' rw'=>wpAny_bind (wpAny_letTemporaryGo (wpAny_pure ⟨z,H,I',rw',q⟩)))
 first
  | exact wpAny_pure (wpAny_bind fin)
  | exact wpAny_bind (wpAny_pure (wpAny_bind fin))
  | exact wpAny_bind fin
def rWSet (P:Program) (w:World) (K:PySem.W.Frag):TSet:=fun x y v H Q=>∃ (d b:Addr) (o:Obj) (xs:List Ent) (k:List Key),x=.ref d∧y=.ref b∧WD P w K H d o xs∧SqT K H b (k.map kV)∧xs.length<sizeLine ∧
 ∀ o',Q (upd H d (dW P w d o' (putW xs k b v)))
theorem set_way (hu:X.A.units + 1<cLine):PSet X (rWSet X.prog X.w X.K):=by
 intro pins s σ H x y v ov iv u Q I ro ri rv h
 obtain ⟨d,b,o,xs,k,rfl,rfl,D,hb,hl,q⟩:=h
 cases ro;cases ri
 obtain ⟨_,hd,hz,_,ys,es,ep,rel,_,_,dd⟩:=Inv.way I D
 refine wpAny_setItem_heap (hsz:=by rw [← Paired.length rel];exact hz) (tupleKind_room_in1 hu) (key_is I hb) dd fun h' dd' hs=>?_
 obtain ⟨o',es',ep',hq,h2,h3,h4,_,h5⟩:=dd'
 refine ⟨_,d_write (ob:=dW X.prog X.w d o' (putW xs k b v)) I (by rw [D.1];exact True.intro) hs ⟨_,hq⟩ (dw_ok hq hd ?_ h2 (relE_put rel k b rv) h3 h4 h5),q o'⟩
 have:=len_putW xs k b v
 omega
def tWNew (P:Program) (w:World):TE:=fun _ H Q=>∀ p o,H p=none→Q (.ref p) (upd H p (dW P w p o []))
theorem dw_empty (h:Heap) (hb:sysModules<h.objs.size):ObjOk X.prog X.w H (h.push { cls:=.type "dict",data:=.dict #[] }) h.objs.size (dW X.prog X.w h.objs.size { cls:=.type "dict",data:=.dict #[] } []) :=
 dw_ok (ys:=[]) (es:=#[]) (ep:=0) (Heap.get?_push_size _ rfl) (beq_eq_false_iff_ne.mpr (Ne.symm (Nat.ne_of_lt hb))) (Nat.zero_le _) ⟨rfl,rfl,rfl⟩ .nil rfl rfl List.nodup_nil
theorem pe_wnew {pos:Pos}:PE X (.Dict [] [] pos) (tWNew X.prog X.w):=⟨fun pins s σ H Q I h =>
 wpAny_Dict_empty ⟨.ref s.heap.objs.size,_,I.laid (a:=s.heap.objs.size) (o:=dW X.prog X.w s.heap.objs.size _ []) (t':=s.toks) (fun _ _ q=>Heap.get?_push_of_some _ q) (Nat.le_refl _) (dw_empty s.heap I.big),rfl,h _ _ (I.hok.fresh (Nat.le_refl _))⟩⟩
end
end FcW
set_option maxRecDepth 100000
set_option maxHeartbeats 4000000
namespace FcW
open PySem PySem.Spec PyProof.Rows L2
section
variable {X:Cx} {pins:List (Addr×Obj)} {σ:L2.St} {H:Hp} {s:Shared} {d b:Addr} {o:Obj} {xs:List Ent} {k:List Key} {v:V} {u:Value} {A:Around} {E:Value→Shared→Prop}
theorem Dict_walkH {prog:Program} {w:World} {κ:Type} [DecidableEq κ] {knd:HeapKind prog w κ} {env:Env} {keys:List (Option Expr)} {values:List Expr} {pos:Pos} {Q:Value→Shared→Prop} (hu:knd.room A)
  (hall:keys.all (·.isSome)=true) (hl:keys.length=values.length) (h0:keys≠[]) (hlen:keys.length≤15)
  (h:wpAny (model prog w) A (evalPairs (pairTrees keys values env pos)) (fun vs s₁=>∃ ps,CarriesH knd s₁.heap vs ps∧s₁.heap.DictOfH knd s.heap.objs.size [] ∧
   ∀ h' tk,h'.DictOfH knd s.heap.objs.size (storedAllH [] ps)→Heap.SameBut s.heap.objs.size s₁.heap h'→Q (.ref s.heap.objs.size) { s₁ with heap:=h',toks:=tk }) E
   { s with heap:=s.heap.push { cls:=.type "dict",data:=.dict #[] } }) :
  wpAny (model prog w) A (eval (.Dict keys values pos) env) Q E s:=by
 have hn:=pairTrees_length keys values env pos hall hl
 have h0':pairTrees keys values env pos≠[]:=fun he=>by
  rw [he] at hn
  exact h0 (List.eq_nil_of_length_eq_zero hn.symm)
 rw [arm_eval_Dict,zip_pairTrees keys values env pos hall hl,dictDisplay_pairs (pairTrees keys values env pos) h0' (by omega)]
 exact wpAny_bind (wpAny_standAt (wpAny_bind (wpAny_subDictH (knd:=knd) (Q:=fun d s'=>wpAny (model prog w) A (pure (Value.ref d)) Q E s') hu (by omega)
  (wpAny_mono h (fun vs s₁ h₁=>by obtain ⟨ps,hc,hm,hq⟩:=h₁;exact ⟨ps,hc,hm,fun h' tk a b=>wpAny_pure (hq h' tk a b)⟩) fun _ _ e=>e))))
theorem stored_nodup {κ:Type} [DecidableEq κ]:∀ (ps acc:List (κ×Addr×Value)),((acc++ps).map (·.1)).Nodup→storedAllH acc ps=acc++ps
 | [],acc,_=>by simp [storedAllH]
 | p::ps,acc,h=>by
  have hn:atKey acc p.1=none:=by
   unfold atKey
   rw [Option.map_eq_none_iff,List.find?_eq_none]
   intro x hx e
   rw [List.map_append,List.map_cons] at h
   have:=(List.nodup_append.mp h).2.2 x.1 (List.mem_map.mpr ⟨x,hx,rfl⟩) p.1 List.mem_cons_self
   exact this (by simpa using e)
  show storedAllH (storedH acc p.1 p.2.1 p.2.2) ps=_
  rw [storedH_new hn,stored_nodup ps (acc++[(p.1,p.2.1,p.2.2)]) (by simpa [List.append_assoc] using h),List.append_assoc]
  rfl
def tWDisp (P:Program) (w:World) (K:PySem.W.Frag) (trs:List (TE×TE)):TE:=fun σ H Q=>∀ p o,H p=none→tPairs trs σ (upd H p (dW P w p o [])) fun ps H2 =>
 H2 p=some (dW P w p o [])∧∃ xs:List Ent,ps=xs.map (fun x=>(V.ref x.2.1,x.2.2))∧xs.length≤15∧KeysT K H2 xs∧(xs.map (·.1)).Nodup∧∀ o',Q (.ref p) (upd H2 p (dW P w p o' xs))
theorem carries_way (I:Inv X pins σ H s):∀ {xs:List Ent} {ws:List (Value×Value)},VV (xs.map fun x=>(V.ref x.2.1,x.2.2)) ws→KeysT X.K H xs→∃ ys,CarriesH (tupleKind (mixKind X.prog X.w)) s.heap ws ys∧Paired RelE xs ys
 | [],_,r,_=>by rw [List.map_nil] at r;cases r;exact ⟨[],True.intro,.nil⟩
 | x::xs,_,r,hk=>by
  rw [List.map_cons] at r
  cases r with
  | @cons _ b _ bs h t =>
   obtain ⟨ys,c,q⟩:=carries_way I t (fun y hy=>hk y (List.mem_cons_of_mem _ hy))
   obtain ⟨b1,b2⟩:=b
   obtain ⟨z1,z2⟩:=h
   cases (show b1=Value.ref x.2.1 from z1)
   exact ⟨(x.1,x.2.1,b2)::ys,⟨rfl,rfl,key_is I (hk x List.mem_cons_self),c⟩,.cons ⟨rfl,rfl,z2⟩ q⟩
theorem relE_keys {ys:List (List Key×Addr×Value)} (r:Paired RelE xs ys):ys.map (·.1)=xs.map (·.1):=by
 induction r with
 | nil=>rfl
 | @cons p q ps qs z t ih=>rw [List.map_cons,List.map_cons,ih,z.1]
theorem pe_wdisp {pos:Pos} {keys:List (Option Expr)} {values:List Expr} {trs:List (TE×TE)} (hu:X.A.units<cLine) (h:PPs X pos keys values trs) (hall:keys.all (·.isSome)=true) (hl:keys.length=values.length) (h0:keys≠[])
  (h15:keys.length≤15):PE X (.Dict keys values pos) (tWDisp X.prog X.w X.K trs):=by
 refine ⟨fun pins s σ H Q I q=>?_⟩
 have hn:=I.hok.fresh (Nat.le_refl s.heap.objs.size)
 have I1:=I.laid (a:=s.heap.objs.size) (o:=dW X.prog X.w s.heap.objs.size _ []) (h':=s.heap.push { cls:=.type "dict",data:=.dict #[] }) (t':=s.toks) (fun _ _ q=>Heap.get?_push_of_some _ q) (Nat.le_refl _) (dw_empty s.heap I.big)
 refine Dict_walkH (knd:=tupleKind (mixKind X.prog X.w)) hu hall hl h0 h15 (thn (h.run pins _ σ _ _ I1 (q _ _ hn)) fun ws s2 ⟨ps,H2,I2,rel,e,xs,ep,lk,kt,nd,q2⟩=>?_)
 subst ep
 obtain ⟨ys,c,rk⟩:=carries_way I2 rel kt
 obtain ⟨_,hd,_,_,ys0,_,_,r0,_,_,dd⟩:=Inv.way I2 ⟨e,fun x hx=>nomatch hx⟩
 cases r0
 refine ⟨ys,c,dd,fun h' tk dd' hs=>?_⟩
 rw [stored_nodup ys [] (by rw [List.nil_append,relE_keys rk];exact nd),List.nil_append] at dd'
 obtain ⟨o',es',ep',hq,h2,h3,h4,_,h5⟩:=dd'
 exact ⟨.ref s.heap.objs.size,_,d_write (t':=tk) (ob:=dW X.prog X.w s.heap.objs.size o' xs) I2 (by rw [e];exact True.intro) hs ⟨_,hq⟩ (dw_ok hq hd (by rw [sizeLine_eq];omega) h2 rk h3 h4 h5),rfl,q2 o'⟩
end
def ItwI (P:Program) (w:World) (d:Addr) (o:Obj) (xs:List Ent):It :=
 ⟨fun i H=>H d=some (dW P w d o xs)∧i<xs.length,fun i H x H'=>∃ T e,xs[i]?=some e∧x=.ref T∧H T=none∧H'=upd H T (.tup [.ref e.2.1,e.2.2]),fun i H=>H d=some (dW P w d o xs)∧xs.length≤i⟩
def ItwV (P:Program) (w:World) (d:Addr) (o:Obj) (xs:List Ent):It :=
 ⟨fun i H=>H d=some (dW P w d o xs)∧i<xs.length,fun i H x H'=>H'=H∧∃ e,xs[i]?=some e∧x=e.2.2,fun i H=>H d=some (dW P w d o xs)∧xs.length≤i⟩
section
variable {P:Program} {w:World} {K:PySem.W.Frag} {tg:Expr} {d:Addr} {o:Obj} {es:Array DictEntry} {ep:Nat} {xs:List Ent}
theorem Inv.wraw {X:Cx} {pins:List (Addr×Obj)} {σ:L2.St} {H:Hp} {s:Shared} (I:Inv X pins σ H s) (h:H d=some (dW X.prog X.w d o xs)) (hod:o.data=.dict es ep) :
  (d == sysModules)=false∧s.heap.DictRaw d es ep∧es.size=xs.length∧∀ (i:Nat) (e:Ent),xs[i]?=some e→∃ en,es[i]?=some en∧en.key=.ref e.2.1∧RelV e.2.2 en.val:=by
 obtain ⟨h1,h2,h3,h4,ys,h5,⟨es',ep',h6,h7⟩,h8⟩:=dw_of I.hok h
 obtain ⟨rfl,rfl⟩:=dict_ep hod h6
 have l1:es'.size=ys.length:=size_of_entries h7
 have l2:xs.length=ys.length:=Paired.length h5
 refine ⟨h2,⟨o,h1,h4,hod⟩,by omega,fun i e he=>?_⟩
 obtain ⟨y,hy,e1,e2,e3⟩:=paired_get h5 he
 have q:=entry_at h7 i
 rw [hy] at q
 exact ⟨_,q,by rw [e2]<;>rfl,e3⟩
theorem turn_wvals (it:Addr) (hod:o.data=.dict es ep):Turn P w K tg (ItwV P w d o xs) [it] it (fun i h=>h.IsValIter it d i es.size ep) where
 mem:=by simp
 obj:=fun i h st b hb=>by
  have e:b=it:=by simpa using hb
  subst e
  obtain ⟨oi,e,c,dd⟩:=st
  exact ⟨oi,e,fun v z=>by rw [dd] at z;cases z⟩
 keep:=fun i h h' st k=>st.at fun oi e=>k it (by simp) oi e
 item:=by
  intro X hP hw hK hc i pins s σ H E I hf st hg
  subst hP hw hK
  obtain ⟨hd,hi⟩:=hg
  obtain ⟨f0,f1,f2,f3,f4,f5⟩:=hf it (by simp)
  obtain ⟨hs,hm,hsz,ent⟩:=Inv.wraw I hd hod
  obtain ⟨e,hxe⟩:∃ p,xs[i]?=some p:=⟨xs[i],List.getElem?_eq_getElem hi⟩
  obtain ⟨en,hen,ek,ev⟩:=ent i e hxe
  obtain ⟨hlt,hen'⟩:=Array.getElem?_eq_some_iff.mp hen
  refine wpAny_pyNext_values_item_raw st hm hlt fun h' st' sb=>?_
  rw [hen']
  have I1:Inv X pins σ H { s with heap:=h' }:=I.turned (t':=s.toks) (fun b ob hb e=>(sb.2 b hb).trans e) f0 f1 f3 f4 f5
  obtain ⟨oi,e',c,dd⟩:=id st'
  exact ⟨_,rfl,go_of (s:={ s with heap:=h' }) e' c dd (by decide) ⟨e.2.2,H,I1,ev,⟨rfl,e,hxe,rfl⟩,st',fun b hb=>(hf b hb).1⟩⟩
 done:=by
  intro X hP hw hK hc i pins s σ H E I hf st hg
  subst hP hw hK
  obtain ⟨hd,hi⟩:=hg
  obtain ⟨f0,f1,f2,f3,f4,f5⟩:=hf it (by simp)
  obtain ⟨hs,hm,hsz,ent⟩:=Inv.wraw I hd hod
  exact wpAny_pyNext_values_end_raw (I.ok.hd hc) st hm (by omega) fun h' eb=>⟨rfl,I.turned (t':=s.toks) (fun b ob hb e=>eb b ob hb e) f0 f1 f3 f4 f5⟩
 self:=fun A i s Q E st h=>wpAny_pyIter_valiter st h
theorem turn_witems {elts:List Expr} {kk:Nat} {tpos:Pos} (it:Addr) (hod:o.data=.dict es ep) :
  Turn P w K (.Tuple elts kk tpos) (ItwI P w d o xs) [it] it (fun i h=>∃ ok ov,IsItemIter h it d i es.size ep ok ov) where
 mem:=by simp
 obj:=fun i h st b hb=>by
  have e:b=it:=by simpa using hb
  subst e
  obtain ⟨ok,ov,e⟩:=st
  exact ⟨_,e,fun v z=>nomatch z⟩
 keep:=fun i h h' st k=>let ⟨ok,ov,e⟩:=st;⟨ok,ov,k it (by simp) _ e⟩
 item:=by
  intro X hP hw hK hc i pins s σ H E I hf st hg
  subst hP hw hK
  obtain ⟨hd,hi⟩:=hg
  obtain ⟨hs,hm,hsz,ent⟩:=Inv.wraw I hd hod
  obtain ⟨e,hxe⟩:∃ p,xs[i]?=some p:=⟨xs[i],List.getElem?_eq_getElem hi⟩
  obtain ⟨en,hen,ek,ev⟩:=ent i e hxe
  obtain ⟨hlt',hen'⟩:=Array.getElem?_eq_some_iff.mp hen
  obtain ⟨ok,ov,he⟩:=st
  have hlt:it<s.heap.objs.size:=Heap.lt_size he
  refine wpAny_pyNext_items_item_raw he hm hlt' fun h' ho hT hz hk=>?_
  rw [hen'] at ho hT
  refine ⟨_,rfl,wpAny_letOwnedTupleGo_items (s:={ s with heap:=h' }) ho fun h'' he' sb=>?_⟩
  have hT2:h''.get? s.heap.objs.size=some { cls:=.type "tuple",data:=.seq #[en.key,en.val] }:=(sb.2 _ (Nat.ne_of_gt hlt)).trans hT
  have new:ObjOk X.prog X.w (upd H s.heap.objs.size (.tup [.ref e.2.1,e.2.2])) h'' s.heap.objs.size (.tup [.ref e.2.1,e.2.2]) :=
   ⟨by show 2≤sizeLine;decide,[en.key,en.val],.cons ek (.cons ev .nil),⟨_,hT2,rfl,_,rfl⟩⟩
  have I1:Inv X pins σ (upd H s.heap.objs.size (.tup [.ref e.2.1,e.2.2])) { s with heap:=h'' } :=
   I.turnedNew (t':=s.toks) (ch:=[it]) (fun b ob hb e=>(sb.2 b (by simpa using hb)).trans (hk b ob (by simpa using hb) e)) hf (Nat.le_refl _) new
  refine ⟨.ref s.heap.objs.size,_,I1,rfl,⟨_,e,hxe,rfl,I.hok.fresh (Nat.le_refl _),rfl⟩,⟨en.key,en.val,he'⟩,fun b hb=>?_⟩
  have e:b=it:=by simpa using hb
  rw [e,upd_ne (Nat.ne_of_lt hlt)]
  exact (hf it (by simp)).1
 done:=by
  intro X hP hw hK hc i pins s σ H E I hf st hg
  subst hP hw hK
  obtain ⟨hd,hi⟩:=hg
  obtain ⟨f0,f1,f2,f3,f4,f5⟩:=hf it (by simp)
  obtain ⟨hs,hm,hsz,ent⟩:=Inv.wraw I hd hod
  obtain ⟨ok,ov,he⟩:=st
  exact wpAny_pyNext_items_end_raw (I.ok.hd hc) he hm (by omega) fun h' eb=>⟨rfl,I.turned (t':=s.toks) (fun b ob hb e=>eb b ob hb e) f0 f1 f3 f4 f5⟩
 self:=fun A i s Q E st h=>let ⟨_,_,e⟩:=st;PySem.W.kcp_self e h
end
def iWVals (P:Program) (w:World) (td:TE):TI:=fun σ H R=>td σ H fun x H1=>∃ d o xs,x=.ref d∧H1 d=some (dW P w d o xs)∧R (ItwV P w d o xs) H1
def iWItems (P:Program) (w:World) (td:TE):TI:=fun σ H R=>td σ H fun x H1=>∃ d o xs,x=.ref d∧H1 d=some (dW P w d o xs)∧R (ItwI P w d o xs) H1
section
variable {X:Cx} {tg e:Expr} {td:TE} {apos cpos:Pos}
theorem raw_noDict {h:Heap} {d:Addr} {es:Array DictEntry} {ep:Nat} (hm:h.DictRaw d es ep):∀ b,Value.ref d=.ref b→∃ ob,h.get? b=some ob∧ob.dict=none:=fun b q=>by
 cases q
 obtain ⟨o,h1,h2,_⟩:=hm
 exact ⟨o,h1,h2.2.1⟩
theorem pi_wvals (he:PE X e td) (hbase:attributeBase e "values" X.env (eval e X.env)=eval e X.env:=by rfl) (hline:(apos.endLine == cpos.line)=true:=by rfl):PI X tg (.Call (.Attribute e "values" apos) [] [] cpos) (iWVals X.prog X.w td):=by
 refine ⟨fun pins s σ H R I h=>?_⟩
 refine wpAny_Call_method (T:="dict") (id:="dict.values") hbase rfl hline F.plainAttrs_dict F.slot_dict_values F.type_dict_values (thn (he.run pins s σ H _ I h) fun u s1 ⟨x,H1,I1,rx,d,o,xs,ex,hd,q⟩=>?_)
 subst ex
 obtain rfl:u=Value.ref d:=rx
 obtain ⟨_,_,_,_,_,_,⟨es,ep,hod,_⟩,_⟩:=dw_of I1.hok hd
 obtain ⟨hs,hm,hsz,ent⟩:=Inv.wraw I1 hd hod
 refine ⟨hm.typeIs,raw_noDict hm,?_⟩
 have I2:Inv X pins σ H1 { s1 with heap:=s1.heap.push { cls:=.type "dict_values",data:=.fields #[.ref d] } }:=I1.kept (t':=s1.toks) fun b ob q=>Heap.get?_push_of_some _ q
 have fin:wpAny (model X.prog X.w) X.A (pyIter (.ref s1.heap.objs.size)) (PIE X pins σ tg R) X.xe { s1 with heap:=s1.heap.push { cls:=.type "dict_values",data:=.fields #[.ref d] } } :=
  wpAny_pyIter_values_raw (d:=d) ⟨_,Heap.get?_push_size _ rfl,rfl,rfl⟩ (hm.at fun o q=>Heap.get?_push_of_some _ q) (pi_one (tk:=s1.toks) I2 _ (turn_wvals _ hod) ⟨_,Heap.get?_push_size _ rfl,rfl,rfl⟩ q)
 show wpAny _ _ (callWith cpos (.builtin "dict.values") [.ref d] [] []) _ X.xe s1
 exact method_meetsIn F.slot_dict_values F.entry_dict_values rfl (PySem.evalArgs_none ⟨rfl,hm.typeIs,F.args_dict_values_1 _,_,meets_dict_values_raw d hs,⟨es,ep,hm⟩,fin⟩)
theorem pi_witems {elts:List Expr} {kk:Nat} {tpos:Pos} (he:PE X e td) (hbase:attributeBase e "items" X.env (eval e X.env)=eval e X.env:=by rfl) (hline:(apos.endLine == cpos.line)=true:=by rfl) :
  PI X (.Tuple elts kk tpos) (.Call (.Attribute e "items" apos) [] [] cpos) (iWItems X.prog X.w td):=by
 refine ⟨fun pins s σ H R I h=>?_⟩
 refine wpAny_Call_method (T:="dict") (id:="dict.items") hbase rfl hline F.plainAttrs_dict F.slot_dict_items F.type_dict_items (thn (he.run pins s σ H _ I h) fun u s1 ⟨x,H1,I1,rx,d,o,xs,ex,hd,q⟩=>?_)
 subst ex
 obtain rfl:u=Value.ref d:=rx
 obtain ⟨_,_,_,_,_,_,⟨es,ep,hod,_⟩,_⟩:=dw_of I1.hok hd
 obtain ⟨hs,hm,hsz,ent⟩:=Inv.wraw I1 hd hod
 refine ⟨hm.typeIs,raw_noDict hm,?_⟩
 have I2:Inv X pins σ H1 { s1 with heap:=s1.heap.push { cls:=.type "dict_items",data:=.fields #[.ref d] } }:=I1.kept (t':=s1.toks) fun b ob q=>Heap.get?_push_of_some _ q
 have fin:wpAny (model X.prog X.w) X.A (pyIter (.ref s1.heap.objs.size)) (PIE X pins σ (.Tuple elts kk tpos) R) X.xe { s1 with heap:=s1.heap.push { cls:=.type "dict_items",data:=.fields #[.ref d] } } :=
  wpAny_pyIter_items_raw (d:=d) ⟨_,Heap.get?_push_size _ rfl,rfl,rfl⟩ (hm.at fun o q=>Heap.get?_push_of_some _ q) (pi_one (tk:=s1.toks) I2 _ (turn_witems _ hod) ⟨.none,.none,Heap.get?_push_size _ rfl⟩ q)
 show wpAny _ _ (callWith cpos (.builtin "dict.items") [.ref d] [] []) _ X.xe s1
 exact method_meetsIn F.slot_dict_items F.entry_dict_items rfl (PySem.evalArgs_none ⟨rfl,hm.typeIs,F.args_dict_items_1 _,_,meets_dict_items_raw d hs,⟨es,ep,hm⟩,fin⟩)
end
section
variable {P:Program} {w:World} {d:Addr} {o:Obj} {xs:List Ent}
theorem walk_wvals:Walk (ItwV P w d o xs) xs.length (fun H=>H d=some (dW P w d o xs)) (fun i H x H'=>H'=H∧∃ e,xs[i]?=some e∧x=e.2.2) :=
 ⟨fun _ _ hi q=>⟨q,hi⟩,fun _ q=>⟨q,Nat.le_refl _⟩,fun _ _ _ _ _ _ y=>y⟩
theorem walk_witems:Walk (ItwI P w d o xs) xs.length (fun H=>H d=some (dW P w d o xs)) (YPair (fun i=>xs[i]?.map fun e=>V.ref e.2.1) (fun i=>xs[i]?.map fun e=>e.2.2)):=by
 refine ⟨fun _ _ hi q=>⟨q,hi⟩,fun _ q=>⟨q,Nat.le_refl _⟩,fun i H x H' _ _ y=>?_⟩
 obtain ⟨T,e,h1,h2,h3,h4⟩:=y
 exact ⟨T,.ref e.2.1,e.2.2,h2,h3,h4,by simp [h1],by simp [h1]⟩
end
end FcW
set_option maxRecDepth 100000
set_option maxHeartbeats 4000000
namespace FcW
open PySem PySem.Spec PyProof.Rows L2
section
variable {X:Cx}
def rLtM (K:PySem.W.Frag):R2:=fun x y H Q=>∃ d e,Dp K H x d∧Dp K H y e∧PySem.W.alike d e=true∧d≠.none∧min d.depth e.depth≤150∧Q (.bl (PySem.W.dataLt d e)) H
theorem op_ltM {k:Nat} (hr:Room k X.A):OpR X (compareOp .Lt) (rLtM X.K):=by
 intro pins s σ H x y v u Q I rx ry h
 obtain ⟨d,e,hd,he,sd,se,hm,q⟩:=h
 obtain ⟨as,r1⟩:=Dp.reads I d x v hd rx
 obtain ⟨bs,r2⟩:=Dp.reads I e y u he ry
 exact PySem.W.rcLt_alike d e X.A s v u as bs r1 r2 sd se (by have:=hr.un;omega) X.prog X.w X.xe _ ⟨.bl _,H,I,rfl,q⟩
def kD:Key→PyData
 | .inl i=>.int i
 | .inr x=>.str x
def keyD (k:List Key):PyData:=.tuple (k.map kD)
theorem dp_kV {K:PySem.W.Frag} {H:Hp}:∀ k:Key,Dp K H (kV k) (kD k)
 | .inl i=>.int i
 | .inr x=>.str x
theorem dpA_kV {K:PySem.W.Frag} {H:Hp}:∀ ks:List Key,DpAll K H (ks.map kV) (ks.map kD)
 | []=>.nil
 | k::ks=>.cons (dp_kV k) (dpA_kV ks)
theorem dp_key {K:PySem.W.Frag} {H:Hp} {b:Addr} {k:List Key} (h:SqT K H b (k.map kV)):Dp K H (.ref b) (keyD k):=.tup h (dpA_kV k)
theorem depth_kD:∀ ks:List Key,PyData.depthAll (ks.map kD)=0
 | []=>rfl
 | .inl i::ks=>by have:=depth_kD ks;simp [PyData.depthAll,kD,PyData.depth] at this ⊢;exact this
 | .inr x::ks=>by have:=depth_kD ks;simp [PyData.depthAll,kD,PyData.depth] at this ⊢;exact this
theorem vals_refs:∀ as:List Addr,Vals (as.map V.ref) (as.map Value.ref)
 | []=>.nil
 | _::as=>.cons rfl (vals_refs as)
def leE (x y:Ent):Bool:=PySem.W.dataLe false (fun e:Ent=>keyD e.1) x y
def rSortW (P:Program) (w:World) (K:PySem.W.Frag):List V→Hp→VK→Prop:=fun vs H Q=>∃ (d:Addr) (o:Obj) (xs:List Ent),vs=[.ref d]∧WD P w K H d o xs∧(∀ x∈xs,x.1≠[])∧(∀ x∈xs,∀ y∈xs,PySem.W.alike (keyD x.1) (keyD y.1)=true) ∧
 ∀ p,H p=none→Q (.ref p) (upd H p (.lst ((xs.mergeSort leE).map fun e=>V.ref e.2.1)))
theorem each_refs {α:Type} {f:α→Addr}:∀ {vs:List Value} {bs:List α},PySem.W.EachIs (fun v b=>v=Value.ref (f b)) vs bs→vs=bs.map fun b=>Value.ref (f b)
 | _,_,.nil=>rfl
 | _,_,.cons h t=>by rw [h,each_refs t]<;>rfl
theorem each_of {α:Type} {f:α→Addr} {R:Value→α→Prop}:∀ (bs:List α),(∀ b∈bs,R (.ref (f b)) b)→PySem.W.EachIs R (bs.map fun b=>Value.ref (f b)) bs
 | [],_=>.nil
 | b::bs,h=>.cons (h b List.mem_cons_self) (each_of bs fun c hc=>h c (List.mem_cons_of_mem _ hc))
theorem gather {prog:Program} {w:World} {A:Around} {E:Value→Shared→Prop} {s:Shared} {T:String} {r d:Addr} {n:Nat} {P:Nat→Value→Prop} {OK:Heap→Prop} {R:List Value→Shared→Prop} (K:PySem.W.KdlSrc prog w T r d n P OK)
  (hh:A.handled=none) (hok:OK s.heap) (hn:n≤sizeLine)
  (h:∀ (h':Heap) (tk:Nat) (acc:Array Value),(∀ b o,s.heap.get? b=some o→h'.get? b=some o)→s.heap.objs.size<h'.objs.size→ItemsOf P acc n→R acc.toList { s with heap:=h',toks:=tk }) :
  wpAny (model prog w) A (collect (.ref r)) R E s:=by
 obtain ⟨l1,l2⟩:=K.there _ hok
 unfold collect
 refine wpAny_bind (wpAny_runValue (codeAny_builtin entry_proto_collect' ?_))
 rw [Around.under_plainId PySem.F.plain_proto_collect _]
 refine wpAny_bind (m:=newList []) (wpAny_newObj_type (wpAny_pure ⟨plainId_quiet PySem.F.plain_list_iadd _,codeAny_builtin entry_list_iadd' ?_⟩))
 rw [Around.under_plainId PySem.F.plain_list_iadd _]
 show wpAny _ A.in1 (Builtin.List.listExtendWith (.ref s.heap.objs.size) (.ref r) (.ref s.heap.objs.size)) _ _ _
 have e0:(s.heap.push { cls:=.type "list",data:=.seq ([]:List Value).toArray }).get? s.heap.objs.size=some { cls:=.type "list",data:=.seq #[] }:=Heap.get?_push_size _ rfl
 refine wpAny_mono (PySem.W.kdl_extend (A:=A) (s:={ s with heap:=s.heap.push { cls:=.type "list",data:=.seq ([]:List Value).toArray } })
  (R:=fun q s'=>q=.ok (.ret (.ref s.heap.objs.size))∧∃ acc' c',(∀ b o,s.heap.get? b=some o→s'.heap.get? b=some o)∧s'.heap.get? s.heap.objs.size=some { cls:=.type "list",dict:=none,data:=.seq acc' c',slots:=#[] }∧ItemsOf P acc' n∧∃ h' tk,s'={ s with heap:=h',toks:=tk })
  K hh (K.keep _ _ hok fun b _ o e=>Heap.get?_push_of_some _ e) s.heap.objs.size (Nat.ne_of_gt l1) (Nat.ne_of_gt l2) (.ref s.heap.objs.size) 0 e0
  (fun h' tk acc' c' k1 k2 k3=>⟨rfl,acc',c',fun b o e=>k1 b o (Nat.ne_of_lt (Heap.lt_size e)) (Heap.get?_push_of_some _ e),k2,k3,h',tk,rfl⟩) hn) (fun fin s' x=>?_) fun e s' x=>nomatch x.1
 have last:∀ (q:Result) (s':Shared),(q=.ok (.ret (.ref s.heap.objs.size))∧∃ acc' c',(∀ b o,s.heap.get? b=some o→s'.heap.get? b=some o)∧s'.heap.get? s.heap.objs.size=some { cls:=.type "list",dict:=none,data:=.seq acc' c',slots:=#[] }∧ItemsOf P acc' n∧∃ h' tk,s'={ s with heap:=h',toks:=tk }) →
   ∃ acc' c',q=.ok (.ret (.ref s.heap.objs.size))∧s'.heap.get? s.heap.objs.size=some { cls:=.type "list",dict:=none,data:=.seq acc' c',slots:=#[] }∧R acc'.toList s':=by
  rintro q s' ⟨e1,acc',c',k1,k2,k3,h',tk,rfl⟩
  exact ⟨acc',c',e1,k2,h h' tk acc' k1 (Heap.lt_size k2) k3⟩
 cases fin with
 | done f =>
  obtain ⟨acc',c',e1,k2,k3⟩:=last _ _ x
  cases e1
  exact wpAny_bind (wpAny_load k2 (wpAny_pure k3))
 | again c₁ =>
  refine ⟨x.1,codeAny_mono x.2 fun q s₂ y=>?_⟩
  obtain ⟨acc',c',e1,k2,k3⟩:=last _ _ y
  subst e1
  exact wpAny_bind (wpAny_load k2 (wpAny_pure k3))
theorem no_addr {h:Heap}:∀ (ks:List Key) (us:List Value) (as:List Addr),ReadsAll h us (ks.map kD) as→as=[]
 | [],_,_,r=>by cases r;rfl
 | .inl i::ks,_,_,r=>by
  cases r with
  | cons h1 h2=>cases h1;rw [no_addr ks _ _ h2];rfl
 | .inr x::ks,_,_,r=>by
  cases r with
  | cons h1 h2=>cases h1;rw [no_addr ks _ _ h2];rfl
theorem no_addrT {h:Heap} {v:Value} {k:List Key} {as:List Addr} (r:Reads h v (keyD k) as):as=[]:=by
 cases r with
 | tuple h1 h2 h3 h4=>exact no_addr k _ _ h4
theorem cr_sortW {k:Nat} (hr:Room k X.A) (hc:X.calm=true):CallR X (.builtin "sorted") (rSortW X.prog X.w X.K):=by
 intro pins s σ H vs us Q I r h
 obtain ⟨d,o,xs,rfl,D,hne,hal,q⟩:=h
 obtain rfl:=Vals.ref1 r
 obtain ⟨hg,hd,hz,hx,ys,es,ep,rel,hod,hes,dd⟩:=Inv.way I D
 have l1:es.size=ys.length:=size_of_entries hes
 have l2:xs.length=ys.length:=Paired.length rel
 refine Calls.call_function_entry kind_sorted plain_sorted entry_sorted (args_sorted1 _) ?_
 unfold Builtin.«sorted»
 refine wpAny_bind (m:=checkCount "sorted" 1 1 _) (wpAny_pure ?_)
 refine wpAny_bind (gather (A:=X.A.in1) (kdl_raw hd hx hod) (I.ok.hd hc) hg (by omega) fun h' tk acc hk hlt it=>?_)
 have ea:acc.toList=xs.map fun e=>Value.ref e.2.1:=by
  have hl:acc.toList.length=xs.length:=by rw [Array.length_toList,it.1];omega
  apply List.ext_getElem?
  intro j
  rw [List.getElem?_map]
  cases hj:acc.toList[j]? with
  | none =>
   have h1:=List.getElem?_eq_none_iff.mp hj
   rw [List.getElem?_eq_none (by omega)]
   all_goals rfl
  | some v =>
   have hjl:j<xs.length:=by rw [← hl];exact (List.getElem?_eq_some_iff.mp hj).1
   obtain ⟨en,hen,hv⟩:=it.2 j v (by rw [← Array.getElem?_toList];exact hj)
   obtain ⟨_,_,_,ent⟩:=Inv.wraw I D.1 hod
   obtain ⟨en',he',ek,_⟩:=ent j xs[j] (List.getElem?_eq_getElem hjl)
   have e2:en=en':=Option.some.inj (hen.symm.trans he')
   rw [List.getElem?_eq_getElem hjl,hv,e2,ek]
   all_goals rfl
 rw [ea]
 refine wpAny_bind (wpAny_newList ?_ (by rw [List.length_map];exact hz))
 have ho:(h'.push { cls:=.type "list",data:=.seq (xs.map fun e=>Value.ref e.2.1).toArray }).get? h'.objs.size=some (seqObj "list" (xs.map fun e=>Value.ref e.2.1).toArray 0):=Heap.get?_push_size _ rfl
 have kb:∀ b ob,s.heap.get? b=some ob→(h'.push { cls:=.type "list",data:=.seq (xs.map fun e=>Value.ref e.2.1).toArray }).get? b=some ob:=fun b ob e=>Heap.get?_push_of_some _ (hk b ob e)
 have hlb:∀ b ob,s.heap.get? b=some ob→b≠h'.objs.size:=fun b ob e=>Nat.ne_of_lt (Heap.lt_size (hk b ob e))
 generalize hh2:h'.push { cls:=.type "list",data:=.seq (xs.map fun e=>Value.ref e.2.1).toArray }=h2 at ho kb
 have rd:∀ e∈xs,∃ as,Reads h2 (Value.ref e.2.1) (keyD e.1) as∧h'.objs.size ∉ as:=fun e he=>by
  have dk:=dp_key (D.2 e he)
  obtain ⟨as,ra⟩:=Dp.reads I (keyD e.1) (.ref e.2.1) (.ref e.2.1) dk rfl
  refine ⟨as,PyProof.Rows.Reads.keeps (fun b ob z=>kb b ob z) ra,fun z=>?_⟩
  rw [no_addrT ra] at z
  exact nomatch z
 show wpAny _ _ (holding _ (call (.builtin "list.sort") [.ref h'.objs.size]) >>= _) _ _ _
 refine wpAny_bind (wpAny_holding (PySem.W.list_sort_data (A:=X.A.in1) (R:=fun v (b:Ent)=>v=Value.ref b.2.1) (enc:=fun e:Ent=>keyD e.1) (bs:=xs) (s:={ s with heap:=h2,toks:=tk }) ho
  (each_of (f:=fun e:Ent=>e.2.1) xs fun _ _=>rfl) (each_of (f:=fun e:Ent=>e.2.1) xs fun e he=>rd e he) (fun a ha b hb=>?_) (.inl fun dd hdd=>?_) hz (fun b hb=>?_) fun out ol eo=>?_))
 ·obtain ⟨x,hx,rfl⟩:=List.mem_map.mp ha
  obtain ⟨y,hy,rfl⟩:=List.mem_map.mp hb
  exact hal x hx y hy
 ·obtain ⟨x,hx,rfl⟩:=List.mem_map.mp hdd
  cases e:x.1 with
  | nil=>exact absurd e (hne x hx)
  | cons k0 ks=>exact ⟨kD k0,ks.map kD,by simp only [keyD,e,List.map_cons]⟩
 ·have:=hr.un
  have e:(keyD b.1).depth=1:=by simp only [keyD,PyData.depth,depth_kD]
  show X.A.in1.units + 1 + (keyD b.1).depth<cLine
  have e2:X.A.in1.units=X.A.units + 1:=rfl
  omega
 ·have eo':=each_refs (f:=fun e:Ent=>e.2.1) eo
  obtain ⟨eF,heF⟩:=PyProof.Rows.sortedHeap_at (out:=List.toArray out) ho
  have hn0:H h'.objs.size=none:=I.hok.fresh (Nat.le_of_lt hlt)
  have ml:(xs.mergeSort leE).length=xs.length:=List.length_mergeSort _
  refine wpAny_pure ⟨_,rfl,⟨.ref h'.objs.size,_,I.laid (a:=h'.objs.size) (t':=tk) (o:=.lst ((xs.mergeSort leE).map fun e=>V.ref e.2.1)) (fun b ob z=>(PyProof.Rows.sortedHeap_old (hlb b ob z) (Heap.lt_size (kb b ob z))).trans (kb b ob z)) (Nat.le_of_lt hlt) ?_,rfl,q _ hn0⟩⟩
  refine ⟨by rw [List.length_map,ml];exact hz,out,eF,?_,heF⟩
  rw [eo']
  have z:=vals_refs ((xs.mergeSort leE).map fun e=>e.2.1)
  rw [List.map_map,List.map_map] at z
  exact z
end
end FcW
set_option maxRecDepth 100000
set_option maxHeartbeats 4000000
namespace Fc
open PySem PySem.Spec PyProof.Rows L2 FcR
open Evl (Ex)
section
open FcM (Way)
def wk:Way→List Key
 | .nrm=>[.inr "normal"]
 | .ret=>[.inr "return"]
 | .rai=>[.inr "raise"]
 | .brk k=>[.inr "break",.inl (k:Int)]
 | .cnt k=>[.inr "continue",.inl (k:Int)]
theorem wk_inj:∀ {a b:Way},wk a=wk b→a=b:=by
 have n1:¬ ("break":Str)="continue":=by decide
 intro a b h
 cases a with
 | nrm=>cases b<;>first | rfl | exact absurd h (by decide) | (unfold wk at h;injection h with h1 h2;exact nomatch h2)
 | ret=>cases b<;>first | rfl | exact absurd h (by decide) | (unfold wk at h;injection h with h1 h2;exact nomatch h2)
 | rai=>cases b<;>first | rfl | exact absurd h (by decide) | (unfold wk at h;injection h with h1 h2;exact nomatch h2)
 | brk k =>
  cases b with
  | brk j =>
   unfold wk at h
   injection h with h1 h2
   injection h2 with h3 h4
   have h5:(k:Int)=(j:Int):=Sum.inl.inj h3
   rw [Int.ofNat.inj h5]
  | cnt j =>
   unfold wk at h
   injection h with h1 h2
   exact absurd (Sum.inr.inj h1) n1
  | _=>unfold wk at h;injection h with h1 h2;exact nomatch h2
 | cnt k =>
  cases b with
  | cnt j =>
   unfold wk at h
   injection h with h1 h2
   injection h2 with h3 h4
   have h5:(k:Int)=(j:Int):=Sum.inl.inj h3
   rw [Int.ofNat.inj h5]
  | brk j =>
   unfold wk at h
   injection h with h1 h2
   exact absurd (Sum.inr.inj h1).symm n1
  | _=>unfold wk at h;injection h with h1 h2;exact nomatch h2
abbrev Tw:=List (Way×List Int)
def lk (t:Tw) (v:Way):Option (List Int):=(t.find? fun p=>decide (p.1=v)).map (·.2)
def putT (t:Tw) (v:Way) (ans:List Int):Tw:=if (lk t v).isSome=true then t.map (fun p=>if p.1=v then (p.1,ans) else p) else t++[(v,ans)]
def befL (xs ys:List Int):Bool:=decide (xs.length<ys.length∨(xs.length=ys.length∧xs<ys))
def keepT (t:Tw) (v:Way) (ans:List Int):Tw :=
 match lk t v with
 | none=>putT t v ans
 | some old=>if befL ans old=true then putT t v ans else t
theorem lk_pos {p:Way×List Int} {t:Tw} {v:Way} (e:p.1=v):lk (p::t) v=some p.2:=by simp [lk,List.find?_cons,e]
theorem lk_neg {p:Way×List Int} {t:Tw} {v:Way} (e:¬ p.1=v):lk (p::t) v=lk t v:=by simp [lk,List.find?_cons,e]
theorem len_putT (t:Tw) (v:Way) (ans:List Int):(putT t v ans).length≤t.length + 1:=by
 unfold putT
 split
 ·rw [List.length_map];omega
 ·simp
theorem len_keepT (t:Tw) (v:Way) (ans:List Int):(keepT t v ans).length≤t.length + 1:=by
 have:=len_putT t v ans
 unfold keepT
 split
 ·exact this
 ·split
  ·exact this
  ·omega
def TbR (K:PySem.W.Frag) (N H:Hp):List FcW.Ent→Tw→Prop:=Paired fun x p=>x.1=wk p.1∧∃ a,x.2.2=.ref a∧H a=some (.lst (p.2.map V.int))∧N a=none
theorem tbr_mono {K:PySem.W.Frag} {N H H':Hp} {xs:List FcW.Ent} {t:Tw} (h:TbR K N H xs t) (e:∀ c l,H c=some (.lst l)→H' c=some (.lst l)):TbR K N H' xs t :=
 L2.Paired.mapP h fun _ _ z=>⟨z.1,let ⟨a,e1,e2,e3⟩:=z.2;⟨a,e1,e _ _ e2,e3⟩⟩
theorem tbr_valN {K:PySem.W.Frag} {N H:Hp} {xs:List FcW.Ent} {t:Tw} (h:TbR K N H xs t) (v:Way) :
  (valV (FcW.kvs xs) (wk v)=none∧lk t v=none)∨∃ c old,valV (FcW.kvs xs) (wk v)=some (.ref c)∧lk t v=some old∧H c=some (.lst (List.map V.int old))∧N c=none:=by
 unfold TbR at h
 induction h with
 | nil=>exact .inl ⟨rfl,rfl⟩
 | @cons x p xs t z r ih =>
  obtain ⟨z1,a,z2,z3⟩:=z
  by_cases e:p.1=v
  ·refine .inr ⟨a,p.2,?_,lk_pos e,z3⟩
   rw [show FcW.kvs (x::xs)=(x.1,x.2.2)::FcW.kvs xs from rfl,valV_pos (p:=(x.1,x.2.2)) (by show x.1=wk v;rw [z1,e]),z2]
  ·rw [lk_neg e,show FcW.kvs (x::xs)=(x.1,x.2.2)::FcW.kvs xs from rfl,valV_neg (p:=(x.1,x.2.2)) (by show ¬ x.1=wk v;rw [z1];exact fun y=>e (wk_inj y))]
   exact ih
theorem tbr_val {K:PySem.W.Frag} {N H:Hp} {xs:List FcW.Ent} {t:Tw} (h:TbR K N H xs t) (v:Way) :
  (valV (FcW.kvs xs) (wk v)=none∧lk t v=none)∨∃ c old,valV (FcW.kvs xs) (wk v)=some (.ref c)∧lk t v=some old∧H c=some (.lst (List.map V.int old)):=by
 rcases tbr_valN h v with z | ⟨c,old,h1,h2,h3,_⟩
 ·exact .inl z
 ·exact .inr ⟨c,old,h1,h2,h3⟩
theorem tbr_put {K:PySem.W.Frag} {N H:Hp} {xs:List FcW.Ent} {t:Tw} (h:TbR K N H xs t) (v:Way) (b:Addr) {a:Addr} {ans:List Int} (ha:H a=some (.lst (ans.map V.int))) (na:N a=none):TbR K N H (FcW.putW xs (wk v) b (.ref a)) (putT t v ans):=by
 have e:(valV (FcW.kvs xs) (wk v)).isSome=(lk t v).isSome:=by
  rcases tbr_val h v with ⟨e1,e2⟩ | ⟨c,old,e1,e2,_⟩<;>rw [e1,e2]<;>rfl
 unfold FcW.putW putT
 rw [e]
 by_cases q:(lk t v).isSome=true
 ·rw [if_pos q,if_pos q]
  clear e q
  unfold TbR at h ⊢
  induction h with
  | nil=>exact .nil
  | @cons x p xs t z r ih =>
   rw [List.map_cons,List.map_cons]
   refine .cons ?_ ih
   by_cases e:p.1=v
   ·rw [if_pos e,if_pos (by rw [z.1,e])]
    exact ⟨z.1,a,rfl,ha,na⟩
   ·rw [if_neg e,if_neg (by rw [z.1];exact fun y=>e (wk_inj y))]
    exact z
 ·rw [if_neg q,if_neg q]
  exact Paired.snoc h ⟨rfl,a,rfl,ha,na⟩
def Wt (P:Program) (w:World) (K:PySem.W.Frag) (N H:Hp) (d:Addr) (t:Tw):Prop:=∃ o xs,FcW.WD P w K H d o xs∧TbR K N H xs t
def ExB (d:Addr) (H H':Hp):Prop:=∀ c o,c≠d→H c=some o→H' c=some o
theorem sqT_upd {P:Program} {w:World} {K:PySem.W.Frag} {H:Hp} {d c:Addr} {o o':Obj} {xs xs':List FcW.Ent} {l:List V} (e:H d=some (FcW.dW P w d o xs)) (h:SqT K H c l):SqT K (upd H d (FcW.dW P w d o' xs')) c l:=by
 rcases h with h | h
 ·refine .inl ?_
  rcases h with h | ⟨ob,h⟩
  ·exact .inl (by rw [upd_ne (ne_of h e (fun z=>nomatch z))];exact h)
  ·exact .inr ⟨ob,by rw [upd_ne (ne_of h e (fun z=>nomatch z))];exact h⟩
 ·exact .inr h
theorem lst_upd {P:Program} {w:World} {H:Hp} {d c:Addr} {o o':Obj} {xs xs':List FcW.Ent} {l:List V} (e:H d=some (FcW.dW P w d o xs)) (h:H c=some (.lst l)):upd H d (FcW.dW P w d o' xs') c=some (.lst l):=by
 rw [upd_ne (ne_of h e (fun z=>nomatch z))];exact h
theorem wd_ex {P:Program} {w:World} {K:PySem.W.Frag} {H H':Hp} {d:Addr} {o:Obj} {xs:List FcW.Ent} (e:Ex H H') (D:FcW.WD P w K H d o xs):FcW.WD P w K H' d o xs:=⟨e _ _ D.1,fun x hx=>Evl.ex_t e (D.2 x hx)⟩
theorem wt_ex {P:Program} {w:World} {K:PySem.W.Frag} {N H H':Hp} {d:Addr} {t:Tw} (e:Ex H H') (D:Wt P w K N H d t):Wt P w K N H' d t:=let ⟨o,xs,h1,h2⟩:=D;⟨o,xs,wd_ex e h1,tbr_mono h2 fun _ _ z=>e _ _ z⟩
theorem wt_put {P:Program} {w:World} {K:PySem.W.Frag} {N H:Hp} {d b a:Addr} {o o':Obj} {xs:List FcW.Ent} {t:Tw} {v:Way} {ans:List Int} (D:FcW.WD P w K H d o xs) (R:TbR K N H xs t) (hb:SqT K H b ((wk v).map kV)) (ha:H a=some (.lst (ans.map V.int))) (na:N a=none) :
  Wt P w K N (upd H d (FcW.dW P w d o' (FcW.putW xs (wk v) b (.ref a)))) d (putT t v ans)∧ExB d H (upd H d (FcW.dW P w d o' (FcW.putW xs (wk v) b (.ref a)))) :=
 ⟨⟨o',_,⟨upd_same,FcW.keysT_put D.2 hb fun _ _ z=>sqT_upd D.1 z⟩,tbr_mono (tbr_put R v b ha na) fun _ _ z=>lst_upd D.1 z⟩,fun c u hc e=>by rw [upd_ne hc];exact e⟩
end
section
open FcM (Way)
theorem eqv_ints:∀ xs ys:List Int,PyData.eqvAll (xs.map .int) (ys.map .int)=decide (xs=ys)
 | [],[]=>by simp [PyData.eqvAll]
 | [],_::_=>by simp [PyData.eqvAll]
 | _::_,[]=>by simp [PyData.eqvAll]
 | x::xs,y::ys=>by
  rw [List.map_cons,List.map_cons,PyData.eqvAll,eqv_ints xs ys]
  by_cases e:x=y
  ·subst e;simp [PyData.eqv,beq_self_eq_true]
  ·simp [PyData.eqv,e]
theorem lt_pairL (xs ys:List Int):PySem.W.dataLt (.tuple [.int (xs.length:Int),.list (xs.map .int)]) (.tuple [.int (ys.length:Int),.list (ys.map .int)])=befL xs ys:=by
 rw [PySem.W.dataLt_pair rfl (by rw [PySem.W.alike];exact PySem.W.alike_ints xs ys)]
 unfold befL
 have e1:PyData.eqv (.int (xs.length:Int)) (.int (ys.length:Int))=decide (xs.length=ys.length):=by
  by_cases e:xs.length=ys.length
  ·rw [e];simp [PyData.eqv]
  ·have:¬ (xs.length:Int)=(ys.length:Int):=by omega
   simp [PyData.eqv,e,this]
 rw [e1]
 by_cases e:xs.length=ys.length
 ·rw [if_pos (by simp [e])]
  have e2:PyData.eqv (.list (xs.map .int)) (.list (ys.map .int))=decide (xs=ys):=by rw [PyData.eqv,eqv_ints]
  rw [e2]
  by_cases z:xs=ys
  ·subst z;simp
  ·rw [if_neg (by simp [z]),PySem.W.dataLt_list]
   have:=PySem.W.dataLt_ints xs ys
   unfold PySem.W.rowLt at this
   rw [this]
   simp [e]
 ·rw [if_neg (by simp [e]),PySem.W.dataLt_int]
  simp [e]
def sp_first (K:PySem.W.Frag):Sp:=fun vs H Q _=>∃ (a b:Addr) (xs ys:List Int),vs=[.ref a,.ref b]∧SqL K H a (xs.map V.int)∧SqL K H b (ys.map V.int)∧∀ H',Ex H H'→Q (.bl (befL xs ys)) H'
theorem dpA_ints {K:PySem.W.Frag} {H:Hp}:∀ l:List Int,DpAll K H (l.map V.int) (l.map PyData.int)
 | []=>.nil
 | _::l=>.cons (.int _) (dpA_ints l)
theorem depA_ints:∀ l:List Int,PyData.depthAll (l.map PyData.int)=0
 | []=>rfl
 | _::l=>by have:=depA_ints l;simp [PyData.depthAll,PyData.depth] at this ⊢;exact this
def sp_keep (P:Program) (w:World) (K:PySem.W.Frag):Sp:=fun vs H Q _=>∃ (N:Hp) (d b a:Addr) (t:Tw) (v:Way) (ans:List Int),vs=[.ref d,.ref b,.ref a]∧N a=none∧Wt P w K N H d t∧SqT K H b ((wk v).map kV)∧H a=some (.lst (ans.map V.int))∧t.length≤2000 ∧
 ∀ H',ExB d H H'→Wt P w K N H' d (keepT t v ans)→Q .non H'
def shortT (t:Tw):Option (List Int):=t.foldl (fun b p=>match b with | none=>some p.2 | some y=>if befL p.2 y=true then some p.2 else some y) none
def AnsV (K:PySem.W.Frag) (H:Hp) (v:V):Option (List Int)→Prop
 | none=>v=.non
 | some l=>∃ a,v=.ref a∧H a=some (.lst (l.map V.int))
def sp_shortest (P:Program) (w:World) (K:PySem.W.Frag):Sp:=fun vs H Q _=>∃ (N:Hp) (d:Addr) (t:Tw),vs=[.ref d]∧Wt P w K N H d t∧∀ H' v,Ex H H'→AnsV K H' v (shortT t)→Q v H'
theorem exB_of {d:Addr} {H H':Hp} (e:Ex H H'):ExB d H H':=fun c o _ h=>e c o h
theorem exB_trans {d:Addr} {H H' H'':Hp} (e:ExB d H H') (e':ExB d H' H''):ExB d H H'':=fun c o hc h=>e' c o hc (e c o hc h)
section
variable {P:Program} {w:World} {h:Heap} {K:PySem.W.Frag} {mg:Str→Option Value} {base:Heap}
abbrev N_comes_first:List Str:=["one","other"]
theorem sc_comes_first:FnScope N_comes_first ["one","other"] (defScope sd_comes_first):=⟨rfl,rfl,rfl,by decide +kernel,rfl,by decide +kernel,by decide +kernel⟩
theorem ok_comes_first (T:Tx w h K mg):Ok P w K mg base 1 ("comes_first",none) ["one","other"] (sp_first K):=by
 obtain ⟨fd,F⟩:=F_comes_first T
 refine ⟨fd,?_,F.bindsN (fun _ _ _ _ _ _ us hl=>match us,hl with | [_,_],_=>rfl),F.kp⟩
 refine F.ok sc_comes_first (fun vs H Q E h=>?_) (fun cdv A outer s H vs Q E hr h=>?_)
 ·obtain ⟨a,b,xs,ys,rfl,ha,hb,q⟩:=h
  rfl
 ·obtain ⟨a,b,xs,ys,rfl,ha,hb,q⟩:=h
  refine ⟨_,PSs.nox (pss_one (ps_ret (pe_cmpR (FcW.op_ltM hr) (pe_tup (pa_cons (pe_callB call_len_seq rfl (fr_len T) b_len (pa_cons (pv 0) pa_nil)) (pa_cons (pv 0) pa_nil))) (pe_tup (pa_cons (pe_callB call_len_seq rfl (fr_len T) b_len (pa_cons (pv 1) pa_nil)) (pa_cons (pv 1) pa_nil))) (nomark _)))),?_⟩
  refine ⟨_,rfl,a,_,rfl,.inl ha,_,rfl,sz (by simp),?_⟩
  intro p1 n1
  generalize e1:upd _ p1 _=H1
  obtain ⟨x1,s1,o1⟩:=new_of e1 n1
  clear e1
  refine ⟨_,rfl,b,_,rfl,.inl (Evl.ex_l x1 hb),_,rfl,sz (by simp),?_⟩
  intro p2 n2
  generalize e2:upd _ p2 _=H2
  obtain ⟨x2,s2,o2⟩:=new_of e2 n2
  clear e2
  refine ⟨_,_,.tup (SqT.of (x2 _ _ s1)) (.cons (.int _) (.cons (.lst (Evl.ex_l x2 (Evl.ex_l x1 ha)) (dpA_ints xs)) .nil)),.tup (SqT.of s2) (.cons (.int _) (.cons (.lst (Evl.ex_l x2 (Evl.ex_l x1 hb)) (dpA_ints ys)) .nil)),?_,(fun z=>nomatch z),?_,?_⟩
  ·simp only [PySem.W.alike,PySem.W.alikeAll,PySem.W.alike_ints,Bool.and_self,Bool.and_true]
  ·simp only [PyData.depth,PyData.depthAll,depA_ints];decide
  ·rw [List.length_map,List.length_map,lt_pairL]
   exact q _ (Evl.Ex.trans x1 x2)
abbrev N_keep_first:List Str:=["found","way","answers"]
theorem sc_keep_first:FnScope N_keep_first ["found","way","answers"] (defScope sd_keep_first):=⟨rfl,rfl,rfl,by decide +kernel,rfl,by decide +kernel,by decide +kernel⟩
theorem ok_keep_first (T:Tx w h K mg):Ok P w K mg base 2 ("keep_first",none) ["found","way","answers"] (sp_keep P w K):=by
 obtain ⟨fd,F⟩:=F_keep_first T
 refine ⟨fd,?_,F.bindsN (fun _ _ _ _ _ _ us hl=>match us,hl with | [_,_,_],_=>rfl),F.kp⟩
 obtain ⟨fd_comes_first,G_comes_first,bi_comes_first,kp_comes_first⟩:=ok_comes_first (P:=P) (base:=base) T
 refine F.ok sc_keep_first (fun vs H Q E h=>?_) (fun cdv A outer s H vs Q E hr h=>?_)
 ·obtain ⟨N,d,b,a,t,v,ans,rfl,na,⟨o,xs,D,R⟩,hb,ha,hl0,q⟩:=h
  rfl
 ·obtain ⟨N,d,b,a,t,v,ans,rfl,na,⟨o,xs,D,R⟩,hb,ha,hl0,q⟩:=h
  refine ⟨_,PSs.nox (pss_one (ps_if (PW.pt (pw_or (pt_cmpR (FcW.op_notinW (hu_of hr)) (pv 1) (pv 0) (by rfl)) (pw_or1 (pt_val (pe_call G_comes_first (hr.mono (by decide)) rfl (g_comes_first T) kp_comes_first bi_comes_first .nil passF (pa_cons (pv 2) (pa_cons (pe_ix (FcW.ix_way (hu_of hr)) (pv 0) (pv 1) (fun _ _=>rfl)) pa_nil))))))) (pss_one (ps_asg (pv 2) (pg_sub (pv 0) (pv 1) (FcW.set_way (hu_of hr))))) pss_nil)),?_⟩
  have hl:xs.length<sizeLine:=by have:=Paired.length R;rw [sizeLine_eq];omega
  rcases tbr_val R v with ⟨hval,e2⟩ | ⟨c,old,hval,e2,hold⟩
  ·refine ⟨_,rfl,_,rfl,d,b,o,xs,wk v,rfl,rfl,D,hb,?_⟩
   rw [hval]
   refine ⟨_,rfl,itT rfl ?_⟩
   refine ⟨_,rfl,_,rfl,_,rfl,d,b,o,xs,wk v,rfl,rfl,D,hb,hl,fun o'=>?_⟩
   obtain ⟨z1,z2⟩:=wt_put (o':=o') D R hb ha na
   refine q _ z2 ?_
   unfold keepT
   rw [e2]
   exact z1
  ·refine ⟨_,rfl,_,rfl,d,b,o,xs,wk v,rfl,rfl,D,hb,?_⟩
   rw [hval]
   refine ⟨_,rfl,itF rfl ?_⟩
   refine ⟨_,rfl,_,rfl,_,rfl,d,b,o,xs,wk v,_,rfl,rfl,D,hb,hval,a,c,ans,old,rfl,SqL.of ha,SqL.of hold,fun H1 x1=>⟨_,rfl,ite_of (fun h1=>?_) (fun h1=>?_)⟩⟩
   ·refine ⟨_,rfl,_,rfl,_,rfl,d,b,o,xs,wk v,rfl,rfl,wd_ex x1 D,Evl.ex_t x1 hb,hl,fun o'=>?_⟩
    obtain ⟨z1,z2⟩:=wt_put (o':=o') (wd_ex x1 D) (tbr_mono R fun _ _ z=>x1 _ _ z) (Evl.ex_t x1 hb) (x1 _ _ ha) na
    refine q _ (exB_trans (exB_of x1) z2) ?_
    unfold keepT
    rw [e2]
    show Wt P w K N _ d (if befL ans old=true then _ else _)
    rw [if_pos h1]
    exact z1
   ·refine q _ (exB_of x1) ?_
    unfold keepT
    rw [e2]
    show Wt P w K N _ d (if befL ans old=true then _ else _)
    rw [if_neg (by rw [h1];exact Bool.false_ne_true)]
    exact wt_ex x1 ⟨o,xs,D,R⟩
abbrev N_first_shortest:List Str:=["found","best","answers"]
theorem sc_first_shortest:FnScope N_first_shortest ["found"] (defScope sd_first_shortest):=⟨rfl,rfl,rfl,by decide +kernel,rfl,by decide +kernel,by decide +kernel⟩
theorem ok_first_shortest (T:Tx w h K mg):Ok P w K mg base 2 ("first_shortest",none) ["found"] (sp_shortest P w K):=by
 obtain ⟨fd,F⟩:=F_first_shortest T
 refine ⟨fd,?_,F.bindsN (fun _ _ _ _ _ _ us hl=>match us,hl with | [_],_=>rfl),F.kp⟩
 obtain ⟨fd_comes_first,G_comes_first,bi_comes_first,kp_comes_first⟩:=ok_comes_first (P:=P) (base:=base) T
 refine F.ok sc_first_shortest (fun vs H Q E h=>?_) (fun cdv A outer s H vs Q E hr h=>?_)
 ·obtain ⟨N,d,t,rfl,⟨o,xs,D,R⟩,q⟩:=h
  rfl
 ·obtain ⟨N,d,t,rfl,⟨o,xs,D,R⟩,q⟩:=h
  refine ⟨_,PSs.nox (pss_cons (ps_set (i:=1) sc_first_shortest.nd rfl (Or.inl rfl) pe_non) (pss_cons (ps_for PassesOwn.never rfl (FcW.pi_wvals (pv 0)) (pg_name (i:=2) sc_first_shortest.nd rfl (Or.inl rfl)) (pss_one (ps_if (PW.pt (pw_or (pt_cmpR op_isN (pv 1) pe_non (nomark _)) (pw_or1 (pt_val (pe_call G_comes_first (hr.mono (by decide)) rfl (g_comes_first T) kp_comes_first bi_comes_first .nil passF (pa_cons (pv 2) (pa_cons (pv 1) pa_nil))))))) (pss_one (ps_set (i:=1) sc_first_shortest.nd rfl (Or.inl rfl) (pv 2))) pss_nil))) (pss_one (ps_ret (pv 1))))),?_⟩
  refine ⟨_,rfl,d,o,xs,rfl,D.1,for_it FcW.walk_wvals (fun i σ' H'=>∃ v o2,Ex H H'∧AnsV K H' v (shortT (t.take i))∧σ'=[some (.ref d),some v,o2]) ?_ ?_ ?_ ?_⟩
  ·exact ⟨_,_,Evl.Ex.refl _,rfl,rfl⟩
  ·rintro i σ' H' _ ⟨v,o2,x1,_,rfl⟩
   exact x1 _ _ D.1
  ·rintro i v σ' H1 H2 hi ⟨b,o2,x1,hv,rfl⟩ ⟨rfl,e,he,rfl⟩
   obtain ⟨p,hp,e1,a,e2,e3,_⟩:=paired_get R he
   have ts:t.take (i + 1)=t.take i++[p]:=by rw [List.take_add_one,hp];rfl
   have step:shortT (t.take (i + 1))=match shortT (t.take i) with | none=>some p.2 | some y=>if befL p.2 y=true then some p.2 else some y:=by
    unfold shortT
    rw [ts,List.foldl_append]
    rfl
   have hs:=x1 _ _ e3
   rw [e2]
   cases hb:shortT (t.take i) with
   | none =>
    rw [hb] at hv step
    cases hv
    refine ⟨_,rfl,rfl,_,rfl,itT rfl ⟨_,rfl,.ref a,_,x1,?_,rfl⟩⟩
    rw [step]
    exact ⟨a,rfl,hs⟩
   | some y =>
    rw [hb] at hv step
    obtain ⟨c,rfl,hc⟩:=hv
    refine ⟨_,rfl,rfl,_,rfl,itF rfl ⟨_,rfl,_,rfl,a,c,p.2,y,rfl,SqL.of hs,SqL.of hc,fun H3 x3=>⟨_,rfl,ite_of (fun h1=>?_) (fun h1=>?_)⟩⟩⟩
    ·refine ⟨_,rfl,.ref a,_,Evl.Ex.trans x1 x3,?_,rfl⟩
     rw [step]
     show AnsV K H3 _ (if befL p.2 y=true then _ else _)
     rw [if_pos h1]
     exact ⟨a,rfl,x3 _ _ hs⟩
    ·refine ⟨.ref c,_,Evl.Ex.trans x1 x3,?_,rfl⟩
     rw [step]
     show AnsV K H3 _ (if befL p.2 y=true then _ else _)
     rw [if_neg (by rw [h1];exact Bool.false_ne_true)]
     exact ⟨c,rfl,x3 _ _ hc⟩
  ·rintro σ' H' ⟨b,o2,x1,hv,rfl⟩
   have hl:t.take xs.length=t:=by rw [Paired.length R,List.take_length]
   rw [hl] at hv
   exact ⟨_,rfl,q _ _ x1 hv⟩
end
end
end Fc
set_option maxRecDepth 100000
set_option maxHeartbeats 4000000
namespace FcM
section
variable {t:Tab} {lp:Nat→Nat} {bits:List Bool} {B:Nat}
theorem bit_lt {u:Nat} {x:Bool} (h:bits[u]?=some x):u + 1≤bits.length:=(List.getElem?_eq_some_iff.mp h).1
theorem from_wait {n:Nat} {P:Pd} {u:Nat} {v:List Nat} (he:Ent t 0 n n) (ha:asks (t.nd n)=true) (hu:bits[u]?=none) (hB:P.length≤B):From t bits B n P u v ⟨.inl n,P,u,v⟩:=⟨0,n,0,he,.stop (.wait ha hu) hB⟩
theorem Ent.self {k n e:Nat} (h:Ent t k n e) (h1:∀ l,t.nd n≠.seq l) (h2:∀ a b,t.nd n≠.tr a b) (h3:∀ a b,t.nd n≠.fin a b):e=n:=by
 cases h with
 | here=>rfl
 | seq h _=>exact absurd h (h1 _)
 | tr h _=>exact absurd h (h2 _ _)
 | fin h _=>exact absurd h (h3 _ _)
theorem seqF_stop {go:Nat→Nat→List Nat→Rs} {w:Wt} {u:Nat} {v:List Nat} (hw:w≠.inr .nrm):∀ cs:List Nat,seqF go cs (w,u,v)=(w,u,v)
 | []=>rfl
 | c::cs=>by
  show (if w=.inr .nrm then _ else seqF go cs (w,u,v))=_
  rw [if_neg hw,seqF_stop hw cs]
theorem dec_ok {l:Nat} {w:Way} (h:WOk (l + 1) w) (ha:again w=false):WOk l (decW w):=by
 cases w with
 | nrm=>trivial
 | ret=>trivial
 | rai=>trivial
 | brk k =>
  show WOk l (if k=1 then .nrm else .brk (k - 1))
  by_cases hk:k=1
  ·rw [if_pos hk];trivial
  ·rw [if_neg hk]
   have h1:1≤k∧k≤l + 1:=h
   show 1≤k - 1∧k - 1≤l
   omega
 | cnt k =>
  have h1:1≤k∧k≤l + 1:=h
  have hk:k≠1:=fun z=>by subst z;simp [again] at ha
  show 1≤k - 1∧k - 1≤l
  omega
theorem loop_good (W:t.WF lp) {n a:Nat} (hn:n<t.len) (hd:t.nd n=.whl a) {body:Nat→List Nat→Rs} {P:Pd} (hB:P.length≤B) (hb:∀ u v,u≤bits.length→Good t bits B lp a P u v (body u v)) :
  ∀ f u v,bits.length - u<f→u≤bits.length→Good t bits B lp n P u v (loopF bits n P body f u v):=by
 have he:Ent t 0 n n:=.here (fun l=>by rw [hd];exact fun z=>nomatch z) (fun a b=>by rw [hd];exact fun z=>nomatch z) (fun a b=>by rw [hd];exact fun z=>nomatch z)
 have ha:asks (t.nd n)=true:=by rw [hd];rfl
 obtain ⟨c1,c2,c3,c4⟩:=W.dn n hn a (by rw [hd];exact List.mem_singleton.mpr rfl)
 rw [hd] at c4
 have c4:lp a=lp n + 1:=c4
 intro f
 induction f with
 | zero=>exact fun u v h=>absurd h (Nat.not_lt_zero _)
 | succ f ih =>
  intro u v hf hu
  cases hx:bits[u]? with
  | none =>
   have e:loopF bits n P body (f + 1) u v=(.inl (n,P),u,v):=by simp only [loopF,hx]
   rw [e]
   exact ⟨Nat.le_refl _,hu,_,from_wait he ha hx hB,rfl,rfl,rfl,rfl⟩
  | some x =>
   have hl:=bit_lt hx
   cases x with
   | false =>
    have e:loopF bits n P body (f + 1) u v=(.inr .nrm,u + 1,v++[n]):=by simp only [loopF,hx]
    rw [e]
    refine ⟨by omega,hl,trivial,fun cf h=>?_⟩
    obtain ⟨r,P',N,l,re⟩:=h
    exact ⟨0,n,N + 1,he,.step (.ask ha hx (.whlF hd rfl l)) hB re⟩
   | true =>
    have g:=hb (u + 1) (v++[n]) hl
    have up:∀ cf,From t bits B a P (u + 1) (v++[n]) cf→From t bits B n P u v cf:=fun cf h=>by
     obtain ⟨k,e,N,en,re⟩:=h
     exact ⟨0,n,N + 1,he,.step (.ask ha hx (.whlT hd rfl en)) hB re⟩
    rcases hr:body (u + 1) (v++[n]) with ⟨w,u',v'⟩
    rw [hr] at g
    cases w with
    | inl x =>
     have e:loopF bits n P body (f + 1) u v=(.inl x,u',v'):=by simp only [loopF,hx,hr]
     rw [e]
     obtain ⟨g1,g2,cf,g3,g4⟩:=g
     exact ⟨by omega,g2,cf,up cf g3,g4⟩
    | inr w =>
     obtain ⟨g1,g2,g3,g4⟩:=g
     by_cases hw:again w=true
     ·have e:loopF bits n P body (f + 1) u v=loopF bits n P body f u' v':=by simp only [loopF,hx,hr,hw,if_true]
      rw [e]
      have g:=ih u' v' (by omega) g2
      have go:∀ cf,From t bits B n P u' v' cf→From t bits B n P u v cf:=fun cf h=>by
       obtain ⟨k,e',N,en,re⟩:=h
       have z:=en.self (fun l=>by rw [hd];exact fun z=>nomatch z) (fun a b=>by rw [hd];exact fun z=>nomatch z) (fun a b=>by rw [hd];exact fun z=>nomatch z)
       subst z
       exact up cf (g4 cf ⟨_,_,_,.whlA c3 hd hw,re⟩)
      rcases hr2:loopF bits n P body f u' v' with ⟨w2,u2,v2⟩
      rw [hr2] at g
      cases w2 with
      | inl x =>
       obtain ⟨k1,k2,cf,k3,k4⟩:=g
       exact ⟨by omega,k2,cf,go cf k3,k4⟩
      | inr w2 =>
       obtain ⟨k1,k2,k3,k4⟩:=g
       exact ⟨by omega,k2,k3,fun cf h=>go cf (k4 cf h)⟩
     ·have hw:again w=false:=by simpa using hw
      have e:loopF bits n P body (f + 1) u v=(.inr (decW w),u',v'):=by simp [loopF,hx,hr,hw]
      rw [e]
      refine ⟨by omega,g2,dec_ok (by rw [c4] at g3;exact g3) hw,fun cf h=>?_⟩
      obtain ⟨r,P',N,l,re⟩:=h
      exact up cf (g4 cf ⟨r,P',N,.whlU c3 hd hw l,re⟩)
theorem seq_good (W:t.WF lp) {n:Nat} {l:List Nat} (hn:n<t.len) (hd:t.nd n=.seq l) {go:Nat→Nat→List Nat→Rs} {P:Pd} (hb:∀ c∈l,∀ u v,u≤bits.length→Good t bits B lp c P u v (go c u v)) :
  ∀ (cs l1:List Nat) (c u:Nat) (v:List Nat),l=l1++c::cs→u≤bits.length→(match seqF go (c::cs) (.inr .nrm,u,v) with
   | (.inr w,u',v')=>u≤u'∧u'≤bits.length∧WOk (lp n) w∧∀ cf,After t bits B n w P u' v' cf→From t bits B c P u v cf
   | (.inl x,u',v')=>u≤u'∧u'≤bits.length∧∃ cf,From t bits B c P u v cf∧cf.vs=v'∧cf.us=u'∧cf.at_=.inl x.1∧cf.pd=x.2):=by
 intro cs
 induction cs with
 | nil =>
  intro l1 c u v hl hu
  have hc:c∈l:=by rw [hl];simp
  obtain ⟨c1,c2,c3,c4⟩:=W.dn n hn c (by rw [hd];exact hc)
  rw [hd] at c4
  have c4:lp c=lp n:=c4
  have g:=hb c hc u v hu
  have e:seqF go [c] (.inr .nrm,u,v)=go c u v:=by simp [seqF]
  rw [e]
  rcases hr:go c u v with ⟨w,u',v'⟩
  rw [hr] at g
  cases w with
  | inl x=>exact g
  | inr w =>
   obtain ⟨g1,g2,g3,g4⟩:=g
   refine ⟨g1,g2,by rw [← c4];exact g3,fun cf h=>?_⟩
   obtain ⟨r,P',N,lv,re⟩:=h
   exact g4 cf ⟨r,P',N,.seqU c3 hd (.inr (by rw [hl];simp)) lv,re⟩
 | cons m cs ih =>
  intro l1 c u v hl hu
  have hc:c∈l:=by rw [hl];simp
  obtain ⟨c1,c2,c3,c4⟩:=W.dn n hn c (by rw [hd];exact hc)
  rw [hd] at c4
  have c4:lp c=lp n:=c4
  have g:=hb c hc u v hu
  have e:seqF go (c::m::cs) (.inr .nrm,u,v)=seqF go (m::cs) (go c u v):=by simp [seqF]
  rw [e]
  rcases hr:go c u v with ⟨w,u',v'⟩
  rw [hr] at g
  cases w with
  | inl x =>
   rw [seqF_stop (w:=.inl x) (fun z=>nomatch z)]
   exact g
  | inr w =>
   obtain ⟨g1,g2,g3,g4⟩:=g
   by_cases hw:w=.nrm
   ·subst hw
    have i:=ih (l1++[c]) m u' v' (by rw [hl];simp) g2
    rcases hr2:seqF go (m::cs) (.inr .nrm,u',v') with ⟨w2,u2,v2⟩
    rw [hr2] at i
    have go':∀ cf,From t bits B m P u' v' cf→From t bits B c P u v cf:=fun cf h=>by
     obtain ⟨k,e',N,en,re⟩:=h
     exact g4 cf ⟨_,_,_,.seqN c3 hd hl en,re⟩
    cases w2 with
    | inl x =>
     obtain ⟨k1,k2,cf,k3,k4⟩:=i
     exact ⟨by omega,k2,cf,go' cf k3,k4⟩
    | inr w2 =>
     obtain ⟨k1,k2,k3,k4⟩:=i
     exact ⟨by omega,k2,k3,fun cf h=>go' cf (k4 cf h)⟩
   ·rw [seqF_stop (fun z=>hw (Sum.inr.inj z))]
    refine ⟨g1,g2,by rw [← c4];exact g3,fun cf h=>?_⟩
    obtain ⟨r,P',N,lv,re⟩:=h
    exact g4 cf ⟨r,P',N,.seqU c3 hd (.inl hw) lv,re⟩
theorem quiet_good (W:t.WF lp) {n:Nat} (hn:n<t.len) (hq:quiet (t.nd n)) {P:Pd} {u:Nat} {v:List Nat} (hB:P.length≤B) (hu:u≤bits.length):Good t bits B lp n P u v (.inr (wayN (t.nd n)),u,v++[n]):=by
 have he:Ent t 0 n n:=.here (fun l e=>by rw [e] at hq;exact hq) (fun a b e=>by rw [e] at hq;exact hq) (fun a b e=>by rw [e] at hq;exact hq)
 have ha:asks (t.nd n)=false:=by
  cases e:t.nd n<;>rw [e] at hq<;>first | rfl | exact hq.elim
 refine ⟨Nat.le_refl _,hu,?_,fun cf h=>?_⟩
 ·cases e:t.nd n with
  | brk k=>exact W.bk n k hn e
  | cnt k=>exact W.ct n k hn e
  | do_=>trivial
  | ret=>trivial
  | rai=>trivial
  | call=>trivial
  | iff a b=>trivial
  | whl a=>trivial
  | seq l=>trivial
  | tr a b=>trivial
  | fin a b=>trivial
 ·obtain ⟨r,P',N,lv,re⟩:=h
  exact ⟨0,n,N + 1,he,.step (.on ha (.quiet hq lv)) hB re⟩
theorem main (W:t.WF lp):∀ h n,Hg t h n→n<t.len→∀ (P:Pd) (u:Nat) (v:List Nat),P.length + h≤B→u≤bits.length→Good t bits B lp n P u v (goF t bits h n P u v):=by
 intro h
 induction h with
 | zero=>exact fun n hg=>nomatch hg
 | succ h ih =>
  intro n hg hn P u v hPB hu
  have hB:P.length≤B:=by omega
  have hP:P.length + h≤B:=by omega
  cases hg with
  | mk hg =>
  have q:∀ d,t.nd n=d→quiet d→goF t bits (h + 1) n P u v=(.inr (wayN d),u,v++[n])→Good t bits B lp n P u v (goF t bits (h + 1) n P u v):=fun d e hq e2=>by
   rw [e2,← e]
   exact quiet_good W hn (by rw [e];exact hq) hB hu
  cases hd:t.nd n with
  | do_=>exact q _ hd trivial (by simp only [goF,hd])
  | ret=>exact q _ hd trivial (by simp only [goF,hd])
  | rai=>exact q _ hd trivial (by simp only [goF,hd])
  | brk k=>exact q _ hd trivial (by simp only [goF,hd])
  | cnt k=>exact q _ hd trivial (by simp only [goF,hd])
  | whl a =>
   have e:goF t bits (h + 1) n P u v=loopF bits n P (goF t bits h a P) (bits.length + 1) u v:=by simp only [goF,hd]
   rw [e]
   have ma:a∈(t.nd n).ch:=by rw [hd];exact List.mem_singleton.mpr rfl
   obtain ⟨c1,c2,c3,c4⟩:=W.dn n hn a ma
   exact loop_good W hn hd hB (fun u v hu=>ih a (hg a ma) c2 P u v hP hu) _ u v (by omega) hu
  | call =>
   have he:Ent t 0 n n:=.here (fun l=>by rw [hd];exact fun z=>nomatch z) (fun a b=>by rw [hd];exact fun z=>nomatch z) (fun a b=>by rw [hd];exact fun z=>nomatch z)
   have ha:asks (t.nd n)=true:=by rw [hd];rfl
   cases hx:bits[u]? with
   | none =>
    have e:goF t bits (h + 1) n P u v=(.inl (n,P),u,v):=by simp only [goF,hd,hx]
    rw [e]
    exact ⟨Nat.le_refl _,hu,_,from_wait he ha hx hB,rfl,rfl,rfl,rfl⟩
   | some x =>
    have e:goF t bits (h + 1) n P u v=(.inr (if x then .rai else .nrm),u + 1,v++[n]):=by simp only [goF,hd,hx]
    rw [e]
    refine ⟨by omega,bit_lt hx,by cases x<;>trivial,fun cf h=>?_⟩
    obtain ⟨r,P',N,lv,re⟩:=h
    exact ⟨0,n,N + 1,he,.step (.ask ha hx (.call hd lv)) hB re⟩
  | iff a b =>
   have he:Ent t 0 n n:=.here (fun l=>by rw [hd];exact fun z=>nomatch z) (fun a b=>by rw [hd];exact fun z=>nomatch z) (fun a b=>by rw [hd];exact fun z=>nomatch z)
   have ha:asks (t.nd n)=true:=by rw [hd];rfl
   cases hx:bits[u]? with
   | none =>
    have e:goF t bits (h + 1) n P u v=(.inl (n,P),u,v):=by simp only [goF,hd,hx]
    rw [e]
    exact ⟨Nat.le_refl _,hu,_,from_wait he ha hx hB,rfl,rfl,rfl,rfl⟩
   | some x =>
    have e:goF t bits (h + 1) n P u v=goF t bits h (if x then b else a) P (u + 1) (v++[n]):=by simp only [goF,hd,hx]
    rw [e]
    have mc:(if x then b else a)∈(t.nd n).ch:=by rw [hd];cases x<;>simp [Node.ch]
    obtain ⟨c1,c2,c3,c4⟩:=W.dn n hn _ mc
    rw [hd] at c4
    have c4:lp (if x then b else a)=lp n:=c4
    have g:=ih _ (hg _ mc) c2 P (u + 1) (v++[n]) hP (bit_lt hx)
    have up:∀ cf,From t bits B (if x then b else a) P (u + 1) (v++[n]) cf→From t bits B n P u v cf:=fun cf h=>by
     obtain ⟨k,e',N,en,re⟩:=h
     exact ⟨0,n,N + 1,he,.step (.ask ha hx (.iff hd en)) hB re⟩
    rcases hr:goF t bits h (if x then b else a) P (u + 1) (v++[n]) with ⟨w,u',v'⟩
    rw [hr] at g
    cases w with
    | inl x =>
     obtain ⟨g1,g2,cf,g3,g4⟩:=g
     exact ⟨by omega,g2,cf,up cf g3,g4⟩
    | inr w =>
     obtain ⟨g1,g2,g3,g4⟩:=g
     refine ⟨by omega,g2,by rw [← c4];exact g3,fun cf h=>?_⟩
     obtain ⟨r,P',N,lv,re⟩:=h
     exact up cf (g4 cf ⟨r,P',N,.iffU c3 hd lv,re⟩)
  | seq l =>
   have e:goF t bits (h + 1) n P u v=seqF (fun c=>goF t bits h c P) l (.inr .nrm,u,v):=by simp only [goF,hd]
   rw [e]
   have hne:=W.sq n l hn hd
   obtain ⟨c,cs,rfl⟩:∃ c cs,l=c::cs:=by
    cases l with
    | nil=>exact absurd rfl hne
    | cons c cs=>exact ⟨c,cs,rfl⟩
   have mem:∀ c'∈c::cs,c'∈(t.nd n).ch:=fun c' hc=>by rw [hd];exact hc
   have g:=seq_good W hn hd (go:=fun c=>goF t bits h c P) (P:=P) (fun c' hc u v hu=>ih c' (hg c' (mem c' hc)) (W.dn n hn c' (mem c' hc)).2.1 P u v hP hu) cs [] c u v rfl hu
   have up:∀ cf,From t bits B c P u v cf→From t bits B n P u v cf:=fun cf h=>by
    obtain ⟨k,e',N,en,re⟩:=h
    exact ⟨k + 1,e',N,.seq hd en,re⟩
   rcases hr:seqF (fun c=>goF t bits h c P) (c::cs) (.inr .nrm,u,v) with ⟨w,u',v'⟩
   rw [hr] at g
   cases w with
   | inl x =>
    obtain ⟨g1,g2,cf,g3,g4⟩:=g
    exact ⟨g1,g2,cf,up cf g3,g4⟩
   | inr w =>
    obtain ⟨g1,g2,g3,g4⟩:=g
    exact ⟨g1,g2,g3,fun cf h=>up cf (g4 cf h)⟩
  | tr a b =>
   have ma:a∈(t.nd n).ch:=by rw [hd];simp [Node.ch]
   have mb:b∈(t.nd n).ch:=by rw [hd];simp [Node.ch]
   obtain ⟨c1,c2,c3,c4⟩:=W.dn n hn a ma
   obtain ⟨b1,b2,b3,b4⟩:=W.dn n hn b mb
   rw [hd] at c4 b4
   have c4:lp a=lp n:=c4
   have b4:lp b=lp n:=b4
   have nab:b≠a:=by
    have z:=W.nd n hn
    rw [hd] at z
    simp [Node.ch] at z
    exact fun y=>z y.symm
   have g:=ih a (hg a ma) c2 P u v hP hu
   have up:∀ cf,From t bits B a P u v cf→From t bits B n P u v cf:=fun cf h=>by
    obtain ⟨k,e',N,en,re⟩:=h
    exact ⟨k + 1,e',N,.tr hd en,re⟩
   rcases hr:goF t bits h a P u v with ⟨w,u',v'⟩
   rw [hr] at g
   cases w with
   | inl x =>
    have e:goF t bits (h + 1) n P u v=(.inl x,u',v'):=by simp only [goF,hd,hr]
    rw [e]
    obtain ⟨g1,g2,cf,g3,g4⟩:=g
    exact ⟨g1,g2,cf,up cf g3,g4⟩
   | inr w =>
    obtain ⟨g1,g2,g3,g4⟩:=g
    by_cases hw:w=.rai
    ·subst hw
     have e:goF t bits (h + 1) n P u v=goF t bits h b P u' v':=by simp only [goF,hd,hr]
     rw [e]
     have i:=ih b (hg b mb) b2 P u' v' hP g2
     have go':∀ cf,From t bits B b P u' v' cf→From t bits B n P u v cf:=fun cf h=>by
      obtain ⟨k,e',N,en,re⟩:=h
      exact up cf (g4 cf ⟨_,_,_,.tryH c3 hd en,re⟩)
     rcases hr2:goF t bits h b P u' v' with ⟨w2,u2,v2⟩
     rw [hr2] at i
     cases w2 with
     | inl x =>
      obtain ⟨k1,k2,cf,k3,k4⟩:=i
      exact ⟨by omega,k2,cf,go' cf k3,k4⟩
     | inr w2 =>
      obtain ⟨k1,k2,k3,k4⟩:=i
      refine ⟨by omega,k2,by rw [← b4];exact k3,fun cf h=>?_⟩
      obtain ⟨r,P',N,lv,re⟩:=h
      exact go' cf (k4 cf ⟨r,P',N,.tryU b3 hd (.inr nab) lv,re⟩)
    ·have e:goF t bits (h + 1) n P u v=(.inr w,u',v'):=by
      simp only [goF,hd,hr]
      cases w<;>first | rfl | exact absurd rfl hw
     rw [e]
     refine ⟨g1,g2,by rw [← c4];exact g3,fun cf h=>?_⟩
     obtain ⟨r,P',N,lv,re⟩:=h
     exact up cf (g4 cf ⟨r,P',N,.tryU c3 hd (.inl hw) lv,re⟩)
  | fin a b =>
   have ma:a∈(t.nd n).ch:=by rw [hd];simp [Node.ch]
   have mb:b∈(t.nd n).ch:=by rw [hd];simp [Node.ch]
   obtain ⟨c1,c2,c3,c4⟩:=W.dn n hn a ma
   obtain ⟨b1,b2,b3,b4⟩:=W.dn n hn b mb
   rw [hd] at c4 b4
   have c4:lp a=lp n:=c4
   have b4:lp b=lp n:=b4
   have nab:b≠a:=by
    have z:=W.nd n hn
    rw [hd] at z
    simp [Node.ch] at z
    exact fun y=>z y.symm
   have g:=ih a (hg a ma) c2 P u v hP hu
   have up:∀ cf,From t bits B a P u v cf→From t bits B n P u v cf:=fun cf h=>by
    obtain ⟨k,e',N,en,re⟩:=h
    exact ⟨k + 1,e',N,.fin hd en,re⟩
   rcases hr:goF t bits h a P u v with ⟨w,u',v'⟩
   rw [hr] at g
   cases w with
   | inl x =>
    have e:goF t bits (h + 1) n P u v=(.inl x,u',v'):=by simp only [goF,hd,hr]
    rw [e]
    obtain ⟨g1,g2,cf,g3,g4⟩:=g
    exact ⟨g1,g2,cf,up cf g3,g4⟩
   | inr w =>
    obtain ⟨g1,g2,g3,g4⟩:=g
    have e:goF t bits (h + 1) n P u v=finF n w (goF t bits h b (P++[(n,w)]) u' v'):=by simp only [goF,hd,hr]
    rw [e]
    have i:=ih b (hg b mb) b2 (P++[(n,w)]) u' v' (by simp;omega) g2
    have go':∀ cf,From t bits B b (P++[(n,w)]) u' v' cf→From t bits B n P u v cf:=fun cf h=>by
     obtain ⟨k,e',N,en,re⟩:=h
     exact up cf (g4 cf ⟨_,_,_,.finB c3 hd en,re⟩)
    rcases hr2:goF t bits h b (P++[(n,w)]) u' v' with ⟨w2,u2,v2⟩
    rw [hr2] at i
    cases w2 with
    | inl x =>
     obtain ⟨k1,k2,cf,k3,k4⟩:=i
     exact ⟨by omega,k2,cf,go' cf k3,k4⟩
    | inr w2 =>
     obtain ⟨k1,k2,k3,k4⟩:=i
     by_cases hw:w2=.nrm
     ·subst hw
      have e2:finF n w (.inr .nrm,u2,v2)=(.inr w,u2,v2++[n]):=by simp [finF]
      rw [e2]
      refine ⟨by omega,k2,by rw [← c4];exact g3,fun cf h=>?_⟩
      obtain ⟨r,P',N,lv,re⟩:=h
      exact go' cf (k4 cf ⟨_,_,_,.finE b3 hd nab,.step (.on (by rw [hd];rfl) (.fin hd lv)) (by simp;omega) re⟩)
     ·have e2:finF n w (.inr w2,u2,v2)=(.inr w2,u2,v2):=by simp [finF,hw]
      rw [e2]
      refine ⟨by omega,k2,by rw [← b4];exact k3,fun cf h=>?_⟩
      obtain ⟨r,P',N,lv,re⟩:=h
      exact go' cf (k4 cf ⟨r,P',N,.finO b3 hd nab hw lv,re⟩)
theorem Re.vs {N:Nat} {c d:Cfg} (h:Re t bits B N c d):c.vs.length≤d.vs.length:=by
 induction h with
 | stop=>exact Nat.le_refl _
 | step h hb r ih =>
  cases h with
  | ask _ _ _=>exact Nat.le_trans (by simp) ih
  | on _ _=>exact Nat.le_trans (by simp) ih
theorem Re.quiet {N s:Nat} {P:Pd} {u:Nat} {v:List Nat} {d:Cfg} (h:Re t bits B N ⟨.inl s,P,u,v⟩ d) (ha:asks (t.nd s)=false):∃ M r P',N=M + 1∧Dp1 t s false P r P'∧Re t bits B M ⟨r,P',u,v++[s]⟩ d:=by
 cases h with
 | stop h =>
  cases h with
  | wait h _=>rw [ha] at h;cases h
 | step h _ r =>
  cases h with
  | ask h _ _=>rw [ha] at h;cases h
  | on _ d=>exact ⟨_,_,_,rfl,d,r⟩
theorem Re.waits {N s:Nat} {P:Pd} {u:Nat} {v:List Nat} {d:Cfg} (h:Re t bits B N ⟨.inl s,P,u,v⟩ d) (ha:asks (t.nd s)=true) (hu:bits[u]?=none):d=⟨.inl s,P,u,v⟩:=by
 cases h with
 | stop h=>rfl
 | step h _ r =>
  cases h with
  | ask _ h d=>rw [hu] at h;cases h
  | on h _=>rw [ha] at h;cases h
end
end FcM
set_option maxRecDepth 100000
set_option maxHeartbeats 4000000
namespace Fc
open PySem PySem.Spec PyProof.Rows L2 FcR
open Evl (Ex)
section
open FcM (Way Node Tab)
inductive SV (l:Int):PyData→Prop
 | do_ (x:Str):SV l (.tuple [.str "do",.str x])
 | call (x:Str):SV l (.tuple [.str "call",.str x])
 | iff (x:Str) (a b:PyData):SV l (.tuple [.str "if",.str x,a,b])
 | whl (x:Str) (a:PyData):SV l (.tuple [.str "while",.str x,a])
 | seq (p:PyData) (ps:List PyData):SV l (.tuple [.str "seq",.tuple (p::ps)])
 | brk (n:Int) (h1:1≤n) (h2:n≤l):SV l (.tuple [.str "break",.int n])
 | cnt (n:Int) (h1:1≤n) (h2:n≤l):SV l (.tuple [.str "continue",.int n])
 | ret:SV l (.tuple [.str "return"])
 | rai:SV l (.tuple [.str "raise"])
 | tr (a b:PyData):SV l (.tuple [.str "try",a,b])
 | fin (a b:PyData):SV l (.tuple [.str "final",a,b])
theorem lk_mem {l:List (Str×Int)} {k:Str} {n:Int} (h:l.lookup k=some n):(k,n)∈l:=by
 induction l with
 | nil=>cases h
 | cons p l ih =>
  obtain ⟨a,b⟩:=p
  by_cases e:k == a
  ·rw [List.lookup,e] at h
   cases h
   have z:k=a:=by simpa using e
   rw [z]
   exact List.mem_cons_self
  ·have e':(k == a)=false:=by simpa using e
   rw [List.lookup,e'] at h
   exact List.mem_cons_of_mem _ (ih h)
theorem isName_str {d:PyData} (h:isName d=true):∃ x,d=.str x:=by
 cases d<;>first | exact ⟨_,rfl⟩ | cases h
theorem isNum_int {d:PyData} {a b:Int} (h:isNum a b d=true):∃ n,d=.int n∧a≤n∧n≤b:=by
 cases d<;>first | (refine ⟨_,rfl,?_⟩;simpa [isNum] using h) | cases h
theorem ne_tup {d:PyData} (h:nonEmptyT d=true):∃ p ps,d=.tuple (p::ps):=by
 cases d with
 | tuple l=>cases l with
  | nil=>cases h
  | cons p ps=>exact ⟨p,ps,rfl⟩
 | _=>cases h
theorem len_of {r:List PyData} {n:Int} {m:Nat} (h:(r.length:Int) + 1=n) (e:n=(m:Int) + 1):r.length=m:=by omega
theorem sv_of {d:PyData} {l:Int} (h:isStm d l=true):SV l d:=by
 obtain ⟨k,r,n,rfl,hk,hl,h⟩:=isStm_shape h
 have hm:=lk_mem hk
 simp only [kSizes,List.mem_cons,List.not_mem_nil,or_false,Prod.mk.injEq] at hm
 rcases hm with ⟨rfl,rfl⟩ | ⟨rfl,rfl⟩ | ⟨rfl,rfl⟩ | ⟨rfl,rfl⟩ | ⟨rfl,rfl⟩ | ⟨rfl,rfl⟩ | ⟨rfl,rfl⟩ | ⟨rfl,rfl⟩ | ⟨rfl,rfl⟩ | ⟨rfl,rfl⟩ | ⟨rfl,rfl⟩
 ·rw [if_pos (by decide)] at h
  match r,len_of (m:=1) hl rfl,h with
  | [a],_,h=>obtain ⟨x,rfl⟩:=isName_str h;exact .do_ x
 ·rw [if_pos (by decide)] at h
  match r,len_of (m:=1) hl rfl,h with
  | [a],_,h=>obtain ⟨x,rfl⟩:=isName_str h;exact .call x
 ·rw [if_pos (by decide)] at h
  match r,len_of (m:=3) hl rfl,h with
  | [a,b,c],_,h=>obtain ⟨x,rfl⟩:=isName_str h;exact .iff x b c
 ·rw [if_pos (by decide)] at h
  match r,len_of (m:=2) hl rfl,h with
  | [a,b],_,h=>obtain ⟨x,rfl⟩:=isName_str h;exact .whl x b
 ·rw [if_neg (by decide),if_neg (by decide),if_neg (by decide)] at h
  match r,len_of (m:=1) hl rfl,h with
  | [a],_,h=>obtain ⟨p,ps,rfl⟩:=ne_tup h;exact .seq p ps
 ·rw [if_neg (by decide),if_pos (by decide)] at h
  match r,len_of (m:=1) hl rfl,h with
  | [a],_,h=>obtain ⟨x,rfl,h1,h2⟩:=isNum_int h;exact .brk x h1 h2
 ·rw [if_neg (by decide),if_pos (by decide)] at h
  match r,len_of (m:=1) hl rfl,h with
  | [a],_,h=>obtain ⟨x,rfl,h1,h2⟩:=isNum_int h;exact .cnt x h1 h2
 ·match r,len_of (m:=0) hl rfl with
  | [],_=>exact .ret
 ·match r,len_of (m:=0) hl rfl with
  | [],_=>exact .rai
 ·match r,len_of (m:=2) hl rfl with
  | [a,b],_=>exact .tr a b
 ·match r,len_of (m:=2) hl rfl with
  | [a,b],_=>exact .fin a b
def numD:PyData→Nat
 | .tuple [_,.int n]=>n.toNat
 | _=>0
def ndOf (r:Row):Node :=
 if kindD r.d="do" then .do_ else if kindD r.d="call" then .call else if kindD r.d="return" then .ret else if kindD r.d="raise" then .rai else
 if kindD r.d="break" then .brk (numD r.d) else if kindD r.d="continue" then .cnt (numD r.d) else if kindD r.d="seq" then .seq r.ch else
 if kindD r.d="while" then .whl (r.ch.getD 0 0) else if kindD r.d="if" then .iff (r.ch.getD 0 0) (r.ch.getD 1 0) else
 if kindD r.d="try" then .tr (r.ch.getD 0 0) (r.ch.getD 1 0) else .fin (r.ch.getD 0 0) (r.ch.getD 1 0)
def tabOf (rows:List Row):Tab:=⟨rows.length,fun n=>match rows[n]? with | some r=>ndOf r | none=>.do_,fun n=>rows[n]?.bind Row.par⟩
def wl (d:PyData):Nat:=if kindD d="while" then 1 else 0
structure BI (st:List WIt) (rows:List Row) (ls:List Nat):Prop where
 ll:ls.length=rows.length
 dn:∀ (n:Nat) (r:Row) (l:Nat),rows[n]?=some r→ls[n]?=some l→∀ c∈r.ch,n<c∧∃ r':Row,rows[c]?=some r'∧r'.par=some n∧ls[c]?=some (l + wl r.d)
 as:∀ (n:Nat) (r:Row),rows[n]?=some r→r.ch.Pairwise (·<·)
 pt:∀ (n:Nat) (r:Row),rows[n]?=some r→(r.ch.map fun c=>(rows[c]?.map Row.d).getD .none)++(st.filter fun i=>decide (i.par=some n)).map WIt.d=partsD r.d
 sm:∀ (n:Nat) (r:Row) (l:Nat),rows[n]?=some r→ls[n]?=some l→isStm r.d (l:Int)=true
 it:∀ i∈st,(i.par=none→rows=[]∧i.loops=0∧st.length=1)∧∀ p:Nat,i.par=some p→∃ (r:Row) (l:Nat),rows[p]?=some r∧ls[p]?=some l∧i.loops=l + wl r.d
 up:∀ (n:Nat) (r:Row) (p:Nat),rows[n]?=some r→r.par=some p→p<n∧∃ rp:Row,rows[p]?=some rp∧n∈rp.ch
 rt:∀ r:Row,rows[0]?=some r→r.par=none
 l0:∀ l:Nat,ls[0]?=some l→l=0
theorem addRow_get {rows:List Row} {d:PyData} {par:Option Nat} {n:Nat} {r:Row} (h:(addRow rows d par)[n]?=some r) :
  (n=rows.length∧r=⟨d,par,[]⟩)∨(∃ r0,rows[n]?=some r0∧r.d=r0.d∧r.par=r0.par∧((par=some n∧r.ch=r0.ch++[rows.length])∨(par≠some n∧r=r0))):=by
 obtain ⟨bs,hb,hl,hg⟩:∃ bs:List Row,addRow rows d par=bs++[⟨d,par,[]⟩]∧bs.length=rows.length∧∀ (n:Nat) (r:Row),bs[n]?=some r→∃ r0,rows[n]?=some r0∧r.d=r0.d∧r.par=r0.par∧((par=some n∧r.ch=r0.ch++[rows.length])∨(par≠some n∧r=r0)):=by
  cases par with
  | none=>exact ⟨rows,rfl,rfl,fun n r h=>⟨r,h,rfl,rfl,.inr ⟨(fun z=>nomatch z),rfl⟩⟩⟩
  | some i =>
   refine ⟨addCh rows i rows.length,rfl,addCh_len _ _ _,fun n r h=>?_⟩
   rw [addCh_eq,List.getElem?_modify] at h
   cases e:rows[n]? with
   | none=>rw [e] at h;simp at h
   | some r0 =>
    rw [e] at h
    by_cases z:i=n
    ·subst z
     simp at h
     refine ⟨r0,rfl,?_,?_,.inl ⟨rfl,?_⟩⟩<;>rw [← h]<;>rfl
    ·simp [z] at h
     exact ⟨r0,rfl,by rw [h],by rw [h],.inr ⟨fun y=>z (Option.some.inj y),h.symm⟩⟩
 rw [hb] at h
 rcases Nat.lt_or_ge n rows.length with lt | ge
 ·rw [List.getElem?_append_left (by rw [hl];exact lt)] at h
  exact .inr (hg n r h)
 ·rw [List.getElem?_append_right (by rw [hl];exact ge),hl] at h
  have e:n - rows.length=0:=by
   have:=(List.getElem?_eq_some_iff.mp h).1
   simp at this
   omega
  rw [e] at h
  simp at h
  exact .inl ⟨by omega,h.symm⟩
theorem addRow_old {rows:List Row} {d:PyData} {par:Option Nat} {n:Nat} {r0:Row} (h:rows[n]?=some r0):∃ r,(addRow rows d par)[n]?=some r∧r.d=r0.d∧r.par=r0.par:=by
 have lt:=(List.getElem?_eq_some_iff.mp h).1
 have lt2:n<(addRow rows d par).length:=by rw [addRow_len];omega
 refine ⟨_,List.getElem?_eq_getElem lt2,?_⟩
 rcases addRow_get (List.getElem?_eq_getElem lt2) with ⟨e,_⟩ | ⟨r1,h1,h2,h3,_⟩
 ·omega
 ·rw [h] at h1
  cases h1
  exact ⟨h2,h3⟩
theorem addRow_new {rows:List Row} {d:PyData} {par:Option Nat}:(addRow rows d par)[rows.length]?=some ⟨d,par,[]⟩:=by
 have lt2:rows.length<(addRow rows d par).length:=by rw [addRow_len];omega
 rw [List.getElem?_eq_getElem lt2]
 rcases addRow_get (List.getElem?_eq_getElem lt2) with ⟨_,e⟩ | ⟨r1,h1,_⟩
 ·rw [e]
 ·have:=(List.getElem?_eq_some_iff.mp h1).1
  omega
theorem addRow_d {rows:List Row} {d:PyData} {par:Option Nat} {c:Nat} (hc:c<rows.length):((addRow rows d par)[c]?.map Row.d)=rows[c]?.map Row.d:=by
 obtain ⟨r,h1,h2,_⟩:=addRow_old (d:=d) (par:=par) (List.getElem?_eq_getElem hc)
 rw [h1,List.getElem?_eq_getElem hc,Option.map_some,Option.map_some,h2]
theorem BI.step {it:WIt} {st:List WIt} {rows:List Row} {ls:List Nat} (b:BI (it::st) rows ls) (ok:okIt it rows.length):BI (newIts it rows.length++st) (addRow rows it.d it.par) (ls++[it.loops]):=by
 have lsl:∀ {n l:Nat},ls[n]?=some l→(ls++[it.loops])[n]?=some l:=fun {n l} h=>by
  rw [List.getElem?_append_left (List.getElem?_eq_some_iff.mp h).1]
  exact h
 have lsn:(ls++[it.loops])[rows.length]?=some it.loops:=by rw [List.getElem?_append_right (by rw [b.ll];exact Nat.le_refl _),b.ll,Nat.sub_self]<;>rfl
 have lso:∀ {n l:Nat},n<rows.length→(ls++[it.loops])[n]?=some l→ls[n]?=some l:=fun {n l} hn h=>by
  rw [List.getElem?_append_left (by rw [b.ll];exact hn)] at h
  exact h
 obtain ⟨i1,i2⟩:=b.it it List.mem_cons_self
 have new_par:∀ i∈newIts it rows.length,i.par=some rows.length∧i.loops=it.loops + wl it.d:=fun i hi=>by
  obtain ⟨j,hj,rfl⟩:=List.mem_mapIdx.mp hi
  exact ⟨rfl,rfl⟩
 refine ⟨by rw [List.length_append,addRow_len,b.ll]<;>rfl,fun n r l hr hl c hc=>?_,fun n r hr=>?_,fun n r hr=>?_,fun n r l hr hl=>?_,fun i hi=>?_,fun n r p hr hp=>?_,fun r hr=>?_,fun l hl=>?_⟩
 ·rcases addRow_get hr with ⟨rfl,rfl⟩ | ⟨r0,h0,hd,hp,h⟩
  ·cases hc
  ·have lt:=(List.getElem?_eq_some_iff.mp h0).1
   have hl0:=lso lt hl
   have old:∀ c∈r0.ch,n<c∧∃ r':Row,(addRow rows it.d it.par)[c]?=some r'∧r'.par=some n∧(ls++[it.loops])[c]?=some (l + wl r.d):=fun c hc=>by
    obtain ⟨x1,r',x2,x3,x4⟩:=b.dn n r0 l h0 hl0 c hc
    obtain ⟨r2,y1,y2,y3⟩:=addRow_old (d:=it.d) (par:=it.par) x2
    exact ⟨x1,r2,y1,y3.trans x3,by rw [hd];exact lsl x4⟩
   rcases h with ⟨hp,hch⟩ | ⟨_,e⟩
   ·rw [hch] at hc
    rcases List.mem_append.mp hc with hc | hc
    ·exact old c hc
    ·have e:=List.mem_singleton.mp hc
     subst e
     refine ⟨lt,_,addRow_new,hp,?_⟩
     obtain ⟨r1,l1,z1,z2,z3⟩:=i2 n hp
     rw [h0] at z1
     cases z1
     rw [hl0] at z2
     cases z2
     rw [lsn,z3,hd]
   ·rw [e] at hc
    exact old c hc
 ·rcases addRow_get hr with ⟨rfl,rfl⟩ | ⟨r0,h0,hd,hp,h⟩
  ·exact .nil
  ·rcases h with ⟨hp,hch⟩ | ⟨_,e⟩
   ·rw [hch,List.pairwise_append]
    refine ⟨b.as n r0 h0,List.pairwise_singleton _ _,fun c hc y hy=>?_⟩
    rw [List.mem_singleton.mp hy]
    obtain ⟨l,hl⟩:∃ l,ls[n]?=some l:=⟨_,List.getElem?_eq_getElem (by rw [b.ll];exact (List.getElem?_eq_some_iff.mp h0).1)⟩
    obtain ⟨_,r',x2,_⟩:=b.dn n r0 l h0 hl c hc
    exact (List.getElem?_eq_some_iff.mp x2).1
   ·rw [e]
    exact b.as n r0 h0
 ·rcases addRow_get hr with ⟨rfl,rfl⟩ | ⟨r0,h0,hd,hp,h⟩
  ·show ([]:List Nat).map _++_=_
   rw [List.map_nil,List.nil_append,List.filter_append,List.map_append]
   have e1:(newIts it rows.length).filter (fun i=>decide (i.par=some rows.length))=newIts it rows.length:=List.filter_eq_self.mpr fun i hi=>decide_eq_true (new_par i hi).1
   have e2:st.filter (fun i=>decide (i.par=some rows.length))=[]:=List.filter_eq_nil_iff.mpr fun i hi z=>by
    obtain ⟨r1,l1,z1,_⟩:=(b.it i (List.mem_cons_of_mem _ hi)).2 _ (of_decide_eq_true z)
    have:=(List.getElem?_eq_some_iff.mp z1).1
    omega
   rw [e1,e2,List.map_nil,List.append_nil]
   show (newIts it rows.length).map WIt.d=partsD it.d
   unfold newIts
   apply List.ext_getElem?
   intro j
   rw [List.getElem?_map,List.getElem?_mapIdx]
   cases (partsD it.d)[j]?<;>rfl
  ·have lt:=(List.getElem?_eq_some_iff.mp h0).1
   obtain ⟨l,hl⟩:∃ l,ls[n]?=some l:=⟨_,List.getElem?_eq_getElem (by rw [b.ll];exact lt)⟩
   have p0:=b.pt n r0 h0
   have e1:(newIts it rows.length).filter (fun i=>decide (i.par=some n))=[]:=List.filter_eq_nil_iff.mpr fun i hi z=>by
    have z1:=(new_par i hi).1
    rw [of_decide_eq_true z] at z1
    have:=Option.some.inj z1
    omega
   have e3:(r0.ch.map fun c=>((addRow rows it.d it.par)[c]?.map Row.d).getD .none)=r0.ch.map fun c=>(rows[c]?.map Row.d).getD .none:=List.map_congr_left fun c hc=>by
    obtain ⟨_,r',x2,_⟩:=b.dn n r0 l h0 hl c hc
    rw [addRow_d (List.getElem?_eq_some_iff.mp x2).1]
   rw [List.filter_append,e1,List.nil_append,hd]
   rcases h with ⟨hp,hch⟩ | ⟨hp,e⟩
   ·rw [hch,List.map_append,e3,← p0,List.filter_cons,if_pos (decide_eq_true hp),List.map_cons,List.append_assoc]
    congr 1
    show [(((addRow rows it.d it.par)[rows.length]?).map Row.d).getD .none]++_=_
    rw [addRow_new]<;>rfl
   ·rw [e,e3,← p0,List.filter_cons,if_neg (by simpa using hp)]
 ·rcases addRow_get hr with ⟨rfl,rfl⟩ | ⟨r0,h0,hd,hp,h⟩
  ·rw [lsn] at hl
   cases hl
   exact ok.2.2.2
  ·rw [hd]
   exact b.sm n r0 l h0 (lso (List.getElem?_eq_some_iff.mp h0).1 hl)
 ·rcases List.mem_append.mp hi with hi | hi
  ·obtain ⟨z1,z2⟩:=new_par i hi
   refine ⟨(fun e=>by rw [z1] at e;cases e),fun p hp=>?_⟩
   rw [z1] at hp
   cases hp
   exact ⟨_,_,addRow_new,lsn,z2⟩
  ·obtain ⟨z1,z2⟩:=b.it i (List.mem_cons_of_mem _ hi)
   refine ⟨fun e=>?_,fun p hp=>?_⟩
   ·have z3:=(z1 e).2.2
    have:=List.length_pos_of_mem hi
    rw [List.length_cons] at z3
    omega
   ·obtain ⟨r,l,y1,y2,y3⟩:=z2 p hp
    obtain ⟨r2,x1,x2,_⟩:=addRow_old (d:=it.d) (par:=it.par) y1
    exact ⟨r2,l,x1,lsl y2,by rw [x2];exact y3⟩
 ·have keep:∀ {rp:Row} {x:Nat},rows[p]?=some rp→x∈rp.ch→∃ rp':Row,(addRow rows it.d it.par)[p]?=some rp'∧x∈rp'.ch:=fun {rp x} h1 h2=>by
   obtain ⟨r2,y1,_⟩:=addRow_old (d:=it.d) (par:=it.par) h1
   refine ⟨r2,y1,?_⟩
   rcases addRow_get y1 with ⟨e,_⟩ | ⟨r3,z1,_,_,z4⟩
   ·have:=(List.getElem?_eq_some_iff.mp h1).1
    omega
   ·rw [h1] at z1
    cases z1
    rcases z4 with ⟨_,e⟩ | ⟨_,e⟩
    ·rw [e];exact List.mem_append_left _ h2
    ·rw [e];exact h2
  rcases addRow_get hr with ⟨e,rfl⟩ | ⟨r0,h0,hd,hp2,h⟩
  ·obtain ⟨rp,l,y1,_⟩:=i2 p hp
   have lt:=(List.getElem?_eq_some_iff.mp y1).1
   obtain ⟨r2,y2,_⟩:=addRow_old (d:=it.d) (par:=it.par) y1
   refine ⟨by omega,r2,y2,?_⟩
   rcases addRow_get y2 with ⟨e2,_⟩ | ⟨r3,z1,_,_,z4⟩
   ·omega
   ·rcases z4 with ⟨_,e2⟩ | ⟨e2,_⟩
    ·rw [e2,e];exact List.mem_append_right _ (List.mem_singleton.mpr rfl)
    ·exact absurd hp e2
  ·rw [hp2] at hp
   obtain ⟨y1,rp,y2,y3⟩:=b.up n r0 p h0 hp
   exact ⟨y1,keep y2 y3⟩
 ·rcases addRow_get hr with ⟨e,rfl⟩ | ⟨r0,h0,hd,hp,h⟩
  ·show it.par=none
   cases e2:it.par with
   | none=>rfl
   | some p =>
    obtain ⟨r,l,y1,_⟩:=i2 p e2
    have:=(List.getElem?_eq_some_iff.mp y1).1
    omega
  ·rw [hp]
   exact b.rt r0 h0
 ·by_cases hz:rows.length=0
  ·have e:ls=[]:=List.eq_nil_of_length_eq_zero (by rw [b.ll];exact hz)
   subst e
   simp at hl
   cases e2:it.par with
   | none=>rw [← hl];exact (i1 e2).2.1
   | some p =>
    obtain ⟨r,l,y1,_⟩:=i2 p e2
    have:=(List.getElem?_eq_some_iff.mp y1).1
    omega
  ·exact b.l0 l (lso (by omega) hl)
theorem BI.all:∀ {m:Nat} {st:List WIt} {rows fin:List Row},Builds m st rows fin→∀ {ls:List Nat},BI st rows ls→∃ ls',BI [] fin ls'
 | _,_,_,_,.done _,ls,b=>⟨ls,b⟩
 | _,_,_,_,.step ok h,_,b=>BI.all h (b.step ok)
theorem BI.start (d:PyData):BI [⟨d,none,1,0,0⟩] [] [] :=
 ⟨rfl,fun n r l h=>by simp at h,fun n r h=>by simp at h,fun n r h=>by simp at h,fun n r l h=>by simp at h,fun i hi=>by
  rw [List.mem_singleton.mp hi]
  exact ⟨fun _=>⟨rfl,rfl,rfl⟩,fun p hp=>nomatch hp⟩,fun n r p h=>by simp at h,fun r h=>by simp at h,fun l h=>by simp at h⟩
structure TW (rows:List Row) (lp:Nat→Nat):Prop where
 wf:(tabOf rows).WF lp
 sv:∀ (n:Nat) (r:Row),rows[n]?=some r→SV (lp n:Int) r.d∧r.ch.length=(partsD r.d).length∧r.ch=(ndOf r).ch
 pu:∀ (n:Nat) (r:Row) (p:Nat),rows[n]?=some r→r.par=some p→p<n∧p<rows.length∧n∈((tabOf rows).nd p).ch
 pr:∀ (n:Nat) (r:Row),rows[n]?=some r→∀ (j c:Nat),r.ch[j]?=some c→∃ r':Row,rows[c]?=some r'∧(partsD r.d)[j]?=some r'.d
theorem len_two {α:Type} {l:List α} (h:l.length=2):∃ a b,l=[a,b]:=by
 match l,h with
 | [a,b],_=>exact ⟨a,b,rfl⟩
theorem len_one {α:Type} {l:List α} (h:l.length=1):∃ a,l=[a]:=by
 match l,h with
 | [a],_=>exact ⟨a,rfl⟩
theorem nd_ch {r:Row} {l:Int} (h:SV l r.d) (hl:r.ch.length=(partsD r.d).length):r.ch=(ndOf r).ch:=by
 obtain ⟨d,par,ch⟩:=r
 cases h with
 | do_ x=>exact List.eq_nil_of_length_eq_zero (hl.trans rfl)
 | call x=>exact List.eq_nil_of_length_eq_zero (hl.trans rfl)
 | ret=>exact List.eq_nil_of_length_eq_zero (hl.trans rfl)
 | rai=>exact List.eq_nil_of_length_eq_zero (hl.trans rfl)
 | brk n h1 h2=>exact List.eq_nil_of_length_eq_zero (hl.trans rfl)
 | cnt n h1 h2=>exact List.eq_nil_of_length_eq_zero (hl.trans rfl)
 | iff x a b =>
  obtain ⟨a,b,rfl⟩:=len_two (hl.trans rfl)
  rfl
 | whl x a =>
  obtain ⟨a,rfl⟩:=len_one (hl.trans rfl)
  rfl
 | seq p ps=>rfl
 | tr a b =>
  obtain ⟨a,b,rfl⟩:=len_two (hl.trans rfl)
  rfl
 | fin a b =>
  obtain ⟨a,b,rfl⟩:=len_two (hl.trans rfl)
  rfl
theorem nd_wl {r:Row} {l:Int} (h:SV l r.d):wl r.d=(match ndOf r with | .whl _=>1 | _=>0):=by
 obtain ⟨d,par,ch⟩:=r
 cases h<;>rfl
theorem tab_nd {rows:List Row} {n:Nat} {r:Row} (h:rows[n]?=some r):(tabOf rows).nd n=ndOf r:=by
 show (match rows[n]? with | some r=>ndOf r | none=>.do_)=ndOf r
 rw [h]
theorem nd_seq {r:Row} {l:Int} {cs:List Nat} (h:SV l r.d) (hl:r.ch.length=(partsD r.d).length) (e:ndOf r=.seq cs):cs≠[]:=by
 obtain ⟨d,par,ch⟩:=r
 cases h with
 | seq p ps =>
  cases e
  intro z
  rw [show ch=[] from z] at hl
  cases hl
 | _=>cases e
theorem nd_brk {r:Row} {l:Nat} {k:Nat} (h:SV (l:Int) r.d) (e:ndOf r=.brk k):1≤k∧k≤l:=by
 obtain ⟨d,par,ch⟩:=r
 cases h with
 | brk n h1 h2 =>
  cases e
  show 1≤n.toNat∧n.toNat≤l
  omega
 | _=>cases e
theorem nd_cnt {r:Row} {l:Nat} {k:Nat} (h:SV (l:Int) r.d) (e:ndOf r=.cnt k):1≤k∧k≤l:=by
 obtain ⟨d,par,ch⟩:=r
 cases h with
 | cnt n h1 h2 =>
  cases e
  show 1≤n.toNat∧n.toNat≤l
  omega
 | _=>cases e
theorem tw_of {fin:List Row} {ls:List Nat} (b:BI [] fin ls) (hne:0<fin.length):TW fin (fun n=>ls.getD n 0):=by
 have lpn:∀ {n l:Nat},ls[n]?=some l→ls.getD n 0=l:=fun h=>by rw [List.getD_eq_getElem?_getD,h]<;>rfl
 have lex:∀ {n:Nat} {r:Row},fin[n]?=some r→∃ l,ls[n]?=some l:=fun {n r} h=>⟨_,List.getElem?_eq_getElem (by rw [b.ll];exact (List.getElem?_eq_some_iff.mp h).1)⟩
 have pt:∀ (n:Nat) (r:Row),fin[n]?=some r→(r.ch.map fun c=>(fin[c]?.map Row.d).getD .none)=partsD r.d:=fun n r h=>by
  have z:=b.pt n r h
  rw [List.filter_nil,List.map_nil,List.append_nil] at z
  exact z
 have sv:∀ (n:Nat) (r:Row),fin[n]?=some r→SV (ls.getD n 0:Int) r.d∧r.ch.length=(partsD r.d).length∧r.ch=(ndOf r).ch:=fun n r h=>by
  obtain ⟨l,hl⟩:=lex h
  rw [lpn hl]
  have s:=sv_of (b.sm n r l h hl)
  have e:r.ch.length=(partsD r.d).length:=by rw [← pt n r h,List.length_map]
  exact ⟨s,e,nd_ch s e⟩
 have at_:∀ n,n<fin.length→∃ r,fin[n]?=some r∧(tabOf fin).nd n=ndOf r:=fun n hn=>⟨_,List.getElem?_eq_getElem hn,tab_nd (List.getElem?_eq_getElem hn)⟩
 refine ⟨⟨hne,?_,?_,fun n hn c hc=>?_,fun n hn=>?_,fun n p hn hp=>?_,fun n l hn hd=>?_,fun n k hn hd=>?_,fun n k hn hd=>?_⟩,sv,fun n r p h hp=>?_,fun n r h j c hj=>?_⟩
 ·show fin[0]?.bind Row.par=none
  rw [List.getElem?_eq_getElem hne]
  exact b.rt _ (List.getElem?_eq_getElem hne)
 ·obtain ⟨l,hl⟩:=lex (List.getElem?_eq_getElem hne)
  rw [lpn hl]
  exact b.l0 l hl
 ·obtain ⟨r,hr,e⟩:=at_ n hn
  obtain ⟨s1,s2,s3⟩:=sv n r hr
  rw [e,← s3] at hc
  obtain ⟨l,hl⟩:=lex hr
  obtain ⟨x1,r',x2,x3,x4⟩:=b.dn n r l hr hl c hc
  refine ⟨x1,(List.getElem?_eq_some_iff.mp x2).1,?_,?_⟩
  ·show fin[c]?.bind Row.par=some n
   rw [x2]
   exact x3
  ·rw [e,lpn x4,lpn hl,nd_wl s1]
   try (cases ndOf r<;>rfl)
 ·obtain ⟨r,hr,e⟩:=at_ n hn
  rw [e,← (sv n r hr).2.2]
  exact (b.as n r hr).imp fun h=>Nat.ne_of_lt h
 ·obtain ⟨r,hr,e⟩:=at_ n hn
  have hp:fin[n]?.bind Row.par=some p:=hp
  rw [hr] at hp
  obtain ⟨_,rp,y2,_⟩:=b.up n r p hr hp
  exact (List.getElem?_eq_some_iff.mp y2).1
 ·obtain ⟨r,hr,e⟩:=at_ n hn
  rw [e] at hd
  exact nd_seq (sv n r hr).1 (sv n r hr).2.1 hd
 ·obtain ⟨r,hr,e⟩:=at_ n hn
  rw [e] at hd
  exact nd_brk (sv n r hr).1 hd
 ·obtain ⟨r,hr,e⟩:=at_ n hn
  rw [e] at hd
  exact nd_cnt (sv n r hr).1 hd
 ·obtain ⟨y1,rp,y2,y3⟩:=b.up n r p h hp
  exact ⟨y1,(List.getElem?_eq_some_iff.mp y2).1,by rw [tab_nd y2,← (sv p rp y2).2.2];exact y3⟩
 ·obtain ⟨l,hl⟩:=lex h
  obtain ⟨_,r',x2,_⟩:=b.dn n r l h hl c (List.mem_of_getElem? hj)
  refine ⟨r',x2,?_⟩
  rw [← pt n r h,List.getElem?_map,hj,Option.map_some,x2]<;>rfl
end
section
open FcM (Way Node Tab)
def kindN:Node→Str
 | .do_=>"do"
 | .call=>"call"
 | .ret=>"return"
 | .rai=>"raise"
 | .brk _=>"break"
 | .cnt _=>"continue"
 | .iff _ _=>"if"
 | .whl _=>"while"
 | .seq _=>"seq"
 | .tr _ _=>"try"
 | .fin _ _=>"final"
theorem kd_nd {r:Row} {l:Int} (h:SV l r.d):kindD r.d=kindN (ndOf r):=by
 obtain ⟨d,par,ch⟩:=r
 cases h<;>rfl
structure At (K:PySem.W.Frag) (H:Hp) (A:CAd) (rows:List Row) (n:Nat) (r:Row) (c:Addr):Prop where
 kd:(rows.map fun r=>V.str (kindD r.d))[n]?=some (.str (kindN (ndOf r)))
 lb:(rows.map fun r=>labD r.d)[n]?=some (labD r.d)
 pr:(rows.map fun r=>parV r.par)[n]?=some (parV r.par)
 cs:(A.cs.map V.ref)[n]?=some (.ref c)
 ch:H c=some (.lst (intsV r.ch))
theorem at_of {K:PySem.W.Frag} {H:Hp} {A:CAd} {rows:List Row} {lp:Nat→Nat} {L1 L2 L3 L4:List V} (W:TW rows lp) (C:CL K H A L1 L2 L3 L4 (rows.map fun r=>intsV r.ch)) {n:Nat} {r:Row} (h:rows[n]?=some r):∃ c,At K H A rows n r c:=by
 have lt:=(List.getElem?_eq_some_iff.mp h).1
 have lc:n<A.cs.length:=by rw [C.cl,List.length_map];exact lt
 refine ⟨A.cs[n],by rw [List.getElem?_map,h,← kd_nd (W.sv n r h).1]<;>rfl,by rw [List.getElem?_map,h]<;>rfl,by rw [List.getElem?_map,h]<;>rfl,by rw [List.getElem?_map,List.getElem?_eq_getElem lc]<;>rfl,?_⟩
 exact C.cc n _ _ (List.getElem?_eq_getElem lc) (by rw [List.getElem?_map,h]<;>rfl)
theorem row_at {rows:List Row} {n:Nat} (h:n<rows.length):∃ r,rows[n]?=some r:=⟨_,List.getElem?_eq_getElem h⟩
theorem in_strs {k:Str} {l:List Str} {b:Bool} (h:decide (k∈l)=b):inV (.str k) (l.map V.str)=b:=by rw [inV_strs];exact h
end
section
open FcM (Way Node Tab)
def leafT:Node→Tw
 | .do_=>[(.nrm,[])]
 | .call=>[(.nrm,[0]),(.rai,[1])]
 | .ret=>[(.ret,[])]
 | .rai=>[(.rai,[])]
 | .brk k=>[(.brk k,[])]
 | .cnt k=>[(.cnt k,[])]
 | _=>[]
def keepAll (t:Tw) (ps:Tw) (f:List Int→List Int):Tw:=ps.foldl (fun t p=>keepT t p.1 (f p.2)) t
def ifT (a b:Tw):Tw:=keepAll (keepAll [] a (fun x=>0::x)) b (fun x=>1::x)
def whileStep (t:Tw) (p:Way×List Int):Tw :=
 match p.1 with
 | .brk (k + 2)=>putT t (.brk (k + 1)) (1::p.2)
 | .cnt (k + 2)=>putT t (.cnt (k + 1)) (1::p.2)
 | .ret=>putT t .ret (1::p.2)
 | .rai=>putT t .rai (1::p.2)
 | _=>t
def whileT (a:Tw):Tw:=a.foldl whileStep [(.nrm,[0])]
def seqT:List Tw→Tw→List Int→Tw
 | [],t,before=>putT t .nrm before
 | p::ps,t,before =>
  let t':=keepAll t (p.filter fun e=>decide (e.1≠.nrm)) (fun x=>before++x)
  match lk p .nrm with
  | none=>t'
  | some a=>seqT ps t' (before++a)
def tryT (a b:Tw):Tw :=
 let t:=keepAll [] (a.filter fun e=>decide (e.1≠.rai)) id
 match lk a .rai with
 | none=>t
 | some x=>keepAll t b (fun y=>x++y)
def finT (a b:Tw):Tw :=
 let t:=match lk b .nrm with
  | none=>[]
  | some y=>keepAll [] a (fun x=>x++y)
 keepAll t (b.filter fun e=>decide (e.1≠.nrm)) (fun y=>(shortT a).getD []++y)
def IsLeaf:Node→Prop
 | .do_ | .call | .ret | .rai | .brk _ | .cnt _=>True
 | _=>False
def sp_leafW (P:Program) (w:World) (K:PySem.W.Frag):Sp:=fun vs H Q _=>∃ (N:Hp) (nd:Node) (lab:V),Ex N H∧vs=[.str (kindN nd),lab]∧IsLeaf nd∧(∀ k:Nat,nd=.brk k∨nd=.cnt k→lab=.int (k:Int))∧∀ H' d,Ex H H'→H d=none→Wt P w K N H' d (leafT nd)→Q (.ref d) H'
theorem can_bc:PyData.canLayAll0 [.str (Str.ofString "break"),.str (Str.ofString "continue")]=true:=by kernel_rfl
theorem ex_put {H H':Hp} {p:Addr} {u:HO} (e:Ex H H') (hp:H p=none):Ex H (upd H' p u):=fun c o h=>by rw [upd_ne (ne_of_none h hp)];exact e c o h
theorem wt_disp {P:Program} {w:World} {K:PySem.W.Frag} {N H:Hp} {p:Addr} {o o':Obj} {xs0 xs:List FcW.Ent} {t:Tw} (e:H p=some (FcW.dW P w p o xs0)) (kt:FcW.KeysT K H xs) (r:TbR K N H xs t):Wt P w K N (upd H p (FcW.dW P w p o' xs)) p t :=
 ⟨o',xs,⟨upd_same,fun x hx=>sqT_upd e (kt x hx)⟩,tbr_mono r fun _ _ z=>lst_upd e z⟩
section
variable {P:Program} {w:World} {h:Heap} {K:PySem.W.Frag} {mg:Str→Option Value} {base:Heap}
abbrev N_left_by_leaf:List Str:=["kind","label"]
theorem sc_left_by_leaf:FnScope N_left_by_leaf ["kind","label"] (defScope sd_left_by_leaf):=⟨rfl,rfl,rfl,by decide +kernel,rfl,by decide +kernel,by decide +kernel⟩
theorem ok_left_by_leaf (T:Tx w h K mg):Ok P w K mg base 1 ("left_by_leaf",none) ["kind","label"] (sp_leafW P w K):=by
 obtain ⟨fd,F⟩:=F_left_by_leaf T
 refine ⟨fd,?_,F.bindsN (fun _ _ _ _ _ _ us hl=>match us,hl with | [_,_],_=>rfl),F.kp⟩
 refine F.ok sc_left_by_leaf (fun vs H Q E h=>?_) (fun cdv A outer s H vs Q E hr h=>?_)
 ·obtain ⟨N,nd,lab,xN,rfl,lf,hlab,q⟩:=h
  rfl
 ·obtain ⟨N,nd,lab,xN,rfl,lf,hlab,q⟩:=h
  refine ⟨_,PSs.nox (pss_cons (ps_if (pt_cmpR op_eq (pv 0) pe_str (nomark _)) (pss_one (ps_ret (FcW.pe_wdisp (Nat.lt_of_succ_lt (hu_of hr)) (pps_cons (pe_glob (v:=.ref (He.ga K "NORMAL")) rfl (g_NORMAL T) rfl) (pe_lst pa_nil) pps_nil) (by rfl) (by rfl) (fun z=>by cases z) (by decide)))) pss_nil) (pss_cons (ps_if (pt_cmpR op_eq (pv 0) pe_str (nomark _)) (pss_one (ps_ret (FcW.pe_wdisp (Nat.lt_of_succ_lt (hu_of hr)) (pps_cons (pe_glob (v:=.ref (He.ga K "NORMAL")) rfl (g_NORMAL T) rfl) (pe_lst (pa_cons pe_int pa_nil)) (pps_cons (pe_glob (v:=.ref (He.ga K "RAISE")) rfl (g_RAISE T) rfl) (pe_lst (pa_cons pe_int pa_nil)) pps_nil)) (by rfl) (by rfl) (fun z=>by cases z) (by decide)))) pss_nil) (pss_cons (ps_if (pt_cmpR (op_inT hr) (pv 0) (pe_tup (pa_cons pe_str (pa_cons pe_str pa_nil))) (by rfl)) (pss_one (ps_ret (FcW.pe_wdisp (Nat.lt_of_succ_lt (hu_of hr)) (pps_cons (pe_tup (pa_cons (pv 0) (pa_cons (pv 1) pa_nil))) (pe_lst pa_nil) pps_nil) (by rfl) (by rfl) (fun z=>by cases z) (by decide)))) pss_nil) (pss_one (ps_ret (FcW.pe_wdisp (Nat.lt_of_succ_lt (hu_of hr)) (pps_cons (pe_tup (pa_cons (pv 0) pa_nil)) (pe_lst pa_nil) pps_nil) (by rfl) (by rfl) (fun z=>by cases z) (by decide))))))),?_⟩
  cases nd with
  | do_ =>
   refine ⟨_,rfl,rfl,_,rfl,itT (decide_eq_true rfl) ?_⟩
   intro p o hp
   generalize e0:upd _ p _=H0
   obtain ⟨x0,s0,o0⟩:=new_of e0 hp
   clear e0
   refine ⟨sz (by simp),?_⟩
   intro p1 n1
   generalize e1:upd _ p1 _=H1
   obtain ⟨x1,s1,o1⟩:=new_of e1 n1
   clear e1
   have kt:FcW.KeysT K H1 [(wk .nrm,He.ga K "NORMAL",.ref p1)]:=fun x hx=>by
    obtain rfl:=List.mem_singleton.mp hx
    exact t_NORMAL T _
   exact ⟨x1 _ _ s0,_,rfl,by simp,kt,by simp,fun o'=>q _ p (ex_put (Evl.Ex.trans x0 x1) hp) hp (wt_disp (x1 _ _ s0) kt (.cons ⟨rfl,p1,rfl,s1,ex_none (xN.trans x0) n1⟩ .nil))⟩
  | call =>
   refine ⟨_,rfl,rfl,_,rfl,itF (decide_eq_false (by decide)) ⟨_,rfl,rfl,_,rfl,itT (decide_eq_true rfl) ?_⟩⟩
   intro p o hp
   generalize e0:upd _ p _=H0
   obtain ⟨x0,s0,o0⟩:=new_of e0 hp
   clear e0
   refine ⟨sz (by simp),?_⟩
   intro p1 n1
   generalize e1:upd _ p1 _=H1
   obtain ⟨x1,s1,o1⟩:=new_of e1 n1
   clear e1
   refine ⟨sz (by simp),?_⟩
   intro p2 n2
   generalize e2:upd _ p2 _=H2
   obtain ⟨x2,s2,o2⟩:=new_of e2 n2
   clear e2
   have kt:FcW.KeysT K H2 [(wk .nrm,He.ga K "NORMAL",.ref p1),(wk .rai,He.ga K "RAISE",.ref p2)]:=fun x hx=>by
    rcases List.mem_cons.mp hx with rfl | hx
    ·exact t_NORMAL T _
    ·obtain rfl:=List.mem_singleton.mp hx
     exact t_RAISE T _
   exact ⟨x2 _ _ (x1 _ _ s0),_,rfl,by simp,kt,(show ([wk Way.nrm,wk Way.rai]:List (List L2.Key)).Nodup from by decide),fun o'=>q _ p (ex_put (Evl.Ex.trans x0 (Evl.Ex.trans x1 x2)) hp) hp (wt_disp (x2 _ _ (x1 _ _ s0)) kt (.cons ⟨rfl,p1,rfl,x2 _ _ s1,ex_none (xN.trans x0) n1⟩ (.cons ⟨rfl,p2,rfl,s2,ex_none (xN.trans (x0.trans x1)) n2⟩ .nil)))⟩
  | ret =>
   refine ⟨_,rfl,rfl,_,rfl,itF (decide_eq_false (by decide)) ⟨_,rfl,rfl,_,rfl,itF (decide_eq_false (by decide)) ⟨_,rfl,sz (by simp),?_⟩⟩⟩
   intro p9 n9
   generalize e9:upd _ p9 _=H9
   obtain ⟨x9,s9,o9⟩:=new_of e9 n9
   clear e9
   refine ⟨_,_,.str _,.tup (SqT.of s9) (.cons (.str _) (.cons (.str _) .nil)),(by kernel_rfl),can_bc,(Nat.le_trans (Nat.min_le_right _ _) (show 0≤150 from by decide)),_,rfl,itF (by kernel_rfl) ?_⟩
   intro p o hp
   have hp0:H p=none:=by
    cases z:H p with
    | none=>rfl
    | some u=>rw [x9 _ _ z] at hp;cases hp
   generalize e0:upd _ p _=H0
   obtain ⟨x0,s0,o0⟩:=new_of e0 hp
   clear e0
   refine ⟨_,rfl,sz (by simp),?_⟩
   intro p1 n1
   generalize e1:upd _ p1 _=H1
   obtain ⟨x1,s1,o1⟩:=new_of e1 n1
   clear e1
   refine ⟨sz (by simp),?_⟩
   intro p2 n2
   generalize e2:upd _ p2 _=H2
   obtain ⟨x2,s2,o2⟩:=new_of e2 n2
   clear e2
   have kt:FcW.KeysT K H2 [(wk .ret,p1,.ref p2)]:=fun x hx=>by
    obtain rfl:=List.mem_singleton.mp hx
    exact SqT.of (x2 _ _ s1)
   exact ⟨x2 _ _ (x1 _ _ s0),_,rfl,by simp,kt,by simp,fun o'=>q _ p (ex_put (Evl.Ex.trans x9 (Evl.Ex.trans x0 (Evl.Ex.trans x1 x2))) hp0) hp0 (wt_disp (x2 _ _ (x1 _ _ s0)) kt (.cons ⟨rfl,p2,rfl,s2,ex_none (xN.trans (x9.trans (x0.trans x1))) n2⟩ .nil))⟩
  | rai =>
   refine ⟨_,rfl,rfl,_,rfl,itF (decide_eq_false (by decide)) ⟨_,rfl,rfl,_,rfl,itF (decide_eq_false (by decide)) ⟨_,rfl,sz (by simp),?_⟩⟩⟩
   intro p9 n9
   generalize e9:upd _ p9 _=H9
   obtain ⟨x9,s9,o9⟩:=new_of e9 n9
   clear e9
   refine ⟨_,_,.str _,.tup (SqT.of s9) (.cons (.str _) (.cons (.str _) .nil)),(by kernel_rfl),can_bc,(Nat.le_trans (Nat.min_le_right _ _) (show 0≤150 from by decide)),_,rfl,itF (by kernel_rfl) ?_⟩
   intro p o hp
   have hp0:H p=none:=by
    cases z:H p with
    | none=>rfl
    | some u=>rw [x9 _ _ z] at hp;cases hp
   generalize e0:upd _ p _=H0
   obtain ⟨x0,s0,o0⟩:=new_of e0 hp
   clear e0
   refine ⟨_,rfl,sz (by simp),?_⟩
   intro p1 n1
   generalize e1:upd _ p1 _=H1
   obtain ⟨x1,s1,o1⟩:=new_of e1 n1
   clear e1
   refine ⟨sz (by simp),?_⟩
   intro p2 n2
   generalize e2:upd _ p2 _=H2
   obtain ⟨x2,s2,o2⟩:=new_of e2 n2
   clear e2
   have kt:FcW.KeysT K H2 [(wk .rai,p1,.ref p2)]:=fun x hx=>by
    obtain rfl:=List.mem_singleton.mp hx
    exact SqT.of (x2 _ _ s1)
   exact ⟨x2 _ _ (x1 _ _ s0),_,rfl,by simp,kt,by simp,fun o'=>q _ p (ex_put (Evl.Ex.trans x9 (Evl.Ex.trans x0 (Evl.Ex.trans x1 x2))) hp0) hp0 (wt_disp (x2 _ _ (x1 _ _ s0)) kt (.cons ⟨rfl,p2,rfl,s2,ex_none (xN.trans (x9.trans (x0.trans x1))) n2⟩ .nil))⟩
  | brk k =>
   refine ⟨_,rfl,rfl,_,rfl,itF (decide_eq_false (show ¬ V.str "break"=V.str "do" from by decide)) ⟨_,rfl,rfl,_,rfl,itF (decide_eq_false (show ¬ V.str "break"=V.str "call" from by decide)) ⟨_,rfl,sz (by simp),?_⟩⟩⟩
   intro p9 n9
   generalize e9:upd _ p9 _=H9
   obtain ⟨x9,s9,o9⟩:=new_of e9 n9
   clear e9
   refine ⟨_,_,.str _,.tup (SqT.of s9) (.cons (.str _) (.cons (.str _) .nil)),(by kernel_rfl),can_bc,(Nat.le_trans (Nat.min_le_right _ _) (show 0≤150 from by decide)),_,rfl,itT (by kernel_rfl) ?_⟩
   obtain rfl:=hlab k (.inl rfl)
   intro p o hp
   have hp0:H p=none:=by
    cases z:H p with
    | none=>rfl
    | some u=>rw [x9 _ _ z] at hp;cases hp
   generalize e0:upd _ p _=H0
   obtain ⟨x0,s0,o0⟩:=new_of e0 hp
   clear e0
   refine ⟨_,rfl,_,rfl,sz (by simp),?_⟩
   intro p1 n1
   generalize e1:upd _ p1 _=H1
   obtain ⟨x1,s1,o1⟩:=new_of e1 n1
   clear e1
   refine ⟨sz (by simp),?_⟩
   intro p2 n2
   generalize e2:upd _ p2 _=H2
   obtain ⟨x2,s2,o2⟩:=new_of e2 n2
   clear e2
   have kt:FcW.KeysT K H2 [(wk (.brk k),p1,.ref p2)]:=fun x hx=>by
    obtain rfl:=List.mem_singleton.mp hx
    exact SqT.of (x2 _ _ s1)
   exact ⟨x2 _ _ (x1 _ _ s0),_,rfl,by simp,kt,by simp,fun o'=>q _ p (ex_put (Evl.Ex.trans x9 (Evl.Ex.trans x0 (Evl.Ex.trans x1 x2))) hp0) hp0 (wt_disp (x2 _ _ (x1 _ _ s0)) kt (.cons ⟨rfl,p2,rfl,s2,ex_none (xN.trans (x9.trans (x0.trans x1))) n2⟩ .nil))⟩
  | cnt k =>
   refine ⟨_,rfl,rfl,_,rfl,itF (decide_eq_false (show ¬ V.str "continue"=V.str "do" from by decide)) ⟨_,rfl,rfl,_,rfl,itF (decide_eq_false (show ¬ V.str "continue"=V.str "call" from by decide)) ⟨_,rfl,sz (by simp),?_⟩⟩⟩
   intro p9 n9
   generalize e9:upd _ p9 _=H9
   obtain ⟨x9,s9,o9⟩:=new_of e9 n9
   clear e9
   refine ⟨_,_,.str _,.tup (SqT.of s9) (.cons (.str _) (.cons (.str _) .nil)),(by kernel_rfl),can_bc,(Nat.le_trans (Nat.min_le_right _ _) (show 0≤150 from by decide)),_,rfl,itT (by kernel_rfl) ?_⟩
   obtain rfl:=hlab k (.inr rfl)
   intro p o hp
   have hp0:H p=none:=by
    cases z:H p with
    | none=>rfl
    | some u=>rw [x9 _ _ z] at hp;cases hp
   generalize e0:upd _ p _=H0
   obtain ⟨x0,s0,o0⟩:=new_of e0 hp
   clear e0
   refine ⟨_,rfl,_,rfl,sz (by simp),?_⟩
   intro p1 n1
   generalize e1:upd _ p1 _=H1
   obtain ⟨x1,s1,o1⟩:=new_of e1 n1
   clear e1
   refine ⟨sz (by simp),?_⟩
   intro p2 n2
   generalize e2:upd _ p2 _=H2
   obtain ⟨x2,s2,o2⟩:=new_of e2 n2
   clear e2
   have kt:FcW.KeysT K H2 [(wk (.cnt k),p1,.ref p2)]:=fun x hx=>by
    obtain rfl:=List.mem_singleton.mp hx
    exact SqT.of (x2 _ _ s1)
   exact ⟨x2 _ _ (x1 _ _ s0),_,rfl,by simp,kt,by simp,fun o'=>q _ p (ex_put (Evl.Ex.trans x9 (Evl.Ex.trans x0 (Evl.Ex.trans x1 x2))) hp0) hp0 (wt_disp (x2 _ _ (x1 _ _ s0)) kt (.cons ⟨rfl,p2,rfl,s2,ex_none (xN.trans (x9.trans (x0.trans x1))) n2⟩ .nil))⟩
  | _=>exact lf.elim
end
end
section
open FcM (Way Node Tab)
theorem ex_exB {d:Addr} {H H1 H2:Hp} (e:Ex H H1) (hd:H d=none) (b:ExB d H1 H2):Ex H H2:=fun c o h=>b c o (ne_of_none h hd) (e c o h)
theorem len_keepAll (f:List Int→List Int):∀ (ps t:Tw),(keepAll t ps f).length≤t.length + ps.length
 | [],t=>by simp [keepAll]
 | p::ps,t=>by
  have h1:=len_keepAll f ps (keepT t p.1 (f p.2))
  have h2:=len_keepT t p.1 (f p.2)
  show (keepAll (keepT t p.1 (f p.2)) ps f).length≤_
  rw [List.length_cons]
  omega
theorem keepAll_snoc (t ps:Tw) (p:Way×List Int) (f:List Int→List Int):keepAll t (ps++[p]) f=keepT (keepAll t ps f) p.1 (f p.2):=by
 unfold keepAll
 rw [List.foldl_append]<;>rfl
def ifN (ps:List Tw):Tw:=((List.range ps.length).zip ps).foldl (fun t q=>keepAll t q.2 (fun x=>(q.1:Int)::x)) []
theorem ifN_take {ps:List Tw} {i:Nat} {p:Tw} (h:ps[i]?=some p):ifN (ps.take (i + 1))=keepAll (ifN (ps.take i)) p (fun x=>(i:Int)::x):=by
 have hi:=(List.getElem?_eq_some_iff.mp h).1
 unfold ifN
 rw [List.take_add_one,h]
 have e1:(List.take i ps++(some p).toList).length=i + 1:=by simp;omega
 have e2:(List.take i ps).length=i:=by simp;omega
 rw [e1,e2,List.range_succ,show (some p).toList=[p] from rfl,List.zip_append (by simp;omega),List.foldl_append]<;>rfl
theorem len_ifN:∀ (ps:List Tw) (i:Nat),i≤ps.length→(ifN (ps.take i)).length≤((ps.take i).map List.length).sum
 | ps,0,_=>by simp [ifN]
 | ps,i + 1,h=>by
  have ih:=len_ifN ps i (by omega)
  have hp:ps[i]?=some (ps[i]'(by omega)):=List.getElem?_eq_getElem _
  rw [ifN_take hp,List.take_add_one,hp]
  have:=len_keepAll (fun x=>(i:Int)::x) (ps[i]'(by omega)) (ifN (ps.take i))
  simp only [Option.toList_some,List.map_append,List.map_cons,List.map_nil,List.sum_append,List.sum_cons,List.sum_nil]
  omega
theorem sum_at:∀ {ps:List Tw} {i:Nat} {p:Tw},ps[i]?=some p→((ps.take i).map List.length).sum + p.length≤(ps.map List.length).sum
 | [],_,_,h=>by simp at h
 | q::ps,0,p,h=>by
  simp at h
  subst h
  simp
 | q::ps,i + 1,p,h=>by
  have:=sum_at (ps:=ps) (i:=i) (p:=p) (by simpa using h)
  simp only [List.take_succ_cons,List.map_cons,List.sum_cons]
  omega
def sp_ifW (P:Program) (w:World) (K:PySem.W.Frag):Sp:=fun vs H Q _=>∃ (N:Hp) (a:Addr) (ds:List Addr) (ps:List Tw),Ex N H∧vs=[.ref a]∧SqL K H a (ds.map V.ref)∧Paired (fun d t=>Wt P w K N H d t) ds ps∧(ps.map List.length).sum≤2000∧(∀ t∈ps,∀ p∈t,p.2.length≤5000) ∧
 ∀ H' d,Ex H H'→H d=none→Wt P w K N H' d (ifN ps)→Q (.ref d) H'
section
variable {P:Program} {w:World} {h:Heap} {K:PySem.W.Frag} {mg:Str→Option Value} {base:Heap}
abbrev N_left_by_if:List Str:=["parts","found","answer","part","way","answers"]
theorem sc_left_by_if:FnScope N_left_by_if ["parts"] (defScope sd_left_by_if):=⟨rfl,rfl,rfl,by decide +kernel,rfl,by decide +kernel,by decide +kernel⟩
theorem ok_left_by_if (T:Tx w h K mg):Ok P w K mg base 3 ("left_by_if",none) ["parts"] (sp_ifW P w K):=by
 obtain ⟨fd,F⟩:=F_left_by_if T
 refine ⟨fd,?_,F.bindsN (fun _ _ _ _ _ _ us hl=>match us,hl with | [_],_=>rfl),F.kp⟩
 obtain ⟨fd_keep_first,G_keep_first,bi_keep_first,kp_keep_first⟩:=ok_keep_first (P:=P) (base:=base) T
 refine F.ok sc_left_by_if (fun vs H Q E h=>?_) (fun cdv A outer s H vs Q E hr h=>?_)
 ·obtain ⟨N,a,ds,ps,xN,rfl,ha,pr,hl,hn,q⟩:=h
  rfl
 ·obtain ⟨N,a,ds,ps,xN,rfl,ha,pr,hl,hn,q⟩:=h
  refine ⟨_,PSs.nox (pss_cons (ps_set (i:=1) sc_left_by_if.nd rfl (Or.inl rfl) FcW.pe_wnew) (pss_cons (ps_for PassesOwn.never rfl (pi_enum rfl (fr_enumerate T) (pa_cons (pv 0) pa_nil)) (pg_tup rfl (pgs_cons (pg_name (i:=2) sc_left_by_if.nd rfl (Or.inl rfl)) (pgs_cons (pg_name (i:=3) sc_left_by_if.nd rfl (Or.inl rfl)) pgs_nil))) (pss_one (ps_for PassesOwn.never rfl (FcW.pi_witems (pv 3)) (pg_tup rfl (pgs_cons (pg_name (i:=4) sc_left_by_if.nd rfl (Or.inl rfl)) (pgs_cons (pg_name (i:=5) sc_left_by_if.nd rfl (Or.inl rfl)) pgs_nil))) (pss_one (ps_expr (pe_call G_keep_first (hr.mono (by decide)) rfl (g_keep_first T) kp_keep_first bi_keep_first .nil passF (pa_cons (pv 1) (pa_cons (pv 4) (pa_cons (pe_op op_cat (pe_lst (pa_cons (pv 2) pa_nil)) (pv 5)) pa_nil))))))))) (pss_one (ps_ret (pv 1))))),?_⟩
  intro d o hd
  generalize e0:upd _ d _=H0
  obtain ⟨x0,s0,o0⟩:=new_of e0 hd
  clear e0
  refine ⟨_,rfl,a,_,rfl,Evl.ex_l x0 ha,for_it (walk_enum (xs:=ds.map V.ref)) (fun i σ' H'=>∃ o2 o3 o4 o5,Ex H H'∧Wt P w K N H' d (ifN (ps.take i))∧σ'=[some (.ref a),some (.ref d),o2,o3,o4,o5]) ?_ ?_ ?_ ?_⟩
  ·exact ⟨_,_,_,_,x0,⟨o,[],⟨s0,fun x hx=>nomatch hx⟩,.nil⟩,rfl⟩
  ·rintro i σ' H' _ ⟨o2,o3,o4,o5,x1,_,rfl⟩
   exact Evl.ex_l x1 ha
  ·rintro i v σ' H1 H2 hi ⟨o2,o3,o4,o5,x1,w1,rfl⟩ ⟨tp,u1,u2,rfl,n2,rfl,z1,z2⟩
   cases z1
   obtain ⟨dp,hdp,rfl⟩:∃ dp,ds[i]?=some dp∧u2=.ref dp:=by
    replace z2:(ds.map V.ref)[i]?=some u2:=z2
    rw [List.getElem?_map] at z2
    obtain ⟨dp,e1,e2⟩:=Option.map_eq_some_iff.mp z2
    exact ⟨dp,e1,e2.symm⟩
   obtain ⟨tb,htb,wd⟩:=paired_get pr hdp
   have e2:Ex H1 (upd H1 tp (.tup [.int (i:Nat),.ref dp])):=exu (Evl.Ex.refl _) n2
   refine ⟨tp,_,rfl,Evl.st_of upd_same,rfl,_,_,rfl,_,_,rfl,rfl,?_⟩
   generalize upd H1 tp (.tup [.int (i:Nat),.ref dp])=H3 at e2
   have x3:=Evl.Ex.trans x1 e2
   obtain ⟨ob,xs,D,R⟩:=wd
   have D3:=wd_ex x3 D
   refine ⟨_,rfl,dp,ob,xs,rfl,D3.1,for_it FcW.walk_witems (fun j σ' H'=>∃ o4 o5,Ex H H'∧Wt P w K N H' d (keepAll (ifN (ps.take i)) (tb.take j) (fun x=>(i:Int)::x))∧σ'=[some (.ref a),some (.ref d),some (.int (i:Nat)),some (.ref dp),o4,o5]) ?_ ?_ ?_ ?_⟩
   ·exact ⟨_,_,x3,wt_ex e2 w1,rfl⟩
   ·rintro j σ' H' _ ⟨o4,o5,y1,_,rfl⟩
    exact y1 _ _ D.1
   ·rintro j v σ' H4 H5 hj ⟨o4,o5,y1,y2,rfl⟩ ⟨tq,u1,u2,rfl,n4,rfl,z1,z2⟩
    obtain ⟨e,he,rfl⟩:=Option.map_eq_some_iff.mp z1
    replace z2:(xs[j]?).map (fun e=>e.2.2)=some u2:=z2
    rw [he] at z2
    cases z2
    obtain ⟨p,hp,k1,al,k2,k3,k4⟩:=paired_get R he
    have e4:Ex H4 (upd H4 tq (.tup [.ref e.2.1,e.2.2])):=exu (Evl.Ex.refl _) n4
    refine ⟨tq,_,rfl,Evl.st_of upd_same,rfl,_,_,rfl,_,_,rfl,rfl,?_⟩
    generalize upd H4 tq (.tup [.ref e.2.1,e.2.2])=H6 at e4
    have x6:=Evl.Ex.trans y1 e4
    refine ⟨_,rfl,_,rfl,_,rfl,sz (by simp),?_⟩
    intro p7 n7
    generalize e7:upd _ p7 _=H7
    obtain ⟨x7,s7,o7⟩:=new_of e7 n7
    clear e7
    have y7:=Evl.Ex.trans x6 x7
    have l5:p.2.length≤5000:=hn tb (List.mem_of_getElem? htb) p (List.mem_of_getElem? hp)
    refine ⟨_,rfl,p7,al,_,_,rfl,k2,s7,y7 _ _ k3,sz (by simp;omega),?_⟩
    intro p8 n8
    generalize e8:upd _ p8 _=H8
    obtain ⟨x8,s8,o8⟩:=new_of e8 n8
    clear e8
    have y8:=Evl.Ex.trans y7 x8
    have w8:=wt_ex (Evl.Ex.trans e4 (Evl.Ex.trans x7 x8)) y2
    have s8':H8 p8=some (.lst ((((i:Int)::p.2)).map V.int)):=s8
    have lt:(keepAll (ifN (ps.take i)) (tb.take j) (fun x=>(i:Int)::x)).length≤2000:=by
     have h1:=len_keepAll (fun x=>(i:Int)::x) (tb.take j) (ifN (ps.take i))
     have h2:=len_ifN ps i (Nat.le_of_lt (List.getElem?_eq_some_iff.mp htb).1)
     have h3:=sum_at htb
     rw [List.length_take] at h1
     omega
    have kq:SqT K H8 e.2.1 ((wk p.1).map kV):=by rw [← k1];exact Evl.ex_t y8 (D.2 e (List.mem_of_getElem? he))
    refine ⟨N,d,e.2.1,p8,_,p.1,_,rfl,ex_none (xN.trans y7) n8,w8,kq,s8',lt,fun H9 b9 w9=>⟨_,_,ex_exB y8 hd b9,?_,rfl⟩⟩
    rw [List.take_add_one,hp]
    show Wt P w K N H9 d (keepAll _ (tb.take j++[p]) _)
    rw [keepAll_snoc]
    exact w9
   ·rintro σ' H' ⟨o4,o5,y1,y2,rfl⟩
    refine ⟨_,_,_,_,y1,?_,rfl⟩
    rw [ifN_take htb]
    rw [Paired.length R,List.take_length] at y2
    exact y2
  ·rintro σ' H' ⟨o2,o3,o4,o5,y1,y2,rfl⟩
   rw [List.length_map,Paired.length pr,List.take_length] at y2
   exact ⟨_,rfl,q _ _ y1 hd y2⟩
end
end
section
open FcM (Way Node Tab)
def sp_whileW (P:Program) (w:World) (K:PySem.W.Frag):Sp:=fun vs H Q _=>∃ (N:Hp) (c:Addr) (tb:Tw),Ex N H∧vs=[.ref c]∧Wt P w K N H c tb∧tb.length≤1500∧(∀ p∈tb,p.2.length≤5000)∧(∀ p∈tb,∀ k,p.1=.brk k∨p.1=.cnt k→1≤k) ∧
 ∀ H' d,Ex H H'→H d=none→Wt P w K N H' d (whileT tb)→Q (.ref d) H'
theorem whileT_take {tb:Tw} {j:Nat} {p:Way×List Int} (h:tb[j]?=some p):whileT (tb.take (j + 1))=whileStep (whileT (tb.take j)) p:=by
 unfold whileT
 rw [List.take_add_one,h,show (some p).toList=[p] from rfl,List.foldl_append]<;>rfl
theorem len_whileT:∀ (tb:Tw) (j:Nat),j≤tb.length→(whileT (tb.take j)).length≤j + 1
 | tb,0,_=>by simp [whileT]
 | tb,j + 1,h=>by
  have ih:=len_whileT tb j (by omega)
  have hp:tb[j]?=some (tb[j]'(by omega)):=List.getElem?_eq_getElem _
  rw [whileT_take hp]
  unfold whileStep
  split
  ·exact Nat.le_trans (len_putT _ _ _) (by omega)
  ·exact Nat.le_trans (len_putT _ _ _) (by omega)
  ·exact Nat.le_trans (len_putT _ _ _) (by omega)
  ·exact Nat.le_trans (len_putT _ _ _) (by omega)
  ·omega
section
variable {P:Program} {w:World} {h:Heap} {K:PySem.W.Frag} {mg:Str→Option Value} {base:Heap}
abbrev N_left_by_while:List Str:=["body","found","way","answers"]
theorem sc_left_by_while:FnScope N_left_by_while ["body"] (defScope sd_left_by_while):=⟨rfl,rfl,rfl,by decide +kernel,rfl,by decide +kernel,by decide +kernel⟩
theorem ok_left_by_while (T:Tx w h K mg):Ok P w K mg base 3 ("left_by_while",none) ["body"] (sp_whileW P w K):=by
 obtain ⟨fd,F⟩:=F_left_by_while T
 refine ⟨fd,?_,F.bindsN (fun _ _ _ _ _ _ us hl=>match us,hl with | [_],_=>rfl),F.kp⟩
 refine F.ok sc_left_by_while (fun vs H Q E h=>?_) (fun cdv A outer s H vs Q E hr h=>?_)
 ·obtain ⟨N,c,tb,xN,rfl,⟨ob,xs,D,R⟩,hl,hn,hk,q⟩:=h
  rfl
 ·obtain ⟨N,c,tb,xN,rfl,⟨ob,xs,D,R⟩,hl,hn,hk,q⟩:=h
  refine ⟨_,PSs.nox (pss_cons (ps_set (i:=1) sc_left_by_while.nd rfl (Or.inl rfl) (FcW.pe_wdisp (Nat.lt_of_succ_lt (hu_of hr)) (pps_cons (pe_glob (v:=.ref (He.ga K "NORMAL")) rfl (g_NORMAL T) rfl) (pe_lst (pa_cons pe_int pa_nil)) pps_nil) (by rfl) (by rfl) (fun z=>by cases z) (by decide))) (pss_cons (ps_for PassesOwn.never rfl (FcW.pi_witems (pv 0)) (pg_tup rfl (pgs_cons (pg_name (i:=2) sc_left_by_while.nd rfl (Or.inl rfl)) (pgs_cons (pg_name (i:=3) sc_left_by_while.nd rfl (Or.inl rfl)) pgs_nil))) (pss_one (ps_if (PW.pt (pw_and (pt_cmpR op_eq (pe_callB call_len_seq rfl (fr_len T) b_len (pa_cons (pv 2) pa_nil)) pe_int (nomark _)) (pw_and1 (pt_cmpR op_gt (pe_ix ix_tup (pv 2) pe_int (fun _ _=>rfl)) pe_int (nomark _))))) (pss_one (ps_asg (pe_op op_cat (pe_lst (pa_cons pe_int pa_nil)) (pv 3)) (pg_sub (pv 1) (pe_tup (pa_cons (pe_ix ix_tup (pv 2) pe_int (fun _ _=>rfl)) (pa_cons (pe_op op_sub (pe_ix ix_tup (pv 2) pe_int (fun _ _=>rfl)) pe_int) pa_nil))) (FcW.set_way (hu_of hr))))) (pss_one (ps_if (pt_cmpR (op_inT hr) (pe_ix ix_tup (pv 2) pe_int (fun _ _=>rfl)) (pe_tup (pa_cons pe_str (pa_cons pe_str pa_nil))) (by rfl)) (pss_one (ps_asg (pe_op op_cat (pe_lst (pa_cons pe_int pa_nil)) (pv 3)) (pg_sub (pv 1) (pv 2) (FcW.set_way (hu_of hr))))) pss_nil))))) (pss_one (ps_ret (pv 1))))),?_⟩
  intro d o hd
  generalize e0:upd _ d _=H0
  obtain ⟨x0,s0,o0⟩:=new_of e0 hd
  clear e0
  refine ⟨sz (by simp),?_⟩
  intro p1 n1
  generalize e1:upd _ p1 _=H1
  obtain ⟨x1,s1,o1⟩:=new_of e1 n1
  clear e1
  have kt:FcW.KeysT K H1 [(wk .nrm,He.ga K "NORMAL",.ref p1)]:=fun x hx=>by
   obtain rfl:=List.mem_singleton.mp hx
   exact t_NORMAL T _
  refine ⟨x1 _ _ s0,_,rfl,by simp,kt,by simp,fun o'=>?_⟩
  have y0:=ex_put (u:=FcW.dW P w d o' [(wk .nrm,He.ga K "NORMAL",.ref p1)]) (Evl.Ex.trans x0 x1) hd
  have w0:=wt_disp (o':=o') (x1 _ _ s0) kt (t:=[(.nrm,[0])]) (.cons ⟨rfl,p1,rfl,s1,ex_none (xN.trans x0) n1⟩ .nil)
  refine ⟨_,rfl,c,ob,xs,rfl,y0 _ _ D.1,for_it FcW.walk_witems (fun j σ' H'=>∃ o2 o3,Ex H H'∧Wt P w K N H' d (whileT (tb.take j))∧σ'=[some (.ref c),some (.ref d),o2,o3]) ?_ ?_ ?_ ?_⟩
  ·exact ⟨_,_,y0,w0,rfl⟩
  ·rintro j σ' H' _ ⟨o2,o3,y1,_,rfl⟩
   exact y1 _ _ D.1
  ·rintro j v σ' H4 H5 hj ⟨o4,o5,y1,y2,rfl⟩ ⟨tq,u1,u2,rfl,n4,rfl,z1,z2⟩
   obtain ⟨e,he,rfl⟩:=Option.map_eq_some_iff.mp z1
   replace z2:(xs[j]?).map (fun e=>e.2.2)=some u2:=z2
   rw [he] at z2
   cases z2
   obtain ⟨p,hp,k1,al,k2,k3,k4⟩:=paired_get R he
   have e4:Ex H4 (upd H4 tq (.tup [.ref e.2.1,e.2.2])):=exu (Evl.Ex.refl _) n4
   refine ⟨tq,_,rfl,Evl.st_of upd_same,rfl,_,_,rfl,_,_,rfl,rfl,?_⟩
   generalize upd H4 tq (.tup [.ref e.2.1,e.2.2])=H6 at e4
   have x6:=Evl.Ex.trans y1 e4
   have w6:=wt_ex e4 y2
   have kq:SqT K H6 e.2.1 ((wk p.1).map kV):=by rw [← k1];exact Evl.ex_t x6 (D.2 e (List.mem_of_getElem? he))
   rw [whileT_take hp]
   have l5:p.2.length≤5000:=hn p (List.mem_of_getElem? hp)
   have lt:(whileT (tb.take j)).length≤2000:=by
    have:=len_whileT tb j (Nat.le_of_lt (List.getElem?_eq_some_iff.mp hp).1)
    have:=(List.getElem?_eq_some_iff.mp hp).1
    omega
   obtain ⟨pw,pa⟩:=p
   replace l5:pa.length≤5000:=l5
   have kk:=hk _ (List.mem_of_getElem? hp)
   cases pw with
   | nrm =>
    refine ⟨_,rfl,e.2.1,_,rfl,.inr kq,rfl,_,rfl,itF (decide_eq_false (show ¬ V.int 1=V.int 2 from by decide)) ?_⟩
    refine ⟨_,rfl,e.2.1,_,_,_,rfl,rfl,kq,atI_nat (j:=0) rfl,sz (by simp),?_⟩
    intro p7 n7
    generalize e7:upd _ p7 _=H7
    obtain ⟨x7,s7,o7⟩:=new_of e7 n7
    clear e7
    refine ⟨_,_,.str _,.tup (SqT.of s7) (.cons (.str _) (.cons (.str _) .nil)),(by kernel_rfl),(by kernel_rfl),(Nat.le_trans (Nat.min_le_right _ _) (show 0≤150 from by decide)),_,rfl,itF (by kernel_rfl) ?_⟩
    exact ⟨_,_,Evl.Ex.trans x6 x7,wt_ex x7 w6,rfl⟩
   | ret =>
    refine ⟨_,rfl,e.2.1,_,rfl,.inr kq,rfl,_,rfl,itF (decide_eq_false (show ¬ V.int 1=V.int 2 from by decide)) ?_⟩
    refine ⟨_,rfl,e.2.1,_,_,_,rfl,rfl,kq,atI_nat (j:=0) rfl,sz (by simp),?_⟩
    intro p7 n7
    generalize e7:upd _ p7 _=H7
    obtain ⟨x7,s7,o7⟩:=new_of e7 n7
    clear e7
    refine ⟨_,_,.str _,.tup (SqT.of s7) (.cons (.str _) (.cons (.str _) .nil)),(by kernel_rfl),(by kernel_rfl),(Nat.le_trans (Nat.min_le_right _ _) (show 0≤150 from by decide)),_,rfl,itT (by kernel_rfl) ?_⟩
    refine ⟨sz (by simp),?_⟩
    intro p8 n8
    generalize e8:upd _ p8 _=H8
    obtain ⟨x8,s8,o8⟩:=new_of e8 n8
    clear e8
    have y8:=Evl.Ex.trans x6 (Evl.Ex.trans x7 x8)
    refine ⟨_,rfl,p8,al,_,_,rfl,k2,s8,y8 _ _ k3,sz (by simp;omega),?_⟩
    intro p9 n9
    generalize e9:upd _ p9 _=H9
    obtain ⟨x9,s9,o9⟩:=new_of e9 n9
    clear e9
    obtain ⟨o9,xs9,D9,R9⟩:=wt_ex (Evl.Ex.trans x7 (Evl.Ex.trans x8 x9)) w6
    have kq9:=Evl.ex_t (Evl.Ex.trans x7 (Evl.Ex.trans x8 x9)) kq
    refine ⟨_,rfl,_,rfl,d,e.2.1,o9,xs9,wk .ret,rfl,rfl,D9,kq9,(by have:=Paired.length R9;rw [sizeLine_eq];omega),fun o'=>?_⟩
    obtain ⟨v1,v2⟩:=wt_put (o':=o') (v:=.ret) (ans:=1::pa) D9 R9 kq9 s9 (ex_none (xN.trans y8) n9)
    exact ⟨_,_,ex_exB (Evl.Ex.trans y8 x9) hd v2,v1,rfl⟩
   | rai =>
    refine ⟨_,rfl,e.2.1,_,rfl,.inr kq,rfl,_,rfl,itF (decide_eq_false (show ¬ V.int 1=V.int 2 from by decide)) ?_⟩
    refine ⟨_,rfl,e.2.1,_,_,_,rfl,rfl,kq,atI_nat (j:=0) rfl,sz (by simp),?_⟩
    intro p7 n7
    generalize e7:upd _ p7 _=H7
    obtain ⟨x7,s7,o7⟩:=new_of e7 n7
    clear e7
    refine ⟨_,_,.str _,.tup (SqT.of s7) (.cons (.str _) (.cons (.str _) .nil)),(by kernel_rfl),(by kernel_rfl),(Nat.le_trans (Nat.min_le_right _ _) (show 0≤150 from by decide)),_,rfl,itT (by kernel_rfl) ?_⟩
    refine ⟨sz (by simp),?_⟩
    intro p8 n8
    generalize e8:upd _ p8 _=H8
    obtain ⟨x8,s8,o8⟩:=new_of e8 n8
    clear e8
    have y8:=Evl.Ex.trans x6 (Evl.Ex.trans x7 x8)
    refine ⟨_,rfl,p8,al,_,_,rfl,k2,s8,y8 _ _ k3,sz (by simp;omega),?_⟩
    intro p9 n9
    generalize e9:upd _ p9 _=H9
    obtain ⟨x9,s9,o9⟩:=new_of e9 n9
    clear e9
    obtain ⟨o9,xs9,D9,R9⟩:=wt_ex (Evl.Ex.trans x7 (Evl.Ex.trans x8 x9)) w6
    have kq9:=Evl.ex_t (Evl.Ex.trans x7 (Evl.Ex.trans x8 x9)) kq
    refine ⟨_,rfl,_,rfl,d,e.2.1,o9,xs9,wk .rai,rfl,rfl,D9,kq9,(by have:=Paired.length R9;rw [sizeLine_eq];omega),fun o'=>?_⟩
    obtain ⟨v1,v2⟩:=wt_put (o':=o') (v:=.rai) (ans:=1::pa) D9 R9 kq9 s9 (ex_none (xN.trans y8) n9)
    exact ⟨_,_,ex_exB (Evl.Ex.trans y8 x9) hd v2,v1,rfl⟩
   | brk k =>
    have k1':1≤k:=kk k (.inl rfl)
    refine ⟨_,rfl,e.2.1,_,rfl,.inr kq,rfl,_,rfl,itT (decide_eq_true (show V.int 2=V.int 2 from rfl)) ?_⟩
    refine ⟨_,rfl,e.2.1,_,_,_,rfl,rfl,kq,atI_nat (j:=1) rfl,_,_,rfl,rfl,_,rfl,ite_of (fun h1=>?_) (fun h1=>?_)⟩
    ·obtain ⟨m,rfl⟩:∃ m,k=m + 2:=⟨k - 2,by have:=of_decide_eq_true h1;omega⟩
     refine ⟨sz (by simp),?_⟩
     intro p8 n8
     generalize e8:upd _ p8 _=H8
     obtain ⟨x8,s8,o8⟩:=new_of e8 n8
     clear e8
     have y8:=Evl.Ex.trans x6 x8
     refine ⟨_,rfl,p8,al,_,_,rfl,k2,s8,y8 _ _ k3,sz (by simp;omega),?_⟩
     intro p9 n9
     generalize e9:upd _ p9 _=H9
     obtain ⟨x9,s9,o9⟩:=new_of e9 n9
     clear e9
     have z9:=Evl.Ex.trans x8 x9
     have kq9:=Evl.ex_t z9 kq
     refine ⟨_,rfl,_,rfl,e.2.1,_,_,_,rfl,rfl,kq9,atI_nat (j:=0) rfl,_,rfl,e.2.1,_,_,_,rfl,rfl,kq9,atI_nat (j:=1) rfl,_,_,rfl,rfl,sz (by simp),?_⟩
     intro p3 n3
     generalize e3:upd _ p3 _=H3
     obtain ⟨x3,s3,o3⟩:=new_of e3 n3
     clear e3
     have z3:=Evl.Ex.trans z9 x3
     obtain ⟨o9,xs9,D9,R9⟩:=wt_ex z3 w6
     have kq3:SqT K H3 p3 ((wk (.brk (m + 1))).map kV):=by
      refine SqT.of ?_
      rw [s3]
      show some (HO.tup [V.str "break",V.int (((m + 2:Nat):Int) - 1)])=some (HO.tup [V.str "break",V.int ((m + 1:Nat):Int)])
      rw [show ((m + 2:Nat):Int) - 1=((m + 1:Nat):Int) from by omega]
     refine ⟨d,p3,o9,xs9,wk (.brk (m + 1)),rfl,rfl,D9,kq3,(by have:=Paired.length R9;rw [sizeLine_eq];omega),fun o'=>?_⟩
     obtain ⟨v1,v2⟩:=wt_put (o':=o') (v:=.brk (m + 1)) (ans:=1::pa) D9 R9 kq3 (x3 _ _ s9) (ex_none (xN.trans y8) n9)
     exact ⟨_,_,ex_exB (Evl.Ex.trans x6 z3) hd v2,v1,rfl⟩
    ·obtain rfl:k=1:=by have:=of_decide_eq_false h1;omega
     refine ⟨_,rfl,e.2.1,_,_,_,rfl,rfl,kq,atI_nat (j:=0) rfl,sz (by simp),?_⟩
     intro p7 n7
     generalize e7:upd _ p7 _=H7
     obtain ⟨x7,s7,o7⟩:=new_of e7 n7
     clear e7
     refine ⟨_,_,.str _,.tup (SqT.of s7) (.cons (.str _) (.cons (.str _) .nil)),(by kernel_rfl),(by kernel_rfl),(Nat.le_trans (Nat.min_le_right _ _) (show 0≤150 from by decide)),_,rfl,itF (by kernel_rfl) ?_⟩
     exact ⟨_,_,Evl.Ex.trans x6 x7,wt_ex x7 w6,rfl⟩
   | cnt k =>
    have k1':1≤k:=kk k (.inr rfl)
    refine ⟨_,rfl,e.2.1,_,rfl,.inr kq,rfl,_,rfl,itT (decide_eq_true (show V.int 2=V.int 2 from rfl)) ?_⟩
    refine ⟨_,rfl,e.2.1,_,_,_,rfl,rfl,kq,atI_nat (j:=1) rfl,_,_,rfl,rfl,_,rfl,ite_of (fun h1=>?_) (fun h1=>?_)⟩
    ·obtain ⟨m,rfl⟩:∃ m,k=m + 2:=⟨k - 2,by have:=of_decide_eq_true h1;omega⟩
     refine ⟨sz (by simp),?_⟩
     intro p8 n8
     generalize e8:upd _ p8 _=H8
     obtain ⟨x8,s8,o8⟩:=new_of e8 n8
     clear e8
     have y8:=Evl.Ex.trans x6 x8
     refine ⟨_,rfl,p8,al,_,_,rfl,k2,s8,y8 _ _ k3,sz (by simp;omega),?_⟩
     intro p9 n9
     generalize e9:upd _ p9 _=H9
     obtain ⟨x9,s9,o9⟩:=new_of e9 n9
     clear e9
     have z9:=Evl.Ex.trans x8 x9
     have kq9:=Evl.ex_t z9 kq
     refine ⟨_,rfl,_,rfl,e.2.1,_,_,_,rfl,rfl,kq9,atI_nat (j:=0) rfl,_,rfl,e.2.1,_,_,_,rfl,rfl,kq9,atI_nat (j:=1) rfl,_,_,rfl,rfl,sz (by simp),?_⟩
     intro p3 n3
     generalize e3:upd _ p3 _=H3
     obtain ⟨x3,s3,o3⟩:=new_of e3 n3
     clear e3
     have z3:=Evl.Ex.trans z9 x3
     obtain ⟨o9,xs9,D9,R9⟩:=wt_ex z3 w6
     have kq3:SqT K H3 p3 ((wk (.cnt (m + 1))).map kV):=by
      refine SqT.of ?_
      rw [s3]
      show some (HO.tup [V.str "continue",V.int (((m + 2:Nat):Int) - 1)])=some (HO.tup [V.str "continue",V.int ((m + 1:Nat):Int)])
      rw [show ((m + 2:Nat):Int) - 1=((m + 1:Nat):Int) from by omega]
     refine ⟨d,p3,o9,xs9,wk (.cnt (m + 1)),rfl,rfl,D9,kq3,(by have:=Paired.length R9;rw [sizeLine_eq];omega),fun o'=>?_⟩
     obtain ⟨v1,v2⟩:=wt_put (o':=o') (v:=.cnt (m + 1)) (ans:=1::pa) D9 R9 kq3 (x3 _ _ s9) (ex_none (xN.trans y8) n9)
     exact ⟨_,_,ex_exB (Evl.Ex.trans x6 z3) hd v2,v1,rfl⟩
    ·obtain rfl:k=1:=by have:=of_decide_eq_false h1;omega
     refine ⟨_,rfl,e.2.1,_,_,_,rfl,rfl,kq,atI_nat (j:=0) rfl,sz (by simp),?_⟩
     intro p7 n7
     generalize e7:upd _ p7 _=H7
     obtain ⟨x7,s7,o7⟩:=new_of e7 n7
     clear e7
     refine ⟨_,_,.str _,.tup (SqT.of s7) (.cons (.str _) (.cons (.str _) .nil)),(by kernel_rfl),(by kernel_rfl),(Nat.le_trans (Nat.min_le_right _ _) (show 0≤150 from by decide)),_,rfl,itF (by kernel_rfl) ?_⟩
     exact ⟨_,_,Evl.Ex.trans x6 x7,wt_ex x7 w6,rfl⟩
  ·rintro σ' H' ⟨o2,o3,y1,y2,rfl⟩
   rw [Paired.length R,List.take_length] at y2
   exact ⟨_,rfl,q _ _ y1 hd y2⟩
end
end
section
open FcM (Way Node Tab)
theorem nrm_dpW {w:World} {h:Heap} {K:PySem.W.Frag} {mg:Str→Option Value} (T:Tx w h K mg) (F:Hp):Dp K F (.ref (He.ga K "NORMAL")) (FcW.keyD (wk .nrm)):=.tup (t_NORMAL T F) (.cons (.str _) .nil)
theorem rai_dpW {w:World} {h:Heap} {K:PySem.W.Frag} {mg:Str→Option Value} (T:Tx w h K mg) (F:Hp):Dp K F (.ref (He.ga K "RAISE")) (FcW.keyD (wk .rai)):=.tup (t_RAISE T F) (.cons (.str _) .nil)
theorem eqv_key (a b : Key) : PyData.eqv (FcW.kD a) (FcW.kD b) = decide (a = b) := by
  cases a with
  | inl i => cases b with
    | inl j => by_cases e : i = j
               · subst e; simp [FcW.kD, PyData.eqv]
               · simp [FcW.kD, PyData.eqv, e]
    | inr y => simp [FcW.kD, PyData.eqv]
  | inr x => cases b with
    | inl j => simp [FcW.kD, PyData.eqv]
    | inr y => by_cases e : x = y
               · subst e; simp [FcW.kD, PyData.eqv]
               · simp [FcW.kD, PyData.eqv, e]
theorem eqv_keys:∀ a b:List Key,PyData.eqvAll (a.map FcW.kD) (b.map FcW.kD)=decide (a=b)
 | [],[]=>by simp [PyData.eqvAll]
 | [],_::_=>by simp [PyData.eqvAll]
 | _::_,[]=>by simp [PyData.eqvAll]
 | x::xs,y::ys=>by
  rw [List.map_cons,List.map_cons,PyData.eqvAll,eqv_keys xs ys,eqv_key]
  by_cases e:x=y
  ·subst e;simp
  ·simp [e]
theorem eqv_wk (a b:Way):PyData.eqv (FcW.keyD (wk a)) (FcW.keyD (wk b))=decide (a=b):=by
 show PyData.eqv (.tuple _) (.tuple _)=_
 rw [PyData.eqv,eqv_keys]
 by_cases e:a=b
 ·subst e;simp
 ·rw [decide_eq_false e,decide_eq_false fun z=>e (wk_inj z)]
theorem can_wk (a:Way):PyData.canLay0 (FcW.keyD (wk a))=true:=by
 cases a<;>kernel_rfl
theorem dep_wk (a:Way):(FcW.keyD (wk a)).depth=1:=by simp only [FcW.keyD,PyData.depth,FcW.depth_kD]
theorem filter_take {tb:Tw} {j:Nat} {p:Way×List Int} (q:Way×List Int→Bool) (h:tb[j]?=some p):(tb.take (j + 1)).filter q=(tb.take j).filter q++(if q p=true then [p] else []):=by
 rw [List.take_add_one,h,show (some p).toList=[p] from rfl,List.filter_append]
 congr 1
 by_cases e:q p=true
 ·rw [if_pos e,List.filter_cons_of_pos e]<;>rfl
 ·rw [if_neg e,List.filter_cons_of_neg e]<;>rfl
theorem lkT_mem {t:Tw} {v:Way} {l:List Int} (h:lk t v=some l):∃ p∈t,p.2=l:=by
 obtain ⟨p,h1,h2⟩:=Option.map_eq_some_iff.mp h
 exact ⟨p,List.mem_of_find?_eq_some h1,h2⟩
def sp_tryW (P:Program) (w:World) (K:PySem.W.Frag):Sp:=fun vs H Q _=>∃ (N:Hp) (c e:Addr) (tb th:Tw),Ex N H∧vs=[.ref c,.ref e]∧Wt P w K N H c tb∧Wt P w K N H e th∧tb.length + th.length≤2000∧(∀ p∈tb,p.2.length≤5000)∧(∀ p∈th,p.2.length≤5000) ∧
 ∀ H' d,Ex H H'→H d=none→Wt P w K N H' d (tryT tb th)→Q (.ref d) H'
section
variable {P:Program} {w:World} {h:Heap} {K:PySem.W.Frag} {mg:Str→Option Value} {base:Heap}
abbrev N_left_by_try:List Str:=["body","handler","found","way","answers"]
theorem sc_left_by_try:FnScope N_left_by_try ["body","handler"] (defScope sd_left_by_try):=⟨rfl,rfl,rfl,by decide +kernel,rfl,by decide +kernel,by decide +kernel⟩
theorem ok_left_by_try (T:Tx w h K mg):Ok P w K mg base 3 ("left_by_try",none) ["body","handler"] (sp_tryW P w K):=by
 obtain ⟨fd,F⟩:=F_left_by_try T
 refine ⟨fd,?_,F.bindsN (fun _ _ _ _ _ _ us hl=>match us,hl with | [_,_],_=>rfl),F.kp⟩
 obtain ⟨fd_keep_first,G_keep_first,bi_keep_first,kp_keep_first⟩:=ok_keep_first (P:=P) (base:=base) T
 refine F.ok sc_left_by_try (fun vs H Q E h=>?_) (fun cdv A outer s H vs Q E hr h=>?_)
 ·obtain ⟨N,c,e,tb,th,xN,rfl,⟨oc,xc,Dc,Rc⟩,⟨oe,xe,De,Re⟩,hl,hn,hm,q⟩:=h
  rfl
 ·obtain ⟨N,c,e,tb,th,xN,rfl,⟨oc,xc,Dc,Rc⟩,⟨oe,xe,De,Re⟩,hl,hn,hm,q⟩:=h
  refine ⟨_,PSs.nox (pss_cons (ps_set (i:=2) sc_left_by_try.nd rfl (Or.inl rfl) FcW.pe_wnew) (pss_cons (ps_for PassesOwn.never rfl (FcW.pi_witems (pv 0)) (pg_tup rfl (pgs_cons (pg_name (i:=3) sc_left_by_try.nd rfl (Or.inl rfl)) (pgs_cons (pg_name (i:=4) sc_left_by_try.nd rfl (Or.inl rfl)) pgs_nil))) (pss_one (ps_if (pt_cmpR (op_neM hr) (pv 3) (pe_glob (v:=.ref (He.ga K "RAISE")) rfl (g_RAISE T) rfl) (nomark _)) (pss_one (ps_expr (pe_call G_keep_first (hr.mono (by decide)) rfl (g_keep_first T) kp_keep_first bi_keep_first .nil passF (pa_cons (pv 2) (pa_cons (pv 3) (pa_cons (pv 4) pa_nil)))))) pss_nil))) (pss_cons (ps_if (pt_cmpR (FcW.op_inW (hu_of hr)) (pe_glob (v:=.ref (He.ga K "RAISE")) rfl (g_RAISE T) rfl) (pv 0) (by rfl)) (pss_one (ps_for PassesOwn.never rfl (FcW.pi_witems (pv 1)) (pg_tup rfl (pgs_cons (pg_name (i:=3) sc_left_by_try.nd rfl (Or.inl rfl)) (pgs_cons (pg_name (i:=4) sc_left_by_try.nd rfl (Or.inl rfl)) pgs_nil))) (pss_one (ps_expr (pe_call G_keep_first (hr.mono (by decide)) rfl (g_keep_first T) kp_keep_first bi_keep_first .nil passF (pa_cons (pv 2) (pa_cons (pv 3) (pa_cons (pe_op op_cat (pe_ix (FcW.ix_way (hu_of hr)) (pv 0) (pe_glob (v:=.ref (He.ga K "RAISE")) rfl (g_RAISE T) rfl) (fun _ _=>rfl)) (pv 4)) pa_nil)))))))) pss_nil) (pss_one (ps_ret (pv 2)))))),?_⟩
  intro d o hd
  generalize e0:upd _ d _=H0
  obtain ⟨x0,s0,o0⟩:=new_of e0 hd
  clear e0
  refine ⟨_,rfl,c,oc,xc,rfl,x0 _ _ Dc.1,for_it FcW.walk_witems (fun j σ' H'=>∃ o3 o4,Ex H H'∧Wt P w K N H' d (keepAll [] ((tb.take j).filter fun e=>decide (e.1≠.rai)) id)∧σ'=[some (.ref c),some (.ref e),some (.ref d),o3,o4]) ?_ ?_ ?_ ?_⟩
  ·exact ⟨_,_,x0,⟨o,[],⟨s0,fun x hx=>nomatch hx⟩,.nil⟩,rfl⟩
  ·rintro j σ' H' _ ⟨o3,o4,y1,_,rfl⟩
   exact y1 _ _ Dc.1
  ·rintro j v σ' H4 H5 hj ⟨o3,o4,y1,y2,rfl⟩ ⟨tq,u1,u2,rfl,n4,rfl,z1,z2⟩
   obtain ⟨en,he,rfl⟩:=Option.map_eq_some_iff.mp z1
   replace z2:(xc[j]?).map (fun e=>e.2.2)=some u2:=z2
   rw [he] at z2
   cases z2
   obtain ⟨p,hp,k1,al,k2,k3,k4⟩:=paired_get Rc he
   have e4:Ex H4 (upd H4 tq (.tup [.ref en.2.1,en.2.2])):=exu (Evl.Ex.refl _) n4
   refine ⟨tq,_,rfl,Evl.st_of upd_same,rfl,_,_,rfl,_,_,rfl,rfl,?_⟩
   generalize upd H4 tq (.tup [.ref en.2.1,en.2.2])=H6 at e4
   have x6:=Evl.Ex.trans y1 e4
   have w6:=wt_ex e4 y2
   have kq:SqT K H6 en.2.1 ((wk p.1).map kV):=by rw [← k1];exact Evl.ex_t x6 (Dc.2 en (List.mem_of_getElem? he))
   rw [filter_take _ hp]
   have lt:(keepAll [] ((tb.take j).filter fun e=>decide (e.1≠.rai)) id).length≤2000:=by
    have h1:=len_keepAll id ((tb.take j).filter fun e=>decide (e.1≠.rai)) []
    have h2:=List.length_filter_le (fun e:Way×List Int=>decide (e.1≠.rai)) (tb.take j)
    rw [List.length_take] at h2
    simp only [List.length_nil] at h1
    omega
   refine ⟨_,rfl,_,_,FcW.dp_key kq,rai_dpW T _,can_wk _,can_wk _,(Nat.le_trans (Nat.min_le_left _ _) (by rw [dep_wk];decide)),_,rfl,ite_of (fun h1=>?_) (fun h1=>?_)⟩
   ·have hv:p.1≠.rai:=fun z=>by rw [eqv_wk,z] at h1;simp at h1
    rw [if_pos (decide_eq_true hv)]
    refine ⟨_,rfl,_,rfl,_,rfl,N,d,en.2.1,al,_,p.1,p.2,(by show [V.ref d,V.ref en.2.1,en.2.2]=_;rw [k2]),k4,w6,kq,x6 _ _ k3,lt,fun H9 b9 w9=>⟨_,_,ex_exB x6 hd b9,?_,rfl⟩⟩
    rw [keepAll_snoc]
    exact w9
   ·have hv:p.1=.rai:=by
     rw [eqv_wk] at h1
     exact of_decide_eq_true (by simpa using h1)
    rw [if_neg (by simp [hv]),List.append_nil]
    exact ⟨_,_,x6,w6,rfl⟩
  ·rintro σ' H' ⟨o3,o4,y1,y2,rfl⟩
   rw [Paired.length Rc,List.take_length] at y2
   have D1:=wd_ex y1 Dc
   rcases tbr_val Rc .rai with ⟨hval,e2⟩ | ⟨cc,old,hval,e2,hold⟩
   ·refine ⟨_,rfl,c,He.ga K "RAISE",oc,xc,wk .rai,rfl,rfl,D1,t_RAISE T _,?_⟩
    rw [hval]
    refine ⟨_,rfl,itF rfl ⟨_,rfl,q _ _ y1 hd ?_⟩⟩
    unfold tryT
    rw [e2]
    exact y2
   ·refine ⟨_,rfl,c,He.ga K "RAISE",oc,xc,wk .rai,rfl,rfl,D1,t_RAISE T _,?_⟩
    rw [hval]
    refine ⟨_,rfl,itT rfl ⟨_,rfl,e,oe,xe,rfl,y1 _ _ De.1,for_it FcW.walk_witems (fun j σ' H'=>∃ o3 o4,Ex H H'∧Wt P w K N H' d (keepAll (keepAll [] (tb.filter fun e=>decide (e.1≠.rai)) id) (th.take j) (fun y=>old++y))∧σ'=[some (.ref c),some (.ref e),some (.ref d),o3,o4]) ?_ ?_ ?_ ?_⟩⟩
    ·exact ⟨_,_,y1,y2,rfl⟩
    ·rintro j σ' H' _ ⟨o3,o4,y1,_,rfl⟩
     exact y1 _ _ De.1
    ·rintro j v σ' H4 H5 hj ⟨o3,o4,y1,y2,rfl⟩ ⟨tq,u1,u2,rfl,n4,rfl,z1,z2⟩
     obtain ⟨en,he,rfl⟩:=Option.map_eq_some_iff.mp z1
     replace z2:(xe[j]?).map (fun e=>e.2.2)=some u2:=z2
     rw [he] at z2
     cases z2
     obtain ⟨p,hp,k1,al,k2,k3,k4⟩:=paired_get Re he
     have e4:Ex H4 (upd H4 tq (.tup [.ref en.2.1,en.2.2])):=exu (Evl.Ex.refl _) n4
     refine ⟨tq,_,rfl,Evl.st_of upd_same,rfl,_,_,rfl,_,_,rfl,rfl,?_⟩
     generalize upd H4 tq (.tup [.ref en.2.1,en.2.2])=H6 at e4
     have x6:=Evl.Ex.trans y1 e4
     have l5:p.2.length≤5000:=hm p (List.mem_of_getElem? hp)
     have l6:old.length≤5000:=by
      obtain ⟨z,hz,ez⟩:=lkT_mem e2
      rw [← ez]
      exact hn z hz
     refine ⟨_,rfl,_,rfl,_,rfl,c,He.ga K "RAISE",oc,xc,wk .rai,_,rfl,rfl,wd_ex x6 Dc,t_RAISE T _,hval,_,rfl,cc,al,_,_,rfl,k2,x6 _ _ hold,x6 _ _ k3,sz (by simp;omega),?_⟩
     intro p8 n8
     generalize e8:upd _ p8 _=H8
     obtain ⟨x8,s8,o8⟩:=new_of e8 n8
     clear e8
     have y8:=Evl.Ex.trans x6 x8
     have w8:=wt_ex (Evl.Ex.trans e4 x8) y2
     have s8':H8 p8=some (.lst ((old++p.2).map V.int)):=by rw [s8,List.map_append]
     have lt:(keepAll (keepAll [] (tb.filter fun e=>decide (e.1≠.rai)) id) (th.take j) (fun y=>old++y)).length≤2000:=by
      have h1:=len_keepAll id (tb.filter fun e=>decide (e.1≠.rai)) []
      have h2:=List.length_filter_le (fun e:Way×List Int=>decide (e.1≠.rai)) tb
      have h3:=len_keepAll (fun y=>old++y) (th.take j) (keepAll [] (tb.filter fun e=>decide (e.1≠.rai)) id)
      rw [List.length_take] at h3
      simp only [List.length_nil] at h1
      omega
     have kq:SqT K H8 en.2.1 ((wk p.1).map kV):=by rw [← k1];exact Evl.ex_t y8 (De.2 en (List.mem_of_getElem? he))
     refine ⟨N,d,en.2.1,p8,_,p.1,_,rfl,ex_none (xN.trans x6) n8,w8,kq,s8',lt,fun H9 b9 w9=>⟨_,_,ex_exB y8 hd b9,?_,rfl⟩⟩
     rw [List.take_add_one,hp]
     show Wt P w K N H9 d (keepAll _ (th.take j++[p]) _)
     rw [keepAll_snoc]
     exact w9
    ·rintro σ' H' ⟨o3,o4,y1,y2,rfl⟩
     rw [Paired.length Re,List.take_length] at y2
     refine ⟨_,rfl,q _ _ y1 hd ?_⟩
     unfold tryT
     rw [e2]
     exact y2
end
end
section
open FcM (Way Node Tab)
theorem shortF:∀ (t:Tw) (b:Option (List Int)),b.isSome=true∨t≠[]→∃ l,t.foldl (fun b p=>match b with | none=>some p.2 | some y=>if befL p.2 y=true then some p.2 else some y) b=some l∧(b=some l∨∃ p∈t,p.2=l)
 | [],b,h=>by
  rcases h with h | h
  ·obtain ⟨l,e⟩:=Option.isSome_iff_exists.mp h
   exact ⟨l,e,.inl e⟩
  ·exact absurd rfl h
 | p::t,b,_=>by
  have key:∃ l',(match b with | none=>some p.2 | some y=>if befL p.2 y=true then some p.2 else some y)=some l'∧(b=some l'∨p.2=l'):=by
   cases b with
   | none=>exact ⟨_,rfl,.inr rfl⟩
   | some y =>
    by_cases e:befL p.2 y=true
    ·exact ⟨p.2,if_pos e,.inr rfl⟩
    ·exact ⟨y,if_neg e,.inl rfl⟩
  obtain ⟨l',e1,e2⟩:=key
  rw [List.foldl_cons,e1]
  obtain ⟨l,e3,e4⟩:=shortF t (some l') (.inl rfl)
  refine ⟨l,e3,?_⟩
  rcases e4 with e4 | ⟨q,hq,eq⟩
  ·cases e4
   rcases e2 with e2 | e2
   ·exact .inl e2
   ·exact .inr ⟨p,List.mem_cons_self,e2⟩
  ·exact .inr ⟨q,List.mem_cons_of_mem _ hq,eq⟩
theorem shortT_some {t:Tw} (h:t≠[]):∃ l,shortT t=some l∧∃ p∈t,p.2=l:=by
 obtain ⟨l,e1,e2⟩:=shortF t none (.inr h)
 rcases e2 with e2 | e2
 ·exact nomatch e2
 ·exact ⟨l,e1,e2⟩
def sp_finW (P:Program) (w:World) (K:PySem.W.Frag):Sp:=fun vs H Q _=>∃ (N:Hp) (c e:Addr) (tb th:Tw),Ex N H∧vs=[.ref c,.ref e]∧Wt P w K N H c tb∧Wt P w K N H e th∧tb≠[]∧tb.length + th.length≤2000∧(∀ p∈tb,p.2.length≤5000)∧(∀ p∈th,p.2.length≤5000) ∧
 ∀ H' d,Ex H H'→H d=none→Wt P w K N H' d (finT tb th)→Q (.ref d) H'
section
variable {P:Program} {w:World} {h:Heap} {K:PySem.W.Frag} {mg:Str→Option Value} {base:Heap}
abbrev N_left_by_final:List Str:=["body","block","found","way","answers","begun"]
theorem sc_left_by_final:FnScope N_left_by_final ["body","block"] (defScope sd_left_by_final):=⟨rfl,rfl,rfl,by decide +kernel,rfl,by decide +kernel,by decide +kernel⟩
theorem ok_left_by_final (T:Tx w h K mg):Ok P w K mg base 3 ("left_by_final",none) ["body","block"] (sp_finW P w K):=by
 obtain ⟨fd,F⟩:=F_left_by_final T
 refine ⟨fd,?_,F.bindsN (fun _ _ _ _ _ _ us hl=>match us,hl with | [_,_],_=>rfl),F.kp⟩
 obtain ⟨fd_first_shortest,G_first_shortest,bi_first_shortest,kp_first_shortest⟩:=ok_first_shortest (P:=P) (base:=base) T
 obtain ⟨fd_keep_first,G_keep_first,bi_keep_first,kp_keep_first⟩:=ok_keep_first (P:=P) (base:=base) T
 refine F.ok sc_left_by_final (fun vs H Q E h=>?_) (fun cdv A outer s H vs Q E hr h=>?_)
 ·obtain ⟨N,c,e,tb,th,xN,rfl,⟨oc,xc,Dc,Rc⟩,⟨oe,xe,De,Re⟩,hne,hl,hn,hm,q⟩:=h
  rfl
 ·obtain ⟨N,c,e,tb,th,xN,rfl,⟨oc,xc,Dc,Rc⟩,⟨oe,xe,De,Re⟩,hne,hl,hn,hm,q⟩:=h
  refine ⟨_,PSs.nox (pss_cons (ps_set (i:=2) sc_left_by_final.nd rfl (Or.inl rfl) FcW.pe_wnew) (Evl.pss_cut (ps_if (pt_cmpR (FcW.op_inW (hu_of hr)) (pe_glob (v:=.ref (He.ga K "NORMAL")) rfl (g_NORMAL T) rfl) (pv 1) (by rfl)) (pss_one (ps_for PassesOwn.never rfl (FcW.pi_witems (pv 0)) (pg_tup rfl (pgs_cons (pg_name (i:=3) sc_left_by_final.nd rfl (Or.inl rfl)) (pgs_cons (pg_name (i:=4) sc_left_by_final.nd rfl (Or.inl rfl)) pgs_nil))) (pss_one (ps_expr (pe_call G_keep_first (hr.mono (by decide)) rfl (g_keep_first T) kp_keep_first bi_keep_first .nil passF (pa_cons (pv 2) (pa_cons (pv 3) (pa_cons (pe_op op_cat (pv 4) (pe_ix (FcW.ix_way (hu_of hr)) (pv 1) (pe_glob (v:=.ref (He.ga K "NORMAL")) rfl (g_NORMAL T) rfl) (fun _ _=>rfl))) pa_nil)))))))) pss_nil) (pss_cons (ps_set (i:=5) sc_left_by_final.nd rfl (Or.inl rfl) (pe_call G_first_shortest (hr.mono (by decide)) rfl (g_first_shortest T) kp_first_shortest bi_first_shortest .nil passF (pa_cons (pv 0) pa_nil))) (pss_cons (ps_for PassesOwn.never rfl (FcW.pi_witems (pv 1)) (pg_tup rfl (pgs_cons (pg_name (i:=3) sc_left_by_final.nd rfl (Or.inl rfl)) (pgs_cons (pg_name (i:=4) sc_left_by_final.nd rfl (Or.inl rfl)) pgs_nil))) (pss_one (ps_if (pt_cmpR (op_neM hr) (pv 3) (pe_glob (v:=.ref (He.ga K "NORMAL")) rfl (g_NORMAL T) rfl) (nomark _)) (pss_one (ps_expr (pe_call G_keep_first (hr.mono (by decide)) rfl (g_keep_first T) kp_keep_first bi_keep_first .nil passF (pa_cons (pv 2) (pa_cons (pv 3) (pa_cons (pe_op op_cat (pv 5) (pv 4)) pa_nil)))))) pss_nil))) (pss_one (ps_ret (pv 2))))))),?_⟩
  intro d o hd
  generalize e0:upd _ d _=H0
  obtain ⟨x0,s0,o0⟩:=new_of e0 hd
  clear e0
  have t1:∃ t1:Tw,(t1=match lk th .nrm with | none=>[] | some y=>keepAll [] tb (fun x=>x++y)):=⟨_,rfl⟩
  obtain ⟨t1,et⟩:=t1
  refine ⟨fun σ' H'=>∃ o3 o4,Ex H H'∧Wt P w K N H' d t1∧σ'=[some (.ref c),some (.ref e),some (.ref d),o3,o4,none],?_,?_⟩
  ·rcases tbr_val Re .nrm with ⟨hval,e2⟩ | ⟨cc,old,hval,e2,hold⟩
   ·refine ⟨_,rfl,e,He.ga K "NORMAL",oe,xe,wk .nrm,rfl,rfl,wd_ex x0 De,t_NORMAL T _,?_⟩
    rw [hval]
    refine ⟨_,rfl,itF rfl ⟨_,_,x0,?_,rfl⟩⟩
    rw [e2] at et
    rw [et]
    exact ⟨o,[],⟨s0,fun x hx=>nomatch hx⟩,.nil⟩
   ·rw [e2] at et
    replace et:t1=keepAll [] tb (fun x=>x++old):=et
    have l6:old.length≤5000:=by
     obtain ⟨z,hz,ez⟩:=lkT_mem e2
     rw [← ez]
     exact hm z hz
    refine ⟨_,rfl,e,He.ga K "NORMAL",oe,xe,wk .nrm,rfl,rfl,wd_ex x0 De,t_NORMAL T _,?_⟩
    rw [hval]
    refine ⟨_,rfl,itT rfl ⟨_,rfl,c,oc,xc,rfl,x0 _ _ Dc.1,for_it FcW.walk_witems (fun j σ' H'=>∃ o3 o4,Ex H H'∧Wt P w K N H' d (keepAll [] (tb.take j) (fun x=>x++old))∧σ'=[some (.ref c),some (.ref e),some (.ref d),o3,o4,none]) ?_ ?_ ?_ ?_⟩⟩
    ·exact ⟨_,_,x0,⟨o,[],⟨s0,fun x hx=>nomatch hx⟩,.nil⟩,rfl⟩
    ·rintro j σ' H' _ ⟨o3,o4,y1,_,rfl⟩
     exact y1 _ _ Dc.1
    ·rintro j v σ' H4 H5 hj ⟨o3,o4,y1,y2,rfl⟩ ⟨tq,u1,u2,rfl,n4,rfl,z1,z2⟩
     obtain ⟨en,he,rfl⟩:=Option.map_eq_some_iff.mp z1
     replace z2:(xc[j]?).map (fun e=>e.2.2)=some u2:=z2
     rw [he] at z2
     cases z2
     obtain ⟨p,hp,k1,al,k2,k3,k4⟩:=paired_get Rc he
     have e4:Ex H4 (upd H4 tq (.tup [.ref en.2.1,en.2.2])):=exu (Evl.Ex.refl _) n4
     refine ⟨tq,_,rfl,Evl.st_of upd_same,rfl,_,_,rfl,_,_,rfl,rfl,?_⟩
     generalize upd H4 tq (.tup [.ref en.2.1,en.2.2])=H6 at e4
     have x6:=Evl.Ex.trans y1 e4
     have l5:p.2.length≤5000:=hn p (List.mem_of_getElem? hp)
     refine ⟨_,rfl,_,rfl,_,rfl,_,rfl,e,He.ga K "NORMAL",oe,xe,wk .nrm,_,rfl,rfl,wd_ex x6 De,t_NORMAL T _,hval,al,cc,_,_,k2,rfl,x6 _ _ k3,x6 _ _ hold,sz (by simp;omega),?_⟩
     intro p8 n8
     generalize e8:upd _ p8 _=H8
     obtain ⟨x8,s8,o8⟩:=new_of e8 n8
     clear e8
     have y8:=Evl.Ex.trans x6 x8
     have w8:=wt_ex (Evl.Ex.trans e4 x8) y2
     have s8':H8 p8=some (.lst ((p.2++old).map V.int)):=by rw [s8,List.map_append]
     have lt:(keepAll [] (tb.take j) (fun x=>x++old)).length≤2000:=by
      have h3:=len_keepAll (fun x=>x++old) (tb.take j) []
      rw [List.length_take] at h3
      simp only [List.length_nil] at h3
      omega
     have kq:SqT K H8 en.2.1 ((wk p.1).map kV):=by rw [← k1];exact Evl.ex_t y8 (Dc.2 en (List.mem_of_getElem? he))
     refine ⟨N,d,en.2.1,p8,_,p.1,_,rfl,ex_none (xN.trans x6) n8,w8,kq,s8',lt,fun H9 b9 w9=>⟨_,_,ex_exB y8 hd b9,?_,rfl⟩⟩
     rw [List.take_add_one,hp]
     show Wt P w K N H9 d (keepAll _ (tb.take j++[p]) _)
     rw [keepAll_snoc]
     exact w9
    ·rintro σ' H' ⟨o3,o4,y1,y2,rfl⟩
     rw [Paired.length Rc,List.take_length,← et] at y2
     exact ⟨_,_,y1,y2,rfl⟩
  ·rintro σ' H1 ⟨o3,o4,y1,y2,rfl⟩
   obtain ⟨bg,ebg,pb,hpb,epb⟩:=shortT_some hne
   refine ⟨_,rfl,N,c,tb,rfl,wt_ex y1 ⟨oc,xc,Dc,Rc⟩,fun H2 bv x2 hb=>?_⟩
   rw [ebg] at hb
   obtain ⟨ba,rfl,hba⟩:=hb
   have l6:bg.length≤5000:=by rw [← epb];exact hn pb hpb
   have lt1:t1.length≤tb.length:=by
    rw [et]
    split
    ·simp
    ·rename_i y _
     have h3:=len_keepAll (fun x=>x++y) tb []
     simpa using h3
   have yy:=Evl.Ex.trans y1 x2
   refine ⟨_,rfl,e,oe,xe,rfl,yy _ _ De.1,for_it FcW.walk_witems (fun j σ' H'=>∃ o3 o4,Ex H H'∧H' ba=some (.lst (bg.map V.int))∧Wt P w K N H' d (keepAll t1 ((th.take j).filter fun e=>decide (e.1≠.nrm)) (fun y=>bg++y))∧σ'=[some (.ref c),some (.ref e),some (.ref d),o3,o4,some (.ref ba)]) ?_ ?_ ?_ ?_⟩
   ·exact ⟨_,_,yy,hba,wt_ex x2 y2,rfl⟩
   ·rintro j σ' H' _ ⟨o3,o4,y1,_,_,rfl⟩
    exact y1 _ _ De.1
   ·rintro j v σ' H4 H5 hj ⟨o3,o4,y1,y3,y2,rfl⟩ ⟨tq,u1,u2,rfl,n4,rfl,z1,z2⟩
    obtain ⟨en,he,rfl⟩:=Option.map_eq_some_iff.mp z1
    replace z2:(xe[j]?).map (fun e=>e.2.2)=some u2:=z2
    rw [he] at z2
    cases z2
    obtain ⟨p,hp,k1,al,k2,k3,k4⟩:=paired_get Re he
    have e4:Ex H4 (upd H4 tq (.tup [.ref en.2.1,en.2.2])):=exu (Evl.Ex.refl _) n4
    refine ⟨tq,_,rfl,Evl.st_of upd_same,rfl,_,_,rfl,_,_,rfl,rfl,?_⟩
    generalize upd H4 tq (.tup [.ref en.2.1,en.2.2])=H6 at e4
    have x6:=Evl.Ex.trans y1 e4
    have w6:=wt_ex e4 y2
    have kq:SqT K H6 en.2.1 ((wk p.1).map kV):=by rw [← k1];exact Evl.ex_t x6 (De.2 en (List.mem_of_getElem? he))
    have l5:p.2.length≤5000:=hm p (List.mem_of_getElem? hp)
    rw [filter_take _ hp]
    have lt:(keepAll t1 ((th.take j).filter fun e=>decide (e.1≠.nrm)) (fun y=>bg++y)).length≤2000:=by
     have h1:=len_keepAll (fun y=>bg++y) ((th.take j).filter fun e=>decide (e.1≠.nrm)) t1
     have h2:=List.length_filter_le (fun e:Way×List Int=>decide (e.1≠.nrm)) (th.take j)
     rw [List.length_take] at h2
     omega
    refine ⟨_,rfl,_,_,FcW.dp_key kq,nrm_dpW T _,can_wk _,can_wk _,(Nat.le_trans (Nat.min_le_left _ _) (by rw [dep_wk];decide)),_,rfl,ite_of (fun h1=>?_) (fun h1=>?_)⟩
    ·have hv:p.1≠.nrm:=fun z=>by rw [eqv_wk,z] at h1;simp at h1
     rw [if_pos (decide_eq_true hv)]
     refine ⟨_,rfl,_,rfl,_,rfl,_,rfl,ba,al,_,_,rfl,k2,e4 _ _ y3,x6 _ _ k3,sz (by simp;omega),?_⟩
     intro p8 n8
     generalize e8:upd _ p8 _=H8
     obtain ⟨x8,s8,o8⟩:=new_of e8 n8
     clear e8
     have s8':H8 p8=some (.lst ((bg++p.2).map V.int)):=by rw [s8,List.map_append]
     have y8:=Evl.Ex.trans x6 x8
     refine ⟨N,d,en.2.1,p8,_,p.1,_,rfl,ex_none (xN.trans x6) n8,wt_ex x8 w6,Evl.ex_t x8 kq,s8',lt,fun H9 b9 w9=>⟨_,_,ex_exB y8 hd b9,?_,?_,rfl⟩⟩
     ·exact b9 _ _ (fun z=>by
       obtain ⟨o7,xs7,D7,_⟩:=wt_ex x8 w6
       have a1:=x8 _ _ (e4 _ _ y3)
       rw [z,D7.1] at a1
       cases a1) (x8 _ _ (e4 _ _ y3))
     ·rw [keepAll_snoc]
      exact w9
    ·have hv:p.1=.nrm:=by
      rw [eqv_wk] at h1
      exact of_decide_eq_true (by simpa using h1)
     rw [if_neg (by simp [hv]),List.append_nil]
     exact ⟨_,_,x6,e4 _ _ y3,w6,rfl⟩
   ·rintro σ' H' ⟨o3,o4,y1,_,y2,rfl⟩
    rw [Paired.length Re,List.take_length] at y2
    refine ⟨_,rfl,q _ _ y1 hd ?_⟩
    unfold finT
    rw [ebg]
    subst et
    exact y2
end
end
section
open FcM (Way Node Tab)
def sp_seqW (P:Program) (w:World) (K:PySem.W.Frag):Sp:=fun vs H Q _=>∃ (N:Hp) (a:Addr) (ds:List Addr) (ps:List Tw),Ex N H∧vs=[.ref a]∧SqL K H a (ds.map V.ref)∧Paired (fun d t=>Wt P w K N H d t) ds ps∧(ps.map List.length).sum≤2000∧(∀ t∈ps,∀ p∈t,p.2.length≤5000)∧ps.length≤400 ∧
 ∀ H' d,Ex H H'→H d=none→Wt P w K N H' d (seqT ps [] [])→Q (.ref d) H'
section
variable {P:Program} {w:World} {h:Heap} {K:PySem.W.Frag} {mg:Str→Option Value} {base:Heap}
abbrev N_left_by_seq:List Str:=["parts","found","before","part","way","answers"]
theorem sc_left_by_seq:FnScope N_left_by_seq ["parts"] (defScope sd_left_by_seq):=⟨rfl,rfl,rfl,by decide +kernel,rfl,by decide +kernel,by decide +kernel⟩
theorem ok_left_by_seq (T:Tx w h K mg):Ok P w K mg base 3 ("left_by_seq",none) ["parts"] (sp_seqW P w K):=by
 obtain ⟨fd,F⟩:=F_left_by_seq T
 refine ⟨fd,?_,F.bindsN (fun _ _ _ _ _ _ us hl=>match us,hl with | [_],_=>rfl),F.kp⟩
 obtain ⟨fd_keep_first,G_keep_first,bi_keep_first,kp_keep_first⟩:=ok_keep_first (P:=P) (base:=base) T
 refine F.ok sc_left_by_seq (fun vs H Q E h=>?_) (fun cdv A outer s H vs Q E hr h=>?_)
 ·obtain ⟨N,a,ds,ps,xN,rfl,ha,pr,hl,hn,hc,q⟩:=h
  rfl
 ·obtain ⟨N,a,ds,ps,xN,rfl,ha,pr,hl,hn,hc,q⟩:=h
  refine ⟨_,PSs.nox (pss_cons (ps_set (i:=1) sc_left_by_seq.nd rfl (Or.inl rfl) FcW.pe_wnew) (pss_cons (ps_set (i:=2) sc_left_by_seq.nd rfl (Or.inl rfl) (pe_lst pa_nil)) (pss_cons (ps_for PassesOwn.never rfl (pi_list (pv 0)) (pg_name (i:=3) sc_left_by_seq.nd rfl (Or.inl rfl)) (pss_cons (ps_for PassesOwn.never rfl (FcW.pi_witems (pv 3)) (pg_tup rfl (pgs_cons (pg_name (i:=4) sc_left_by_seq.nd rfl (Or.inl rfl)) (pgs_cons (pg_name (i:=5) sc_left_by_seq.nd rfl (Or.inl rfl)) pgs_nil))) (pss_one (ps_if (pt_cmpR (op_neM hr) (pv 4) (pe_glob (v:=.ref (He.ga K "NORMAL")) rfl (g_NORMAL T) rfl) (nomark _)) (pss_one (ps_expr (pe_call G_keep_first (hr.mono (by decide)) rfl (g_keep_first T) kp_keep_first bi_keep_first .nil passF (pa_cons (pv 1) (pa_cons (pv 4) (pa_cons (pe_op op_cat (pv 2) (pv 5)) pa_nil)))))) pss_nil))) (pss_cons (ps_if (pt_cmpR (FcW.op_notinW (hu_of hr)) (pe_glob (v:=.ref (He.ga K "NORMAL")) rfl (g_NORMAL T) rfl) (pv 3) (by rfl)) (pss_one (ps_ret (pv 1))) pss_nil) (pss_one (ps_set (i:=2) sc_left_by_seq.nd rfl (Or.inl rfl) (pe_op op_cat (pv 2) (pe_ix (FcW.ix_way (hu_of hr)) (pv 3) (pe_glob (v:=.ref (He.ga K "NORMAL")) rfl (g_NORMAL T) rfl) (fun _ _=>rfl)))))))) (pss_cons (ps_asg (pv 2) (pg_sub (pv 1) (pe_glob (v:=.ref (He.ga K "NORMAL")) rfl (g_NORMAL T) rfl) (FcW.set_way (hu_of hr)))) (pss_one (ps_ret (pv 1))))))),?_⟩
  intro d o hd
  generalize e0:upd _ d _=H0
  obtain ⟨x0,s0,o0⟩:=new_of e0 hd
  clear e0
  refine ⟨sz (by simp),?_⟩
  intro p1 n1
  generalize e1:upd _ p1 _=H1
  obtain ⟨x1,s1,o1⟩:=new_of e1 n1
  clear e1
  refine ⟨_,rfl,a,rfl,⟨_,Evl.ex_l (Evl.Ex.trans x0 x1) ha⟩,for_it (walk_list (xs:=ds.map V.ref)) (fun i σ' H'=>∃ (o3 o4 o5:Option V) (bf:Addr) (t:Tw) (b:List Int),Ex H H'∧H' bf=some (.lst (b.map V.int))∧Wt P w K N H' d t∧b.length≤5000 * i∧t.length≤((ps.take i).map List.length).sum∧seqT ps [] []=seqT (ps.drop i) t b∧N bf=none∧σ'=[some (.ref a),some (.ref d),some (.ref bf),o3,o4,o5]) ?_ ?_ ?_ ?_⟩
  ·exact ⟨_,_,_,p1,[],[],Evl.Ex.trans x0 x1,s1,wt_ex x1 ⟨o,[],⟨s0,fun x hx=>nomatch hx⟩,.nil⟩,by simp,by simp,by simp,ex_none (xN.trans x0) n1,rfl⟩
  ·rintro i σ' H' _ ⟨o3,o4,o5,bf,t,b,y1,_,_,_,_,_,_,rfl⟩
   exact Evl.ex_l y1 ha
  ·rintro i v σ' H2 H3 hi ⟨o3,o4,o5,bf,t,b,y1,y2,y3,y4,y5,y6,yN,rfl⟩ ⟨rfl,z⟩
   obtain ⟨dp,hdp,rfl⟩:∃ dp,ds[i]?=some dp∧v=.ref dp:=by
    rw [List.getElem?_map] at z
    obtain ⟨dp,e1,e2⟩:=Option.map_eq_some_iff.mp z
    exact ⟨dp,e1,e2.symm⟩
   obtain ⟨tb,htb,ob,xs,D,R⟩:=paired_get pr hdp
   have hil:=(List.getElem?_eq_some_iff.mp htb).1
   have hb2:b.length≤2000000:=by omega
   have hs:=sum_at htb
   have dr:ps.drop i=tb::ps.drop (i + 1):=by
    rw [List.drop_eq_getElem_cons hil]
    congr 1
    exact (List.getElem?_eq_some_iff.mp htb).2
   refine ⟨_,rfl,dp,ob,xs,rfl,y1 _ _ D.1,for_it FcW.walk_witems (fun j σ' H'=>∃ o4 o5,Ex H H'∧H' bf=some (.lst (b.map V.int))∧Wt P w K N H' d (keepAll t ((tb.take j).filter fun e=>decide (e.1≠.nrm)) (fun x=>b++x))∧σ'=[some (.ref a),some (.ref d),some (.ref bf),some (.ref dp),o4,o5]) ?_ ?_ ?_ ?_⟩
   ·exact ⟨_,_,y1,y2,y3,rfl⟩
   ·rintro j σ' H' _ ⟨o3,o4,y1,_,_,rfl⟩
    exact y1 _ _ D.1
   ·rintro j v σ' H4 H5 hj ⟨o3,o4,y1,y3,y2,rfl⟩ ⟨tq,u1,u2,rfl,n4,rfl,z1,z2⟩
    obtain ⟨en,he,rfl⟩:=Option.map_eq_some_iff.mp z1
    replace z2:(xs[j]?).map (fun e=>e.2.2)=some u2:=z2
    rw [he] at z2
    cases z2
    obtain ⟨p,hp,k1,al,k2,k3,k4⟩:=paired_get R he
    have e4:Ex H4 (upd H4 tq (.tup [.ref en.2.1,en.2.2])):=exu (Evl.Ex.refl _) n4
    refine ⟨tq,_,rfl,Evl.st_of upd_same,rfl,_,_,rfl,_,_,rfl,rfl,?_⟩
    generalize upd H4 tq (.tup [.ref en.2.1,en.2.2])=H6 at e4
    have x6:=Evl.Ex.trans y1 e4
    have w6:=wt_ex e4 y2
    have kq:SqT K H6 en.2.1 ((wk p.1).map kV):=by rw [← k1];exact Evl.ex_t x6 (D.2 en (List.mem_of_getElem? he))
    have l5:p.2.length≤5000:=hn tb (List.mem_of_getElem? htb) p (List.mem_of_getElem? hp)
    rw [filter_take _ hp]
    have lt:(keepAll t ((tb.take j).filter fun e=>decide (e.1≠.nrm)) (fun x=>b++x)).length≤2000:=by
     have h1:=len_keepAll (fun x=>b++x) ((tb.take j).filter fun e=>decide (e.1≠.nrm)) t
     have h2:=List.length_filter_le (fun e:Way×List Int=>decide (e.1≠.nrm)) (tb.take j)
     rw [List.length_take] at h2
     omega
    refine ⟨_,rfl,_,_,FcW.dp_key kq,nrm_dpW T _,can_wk _,can_wk _,(Nat.le_trans (Nat.min_le_left _ _) (by rw [dep_wk];decide)),_,rfl,ite_of (fun h1=>?_) (fun h1=>?_)⟩
    ·have hv:p.1≠.nrm:=fun z=>by rw [eqv_wk,z] at h1;simp at h1
     rw [if_pos (decide_eq_true hv)]
     refine ⟨_,rfl,_,rfl,_,rfl,_,rfl,bf,al,_,_,rfl,k2,e4 _ _ y3,x6 _ _ k3,(by rw [List.length_map,List.length_map,sizeLine_eq];omega),?_⟩
     intro p8 n8
     generalize e8:upd _ p8 _=H8
     obtain ⟨x8,s8,o8⟩:=new_of e8 n8
     clear e8
     have s8':H8 p8=some (.lst ((b++p.2).map V.int)):=by rw [s8,List.map_append]
     have y8:=Evl.Ex.trans x6 x8
     refine ⟨N,d,en.2.1,p8,_,p.1,_,rfl,ex_none (xN.trans x6) n8,wt_ex x8 w6,Evl.ex_t x8 kq,s8',lt,fun H9 b9 w9=>⟨_,_,ex_exB y8 hd b9,?_,?_,rfl⟩⟩
     ·exact b9 _ _ (fun z=>by
       obtain ⟨o7,xs7,D7,_⟩:=wt_ex x8 w6
       have a1:=x8 _ _ (e4 _ _ y3)
       rw [z,D7.1] at a1
       cases a1) (x8 _ _ (e4 _ _ y3))
     ·rw [keepAll_snoc]
      exact w9
    ·have hv:p.1=.nrm:=by
      rw [eqv_wk] at h1
      exact of_decide_eq_true (by simpa using h1)
     rw [if_neg (by simp [hv]),List.append_nil]
     exact ⟨_,_,x6,e4 _ _ y3,w6,rfl⟩
   ·rintro σ' H4 ⟨o4,o5,y1,y3,y2,rfl⟩
    rw [Paired.length R,List.take_length] at y2
    rw [dr] at y6
    have lk1:(keepAll t (tb.filter fun e=>decide (e.1≠.nrm)) (fun x=>b++x)).length≤((ps.take (i + 1)).map List.length).sum:=by
     have h1:=len_keepAll (fun x=>b++x) (tb.filter fun e=>decide (e.1≠.nrm)) t
     have h2:=List.length_filter_le (fun e:Way×List Int=>decide (e.1≠.nrm)) tb
     rw [List.take_add_one,htb]
     simp only [Option.toList_some,List.map_append,List.map_cons,List.map_nil,List.sum_append,List.sum_cons,List.sum_nil]
     omega
    have kn:SqT K H4 (He.ga K "NORMAL") ((wk .nrm).map kV):=t_NORMAL T _
    rcases tbr_val R .nrm with ⟨hval,e2⟩ | ⟨cc,old,hval,e2,hold⟩
    ·refine ⟨_,rfl,dp,He.ga K "NORMAL",ob,xs,wk .nrm,rfl,rfl,wd_ex y1 D,kn,?_⟩
     rw [hval]
     refine ⟨_,rfl,itT rfl ⟨_,rfl,q _ _ y1 hd ?_⟩⟩
     rw [y6]
     unfold seqT
     rw [e2]
     exact y2
    ·have l6:old.length≤5000:=by
      obtain ⟨z,hz,ez⟩:=lkT_mem e2
      rw [← ez]
      exact hn tb (List.mem_of_getElem? htb) z hz
     refine ⟨_,rfl,dp,He.ga K "NORMAL",ob,xs,wk .nrm,rfl,rfl,wd_ex y1 D,kn,?_⟩
     rw [hval]
     refine ⟨_,rfl,itF rfl ⟨_,rfl,_,rfl,dp,He.ga K "NORMAL",ob,xs,wk .nrm,_,rfl,rfl,wd_ex y1 D,kn,hval,bf,cc,_,_,rfl,rfl,y3,y1 _ _ hold,(by rw [List.length_map,List.length_map,sizeLine_eq];omega),?_⟩⟩
     intro p8 n8
     generalize e8:upd _ p8 _=H8
     obtain ⟨x8,s8,o8⟩:=new_of e8 n8
     clear e8
     refine ⟨_,_,_,p8,_,b++old,Evl.Ex.trans y1 x8,(by rw [s8,List.map_append]),wt_ex x8 y2,(by rw [List.length_append];omega),lk1,?_,ex_none (xN.trans y1) n8,rfl⟩
     rw [y6]
     conv=>lhs;unfold seqT
     rw [e2]
  ·rintro σ' H' ⟨o3,o4,o5,bf,t,b,y1,y2,y3,y4,y5,y6,yN,rfl⟩
   rw [List.length_map,Paired.length pr,List.drop_length] at y6
   rw [List.length_map,Paired.length pr,List.take_length] at y5
   obtain ⟨o9,xs9,D9,R9⟩:=y3
   have kn:SqT K H' (He.ga K "NORMAL") ((wk .nrm).map kV):=t_NORMAL T _
   refine ⟨_,rfl,_,rfl,d,He.ga K "NORMAL",o9,xs9,wk .nrm,rfl,rfl,D9,kn,(by have:=Paired.length R9;rw [sizeLine_eq];omega),fun o'=>?_⟩
   obtain ⟨v1,v2⟩:=wt_put (o':=o') (v:=.nrm) (ans:=b) D9 R9 kn y2 yN
   exact ⟨_,rfl,q _ _ (ex_exB y1 hd v2) hd (by rw [y6];exact v1)⟩
end
end
section
inductive OkS:Nat→Nat→Nat→Nat→PyData→Prop
 | mk {loops deep blocks:Nat} {d:PyData} (wt:Nat→Nat) (st:isStm d (loops:Int)=true) (hd:deep≤100) (hb:blocks≤25) (ps:∀ i p,(partsD d)[i]?=some p→OkS (loops + wl d) (deep + 1) (blocks + (if kindD d="final"∧i=1 then 1 else 0)) (wt i) p):OkS loops deep blocks (1 + ((List.range (partsD d).length).map wt).sum) d
inductive OkL:List WIt→Nat→Prop
 | nil:OkL [] 0
 | cons {it:WIt} {st:List WIt} {w n:Nat} (h:OkS it.loops it.deep it.blocks w it.d) (r:OkL st n):OkL (it::st) (w + n)
theorem OkL.app {b:List WIt} {y:Nat} (hb:OkL b y):∀ {a:List WIt} {x:Nat},OkL a x→OkL (a++b) (x + y)
 | _,_,.nil=>by rw [Nat.zero_add];exact hb
 | _,_,.cons h r=>by rw [Nat.add_assoc];exact .cons h (OkL.app hb r)
theorem okL_parts {it:WIt} {n:Nat}:∀ (ps:List PyData) (k:Nat) (wt:Nat→Nat),(∀ i p,ps[i]?=some p→OkS (it.loops + wl it.d) (it.deep + 1) (it.blocks + (if kindD it.d="final"∧k + i=1 then 1 else 0)) (wt i) p)→OkL (ps.mapIdx fun i p=>newIt it n (k + i) p) (((List.range ps.length).map wt).sum)
 | [],_,_,_=>.nil
 | p::ps,k,wt,h=>by
  rw [List.mapIdx_cons,List.length_cons,List.range_succ_eq_map,List.map_cons,List.sum_cons,List.map_map]
  refine .cons (h 0 p rfl) ?_
  have z:=okL_parts (it:=it) (n:=n) ps (k + 1) (fun i=>wt (i + 1)) fun i q hq=>by
   have y:=h (i + 1) q (by simpa using hq)
   have e:k + (i + 1)=k + 1 + i:=by omega
   rw [e] at y
   exact y
  have e2:(ps.mapIdx fun i p=>newIt it n (k + (i + 1)) p)=ps.mapIdx fun i p=>newIt it n (k + 1 + i) p:=by
   congr 1
   funext i p
   rw [show k + (i + 1)=k + 1 + i by omega]
  rw [e2]
  exact z
theorem builds_of:∀ (N:Nat) (st:List WIt) (rows:List Row),OkL st N→rows.length + N≤400→∃ fin,Builds N st rows fin∧fin.length=rows.length + N:=by
 intro N
 induction N with
 | zero =>
  intro st rows h _
  have:st=[]:=by
   generalize e:0=z at h
   cases h with
   | nil=>rfl
   | cons h r=>cases h;omega
  subst this
  exact ⟨rows,.done rows,rfl⟩
 | succ N ih =>
  intro st rows h hl
  generalize e:N + 1=z at h
  cases h with
  | nil=>cases e
  | @cons it st w n h r =>
   obtain ⟨d,par,deep,loops,blocks⟩:=it
   dsimp only at h
   cases h with
   | mk wt s1 s2 s3 s4 =>
    have nw:OkL (newIts ⟨d,par,deep,loops,blocks⟩ rows.length) (((List.range (partsD d).length).map wt).sum):=by
     have z:=okL_parts (it:=⟨d,par,deep,loops,blocks⟩) (n:=rows.length) (partsD d) 0 wt fun i p hp=>by
      rw [Nat.zero_add]
      exact s4 i p hp
     have e2:((partsD d).mapIdx fun i p=>newIt ⟨d,par,deep,loops,blocks⟩ rows.length (0 + i) p)=newIts ⟨d,par,deep,loops,blocks⟩ rows.length:=by
      unfold newIts
      congr 1
      funext i p
      rw [Nat.zero_add]
     rw [e2] at z
     exact z
    have eN:((List.range (partsD d).length).map wt).sum + n=N:=by omega
    have nw2:=OkL.app r nw
    rw [eN] at nw2
    obtain ⟨fin,b,l⟩:=ih _ (addRow rows d par) nw2 (by rw [addRow_len];omega)
    have eZ:1 + ((List.range (partsD d).length).map wt).sum + n=N + 1:=by omega
    rw [eZ]
    exact ⟨fin,.step ⟨by omega,s2,s3,s1⟩ b,by rw [l,addRow_len];omega⟩
end
end Fc
set_option maxRecDepth 100000
set_option maxHeartbeats 4000000
namespace FcM
section
variable {t:Tab} {bits:List Bool}
inductive Wg (t:Tab):Nat→Nat→Prop
 | mk {n:Nat} (wt:Nat→Nat) (r:∀ c∈(t.nd n).ch,Wg t (wt c) c):Wg t (1 + ((t.nd n).ch.map wt).sum) n
def Bd (w u:Nat) (v:List Nat) (r:Rs):Prop:=u≤r.2.1∧r.2.2.length≤v.length + w * (r.2.1 - u + 1)
theorem Bd.mono {w w' u:Nat} {v:List Nat} {r:Rs} (h:Bd w u v r) (e:w≤w'):Bd w' u v r:=⟨h.1,Nat.le_trans h.2 (Nat.add_le_add_left (Nat.mul_le_mul_right _ e) _)⟩
theorem Bd.seq {w1 w2 u u1 u2:Nat} {v v1 v2:List Nat} {x y:Wt} (a:Bd w1 u v (x,u1,v1)) (b:Bd w2 u1 v1 (y,u2,v2)):Bd (w1 + w2) u v (y,u2,v2):=by
 obtain ⟨a1,a2⟩:=a
 obtain ⟨b1,b2⟩:=b
 dsimp only at a1 a2 b1 b2
 refine ⟨Nat.le_trans a1 b1,?_⟩
 dsimp only
 have e1:w1 * (u1 - u + 1)≤w1 * (u2 - u + 1):=Nat.mul_le_mul_left _ (by omega)
 have e2:w2 * (u2 - u1 + 1)≤w2 * (u2 - u + 1):=Nat.mul_le_mul_left _ (by omega)
 rw [Nat.add_mul]
 omega
end
end FcM
set_option maxRecDepth 100000
set_option maxHeartbeats 4000000
namespace Fc
open PySem PySem.Spec PyProof.Rows L2 FcR
open Evl (Ex)
section
open FcM (Way Node Tab)
def stepT (nd:Node) (g:Nat→Tw):Tw :=
 match nd with
 | .iff a b=>ifT (g a) (g b)
 | .whl a=>whileT (g a)
 | .seq l=>seqT (l.map g) [] []
 | .tr a b=>tryT (g a) (g b)
 | .fin a b=>finT (g a) (g b)
 | .do_=>leafT .do_
 | .call=>leafT .call
 | .ret=>leafT .ret
 | .rai=>leafT .rai
 | .brk k=>leafT (.brk k)
 | .cnt k=>leafT (.cnt k)
def tbF (t:Tab):Nat→Nat→Tw
 | 0,_=>[]
 | f + 1,n=>stepT (t.nd n) (tbF t f)
def tbN (t:Tab) (n:Nat):Tw:=tbF t t.len n
theorem stepT_congr {nd:Node} {g g':Nat→Tw} (h:∀ c∈nd.ch,g c=g' c):stepT nd g=stepT nd g':=by
 cases nd with
 | iff a b=>show ifT (g a) (g b)=ifT (g' a) (g' b);rw [h a (by simp [Node.ch]),h b (by simp [Node.ch])]
 | whl a=>show whileT (g a)=whileT (g' a);rw [h a (by simp [Node.ch])]
 | seq l=>show seqT (l.map g) [] []=seqT (l.map g') [] [];rw [List.map_congr_left (l:=l) h]
 | tr a b=>show tryT (g a) (g b)=tryT (g' a) (g' b);rw [h a (by simp [Node.ch]),h b (by simp [Node.ch])]
 | fin a b=>show finT (g a) (g b)=finT (g' a) (g' b);rw [h a (by simp [Node.ch]),h b (by simp [Node.ch])]
 | _=>rfl
theorem tbF_eq {t:Tab} {lp:Nat→Nat} (W:t.WF lp):∀ (f f' n:Nat),n<t.len→t.len - n≤f→t.len - n≤f'→tbF t f n=tbF t f' n
 | 0,_,n,h,h1,_=>by omega
 | _,0,n,h,_,h2=>by omega
 | f + 1,f' + 1,n,h,h1,h2=>by
  show stepT _ _=stepT _ _
  refine stepT_congr fun c hc=>?_
  obtain ⟨h3,h4,_⟩:=W.dn n h c hc
  exact tbF_eq W f f' c h4 (by omega) (by omega)
theorem tbN_eq {t:Tab} {lp:Nat→Nat} (W:t.WF lp) {n:Nat} (h:n<t.len):tbN t n=stepT (t.nd n) (tbN t):=by
 show tbF t t.len n=_
 rw [tbF_eq W t.len (t.len + 1) n h (by omega) (by omega)]<;>rfl
theorem mem_putT {t:Tw} {v:Way} {ans:List Int} {p:Way×List Int} (h:p∈putT t v ans):p=(v,ans)∨p∈t:=by
 unfold putT at h
 split at h
 ·obtain ⟨q,hq,e⟩:=List.mem_map.mp h
  by_cases z:q.1=v
  ·rw [if_pos z] at e;rw [← e,z];exact .inl rfl
  ·rw [if_neg z] at e;rw [← e];exact .inr hq
 ·rcases List.mem_append.mp h with h | h
  ·exact .inr h
  ·exact .inl (List.mem_singleton.mp h)
theorem mem_keepT {t:Tw} {v:Way} {ans:List Int} {p:Way×List Int} (h:p∈keepT t v ans):p=(v,ans)∨p∈t:=by
 unfold keepT at h
 split at h
 ·exact mem_putT h
 ·split at h
  ·exact mem_putT h
  ·exact .inr h
theorem mem_keepAll {f:List Int→List Int} {p:Way×List Int}:∀ {ps t:Tw},p∈keepAll t ps f→p∈t∨∃ q∈ps,p=(q.1,f q.2)
 | [],t,h=>.inl h
 | q::ps,t,h=>by
  rcases mem_keepAll (ps:=ps) (t:=keepT t q.1 (f q.2)) h with h | ⟨r,hr,e⟩
  ·rcases mem_keepT h with h | h
   ·exact .inr ⟨q,List.mem_cons_self,h⟩
   ·exact .inl h
  ·exact .inr ⟨r,List.mem_cons_of_mem _ hr,e⟩
theorem putT_ne (t:Tw) (v:Way) (ans:List Int):putT t v ans≠[]:=by
 unfold putT
 split
 ·rename_i h
  cases t with
  | nil=>exact absurd h (by simp [lk])
  | cons p t=>simp
 ·simp
theorem keepT_ne (t:Tw) (v:Way) (ans:List Int):keepT t v ans≠[]:=by
 unfold keepT
 split
 ·exact putT_ne _ _ _
 ·rename_i old h
  split
  ·exact putT_ne _ _ _
  ·intro z;rw [z] at h;exact nomatch h
theorem keepAll_ne (f:List Int→List Int):∀ (ps t:Tw),t≠[]∨ps≠[]→keepAll t ps f≠[]
 | [],t,h=>by
  rcases h with h | h
  ·exact h
  ·exact absurd rfl h
 | q::ps,t,_=>keepAll_ne f ps (keepT t q.1 (f q.2)) (.inl (keepT_ne _ _ _))
theorem mem_whileStep {t:Tw} {q p:Way×List Int} (h:p∈whileStep t q):p∈t∨(p.2=1::q.2∧((∃ k,q.1=.brk (k + 2)∧p.1=.brk (k + 1))∨(∃ k,q.1=.cnt (k + 2)∧p.1=.cnt (k + 1))∨(q.1=.ret∧p.1=.ret)∨(q.1=.rai∧p.1=.rai))):=by
 obtain ⟨v,a⟩:=q
 unfold whileStep at h
 split at h<;>rename_i e<;>try dsimp only at e
 ·rcases mem_putT h with h | h
  ·subst h;exact .inr ⟨rfl,.inl ⟨_,e,rfl⟩⟩
  ·exact .inl h
 ·rcases mem_putT h with h | h
  ·subst h;exact .inr ⟨rfl,.inr (.inl ⟨_,e,rfl⟩)⟩
  ·exact .inl h
 ·rcases mem_putT h with h | h
  ·subst h;exact .inr ⟨rfl,.inr (.inr (.inl ⟨e,rfl⟩))⟩
  ·exact .inl h
 ·rcases mem_putT h with h | h
  ·subst h;exact .inr ⟨rfl,.inr (.inr (.inr ⟨e,rfl⟩))⟩
  ·exact .inl h
 ·exact .inl h
theorem len_whileStep (t:Tw) (q:Way×List Int):(whileStep t q).length≤t.length + 1:=by
 unfold whileStep
 split<;>first | exact len_putT _ _ _ | omega
theorem whileStep_ne {t:Tw} (q:Way×List Int) (h:t≠[]):whileStep t q≠[]:=by
 unfold whileStep
 split<;>first | exact putT_ne _ _ _ | exact h
structure TG (m l:Nat) (t:Tw):Prop where
 ne:t≠[]
 len:t.length≤2 * m
 an:∀ p∈t,p.2.length≤m
 ok:∀ p∈t,FcM.WOk l p.1
theorem tg_if {l x y:Nat} {a b:Tw} (ha:TG x l a) (hb:TG y l b):TG (1 + (x + y)) l (ifT a b):=by
 unfold ifT
 have l1:=len_keepAll (fun x=>0::x) a []
 have l2:=len_keepAll (fun x=>1::x) b (keepAll [] a (fun x=>0::x))
 have l3:=ha.len
 have l4:=hb.len
 simp only [List.length_nil] at l1
 have mm:∀ p∈keepAll (keepAll [] a (fun x=>0::x)) b (fun x=>1::x),(∃ q∈a,p=(q.1,0::q.2))∨∃ q∈b,p=(q.1,1::q.2):=fun p h=>by
  rcases mem_keepAll h with h | h
  ·rcases mem_keepAll h with h | h
   ·exact nomatch h
   ·exact .inl h
  ·exact .inr h
 refine ⟨keepAll_ne _ _ _ (.inr hb.ne),by omega,fun p h=>?_,fun p h=>?_⟩
 ·rcases mm p h with ⟨q,hq,rfl⟩ | ⟨q,hq,rfl⟩
  ·have:=ha.an q hq;simp;omega
  ·have:=hb.an q hq;simp;omega
 ·rcases mm p h with ⟨q,hq,rfl⟩ | ⟨q,hq,rfl⟩
  ·exact ha.ok q hq
  ·exact hb.ok q hq
theorem tg_while {l x:Nat} {a:Tw} (ha:TG x (l + 1) a):TG (1 + x) l (whileT a):=by
 have key:∀ (ps t:Tw),t≠[]→(∀ p∈ps,p∈a)→(∀ p∈t,p.2.length≤1 + x)→(∀ p∈t,FcM.WOk l p.1) →
   ps.foldl whileStep t≠[]∧(ps.foldl whileStep t).length≤t.length + ps.length∧(∀ p∈ps.foldl whileStep t,p.2.length≤1 + x)∧∀ p∈ps.foldl whileStep t,FcM.WOk l p.1:=by
  intro ps
  induction ps with
  | nil=>exact fun t h1 _ h2 h3=>⟨h1,Nat.le_refl _,h2,h3⟩
  | cons q ps ih =>
   intro t h1 h0 h2 h3
   have hq:=h0 q List.mem_cons_self
   have hx:=ha.an q hq
   have hw:=ha.ok q hq
   obtain ⟨i1,i2,i3,i4⟩:=ih (whileStep t q) (whileStep_ne q h1) (fun p hp=>h0 p (List.mem_cons_of_mem _ hp)) (fun p hp=>by
    rcases mem_whileStep hp with hp | ⟨e,_⟩
    ·exact h2 p hp
    ·rw [e,List.length_cons];omega) (fun p hp=>by
    rcases mem_whileStep hp with hp | ⟨_,⟨k,e1,e2⟩ | ⟨k,e1,e2⟩ | ⟨e1,e2⟩ | ⟨e1,e2⟩⟩
    ·exact h3 p hp
    ·rw [e1] at hw;rw [e2];exact ⟨by omega,by have:=hw.2;omega⟩
    ·rw [e1] at hw;rw [e2];exact ⟨by omega,by have:=hw.2;omega⟩
    ·rw [e2];exact True.intro
    ·rw [e2];exact True.intro)
   have:=len_whileStep t q
   refine ⟨i1,?_,i3,i4⟩
   rw [List.foldl_cons,List.length_cons]
   omega
 obtain ⟨k1,k2,k3,k4⟩:=key a [(.nrm,[0])] (by simp) (fun p hp=>hp) (fun p hp=>by rw [List.mem_singleton.mp hp];simp) (fun p hp=>by rw [List.mem_singleton.mp hp];exact True.intro)
 have:=ha.len
 simp only [List.length_cons,List.length_nil] at k2
 exact ⟨k1,by unfold whileT;omega,k3,k4⟩
theorem tg_try {l x y:Nat} {a b:Tw} (ha:TG x l a) (hb:TG y l b):TG (1 + (x + y)) l (tryT a b):=by
 unfold tryT
 have l1:=len_keepAll id (a.filter fun e=>decide (e.1≠.rai)) []
 have l0:=List.length_filter_le (fun e:Way×List Int=>decide (e.1≠.rai)) a
 have l3:=ha.len
 have l4:=hb.len
 simp only [List.length_nil] at l1
 have m1:∀ p∈keepAll [] (a.filter fun e=>decide (e.1≠.rai)) id,p∈a:=fun p h=>by
  rcases mem_keepAll h with h | ⟨q,hq,rfl⟩
  ·exact nomatch h
  ·exact (List.mem_filter.mp hq).1
 dsimp only
 split
 ·rename_i e
  refine ⟨keepAll_ne _ _ _ (.inr fun z=>?_),by omega,fun p h=>by have:=ha.an p (m1 p h);omega,fun p h=>ha.ok p (m1 p h)⟩
  obtain ⟨q,ta,rfl⟩:=List.exists_cons_of_ne_nil ha.ne
  by_cases v:q.1=.rai
  ·rw [lk_pos v] at e;exact nomatch e
  ·rw [List.filter_cons_of_pos (by simp [v])] at z;exact nomatch z
 ·rename_i r e
  have l2:=len_keepAll (fun y=>r++y) b (keepAll [] (a.filter fun e=>decide (e.1≠.rai)) id)
  obtain ⟨z,hz,ez⟩:=lkT_mem e
  have lr:=ha.an z hz
  rw [ez] at lr
  refine ⟨keepAll_ne _ _ _ (.inr hb.ne),by omega,fun p h=>?_,fun p h=>?_⟩
  ·rcases mem_keepAll h with h | ⟨q,hq,rfl⟩
   ·have:=ha.an p (m1 p h);omega
   ·have:=hb.an q hq;simp;omega
  ·rcases mem_keepAll h with h | ⟨q,hq,rfl⟩
   ·exact ha.ok p (m1 p h)
   ·exact hb.ok q hq
theorem tg_fin {l x y:Nat} {a b:Tw} (ha:TG x l a) (hb:TG y l b):TG (1 + (x + y)) l (finT a b):=by
 obtain ⟨s,es,z,hz,ez⟩:=shortT_some ha.ne
 have ls:=ha.an z hz
 rw [ez] at ls
 have l3:=ha.len
 have l4:=hb.len
 have l0:=List.length_filter_le (fun e:Way×List Int=>decide (e.1≠.nrm)) b
 unfold finT
 rw [es]
 dsimp only [Option.getD_some]
 have mb:∀ (t:Tw),(∀ p∈t,p.2.length≤x + y∧FcM.WOk l p.1)→∀ p∈keepAll t (b.filter fun e=>decide (e.1≠.nrm)) (fun y=>s++y),p.2.length≤x + y∧FcM.WOk l p.1:=fun t ht p h=>by
  rcases mem_keepAll h with h | ⟨q,hq,rfl⟩
  ·exact ht p h
  ·have hq:=(List.mem_filter.mp hq).1
   have:=hb.an q hq
   exact ⟨by simp;omega,hb.ok q hq⟩
 split
 ·rename_i e
  have l1:=len_keepAll (fun y=>s++y) (b.filter fun e=>decide (e.1≠.nrm)) []
  simp only [List.length_nil] at l1
  have m:=mb [] (fun p h=>nomatch h)
  refine ⟨keepAll_ne _ _ _ (.inr fun z=>?_),by omega,fun p h=>by have:=(m p h).1;omega,fun p h=>(m p h).2⟩
  obtain ⟨q,tb,rfl⟩:=List.exists_cons_of_ne_nil hb.ne
  by_cases v:q.1=.nrm
  ·rw [lk_pos v] at e;exact nomatch e
  ·rw [List.filter_cons_of_pos (by simp [v])] at z;exact nomatch z
 ·rename_i r e
  have l1:=len_keepAll (fun x=>x++r) a []
  simp only [List.length_nil] at l1
  have l2:=len_keepAll (fun y=>s++y) (b.filter fun e=>decide (e.1≠.nrm)) (keepAll [] a (fun x=>x++r))
  obtain ⟨z',hz',ez'⟩:=lkT_mem e
  have lr:=hb.an z' hz'
  rw [ez'] at lr
  have m:=mb (keepAll [] a (fun x=>x++r)) (fun p h=>by
   rcases mem_keepAll h with h | ⟨q,hq,rfl⟩
   ·exact nomatch h
   ·have:=ha.an q hq
    exact ⟨by simp;omega,ha.ok q hq⟩)
  exact ⟨keepAll_ne _ _ _ (.inl (keepAll_ne _ _ _ (.inr ha.ne))),by omega,fun p h=>by have:=(m p h).1;omega,fun p h=>(m p h).2⟩
theorem tg_seq {l:Nat} (wt:Nat→Nat) (g:Nat→Tw):∀ (cs:List Nat) (t:Tw) (bf:List Int) (s:Nat),(∀ c∈cs,TG (wt c) l (g c))→t.length≤2 * s→bf.length≤s→(∀ p∈t,p.2.length≤1 + s)→(∀ p∈t,FcM.WOk l p.1)→TG (1 + (s + (cs.map wt).sum)) l (seqT (cs.map g) t bf)
 | [],t,bf,s,_,h1,h2,h3,h4=>by
  have:=len_putT t .nrm bf
  refine ⟨putT_ne _ _ _,by show (putT t .nrm bf).length≤_;simp;omega,fun p hp=>?_,fun p hp=>?_⟩
  ·rcases mem_putT hp with rfl | hp
   ·simp;omega
   ·have:=h3 p hp;simp;omega
  ·rcases mem_putT hp with rfl | hp
   ·exact True.intro
   ·exact h4 p hp
 | c::cs,t,bf,s,h0,h1,h2,h3,h4=>by
  have G:=h0 c List.mem_cons_self
  have l0:=List.length_filter_le (fun e:Way×List Int=>decide (e.1≠.nrm)) (g c)
  have l1:=len_keepAll (fun x=>bf++x) ((g c).filter fun e=>decide (e.1≠.nrm)) t
  have lg:=G.len
  have m:∀ p∈keepAll t ((g c).filter fun e=>decide (e.1≠.nrm)) (fun x=>bf++x),p.2.length≤1 + (s + wt c)∧FcM.WOk l p.1:=fun p hp=>by
   rcases mem_keepAll hp with hp | ⟨q,hq,rfl⟩
   ·have:=h3 p hp;exact ⟨by omega,h4 p hp⟩
   ·have hq:=(List.mem_filter.mp hq).1
    have:=G.an q hq
    exact ⟨by simp;omega,G.ok q hq⟩
  rw [List.map_cons,List.map_cons,List.sum_cons]
  unfold seqT
  dsimp only
  split
  ·rename_i e
   refine ⟨keepAll_ne _ _ _ (.inr fun z=>?_),by omega,fun p hp=>by have:=(m p hp).1;omega,fun p hp=>(m p hp).2⟩
   obtain ⟨q,tb,eq⟩:=List.exists_cons_of_ne_nil G.ne
   rw [eq] at e z
   by_cases v:q.1=.nrm
   ·rw [lk_pos v] at e;exact nomatch e
   ·rw [List.filter_cons_of_pos (by simp [v])] at z;exact nomatch z
  ·rename_i r e
   obtain ⟨z',hz',ez'⟩:=lkT_mem e
   have lr:=G.an z' hz'
   rw [ez'] at lr
   have:=tg_seq wt g cs (keepAll t ((g c).filter fun e=>decide (e.1≠.nrm)) (fun x=>bf++x)) (bf++r) (s + wt c) (fun d hd=>h0 d (List.mem_cons_of_mem _ hd)) (by omega) (by rw [List.length_append];omega) (fun p hp=>(m p hp).1) (fun p hp=>(m p hp).2)
   rw [show 1 + (s + (wt c + (cs.map wt).sum))=1 + (s + wt c + (cs.map wt).sum) from by omega]
   exact this
theorem tg_all {t:Tab} {lp:Nat→Nat} (W:t.WF lp):∀ {m n:Nat},FcM.Wg t m n→n<t.len→TG m (lp n) (tbN t n):=by
 intro m n h
 induction h with
 | @mk n wt r ih =>
  intro hn
  have D:=fun c hc=>W.dn n hn c hc
  rw [tbN_eq W hn]
  have lpq:∀ c∈(t.nd n).ch,(∀ a,t.nd n≠.whl a)→TG (wt c) (lp n) (tbN t c):=fun c hc hw=>by
   obtain ⟨_,d2,_,d4⟩:=D c hc
   have e:lp c=lp n:=by
    rw [d4]
    cases hd:t.nd n with
    | whl a=>exact absurd hd (hw a)
    | _=>rfl
   rw [← e]
   exact ih c hc d2
  cases hd:t.nd n with
  | iff a b =>
   rw [hd] at lpq
   have:=tg_if (lpq a (by simp [Node.ch]) (fun _=>nofun)) (lpq b (by simp [Node.ch]) (fun _=>nofun))
   simpa [Node.ch,stepT] using this
  | whl a =>
   obtain ⟨_,d2,_,d4⟩:=D a (by rw [hd];simp [Node.ch])
   rw [hd] at d4
   have:=ih a (by rw [hd];simp [Node.ch]) d2
   rw [d4] at this
   have:=tg_while this
   simpa [Node.ch,stepT] using this
  | seq l =>
   rw [hd] at lpq
   have:=tg_seq wt (tbN t) l [] [] 0 (fun c hc=>lpq c hc (fun _=>nofun)) (by simp) (by simp) (fun p hp=>nomatch hp) (fun p hp=>nomatch hp)
   simpa [Node.ch,stepT] using this
  | tr a b =>
   rw [hd] at lpq
   have:=tg_try (lpq a (by simp [Node.ch]) (fun _=>nofun)) (lpq b (by simp [Node.ch]) (fun _=>nofun))
   simpa [Node.ch,stepT] using this
  | fin a b =>
   rw [hd] at lpq
   have:=tg_fin (lpq a (by simp [Node.ch]) (fun _=>nofun)) (lpq b (by simp [Node.ch]) (fun _=>nofun))
   simpa [Node.ch,stepT] using this
  | do_=>exact ⟨by simp [stepT,leafT],by simp [stepT,leafT,Node.ch],fun p hp=>by rw [List.mem_singleton.mp hp];simp,fun p hp=>by rw [List.mem_singleton.mp hp];exact True.intro⟩
  | call=>exact ⟨by simp [stepT,leafT],by simp [stepT,leafT,Node.ch],fun p hp=>by
    rcases List.mem_cons.mp hp with rfl | hp
    ·simp
    ·rw [List.mem_singleton.mp hp];simp,fun p hp=>by
    rcases List.mem_cons.mp hp with rfl | hp
    ·exact True.intro
    ·rw [List.mem_singleton.mp hp];exact True.intro⟩
  | ret=>exact ⟨by simp [stepT,leafT],by simp [stepT,leafT,Node.ch],fun p hp=>by rw [List.mem_singleton.mp hp];simp,fun p hp=>by rw [List.mem_singleton.mp hp];exact True.intro⟩
  | rai=>exact ⟨by simp [stepT,leafT],by simp [stepT,leafT,Node.ch],fun p hp=>by rw [List.mem_singleton.mp hp];simp,fun p hp=>by rw [List.mem_singleton.mp hp];exact True.intro⟩
  | brk k=>exact ⟨by simp [stepT,leafT],by simp [stepT,leafT,Node.ch],fun p hp=>by rw [List.mem_singleton.mp hp];simp,fun p hp=>by rw [List.mem_singleton.mp hp];exact W.bk n k hn hd⟩
  | cnt k=>exact ⟨by simp [stepT,leafT],by simp [stepT,leafT,Node.ch],fun p hp=>by rw [List.mem_singleton.mp hp];simp,fun p hp=>by rw [List.mem_singleton.mp hp];exact W.ct n k hn hd⟩
theorem sum_le_of_mem (f:Nat→Nat):∀ {l:List Nat} {c:Nat},c∈l→f c≤(l.map f).sum
 | d::l,c,h=>by
  rw [List.map_cons,List.sum_cons]
  rcases List.mem_cons.mp h with rfl | h
  ·omega
  ·have:=sum_le_of_mem f h;omega
def RT (rows:List Row):Prop:=∀ (n:Nat) (r:Row),rows[n]?=some r→r.par=none→n=0
theorem rt_all {m:Nat} {st:List WIt} {rows fin:List Row} (h:Builds m st rows fin):∀ {ls:List Nat},BI st rows ls→RT rows→RT fin:=by
 induction h with
 | done rows=>exact fun _ h=>h
 | @step m it st rows fin ok _ ih =>
  intro ls b h
  refine ih (b.step ok) fun n r hr hp=>?_
  rcases addRow_get hr with ⟨e1,e2⟩ | ⟨r0,h1,_,h3,_⟩
  ·rw [e2] at hp
   rw [e1,((b.it it List.mem_cons_self).1 hp).1]
   rfl
  ·exact h n r0 h1 (by rw [← h3];exact hp)
theorem wg_at {rows:List Row} {lp:Nat→Nat} (W:TW rows lp) (R:RT rows) {m:Nat} (h0:FcM.Wg (tabOf rows) m 0):∀ (k n:Nat),n<k→n<rows.length→∃ x,x≤m∧FcM.Wg (tabOf rows) x n
 | 0,n,h,_=>by omega
 | k + 1,n,h,hn=>by
  obtain ⟨r,hr⟩:=row_at hn
  cases hp:r.par with
  | none =>
   rw [R n r hr hp];exact ⟨m,Nat.le_refl _,h0⟩
  | some p =>
   obtain ⟨h1,h2,h3⟩:=W.pu n r p hr hp
   obtain ⟨x,hx,g⟩:=wg_at W R h0 k p (by omega) h2
   cases g with
   | mk wt g =>
    have:=sum_le_of_mem wt h3
    exact ⟨wt n,by omega,g n h3⟩
def WgA (rows:List Row):Prop:=∀ n,n<rows.length→∃ x,x≤400∧FcM.Wg (tabOf rows) x n
theorem wga_of {rows:List Row} {lp:Nat→Nat} {m:Nat} {d:PyData} {N:Nat} (W:TW rows lp) (bd:Builds N [⟨d,none,1,0,0⟩] [] rows) (h0:FcM.Wg (tabOf rows) m 0) (hm:m≤400):WgA rows:=fun n hn=>by
 obtain ⟨x,hx,g⟩:=wg_at W (rt_all bd (BI.start d) (fun n r h=>by simp at h)) h0 (n + 1) n (Nat.lt_succ_self n) hn
 exact ⟨x,by omega,g⟩
theorem wg_ch {t:Tab} {m n:Nat} (h:FcM.Wg t m n):∃ wt:Nat→Nat,m=1 + ((t.nd n).ch.map wt).sum∧∀ c∈(t.nd n).ch,FcM.Wg t (wt c) c:=by
 cases h with
 | mk wt g=>exact ⟨wt,rfl,g⟩
theorem sum_map_le {f g:Nat→Nat}:∀ {l:List Nat},(∀ c∈l,f c≤g c)→(l.map f).sum≤(l.map g).sum
 | [],_=>Nat.le_refl _
 | c::l,h=>by
  have h1:=h c List.mem_cons_self
  have h2:=sum_map_le (f:=f) (g:=g) (l:=l) fun d hd=>h d (List.mem_cons_of_mem _ hd)
  simp only [List.map_cons,List.sum_cons]
  omega
theorem sum_two (f:Nat→Nat):∀ l:List Nat,(l.map fun c=>2 * f c).sum=2 * (l.map f).sum
 | []=>rfl
 | c::l=>by simp only [List.map_cons,List.sum_cons,sum_two f l];omega
theorem parts_ok {rows:List Row} {lp:Nat→Nat} (W:TW rows lp) (G:WgA rows) {n:Nat} (hn:n<rows.length) :
  ((((tabOf rows).nd n).ch.map (tbN (tabOf rows))).map List.length).sum≤800∧∀ c∈((tabOf rows).nd n).ch,tbN (tabOf rows) c≠[]∧(∀ p∈tbN (tabOf rows) c,p.2.length≤400∧∀ k,p.1=.brk k∨p.1=.cnt k→1≤k):=by
 obtain ⟨x,hx,g⟩:=G n hn
 obtain ⟨wt,e,gc⟩:=wg_ch g
 have T:=fun c hc=>tg_all W.wf (gc c hc) (W.wf.dn n hn c hc).2.1
 refine ⟨?_,fun c hc=>⟨(T c hc).ne,fun p hp=>⟨?_,fun k hk=>?_⟩⟩⟩
 ·rw [List.map_map]
  have:=sum_map_le (f:=List.length ∘ tbN (tabOf rows)) (g:=fun c=>2 * wt c) (l:=((tabOf rows).nd n).ch) fun c hc=>(T c hc).len
  rw [sum_two] at this
  omega
 ·have h1:=(T c hc).an p hp
  have h2:=sum_le_of_mem wt hc
  omega
 ·have:=(T c hc).ok p hp
  rcases hk with hk | hk<;>rw [hk] at this<;>exact this.1
end
section
open FcM (Way Node Tab)
def leL (a b:List Int):Prop:=a.length<b.length∨(a.length=b.length∧¬ b<a)
theorem lt_irr:∀ a:List Int,¬ a<a
 | [],h=>nomatch h
 | x::a,h=>by
  rcases List.cons_lt_cons_iff.mp h with h | ⟨_,h⟩
  ·omega
  ·exact lt_irr a h
theorem lt_tri:∀ a b:List Int,a<b∨a=b∨b<a
 | [],[]=>.inr (.inl rfl)
 | [],_::_=>.inl .nil
 | _::_,[]=>.inr (.inr .nil)
 | x::a,y::b=>by
  rcases Int.lt_trichotomy x y with h | h | h
  ·exact .inl (List.cons_lt_cons_iff.mpr (.inl h))
  ·subst h
   rcases lt_tri a b with h | h | h
   ·exact .inl (List.cons_lt_cons_iff.mpr (.inr ⟨rfl,h⟩))
   ·exact .inr (.inl (by rw [h]))
   ·exact .inr (.inr (List.cons_lt_cons_iff.mpr (.inr ⟨rfl,h⟩)))
  ·exact .inr (.inr (List.cons_lt_cons_iff.mpr (.inl h)))
theorem lt_tra:∀ {a b c:List Int},a<b→b<c→a<c
 | [],_,[],_,h=>nomatch h
 | [],_,_::_,_,_=>.nil
 | _::_,[],_,h,_=>nomatch h
 | _::_,_::_,[],_,h=>nomatch h
 | x::a,y::b,z::c,h1,h2=>by
  rcases List.cons_lt_cons_iff.mp h1 with h1 | ⟨e1,h1⟩<;>rcases List.cons_lt_cons_iff.mp h2 with h2 | ⟨e2,h2⟩
  ·exact List.cons_lt_cons_iff.mpr (.inl (by omega))
  ·exact List.cons_lt_cons_iff.mpr (.inl (by omega))
  ·exact List.cons_lt_cons_iff.mpr (.inl (by omega))
  ·exact List.cons_lt_cons_iff.mpr (.inr ⟨by omega,lt_tra h1 h2⟩)
theorem leL_refl (a:List Int):leL a a:=.inr ⟨rfl,lt_irr a⟩
theorem leL_tot (a b:List Int):leL a b∨leL b a:=by
 rcases Nat.lt_trichotomy a.length b.length with h | h | h
 ·exact .inl (.inl h)
 ·by_cases z:b<a
  ·exact .inr (.inr ⟨h.symm,fun y=>lt_irr _ (lt_tra y z)⟩)
  ·exact .inl (.inr ⟨h,z⟩)
 ·exact .inr (.inl h)
theorem leL_trans {a b c:List Int} (h:leL a b) (h':leL b c):leL a c:=by
 rcases h with h | ⟨e,h⟩<;>rcases h' with h' | ⟨e',h'⟩
 ·exact .inl (by omega)
 ·exact .inl (by omega)
 ·exact .inl (by omega)
 ·refine .inr ⟨by omega,fun z=>?_⟩
  rcases lt_tri b c with y | y | y
  ·exact h (lt_tra y z)
  ·exact h (by rw [y];exact z)
  ·exact h' y
theorem befL_iff (a b:List Int):befL a b=true ↔ ¬ leL b a:=by
 unfold befL
 rw [decide_eq_true_eq]
 constructor
 ·rintro (h | ⟨e,h⟩) (h' | ⟨e',h'⟩)<;>first | omega | exact h' h
 ·intro h
  rcases Nat.lt_trichotomy a.length b.length with z | z | z
  ·exact .inl z
  ·refine .inr ⟨z,?_⟩
   by_cases y:a<b
   ·exact y
   ·exact absurd (.inr ⟨z.symm,y⟩) h
  ·exact absurd (.inl z) h
structure Bst (t:Tw) (S:Way→List Int→Prop):Prop where
 mn:∀ u l,lk t u=some l→S u l∧∀ l',S u l'→leL l l'
 ex:∀ u l,S u l→∃ l0,lk t u=some l0
theorem Bst.best {t:Tw} {S:Way→List Int→Prop} (b:Bst t S) {u:Way} {l:List Int} (h:S u l):∃ l0,lk t u=some l0∧leL l0 l:=by
 obtain ⟨l0,e⟩:=b.ex u l h
 exact ⟨l0,e,(b.mn u l0 e).2 l h⟩
theorem Bst.to {t:Tw} {S E:Way→List Int→Prop} (b:Bst t S) (h1:∀ u l,S u l→E u l) (h2:∀ u l,E u l→∃ l',S u l'∧leL l' l):Bst t E :=
 ⟨fun u l e=>⟨h1 u l (b.mn u l e).1,fun l' h=>by
  obtain ⟨l2,h3,h4⟩:=h2 u l' h
  exact leL_trans ((b.mn u l e).2 l2 h3) h4⟩,fun u l h=>by
  obtain ⟨l2,h3,_⟩:=h2 u l h
  exact b.ex u l2 h3⟩
theorem lk_put (t:Tw) (v:Way) (ans:List Int) (u:Way):lk (putT t v ans) u=if u=v then some ans else lk t u:=by
 unfold putT
 by_cases h:(lk t v).isSome=true
 ·rw [if_pos h]
  induction t with
  | nil=>exact absurd h (by simp [lk])
  | cons p t ih =>
   rw [List.map_cons]
   by_cases e:p.1=v
   ·rw [if_pos e]
    by_cases z:u=v
    ·rw [if_pos z,lk_pos (p:=(p.1,ans)) (by rw [z,e])]
    ·rw [if_neg z,lk_neg (p:=(p.1,ans)) (by rw [show (p.1,ans).1=p.1 from rfl,e];exact fun y=>z y.symm),lk_neg (p:=p) (by rw [e];exact fun y=>z y.symm)]
     by_cases y:(lk t v).isSome=true
     ·have:=ih y
      rw [if_neg z] at this
      exact this
     ·have:t.map (fun p=>if p.1=v then (p.1,ans) else p)=t:=by
       have ne:∀ q∈t,q.1≠v:=fun q hq e2=>y (by
        unfold lk
        rw [Option.isSome_map,List.find?_isSome]
        exact ⟨q,hq,by simp [e2]⟩)
       conv=>rhs;rw [← List.map_id t]
       exact List.map_congr_left fun q hq=>if_neg (ne q hq)
      rw [this]
   ·rw [if_neg e]
    rw [lk_neg (p:=p) e] at h
    have:=ih h
    by_cases z:p.1=u
    ·rw [lk_pos z,lk_pos z,if_neg (by rw [← z];exact e)]
    ·rw [lk_neg z,lk_neg z,this]
 ·rw [if_neg h]
  have hn:lk t v=none:=by
   cases e:lk t v with
   | none=>rfl
   | some x=>rw [e] at h;exact absurd rfl h
  clear h
  induction t with
  | nil =>
   by_cases z:u=v
   ·rw [if_pos z];simp [lk,z]
   ·rw [if_neg z]
    have:¬ v=u:=fun y=>z y.symm
    simp [lk,this]
  | cons p t ih =>
   have e:¬ p.1=v:=fun y=>by rw [lk_pos y] at hn;cases hn
   rw [lk_neg e] at hn
   rw [List.cons_append]
   by_cases z:p.1=u
   ·rw [lk_pos z,lk_pos z,if_neg (by rw [← z];exact e)]
   ·rw [lk_neg z,lk_neg z]
    exact ih hn
theorem Bst.nil:Bst [] (fun _ _=>False):=⟨fun u l e=>(by cases e),fun u l h=>h.elim⟩
theorem Bst.keep {t:Tw} {S:Way→List Int→Prop} (b:Bst t S) (v:Way) (ans:List Int):Bst (keepT t v ans) (fun u l=>S u l∨(u=v∧l=ans)):=by
 unfold keepT
 cases e:lk t v with
 | none =>
  have no:∀ l,¬ S v l:=fun l h=>by obtain ⟨l0,z⟩:=b.ex v l h;rw [e] at z;cases z
  dsimp only
  refine ⟨fun u l h=>?_,fun u l h=>?_⟩
  ·rw [lk_put] at h
   by_cases z:u=v
   ·rw [if_pos z] at h
    cases h
    refine ⟨.inr ⟨z,rfl⟩,fun l' h'=>?_⟩
    rcases h' with h' | ⟨_,rfl⟩
    ·exact absurd (z ▸ h') (no l')
    ·exact leL_refl _
   ·rw [if_neg z] at h
    obtain ⟨h1,h2⟩:=b.mn u l h
    refine ⟨.inl h1,fun l' h'=>?_⟩
    rcases h' with h' | ⟨h',_⟩
    ·exact h2 l' h'
    ·exact absurd h' z
  ·rw [lk_put]
   by_cases z:u=v
   ·rw [if_pos z];exact ⟨_,rfl⟩
   ·rw [if_neg z]
    rcases h with h | ⟨h,_⟩
    ·exact b.ex u l h
    ·exact absurd h z
 | some old =>
  obtain ⟨h1,h2⟩:=b.mn v old e
  dsimp only
  by_cases c:befL ans old=true
  ·rw [if_pos c]
   have c':=(befL_iff ans old).mp c
   refine ⟨fun u l h=>?_,fun u l h=>?_⟩
   ·rw [lk_put] at h
    by_cases z:u=v
    ·rw [if_pos z] at h
     cases h
     refine ⟨.inr ⟨z,rfl⟩,fun l' h'=>?_⟩
     rcases h' with h' | ⟨_,rfl⟩
     ·have:=h2 l' (z ▸ h')
      rcases leL_tot ans old with k | k
      ·exact leL_trans k this
      ·exact absurd k c'
     ·exact leL_refl _
    ·rw [if_neg z] at h
     obtain ⟨h3,h4⟩:=b.mn u l h
     refine ⟨.inl h3,fun l' h'=>?_⟩
     rcases h' with h' | ⟨h',_⟩
     ·exact h4 l' h'
     ·exact absurd h' z
   ·rw [lk_put]
    by_cases z:u=v
    ·rw [if_pos z];exact ⟨_,rfl⟩
    ·rw [if_neg z]
     rcases h with h | ⟨h,_⟩
     ·exact b.ex u l h
     ·exact absurd h z
  ·rw [if_neg c]
   have c':leL old ans:=by
    by_cases k:leL old ans
    ·exact k
    ·exact absurd ((befL_iff ans old).mpr k) c
   refine ⟨fun u l h=>?_,fun u l h=>?_⟩
   ·obtain ⟨h3,h4⟩:=b.mn u l h
    refine ⟨.inl h3,fun l' h'=>?_⟩
    rcases h' with h' | ⟨h',rfl⟩
    ·exact h4 l' h'
    ·subst h'
     rw [e] at h
     cases h
     exact c'
   ·rcases h with h | ⟨h,_⟩
    ·exact b.ex u l h
    ·subst h;exact ⟨old,e⟩
theorem Bst.imp {t:Tw} {S E:Way→List Int→Prop} (b:Bst t S) (h:∀ u l,S u l ↔ E u l):Bst t E :=
 b.to (fun u l z=>(h u l).mp z) fun u l z=>⟨l,(h u l).mpr z,leL_refl l⟩
theorem Bst.keepAll {f:List Int→List Int}:∀ {ps t:Tw} {S:Way→List Int→Prop},Bst t S→Bst (keepAll t ps f) (fun u l=>S u l∨∃ q∈ps,u=q.1∧l=f q.2)
 | [],t,S,b=>b.imp fun u l=>⟨fun h=>.inl h,fun h=>h.elim id fun ⟨q,hq,_⟩=>nomatch hq⟩
 | q::ps,t,S,b=>(Bst.keepAll (ps:=ps) (b.keep q.1 (f q.2))).imp fun u l=>by
  constructor
  ·rintro ((h | ⟨h1,h2⟩) | ⟨r,hr,h⟩)
   ·exact .inl h
   ·exact .inr ⟨q,List.mem_cons_self,h1,h2⟩
   ·exact .inr ⟨r,List.mem_cons_of_mem _ hr,h⟩
  ·rintro (h | ⟨r,hr,h⟩)
   ·exact .inl (.inl h)
   ·rcases List.mem_cons.mp hr with rfl | hr
    ·exact .inl (.inr h)
    ·exact .inr ⟨r,hr,h⟩
theorem Bst.put {t:Tw} {S:Way→List Int→Prop} (b:Bst t S) {v:Way} (no:∀ l,¬ S v l) (ans:List Int):Bst (putT t v ans) (fun u l=>S u l∨(u=v∧l=ans)):=by
 have e:lk t v=none:=by
  cases e:lk t v with
  | none=>rfl
  | some l=>exact absurd (b.mn v l e).1 (no l)
 have:=b.keep v ans
 unfold keepT at this
 rw [e] at this
 exact this
def NdK (t:Tw):Prop:=(t.map (·.1)).Nodup
theorem lkW_mem {t:Tw} (nd:NdK t) {p:Way×List Int} (h:p∈t):lk t p.1=some p.2:=by
 induction t with
 | nil=>exact nomatch h
 | cons q t ih =>
  unfold NdK at nd
  rw [List.map_cons,List.nodup_cons] at nd
  rcases List.mem_cons.mp h with rfl | h
  ·exact lk_pos rfl
  ·rw [lk_neg (fun z=>nd.1 (by rw [z];exact List.mem_map_of_mem h))]
   exact ih nd.2 h
theorem mem_lk {t:Tw} {v:Way} {l:List Int} (h:lk t v=some l):(v,l)∈t:=by
 obtain ⟨p,h1,h2⟩:=Option.map_eq_some_iff.mp h
 have h3:=List.mem_of_find?_eq_some h1
 have h4:=List.find?_some h1
 have h5:p.1=v:=of_decide_eq_true h4
 rw [← h2,← h5]
 exact h3
theorem ndk_put {t:Tw} (nd:NdK t) (v:Way) (ans:List Int):NdK (putT t v ans):=by
 unfold putT
 split
 ·unfold NdK
  rw [List.map_map]
  have:((fun p:Way×List Int=>p.1) ∘ fun p:Way×List Int=>if p.1=v then (p.1,ans) else p)=fun p=>p.1:=funext fun p=>by
   show (if p.1=v then (p.1,ans) else p).1=p.1
   split<;>rfl
  rw [this]
  exact nd
 ·rename_i h
  unfold NdK
  rw [List.map_append,List.nodup_append]
  refine ⟨nd,by simp,fun a ha b hb=>?_⟩
  obtain rfl:=List.mem_singleton.mp hb
  intro e
  subst e
  obtain ⟨p,hp,e2⟩:=List.mem_map.mp ha
  have:=lkW_mem nd hp
  rw [e2] at this
  exact h (by rw [this]<;>rfl)
theorem ndk_keep {t:Tw} (nd:NdK t) (v:Way) (ans:List Int):NdK (keepT t v ans):=by
 unfold keepT
 split
 ·exact ndk_put nd v ans
 ·split
  ·exact ndk_put nd v ans
  ·exact nd
theorem ndk_keepAll {f:List Int→List Int}:∀ {ps t:Tw},NdK t→NdK (keepAll t ps f)
 | [],_,h=>h
 | q::ps,t,h=>ndk_keepAll (ps:=ps) (ndk_keep h q.1 (f q.2))
theorem ndk_nil:NdK []:=List.nodup_nil
theorem ndk_whileStep {t:Tw} (nd:NdK t) (q:Way×List Int):NdK (whileStep t q):=by
 unfold whileStep
 split<;>first | exact ndk_put nd _ _ | exact nd
theorem ndk_while (a:Tw):NdK (whileT a):=by
 have:∀ (ps t:Tw),NdK t→NdK (ps.foldl whileStep t):=by
  intro ps
  induction ps with
  | nil=>exact fun t h=>h
  | cons q ps ih=>exact fun t h=>ih _ (ndk_whileStep h q)
 exact this a _ (by simp [NdK])
theorem ndk_seq:∀ (ps:List Tw) (t:Tw) (b:List Int),NdK t→NdK (seqT ps t b)
 | [],t,b,h=>ndk_put h _ _
 | p::ps,t,b,h=>by
  unfold seqT
  dsimp only
  split
  ·exact ndk_keepAll h
  ·exact ndk_seq ps _ _ (ndk_keepAll h)
theorem ndk_step (nd:Node) (g:Nat→Tw):NdK (stepT nd g):=by
 cases nd with
 | iff a b=>exact ndk_keepAll (ndk_keepAll ndk_nil)
 | whl a=>exact ndk_while _
 | seq l=>exact ndk_seq _ _ _ ndk_nil
 | tr a b =>
  show NdK (tryT (g a) (g b))
  unfold tryT
  dsimp only
  split
  ·exact ndk_keepAll ndk_nil
  ·exact ndk_keepAll (ndk_keepAll ndk_nil)
 | fin a b =>
  show NdK (finT (g a) (g b))
  unfold finT
  dsimp only
  split
  ·exact ndk_keepAll ndk_nil
  ·exact ndk_keepAll (ndk_keepAll ndk_nil)
 | do_=>simp [stepT,leafT,NdK]
 | call=>simp [stepT,leafT,NdK]
 | ret=>simp [stepT,leafT,NdK]
 | rai=>simp [stepT,leafT,NdK]
 | brk k=>simp [stepT,leafT,NdK]
 | cnt k=>simp [stepT,leafT,NdK]
theorem ndk_all {t:Tab} {lp:Nat→Nat} (W:t.WF lp) {n:Nat} (h:n<t.len):NdK (tbN t n):=by rw [tbN_eq W h];exact ndk_step _ _
end
section
open FcM (Way Node Tab)
theorem Bst.mem {t:Tw} {S:Way→List Int→Prop} (b:Bst t S) (nd:NdK t) {p:Way×List Int} (h:p∈t):S p.1 p.2:=(b.mn p.1 p.2 (lkW_mem nd h)).1
theorem Bst.get {t:Tw} {S:Way→List Int→Prop} (b:Bst t S) {u:Way} {l:List Int} (h:S u l):∃ l0,(u,l0)∈t∧S u l0∧leL l0 l:=by
 obtain ⟨l0,e,h1⟩:=b.best h
 exact ⟨l0,mem_lk e,(b.mn u l0 e).1,h1⟩
end
section
def sp_len (K:PySem.W.Frag):Sp:=fun vs H Q _=>∃ (F:Hp) (A:CAd) (rows:List Row),vs=[.ref A.p]∧CodeH K F F A rows∧Ex F H∧Q (.int (rows.length:Int)) H
section
variable {P:Program} {w:World} {h:Heap} {K:PySem.W.Frag} {mg:Str→Option Value} {base:Heap}
abbrev N_Code___len__:List Str:=["self"]
theorem sc_Code___len__:FnScope N_Code___len__ ["self"] (defScope sd_Code___len__):=⟨rfl,rfl,rfl,by decide +kernel,rfl,by decide +kernel,by decide +kernel⟩
theorem ok_Code___len__ (T:Tx w h K mg):Ok P w K mg base 1 ("Code",some "__len__") ["self"] (sp_len K):=by
 obtain ⟨fd,F⟩:=F_Code___len__ T
 refine ⟨fd,?_,F.bindsN (fun _ _ _ _ _ _ us hl=>match us,hl with | [_],_=>rfl),F.kp⟩
 refine F.ok sc_Code___len__ (fun vs H Q E h=>?_) (fun cdv A outer s H vs Q E hr h=>?_)
 ·obtain ⟨F,A,rows,rfl,C,xF,q⟩:=h
  rfl
 ·obtain ⟨F,A,rows,rfl,C,xF,q⟩:=h
  refine ⟨_,PSs.nox (pss_one (ps_ret (pe_callB call_len_seq rfl (fr_len T) b_len (pa_cons (pe_fld (pv 0) rfl) pa_nil)))),?_⟩
  obtain ⟨vs,C1,_⟩:=C.ex (Evl.Ex.refl _) xF
  refine ⟨_,rfl,A.p,_,_,_,_,rfl,C1.ob,c_Code T,na_Code_kinds T,fl_Code_kinds _ _ _ _ _,A.a2,_,rfl,.inl (Evl.sq_of C1.h2),?_⟩
  rw [List.length_map]
  exact q
end
end
section
open FcM (Way Node Tab)
structure CK (K:PySem.W.Frag) (F:Hp) (A:CAd) (rows:List Row) (lp:Nat→Nat):Prop where
 c:CodeH K F F A rows
 w:TW rows lp
 l:rows.length≤400
 g:WgA rows
 r:RT rows
theorem CK.at {K:PySem.W.Frag} {F H:Hp} {A:CAd} {rows:List Row} {lp:Nat→Nat} (x:CK K F A rows lp) (e:Ex F H) {n:Nat} {r:Row} (h:rows[n]?=some r) :
  ∃ (vs:List V) (c:Addr),CL K H A vs (rows.map fun r=>V.str (kindD r.d)) (rows.map fun r=>labD r.d) (rows.map fun r=>parV r.par) (rows.map fun r=>intsV r.ch)∧At K H A rows n r c:=by
 obtain ⟨vs,C1,_⟩:=x.c.ex (Evl.Ex.refl _) e
 obtain ⟨c,a⟩:=at_of x.w C1 h
 exact ⟨vs,c,C1,a⟩
abbrev WtA (P:Program) (w:World) (K:PySem.W.Frag) (N H:Hp):List Addr→List Tw→Prop:=Paired (fun d t=>Wt P w K N H d t)
theorem wta_ex {P:Program} {w:World} {K:PySem.W.Frag} {N H H':Hp} {ds:List Addr} {ts:List Tw} (e:Ex H H') (h:WtA P w K N H ds ts):WtA P w K N H' ds ts:=L2.Paired.mapP h fun _ _ z=>wt_ex e z
def sp_shorts (P:Program) (w:World) (K:PySem.W.Frag):Sp:=fun vs H Q _=>∃ (F:Hp) (A:CAd) (rows:List Row) (lp:Nat→Nat),vs=[.ref A.p]∧CK K F A rows lp∧Ex F H ∧
 ∀ (H':Hp) (a:Addr) (ds:List Addr),Ex H H'→H a=none→H' a=some (.lst (ds.map V.ref))→WtA P w K H H' ds ((List.range rows.length).map (tbN (tabOf rows)))→Q (.ref a) H'
theorem lab_nd {r:Row} {l:Nat} {k:Nat} (h:SV (l:Int) r.d) (e:ndOf r=.brk k∨ndOf r=.cnt k):labD r.d=.int (k:Int):=by
 obtain ⟨d,par,ch⟩:=r
 cases h with
 | brk n h1 h2 =>
  rcases e with e | e
  ·cases e
   show V.int n=V.int (n.toNat:Int)
   rw [show ((n.toNat:Nat):Int)=n from by omega]
  ·cases e
 | cnt n h1 h2 =>
  rcases e with e | e
  ·cases e
  ·cases e
   show V.int n=V.int (n.toNat:Int)
   rw [show ((n.toNat:Nat):Int)=n from by omega]
 | _=>rcases e with e | e<;>cases e
theorem wg_pos {t:Tab} {m n:Nat} (h:FcM.Wg t m n):1≤m:=by cases h;omega
theorem sum_ge (wt:Nat→Nat):∀ l:List Nat,(∀ c∈l,1≤wt c)→l.length≤(l.map wt).sum
 | [],_=>Nat.le_refl _
 | c::l,h=>by
  have h1:=h c List.mem_cons_self
  have h2:=sum_ge wt l fun d hd=>h d (List.mem_cons_of_mem _ hd)
  simp only [List.map_cons,List.sum_cons,List.length_cons]
  omega
theorem wg_len {t:Tab} {m n:Nat} (h:FcM.Wg t m n):(t.nd n).ch.length + 1≤m:=by
 obtain ⟨wt,e,g⟩:=wg_ch h
 have:=sum_ge wt _ fun c hc=>wg_pos (g c hc)
 omega
theorem paired1 {α β:Type} {R:α→β→Prop} {xs:List α} {y:β} {ys:List β} (h:Paired R xs (y::ys)):∃ x xs',xs=x::xs'∧R x y∧Paired R xs' ys:=by
 cases h with
 | cons r h=>exact ⟨_,_,rfl,r,h⟩
theorem rep1 {α:Type} (x:α):∀ n:Nat,(List.replicate n [x]).flatten=List.replicate n x
 | 0=>rfl
 | n + 1=>by rw [List.replicate_succ,List.replicate_succ,List.flatten_cons,rep1 x n]<;>rfl
theorem set_rep {α:Type} (x y:α) (zs:List α):∀ m:Nat,(List.replicate (m + 1) x++zs).set m y=List.replicate m x++y::zs
 | 0=>rfl
 | m + 1=>by
  have:=set_rep x y zs m
  rw [List.replicate_succ,List.cons_append,List.set_cons_succ,this,List.replicate_succ (n:=m)]
  rfl
theorem rep_at {α:Type} (x:α) (zs:List α) {m c:Nat} (h:m≤c):(List.replicate m x++zs)[c]?=zs[c - m]?:=by
 rw [List.getElem?_append_right (by rw [List.length_replicate];exact h),List.length_replicate]
theorem paired_map {α β γ:Type} {R:β→γ→Prop} {g:α→β} {f:α→γ}:∀ {l:List α},(∀ c∈l,R (g c) (f c))→Paired R (l.map g) (l.map f)
 | [],_=>.nil
 | c::l,h=>.cons (h c List.mem_cons_self) (paired_map fun d hd=>h d (List.mem_cons_of_mem _ hd))
theorem wt_lst {P:Program} {w:World} {K:PySem.W.Frag} {N H:Hp} {p d:Addr} {xs ys:List V} {t:Tw} (e:H p=some (.lst xs)) (hx:∃ x∈xs,∀ k,x≠.int k) (D:Wt P w K N H d t):Wt P w K N (upd H p (.lst ys)) d t:=by
 obtain ⟨o,es,⟨D1,D2⟩,R⟩:=D
 refine ⟨o,es,⟨by rw [upd_ne (ne_of D1 e (fun z=>nomatch z))];exact D1,fun x h=>?_⟩,L2.Paired.mapP R fun _ _ z=>?_⟩
 ·rcases D2 x h with h | h
  ·refine .inl ?_
   rcases h with h | ⟨ob,h⟩
   ·exact .inl (by rw [upd_ne (ne_of h e (fun z=>nomatch z))];exact h)
   ·exact .inr ⟨ob,by rw [upd_ne (ne_of h e (fun z=>nomatch z))];exact h⟩
  ·exact .inr h
 ·obtain ⟨z1,a,z2,z3,z4⟩:=z
  refine ⟨z1,a,z2,?_,z4⟩
  have:a≠p:=fun y=>by
   rw [y,e] at z3
   injection z3 with z3
   injection z3 with z3
   obtain ⟨x,h1,h2⟩:=hx
   rw [z3] at h1
   obtain ⟨k,_,h3⟩:=List.mem_map.mp h1
   exact h2 k h3.symm
  rw [upd_ne this]
  exact z3
section
variable {P:Program} {w:World} {h:Heap} {K:PySem.W.Frag} {mg:Str→Option Value} {base:Heap}
abbrev N_shortest_answers:List Str:=["code","found","number","kind","parts","part"]
theorem sc_shortest_answers:FnScope N_shortest_answers ["code"] (defScope sd_shortest_answers):=⟨rfl,rfl,rfl,by decide +kernel,rfl,by decide +kernel,by decide +kernel⟩
theorem ok_shortest_answers (T:Tx w h K mg):Ok P w K mg base 4 ("shortest_answers",none) ["code"] (sp_shorts P w K):=by
 obtain ⟨fd,F⟩:=F_shortest_answers T
 refine ⟨fd,?_,F.bindsN (fun _ _ _ _ _ _ us hl=>match us,hl with | [_],_=>rfl),F.kp⟩
 obtain ⟨fd_left_by_final,G_left_by_final,bi_left_by_final,kp_left_by_final⟩:=ok_left_by_final (P:=P) (base:=base) T
 obtain ⟨fd_left_by_if,G_left_by_if,bi_left_by_if,kp_left_by_if⟩:=ok_left_by_if (P:=P) (base:=base) T
 obtain ⟨fd_left_by_leaf,G_left_by_leaf,bi_left_by_leaf,kp_left_by_leaf⟩:=ok_left_by_leaf (P:=P) (base:=base) T
 obtain ⟨fd_left_by_seq,G_left_by_seq,bi_left_by_seq,kp_left_by_seq⟩:=ok_left_by_seq (P:=P) (base:=base) T
 obtain ⟨fd_left_by_try,G_left_by_try,bi_left_by_try,kp_left_by_try⟩:=ok_left_by_try (P:=P) (base:=base) T
 obtain ⟨fd_left_by_while,G_left_by_while,bi_left_by_while,kp_left_by_while⟩:=ok_left_by_while (P:=P) (base:=base) T
 obtain ⟨fd_Code___len__,G_Code___len__,bi_Code___len__,kp_Code___len__⟩:=ok_Code___len__ (P:=P) (base:=base) T
 refine F.ok sc_shortest_answers (fun vs H Q E h=>?_) (fun cdv A outer s H vs Q E hr h=>?_)
 ·obtain ⟨F,A,rows,lp,rfl,X,xF,q⟩:=h
  rfl
 ·obtain ⟨F,A,rows,lp,rfl,X,xF,q⟩:=h
  refine ⟨_,PSs.nox (pss_cons (ps_set (i:=1) sc_shortest_answers.nd rfl (Or.inr rfl) (pe_op op_rep (pe_lst (pa_cons pe_non pa_nil)) (pe_callB (FcO.call_lenO G_Code___len__ (hr.mono (by decide)) (me_Code___len__ T) bi_Code___len__ passF) rfl (fr_len T) b_len (pa_cons (pv 0) pa_nil)))) (pss_cons (ps_for PassesOwn.never rfl (pi_range3 rfl (fr_range T) (pa_cons (pe_op op_sub (pe_callB (FcO.call_lenO G_Code___len__ (hr.mono (by decide)) (me_Code___len__ T) bi_Code___len__ passF) rfl (fr_len T) b_len (pa_cons (pv 0) pa_nil)) pe_int) (pa_cons (pe_un un_neg pe_int) (pa_cons (pe_un un_neg pe_int) pa_nil)))) (pg_name (i:=2) sc_shortest_answers.nd rfl (Or.inl rfl)) (pss_cons (ps_set (i:=3) sc_shortest_answers.nd rfl (Or.inl rfl) (pe_ix ix_list (pe_fld (pv 0) rfl) (pv 2) (fun _ _=>rfl))) (pss_cons (ps_setLc (i:=4) (own:=[("part",5)]) rfl sc_shortest_answers.nd rfl rfl (sw_true rfl rfl rfl (by decide +kernel)) (pi_list (pe_ix ix_list (pe_fld (pv 0) rfl) (pv 2) (fun _ _=>rfl))) (blkOk_by (N:=N_shortest_answers) (sc:=defScope sd_shortest_answers) (by decide +kernel)) (fun _ _ _ _ _=>(pg_name (i:=5) sc_shortest_answers.nd rfl (Or.inl rfl))) (fun _ _ _ _ _=>pts_nil) (fun _ _ _ _ _=>(pe_ix (show IxR _ (rIxL K) from ix_list) (pv 1) (pv 5) (fun _ _=>rfl)))) (pss_one (ps_if (pt_cmpR op_eq (pv 3) pe_str (nomark _)) (pss_one (ps_asg (pe_call G_left_by_if (hr.mono (by decide)) rfl (g_left_by_if T) kp_left_by_if bi_left_by_if .nil passF (pa_cons (pv 4) pa_nil)) (pg_sub (pv 1) (pv 2) set_list))) (pss_one (ps_if (pt_cmpR op_eq (pv 3) pe_str (nomark _)) (pss_one (ps_asg (pe_call G_left_by_while (hr.mono (by decide)) rfl (g_left_by_while T) kp_left_by_while bi_left_by_while .nil passF (pa_cons (pe_ix ix_list (pv 4) pe_int (fun _ _=>rfl)) pa_nil)) (pg_sub (pv 1) (pv 2) set_list))) (pss_one (ps_if (pt_cmpR op_eq (pv 3) pe_str (nomark _)) (pss_one (ps_asg (pe_call G_left_by_seq (hr.mono (by decide)) rfl (g_left_by_seq T) kp_left_by_seq bi_left_by_seq .nil passF (pa_cons (pv 4) pa_nil)) (pg_sub (pv 1) (pv 2) set_list))) (pss_one (ps_if (pt_cmpR op_eq (pv 3) pe_str (nomark _)) (pss_one (ps_asg (pe_call G_left_by_try (hr.mono (by decide)) rfl (g_left_by_try T) kp_left_by_try bi_left_by_try .nil passF (pa_cons (pe_ix ix_list (pv 4) pe_int (fun _ _=>rfl)) (pa_cons (pe_ix ix_list (pv 4) pe_int (fun _ _=>rfl)) pa_nil))) (pg_sub (pv 1) (pv 2) set_list))) (pss_one (ps_if (pt_cmpR op_eq (pv 3) pe_str (nomark _)) (pss_one (ps_asg (pe_call G_left_by_final (hr.mono (by decide)) rfl (g_left_by_final T) kp_left_by_final bi_left_by_final .nil passF (pa_cons (pe_ix ix_list (pv 4) pe_int (fun _ _=>rfl)) (pa_cons (pe_ix ix_list (pv 4) pe_int (fun _ _=>rfl)) pa_nil))) (pg_sub (pv 1) (pv 2) set_list))) (pss_one (ps_asg (pe_call G_left_by_leaf (hr.mono (by decide)) rfl (g_left_by_leaf T) kp_left_by_leaf bi_left_by_leaf .nil passF (pa_cons (pv 3) (pa_cons (pe_ix ix_list (pe_fld (pv 0) rfl) (pv 2) (fun _ _=>rfl)) pa_nil))) (pg_sub (pv 1) (pv 2) set_list)))))))))))))))) (pss_one (ps_ret (pv 1))))),?_⟩
  refine ⟨sz (by simp),?_⟩
  intro p1 n1
  generalize e1:upd _ p1 _=H1
  obtain ⟨x1,s1,o1⟩:=new_of e1 n1
  clear e1
  have xF1:=xF.trans x1
  have hl4:=X.l
  obtain ⟨vs,C1,_⟩:=X.c.ex (Evl.Ex.refl _) xF1
  refine ⟨_,rfl,A.p,_,_,rfl,C1.ob,F,A,rows,rfl,X.c,xF1,rows.length,rfl,(by omega),?_⟩
  refine ⟨p1,_,_,rfl,rfl,s1,by omega,by omega,sz (by simp;omega),?_⟩
  intro p2 n2
  generalize e2:upd _ p2 _=H2
  obtain ⟨x2,s2,o2⟩:=new_of e2 n2
  clear e2
  have xF2:=xF1.trans x2
  obtain ⟨vs2,C2,_⟩:=X.c.ex (Evl.Ex.refl _) xF2
  have rg:RgC ((rows.length:Int) - 1) (-1) (-1) rows.length:=by
   have:=RgC.neg (i:=(rows.length:Int) - 1) (j:=-1) (by omega) (by omega) (by omega) (by omega)
   rwa [show ((rows.length:Int) - 1 - -1).toNat=rows.length from by omega] at this
  rw [show ((rows.length:Int)).toNat=rows.length from by omega,rep1] at s2
  refine ⟨_,rfl,A.p,_,_,rfl,C2.ob,F,A,rows,rfl,X.c,xF2,rows.length,rfl,(by omega),_,_,rfl,rfl,_,rfl,_,rfl,_,_,_,_,rfl,rg,?_⟩
  refine for_it walk_rangeC (fun i σ' H'=>∃ (o2 o3 o4 o5:Option V) (ds:List Addr),Ex H H'∧H' p2=some (.lst (List.replicate (rows.length - i) V.non++ds.map V.ref))∧WtA P w K H H' ds ((List.range' (rows.length - i) i).map (tbN (tabOf rows)))∧σ'=[some (.ref A.p),some (.ref p2),o2,o3,o4,o5]) ?_ ?_ ?_ ?_
  ·exact ⟨_,_,_,_,[],Evl.Ex.trans x1 x2,by simpa using s2,.nil,rfl⟩
  ·exact fun _ _ _ _ _=>True.intro
  ·rintro i v σ' H5 H6 hi ⟨o2,o3,o4,o5,ds,y1,s3,wa,rfl⟩ ⟨rfl,hv⟩
   obtain ⟨m,hm⟩:∃ m,rows.length=m + 1 + i:=⟨rows.length - i - 1,by omega⟩
   have e1:rows.length - i=m + 1:=by omega
   have ev:((rows.length:Int) - 1) + ((i:Nat):Int) * (-1)=((m:Nat):Int):=by omega
   obtain rfl:v=V.int ((m:Nat):Int):=hv.trans (congrArg V.int ev)
   rw [e1] at s3 wa
   have hmN:m<rows.length:=by omega
   obtain ⟨r,hr⟩:=row_at hmN
   have hnd:=tab_nd hr
   have hch:=(X.w.sv m r hr).2.2
   have xF5:=xF.trans y1
   obtain ⟨vs5,c,C5,a5⟩:=X.at xF5 hr
   have dl:ds.length=i:=by have:=Paired.length wa;simpa using this
   have hc1:∀ c∈r.ch,m + 1≤c∧c<rows.length:=fun c hc=>by
    have:=X.w.wf.dn m hmN c (by rw [hnd,← hch];exact hc)
    exact ⟨this.1,this.2.1⟩
   have hc2:∀ c∈r.ch,∃ e,ds[c - (m + 1)]?=some e∧Wt P w K H H6 e (tbN (tabOf rows) c):=fun c hc=>by
    obtain ⟨z1,z2⟩:=hc1 c hc
    have lt:c - (m + 1)<ds.length:=by omega
    refine ⟨_,List.getElem?_eq_getElem lt,?_⟩
    obtain ⟨tb,h1,h2⟩:=paired_get wa (List.getElem?_eq_getElem lt)
    rw [List.getElem?_map,List.getElem?_range' (by omega)] at h1
    simp only [Option.map_some,Option.some.injEq] at h1
    rw [show m + 1 + 1 * (c - (m + 1))=c from by omega] at h1
    rw [h1]
    exact h2
   have cl:r.ch.length≤400:=by
    obtain ⟨x,hx,g⟩:=X.g m hmN
    have:=wg_len g
    rw [hnd,← hch] at this
    omega
   obtain ⟨pk1,pk2⟩:=parts_ok X.w X.g hmN
   rw [hnd,← hch] at pk1 pk2
   have kd5:=a5.kd
   generalize hk:kindN (ndOf r)=kk at kd5
   refine ⟨_,rfl,A.p,_,_,_,_,rfl,C5.ob,c_Code T,na_Code_kinds T,fl_Code_kinds _ _ _ _ _,_,rfl,A.a2,_,_,_,rfl,rfl,Evl.sq_of C5.h2,atI_nat kd5,_,rfl,A.p,_,_,_,_,rfl,C5.ob,c_Code T,na_Code_children T,fl_Code_children _ _ _ _ _,_,rfl,A.a5,_,_,_,rfl,rfl,Evl.sq_of C5.h5,atI_nat a5.cs,c,rfl,⟨_,Evl.sq_of a5.ch⟩,fun D nD=>?_⟩
   have hL:∀ c∈r.ch,(List.replicate (m + 1) V.non++ds.map V.ref)[c]?=some (.ref (ds.getD (c - (m + 1)) 0)):=fun c hc=>by
    obtain ⟨e,h1,_⟩:=hc2 c hc
    rw [rep_at _ _ (hc1 c hc).1,List.getElem?_map,h1,List.getD_eq_getElem?_getD,h1]<;>rfl
   refine lc_it (walk_list (xs:=intsV r.ch)) (fun j H'=>Ex H6 H'∧H' D=some (.lst (((r.ch.take j).map fun c=>ds.getD (c - (m + 1)) 0).map V.ref))) ?_ ?_ ?_ ?_
   ·exact ⟨exu (Evl.Ex.refl _) nD,upd_same⟩
   ·exact fun j H' _ z=>Evl.ex_l z.1 (Evl.sq_of a5.ch)
   ·rintro j v2 Ja Jb hj ⟨z1,z2⟩ ⟨rfl,hv2⟩
    obtain ⟨c2,hc,rfl⟩:∃ c2,r.ch[j]?=some c2∧v2=.int (c2:Int):=by
     replace hv2:(intsV r.ch)[j]?=some v2:=hv2
     unfold intsV at hv2
     rw [List.getElem?_map] at hv2
     obtain ⟨c2,g1,g2⟩:=Option.map_eq_some_iff.mp hv2
     exact ⟨c2,g1,g2.symm⟩
    have hL2:=hL c2 (List.mem_of_getElem? hc)
    refine ⟨rfl,_,rfl,_,rfl,p2,_,_,_,rfl,rfl,Evl.sq_of (z1 _ _ s3),atI_nat hL2,_,z2,szl (by simp;omega),?_,?_⟩
    ·exact exm z1 nD
    ·rw [upd_same,List.take_add_one,hc]
     simp
   rintro H7 ⟨x7,s7⟩
   have tk:r.ch.take (intsV r.ch).length=r.ch:=by unfold intsV;simp
   rw [tk] at s7
   have s37:=x7 _ _ s3
   have wes:WtA P w K H H7 (r.ch.map fun c=>ds.getD (c - (m + 1)) 0) (r.ch.map (tbN (tabOf rows))):=wta_ex x7 (paired_map fun c hc=>by
    obtain ⟨e,h1,h2⟩:=hc2 c hc
    rw [List.getD_eq_getElem?_getD,h1]
    exact h2)
   generalize r.ch.map (fun c=>ds.getD (c - (m + 1)) 0)=es at s7 wes
   have sq7:=Evl.sq_of (K:=K) s7
   have ht:tbN (tabOf rows) m=stepT (ndOf r) (tbN (tabOf rows)):=by rw [tbN_eq X.w.wf hmN,hnd]
   have fin:∀ (H9:Hp) (d:Addr),Ex H7 H9→Wt P w K H H9 d (stepT (ndOf r) (tbN (tabOf rows)))→Ex H (upd H9 p2 (.lst ((List.replicate (m + 1) V.non++ds.map V.ref).set m (.ref d)))) ∧
     (upd H9 p2 (.lst ((List.replicate (m + 1) V.non++ds.map V.ref).set m (.ref d)))) p2=some (.lst (List.replicate (rows.length - (i + 1)) V.non++(d::ds).map V.ref)) ∧
     WtA P w K H (upd H9 p2 (.lst ((List.replicate (m + 1) V.non++ds.map V.ref).set m (.ref d)))) (d::ds) ((List.range' (rows.length - (i + 1)) (i + 1)).map (tbN (tabOf rows))):=fun H9 d x9 wt9=>by
    rw [← ht] at wt9
    have hx:∃ x∈List.replicate (m + 1) V.non++ds.map V.ref,∀ k,x≠V.int k:=⟨.non,by simp,fun k z=>nomatch z⟩
    have e2:rows.length - (i + 1)=m:=by omega
    refine ⟨exm (Evl.Ex.trans y1 (Evl.Ex.trans x7 x9)) (ex_none x1 n2),?_,?_⟩
    ·rw [upd_same,set_rep,e2]<;>rfl
    ·rw [e2,List.range'_succ,List.map_cons]
     refine .cons (wt_lst (x9 _ _ s37) hx wt9) (L2.Paired.mapP wa fun _ _ z=>wt_lst (x9 _ _ s37) hx (wt_ex (Evl.Ex.trans x7 x9) z))
   have sm:((r.ch.map (tbN (tabOf rows))).map List.length).sum≤800:=by omega
   have ll:∀ t∈r.ch.map (tbN (tabOf rows)),∀ p∈t,p.2.length≤5000:=fun t ht p hp=>by
    obtain ⟨c,hc,rfl⟩:=List.mem_map.mp ht
    have:=((pk2 c hc).2 p hp).1
    omega
   cases e:ndOf r with
   | iff a b =>
    rw [e] at hk hch fin
    replace hk:kk="if":=hk.symm
    subst hk
    have hch:r.ch=[a,b]:=hch
    rw [hch] at wes sm ll pk2
    refine ⟨_,rfl,rfl,_,rfl,itT (decide_eq_true rfl) ?_⟩
    refine ⟨_,rfl,H,D,es,_,y1.trans x7,rfl,sq7,wes,Nat.le_trans sm (by decide),ll,fun H9 d x9 nd9 wt9=>?_⟩
    refine ⟨_,rfl,_,rfl,p2,_,_,m,rfl,rfl,x9 _ _ s37,Evl.ixN_nat (by simp;omega),?_⟩
    obtain ⟨f1,f2,f3⟩:=fin H9 d x9 wt9
    exact ⟨_,_,_,_,d::ds,f1,f2,f3,rfl⟩
   | whl a =>
    rw [e] at hk hch fin
    replace hk:kk="while":=hk.symm
    subst hk
    have hch:r.ch=[a]:=hch
    rw [hch] at wes sm ll pk2
    obtain ⟨d1,es1,rfl,wd1,_⟩:=paired1 wes
    refine ⟨_,rfl,rfl,_,rfl,itF (decide_eq_false (by decide)) ?_⟩
    refine ⟨_,rfl,rfl,_,rfl,itT (decide_eq_true rfl) ?_⟩
    refine ⟨_,rfl,D,_,_,_,rfl,rfl,sq7,atI_nat (j:=0) rfl,H,d1,_,y1.trans x7,rfl,wd1,(by simp at sm;omega),ll _ (by simp),fun p hp k hk=>((pk2 a (by simp)).2 p hp).2 k hk,fun H9 d x9 nd9 wt9=>?_⟩
    refine ⟨_,rfl,_,rfl,p2,_,_,m,rfl,rfl,x9 _ _ s37,Evl.ixN_nat (by simp;omega),?_⟩
    obtain ⟨f1,f2,f3⟩:=fin H9 d x9 wt9
    exact ⟨_,_,_,_,d::ds,f1,f2,f3,rfl⟩
   | seq l =>
    rw [e] at hk hch fin
    replace hk:kk="seq":=hk.symm
    subst hk
    have hch:r.ch=l:=hch
    rw [hch] at wes sm ll pk2
    refine ⟨_,rfl,rfl,_,rfl,itF (decide_eq_false (by decide)) ?_⟩
    refine ⟨_,rfl,rfl,_,rfl,itF (decide_eq_false (by decide)) ?_⟩
    refine ⟨_,rfl,rfl,_,rfl,itT (decide_eq_true rfl) ?_⟩
    refine ⟨_,rfl,H,D,es,_,y1.trans x7,rfl,sq7,wes,Nat.le_trans sm (by decide),ll,(by rw [← hch];simp;omega),fun H9 d x9 nd9 wt9=>?_⟩
    refine ⟨_,rfl,_,rfl,p2,_,_,m,rfl,rfl,x9 _ _ s37,Evl.ixN_nat (by simp;omega),?_⟩
    obtain ⟨f1,f2,f3⟩:=fin H9 d x9 wt9
    exact ⟨_,_,_,_,d::ds,f1,f2,f3,rfl⟩
   | tr a b =>
    rw [e] at hk hch fin
    replace hk:kk="try":=hk.symm
    subst hk
    have hch:r.ch=[a,b]:=hch
    rw [hch] at wes sm ll pk2
    obtain ⟨d1,es1,rfl,wd1,we1⟩:=paired1 wes
    obtain ⟨d2,es2,rfl,wd2,_⟩:=paired1 we1
    refine ⟨_,rfl,rfl,_,rfl,itF (decide_eq_false (by decide)) ?_⟩
    refine ⟨_,rfl,rfl,_,rfl,itF (decide_eq_false (by decide)) ?_⟩
    refine ⟨_,rfl,rfl,_,rfl,itF (decide_eq_false (by decide)) ?_⟩
    refine ⟨_,rfl,rfl,_,rfl,itT (decide_eq_true rfl) ?_⟩
    refine ⟨_,rfl,D,_,_,_,rfl,rfl,sq7,atI_nat (j:=0) rfl,_,rfl,D,_,_,_,rfl,rfl,sq7,atI_nat (j:=1) rfl,H,d1,d2,_,_,y1.trans x7,rfl,wd1,wd2,(by simp at sm;omega),ll _ (by simp),ll _ (by simp),fun H9 d x9 nd9 wt9=>?_⟩
    refine ⟨_,rfl,_,rfl,p2,_,_,m,rfl,rfl,x9 _ _ s37,Evl.ixN_nat (by simp;omega),?_⟩
    obtain ⟨f1,f2,f3⟩:=fin H9 d x9 wt9
    exact ⟨_,_,_,_,d::ds,f1,f2,f3,rfl⟩
   | fin a b =>
    rw [e] at hk hch fin
    replace hk:kk="final":=hk.symm
    subst hk
    have hch:r.ch=[a,b]:=hch
    rw [hch] at wes sm ll pk2
    obtain ⟨d1,es1,rfl,wd1,we1⟩:=paired1 wes
    obtain ⟨d2,es2,rfl,wd2,_⟩:=paired1 we1
    refine ⟨_,rfl,rfl,_,rfl,itF (decide_eq_false (by decide)) ?_⟩
    refine ⟨_,rfl,rfl,_,rfl,itF (decide_eq_false (by decide)) ?_⟩
    refine ⟨_,rfl,rfl,_,rfl,itF (decide_eq_false (by decide)) ?_⟩
    refine ⟨_,rfl,rfl,_,rfl,itF (decide_eq_false (by decide)) ?_⟩
    refine ⟨_,rfl,rfl,_,rfl,itT (decide_eq_true rfl) ?_⟩
    refine ⟨_,rfl,D,_,_,_,rfl,rfl,sq7,atI_nat (j:=0) rfl,_,rfl,D,_,_,_,rfl,rfl,sq7,atI_nat (j:=1) rfl,H,d1,d2,_,_,y1.trans x7,rfl,wd1,wd2,(pk2 a (by simp)).1,(by simp at sm;omega),ll _ (by simp),ll _ (by simp),fun H9 d x9 nd9 wt9=>?_⟩
    refine ⟨_,rfl,_,rfl,p2,_,_,m,rfl,rfl,x9 _ _ s37,Evl.ixN_nat (by simp;omega),?_⟩
    obtain ⟨f1,f2,f3⟩:=fin H9 d x9 wt9
    exact ⟨_,_,_,_,d::ds,f1,f2,f3,rfl⟩
   | do_ =>
    rw [e] at hk fin
    replace hk:kk="do":=hk.symm
    subst hk
    refine ⟨_,rfl,rfl,_,rfl,itF (decide_eq_false (by decide)) ?_⟩
    refine ⟨_,rfl,rfl,_,rfl,itF (decide_eq_false (by decide)) ?_⟩
    refine ⟨_,rfl,rfl,_,rfl,itF (decide_eq_false (by decide)) ?_⟩
    refine ⟨_,rfl,rfl,_,rfl,itF (decide_eq_false (by decide)) ?_⟩
    refine ⟨_,rfl,rfl,_,rfl,itF (decide_eq_false (by decide)) ?_⟩
    obtain ⟨vs7,c7,C7,a7⟩:=X.at (xF5.trans x7) hr
    refine ⟨_,rfl,_,rfl,A.p,_,_,_,_,rfl,C7.ob,c_Code T,na_Code_labels T,fl_Code_labels _ _ _ _ _,_,rfl,A.a3,_,_,_,rfl,rfl,Evl.sq_of C7.h3,atI_nat a7.lb,H,.do_,labD r.d,y1.trans x7,rfl,True.intro,fun k hk=>lab_nd (X.w.sv m r hr).1 (by rw [e];exact hk),fun H9 d x9 nd9 wt9=>?_⟩
    refine ⟨_,rfl,_,rfl,p2,_,_,m,rfl,rfl,x9 _ _ s37,Evl.ixN_nat (by simp;omega),?_⟩
    obtain ⟨f1,f2,f3⟩:=fin H9 d x9 wt9
    exact ⟨_,_,_,_,d::ds,f1,f2,f3,rfl⟩
   | call =>
    rw [e] at hk fin
    replace hk:kk="call":=hk.symm
    subst hk
    refine ⟨_,rfl,rfl,_,rfl,itF (decide_eq_false (by decide)) ?_⟩
    refine ⟨_,rfl,rfl,_,rfl,itF (decide_eq_false (by decide)) ?_⟩
    refine ⟨_,rfl,rfl,_,rfl,itF (decide_eq_false (by decide)) ?_⟩
    refine ⟨_,rfl,rfl,_,rfl,itF (decide_eq_false (by decide)) ?_⟩
    refine ⟨_,rfl,rfl,_,rfl,itF (decide_eq_false (by decide)) ?_⟩
    obtain ⟨vs7,c7,C7,a7⟩:=X.at (xF5.trans x7) hr
    refine ⟨_,rfl,_,rfl,A.p,_,_,_,_,rfl,C7.ob,c_Code T,na_Code_labels T,fl_Code_labels _ _ _ _ _,_,rfl,A.a3,_,_,_,rfl,rfl,Evl.sq_of C7.h3,atI_nat a7.lb,H,.call,labD r.d,y1.trans x7,rfl,True.intro,fun k hk=>lab_nd (X.w.sv m r hr).1 (by rw [e];exact hk),fun H9 d x9 nd9 wt9=>?_⟩
    refine ⟨_,rfl,_,rfl,p2,_,_,m,rfl,rfl,x9 _ _ s37,Evl.ixN_nat (by simp;omega),?_⟩
    obtain ⟨f1,f2,f3⟩:=fin H9 d x9 wt9
    exact ⟨_,_,_,_,d::ds,f1,f2,f3,rfl⟩
   | ret =>
    rw [e] at hk fin
    replace hk:kk="return":=hk.symm
    subst hk
    refine ⟨_,rfl,rfl,_,rfl,itF (decide_eq_false (by decide)) ?_⟩
    refine ⟨_,rfl,rfl,_,rfl,itF (decide_eq_false (by decide)) ?_⟩
    refine ⟨_,rfl,rfl,_,rfl,itF (decide_eq_false (by decide)) ?_⟩
    refine ⟨_,rfl,rfl,_,rfl,itF (decide_eq_false (by decide)) ?_⟩
    refine ⟨_,rfl,rfl,_,rfl,itF (decide_eq_false (by decide)) ?_⟩
    obtain ⟨vs7,c7,C7,a7⟩:=X.at (xF5.trans x7) hr
    refine ⟨_,rfl,_,rfl,A.p,_,_,_,_,rfl,C7.ob,c_Code T,na_Code_labels T,fl_Code_labels _ _ _ _ _,_,rfl,A.a3,_,_,_,rfl,rfl,Evl.sq_of C7.h3,atI_nat a7.lb,H,.ret,labD r.d,y1.trans x7,rfl,True.intro,fun k hk=>lab_nd (X.w.sv m r hr).1 (by rw [e];exact hk),fun H9 d x9 nd9 wt9=>?_⟩
    refine ⟨_,rfl,_,rfl,p2,_,_,m,rfl,rfl,x9 _ _ s37,Evl.ixN_nat (by simp;omega),?_⟩
    obtain ⟨f1,f2,f3⟩:=fin H9 d x9 wt9
    exact ⟨_,_,_,_,d::ds,f1,f2,f3,rfl⟩
   | rai =>
    rw [e] at hk fin
    replace hk:kk="raise":=hk.symm
    subst hk
    refine ⟨_,rfl,rfl,_,rfl,itF (decide_eq_false (by decide)) ?_⟩
    refine ⟨_,rfl,rfl,_,rfl,itF (decide_eq_false (by decide)) ?_⟩
    refine ⟨_,rfl,rfl,_,rfl,itF (decide_eq_false (by decide)) ?_⟩
    refine ⟨_,rfl,rfl,_,rfl,itF (decide_eq_false (by decide)) ?_⟩
    refine ⟨_,rfl,rfl,_,rfl,itF (decide_eq_false (by decide)) ?_⟩
    obtain ⟨vs7,c7,C7,a7⟩:=X.at (xF5.trans x7) hr
    refine ⟨_,rfl,_,rfl,A.p,_,_,_,_,rfl,C7.ob,c_Code T,na_Code_labels T,fl_Code_labels _ _ _ _ _,_,rfl,A.a3,_,_,_,rfl,rfl,Evl.sq_of C7.h3,atI_nat a7.lb,H,.rai,labD r.d,y1.trans x7,rfl,True.intro,fun k hk=>lab_nd (X.w.sv m r hr).1 (by rw [e];exact hk),fun H9 d x9 nd9 wt9=>?_⟩
    refine ⟨_,rfl,_,rfl,p2,_,_,m,rfl,rfl,x9 _ _ s37,Evl.ixN_nat (by simp;omega),?_⟩
    obtain ⟨f1,f2,f3⟩:=fin H9 d x9 wt9
    exact ⟨_,_,_,_,d::ds,f1,f2,f3,rfl⟩
   | brk k =>
    rw [e] at hk fin
    replace hk:kk="break":=hk.symm
    subst hk
    refine ⟨_,rfl,rfl,_,rfl,itF (decide_eq_false (by decide)) ?_⟩
    refine ⟨_,rfl,rfl,_,rfl,itF (decide_eq_false (by decide)) ?_⟩
    refine ⟨_,rfl,rfl,_,rfl,itF (decide_eq_false (by decide)) ?_⟩
    refine ⟨_,rfl,rfl,_,rfl,itF (decide_eq_false (by decide)) ?_⟩
    refine ⟨_,rfl,rfl,_,rfl,itF (decide_eq_false (by decide)) ?_⟩
    obtain ⟨vs7,c7,C7,a7⟩:=X.at (xF5.trans x7) hr
    refine ⟨_,rfl,_,rfl,A.p,_,_,_,_,rfl,C7.ob,c_Code T,na_Code_labels T,fl_Code_labels _ _ _ _ _,_,rfl,A.a3,_,_,_,rfl,rfl,Evl.sq_of C7.h3,atI_nat a7.lb,H,.brk k,labD r.d,y1.trans x7,rfl,True.intro,fun k hk=>lab_nd (X.w.sv m r hr).1 (by rw [e];exact hk),fun H9 d x9 nd9 wt9=>?_⟩
    refine ⟨_,rfl,_,rfl,p2,_,_,m,rfl,rfl,x9 _ _ s37,Evl.ixN_nat (by simp;omega),?_⟩
    obtain ⟨f1,f2,f3⟩:=fin H9 d x9 wt9
    exact ⟨_,_,_,_,d::ds,f1,f2,f3,rfl⟩
   | cnt k =>
    rw [e] at hk fin
    replace hk:kk="continue":=hk.symm
    subst hk
    refine ⟨_,rfl,rfl,_,rfl,itF (decide_eq_false (by decide)) ?_⟩
    refine ⟨_,rfl,rfl,_,rfl,itF (decide_eq_false (by decide)) ?_⟩
    refine ⟨_,rfl,rfl,_,rfl,itF (decide_eq_false (by decide)) ?_⟩
    refine ⟨_,rfl,rfl,_,rfl,itF (decide_eq_false (by decide)) ?_⟩
    refine ⟨_,rfl,rfl,_,rfl,itF (decide_eq_false (by decide)) ?_⟩
    obtain ⟨vs7,c7,C7,a7⟩:=X.at (xF5.trans x7) hr
    refine ⟨_,rfl,_,rfl,A.p,_,_,_,_,rfl,C7.ob,c_Code T,na_Code_labels T,fl_Code_labels _ _ _ _ _,_,rfl,A.a3,_,_,_,rfl,rfl,Evl.sq_of C7.h3,atI_nat a7.lb,H,.cnt k,labD r.d,y1.trans x7,rfl,True.intro,fun k hk=>lab_nd (X.w.sv m r hr).1 (by rw [e];exact hk),fun H9 d x9 nd9 wt9=>?_⟩
    refine ⟨_,rfl,_,rfl,p2,_,_,m,rfl,rfl,x9 _ _ s37,Evl.ixN_nat (by simp;omega),?_⟩
    obtain ⟨f1,f2,f3⟩:=fin H9 d x9 wt9
    exact ⟨_,_,_,_,d::ds,f1,f2,f3,rfl⟩
  ·rintro σ' H' ⟨o2,o3,o4,o5,ds,y1,y2,y3,rfl⟩
   rw [Nat.sub_self] at y2 y3
   rw [← List.range_eq_range'] at y3
   exact ⟨_,rfl,q _ _ _ y1 (ex_none x1 n2) y2 y3⟩
end
end
section
def sp_cn (K:PySem.W.Frag):Sp:=fun vs H Q _=>∃ (F:Hp) (A:CAd) (rows:List Row) (n:Nat),vs=[.ref A.p,.int (n:Int)]∧CodeH K F F A rows∧Ex F H∧n<rows.length∧Q .non H
section
variable {P:Program} {w:World} {h:Heap} {K:PySem.W.Frag} {mg:Str→Option Value} {base:Heap}
abbrev N_Code_check_number:List Str:=["self","number"]
theorem sc_Code_check_number:FnScope N_Code_check_number ["self","number"] (defScope sd_Code_check_number):=⟨rfl,rfl,rfl,by decide +kernel,rfl,by decide +kernel,by decide +kernel⟩
theorem ok_Code_check_number (T:Tx w h K mg):Ok P w K mg base 3 ("Code",some "check_number") ["self","number"] (sp_cn K):=by
 obtain ⟨fd,F⟩:=F_Code_check_number T
 refine ⟨fd,?_,F.bindsN (fun _ _ _ _ _ _ us hl=>match us,hl with | [_,_],_=>rfl),F.kp⟩
 obtain ⟨fd_is_between,G_is_between,bi_is_between,kp_is_between⟩:=ok_is_between (P:=P) (base:=base) T
 refine F.ok sc_Code_check_number (fun vs H Q E h=>?_) (fun cdv A outer s H vs Q E hr h=>?_)
 ·obtain ⟨F,A,rows,n,rfl,C,xF,hn,q⟩:=h
  rfl
 ·obtain ⟨F,A,rows,n,rfl,C,xF,hn,q⟩:=h
  refine ⟨_,PSs.nox (pss_one (ps_if (pt_not (pt_val (pe_call G_is_between (hr.mono (by decide)) rfl (g_is_between T) kp_is_between bi_is_between .nil passF (pa_cons (pv 1) (pa_cons pe_int (pa_cons (pe_op op_sub (pe_callB call_len_seq rfl (fr_len T) b_len (pa_cons (pe_fld (pv 0) rfl) pa_nil)) pe_int) pa_nil)))))) (pss_one ps_never) pss_nil)),?_⟩
  obtain ⟨vs,C1,_⟩:=C.ex (Evl.Ex.refl _) xF
  refine ⟨_,rfl,_,rfl,A.p,_,_,_,_,rfl,C1.ob,c_Code T,na_Code_kinds T,fl_Code_kinds _ _ _ _ _,A.a2,_,rfl,.inl (Evl.sq_of C1.h2),_,_,rfl,rfl,?_⟩
  refine ⟨_,_,_,rfl,.inl ⟨_,rfl,?_⟩⟩
  have e:(decide ((0:Int)≤(n:Int)) && decide ((n:Int)≤((rows.map fun r=>V.str (kindD r.d)).length:Int) - 1))=true:=by
   rw [List.length_map]
   simp
   omega
  refine ⟨_,rfl,?_⟩
  refine itF (by rw [e]<;>rfl) q
end
end
section
def sp_kind (K:PySem.W.Frag):Sp:=fun vs H Q _=>∃ (F:Hp) (A:CAd) (rows:List Row) (n:Nat) (r:Row),vs=[.ref A.p,.int (n:Int)]∧CodeH K F F A rows∧Ex F H∧rows[n]?=some r∧Q (.str (kindD r.d)) H
section
variable {P:Program} {w:World} {h:Heap} {K:PySem.W.Frag} {mg:Str→Option Value} {base:Heap}
abbrev N_Code_kind:List Str:=["self","number"]
theorem sc_Code_kind:FnScope N_Code_kind ["self","number"] (defScope sd_Code_kind):=⟨rfl,rfl,rfl,by decide +kernel,rfl,by decide +kernel,by decide +kernel⟩
theorem okF_Code_kind (T:Tx w h K mg):∃ fd,FnOk P w K mg base (CX P w) 4 (He.fAd K ("Code",some "kind")) fd ["self","number"] (sp_kind K)∧Binds K fd ["self","number"] []∧PySem.W.keepIn K (.ref (He.fAd K ("Code",some "kind")))=true∧FunD K "kind" "Code.kind" (defArgs sd_Code_kind) (defBody sd_Code_kind) (defScope sd_Code_kind) [] [] (He.fAd K ("Code",some "kind")) fd:=by
 obtain ⟨fd,F⟩:=F_Code_kind T
 refine ⟨fd,?_,F.bindsN (fun _ _ _ _ _ _ us hl=>match us,hl with | [_,_],_=>rfl),F.kp,F⟩
 obtain ⟨fd_Code_check_number,G_Code_check_number,bi_Code_check_number,kp_Code_check_number⟩:=ok_Code_check_number (P:=P) (base:=base) T
 refine F.ok sc_Code_kind (fun vs H Q E h=>?_) (fun cdv A outer s H vs Q E hr h=>?_)
 ·obtain ⟨F,A,rows,n,r,rfl,C,xF,hw,q⟩:=h
  rfl
 ·obtain ⟨F,A,rows,n,r,rfl,C,xF,hw,q⟩:=h
  refine ⟨_,PSs.nox (pss_cons (ps_expr (pe_meth (pv 0) (c_Code T) (me_Code_check_number T) G_Code_check_number (hr.mono (by decide)) bi_Code_check_number .nil passF (pa_cons (pv 1) pa_nil))) (pss_one (ps_ret (pe_ix ix_list (pe_fld (pv 0) rfl) (pv 1) (fun _ _=>rfl))))),?_⟩
  obtain ⟨vs,C1,_⟩:=C.ex (Evl.Ex.refl _) xF
  refine ⟨_,rfl,A.p,_,_,rfl,C1.ob,fm_Code_check_number _ _ _ _ _,_,rfl,F,A,rows,n,rfl,C,xF,(List.getElem?_eq_some_iff.mp hw).1,?_⟩
  refine ⟨_,rfl,A.p,_,_,_,_,rfl,C1.ob,c_Code T,na_Code_kinds T,fl_Code_kinds _ _ _ _ _,_,rfl,A.a2,_,_,.str (kindD r.d),rfl,rfl,Evl.sq_of C1.h2,atI_nat (by rw [List.getElem?_map,hw]<;>rfl),q⟩
theorem ok_Code_kind (T:Tx w h K mg):Ok P w K mg base 4 ("Code",some "kind") ["self","number"] (sp_kind K):=by
 obtain ⟨fd,a,b,c,_⟩:=okF_Code_kind (P:=P) (base:=base) T
 exact ⟨fd,a,b,c⟩
end
end
end Fc
set_option maxRecDepth 100000
set_option maxHeartbeats 4000000
namespace FcW
open PySem PySem.Spec PyProof.Rows L2
theorem b_sorted:bootBuiltins "sorted"=some (.builtin "sorted"):=by decide +kernel
section
variable {X:Cx}
variable {o e:Expr} {es:List Expr} {to:TE} {t:TA} {name:Str} {apos cpos:Pos} {id:String} {r:V→List V→Hp→VK→Prop}
end
end FcW
set_option maxRecDepth 100000
set_option maxHeartbeats 4000000
namespace Fc
open PySem PySem.Spec PyProof.Rows L2 FcR
open Evl (Ex)
section
open FcM (Way Node Tab)
theorem b_sorted:bootBuiltins "sorted"=some (.builtin "sorted"):=FcW.b_sorted
theorem alike_wk (a b:Way):PySem.W.alike (FcW.keyD (wk a)) (FcW.keyD (wk b))=true:=by
 cases a<;>cases b<;>simp [FcW.keyD,wk,FcW.kD,PySem.W.alike,PySem.W.alikeAll]
def leW (a b:Way):Bool:=PySem.W.dataLe false (fun v:Way=>FcW.keyD (wk v)) a b
def srtW (t:Tw):List Way:=(t.map (·.1)).mergeSort leW
def WyL (K:PySem.W.Frag) (H:Hp) (a:Addr) (vs:List Way):Prop:=∃ bs:List Addr,H a=some (.lst (bs.map V.ref))∧Paired (fun b v=>SqT K H b ((wk v).map kV)) bs vs
theorem wyL_ex {K:PySem.W.Frag} {H H':Hp} {a:Addr} {vs:List Way} (e:Ex H H') (h:WyL K H a vs):WyL K H' a vs:=let ⟨bs,h1,h2⟩:=h;⟨bs,e _ _ h1,L2.Paired.mapP h2 fun _ _ z=>Evl.ex_t e z⟩
theorem wk_ne (v:Way):wk v≠[]:=by cases v<;>simp [wk]
theorem paired_of_map {α β:Type} {R:α→β→Prop}:∀ {xs:List α} {ys:List β},xs.length=ys.length→(∀ (i:Nat) (x:α) (y:β),xs[i]?=some x→ys[i]?=some y→R x y)→Paired R xs ys
 | [],[],_,_=>.nil
 | x::xs,y::ys,h,r=>.cons (r 0 x y rfl rfl) (paired_of_map (by simpa using h) fun i x' y' h1 h2=>r (i + 1) x' y' (by simpa using h1) (by simpa using h2))
 | [],_::_,h,_=>by simp at h
 | _::_,[],h,_=>by simp at h
theorem paired_getR {α β:Type} {R:α→β→Prop}:∀ {xs:List α} {ys:List β},Paired R xs ys→∀ {i:Nat} {y:β},ys[i]?=some y→∃ x,xs[i]?=some x∧R x y
 | _,_,.cons r h,0,y,e=>by cases e;exact ⟨_,rfl,r⟩
 | _,_,.cons r h,i + 1,y,e=>by
  obtain ⟨x,h1,h2⟩:=paired_getR h (i:=i) (y:=y) (by simpa using e)
  exact ⟨x,by simpa using h1,h2⟩
 | _,_,.nil,i,y,e=>by simp at e
theorem srt_keys {P:Program} {w:World} {K:PySem.W.Frag} {N H:Hp} {d:Addr} {o:Obj} {xs:List FcW.Ent} {t:Tw} (D:FcW.WD P w K H d o xs) (R:TbR K N H xs t):Paired (fun b v=>SqT K H b ((wk v).map kV)) ((xs.mergeSort FcW.leE).map fun e=>e.2.1) (srtW t):=by
 have e1:xs.map (·.1)=t.map fun p=>wk p.1:=by
  clear D
  unfold TbR at R
  induction R with
  | nil=>rfl
  | cons z r ih=>rw [List.map_cons,List.map_cons,ih,z.1]
 have e2:(xs.mergeSort FcW.leE).map (·.1)=(srtW t).map wk:=by
  have m1:=List.map_mergeSort (r:=FcW.leE) (s:=fun a b:List L2.Key=>PySem.W.dataLe false (fun k=>FcW.keyD k) a b) (f:=fun e:FcW.Ent=>e.1) (l:=xs) (fun a _ b _=>rfl)
  have m2:=List.map_mergeSort (r:=leW) (s:=fun a b:List L2.Key=>PySem.W.dataLe false (fun k=>FcW.keyD k) a b) (f:=wk) (l:=t.map (·.1)) (fun a _ b _=>rfl)
  rw [m1,e1]
  unfold srtW
  rw [m2,List.map_map]<;>rfl
 have hl:(xs.mergeSort FcW.leE).length=(srtW t).length:=by
  have:=congrArg List.length e2
  simpa using this
 refine paired_of_map (by rw [List.length_map];exact hl) fun i b v h1 h2=>?_
 rw [List.getElem?_map] at h1
 obtain ⟨e,h3,rfl⟩:=Option.map_eq_some_iff.mp h1
 have h4:=congrArg (fun l:List (List L2.Key)=>l[i]?) e2
 rw [show ((xs.mergeSort FcW.leE).map (·.1))[i]?=some e.1 from by rw [List.getElem?_map,h3]<;>rfl,show ((srtW t).map wk)[i]?=some (wk v) from by rw [List.getElem?_map,h2]<;>rfl] at h4
 have h5:e.1=wk v:=Option.some.inj h4
 rw [← h5]
 exact D.2 e (List.mem_mergeSort.mp (List.mem_of_getElem? h3))
theorem sqT_lst {K:PySem.W.Frag} {H:Hp} {p b:Addr} {xs ys l:List V} (e:H p=some (.lst xs)) (h:SqT K H b l):SqT K (upd H p (.lst ys)) b l:=by
 rcases h with h | h
 ·refine .inl ?_
  rcases h with h | ⟨ob,h⟩
  ·exact .inl (by rw [upd_ne (ne_of h e (fun z=>nomatch z))];exact h)
  ·exact .inr ⟨ob,by rw [upd_ne (ne_of h e (fun z=>nomatch z))];exact h⟩
 ·exact .inr h
theorem wyL_lst {K:PySem.W.Frag} {H:Hp} {p l:Addr} {xs ys:List V} {vs:List Way} (e:H p=some (.lst xs)) (hn:l≠p) (h:WyL K H l vs):WyL K (upd H p (.lst ys)) l vs :=
 let ⟨bs,h1,h2⟩:=h
 ⟨bs,by rw [upd_ne hn];exact h1,L2.Paired.mapP h2 fun _ _ z=>sqT_lst e z⟩
def sp_all_ways (P:Program) (w:World) (K:PySem.W.Frag):Sp:=fun vs H Q _=>∃ (F:Hp) (A:CAd) (rows:List Row) (lp:Nat→Nat),vs=[.ref A.p]∧CK K F A rows lp∧Ex F H ∧
 ∀ (H':Hp) (a:Addr) (ls:List Addr),Ex H H'→H a=none→H' a=some (.lst (ls.map V.ref))→Paired (fun l vs=>H l=none∧WyL K H' l vs) ls ((List.range rows.length).map fun n=>srtW (tbN (tabOf rows) n))→Q (.ref a) H'
def sp_ways (K:PySem.W.Frag):Sp:=fun vs H Q _=>∃ (F:Hp) (A:CAd) (rows:List Row) (lp:Nat→Nat) (n:Nat),vs=[.ref A.p,.int (n:Int)]∧CK K F A rows lp∧Ex F H∧n<rows.length ∧
 ∀ (H':Hp) (a:Addr),Ex H H'→H a=none→WyL K H' a (srtW (tbN (tabOf rows) n))→Q (.ref a) H'
section
variable {P:Program} {w:World} {h:Heap} {K:PySem.W.Frag} {mg:Str→Option Value} {base:Heap}
abbrev N_all_ways:List Str:=["code","found"]
theorem sc_all_ways:FnScope N_all_ways ["code"] (defScope sd_all_ways):=⟨rfl,rfl,rfl,by decide +kernel,rfl,by decide +kernel,by decide +kernel⟩
theorem ok_all_ways (T:Tx w h K mg):Ok P w K mg base 5 ("all_ways",none) ["code"] (sp_all_ways P w K):=by
 obtain ⟨fd,F⟩:=F_all_ways T
 refine ⟨fd,?_,F.bindsN (fun _ _ _ _ _ _ us hl=>match us,hl with | [_],_=>rfl),F.kp⟩
 obtain ⟨fd_shortest_answers,G_shortest_answers,bi_shortest_answers,kp_shortest_answers⟩:=ok_shortest_answers (P:=P) (base:=base) T
 refine F.ok sc_all_ways (fun vs H Q E h=>?_) (fun cdv A outer s H vs Q E hr h=>?_)
 ·obtain ⟨F,A,rows,lp,rfl,X,xF,q⟩:=h
  rfl
 ·obtain ⟨F,A,rows,lp,rfl,X,xF,q⟩:=h
  refine ⟨_,PSs.nox (pss_one (ps_ret (pe_lc (own:=[("found",1)]) rfl sc_all_ways.nd (pi_list (pe_call G_shortest_answers (hr.mono (by decide)) rfl (g_shortest_answers T) kp_shortest_answers bi_shortest_answers .nil passF (pa_cons (pv 0) pa_nil))) (blkOk_by (N:=N_all_ways) (sc:=defScope sd_all_ways) (by decide +kernel)) (fun _ _ _ _ _=>(pg_name (i:=1) sc_all_ways.nd rfl (Or.inl rfl))) (fun _ _ _ _ _=>pts_nil) (fun _ _ _ _ _=>(pe_callB (show CallR _ _ (FcW.rSortW P w K) from FcW.cr_sortW hr rfl) rfl (fr_sorted T) b_sorted (pa_cons (pv 1) pa_nil)))))),?_⟩
  refine ⟨_,rfl,F,A,rows,lp,rfl,X,xF,fun H1 a ds x1 na sa wa=>⟨a,rfl,⟨_,Evl.sq_of sa⟩,fun D nD=>?_⟩⟩
  have dl:ds.length=rows.length:=by have:=Paired.length wa;simpa using this
  have hl4:=X.l
  refine lc_it (walk_list (xs:=ds.map V.ref)) (fun j H'=>∃ ls:List Addr,ls.length=j∧Ex H1 H'∧H' D=some (.lst (ls.map V.ref))∧Paired (fun l vs=>(H l=none∧l≠D)∧WyL K H' l vs) ls ((List.range j).map fun n=>srtW (tbN (tabOf rows) n))) ?_ ?_ ?_ ?_
  ·exact ⟨[],rfl,exu (Evl.Ex.refl _) nD,upd_same,.nil⟩
  ·exact fun j H' _ ⟨ls,_,z,_⟩=>Evl.ex_l z (Evl.sq_of sa)
  ·rintro j v H2 H3 hj ⟨ls,ll,x2,s2,pa⟩ ⟨rfl,hv⟩
   rw [List.length_map,dl] at hj
   obtain ⟨d,hd,rfl⟩:∃ d,ds[j]?=some d∧v=.ref d:=by
    rw [List.getElem?_map] at hv
    obtain ⟨d,e1,e2⟩:=Option.map_eq_some_iff.mp hv
    exact ⟨d,e1,e2.symm⟩
   obtain ⟨tb,htb,o,xs,D1,R⟩:=paired_get wa hd
   obtain rfl:tb=tbN (tabOf rows) j:=by
    rw [List.getElem?_map,List.getElem?_range hj] at htb
    exact (Option.some.inj htb).symm
   have D2:=wd_ex x2 D1
   have ks:∀ x∈xs,∃ v,x.1=wk v:=fun x hx=>by
    obtain ⟨i,hi⟩:=List.getElem?_of_mem hx
    obtain ⟨p,_,e,_⟩:=paired_get R hi
    exact ⟨p.1,e⟩
   refine ⟨rfl,_,rfl,d,o,xs,rfl,D2,fun x hx=>?_,fun x hx y hy=>?_,?_⟩
   ·obtain ⟨v,e⟩:=ks x hx
    rw [e]
    exact wk_ne v
   ·obtain ⟨v,e⟩:=ks x hx
    obtain ⟨u,e2⟩:=ks y hy
    rw [e,e2]
    exact alike_wk v u
   ·intro p4 n4
    generalize e4:upd _ p4 _=H4
    obtain ⟨x4,s4,o4⟩:=new_of e4 n4
    clear e4
    have s24:=x4 _ _ s2
    have pD:p4≠D:=fun z=>by rw [z,s2] at n4;cases n4
    refine ⟨_,s24,szl (by simp;omega),ls++[p4],by simp [ll],exm (Evl.Ex.trans x2 x4) nD,by rw [upd_same];simp,?_⟩
    rw [List.range_succ,List.map_append]
    have W4:WyL K H4 p4 (srtW (tbN (tabOf rows) j)):=⟨_,by rw [s4,List.map_map]<;>rfl,L2.Paired.mapP (srt_keys D2 (tbr_mono R fun _ _ z=>x2 _ _ z)) fun _ _ z=>Evl.ex_t x4 z⟩
    exact Paired.snoc (L2.Paired.mapP pa fun _ _ z=>⟨z.1,wyL_lst s24 z.1.2 (wyL_ex x4 z.2)⟩) ⟨⟨ex_none (Evl.Ex.trans x1 x2) n4,pD⟩,wyL_lst s24 pD W4⟩
  ·rintro H2 ⟨ls,ll,x2,s2,pa⟩
   rw [List.length_map,dl] at ll pa
   exact q H2 D ls (Evl.Ex.trans x1 x2) (ex_none x1 nD) s2 (L2.Paired.mapP pa fun _ _ z=>⟨z.1.1,z.2⟩)
abbrev N_ways:List Str:=["code","number"]
theorem sc_ways:FnScope N_ways ["code","number"] (defScope sd_ways):=⟨rfl,rfl,rfl,by decide +kernel,rfl,by decide +kernel,by decide +kernel⟩
theorem okF_ways (T:Tx w h K mg):∃ fd,FnOk P w K mg base (CX P w) 6 (He.fAd K ("ways",none)) fd ["code","number"] (sp_ways K)∧Binds K fd ["code","number"] []∧PySem.W.keepIn K (.ref (He.fAd K ("ways",none)))=true∧FunD K "ways" "ways" (defArgs sd_ways) (defBody sd_ways) (defScope sd_ways) [] [] (He.fAd K ("ways",none)) fd:=by
 obtain ⟨fd,F⟩:=F_ways T
 refine ⟨fd,?_,F.bindsN (fun _ _ _ _ _ _ us hl=>match us,hl with | [_,_],_=>rfl),F.kp,F⟩
 obtain ⟨fd_all_ways,G_all_ways,bi_all_ways,kp_all_ways⟩:=ok_all_ways (P:=P) (base:=base) T
 obtain ⟨fd_Code_kind,G_Code_kind,bi_Code_kind,kp_Code_kind⟩:=ok_Code_kind (P:=P) (base:=base) T
 refine F.ok sc_ways (fun vs H Q E h=>?_) (fun cdv A outer s H vs Q E hr h=>?_)
 ·obtain ⟨F,A,rows,lp,n,rfl,X,xF,hn,q⟩:=h
  rfl
 ·obtain ⟨F,A,rows,lp,n,rfl,X,xF,hn,q⟩:=h
  refine ⟨_,PSs.nox (pss_cons (ps_expr (pe_meth (pv 0) (c_Code T) (me_Code_kind T) G_Code_kind (hr.mono (by decide)) bi_Code_kind .nil passF (pa_cons (pv 1) pa_nil))) (pss_one (ps_ret (pe_ix ix_list (pe_call G_all_ways (hr.mono (by decide)) rfl (g_all_ways T) kp_all_ways bi_all_ways .nil passF (pa_cons (pv 0) pa_nil)) (pv 1) (fun _ _=>rfl))))),?_⟩
  obtain ⟨r,hr⟩:=row_at hn
  obtain ⟨vs,C1,_⟩:=X.c.ex (Evl.Ex.refl _) xF
  refine ⟨_,rfl,A.p,_,_,rfl,C1.ob,fm_Code_kind _ _ _ _ _,_,rfl,F,A,rows,n,r,rfl,X.c,xF,hr,?_⟩
  refine ⟨_,rfl,F,A,rows,lp,rfl,X,xF,fun H1 a ls x1 na sa pa=>?_⟩
  obtain ⟨l,hl,z1,z2⟩:=paired_getR pa (show ((List.range rows.length).map fun n=>srtW (tbN (tabOf rows) n))[n]?=some (srtW (tbN (tabOf rows) n)) from by rw [List.getElem?_map,List.getElem?_range hn]<;>rfl)
  exact ⟨_,rfl,a,_,_,_,rfl,rfl,Evl.sq_of sa,atI_nat (by rw [List.getElem?_map,hl]<;>rfl),q H1 l x1 z1 z2⟩
theorem ok_ways (T:Tx w h K mg):Ok P w K mg base 6 ("ways",none) ["code","number"] (sp_ways K):=by
 obtain ⟨fd,a,b,c,_⟩:=okF_ways (P:=P) (base:=base) T
 exact ⟨fd,a,b,c⟩
end
end
section
open FcM (Way Node Tab)
theorem toks_wk {a b:Way} (h:PySem.W.keyToks (FcW.keyD (wk a))=PySem.W.keyToks (FcW.keyD (wk b))):a=b:=by
 have jump:∀ {s:List Nat} {k k':Nat},([.inl 1,.inr s,.inl 1,.inl (k:Int),.inl 0]:List (Int ⊕ List Nat))=[.inl 1,.inr s,.inl 1,.inl (k':Int),.inl 0]→k=k':=fun h=>by
  simp only [List.cons.injEq,Sum.inl.injEq,and_true,true_and] at h
  omega
 cases a<;>cases b<;>first
  | rfl
  | exact absurd (show (3:Nat)=5 from congrArg List.length h) (by decide)
  | exact absurd (show (5:Nat)=3 from congrArg List.length h) (by decide)
  | exact absurd (show (some (Sum.inr ("break":Str).cps.toList):Option (Int ⊕ List Nat))=some (.inr ("continue":Str).cps.toList) from congrArg (fun l=>l[1]?) h) (by decide)
  | exact absurd (show (some (Sum.inr ("continue":Str).cps.toList):Option (Int ⊕ List Nat))=some (.inr ("break":Str).cps.toList) from congrArg (fun l=>l[1]?) h) (by decide)
  | exact congrArg _ (jump h)
  | exact absurd (congrArg (fun l=>l[1]?) h) (by decide)
theorem leW_anti {a b:Way} (h:leW a b=true) (h':leW b a=true):a=b:=by
 have e1:(!(PyProof.Rows.listOrd PyProof.Rows.itemOrd).blt (PySem.W.keyToks (FcW.keyD (wk b))) (PySem.W.keyToks (FcW.keyD (wk a))))=true:=h
 have e2:(!(PyProof.Rows.listOrd PyProof.Rows.itemOrd).blt (PySem.W.keyToks (FcW.keyD (wk a))) (PySem.W.keyToks (FcW.keyD (wk b))))=true:=h'
 refine toks_wk ((PyProof.Rows.listOrd PyProof.Rows.itemOrd).total _ _ ?_ ?_)
 ·simpa using e2
 ·simpa using e1
theorem sorted_ext:∀ {l1 l2:List Way},l1.Pairwise (fun a b=>leW a b=true)→l2.Pairwise (fun a b=>leW a b=true)→l1.Nodup→l2.Nodup→(∀ a,a∈l1 ↔ a∈l2)→l1=l2
 | [],[],_,_,_,_,_=>rfl
 | [],y::l2,_,_,_,_,h=>absurd ((h y).mpr List.mem_cons_self) (by simp)
 | x::l1,[],_,_,_,_,h=>absurd ((h x).mp List.mem_cons_self) (by simp)
 | x::l1,y::l2,p1,p2,n1,n2,h=>by
  have e:x=y:=by
   by_cases e:x=y
   ·exact e
   ·have h1:x∈l2:=(List.mem_cons.mp ((h x).mp List.mem_cons_self)).resolve_left e
    have h2:y∈l1:=(List.mem_cons.mp ((h y).mpr List.mem_cons_self)).resolve_left fun z=>e z.symm
    exact leW_anti (List.rel_of_pairwise_cons p1 h2) (List.rel_of_pairwise_cons p2 h1)
  subst e
  have m1:=(List.nodup_cons.mp n1)
  have m2:=(List.nodup_cons.mp n2)
  refine congrArg (x::·) (sorted_ext (List.pairwise_cons.mp p1).2 (List.pairwise_cons.mp p2).2 m1.2 m2.2 fun a=>?_)
  constructor
  ·intro ha
   rcases List.mem_cons.mp ((h a).mp (List.mem_cons_of_mem _ ha)) with z | z
   ·exact absurd (z ▸ ha) m1.1
   ·exact z
  ·intro ha
   rcases List.mem_cons.mp ((h a).mpr (List.mem_cons_of_mem _ ha)) with z | z
   ·exact absurd (z ▸ ha) m2.1
   ·exact z
end
section
open FcM (Way Node Tab)
theorem mem_srtW11 {t:Tw} {u:Way}:u∈srtW t ↔ (lk t u).isSome=true:=by
 unfold srtW
 rw [List.mem_mergeSort]
 induction t with
 | nil=>exact ⟨fun h=>(nomatch h),fun h=>(nomatch h)⟩
 | cons p t ih =>
  rw [List.map_cons,List.mem_cons]
  by_cases e:p.1=u
  ·rw [lk_pos e]
   exact ⟨fun _=>rfl,fun _=>.inl e.symm⟩
  ·rw [lk_neg e,← ih]
   exact ⟨fun h=>h.resolve_left fun z=>e z.symm,.inr⟩
abbrev has (t:Tw) (u:Way):Bool:=(lk t u).isSome
theorem has_put (t:Tw) (v:Way) (x:List Int) (u:Way):has (putT t v x) u=(decide (u=v) || has t u):=by
 show (lk (putT t v x) u).isSome=_
 rw [lk_put]
 by_cases e:u=v
 ·rw [if_pos e,decide_eq_true e]<;>rfl
 ·rw [if_neg e,decide_eq_false e]<;>rfl
theorem has_keep (t:Tw) (v:Way) (x:List Int) (u:Way):has (keepT t v x) u=(decide (u=v) || has t u):=by
 unfold keepT
 cases e:lk t v with
 | none=>exact has_put t v x u
 | some old =>
  dsimp only
  split
  ·exact has_put t v x u
  ·by_cases z:u=v
   ·subst z
    show (lk t u).isSome=_
    rw [e,decide_eq_true rfl]<;>rfl
   ·rw [decide_eq_false z,Bool.false_or]
theorem has_cons (p:Way×List Int) (t:Tw) (u:Way):has (p::t) u=(decide (u=p.1) || has t u):=by
 by_cases e:p.1=u
 ·show (lk (p::t) u).isSome=_
  rw [lk_pos e,decide_eq_true e.symm]<;>rfl
 ·show (lk (p::t) u).isSome=_
  rw [lk_neg e,decide_eq_false (fun z=>e z.symm)]<;>rfl
theorem has_all (f:List Int→List Int) (u:Way):∀ (ps t:Tw),has (keepAll t ps f) u=(has t u || has ps u)
 | [],t=>by show has t u=_;rw [show has ([]:Tw) u=false from rfl,Bool.or_false]
 | p::ps,t=>by
  show has (keepAll (keepT t p.1 (f p.2)) ps f) u=_
  rw [has_all f u ps,has_keep,has_cons]
  cases decide (u=p.1)<;>cases has t u<;>cases has ps u<;>rfl
theorem has_but (x u:Way):∀ t:Tw,has (t.filter fun e=>decide (e.1≠x)) u=(decide (u≠x) && has t u)
 | []=>by show false=_;rw [show has ([]:Tw) u=false from rfl,Bool.and_false]
 | p::t=>by
  by_cases e:p.1=x
  ·rw [List.filter_cons_of_neg (by simp [e]),has_but x u t,has_cons]
   by_cases z:u=x
   ·rw [decide_eq_false (fun y=>y z)]<;>rfl
   ·rw [decide_eq_true z,decide_eq_false (fun y=>z (y.trans e))]<;>rfl
  ·rw [List.filter_cons_of_pos (by simp [e]),has_cons,has_but x u t,has_cons]
   by_cases z:u=p.1
   ·rw [decide_eq_true z,decide_eq_true (show u≠x from fun y=>e (z.symm.trans y))]<;>rfl
   ·rw [decide_eq_false z]<;>rfl
def outW:Way→Way
 | .brk (k + 2)=>.brk (k + 1)
 | .cnt (k + 2)=>.cnt (k + 1)
 | .brk _=>.nrm
 | .cnt _=>.nrm
 | w=>w
theorem has_wst (t:Tw) (p:Way×List Int) (u:Way):has (whileStep t p) u=(has t u || (decide (outW p.1≠.nrm) && decide (u=outW p.1))):=by
 obtain ⟨v,x⟩:=p
 have put:∀ z,z≠Way.nrm→has (putT t z (1::x)) u=(has t u || (decide (z≠.nrm) && decide (u=z))):=fun z hz=>by
  rw [has_put,decide_eq_true hz,Bool.true_and,Bool.or_comm]
 have no:has t u=(has t u || (decide (Way.nrm≠.nrm) && decide (u=.nrm))):=by
  rw [decide_eq_false (fun z=>z rfl),Bool.false_and,Bool.or_false]
 match v with
 | .brk (k + 2)=>exact put _ (fun z=>nomatch z)
 | .cnt (k + 2)=>exact put _ (fun z=>nomatch z)
 | .ret=>exact put _ (fun z=>nomatch z)
 | .rai=>exact put _ (fun z=>nomatch z)
 | .brk 0=>exact no
 | .brk 1=>exact no
 | .cnt 0=>exact no
 | .cnt 1=>exact no
 | .nrm=>exact no
theorem has_whl (a:Tw) (u:Way):has (whileT a) u=(decide (u=.nrm) || a.any fun p=>decide (u=outW p.1)):=by
 have key:∀ (a t:Tw),has t .nrm=true→has (a.foldl whileStep t) u=(has t u || a.any fun p=>decide (u=outW p.1)):=fun a=>by
  induction a with
  | nil=>intro t _;rw [List.any_nil,Bool.or_false]<;>rfl
  | cons p a ih =>
   intro t ht
   rw [List.foldl_cons,ih _ (by rw [has_wst,ht]<;>rfl),has_wst,List.any_cons]
   by_cases e:outW p.1=.nrm
   ·rw [decide_eq_false (fun z=>z e),Bool.false_and,Bool.or_false]
    by_cases z:u=outW p.1
    ·rw [decide_eq_true z,z,e,ht]<;>rfl
    ·rw [decide_eq_false z]<;>rfl
   ·rw [decide_eq_true e,Bool.true_and,Bool.or_assoc]
 unfold whileT
 rw [key a [(.nrm,[0])] rfl,has_cons,show has ([]:Tw) u=false from rfl,Bool.or_false]
def sqW:List (List Way)→List Way×Bool
 | []=>([],true)
 | ws::r=>if Way.nrm∈ws then (ws.filter (fun w=>decide (w≠.nrm))++(sqW r).1,(sqW r).2) else (ws.filter fun w=>decide (w≠.nrm),false)
def byW (nd:Node) (g:Nat→List Way):List Way:=match nd with
 | .do_=>[.nrm]
 | .call=>[.nrm,.rai]
 | .ret=>[.ret]
 | .rai=>[.rai]
 | .brk k=>[.brk k]
 | .cnt k=>[.cnt k]
 | .iff a b=>g a++g b
 | .whl a=>.nrm::((g a).filter fun w=>decide (w≠.cnt 1)).map outW
 | .seq l=>(sqW (l.map g)).1++(if (sqW (l.map g)).2=true then [.nrm] else [])
 | .tr a b=>(g a).filter (fun w=>decide (w≠.rai))++(if Way.rai∈g a then g b else [])
 | .fin a b=>(if Way.nrm∈g b then g a else [])++(g b).filter fun w=>decide (w≠.nrm)
theorem has_mem {t:Tw} {u:Way}:has t u=decide (u∈srtW t):=by
 by_cases c:has t u=true
 ·rw [c];exact (decide_eq_true (mem_srtW11.mpr c)).symm
 ·have c':has t u=false:=by simpa using c
  rw [c'];exact (decide_eq_false (fun z=>c (mem_srtW11.mp z))).symm
theorem has_seq (g:Nat→Tw) (u:Way):∀ (l:List Nat) (t:Tw) (b:List Int),has (seqT (l.map g) t b) u=(has t u || decide (u∈(sqW (l.map fun c=>srtW (g c))).1) || ((sqW (l.map fun c=>srtW (g c))).2 && decide (u=.nrm)))
 | [],t,b=>by
  show has (putT t .nrm b) u=_
  rw [has_put]
  show _=((has t u || decide (u∈([]:List Way))) || (true && decide (u=.nrm)))
  rw [decide_eq_false (List.not_mem_nil),Bool.or_false,Bool.true_and,Bool.or_comm]
 | c::l,t,b=>by
  rw [List.map_cons,List.map_cons]
  unfold seqT
  dsimp only
  have mf:∀ w,decide (w∈(srtW (g c)).filter fun w=>decide (w≠.nrm))=(decide (w≠.nrm) && has (g c) w):=fun w=>by
   rw [has_mem,← Bool.decide_and]
   exact decide_eq_decide.mpr (by rw [List.mem_filter,decide_eq_true_iff,and_comm])
  cases e:lk (g c) .nrm with
  | none =>
   have ni:Way.nrm ∉ srtW (g c):=fun z=>by have:=mem_srtW11.mp z;rw [e] at this;cases this
   dsimp only
   rw [has_all,has_but]
   show _=((has t u || decide (u∈(if Way.nrm∈srtW (g c) then _ else _:List Way×Bool).1)) || ((if Way.nrm∈srtW (g c) then _ else _:List Way×Bool).2 && decide (u=.nrm)))
   rw [if_neg ni]
   dsimp only
   rw [mf,Bool.false_and,Bool.or_false]
  | some x =>
   have yi:Way.nrm∈srtW (g c):=mem_srtW11.mpr (by rw [e]<;>rfl)
   dsimp only
   rw [has_seq g u l,has_all,has_but]
   show _=((has t u || decide (u∈(if Way.nrm∈srtW (g c) then _ else _:List Way×Bool).1)) || ((if Way.nrm∈srtW (g c) then _ else _:List Way×Bool).2 && decide (u=.nrm)))
   rw [if_pos yi]
   dsimp only
   have:decide (u∈((srtW (g c)).filter fun w=>decide (w≠.nrm))++(sqW (l.map fun c=>srtW (g c))).1)=(decide (u∈(srtW (g c)).filter fun w=>decide (w≠.nrm)) || decide (u∈(sqW (l.map fun c=>srtW (g c))).1)):=by
    rw [← Bool.decide_or]
    exact decide_eq_decide.mpr List.mem_append
   rw [this,mf]
   simp only [Bool.or_assoc]
section
variable {rows:List Row} {lp:Nat→Nat}
theorem byW_ok (W:TW rows lp) {n:Nat} (hn:n<rows.length) (u:Way):u∈byW ((tabOf rows).nd n) (fun c=>srtW (tbN (tabOf rows) c)) ↔ u∈srtW (tbN (tabOf rows) n):=by
 rw [mem_srtW11]
 have lt:n<(tabOf rows).len:=hn
 rw [tbN_eq W.wf lt]
 have de:∀ {b:Bool} {p:Prop} [Decidable p],b=decide p→(p ↔ b=true):=fun {b p} _ h=>by rw [h,decide_eq_true_iff]
 generalize tbN (tabOf rows)=g
 unfold stepT byW
 cases (tabOf rows).nd n with
 | do_=>exact ⟨fun h=>by rw [List.mem_singleton.mp h]<;>rfl,fun h=>by
   have:has [(.nrm,[])] u=true:=h
   rw [has_cons] at this
   simp [has,lk] at this
   simp [this]⟩
 | call=>exact ⟨fun h=>by
   rcases List.mem_cons.mp h with rfl | h
   ·rfl
   ·rw [List.mem_singleton.mp h]<;>rfl,fun h=>by
   have:has [(.nrm,[0]),(.rai,[1])] u=true:=h
   rw [has_cons,has_cons] at this
   simp [has,lk] at this
   simpa using this⟩
 | ret=>exact ⟨fun h=>by rw [List.mem_singleton.mp h]<;>rfl,fun h=>by
   have:has [(.ret,[])] u=true:=h
   rw [has_cons] at this
   simp [has,lk] at this
   simp [this]⟩
 | rai=>exact ⟨fun h=>by rw [List.mem_singleton.mp h]<;>rfl,fun h=>by
   have:has [(.rai,[])] u=true:=h
   rw [has_cons] at this
   simp [has,lk] at this
   simp [this]⟩
 | brk k=>exact ⟨fun h=>by rw [List.mem_singleton.mp h];show has [(.brk k,[])] (.brk k)=true;rw [has_cons,decide_eq_true rfl]<;>rfl,fun h=>by
   have:has [(.brk k,[])] u=true:=h
   rw [has_cons] at this
   simp [has,lk] at this
   simp [this]⟩
 | cnt k=>exact ⟨fun h=>by rw [List.mem_singleton.mp h];show has [(.cnt k,[])] (.cnt k)=true;rw [has_cons,decide_eq_true rfl]<;>rfl,fun h=>by
   have:has [(.cnt k,[])] u=true:=h
   rw [has_cons] at this
   simp [has,lk] at this
   simp [this]⟩
 | iff a b =>
  show u∈srtW (g a)++srtW (g b) ↔ has (ifT (g a) (g b)) u=true
  unfold ifT
  rw [has_all,has_all,List.mem_append,mem_srtW11,mem_srtW11]
  show _ ↔ ((has [] u || has (g a) u) || has (g b) u)=true
  rw [show has ([]:Tw) u=false from rfl,Bool.false_or,Bool.or_eq_true]
 | whl a =>
  show u∈Way.nrm::((srtW (g a)).filter fun w=>decide (w≠.cnt 1)).map outW ↔ has (whileT (g a)) u=true
  rw [has_whl,Bool.or_eq_true,decide_eq_true_iff,List.mem_cons,List.any_eq_true]
  by_cases nu:u=.nrm
  ·exact ⟨fun _=>.inl nu,fun _=>.inl nu⟩
  refine or_congr_right ?_
  rw [List.mem_map]
  constructor
  ·rintro ⟨v,hv,rfl⟩
   have hv:=(List.mem_filter.mp hv).1
   unfold srtW at hv
   rw [List.mem_mergeSort,List.mem_map] at hv
   obtain ⟨p,hp,rfl⟩:=hv
   exact ⟨p,hp,decide_eq_true rfl⟩
  ·rintro ⟨p,hp,e⟩
   have e:=of_decide_eq_true e
   refine ⟨p.1,List.mem_filter.mpr ⟨?_,decide_eq_true fun z=>nu ?_⟩,e.symm⟩
   ·unfold srtW
    rw [List.mem_mergeSort,List.mem_map]
    exact ⟨p,hp,rfl⟩
   ·rw [e,z]<;>rfl
 | seq l =>
  show u∈_++_ ↔ has (seqT (l.map g) [] []) u=true
  rw [has_seq,show has ([]:Tw) u=false from rfl,Bool.false_or,Bool.or_eq_true,decide_eq_true_iff,List.mem_append,Bool.and_eq_true,decide_eq_true_iff]
  refine or_congr_right ?_
  by_cases c:(sqW (l.map fun c=>srtW (g c))).2=true
  ·rw [if_pos c,List.mem_singleton];exact ⟨fun h=>⟨c,h⟩,fun h=>h.2⟩
  ·rw [if_neg c];exact ⟨fun h=>(nomatch h),fun h=>absurd h.1 c⟩
 | tr a b =>
  show u∈_++_ ↔ has (tryT (g a) (g b)) u=true
  unfold tryT
  dsimp only
  have m1:u∈(srtW (g a)).filter (fun w=>decide (w≠.rai)) ↔ (decide (u≠.rai) && has (g a) u)=true:=by
   rw [List.mem_filter,decide_eq_true_iff,mem_srtW11,Bool.and_eq_true,decide_eq_true_iff,and_comm]
  rw [List.mem_append,m1]
  cases e:lk (g a) .rai with
  | none =>
   dsimp only
   rw [if_neg (fun z=>by have:=mem_srtW11.mp z;rw [e] at this;cases this),has_all,has_but,show has ([]:Tw) u=false from rfl,Bool.false_or]
   exact ⟨fun h=>h.elim id fun z=>(nomatch z),.inl⟩
  | some x =>
   dsimp only
   rw [if_pos (mem_srtW11.mpr (by rw [e]<;>rfl)),has_all,has_all,has_but,show has ([]:Tw) u=false from rfl,Bool.false_or,mem_srtW11,← Bool.or_eq_true]
 | fin a b =>
  show u∈_++_ ↔ has (finT (g a) (g b)) u=true
  unfold finT
  dsimp only
  have m1:u∈(srtW (g b)).filter (fun w=>decide (w≠.nrm)) ↔ (decide (u≠.nrm) && has (g b) u)=true:=by
   rw [List.mem_filter,decide_eq_true_iff,mem_srtW11,Bool.and_eq_true,decide_eq_true_iff,and_comm]
  rw [List.mem_append,m1,has_all,has_but,Bool.or_eq_true]
  refine or_congr_left ?_
  cases e:lk (g b) .nrm with
  | none =>
   dsimp only
   rw [if_neg (fun z=>by have:=mem_srtW11.mp z;rw [e] at this;cases this)]
   exact ⟨fun z=>(nomatch z),fun z=>(by cases z)⟩
  | some x =>
   dsimp only
   rw [if_pos (mem_srtW11.mpr (by rw [e]<;>rfl)),has_all,show has ([]:Tw) u=false from rfl,Bool.false_or,mem_srtW11]
end
theorem srt_of {t:Tw} (nt:NdK t) {ws:List Way} (nd:ws.Nodup) (h:∀ u,u∈ws ↔ u∈srtW t):ws.mergeSort leW=srtW t:=by
 have srt:∀ u:List Way,(u.mergeSort leW).Pairwise (fun a b=>leW a b=true):=fun u=>PySem.W.sort_pairwise (le:=leW) (PySem.W.sortLe_total (PyProof.Rows.listOrd PyProof.Rows.itemOrd) false fun v:Way=>PySem.W.keyToks (FcW.keyD (wk v))) u
 refine sorted_ext (srt _) (srt _) ((List.Perm.nodup_iff (List.mergeSort_perm _ _)).mpr nd) ((List.Perm.nodup_iff (List.mergeSort_perm _ _)).mpr nt) fun a=>?_
 rw [List.mem_mergeSort,h a]<;>rfl
def sqS (s:List Way×Bool) (ws:List Way):List Way×Bool:=if s.2=true then (s.1++ws.filter (fun w=>decide (w≠.nrm)),decide (Way.nrm∈ws)) else s
theorem sqS_no:∀ (Ws:List (List Way)) (f:List Way),Ws.foldl sqS (f,false)=(f,false)
 | [],_=>rfl
 | _::Ws,f=>sqS_no Ws f
theorem sqS_all:∀ (Ws:List (List Way)) (f:List Way),Ws.foldl sqS (f,true)=(f++(sqW Ws).1,(sqW Ws).2)
 | [],f=>by show (f,true)=(f++[],true);rw [List.append_nil]
 | ws::Ws,f=>by
  show Ws.foldl sqS (f++ws.filter (fun w=>decide (w≠.nrm)),decide (Way.nrm∈ws))=(f++(if Way.nrm∈ws then _ else _:List Way×Bool).1,(if Way.nrm∈ws then _ else _:List Way×Bool).2)
  by_cases c:Way.nrm∈ws
  ·rw [decide_eq_true c,if_pos c,sqS_all Ws,List.append_assoc]
  ·rw [decide_eq_false c,if_neg c,sqS_no Ws]
theorem sqS_len:∀ (Ws:List (List Way)) (s:List Way×Bool),(Ws.foldl sqS s).1.length≤s.1.length + (Ws.map List.length).sum
 | [],_=>Nat.le_refl _
 | ws::Ws,s=>by
  have h:=sqS_len Ws (sqS s ws)
  have h2:(sqS s ws).1.length≤s.1.length + ws.length:=by
   unfold sqS
   split
   ·rw [List.length_append]
    exact Nat.add_le_add_left (List.length_filter_le _ _) _
   ·exact Nat.le_add_right _ _
  rw [List.foldl_cons,List.map_cons,List.sum_cons]
  omega
theorem sqW_len:∀ Ws:List (List Way),(sqW Ws).1.length≤(Ws.map List.length).sum
 | []=>Nat.le_refl _
 | ws::Ws=>by
  have h:=sqW_len Ws
  have l:=List.length_filter_le (fun w=>decide (w≠Way.nrm)) ws
  show (if Way.nrm∈ws then _ else _:List Way×Bool).1.length≤_
  rw [List.map_cons,List.sum_cons]
  split
  ·rw [List.length_append];omega
  ·show (ws.filter _).length≤_
   omega
theorem byW_len (nd:Node) (g:Nat→List Way):(byW nd g).length≤(nd.ch.map fun c=>(g c).length).sum + 2:=by
 cases nd with
 | iff a b=>simp [byW,Node.ch]
 | whl a =>
  have l:=List.length_filter_le (fun w=>decide (w≠Way.cnt 1)) (g a)
  simp [byW,Node.ch] at l ⊢
  omega
 | seq l =>
  have h:=sqW_len (l.map g)
  rw [List.map_map] at h
  have h:(sqW (l.map g)).1.length≤(l.map fun c=>(g c).length).sum:=h
  show ((sqW (l.map g)).1++(if (sqW (l.map g)).2=true then [Way.nrm] else [])).length≤(l.map fun c=>(g c).length).sum + 2
  rw [List.length_append]
  split
  ·simp;omega
  ·simp;omega
 | tr a b =>
  have l:=List.length_filter_le (fun w=>decide (w≠Way.rai)) (g a)
  show ((g a).filter (fun w=>decide (w≠.rai))++(if Way.rai∈g a then g b else [])).length≤([a,b].map fun c=>(g c).length).sum + 2
  rw [List.length_append]
  have:([a,b].map fun c=>(g c).length).sum=(g a).length + (g b).length:=by simp
  split
  ·omega
  ·simp only [List.length_nil];omega
 | fin a b =>
  have l:=List.length_filter_le (fun w=>decide (w≠Way.nrm)) (g b)
  show ((if Way.nrm∈g b then g a else [])++(g b).filter (fun w=>decide (w≠.nrm))).length≤([a,b].map fun c=>(g c).length).sum + 2
  rw [List.length_append]
  have:([a,b].map fun c=>(g c).length).sum=(g a).length + (g b).length:=by simp
  split
  ·omega
  ·simp only [List.length_nil];omega
 | _=>simp [byW]
end
section
open FcM (Way Node Tab)
theorem Builds.keeps:∀ {m:Nat} {st:List WIt} {rows fin:List Row},Builds m st rows fin→∀ c,c<rows.length→fin[c]?.map Row.d=rows[c]?.map Row.d
 | _,_,_,_,.done _,_,_=>rfl
 | _,_,_,_,.step ok h,c,hc=>by rw [Builds.keeps h c (by rw [addRow_len];omega),addRow_d hc]
theorem idx_map {l:List Nat} (nd:l.Nodup) (f:Nat→Nat):l.map (fun c=>f (l.idxOf c))=(List.range l.length).map f:=by
 apply List.ext_getElem?
 intro i
 rw [List.getElem?_map,List.getElem?_map]
 by_cases h:i<l.length
 ·rw [List.getElem?_eq_getElem h,List.getElem?_range h]
  have hm:l[i]∈l:=List.getElem_mem h
  have lt:l.idxOf l[i]<l.length:=List.idxOf_lt_length_of_mem hm
  have e:l[l.idxOf l[i]]?=some l[i]:=by
   rw [List.getElem?_eq_getElem lt,List.getElem_idxOf lt]
  have z:=nd_get nd e (List.getElem?_eq_getElem h)
  show some (f (l.idxOf l[i]))=some (f i)
  rw [z]
 ·rw [List.getElem?_eq_none (by omega),List.getElem?_eq_none (by rw [List.length_range];omega)]<;>rfl
theorem Builds.first {m:Nat} {it:WIt} {fin:List Row} (b:Builds m [it] [] fin) {r:Row} (hr:fin[0]?=some r):r.d=it.d:=by
 cases b with
 | step ok h =>
  have z:=Builds.keeps h 0 (by rw [addRow_len];exact Nat.zero_lt_succ _)
  have y:(addRow [] it.d it.par)[0]?=some ⟨it.d,it.par,[]⟩:=addRow_new (rows:=[])
  rw [hr,y] at z
  exact Option.some.inj z
theorem wg_of {rows:List Row} {lp:Nat→Nat} (W:TW rows lp):∀ {a b c w:Nat} {d:PyData},OkS a b c w d→∀ {n:Nat} {r:Row},rows[n]?=some r→r.d=d→FcM.Wg (tabOf rows) w n:=by
 intro a b c w d h
 induction h with
 | @mk loops deep blocks d wt st hd hb ps ih =>
  intro n r hr e
  have hl:n<rows.length:=(List.getElem?_eq_some_iff.mp hr).1
  obtain ⟨s1,s2,s3⟩:=W.sv n r hr
  have hnd:((tabOf rows).nd n).ch=r.ch:=by rw [tab_nd hr,← s3]
  have nd:r.ch.Nodup:=by
   have:=W.wf.nd n hl
   rw [hnd] at this
   exact this
  have e1:((List.range (partsD d).length).map wt).sum=(((tabOf rows).nd n).ch.map fun c=>wt (r.ch.idxOf c)).sum:=by
   rw [hnd,idx_map nd,s2,e]
  rw [e1]
  refine .mk _ fun c hc=>?_
  rw [hnd] at hc
  have lt:r.ch.idxOf c<r.ch.length:=List.idxOf_lt_length_of_mem hc
  have e2:r.ch[r.ch.idxOf c]?=some c:=by rw [List.getElem?_eq_getElem lt,List.getElem_idxOf lt]
  obtain ⟨r',x1,x2⟩:=W.pr n r hr _ c e2
  exact ih _ r'.d (by rw [← e];exact x2) x1 rfl
end
section
open FcM (Way Node Tab)
theorem lp_le {rows:List Row} {lp:Nat→Nat} (W:TW rows lp) (R:RT rows):∀ (k n:Nat),n<k→n<rows.length→lp n≤n
 | 0,n,h,_=>by omega
 | k + 1,n,h,hn=>by
  obtain ⟨r,hr⟩:=row_at hn
  cases hp:r.par with
  | none=>rw [R n r hr hp,W.wf.lp0];exact Nat.le_refl _
  | some p =>
   obtain ⟨h1,h2,h3⟩:=W.pu n r p hr hp
   have ih:=lp_le W R k p (by omega) h2
   have:=(W.wf.dn p h2 n h3).2.2.2
   rw [this]
   split<;>omega
structure TD (d:PyData) (N:Nat) (fin:List Row) (lp:Nat→Nat):Prop where
 bd:Builds N [⟨d,none,1,0,0⟩] [] fin
 w:TW fin lp
 l:fin.length≤400
 g:WgA fin
 r:RT fin
theorem td_of {w:Nat} {d:PyData} (ok:OkS 0 1 0 w d) (hw:w≤400):∃ N fin lp,TD d N fin lp:=by
 obtain ⟨fin,b,l⟩:=builds_of w [⟨d,none,1,0,0⟩] [] (by have:=OkL.cons (it:=⟨d,none,1,0,0⟩) ok .nil;simpa using this) (by simp;omega)
 have hne:0<fin.length:=by
  rw [l]
  cases ok
  simp
  omega
 obtain ⟨ls,bi⟩:=BI.all b (BI.start d)
 have W:=tw_of bi hne
 obtain ⟨r,hr⟩:=row_at hne
 have e:r.d=d:=Builds.first b hr
 exact ⟨w,fin,_,b,W,by rw [l];simp;omega,wga_of W b (wg_of W ok hr e) hw,rt_all b (BI.start d) (fun n r h=>by simp at h)⟩
theorem TD.ck {K:PySem.W.Frag} {F:Hp} {A:CAd} {d:PyData} {N:Nat} {fin:List Row} {lp:Nat→Nat} (t:TD d N fin lp) (C:CodeH K F F A fin):CK K F A fin lp:=⟨C,t.w,t.l,t.g,t.r⟩
theorem CK.keys {K:PySem.W.Frag} {F:Hp} {A:CAd} {rows:List Row} {lp:Nat→Nat} (x:CK K F A rows lp) {n:Nat} (hn:n<rows.length):∀ p∈tbN (tabOf rows) n,∀ j,p.1=.brk j∨p.1=.cnt j→1≤j∧j≤1000:=fun p hp j hj=>by
 obtain ⟨m,hm,g⟩:=x.g n hn
 have h1:=(tg_all x.w.wf g hn).ok p hp
 have h2:=lp_le x.w x.r (n + 1) n (Nat.lt_succ_self n) hn
 have h3:=x.l
 rcases hj with hj | hj<;>rw [hj] at h1<;>exact ⟨h1.1,by have:=h1.2;omega⟩
end
section
def RaisesA (K:PySem.W.Frag) (C f:Str) (H:Hp) (y:V) (E:XK):Prop:=∀ H' d,Ex H H'→H d=none→H' d=some (.xd [(f,y)])→E (.ref (He.ga K C)) (some d) H'
section
variable {P:Program} {w:World} {h:Heap} {K:PySem.W.Frag} {mg:Str→Option Value} {base:Heap}
end
end
section
def faultI (n deep loops blocks:Int) (d:PyData):Option (Str×Str×Int):=if 400≤n then some ("LimitExceeded","limit",400) else if 100<deep then some ("LimitExceeded","limit",100) else if 25<blocks then some ("LimitExceeded","limit",25) else if isStm d loops=true then none else some ("InvalidCode","number",n)
def fault (it:WIt) (n:Nat):Option (Str×Str×Int):=faultI (n:Int) (it.deep:Int) (it.loops:Int) (it.blocks:Int) it.d
inductive Fails:Nat→List WIt→List Row→(Str×Str×Int)→Prop
 | now {it:WIt} {st:List WIt} {rows:List Row} {f:Str×Str×Int} (h:fault it rows.length=some f):Fails 0 (it::st) rows f
 | step {n:Nat} {it:WIt} {st:List WIt} {rows:List Row} {f:Str×Str×Int} (ok:okIt it rows.length) (hl:(newIts it rows.length++st).length≤50000) (h:Fails n (newIts it rows.length++st) (addRow rows it.d it.par) f):Fails (n + 1) (it::st) rows f
section
variable {P:Program} {w:World} {h:Heap} {K:PySem.W.Frag} {mg:Str→Option Value} {base:Heap}
end
end
section
def FailsL (st:List WIt) (n:Nat) (f:Str×Str×Int):Prop:=∀ rows:List Row,rows.length=n→∃ N,Fails N st rows f
def BadS (B loops deep blocks n:Nat) (f:Str×Str×Int) (d:PyData):Prop:=∀ (st:List WIt) (par:Option Nat),st.length≤B + n→FailsL (⟨d,par,deep,loops,blocks⟩::st) n f
end
section
inductive GS:PyData→Prop
 | mk {e:PyData} (can:PyData.canLay0 e=true) (sz:szD e) (ps:∀ x∈partsD e,GS x) (ns:∀ x,e=.str x→x.length≤100000):GS e
theorem gs_parts {e:PyData} (h:GS e):PyData.canLay0 e=true∧szD e∧∀ x∈partsD e,GS x:=by
 cases h with
 | mk a b c _=>exact ⟨a,b,c⟩
def W1 (e:PyData):List PyData:=[.tuple [.str "seq",.tuple [e]],.tuple [.str "while",.str "w",e],.tuple [.str "try",e,.tuple [.str "do",.str "h"]],.tuple [.str "final",e,.tuple [.str "do",.str "f"]],.tuple [.str "if",.str "i",e,.tuple [.str "raise"]]]
def Fine (k b lo hi:Nat) (d:PyData):Prop:=∀ loops deep blocks,deep + k≤101→blocks + b≤25→∃ w,lo≤w∧w≤hi∧OkS loops deep blocks w d
theorem okS_one {loops deep blocks wa:Nat} {d a:PyData} (e:partsD d=[a]) (hs:isStm d (loops:Int)=true) (ha:OkS (loops + wl d) (deep + 1) blocks wa a) (hd:deep≤100) (hk:blocks≤25):OkS loops deep blocks (1 + wa) d:=by
 have z:=OkS.mk (loops:=loops) (deep:=deep) (blocks:=blocks) (d:=d) (fun _=>wa) hs hd hk fun i p hp=>by
  rw [e] at hp
  match i,hp with
  | 0,hp=>cases hp;simpa using ha
 rw [e] at z
 simpa using z
theorem okS_two {loops deep blocks wa wb:Nat} {d a b:PyData} (e:partsD d=[a,b]) (hs:isStm d (loops:Int)=true) (ha:OkS (loops + wl d) (deep + 1) blocks wa a) (hb:OkS (loops + wl d) (deep + 1) (blocks + (if kindD d="final" then 1 else 0)) wb b) (hd:deep≤100) (hk:blocks≤25):OkS loops deep blocks (1 + (wa + wb)) d:=by
 have z:=OkS.mk (loops:=loops) (deep:=deep) (blocks:=blocks) (d:=d) (fun i=>if i=0 then wa else wb) hs hd hk fun i p hp=>by
  rw [e] at hp
  match i,hp with
  | 0,hp=>cases hp;simpa using ha
  | 1,hp=>cases hp;simpa using hb
 rw [e] at z
 simpa [List.range_succ] using z
theorem okS_lf {loops deep blocks:Nat} {d:PyData} (e:partsD d=[]) (hs:isStm d (loops:Int)=true) (hd:deep≤100) (hk:blocks≤25):OkS loops deep blocks 1 d:=by
 have z:=OkS.mk (loops:=loops) (deep:=deep) (blocks:=blocks) (d:=d) (fun _=>0) hs hd hk fun i p hp=>by
  rw [e] at hp
  simp at hp
 rw [e] at z
 simpa using z
theorem Fine.mono {k b lo hi b':Nat} {d:PyData} (h:Fine k b lo hi d) (e:b≤b'):Fine k b' lo hi d:=fun l d' bl h1 h2=>h l d' bl h1 (by omega)
theorem BadS.mono {B B' loops deep blocks n:Nat} {f:Str×Str×Int} {d:PyData} (h:BadS B loops deep blocks n f d) (e:B'≤B):BadS B' loops deep blocks n f d:=fun st par hs=>h st par (by omega)
end
section
def nmB:List Str:=["a","b","x","y","loop","zzzzzzzz","do","final"]
def SB (room deep loops blocks:Nat) (d:PyData):Prop:=GS d∧d.depth≤2 * deep∧∃ w,1≤w∧w≤room∧∀ dd,dd + deep≤101→OkS loops dd blocks w d
theorem SB.up {r k r' k' l b:Nat} {d:PyData} (h:SB r k l b d) (hr:r≤r') (hk:k≤k'):SB r' k' l b d:=by
 obtain ⟨g,e,w,w1,w2,o⟩:=h
 exact ⟨g,by omega,w,w1,by omega,fun dd hd=>o dd (by omega)⟩
theorem SB.can {r k l b:Nat} {d:PyData} (h:SB r k l b d):PyData.canLay0 d=true:=(gs_parts h.1).1
theorem sb_leaf {r k l b:Nat} {d:PyData} (hr:1≤r) (hk:1≤k) (hb:b≤25) (st:isStm d (l:Int)=true) (e:partsD d=[]) (cl:PyData.canLay0 d=true) (sz:szD d) (ns:∀ x,d=.str x→x.length≤100000) (dp:d.depth≤2):SB r k l b d :=
 ⟨.mk cl sz (fun x hx=>by rw [e] at hx;cases hx) ns,by omega,1,Nat.le_refl _,hr,fun dd hd=>okS_lf e st (by omega) hb⟩
theorem nm_okB:∀ x∈nmB,nameOk x=true∧PyData.canLay0 (.str x)=true∧x.length≤100000:=by decide +kernel
theorem sb_do {r k l b:Nat} {q x:Str} (hr:1≤r) (hk:1≤k) (hb:b≤25) (hq:q="do"∨q="call") (hx:x∈nmB):SB r k l b (.tuple [.str q,.str x]):=by
 obtain ⟨h1,h2,h3⟩:=nm_okB x hx
 rcases hq with rfl | rfl
 ·refine sb_leaf hr hk hb (show nameOk x=true from h1) rfl ?_ (fun k y r e=>by cases e;exact h3) (fun x e=>by cases e) (by simp [PyData.depth,PyData.depthAll])
  show (PyData.canLay0 (.str "do") && (PyData.canLay0 (.str x) && true))=true
  rw [h2]
  kernel_rfl
 ·refine sb_leaf hr hk hb (show nameOk x=true from h1) rfl ?_ (fun k y r e=>by cases e;exact h3) (fun x e=>by cases e) (by simp [PyData.depth,PyData.depthAll])
  show (PyData.canLay0 (.str "call") && (PyData.canLay0 (.str x) && true))=true
  rw [h2]
  kernel_rfl
theorem sb_jmp {r k l b:Nat} {q:Str} {n:Int} (hr:1≤r) (hk:1≤k) (hb:b≤25) (hq:q="break"∨q="continue") (h1:1≤n) (h2:n≤l):SB r k l b (.tuple [.str q,.int n]):=by
 rcases hq with rfl | rfl
 ·refine sb_leaf hr hk hb ?_ rfl (by kernel_rfl) (fun k y r e=>by cases e) (fun x e=>by cases e) (by simp [PyData.depth,PyData.depthAll])
  show (decide (1≤n) && decide (n≤(l:Int)))=true
  rw [decide_eq_true h1,decide_eq_true h2]<;>rfl
 ·refine sb_leaf hr hk hb ?_ rfl (by kernel_rfl) (fun k y r e=>by cases e) (fun x e=>by cases e) (by simp [PyData.depth,PyData.depthAll])
  show (decide (1≤n) && decide (n≤(l:Int)))=true
  rw [decide_eq_true h1,decide_eq_true h2]<;>rfl
theorem sb_ret {r k l b:Nat} {q:Str} (hr:1≤r) (hk:1≤k) (hb:b≤25) (hq:q="return"∨q="raise"):SB r k l b (.tuple [.str q]):=by
 rcases hq with rfl | rfl<;>exact sb_leaf hr hk hb rfl rfl (by kernel_rfl) (fun k y r e=>by cases e) (fun x e=>by cases e) (by simp [PyData.depth,PyData.depthAll])
theorem sb_whl {r k l b:Nat} {x:Str} {a:PyData} (hx:x∈nmB) (hb:b≤25) (h:SB r k (l + 1) b a):SB (r + 1) (k + 1) l b (.tuple [.str "while",.str x,a]):=by
 obtain ⟨h1,h2,h3⟩:=nm_okB x hx
 have ca:=h.can
 obtain ⟨g,e,w,w1,w2,o⟩:=h
 refine ⟨.mk ?_ (fun k y r e=>by cases e;exact h3) (fun z hz=>?_) (fun x e=>by cases e),?_,1 + w,by omega,by omega,fun dd hd=>?_⟩
 ·show (PyData.canLay0 (.str "while") && (PyData.canLay0 (.str x) && (PyData.canLay0 a && true)))=true
  rw [h2,ca]
  kernel_rfl
 ·have hz:z∈[a]:=hz
  rw [List.mem_singleton.mp hz]
  exact g
 ·simp only [PyData.depth,PyData.depthAll]
  omega
 ·exact okS_one (a:=a) rfl (show nameOk x=true from h1) (o (dd + 1) (by omega)) (by omega) hb
theorem sb_two {r r' k l b:Nat} {d a c:PyData} (e:partsD d=[a,c]) (st:isStm d (l:Int)=true) (w0:wl d=0) (cl:PyData.canLay0 a=true→PyData.canLay0 c=true→PyData.canLay0 d=true) (sz:szD d) (ns:∀ x,d=.str x→x.length≤100000) (dp:d.depth≤2 + max a.depth c.depth) (hb:b≤25) (ha:SB r k l b a) (hc:SB r' k l (b + (if kindD d="final" then 1 else 0)) c):SB (r + r' + 1) (k + 1) l b d:=by
 have ca:=ha.can
 have cc:=hc.can
 obtain ⟨g,e1,w,w1,w2,o⟩:=ha
 obtain ⟨g',e1',w',w1',w2',o'⟩:=hc
 refine ⟨.mk (cl ca cc) sz (fun z hz=>?_) ns,by omega,1 + (w + w'),by omega,by omega,fun dd hd=>?_⟩
 ·rw [e] at hz
  simp only [List.mem_cons,List.not_mem_nil,or_false] at hz
  rcases hz with rfl | rfl
  ·exact g
  ·exact g'
 ·exact okS_two e st (by rw [w0];exact o (dd + 1) (by omega)) (by rw [w0];exact o' (dd + 1) (by omega)) (by omega) hb
theorem sb_if {r r' k l b:Nat} {x:Str} {a c:PyData} (hx:x∈nmB) (hb:b≤25) (ha:SB r k l b a) (hc:SB r' k l b c):SB (r + r' + 1) (k + 1) l b (.tuple [.str "if",.str x,a,c]):=by
 obtain ⟨h1,h2,h3⟩:=nm_okB x hx
 refine sb_two rfl (show nameOk x=true from h1) rfl (fun ca cc=>?_) (fun k y r e=>by cases e;exact h3) (fun x e=>by cases e) ?_ hb ha hc
 ·show (PyData.canLay0 (.str "if") && (PyData.canLay0 (.str x) && (PyData.canLay0 a && (PyData.canLay0 c && true))))=true
  rw [h2,ca,cc]
  kernel_rfl
 ·simp only [PyData.depth,PyData.depthAll]
  omega
theorem sb_try {r r' k l b:Nat} {a c:PyData} (hb:b≤25) (ha:SB r k l b a) (hc:SB r' k l b c):SB (r + r' + 1) (k + 1) l b (.tuple [.str "try",a,c]):=by
 refine sb_two rfl rfl rfl (fun ca cc=>?_) (fun k y r e=>?_) (fun x e=>by cases e) ?_ hb ha hc
 ·show (PyData.canLay0 (.str "try") && (PyData.canLay0 a && (PyData.canLay0 c && true)))=true
  rw [ca,cc]
  kernel_rfl
 ·injection e with e
  injection e with e1 e2
  injection e2 with e2 e3
  obtain ⟨g,_⟩:=ha
  cases g with
  | mk _ _ _ ns=>exact ns _ e2
 ·simp only [PyData.depth,PyData.depthAll]
  omega
theorem sb_fin {r r' k l b:Nat} {a c:PyData} (hb:b≤24) (ha:SB r k l b a) (hc:SB r' k l (b + 1) c):SB (r + r' + 1) (k + 1) l b (.tuple [.str "final",a,c]):=by
 refine sb_two rfl rfl rfl (fun ca cc=>?_) (fun k y r e=>?_) (fun x e=>by cases e) ?_ (by omega) ha hc
 ·show (PyData.canLay0 (.str "final") && (PyData.canLay0 a && (PyData.canLay0 c && true)))=true
  rw [ca,cc]
  kernel_rfl
 ·injection e with e
  injection e with e1 e2
  injection e2 with e2 e3
  obtain ⟨g,_⟩:=ha
  cases g with
  | mk _ _ _ ns=>exact ns _ e2
 ·simp only [PyData.depth,PyData.depthAll]
  omega
inductive SBs (k l b:Nat):Nat→List PyData→Prop
 | nil:SBs k l b 0 []
 | snoc {r s:Nat} {ds:List PyData} {d:PyData} (h:SBs k l b r ds) (hd:SB s k l b d):SBs k l b (r + s) (ds++[d])
theorem SBs.all {k l b r:Nat} {ds:List PyData} (h:SBs k l b r ds):(∀ d∈ds,GS d∧d.depth≤2 * k)∧∃ ws:List Nat,ws.length=ds.length∧ws.sum≤r∧∀ (i:Nat) (p:PyData) (w:Nat),ds[i]?=some p→ws[i]?=some w→∀ dd,dd + k≤101→OkS l dd b w p:=by
 induction h with
 | nil=>exact ⟨fun d hd=>(by cases hd),[],rfl,Nat.le_refl _,fun i p w h=>(by simp at h)⟩
 | snoc h hd ih =>
  obtain ⟨i1,ws,i2,i3,i4⟩:=ih
  obtain ⟨g,e,w,w1,w2,o⟩:=hd
  refine ⟨fun d hd=>?_,ws++[w],by simp [i2],by simp;omega,fun i p w' hp hw dd hdd=>?_⟩
  ·rcases List.mem_append.mp hd with hd | hd
   ·exact i1 d hd
   ·rw [List.mem_singleton.mp hd];exact ⟨g,e⟩
  ·rcases Nat.lt_or_ge i ws.length with hi | hi
   ·rw [List.getElem?_append_left (by omega)] at hp
    rw [List.getElem?_append_left hi] at hw
    exact i4 i p w' hp hw dd hdd
   ·rw [List.getElem?_append_right (by omega)] at hp
    rw [List.getElem?_append_right hi] at hw
    have:i - ws.length=0:=by
     have:=(List.getElem?_eq_some_iff.mp hw).1
     simp at this
     omega
    rw [this] at hw
    rw [← i2,this] at hp
    cases hp
    cases hw
    exact o dd hdd
theorem okS_listB {loops deep blocks:Nat} {d:PyData} (ws:List Nat) (st:isStm d (loops:Int)=true) (hd:deep≤100) (hk:blocks≤25) (hl:ws.length=(partsD d).length) (ps:∀ (i:Nat) (p:PyData) (w:Nat),(partsD d)[i]?=some p→ws[i]?=some w→OkS (loops + wl d) (deep + 1) (blocks + (if kindD d="final"∧i=1 then 1 else 0)) w p):OkS loops deep blocks (1 + ws.sum) d:=by
 have z:=OkS.mk (loops:=loops) (deep:=deep) (blocks:=blocks) (d:=d) (fun i=>ws.getD i 0) st hd hk fun i p hp=>by
  have hi:i<ws.length:=by rw [hl];exact (List.getElem?_eq_some_iff.mp hp).1
  refine ps i p _ hp ?_
  rw [List.getD_eq_getElem?_getD,List.getElem?_eq_getElem hi]<;>rfl
 have e:((List.range (partsD d).length).map fun i=>ws.getD i 0)=ws:=by
  apply List.ext_getElem?
  intro i
  rw [List.getElem?_map,← hl]
  rcases Nat.lt_or_ge i ws.length with hi | hi
  ·rw [List.getElem?_range hi,List.getElem?_eq_getElem hi]
   simp [List.getD_eq_getElem?_getD,List.getElem?_eq_getElem hi]
  ·rw [List.getElem?_eq_none hi,List.getElem?_eq_none (by simpa using hi)]<;>rfl
 rw [e] at z
 exact z
theorem sb_seq {k l b r:Nat} {ds:List PyData} (hb:b≤25) (hn:ds≠[]) (h4:ds.length≤401) (h:SBs k l b r ds):SB (r + 1) (k + 1) l b (.tuple [.str "seq",.tuple ds]):=by
 obtain ⟨i1,ws,i2,i3,i4⟩:=h.all
 have hp:partsD (.tuple [.str "seq",.tuple ds])=ds:=List.take_of_length_le (by omega)
 have st:isStm (.tuple [.str "seq",.tuple ds]) (l:Int)=true:=by
  cases ds with
  | nil=>exact absurd rfl hn
  | cons a b=>rfl
 refine ⟨.mk ?_ (fun k x r e=>by cases e) (fun z hz=>?_) (fun x e=>by cases e),?_,1 + ws.sum,by omega,by omega,fun dd hd=>?_⟩
 ·show (PyData.canLay0 (.str "seq") && (PyData.canLayAll0 ds && true))=true
  rw [canAll fun d hd=>(gs_parts (i1 d hd).1).1]
  kernel_rfl
 ·rw [hp] at hz
  exact (i1 z hz).1
 ·have:∀ l:List PyData,(∀ d∈l,d.depth≤2 * k)→PyData.depthAll l≤2 * k:=fun l=>by
   induction l with
   | nil=>exact fun _=>Nat.zero_le _
   | cons a l ih =>
    intro h
    have h1:=h a List.mem_cons_self
    have h2:=ih fun d hd=>h d (List.mem_cons_of_mem _ hd)
    simp only [PyData.depthAll]
    omega
  have:=this ds fun d hd=>(i1 d hd).2
  simp only [PyData.depth,PyData.depthAll]
  omega
 ·refine okS_listB ws st (by omega) hb (by rw [hp];exact i2) fun i p w h1 h2=>?_
  rw [hp] at h1
  have:=i4 i p w h1 h2 (dd + 1) (by omega)
  exact this
end
section
def SrcB (H:Hp) (p:Addr) (n:Nat):Prop:=∃ x y z:Int,H p=some (.lst [.int x,.int y,.int z])∧0≤y∧y<2147483647∧0≤z∧z≤(n:Int)
theorem SrcB.kp {H H':Hp} {p:Addr} {n:Nat} (h:SrcB H p n) (e:∀ o,H p=some o→H' p=some o):SrcB H' p n:=by
 obtain ⟨x,y,z,h,r⟩:=h
 exact ⟨x,y,z,e _ h,r⟩
theorem SrcB.up {H:Hp} {p:Addr} {n m:Nat} (h:SrcB H p n) (e:n≤m):SrcB H p m:=by
 obtain ⟨x,y,z,h,a,b,c,d⟩:=h
 exact ⟨x,y,z,h,a,b,c,by omega⟩
theorem gr_kp {F H H':Hp} {p:Addr} (x:Ex F H) (f:F p=none) (k:∀ b o,b≠p→H b=some o→H' b=some o):Gr (fun b=>b=p) F H F H' :=
 ⟨Evl.Ex.refl _,fun b o e=>k b o (fun z=>by rw [z,f] at e;cases e) (x b o e),fun _ _ e _=>e,fun b o e n=>k b o n e⟩
def sp_choiceB (K:PySem.W.Frag):Sp:=fun vs H Q _=>∃ (p a:Addr) (n:Nat) (xs:List V),vs=[.ref p,.ref a]∧SrcB H p n∧n≤1000000000∧H a=some (.lst xs)∧a≠p∧xs≠[]∧xs.length<1000 ∧
 ∀ (H':Hp) (x:V),x∈xs→SrcB H' p (n + 1)→(∀ b o,b≠p→H b=some o→H' b=some o)→Q x H'
def sp_nameB:Sp:=fun vs H Q _=>∃ (p:Addr) (n:Nat),vs=[.ref p]∧SrcB H p n∧n≤1000000000 ∧
 ∀ (H':Hp) (x:Str),x∈nmB→SrcB H' p (n + 1)→(∀ b o,b≠p→H b=some o→H' b=some o)→Q (.str x) H'
def sp_cellB (K:PySem.W.Frag):Sp:=fun vs H Q _=>∃ (a:Addr) (ns:List Int) (k:Nat),vs=[.ref a,.int (k:Int)]∧SqL K H a (ns.map V.int)∧Q (.int (ns.getD k 0)) H
def sp_sourceB:Sp:=fun vs H Q _=>∃ c:Int,vs=[.int c]∧∀ (p:Addr) (H':Hp),H p=none→Ex H H'→SrcB H' p 0→(∀ b,b≠p→H' b=H b)→Q (.ref p) H'
def sp_drawB:Sp:=fun vs H Q _=>∃ (p:Addr) (n:Nat) (m:Int),vs=[.ref p,.int m]∧SrcB H p n∧n≤1000000000∧0<m∧m<1073741824 ∧
 ∀ (v:Int) (H':Hp),0≤v→v<m→SrcB H' p (n + 1)→(∀ b o,b≠p→H b=some o→H' b=some o)→Q (.int v) H'
section
variable {P:Program} {w:World} {h:Heap} {K:PySem.W.Frag} {mg:Str→Option Value} {base:Heap}
abbrev N_law_cell_at:List Str:=["_law_script","_law_index"]
theorem sc_law_cell_at:FnScope N_law_cell_at ["_law_script","_law_index"] (defScope sd_law_cell_at):=⟨rfl,rfl,rfl,by decide +kernel,rfl,by decide +kernel,by decide +kernel⟩
theorem ok_law_cell_at (T:Tx w h K mg):Ok P w K mg base 1 ("_law_cell_at",none) ["_law_script","_law_index"] (sp_cellB K):=by
 obtain ⟨fd,F⟩:=F_law_cell_at T
 refine ⟨fd,?_,F.bindsN (fun _ _ _ _ _ _ us hl=>match us,hl with | [_,_],_=>rfl),F.kp⟩
 refine F.ok sc_law_cell_at (fun vs H Q E h=>?_) (fun cdv A outer s H vs Q E hr h=>?_)
 ·obtain ⟨a,ns,k,rfl,hs,q⟩:=h
  rfl
 ·obtain ⟨a,ns,k,rfl,hs,q⟩:=h
  refine ⟨_,PSs.nox (pss_cons (ps_if (pt_cmpR op_lt (pv 1) (pe_callB call_len_seq rfl (fr_len T) b_len (pa_cons (pv 0) pa_nil)) (nomark _)) (pss_one (ps_ret (pe_ix ix_list (pv 0) (pv 1) (fun _ _=>rfl)))) pss_nil) (pss_one (ps_ret pe_int))),?_⟩
  refine ⟨_,rfl,_,rfl,a,_,rfl,.inl hs,_,_,rfl,rfl,_,rfl,ite_of (fun h1=>?_) (fun h1=>?_)⟩
  ·have hk:k<ns.length:=by
    have:=of_decide_eq_true h1
    rw [List.length_map] at this
    omega
   refine ⟨_,rfl,_,rfl,a,_,_,.int (ns.getD k 0),rfl,rfl,hs,atI_nat ?_,q⟩
   rw [List.getElem?_map,List.getD_eq_getElem?_getD,List.getElem?_eq_getElem hk]<;>rfl
  ·have hk:ns.length≤k:=by
    have:=of_decide_eq_false h1
    rw [List.length_map] at this
    omega
   have e:ns.getD k 0=0:=by rw [List.getD_eq_getElem?_getD,List.getElem?_eq_none hk]<;>rfl
   rw [e] at q
   exact q
abbrev N_law_source:List Str:=["_law_cell"]
theorem sc_law_source:FnScope N_law_source ["_law_cell"] (defScope sd_law_source):=⟨rfl,rfl,rfl,by decide +kernel,rfl,by decide +kernel,by decide +kernel⟩
theorem ok_law_source (T:Tx w h K mg):Ok P w K mg base 1 ("_law_source",none) ["_law_cell"] (sp_sourceB):=by
 obtain ⟨fd,F⟩:=F_law_source T
 refine ⟨fd,?_,F.bindsN (fun _ _ _ _ _ _ us hl=>match us,hl with | [_],_=>rfl),F.kp⟩
 refine F.ok sc_law_source (fun vs H Q E h=>?_) (fun cdv A outer s H vs Q E hr h=>?_)
 ·obtain ⟨c,rfl,q⟩:=h
  rfl
 ·obtain ⟨c,rfl,q⟩:=h
  refine ⟨_,PSs.nox (pss_one (ps_ret (pe_lst (pa_cons (pe_op op_mul (pv 0) (pe_callTy call_int1 rfl (fr_int T) b_int (pa_cons (pe_cmpR op_ge (pv 0) (pe_op op_pow pe_int pe_int) (nomark _)) pa_nil))) (pa_cons (pe_op op_mod (pe_callTy call_int1 rfl (fr_int T) b_int (pa_cons (pv 0) pa_nil)) pe_int) (pa_cons pe_int pa_nil)))))),?_⟩
  refine ⟨_,rfl,_,rfl,_,_,rfl,rfl,(by unfold CPow;decide),_,_,rfl,rfl,.inr ⟨_,rfl,_,_,rfl,rfl,?_,_,rfl,.inl ⟨_,rfl,_,_,rfl,rfl,(by first | (show (0:Int)<_;decide) | (show (0:Int)<_∧_<(1073741824:Int);decide)),sz (by simp),?_⟩⟩⟩
  ·refine .inr ?_
   by_cases h1:decide ((10:Int) ^ (18:Int).toNat≤c)=true
   ·rw [if_pos h1]<;>decide
   ·rw [if_neg h1]<;>decide
  ·intro p1 n1
   generalize e1:upd _ p1 _=H1
   obtain ⟨x1,s1,o1⟩:=new_of e1 n1
   clear e1
   exact q p1 H1 n1 x1 ⟨_,_,_,s1,Int.emod_nonneg _ (by decide),Int.emod_lt_of_pos _ (by decide),Int.le_refl _,Int.le_refl _⟩ o1
abbrev N_law_draw:List Str:=["_law_source_here","_law_bound","_law_result","_law_prime","_law_mixed"]
theorem sc_law_draw:FnScope N_law_draw ["_law_source_here","_law_bound"] (defScope sd_law_draw):=⟨rfl,rfl,rfl,by decide +kernel,rfl,by decide +kernel,by decide +kernel⟩
theorem ok_law_draw (T:Tx w h K mg):Ok P w K mg base 1 ("_law_draw",none) ["_law_source_here","_law_bound"] (sp_drawB):=by
 obtain ⟨fd,F⟩:=F_law_draw T
 refine ⟨fd,?_,F.bindsN (fun _ _ _ _ _ _ us hl=>match us,hl with | [_,_],_=>rfl),F.kp⟩
 refine F.ok sc_law_draw (fun vs H Q E h=>?_) (fun cdv A outer s H vs Q E hr h=>?_)
 ·obtain ⟨p,n,m,rfl,⟨x,y,z,hp,y0,y1,z0,z1⟩,hn,h1,h2,q⟩:=h
  rfl
 ·obtain ⟨p,n,m,rfl,⟨x,y,z,hp,y0,y1,z0,z1⟩,hn,h1,h2,q⟩:=h
  refine ⟨_,PSs.nox (pss_cons (ps_if (pt_cmpR op_gt (pe_ix ix_list (pv 0) pe_int (fun _ _=>rfl)) pe_int (nomark _)) (pss_cons (ps_set (i:=2) sc_law_draw.nd rfl (Or.inl rfl) (pe_op op_mod (pe_callTy call_int1 rfl (fr_int T) b_int (pa_cons (pe_ix ix_list (pv 0) pe_int (fun _ _=>rfl)) pa_nil)) (pv 1))) (pss_cons (ps_asg (pe_op op_fdiv (pe_ix ix_list (pv 0) pe_int (fun _ _=>rfl)) (pv 1)) (pg_sub (pv 0) pe_int set_list)) (pss_one (ps_ret (pv 2))))) pss_nil) (pss_cons (ps_asg (pe_op op_add (pe_ix ix_list (pv 0) pe_int (fun _ _=>rfl)) pe_int) (pg_sub (pv 0) pe_int set_list)) (pss_cons (ps_set (i:=3) sc_law_draw.nd rfl (Or.inl rfl) (pe_ix ix_list (pe_lst (pa_cons pe_int (pa_cons pe_int (pa_cons pe_int (pa_cons pe_int (pa_cons pe_int pa_nil)))))) (pe_op op_mod (pe_callTy call_int1 rfl (fr_int T) b_int (pa_cons (pe_ix ix_list (pv 0) pe_int (fun _ _=>rfl)) pa_nil)) pe_int) (fun _ _=>rfl))) (pss_cons (ps_set (i:=4) sc_law_draw.nd rfl (Or.inl rfl) (pe_op op_mod (pe_callTy call_int1 rfl (fr_int T) b_int (pa_cons (pe_op op_pow (pe_op op_add (pe_op op_add (pe_ix ix_list (pv 0) pe_int (fun _ _=>rfl)) (pe_op op_mul pe_int (pe_ix ix_list (pv 0) pe_int (fun _ _=>rfl)))) pe_int) pe_int) pa_nil)) (pv 3))) (pss_cons (ps_set (i:=4) sc_law_draw.nd rfl (Or.inl rfl) (pe_op op_mod (pe_callTy call_int1 rfl (fr_int T) b_int (pa_cons (pe_op op_mul (pe_op op_add (pv 4) (pe_ix ix_list (pv 0) pe_int (fun _ _=>rfl))) (pe_op op_add (pe_op op_fdiv (pv 4) pe_int) pe_int)) pa_nil)) (pv 3))) (pss_cons (ps_set (i:=4) sc_law_draw.nd rfl (Or.inl rfl) (pe_op op_mod (pe_callTy call_int1 rfl (fr_int T) b_int (pa_cons (pe_op op_mul (pv 4) (pe_op op_add (pe_op op_add (pe_op op_fdiv (pv 4) pe_int) pe_int) (pe_ix ix_list (pv 0) pe_int (fun _ _=>rfl)))) pa_nil)) pe_int)) (pss_one (ps_ret (pe_op op_mod (pe_callTy call_int1 rfl (fr_int T) b_int (pa_cons (pe_op op_fdiv (pv 4) pe_int) pa_nil)) (pv 1)))))))))),?_⟩
  have hs:=Evl.sq_of (K:=K) hp
  refine ⟨_,rfl,p,_,_,_,rfl,rfl,hs,rfl,_,_,rfl,rfl,_,rfl,ite_of (fun h3=>?_) (fun h3=>?_)⟩
  ·refine ⟨_,rfl,p,_,_,_,rfl,rfl,hs,rfl,.inl ⟨_,rfl,_,rfl,_,_,rfl,rfl,h1,?_⟩⟩
   refine ⟨_,rfl,p,_,_,_,rfl,rfl,hs,rfl,_,rfl,_,_,rfl,rfl,⟨h1,h2⟩,_,rfl,p,_,_,0,rfl,rfl,hp,rfl,?_⟩
   exact ⟨_,rfl,q _ _ (Int.emod_nonneg _ (by omega)) (Int.emod_lt_of_pos _ h1) ⟨_,_,_,upd_same,y0,y1,z0,by omega⟩ fun b o hb e=>by rw [upd_ne hb];exact e⟩
  ·refine ⟨_,rfl,p,_,_,_,rfl,rfl,hs,rfl,_,_,rfl,rfl,_,rfl,p,_,_,2,rfl,rfl,hp,rfl,?_⟩
   have hs2:=Evl.sq_of (K:=K) (upd_same (H:=H) (a:=p) (o:=.lst [.int x,.int y,.int (z + 1)]))
   refine ⟨sz (by simp),?_⟩
   have hu:upd H p (.lst [.int x,.int y,.int (z + 1)]) p=some (.lst [.int x,.int y,.int (z + 1)]):=upd_same
   have ou:∀ b,b≠p→upd H p (.lst [.int x,.int y,.int (z + 1)]) b=H b:=fun b hb=>upd_ne hb
   have e3:upd H p (.lst ([V.int x,V.int y,V.int z].set 2 ((fun i j=>V.int (i + j)) z 1)))=upd H p (.lst [.int x,.int y,.int (z + 1)]):=rfl
   rw [e3]
   generalize upd H p (.lst [.int x,.int y,.int (z + 1)])=H3 at hs2 hu ou
   intro p4 n4
   generalize e4:upd _ p4 _=H4
   obtain ⟨x4,s4,o4⟩:=new_of e4 n4
   clear e4
   have hs4:=Evl.sq_of (K:=K) (x4 _ _ hu)
   have i0:=Int.emod_nonneg (z + 1) (show (5:Int)≠0 by decide)
   have i1:=Int.emod_lt_of_pos (z + 1) (show (0:Int)<5 by decide)
   obtain ⟨j,hj⟩:∃ j:Nat,(z + 1) % 5=(j:Int):=⟨((z + 1) % 5).toNat,by omega⟩
   obtain ⟨pr,hpr,pr0,pr1⟩:∃ pr:Int,[V.int 2147483629,.int 2147483587,.int 2147483579,.int 2147483563,.int 2147483549][j]?=some (.int pr)∧0<pr∧pr<2147483648:=by
    have:j=0∨j=1∨j=2∨j=3∨j=4:=by omega
    rcases this with rfl | rfl | rfl | rfl | rfl<;>exact ⟨_,rfl,by decide,by decide⟩
   refine ⟨_,rfl,p,_,_,_,rfl,rfl,hs4,rfl,.inl ⟨_,rfl,_,_,rfl,rfl,(show (0:Int)<5 by decide),?_⟩⟩
   refine ⟨p4,_,(j:Int),.int pr,rfl,congrArg V.int hj,Evl.sq_of s4,atI_nat hpr,?_⟩
   refine ⟨_,rfl,p,_,_,_,rfl,rfl,hs4,rfl,_,rfl,p,_,_,_,rfl,rfl,hs4,rfl,_,_,rfl,rfl,.inl (by show (-(2 ^ 64)<(5413:Int)∧(5413:Int)<2 ^ 64);decide),_,_,rfl,rfl,_,_,rfl,rfl,_,_,rfl,rfl,⟨by decide,by decide,by show (y + 5413 * (z + 1) + 23).natAbs<2 ^ 64;omega⟩,.inl ⟨_,rfl,_,rfl,_,_,rfl,rfl,pr0,?_⟩⟩
   generalize (y + 5413 * (z + 1) + 23) ^ (3:Int).toNat=r1
   have b1:=Int.emod_nonneg r1 (show pr≠0 by omega)
   have b2:=Int.emod_lt_of_pos r1 pr0
   refine ⟨_,rfl,_,rfl,p,_,_,_,rfl,rfl,hs4,rfl,_,_,rfl,rfl,_,rfl,_,_,rfl,rfl,(by first | (show (0:Int)<_;decide) | (show (0:Int)<_∧_<(1073741824:Int);decide)),_,_,rfl,rfl,_,_,rfl,rfl,.inr ?_,.inl ⟨_,rfl,_,rfl,_,_,rfl,rfl,pr0,?_⟩⟩
   ·have:r1 % pr / 1013≤r1 % pr:=Int.ediv_le_self _ b1
    have:0≤r1 % pr / 1013:=Int.ediv_nonneg b1 (by decide)
    constructor<;>omega
   generalize (r1 % pr + (z + 1)) * (r1 % pr / 1013 + 69001)=r2
   have b3:=Int.emod_nonneg r2 (show pr≠0 by omega)
   have b4:=Int.emod_lt_of_pos r2 pr0
   refine ⟨_,rfl,_,rfl,_,_,rfl,rfl,(by first | (show (0:Int)<_;decide) | (show (0:Int)<_∧_<(1073741824:Int);decide)),_,_,rfl,rfl,_,rfl,p,_,_,_,rfl,rfl,hs4,rfl,_,_,rfl,rfl,_,_,rfl,rfl,.inl (by constructor<;>omega),.inl ⟨_,rfl,_,_,rfl,rfl,(by first | (show (0:Int)<_;decide) | (show (0:Int)<_∧_<(1073741824:Int);decide)),?_⟩⟩
   refine ⟨_,rfl,_,_,rfl,rfl,(by first | (show (0:Int)<_;decide) | (show (0:Int)<_∧_<(1073741824:Int);decide)),.inl ⟨_,rfl,_,rfl,_,_,rfl,rfl,h1,?_⟩⟩
   exact q _ _ (Int.emod_nonneg _ (by omega)) (Int.emod_lt_of_pos _ h1) ⟨_,_,_,x4 _ _ hu,y0,y1,by omega,by omega⟩ fun b o hb e=>x4 _ _ (by rw [ou b hb];exact e)
abbrev N_law_choice:List Str:=["_law_source_here","_law_items"]
theorem sc_law_choice:FnScope N_law_choice ["_law_source_here","_law_items"] (defScope sd_law_choice):=⟨rfl,rfl,rfl,by decide +kernel,rfl,by decide +kernel,by decide +kernel⟩
theorem ok_law_choice (T:Tx w h K mg):Ok P w K mg base 2 ("_law_choice",none) ["_law_source_here","_law_items"] (sp_choiceB K):=by
 obtain ⟨fd,F⟩:=F_law_choice T
 refine ⟨fd,?_,F.bindsN (fun _ _ _ _ _ _ us hl=>match us,hl with | [_,_],_=>rfl),F.kp⟩
 obtain ⟨fd_law_draw,G_law_draw,bi_law_draw,kp_law_draw⟩:=ok_law_draw (P:=P) (base:=base) T
 refine F.ok sc_law_choice (fun vs H Q E h=>?_) (fun cdv A outer s H vs Q E hr h=>?_)
 ·obtain ⟨p,a,n,xs,rfl,hp,hn,ha,hne,hk,hl,q⟩:=h
  rfl
 ·obtain ⟨p,a,n,xs,rfl,hp,hn,ha,hne,hk,hl,q⟩:=h
  refine ⟨_,PSs.nox (pss_one (ps_ret (pe_ix ix_list (pv 1) (pe_call G_law_draw (hr.mono (by decide)) rfl (g_law_draw T) kp_law_draw bi_law_draw .nil passF (pa_cons (pv 0) (pa_cons (pe_callB call_len_seq rfl (fr_len T) b_len (pa_cons (pv 1) pa_nil)) pa_nil))) (fun _ _=>rfl)))),?_⟩
  have lk:0<xs.length:=List.length_pos_iff.mpr hk
  refine ⟨_,rfl,_,rfl,_,rfl,a,_,rfl,.inl (Evl.sq_of ha),?_⟩
  refine ⟨p,n,_,rfl,hp,hn,(by omega),(by omega),fun v H1 v0 v1 s1 o1=>?_⟩
  obtain ⟨j,rfl⟩:∃ j:Nat,v=(j:Int):=⟨v.toNat,by omega⟩
  have hj:j<xs.length:=by omega
  refine ⟨a,_,_,xs[j],rfl,rfl,Evl.sq_of (o1 a _ hne ha),atI_nat (List.getElem?_eq_getElem hj),?_⟩
  exact q H1 _ (List.getElem_mem hj) s1 o1
abbrev N_law_name:List Str:=["_law_source_here"]
theorem sc_law_name:FnScope N_law_name ["_law_source_here"] (defScope sd_law_name):=⟨rfl,rfl,rfl,by decide +kernel,rfl,by decide +kernel,by decide +kernel⟩
theorem ok_law_name (T:Tx w h K mg):Ok P w K mg base 3 ("_law_name",none) ["_law_source_here"] (sp_nameB):=by
 obtain ⟨fd,F⟩:=F_law_name T
 refine ⟨fd,?_,F.bindsN (fun _ _ _ _ _ _ us hl=>match us,hl with | [_],_=>rfl),F.kp⟩
 obtain ⟨fd_law_choice,G_law_choice,bi_law_choice,kp_law_choice⟩:=ok_law_choice (P:=P) (base:=base) T
 refine F.ok sc_law_name (fun vs H Q E h=>?_) (fun cdv A outer s H vs Q E hr h=>?_)
 ·obtain ⟨p,n,rfl,hp,hn,q⟩:=h
  rfl
 ·obtain ⟨p,n,rfl,hp,hn,q⟩:=h
  refine ⟨_,PSs.nox (pss_one (ps_ret (pe_call G_law_choice (hr.mono (by decide)) rfl (g_law_choice T) kp_law_choice bi_law_choice .nil passF (pa_cons (pv 0) (pa_cons (pe_lst (pa_cons pe_str (pa_cons pe_str (pa_cons pe_str (pa_cons pe_str (pa_cons pe_str (pa_cons pe_str (pa_cons pe_str (pa_cons pe_str pa_nil))))))))) pa_nil))))),?_⟩
  refine ⟨_,rfl,sz (by simp),?_⟩
  intro p1 n1
  generalize e1:upd _ p1 _=H1
  obtain ⟨x1,s1,o1⟩:=new_of e1 n1
  clear e1
  have pn:p1≠p:=fun z=>by obtain ⟨_,_,_,h,_⟩:=hp;rw [z,h] at n1;cases n1
  refine ⟨p,p1,n,nmB.map V.str,rfl,hp.kp fun o h=>x1 _ _ h,hn,s1,pn,(by simp [nmB]),(by simp [nmB]),fun H2 x hx s2 o2=>?_⟩
  obtain ⟨nm,hm,rfl⟩:=List.mem_map.mp hx
  exact q H2 nm hm s2 fun b o hb e=>o2 b o hb (x1 _ _ e)
end
end
section
def sp_leafB (K:PySem.W.Frag):Sp:=fun vs H Q _=>∃ (F:Hp) (p:Addr) (n loops:Nat),vs=[.ref p,.int (loops:Int)]∧Ex F H∧F p=none∧SrcB H p n∧n≤900000000∧loops<1000 ∧
 ∀ (F' H':Hp) (v:V) (d:PyData),Gr (fun b=>b=p) F H F' H'→F' p=none→SrcB H' p (n + 2)→Dp K F' v d→(∀ r k b,1≤r→1≤k→b≤25→SB r k loops b d)→Q v H'
section
variable {P:Program} {w:World} {h:Heap} {K:PySem.W.Frag} {mg:Str→Option Value} {base:Heap}
abbrev N_law_leaf:List Str:=["_law_source_here","_law_loops","_law_way"]
theorem sc_law_leaf:FnScope N_law_leaf ["_law_source_here","_law_loops"] (defScope sd_law_leaf):=⟨rfl,rfl,rfl,by decide +kernel,rfl,by decide +kernel,by decide +kernel⟩
theorem ok_law_leaf (T:Tx w h K mg):Ok P w K mg base 4 ("_law_leaf",none) ["_law_source_here","_law_loops"] (sp_leafB K):=by
 obtain ⟨fd,F⟩:=F_law_leaf T
 refine ⟨fd,?_,F.bindsN (fun _ _ _ _ _ _ us hl=>match us,hl with | [_,_],_=>rfl),F.kp⟩
 obtain ⟨fd_law_draw,G_law_draw,bi_law_draw,kp_law_draw⟩:=ok_law_draw (P:=P) (base:=base) T
 obtain ⟨fd_law_name,G_law_name,bi_law_name,kp_law_name⟩:=ok_law_name (P:=P) (base:=base) T
 refine F.ok sc_law_leaf (fun vs H Q E h=>?_) (fun cdv A outer s H vs Q E hr h=>?_)
 ·obtain ⟨F,p,n,loops,rfl,xF,fp,hp,hn,hlp,q⟩:=h
  rfl
 ·obtain ⟨F,p,n,loops,rfl,xF,fp,hp,hn,hlp,q⟩:=h
  refine ⟨_,PSs.nox (pss_cons (ps_set (i:=2) sc_law_leaf.nd rfl (Or.inl rfl) (pe_call G_law_draw (hr.mono (by decide)) rfl (g_law_draw T) kp_law_draw bi_law_draw .nil passF (pa_cons (pv 0) (pa_cons pe_int pa_nil)))) (pss_cons (ps_if (pt_cmpR op_gt (pv 2) pe_int (nomark _)) (pss_one (ps_ret (pe_ix ix_list (pe_lst (pa_cons (pe_tup (pa_cons pe_str pa_nil)) (pa_cons (pe_tup (pa_cons pe_str pa_nil)) (pa_cons (pe_tup (pa_cons pe_str pa_nil)) pa_nil)))) (pe_op op_sub (pv 2) pe_int) (fun _ _=>rfl)))) pss_nil) (pss_cons (ps_if (PW.pt (pw_and (pt_cmpR op_gt (pv 2) pe_int (nomark _)) (pw_and1 (pt_cmpR op_gt (pv 1) pe_int (nomark _))))) (pss_one (ps_ret (pe_tup (pa_cons (pe_ix ix_list (pe_lst (pa_cons pe_str (pa_cons pe_str pa_nil))) (pe_op op_mod (pe_callTy call_int1 rfl (fr_int T) b_int (pa_cons (pv 2) pa_nil)) pe_int) (fun _ _=>rfl)) (pa_cons (pe_op op_add pe_int (pe_call G_law_draw (hr.mono (by decide)) rfl (g_law_draw T) kp_law_draw bi_law_draw .nil passF (pa_cons (pv 0) (pa_cons (pv 1) pa_nil)))) pa_nil))))) pss_nil) (pss_one (ps_ret (pe_tup (pa_cons (pe_ix ix_list (pe_lst (pa_cons pe_str (pa_cons pe_str pa_nil))) (pe_callTy call_int1 rfl (fr_int T) b_int (pa_cons (pe_cmpR op_gt (pv 2) pe_int (nomark _)) pa_nil)) (fun _ _=>rfl)) (pa_cons (pe_call G_law_name (hr.mono (by decide)) rfl (g_law_name T) kp_law_name bi_law_name .nil passF (pa_cons (pv 0) pa_nil)) pa_nil)))))))),?_⟩
  refine ⟨_,rfl,p,n,10,rfl,hp,by omega,by decide,by decide,fun v H1 v0 v1 s1 o1=>?_⟩
  have g1:Gr (fun b=>b=p) F H F H1:=gr_kp xF fp o1
  have fin:∀ {Hx H5:Hp} {q5:Addr} {xs:List V} {ds:List PyData},Gr (fun b=>b=p) F H F Hx→Hx q5=none→H5 q5=some (.tup xs)→(∀ b,b≠q5→H5 b=Hx b)→SrcB Hx p (n + 2)→DpAll K (upd F q5 (.tup xs)) xs ds→(∀ r k b,1≤r→1≤k→b≤25→SB r k loops b (.tuple ds))→Q (.ref q5) H5:=fun {Hx H5 q5 xs ds} g n5 s5 o5 sp da sd=>by
   have pq:p≠q5:=fun z=>by
    obtain ⟨b1,b2,b3,hb,_⟩:=sp
    rw [z,n5] at hb
    cases hb
   exact q (upd F q5 (.tup xs)) H5 _ _ (g.trans (Gr.frz g.fh n5 s5 o5)) (by rw [upd_ne pq];exact fp) (sp.kp fun o h=>by rw [o5 p pq];exact h) (.tup (Evl.st_of upd_same) da) sd
  refine ⟨_,rfl,_,_,rfl,rfl,_,rfl,ite_of (fun h2=>?_) (fun h2=>?_)⟩
  ·have h2:=of_decide_eq_true h2
   refine ⟨sz (by simp),?_⟩
   intro p2 n2
   generalize e2:upd _ p2 _=H2
   obtain ⟨x2,s2,o2⟩:=new_of e2 n2
   clear e2
   refine ⟨sz (by simp),?_⟩
   intro p3 n3
   generalize e3:upd _ p3 _=H3
   obtain ⟨x3,s3,o3⟩:=new_of e3 n3
   clear e3
   refine ⟨sz (by simp),?_⟩
   intro p4 n4
   generalize e4:upd _ p4 _=H4
   obtain ⟨x4,s4,o4⟩:=new_of e4 n4
   clear e4
   refine ⟨sz (by simp),?_⟩
   intro p5 n5
   generalize e5:upd _ p5 _=H5
   obtain ⟨x5,s5,o5⟩:=new_of e5 n5
   clear e5
   have x15:Ex H1 H5:=x2.trans (x3.trans (x4.trans x5))
   have g5:=g1.trans (Gr.new g1.fh x15)
   have hx:∀ {b:Addr},H1 b=none→H b=none:=fun {b} hb=>by
    cases z:H b with
    | none=>rfl
    | some o =>
     by_cases e:b=p
     ·obtain ⟨_,_,_,hs,_⟩:=s1
      rw [e,hs] at hb
      cases hb
     ·rw [o1 b o e z] at hb
      cases hb
   obtain ⟨j,hj,hj3⟩:∃ j:Nat,v - 7=(j:Int)∧j<3:=⟨(v - 7).toNat,by omega,by omega⟩
   obtain ⟨px,kq,hpx,hpn,hps,hkq⟩:∃ (px:Addr) (kq:Str),[V.ref p2,.ref p3,.ref p4][j]?=some (.ref px)∧H1 px=none∧H5 px=some (.tup [.str kq])∧(kq="return"∨kq="raise"):=by
    have:j=0∨j=1∨j=2:=by omega
    rcases this with rfl | rfl | rfl
    ·exact ⟨p2,_,rfl,n2,x5 _ _ (x4 _ _ (x3 _ _ s2)),.inl rfl⟩
    ·exact ⟨p3,_,rfl,ex_none x2 n3,x5 _ _ (x4 _ _ s3),.inr rfl⟩
    ·exact ⟨p4,_,rfl,ex_none (x2.trans x3) n4,x5 _ _ s4,.inr rfl⟩
   refine ⟨_,rfl,_,_,rfl,rfl,p5,_,(j:Int),.ref px,rfl,congrArg V.int hj,Evl.sq_of s5,atI_nat hpx,?_⟩
   have pp:p≠px:=fun z=>by obtain ⟨_,_,_,hs,_⟩:=s1;rw [z,hpn] at hs;cases hs
   refine q (upd F px (.tup [.str kq])) H5 _ _ (g5.frzAt (hx hpn) hps (ex_none xF (hx hpn))) (by rw [upd_ne pp];exact fp) ((s1.kp fun o h=>x15 _ _ h).up (by omega)) (.tup (Evl.st_of upd_same) (.cons (.str _) .nil)) fun r k b h1 h2 h3=>sb_ret h1 h2 h3 hkq
  refine ⟨_,rfl,_,_,rfl,rfl,_,rfl,?_⟩
  by_cases hv2:2<v
  ·by_cases hl0:0<loops
   ·refine itT (decide_eq_true hv2) ?_
    refine ⟨_,rfl,_,_,rfl,rfl,_,rfl,itT (decide_eq_true (show (0:Int)<(loops:Int) by omega)) ?_⟩
    refine ⟨sz (by simp),?_⟩
    intro p2 n2
    generalize e2:upd _ p2 _=H2
    obtain ⟨x2,s2,o2⟩:=new_of e2 n2
    clear e2
    obtain ⟨j,hj,hj2⟩:∃ j:Nat,v % 2=(j:Int)∧j<2:=⟨(v % 2).toNat,by omega,by omega⟩
    obtain ⟨kq,hkq,kk⟩:∃ kq:Str,[V.str "break",.str "continue"][j]?=some (.str kq)∧(kq="break"∨kq="continue"):=by
     have:j=0∨j=1:=by omega
     rcases this with rfl | rfl
     ·exact ⟨_,rfl,.inl rfl⟩
     ·exact ⟨_,rfl,.inr rfl⟩
    refine ⟨_,rfl,.inl ⟨_,rfl,_,_,rfl,rfl,(show (0:Int)<2 by decide),p2,_,(j:Int),.str kq,rfl,congrArg V.int hj,Evl.sq_of s2,atI_nat hkq,?_⟩⟩
    have pn:p2≠p:=fun z=>by obtain ⟨_,_,_,h,_⟩:=s1;rw [z,h] at n2;cases n2
    refine ⟨_,rfl,_,rfl,p,n + 1,_,rfl,s1.kp fun o h=>x2 _ _ h,by omega,by omega,by omega,fun v' H3 w0 w1 s3 o3=>?_⟩
    refine ⟨_,_,rfl,rfl,sz (by simp),?_⟩
    intro p4 n4
    generalize e4:upd _ p4 _=H4
    obtain ⟨x4,s4,o4⟩:=new_of e4 n4
    clear e4
    have g2:=g1.trans (Gr.new g1.fh x2)
    have g3:=g2.trans (gr_kp g2.fh fp o3)
    exact fin g3 n4 s4 o4 s3 (.cons (.str _) (.cons (.int _) .nil)) fun r k b h1 h2 h3=>sb_jmp h1 h2 h3 kk (by omega) (by omega)
   ·refine itT (decide_eq_true hv2) ?_
    refine ⟨_,rfl,_,_,rfl,rfl,_,rfl,itF (decide_eq_false (show ¬ (0:Int)<(loops:Int) by omega)) ?_⟩
    refine ⟨sz (by simp),?_⟩
    intro p2 n2
    generalize e2:upd _ p2 _=H2
    obtain ⟨x2,s2,o2⟩:=new_of e2 n2
    clear e2
    obtain ⟨kq,hkq,kk⟩:∃ kq:Str,[V.str "do",.str "call"][(if decide (0<v)=true then 1 else 0:Nat)]?=some (.str kq)∧(kq="do"∨kq="call"):=by
     cases decide (0<v)
     ·exact ⟨_,rfl,.inl rfl⟩
     ·exact ⟨_,rfl,.inr rfl⟩
    have hji:(if decide (0<v)=true then (1:Int) else 0)=((if decide (0<v)=true then 1 else 0:Nat):Int):=by cases decide (0<v)<;>rfl
    refine ⟨_,rfl,_,_,rfl,rfl,.inr ⟨_,rfl,p2,_,_,.str kq,rfl,congrArg V.int hji,Evl.sq_of s2,atI_nat hkq,?_⟩⟩
    refine ⟨_,rfl,p,n + 1,rfl,s1.kp fun o h=>x2 _ _ h,by omega,fun H3 nm hm s3 o3=>?_⟩
    refine ⟨sz (by simp),?_⟩
    intro p4 n4
    generalize e4:upd _ p4 _=H4
    obtain ⟨x4,s4,o4⟩:=new_of e4 n4
    clear e4
    have g2:=g1.trans (Gr.new g1.fh x2)
    have g3:=g2.trans (gr_kp g2.fh fp o3)
    exact fin g3 n4 s4 o4 s3 (.cons (.str _) (.cons (.str _) .nil)) fun r k b h1 h2 h3=>sb_do h1 h2 h3 kk hm
  ·refine itF (decide_eq_false hv2) ?_
   refine ⟨sz (by simp),?_⟩
   intro p2 n2
   generalize e2:upd _ p2 _=H2
   obtain ⟨x2,s2,o2⟩:=new_of e2 n2
   clear e2
   obtain ⟨kq,hkq,kk⟩:∃ kq:Str,[V.str "do",.str "call"][(if decide (0<v)=true then 1 else 0:Nat)]?=some (.str kq)∧(kq="do"∨kq="call"):=by
    cases decide (0<v)
    ·exact ⟨_,rfl,.inl rfl⟩
    ·exact ⟨_,rfl,.inr rfl⟩
   have hji:(if decide (0<v)=true then (1:Int) else 0)=((if decide (0<v)=true then 1 else 0:Nat):Int):=by cases decide (0<v)<;>rfl
   refine ⟨_,rfl,_,_,rfl,rfl,.inr ⟨_,rfl,p2,_,_,.str kq,rfl,congrArg V.int hji,Evl.sq_of s2,atI_nat hkq,?_⟩⟩
   refine ⟨_,rfl,p,n + 1,rfl,s1.kp fun o h=>x2 _ _ h,by omega,fun H3 nm hm s3 o3=>?_⟩
   refine ⟨sz (by simp),?_⟩
   intro p4 n4
   generalize e4:upd _ p4 _=H4
   obtain ⟨x4,s4,o4⟩:=new_of e4 n4
   clear e4
   have g2:=g1.trans (Gr.new g1.fh x2)
   have g3:=g2.trans (gr_kp g2.fh fp o3)
   exact fin g3 n4 s4 o4 s3 (.cons (.str _) (.cons (.str _) .nil)) fun r k b h1 h2 h3=>sb_do h1 h2 h3 kk hm
end
end
section
theorem sbs_nil {k l b r:Nat} {ds:List PyData} (h:SBs k l b r ds):ds=[]→r=0:=by
 cases h with
 | nil=>exact fun _=>rfl
 | snoc=>intro e;simp at e
def sp_stmB (K:PySem.W.Frag) (n:Nat):Sp:=fun vs H Q _=>∃ (F:Hp) (p:Addr) (m room deep loops blocks:Nat),vs=[.ref p,.int (room:Int),.int (deep:Int),.int (loops:Int),.int (blocks:Int)]∧deep≤n∧1≤room∧1≤deep∧room≤400∧loops + deep≤900∧blocks≤25∧Ex F H∧F p=none∧SrcB H p m∧m + 8 * room≤900000000 ∧
 ∀ (F' H':Hp) (v:V) (d:PyData),Gr (fun b=>b=p) F H F' H'→F' p=none→SrcB H' p (m + 8 * room)→Dp K F' v d→SB room deep loops blocks d→Q v H'
section
variable {P:Program} {w:World} {h:Heap} {K:PySem.W.Frag} {mg:Str→Option Value} {base:Heap}
theorem st_preB (n:Nat) (IH:∀ m,m<n→Ok P w K mg base (m + 5) ("_law_statement",none) ["_law_source_here","_law_room","_law_deep","_law_loops","_law_blocks"] (sp_stmB K m)) (T:Tx w h K mg) :
  Ok P w K mg base (n + 4) ("_law_statement",none) ["_law_source_here","_law_room","_law_deep","_law_loops","_law_blocks"] (fun vs H Q E=>∃ m,m<n∧sp_stmB K m vs H Q E):=by
 cases n with
 | zero =>
  obtain ⟨fd,F⟩:=F_law_statement T
  refine ⟨fd,⟨fun vs H Q E h=>?_,fun A outer s H args us vs Q E _ _ _ _ h=>?_⟩,F.bindsN (fun _ _ _ _ _ _ us hl=>match us,hl with | [_,_,_,_,_],_=>rfl),F.kp⟩
  ·obtain ⟨m,h,_⟩:=h
   exact absurd h (Nat.not_lt_zero _)
  ·obtain ⟨m,h,_⟩:=h
   exact absurd h (Nat.not_lt_zero _)
 | succ n =>
  obtain ⟨fd,G,b,kp⟩:=IH n (Nat.lt_succ_self _)
  refine ⟨fd,G.imp fun vs H Q E h=>?_,b,kp⟩
  obtain ⟨m,hm,F,p,m0,room,deep,loops,blocks,e,hd,r⟩:=h
  exact ⟨F,p,m0,room,deep,loops,blocks,e,by omega,r⟩
abbrev N_law_statement:List Str:=["_law_source_here","_law_room","_law_deep","_law_loops","_law_blocks","_law_way","_law_parts","_law_rest","_law_turn","_law_share","_law_one","_law_other"]
theorem sc_law_statement:FnScope N_law_statement ["_law_source_here","_law_room","_law_deep","_law_loops","_law_blocks"] (defScope sd_law_statement):=⟨rfl,rfl,rfl,by decide +kernel,rfl,by decide +kernel,by decide +kernel⟩
theorem ok_law_statement (n : Nat) (IH : ∀ m, m < n → Ok P w K mg base (m + 5) ("_law_statement", none) ["_law_source_here", "_law_room", "_law_deep", "_law_loops", "_law_blocks"] (sp_stmB K m)) (T : Tx w h K mg) : Ok P w K mg base (n+5) ("_law_statement", none) ["_law_source_here", "_law_room", "_law_deep", "_law_loops", "_law_blocks"] (sp_stmB K n) := by
  obtain ⟨fd, F⟩ := F_law_statement T
  refine ⟨fd, ?_, F.bindsN (fun _ _ _ _ _ _ us hl => match us, hl with | [_, _, _, _, _], _ => rfl), F.kp⟩
  obtain ⟨fd_law_draw, G_law_draw, bi_law_draw, kp_law_draw⟩ := ok_law_draw (P := P) (base := base) T
  obtain ⟨fd_law_leaf, G_law_leaf, bi_law_leaf, kp_law_leaf⟩ := ok_law_leaf (P := P) (base := base) T
  obtain ⟨fd_law_name, G_law_name, bi_law_name, kp_law_name⟩ := ok_law_name (P := P) (base := base) T
  obtain ⟨fd_law_statement, G_law_statement, bi_law_statement, kp_law_statement⟩ : Ok P w K mg base (n + 4) ("_law_statement", none) ["_law_source_here", "_law_room", "_law_deep", "_law_loops", "_law_blocks"] (fun vs H Q E => ∃ m, m < n ∧ sp_stmB K m vs H Q E) := st_preB n IH T
  refine F.ok sc_law_statement (fun vs H Q E h => ?_) (fun cdv A outer s H vs Q E hr h => ?_)
  · obtain ⟨F, p, m, room, deep, loops, blocks, rfl, hn, r1, d1, r4, hlp, hbl, xF, fp, hp, hm, q⟩ := h
    rfl
  · obtain ⟨F, p, m, room, deep, loops, blocks, rfl, hn, r1, d1, r4, hlp, hbl, xF, fp, hp, hm, q⟩ := h
    refine ⟨_, PSs.nox (pss_cons (ps_set (i := 5) sc_law_statement.nd rfl (Or.inl rfl) (pe_call G_law_draw (hr.mono (by omega)) rfl (g_law_draw T) kp_law_draw bi_law_draw .nil passF (pa_cons (pv 0) (pa_cons pe_int pa_nil)))) (pss_cons (ps_if (PW.pt (pw_or (pt_cmpR op_lt (pv 1) pe_int (nomark _)) (pw_or (pt_cmpR op_lt (pv 2) pe_int (nomark _)) (pw_or1 (pt_cmpR op_eq (pv 5) pe_int (nomark _)))))) (pss_one (ps_ret (pe_call G_law_leaf (hr.mono (by omega)) rfl (g_law_leaf T) kp_law_leaf bi_law_leaf .nil passF (pa_cons (pv 0) (pa_cons (pv 3) pa_nil))))) pss_nil) (pss_cons (ps_if (pt_cmpR op_lt (pv 5) pe_int (nomark _)) (pss_one (ps_ret (pe_tup (pa_cons pe_str (pa_cons (pe_call G_law_name (hr.mono (by omega)) rfl (g_law_name T) kp_law_name bi_law_name .nil passF (pa_cons (pv 0) pa_nil)) (pa_cons (pe_call G_law_statement (hr.mono (by omega)) rfl (g_law_statement T) kp_law_statement bi_law_statement .nil passF (pa_cons (pv 0) (pa_cons (pe_op op_sub (pv 1) pe_int) (pa_cons (pe_op op_sub (pv 2) pe_int) (pa_cons (pe_op op_add (pv 3) pe_int) (pa_cons (pv 4) pa_nil)))))) pa_nil)))))) pss_nil) (pss_cons (ps_if (PW.pt (pw_or (pt_cmpR op_lt (pv 1) pe_int (nomark _)) (pw_or1 (pt_cmpR op_gt (pv 5) pe_int (nomark _))))) (pss_cons (ps_par rfl sc_law_statement.nd (i := 6) (j := 7) rfl rfl (by decide) rfl rfl (pa_cons (pe_lst pa_nil) (pa_cons (pe_op op_sub (pv 1) pe_int) pa_nil)) (by rfl)) (pss_cons (ps_for PassesOwn.never rfl (pi_range1 rfl (fr_range T) (pa_cons (pe_op op_add pe_int (pe_call G_law_draw (hr.mono (by omega)) rfl (g_law_draw T) kp_law_draw bi_law_draw .nil passF (pa_cons (pv 0) (pa_cons pe_int pa_nil)))) pa_nil)) (pg_name (i := 8) sc_law_statement.nd rfl (Or.inl rfl)) (pss_one (ps_if (pt_cmpR op_gt (pv 7) pe_int (nomark _)) (pss_cons (ps_set (i := 9) sc_law_statement.nd rfl (Or.inl rfl) (pe_op op_add pe_int (pe_call G_law_draw (hr.mono (by omega)) rfl (g_law_draw T) kp_law_draw bi_law_draw .nil passF (pa_cons (pv 0) (pa_cons (pv 7) pa_nil))))) (pss_cons (ps_expr (pe_bm PySem.F.plainAttrs_list PySem.F.slot_list_append PySem.F.type_list_append mt_append (pv 6) (pa_cons (pe_call G_law_statement (hr.mono (by omega)) rfl (g_law_statement T) kp_law_statement bi_law_statement .nil passF (pa_cons (pv 0) (pa_cons (pv 9) (pa_cons (pe_op op_sub (pv 2) pe_int) (pa_cons (pv 3) (pa_cons (pv 4) pa_nil)))))) pa_nil))) (pss_one (ps_set (i := 7) sc_law_statement.nd rfl (Or.inl rfl) (pe_op op_sub (pv 7) (pv 9)))))) pss_nil))) (pss_one (ps_ret (pe_tup (pa_cons pe_str (pa_cons (pe_callTy call_tuple_of rfl (fr_tuple T) b_tuple (pa_cons (pv 6) pa_nil)) pa_nil))))))) pss_nil) (pss_cons (ps_set (i := 9) sc_law_statement.nd rfl (Or.inl rfl) (pe_op op_add pe_int (pe_call G_law_draw (hr.mono (by omega)) rfl (g_law_draw T) kp_law_draw bi_law_draw .nil passF (pa_cons (pv 0) (pa_cons (pe_op op_sub (pv 1) pe_int) pa_nil))))) (pss_cons (ps_set (i := 10) sc_law_statement.nd rfl (Or.inl rfl) (pe_call G_law_statement (hr.mono (by omega)) rfl (g_law_statement T) kp_law_statement bi_law_statement .nil passF (pa_cons (pv 0) (pa_cons (pv 9) (pa_cons (pe_op op_sub (pv 2) pe_int) (pa_cons (pv 3) (pa_cons (pv 4) pa_nil))))))) (pss_cons (ps_if (PW.pt (pw_and (pt_cmpR op_lt (pv 5) pe_int (nomark _)) (pw_and1 (pt_cmpR op_lt (pv 4) pe_int (nomark _))))) (pss_one (ps_ret (pe_tup (pa_cons pe_str (pa_cons (pv 10) (pa_cons (pe_call G_law_statement (hr.mono (by omega)) rfl (g_law_statement T) kp_law_statement bi_law_statement .nil passF (pa_cons (pv 0) (pa_cons (pe_op op_sub (pe_op op_sub (pv 1) pe_int) (pv 9)) (pa_cons (pe_op op_sub (pv 2) pe_int) (pa_cons (pv 3) (pa_cons (pe_op op_add (pv 4) pe_int) pa_nil)))))) pa_nil)))))) pss_nil) (pss_cons (ps_set (i := 11) sc_law_statement.nd rfl (Or.inl rfl) (pe_call G_law_statement (hr.mono (by omega)) rfl (g_law_statement T) kp_law_statement bi_law_statement .nil passF (pa_cons (pv 0) (pa_cons (pe_op op_sub (pe_op op_sub (pv 1) pe_int) (pv 9)) (pa_cons (pe_op op_sub (pv 2) pe_int) (pa_cons (pv 3) (pa_cons (pv 4) pa_nil))))))) (pss_one (ps_ret (pe_ifExp (pt_cmpR op_eq (pv 5) pe_int (nomark _)) (pe_tup (pa_cons pe_str (pa_cons (pv 10) (pa_cons (pv 11) pa_nil)))) (pe_tup (pa_cons pe_str (pa_cons (pe_call G_law_name (hr.mono (by omega)) rfl (g_law_name T) kp_law_name bi_law_name .nil passF (pa_cons (pv 0) pa_nil)) (pa_cons (pv 10) (pa_cons (pv 11) pa_nil)))))))))))))))), ?_⟩
    refine ⟨_, rfl, p, m, 12, rfl, hp, by omega, by decide, by decide, fun v H1 v0 v1 s1 o1 => ?_⟩
    have g1 : Gr (fun b => b = p) F H F H1 := gr_kp xF fp o1
    have leafQ : sp_leafB K [.ref p, .int (loops : Int)] H1 Q (fun _ _ _ => False) := ⟨F, p, m + 1, loops, rfl, g1.fh, fp, s1, by omega, by omega, fun F' H' v d g' f' s' dv sb => q F' H' v d (g1.trans g') f' (s'.up (by omega)) dv (sb _ _ _ r1 d1 hbl)⟩
    have fin : ∀ {F4 H4 H5 : Hp} {q5 : Addr} {xs : List V} {ds : List PyData} {m' : Nat}, Gr (fun b => b = p) F H F4 H4 → F4 p = none → H4 q5 = none → H5 q5 = some (.tup xs) → (∀ b, b ≠ q5 → H5 b = H4 b) → SrcB H4 p m' → m' ≤ m + 8 * room → DpAll K F4 xs ds → SB room deep loops blocks (.tuple ds) → Q (.ref q5) H5 := fun {F4 H4 H5 q5 xs ds m'} g f4 n5 s5 o5 sp hm' da sd => by
      have pq : p ≠ q5 := fun z => by
        obtain ⟨b1, b2, b3, hb, _⟩ := sp
        rw [z, n5] at hb
        cases hb
      exact q (upd F4 q5 (.tup xs)) H5 _ _ (g.trans (Gr.frz g.fh n5 s5 o5)) (by rw [upd_ne pq]; exact f4) ((sp.kp fun o h => by rw [o5 p pq]; exact h).up hm') (.tup (Evl.st_of upd_same) (dpA_ex (exu (Evl.Ex.refl _) (ex_none g.fh n5)) da)) sd
    have rec_ : ∀ {F4 H4 : Hp} {m' rm lp bk : Nat} {ri di li bi : Int} {Q' : VK}, ri = (rm : Int) → di = ((deep - 1 : Nat) : Int) → li = (lp : Int) → bi = (bk : Int) → 2 ≤ deep → Gr (fun b => b = p) F H F4 H4 → F4 p = none → SrcB H4 p m' → m' + 8 * rm ≤ 900000000 → 1 ≤ rm → rm ≤ 400 → lp + deep ≤ 901 → bk ≤ 25 → (∀ (F' H' : Hp) (v : V) (d : PyData), Gr (fun b => b = p) F4 H4 F' H' → F' p = none → SrcB H' p (m' + 8 * rm) → Dp K F' v d → SB rm (deep - 1) lp bk d → Q' v H') →
        (∃ k, k < n ∧ sp_stmB K k [.ref p, .int ri, .int di, .int li, .int bi] H4 Q' (fun _ _ _ => False)) := fun {F4 H4 m' rm lp bk ri di li bi Q'} e1 e2 e3 e4 d2 g f4 s4 hm' hr1 hr4 hl hb hq => by
      rw [e1, e2, e3, e4]
      exact ⟨deep - 1, by omega, F4, p, m', rm, deep - 1, lp, bk, rfl, Nat.le_refl _, hr1, by omega, hr4, by omega, hb, g.fh, f4, s4, hm', hq⟩
    by_cases hr2 : room < 2
    · refine ⟨_, rfl, _, _, rfl, rfl, _, rfl, itT (decide_eq_true (show (room : Int) < 2 by omega)) ?_⟩
      exact ⟨_, rfl, _, rfl, leafQ⟩
    refine ⟨_, rfl, _, _, rfl, rfl, _, rfl, itF (decide_eq_false (show ¬ (room : Int) < 2 by omega)) ?_⟩
    by_cases hd2 : deep < 2
    · refine ⟨_, rfl, _, _, rfl, rfl, _, rfl, itT (decide_eq_true (show (deep : Int) < 2 by omega)) ?_⟩
      exact ⟨_, rfl, _, rfl, leafQ⟩
    refine ⟨_, rfl, _, _, rfl, rfl, _, rfl, itF (decide_eq_false (show ¬ (deep : Int) < 2 by omega)) ?_⟩
    refine ⟨_, rfl, rfl, _, rfl, ite_of (fun h0 => ?_) (fun h0 => ?_)⟩
    · exact ⟨_, rfl, _, rfl, leafQ⟩
    obtain ⟨dm, rfl⟩ : ∃ dm, deep = dm + 1 := ⟨deep - 1, by omega⟩
    obtain ⟨rr, rfl⟩ : ∃ rr, room = rr + 1 := ⟨room - 1, by omega⟩
    have edm : ((dm + 1 : Nat) : Int) - 1 = ((dm + 1 - 1 : Nat) : Int) := by omega
    have hdd : dm + 1 - 1 = dm := rfl
    refine ⟨_, rfl, _, _, rfl, rfl, _, rfl, ite_of (fun h3 => ?_) (fun h3 => ?_)⟩
    · -- while
      refine ⟨_, rfl, p, m + 1, rfl, s1, by omega, fun H2 nm hnm s2 o2 => ?_⟩
      have g2 := g1.trans (gr_kp g1.fh fp o2)
      refine ⟨_, rfl, _, rfl, _, _, rfl, rfl, _, rfl, _, _, rfl, rfl, _, rfl, _, _, rfl, rfl, _, rfl, ?_⟩
      refine rec_ (rm := rr) (lp := loops + 1) (bk := blocks) (by show ((rr + 1 : Nat) : Int) - 1 = _; omega) edm (by omega) rfl (by omega) g2 fp s2 (by omega) (by omega) (by omega) (by omega) hbl fun F3 H3 va da g3 f3 s3 dva sba => ?_
      refine ⟨sz (by simp), ?_⟩
      intro p4 n4
      generalize e4 : upd _ p4 _ = H4
      obtain ⟨x4, s4, o4⟩ := new_of e4 n4
      clear e4
      exact fin (g2.trans g3) f3 n4 s4 o4 s3 (by omega) (.cons (.str _) (.cons (.str _) (.cons dva .nil))) (sb_whl hnm hbl sba)
    by_cases hr3 : rr + 1 < 3
    · refine ⟨_, rfl, _, _, rfl, rfl, _, rfl, itT (decide_eq_true (show ((rr + 1 : Nat) : Int) < 3 by omega)) ?_⟩
      refine ⟨sz (by simp), ?_⟩
      intro p2 n2
      generalize e2 : upd _ p2 _ = H2
      obtain ⟨x2, s2, o2⟩ := new_of e2 n2
      clear e2
      refine ⟨_, rfl, _, _, rfl, rfl, _, _, rfl, ?_⟩
      have p2p : p2 ≠ p := fun z => by obtain ⟨_, _, _, h, _⟩ := s1; rw [z, h] at n2; cases n2
      have nH2 : H p2 = none := by
        cases z : H p2 with
        | none => rfl
        | some o => rw [o1 p2 o p2p z] at n2; cases n2
      refine ⟨_, rfl, p, m + 1, 4, rfl, s1.kp fun o h => x2 _ _ h, by omega, by decide, by decide, fun c H3 c0 c1 s3 o3 => ?_⟩
      have g2 := g1.trans (Gr.new g1.fh x2)
      have g3 := g2.trans (gr_kp g2.fh fp o3)
      have l3 := o3 p2 _ p2p s2
      refine ⟨_, _, rfl, rfl, _, rfl, (by omega), (by omega), ?_⟩
      obtain ⟨cn, hcn⟩ : ∃ cn : Nat, ((1 : Int) + c).toNat = cn := ⟨_, rfl⟩
      rw [hcn]
      refine for_it (walk_range (lo := 0) (n := cn)) (fun i σ' H' => ∃ (F' : Hp) (ds : List PyData) (vs : List V) (rest used : Nat) (o8 o9 : Option V), σ' = [some (.ref p), some (.int ((rr + 1 : Nat) : Int)), some (.int ((dm + 1 : Nat) : Int)), some (.int (loops : Int)), some (.int (blocks : Int)), some (.int v), some (.ref p2), some (.int (rest : Int)), o8, o9, none, none] ∧ Gr (fun b => b = p) F H F' H' ∧ F' p = none ∧ F' p2 = none ∧ H' p2 = some (.lst vs) ∧ DpAll K F' vs ds ∧ SBs dm loops blocks used ds ∧ used + rest = rr ∧ ds.length ≤ i ∧ (1 ≤ i → ds ≠ []) ∧ SrcB H' p (m + 2 + i + 8 * used)) ?_ ?_ ?_ ?_
      · exact ⟨F, [], [], rr, 0, _, _, (by have e : ((rr + 1 : Nat) : Int) - 1 = (rr : Int) := by omega
                                           rw [← e] <;> rfl), g3, fp, ex_none g1.fh n2, l3, .nil, .nil, by omega, Nat.le_refl _, fun z => absurd z (by decide), s3.up (by omega)⟩
      · exact fun _ _ _ _ _ => True.intro
      · rintro i vi σ' Ha H4 hi ⟨F4, ds, vs, rest, used, o8, o9, rfl, g4, f4, f42, l4, da, sbs, hu, hdl, hne, s4⟩ ⟨rfl, _⟩
        have hi : i < cn := hi
        have i4 : i < 4 := by omega
        refine ⟨_, rfl, _, _, rfl, rfl, _, rfl, ite_of (fun h5 => ?_) (fun h5 => ?_)⟩
        · have h5 : 0 < rest := by have := of_decide_eq_true h5; omega
          refine ⟨_, rfl, _, rfl, p, _, _, rfl, s4, by omega, by omega, by omega, fun sh H5 sh0 sh1 s5 o5 => ?_⟩
          obtain ⟨sn, hsn⟩ : ∃ sn : Nat, (1 : Int) + sh = (sn : Int) := ⟨(1 + sh).toNat, by omega⟩
          have g5 := g4.trans (gr_kp g4.fh f4 o5)
          have l5 := o5 p2 _ p2p l4
          refine ⟨_, _, rfl, rfl, ?_⟩
          refine ⟨_, rfl, Or.inl ⟨rfl, _, Evl.sq_of l5⟩, _, rfl, _, rfl, _, rfl, _, _, rfl, rfl, _, rfl, _, rfl, ?_⟩
          refine rec_ (rm := sn) (lp := loops) (bk := blocks) hsn edm rfl rfl (by omega) g5 f4 s5 (by omega) (by omega) (by omega) (by omega) hbl fun F6 H6 va d6 g6 f6 s6 dva sba => ?_
          have l6 := g6.kp p2 _ l5 p2p
          have f62 : F6 p2 = none := g6.nw p2 (by rw [l5]; exact fun z => nomatch z) f42 p2p
          refine ⟨p2, _, _, rfl, rfl, l6, szl (by have := dpA_len da; omega), ?_⟩
          generalize e7 : upd _ p2 _ = H7
          obtain ⟨s7, o7⟩ := set_of e7
          clear e7
          refine ⟨_, rfl, _, rfl, _, _, rfl, rfl, ?_⟩
          have g56 := g5.trans g6
          refine ⟨F6, ds ++ [d6], vs ++ [va], rest - sn, used + sn, some vi, some (.int (1 + sh)), ?_, ⟨g56.ff, set_ex g56.fh f62 o7, g56.nw, fun b o e hb => by rw [o7 b (ne_of_none e nH2)]; exact g56.kp b o e hb⟩, f6, f62, s7, dpA_app (dpA_ex g6.ff da) (.cons dva .nil), .snoc sbs sba, by omega, (by simp; omega), (fun _ => by simp), ?_⟩
          · have e : (rest : Int) - (1 + sh) = ((rest - sn : Nat) : Int) := by omega
            rw [← e] <;> rfl
          · exact (s6.kp fun o h => by rw [o7 p p2p.symm]; exact h).up (by omega)
        · have h5 : rest = 0 := by have := of_decide_eq_false h5; omega
          refine ⟨F4, ds, vs, rest, used, _, _, rfl, g4, f4, f42, l4, da, sbs, hu, by omega, fun _ => ?_, s4.up (by omega)⟩
          rcases Nat.eq_zero_or_pos i with z | z
          · subst z
            have := sbs_nil sbs (List.eq_nil_of_length_eq_zero (by omega))
            omega
          · exact hne z
      rintro σ' H4 ⟨F4, ds, vs, rest, used, o8, o9, rfl, g4, f4, f42, l4, da, sbs, hu, hdl, hne, s4⟩
      have hdl : ds.length ≤ cn := hdl
      refine ⟨_, rfl, p2, vs, rfl, .inl ⟨Evl.sq_of l4, ?_⟩⟩
      intro p8 n8
      generalize e8 : upd _ p8 _ = H8
      obtain ⟨x8, s8, o8⟩ := new_of e8 n8
      clear e8
      refine ⟨sz (by simp), ?_⟩
      intro p9 n9
      generalize e9 : upd _ p9 _ = H9
      obtain ⟨x9, s9, o9⟩ := new_of e9 n9
      clear e9
      have p8p : p ≠ p8 := fun e => by obtain ⟨_, _, _, h, _⟩ := s4; rw [← e, h] at n8; cases n8
      have g8 := g4.trans (Gr.frz g4.fh n8 s8 o8)
      have hm9 : m + 2 + cn + 8 * used ≤ m + 8 * (rr + 1) := by omega
      exact fin (m' := m + 2 + cn + 8 * used) (ds := [.str "seq", .tuple ds]) g8 (by rw [upd_ne p8p]; exact f4) n9 s9 o9 (s4.kp fun o h => x8 _ _ h) hm9 (.cons (.str _) (.cons (.tup (Evl.st_of upd_same) (dpA_ex (exu (Evl.Ex.refl _) (ex_none g4.fh n8)) da)) .nil)) ((sb_seq hbl (hne (show 1 ≤ cn by omega)) (by omega) sbs).up (by omega) (Nat.le_refl _))
    refine ⟨_, rfl, _, _, rfl, rfl, _, rfl, itF (decide_eq_false (show ¬ ((rr + 1 : Nat) : Int) < 3 by omega)) ?_⟩
    refine ⟨_, rfl, _, _, rfl, rfl, _, rfl, ite_of (fun h9 => ?_) (fun h9 => ?_)⟩
    · refine ⟨sz (by simp), ?_⟩
      intro p2 n2
      generalize e2 : upd _ p2 _ = H2
      obtain ⟨x2, s2, o2⟩ := new_of e2 n2
      clear e2
      refine ⟨_, rfl, _, _, rfl, rfl, _, _, rfl, ?_⟩
      have p2p : p2 ≠ p := fun z => by obtain ⟨_, _, _, h, _⟩ := s1; rw [z, h] at n2; cases n2
      have nH2 : H p2 = none := by
        cases z : H p2 with
        | none => rfl
        | some o => rw [o1 p2 o p2p z] at n2; cases n2
      refine ⟨_, rfl, p, m + 1, 4, rfl, s1.kp fun o h => x2 _ _ h, by omega, by decide, by decide, fun c H3 c0 c1 s3 o3 => ?_⟩
      have g2 := g1.trans (Gr.new g1.fh x2)
      have g3 := g2.trans (gr_kp g2.fh fp o3)
      have l3 := o3 p2 _ p2p s2
      refine ⟨_, _, rfl, rfl, _, rfl, (by omega), (by omega), ?_⟩
      obtain ⟨cn, hcn⟩ : ∃ cn : Nat, ((1 : Int) + c).toNat = cn := ⟨_, rfl⟩
      rw [hcn]
      refine for_it (walk_range (lo := 0) (n := cn)) (fun i σ' H' => ∃ (F' : Hp) (ds : List PyData) (vs : List V) (rest used : Nat) (o8 o9 : Option V), σ' = [some (.ref p), some (.int ((rr + 1 : Nat) : Int)), some (.int ((dm + 1 : Nat) : Int)), some (.int (loops : Int)), some (.int (blocks : Int)), some (.int v), some (.ref p2), some (.int (rest : Int)), o8, o9, none, none] ∧ Gr (fun b => b = p) F H F' H' ∧ F' p = none ∧ F' p2 = none ∧ H' p2 = some (.lst vs) ∧ DpAll K F' vs ds ∧ SBs dm loops blocks used ds ∧ used + rest = rr ∧ ds.length ≤ i ∧ (1 ≤ i → ds ≠ []) ∧ SrcB H' p (m + 2 + i + 8 * used)) ?_ ?_ ?_ ?_
      · exact ⟨F, [], [], rr, 0, _, _, (by have e : ((rr + 1 : Nat) : Int) - 1 = (rr : Int) := by omega
                                           rw [← e] <;> rfl), g3, fp, ex_none g1.fh n2, l3, .nil, .nil, by omega, Nat.le_refl _, fun z => absurd z (by decide), s3.up (by omega)⟩
      · exact fun _ _ _ _ _ => True.intro
      · rintro i vi σ' Ha H4 hi ⟨F4, ds, vs, rest, used, o8, o9, rfl, g4, f4, f42, l4, da, sbs, hu, hdl, hne, s4⟩ ⟨rfl, _⟩
        have hi : i < cn := hi
        have i4 : i < 4 := by omega
        refine ⟨_, rfl, _, _, rfl, rfl, _, rfl, ite_of (fun h5 => ?_) (fun h5 => ?_)⟩
        · have h5 : 0 < rest := by have := of_decide_eq_true h5; omega
          refine ⟨_, rfl, _, rfl, p, _, _, rfl, s4, by omega, by omega, by omega, fun sh H5 sh0 sh1 s5 o5 => ?_⟩
          obtain ⟨sn, hsn⟩ : ∃ sn : Nat, (1 : Int) + sh = (sn : Int) := ⟨(1 + sh).toNat, by omega⟩
          have g5 := g4.trans (gr_kp g4.fh f4 o5)
          have l5 := o5 p2 _ p2p l4
          refine ⟨_, _, rfl, rfl, ?_⟩
          refine ⟨_, rfl, Or.inl ⟨rfl, _, Evl.sq_of l5⟩, _, rfl, _, rfl, _, rfl, _, _, rfl, rfl, _, rfl, _, rfl, ?_⟩
          refine rec_ (rm := sn) (lp := loops) (bk := blocks) hsn edm rfl rfl (by omega) g5 f4 s5 (by omega) (by omega) (by omega) (by omega) hbl fun F6 H6 va d6 g6 f6 s6 dva sba => ?_
          have l6 := g6.kp p2 _ l5 p2p
          have f62 : F6 p2 = none := g6.nw p2 (by rw [l5]; exact fun z => nomatch z) f42 p2p
          refine ⟨p2, _, _, rfl, rfl, l6, szl (by have := dpA_len da; omega), ?_⟩
          generalize e7 : upd _ p2 _ = H7
          obtain ⟨s7, o7⟩ := set_of e7
          clear e7
          refine ⟨_, rfl, _, rfl, _, _, rfl, rfl, ?_⟩
          have g56 := g5.trans g6
          refine ⟨F6, ds ++ [d6], vs ++ [va], rest - sn, used + sn, some vi, some (.int (1 + sh)), ?_, ⟨g56.ff, set_ex g56.fh f62 o7, g56.nw, fun b o e hb => by rw [o7 b (ne_of_none e nH2)]; exact g56.kp b o e hb⟩, f6, f62, s7, dpA_app (dpA_ex g6.ff da) (.cons dva .nil), .snoc sbs sba, by omega, (by simp; omega), (fun _ => by simp), ?_⟩
          · have e : (rest : Int) - (1 + sh) = ((rest - sn : Nat) : Int) := by omega
            rw [← e] <;> rfl
          · exact (s6.kp fun o h => by rw [o7 p p2p.symm]; exact h).up (by omega)
        · have h5 : rest = 0 := by have := of_decide_eq_false h5; omega
          refine ⟨F4, ds, vs, rest, used, _, _, rfl, g4, f4, f42, l4, da, sbs, hu, by omega, fun _ => ?_, s4.up (by omega)⟩
          rcases Nat.eq_zero_or_pos i with z | z
          · subst z
            have := sbs_nil sbs (List.eq_nil_of_length_eq_zero (by omega))
            omega
          · exact hne z
      rintro σ' H4 ⟨F4, ds, vs, rest, used, o8, o9, rfl, g4, f4, f42, l4, da, sbs, hu, hdl, hne, s4⟩
      have hdl : ds.length ≤ cn := hdl
      refine ⟨_, rfl, p2, vs, rfl, .inl ⟨Evl.sq_of l4, ?_⟩⟩
      intro p8 n8
      generalize e8 : upd _ p8 _ = H8
      obtain ⟨x8, s8, o8⟩ := new_of e8 n8
      clear e8
      refine ⟨sz (by simp), ?_⟩
      intro p9 n9
      generalize e9 : upd _ p9 _ = H9
      obtain ⟨x9, s9, o9⟩ := new_of e9 n9
      clear e9
      have p8p : p ≠ p8 := fun e => by obtain ⟨_, _, _, h, _⟩ := s4; rw [← e, h] at n8; cases n8
      have g8 := g4.trans (Gr.frz g4.fh n8 s8 o8)
      have hm9 : m + 2 + cn + 8 * used ≤ m + 8 * (rr + 1) := by omega
      exact fin (m' := m + 2 + cn + 8 * used) (ds := [.str "seq", .tuple ds]) g8 (by rw [upd_ne p8p]; exact f4) n9 s9 o9 (s4.kp fun o h => x8 _ _ h) hm9 (.cons (.str _) (.cons (.tup (Evl.st_of upd_same) (dpA_ex (exu (Evl.Ex.refl _) (ex_none g4.fh n8)) da)) .nil)) ((sb_seq hbl (hne (show 1 ≤ cn by omega)) (by omega) sbs).up (by omega) (Nat.le_refl _))
    have hr3 : 3 ≤ rr + 1 := by omega
    refine ⟨_, rfl, _, rfl, _, _, rfl, rfl, p, m + 1, _, rfl, s1, by omega, (by show (0 : Int) < ((rr + 1 : Nat) : Int) - 2; omega), (by show ((rr + 1 : Nat) : Int) - 2 < _; omega), fun sh H2 sh0 sh1 s2 o2 => ?_⟩
    have g2 := g1.trans (gr_kp g1.fh fp o2)
    obtain ⟨sn, hsn⟩ : ∃ sn : Nat, (1 : Int) + sh = (sn : Int) := ⟨(1 + sh).toNat, by omega⟩
    refine ⟨_, _, rfl, rfl, ?_⟩
    refine ⟨_, rfl, _, rfl, _, rfl, _, _, rfl, rfl, _, rfl, _, rfl, ?_⟩
    have sh1 : sh < ((rr + 1 : Nat) : Int) - 2 := sh1
    refine rec_ (rm := sn) (lp := loops) (bk := blocks) hsn edm rfl rfl (by omega) g2 fp s2 (by omega) (by omega) (by omega) (by omega) hbl fun F3 H3 va da g3 f3 s3 dva sba => ?_
    have g23 := g2.trans g3
    have eo : ((rr + 1 : Nat) : Int) - 1 - (1 + sh) = ((rr - sn : Nat) : Int) := by omega
    by_cases h7 : v < 7 ∧ blocks < 25
    · refine ⟨_, rfl, _, _, rfl, rfl, _, rfl, itT (decide_eq_true h7.1) ?_⟩
      refine ⟨_, rfl, _, _, rfl, rfl, _, rfl, itT (decide_eq_true (show (blocks : Int) < 25 by omega)) ?_⟩
      refine ⟨_, rfl, _, rfl, _, rfl, _, _, rfl, rfl, _, rfl, _, _, rfl, rfl, _, rfl, _, _, rfl, rfl, _, rfl, _, rfl, _, _, rfl, rfl, ?_⟩
      refine rec_ (rm := rr - sn) (lp := loops) (bk := blocks + 1) eo edm rfl (by omega) (by omega) g23 f3 s3 (by omega) (by omega) (by omega) (by omega) (by omega) fun F4 H4 vb db g4 f4 s4 dvb sbb => ?_
      refine ⟨sz (by simp), ?_⟩
      intro p5 n5
      generalize e5 : upd _ p5 _ = H5
      obtain ⟨x5, s5, o5⟩ := new_of e5 n5
      clear e5
      exact fin (g23.trans g4) f4 n5 s5 o5 s4 (by omega) (.cons (.str _) (.cons (dp_ex g4.ff dva) (.cons dvb .nil))) ((sb_fin (by omega) sba sbb).up (by omega) (Nat.le_refl _))
    by_cases h7v : v < 7
    · refine ⟨_, rfl, _, _, rfl, rfl, _, rfl, itT (decide_eq_true h7v) ?_⟩
      refine ⟨_, rfl, _, _, rfl, rfl, _, rfl, itF (decide_eq_false (show ¬ (blocks : Int) < 25 by omega)) ?_⟩
      refine ⟨_, rfl, _, rfl, _, _, rfl, rfl, _, rfl, _, _, rfl, rfl, _, rfl, _, _, rfl, rfl, _, rfl, _, rfl, ?_⟩
      refine rec_ (rm := rr - sn) (lp := loops) (bk := blocks) eo edm rfl rfl (by omega) g23 f3 s3 (by omega) (by omega) (by omega) (by omega) hbl fun F4 H4 vb db g4 f4 s4 dvb sbb => ?_
      refine ⟨_, rfl, rfl, _, rfl, ite_of (fun h8 => ?_) (fun h8 => ?_)⟩
      · refine ⟨_, rfl, _, rfl, sz (by simp), ?_⟩
        intro p5 n5
        generalize e5 : upd _ p5 _ = H5
        obtain ⟨x5, s5, o5⟩ := new_of e5 n5
        clear e5
        exact fin (g23.trans g4) f4 n5 s5 o5 s4 (by omega) (.cons (.str _) (.cons (dp_ex g4.ff dva) (.cons dvb .nil))) ((sb_try hbl sba sbb).up (by omega) (Nat.le_refl _))
      · refine ⟨_, rfl, p, _, rfl, s4, by omega, fun H5 nm hnm s5 o5 => ?_⟩
        have g5 := (g23.trans g4).trans (gr_kp g4.fh f4 o5)
        refine ⟨_, rfl, _, rfl, sz (by simp), ?_⟩
        intro p6 n6
        generalize e6 : upd _ p6 _ = H6
        obtain ⟨x6, s6, o6⟩ := new_of e6 n6
        clear e6
        exact fin g5 f4 n6 s6 o6 s5 (by omega) (.cons (.str _) (.cons (.str _) (.cons (dp_ex g4.ff dva) (.cons dvb .nil)))) ((sb_if hnm hbl sba sbb).up (by omega) (Nat.le_refl _))
    · refine ⟨_, rfl, _, _, rfl, rfl, _, rfl, itF (decide_eq_false h7v) ?_⟩
      refine ⟨_, rfl, _, rfl, _, _, rfl, rfl, _, rfl, _, _, rfl, rfl, _, rfl, _, _, rfl, rfl, _, rfl, _, rfl, ?_⟩
      refine rec_ (rm := rr - sn) (lp := loops) (bk := blocks) eo edm rfl rfl (by omega) g23 f3 s3 (by omega) (by omega) (by omega) (by omega) hbl fun F4 H4 vb db g4 f4 s4 dvb sbb => ?_
      refine ⟨_, rfl, rfl, _, rfl, ite_of (fun h8 => ?_) (fun h8 => ?_)⟩
      · refine ⟨_, rfl, _, rfl, sz (by simp), ?_⟩
        intro p5 n5
        generalize e5 : upd _ p5 _ = H5
        obtain ⟨x5, s5, o5⟩ := new_of e5 n5
        clear e5
        exact fin (g23.trans g4) f4 n5 s5 o5 s4 (by omega) (.cons (.str _) (.cons (dp_ex g4.ff dva) (.cons dvb .nil))) ((sb_try hbl sba sbb).up (by omega) (Nat.le_refl _))
      · refine ⟨_, rfl, p, _, rfl, s4, by omega, fun H5 nm hnm s5 o5 => ?_⟩
        have g5 := (g23.trans g4).trans (gr_kp g4.fh f4 o5)
        refine ⟨_, rfl, _, rfl, sz (by simp), ?_⟩
        intro p6 n6
        generalize e6 : upd _ p6 _ = H6
        obtain ⟨x6, s6, o6⟩ := new_of e6 n6
        clear e6
        exact fin g5 f4 n6 s6 o6 s5 (by omega) (.cons (.str _) (.cons (.str _) (.cons (dp_ex g4.ff dva) (.cons dvb .nil)))) ((sb_if hnm hbl sba sbb).up (by omega) (Nat.le_refl _))
theorem ok_stmB (T:Tx w h K mg) (n:Nat):Ok P w K mg base (n + 5) ("_law_statement",none) ["_law_source_here","_law_room","_law_deep","_law_loops","_law_blocks"] (sp_stmB K n):=by
 induction n using Nat.strongRecOn with
 | ind n ih=>exact ok_law_statement n ih T
end
end
end Fc
set_option maxRecDepth 100000
set_option maxHeartbeats 4000000
namespace FcT
open PySem PySem.Spec PyProof.Rows L2
def fwd (m:Nat):Nat→Nat→Nat
 | 0,x=>x
 | k + 1,x=>fwd m k ((x * 5 + 1) % (m + 1))
theorem fwd_add (m:Nat):∀ (a k x:Nat),fwd m (a + k) x=fwd m k (fwd m a x)
 | 0,k,x=>by rw [Nat.zero_add]<;>rfl
 | a + 1,k,x=>by
  rw [show a + 1 + k=(a + k) + 1 by omega]
  exact fwd_add m a k _
theorem fwd_lcg (m i:Nat):∀ k,lcgI m i k=fwd m k i
 | 0=>rfl
 | k + 1=>by
  rw [fwd_add m k 1 i,← fwd_lcg m i k]<;>rfl
def marks (m:Nat):Nat→Nat→Nat→Nat×Nat
 | 0,x,acc=>(x,acc)
 | k + 1,x,acc=>marks m k ((x * 5 + 1) % (m + 1)) (acc ||| (1 <<< x))
theorem marks_end (m:Nat):∀ (k x acc:Nat),(marks m k x acc).1=fwd m k x
 | 0,_,_=>rfl
 | k + 1,x,acc=>marks_end m k _ _
theorem marks_hit (m j:Nat):∀ (k x acc:Nat),(marks m k x acc).2.testBit j=true→acc.testBit j=true∨∃ b,b<k∧fwd m b x=j
 | 0,_,_,h=>.inl h
 | k + 1,x,acc,h=>by
  rcases marks_hit m j k _ _ h with z | ⟨b,hb,e⟩
  ·rw [Nat.testBit_or,Bool.or_eq_true] at z
   rcases z with z | z
   ·exact .inl z
   ·refine .inr ⟨0,Nat.succ_pos _,?_⟩
    rw [Nat.testBit_shiftLeft] at z
    simp only [Bool.and_eq_true,decide_eq_true_eq] at z
    obtain ⟨z1,z2⟩:=z
    have:j - x=0:=by
     refine Classical.byContradiction fun n=>?_
     obtain ⟨d,hd⟩:∃ d,j - x=d + 1:=⟨j - x - 1,by omega⟩
     rw [hd,Nat.testBit_succ] at z2
     simp at z2
    show x=j
    omega
  ·exact .inr ⟨b + 1,Nat.succ_lt_succ hb,e⟩
def Mk (m:Nat):Prop:=m=7∨m=31∨m=127∨m=511∨m=2047
theorem mk_le {m:Nat} (h:Mk m):m≤2047:=by rcases h with e | e | e | e | e<;>omega
theorem mk_odd {m:Nat} (h:Mk m):m % 2=1:=by rcases h with e | e | e | e | e<;>subst e<;>rfl
theorem mk_marks {m:Nat} (h:Mk m):marks m (m + 1) 0 0=(0,2 ^ (m + 1) - 1):=by
 rcases h with e | e | e | e | e<;>subst e<;>decide +kernel
theorem mk_hit {m:Nat} (h:Mk m) {j:Nat} (hj:j≤m):∃ b,b≤m∧fwd m b 0=j:=by
 have e:=congrArg Prod.snd (mk_marks h)
 have t:(marks m (m + 1) 0 0).2.testBit j=true:=by
  rw [e]
  show (2 ^ (m + 1) - 1).testBit j=true
  rw [Nat.testBit_two_pow_sub_one]
  exact decide_eq_true (by omega)
 rcases marks_hit m j _ _ _ t with z | ⟨b,hb,e⟩
 ·rw [Nat.zero_testBit] at z;cases z
 ·exact ⟨b,by omega,e⟩
theorem mk_back {m:Nat} (h:Mk m):fwd m (m + 1) 0=0:=by
 have:=congrArg Prod.fst (mk_marks h)
 rw [marks_end] at this
 exact this
theorem fwd_all {m:Nat} (h:Mk m) {i j:Nat} (hi:i≤m) (hj:j≤m):∃ k,k≤m∧fwd m k i=j:=by
 obtain ⟨a,ha,ea⟩:=mk_hit h hi
 obtain ⟨b,hb,eb⟩:=mk_hit h hj
 by_cases c:a≤b
 ·refine ⟨b - a,by omega,?_⟩
  rw [← ea,← fwd_add,show a + (b - a)=b by omega,eb]
 ·refine ⟨m + 1 + b - a,by omega,?_⟩
  rw [← ea,← fwd_add,show a + (m + 1 + b - a)=m + 1 + b by omega,fwd_add,mk_back h,eb]
theorem runs_all {m:Nat} (h:Mk m) (x:Int) {j:Nat} (hj:j≤m):∃ n,n≤m + 12∧runI m (SetTable.bits x) n=j:=by
 obtain ⟨k,hk,e⟩:=fwd_all h (runI_le m (SetTable.bits x) 12) hj
 refine ⟨12 + k,by omega,?_⟩
 rw [runI_tail (bits_lt x),fwd_lcg,e]
theorem way_all {m:Nat} (h:Mk m) (x:Int) {j:Nat} (hj:j≤m):∃ k,k<10 * SetTable.turns m∧way m x k=j:=by
 obtain ⟨n,hn,e⟩:=runs_all h x hj
 obtain ⟨k,hk,ek⟩:=run_nth m (SetTable.bits x) n
 refine ⟨k,by unfold SetTable.turns;omega,?_⟩
 show (nth m (runAt m (SetTable.bits x % (m + 1)) (SetTable.bits x)) k).j=j
 rw [ek]
 exact e
theorem way_in {m:Nat} (x:Int) (k:Nat):way m x k≤m:=by
 have b:SetTable.bits x % (m + 1)≤m:=Nat.le_of_lt_succ (Nat.mod_lt _ (Nat.succ_pos _))
 obtain ⟨b1,b2,_⟩:=runEnd_bd b
 have:=nth_in (m:=m) k (runAt m (SetTable.bits x % (m + 1)) (SetTable.bits x)) (by
  show SetTable.bits x % (m + 1) + (SetTable.runEnd m (SetTable.bits x % (m + 1)) - SetTable.bits x % (m + 1))≤m
  omega)
 show (nth m (runAt m (SetTable.bits x % (m + 1)) (SetTable.bits x)) k).j≤m
 omega
structure Tb (t:SetTable) (hs:List Int):Prop where
 ris:Ris t.place.toList
 dm:t.dummies=#[]
 sz:t.place.size=hs.length
 mkm:Mk t.mask
 reach:∀ (i:Nat) (x:Int) (j:Nat),hs[i]?=some x→t.place.toList[i]?=some j→∃ k,way t.mask x k=j∧∀ k',k'<k→way t.mask x k'∈t.place.toList
section
variable {t:SetTable} {hs:List Int}
theorem Tb.stop (T:Tb t hs) (hl:hs.length≤t.mask) (x:Int):∃ k,k<10 * SetTable.turns t.mask∧way t.mask x k ∉ t.place.toList∧∀ k',k'<k→way t.mask x k'∈t.place.toList:=by
 obtain ⟨j,j1,j2⟩:=st_missing t.place.toList (t.mask + 1) (by rw [Array.length_toList,T.sz];omega)
 obtain ⟨k,k1,k2⟩:=way_all T.mkm x (Nat.le_of_lt_succ j1)
 obtain ⟨n,n1,n2,n3⟩:=st_least (p:=fun k=>way t.mask x k ∉ t.place.toList) k (by rw [k2];exact j2)
 exact ⟨n,Nat.lt_of_le_of_lt n1 k1,n2,fun k' hk'=>Classical.byContradiction (n3 k' hk')⟩
theorem Tb.ahead (T:Tb t hs) {x:Int} {n i j:Nat} (hn:way t.mask x n ∉ t.place.toList) (hi:hs[i]?=some x) (hj:t.place.toList[i]?=some j):∃ k,k<n∧way t.mask x k=j:=by
 obtain ⟨k,k1,k2⟩:=T.reach i x j hi hj
 have mj:=List.mem_of_getElem? hj
 refine ⟨k,Classical.byContradiction fun c=>?_,k1⟩
 by_cases z:k=n
 ·subst z;rw [k1] at hn;exact hn mj
 ·exact hn (k2 n (by omega))
theorem Tb.put (T:Tb t hs) {x:Int} {n:Nat} (hn:way t.mask x n ∉ t.place.toList) (hb:∀ k,k<n→way t.mask x k∈t.place.toList) :
  ∃ p,p≤hs.length∧(t.put (way t.mask x n)).2=p∧Tb (t.put (way t.mask x n)).1 (hs.take p++x::hs.drop p)∧(t.put (way t.mask x n)).1.mask=t.mask∧(t.put (way t.mask x n)).1.led=t.led∧(t.put (way t.mask x n)).1.fill=hs.length + 1:=by
 generalize hj:way t.mask x n=j at hn
 have cut:=(below_cut T.ris j).1
 have lt:t.place.toList.length=hs.length:=by rw [Array.length_toList];exact T.sz
 have lp:SetTable.below t.place j≤hs.length:=by rw [← T.sz];exact cut
 have pp:=put_place t j
 have dm:=put_dm T.dm j
 have sz:(t.put j).1.place.size=hs.length + 1:=by rw [← Array.length_toList,pp,len_ins _ (by omega),lt]
 have keep:∀ y∈t.place.toList,y∈(t.put j).1.place.toList:=fun y hy=>by rw [pp];exact mem_ins.mpr (.inr hy)
 refine ⟨SetTable.below t.place j,lp,rfl,⟨ris_insert T.ris fun e=>hn (List.mem_of_getElem? (by rw [Array.getElem?_toList];exact e)),dm,by rw [sz,len_ins _ lp],T.mkm,fun i y q e1 e2=>?_⟩,rfl,rfl,?_⟩
 ·rw [tins_get _ lp] at e1
  rw [pp,tins_get _ (by omega)] at e2
  show ∃ k,way t.mask y k=q∧∀ k',k'<k→way t.mask y k'∈(t.put j).1.place.toList
  have old:∀ i,hs[i]?=some y→t.place.toList[i]?=some q→∃ k,way t.mask y k=q∧∀ k',k'<k→way t.mask y k'∈(t.put j).1.place.toList:=fun i a b=>by
   obtain ⟨k,k1,k2⟩:=T.reach i y q a b
   exact ⟨k,k1,fun k' h=>keep _ (k2 k' h)⟩
  by_cases c:i<SetTable.below t.place j
  ·rw [if_pos c] at e1 e2;exact old i e1 e2
  ·rw [if_neg c] at e1 e2
   by_cases d:i=SetTable.below t.place j
   ·rw [if_pos d] at e1 e2
    cases e1
    cases e2
    exact ⟨n,hj,fun k h=>keep _ (hb k h)⟩
   ·rw [if_neg d] at e1 e2;exact old (i - 1) e1 e2
 ·show (t.put j).1.place.size + (t.put j).1.dummies.size=_
  rw [sz,dm]<;>rfl
end
theorem slot_free {m:Nat} (h:Mk m) (ow:Array (Option Nat)) (x:Int) {j:Nat} (hj:j≤m) (hf:oAt ow j=none) :
  ∃ n,SetTable.layClean.free m ow (SetTable.turns m) (SetTable.bits x % (m + 1)) (SetTable.bits x)=some (way m x n)∧oAt ow (way m x n)=none∧∀ k,k<n→oAt ow (way m x k)≠none:=by
 obtain ⟨r,r1,r2⟩:=runs_all h x hj
 have at_:way m x (off m (SetTable.bits x % (m + 1)) (SetTable.bits x) r)=j:=by
  show SetTable.Probe.j (nth m (runAt m (SetTable.bits x % (m + 1)) (SetTable.bits x)) (off m (SetTable.bits x % (m + 1)) (SetTable.bits x) r))=j
  rw [nth_off,itL_run]
  exact r2
 obtain ⟨n,n1,n2,n3⟩:=st_least (p:=fun k=>oAt ow (way m x k)=none) _ (by rw [at_];exact hf)
 refine ⟨n,free_spec m ow (SetTable.turns m) r _ _ n (by unfold SetTable.turns;omega) n1 (fun k hk=>?_) ?_,n2,n3⟩
 ·show (oAt ow (way m x k)).isNone=false
  cases z:oAt ow (way m x k) with
  | none=>exact absurd z (n3 k hk)
  | some _=>rfl
 ·show (oAt ow (way m x n)).isNone=true
  rw [n2]<;>rfl
theorem own_one {m:Nat} (h:Mk m) {done:List Int} {ow:Array (Option Nat)} (W:Own m done ow) (hl:done.length≤m) (x:Int) :
  ∃ j,stepF m (some (ow,done.length)) x=some (ow.setIfInBounds j (some done.length),done.length + 1)∧Own m (done++[x]) (ow.setIfInBounds j (some done.length)):=by
 obtain ⟨ps,p1,p2⟩:=W.ps
 obtain ⟨g,g1,g2⟩:=st_missing ps (m + 1) (by omega)
 have gf:oAt ow g=none:=by
  cases z:oAt ow g with
  | none=>rfl
  | some k=>exact absurd (p2 g (by omega) (by rw [z];exact fun e=>nomatch e)) g2
 obtain ⟨n,n1,n2,n3⟩:=slot_free h ow x (Nat.le_of_lt_succ g1) gf
 have ln:=way_in (m:=m) x n
 refine ⟨way m x n,stepF_some n1,?_⟩
 have here:=oAt_set_self (owner:=ow) (some done.length) (show way m x n<ow.size by rw [W.sz];omega)
 have up:∀ i,oAt ow i≠none→oAt (ow.setIfInBounds (way m x n) (some done.length)) i≠none:=fun i hi=>by
  by_cases c:i=way m x n
  ·rw [c,here];exact fun e=>nomatch e
  ·rw [oAt_set_ne _ c];exact hi
 exact {
  sz:=by rw [Array.size_setIfInBounds];exact W.sz
  at_:=fun j k hj e=>by
   by_cases c:j=way m x n
   ·rw [c,here] at e
    cases e
    exact ⟨x,n,by rw [List.getElem?_append_right (Nat.le_refl _),Nat.sub_self]<;>rfl,c.symm,fun k' hk'=>up _ (n3 k' hk')⟩
   ·rw [oAt_set_ne _ c] at e
    obtain ⟨y,q,q1,q2,q3⟩:=W.at_ j k hj e
    exact ⟨y,q,by rw [List.getElem?_append_left (List.getElem?_eq_some_iff.mp q1).1];exact q1,q2,fun k' hk'=>up _ (q3 k' hk')⟩
  all:=fun k hk=>by
   rw [List.length_append] at hk
   have hk:k<done.length + 1:=hk
   by_cases c:k=done.length
   ·exact ⟨way m x n,ln,by rw [here,c]⟩
   ·obtain ⟨j,hj,e⟩:=W.all k (by omega)
    refine ⟨j,hj,?_⟩
    rw [oAt_set_ne _ (fun z=>by rw [z,n2] at e;cases e)]
    exact e
  ps:=⟨way m x n::ps,by rw [List.length_append,List.length_cons,p1]<;>rfl,fun j hj e=>by
   by_cases c:j=way m x n
   ·rw [c];exact List.mem_cons_self
   ·rw [oAt_set_ne _ c] at e
    exact List.mem_cons_of_mem _ (p2 j hj e)⟩ }
theorem own_all {m:Nat} (h:Mk m):∀ (rest done:List Int) (ow:Array (Option Nat)),Own m done ow→done.length + rest.length≤m →
  ∃ ow' n,rest.foldl (stepF m) (some (ow,done.length))=some (ow',n)∧Own m (done++rest) ow'
 | [],done,ow,W,_=>⟨ow,_,rfl,by rw [List.append_nil];exact W⟩
 | x::rest,done,ow,W,hl=>by
  rw [List.length_cons] at hl
  obtain ⟨j,e,W1⟩:=own_one h W (by omega) x
  have l1:(done++[x]).length=done.length + 1:=by rw [List.length_append]<;>rfl
  obtain ⟨ow',n,e2,W2⟩:=own_all h rest (done++[x]) _ W1 (by omega)
  refine ⟨ow',n,?_,by rw [show done++x::rest=done++[x]++rest by simp];exact W2⟩
  rw [List.foldl_cons,e,← l1]
  exact e2
theorem laid_ok (t:SetTable) {hs:Array Int} {wanted M:Nat} (hw:SetTable.sizeAbove wanted - 1=M) (h:Mk M) (hn:hs.size≤M) :
  ∃ t' order,t.relaid hs wanted=some (t',order)∧order.toList.Perm (List.range hs.size)∧Tb t' (order.toList.map fun i=>hs.getD i 0)∧t'.mask=M∧t'.led=t.led:=by
 obtain ⟨ow,n,e,W⟩:=own_all h hs.toList [] _ (Own.init M) (by rw [Array.length_toList];show 0 + hs.size≤M;omega)
 rw [List.nil_append] at W
 have e1:SetTable.layClean M hs=some ow:=by
  rw [layClean_eq]
  have e:hs.toList.foldl (stepF M) (some (Array.replicate (M + 1) none,0))=some (ow,n):=e
  rw [e]<;>rfl
 have er:t.relaid hs wanted=some (tabOf t M ow,((liveOf M ow).map (·.2)).toArray):=by
  rw [relaid_eq,hw,e1]<;>rfl
 have rl:=ris_live (fun j=>ow.getD j none) (List.range (M + 1)) List.pairwise_lt_range
 have r1:Ris ((liveOf M ow).map (·.1)):=rl.1
 have hz:hs.toList.length=hs.size:=Array.length_toList
 obtain ⟨ps,p1,p2⟩:=W.ps
 have len:(liveOf M ow).length=hs.size:=by
  have a:=nat_nodup_len ((liveOf M ow).map fun q:Nat×Nat=>q.1) ps (List.Pairwise.imp (fun q=>Nat.ne_of_lt q) r1) fun y hy=>by
   obtain ⟨⟨y',k⟩,hq,rfl⟩:=List.mem_map.mp hy
   obtain ⟨b1,b2⟩:=(mem_live W.sz).mp hq
   exact p2 _ b1 (by rw [b2];exact fun z=>nomatch z)
  have b:=nat_nodup_len (List.range hs.size) ((liveOf M ow).map (·.2)) List.nodup_range fun k hk=>by
   obtain ⟨j,b1,b2⟩:=W.all k (by rw [hz];exact List.mem_range.mp hk)
   exact List.mem_map.mpr ⟨(j,k),(mem_live W.sz).mpr ⟨b1,b2⟩,rfl⟩
  rw [List.length_map] at a b
  rw [List.length_range] at b
  omega
 refine ⟨_,_,er,perm_range _ _ (by show ((liveOf M ow).map (·.2)).length=_;rw [List.length_map,len]) (fun k hk=>?_),⟨r1,rfl,?_,h,fun i x j q1 q2=>?_⟩,rfl,rfl⟩
 ·obtain ⟨j,b1,b2⟩:=W.all k (by rw [hz];exact hk)
  exact List.mem_map.mpr ⟨(j,k),(mem_live W.sz).mpr ⟨b1,b2⟩,rfl⟩
 ·show ((liveOf M ow).map (·.1)).toArray.size=(((liveOf M ow).map (·.2)).map fun i=>hs.getD i 0).length
  simp
 ·have q1:(((liveOf M ow).map (·.2)).map fun i=>hs.getD i 0)[i]?=some x:=q1
  have q2:((liveOf M ow).map (·.1))[i]?=some j:=q2
  rw [List.getElem?_map] at q2
  rw [List.getElem?_map,List.getElem?_map] at q1
  obtain ⟨⟨j',k⟩,f1,rfl⟩:=Option.map_eq_some_iff.mp q2
  rw [f1] at q1
  have q1:hs.getD k 0=x:=Option.some.inj q1
  obtain ⟨b1,b2⟩:=(mem_live W.sz).mp (List.mem_of_getElem? f1)
  obtain ⟨y,c,c1,c2,c3⟩:=W.at_ _ _ b1 b2
  have ey:y=x:=by
   rw [← q1,Array.getD_eq_getD_getElem?,← Array.getElem?_toList,c1]<;>rfl
  subst ey
  refine ⟨c,c2,fun k' hk'=>?_⟩
  show way M y k'∈(liveOf M ow).map (·.1)
  cases z:oAt ow (way M y k') with
  | none=>exact absurd z (c3 k' hk')
  | some q=>exact List.mem_map.mpr ⟨(_,q),(mem_live W.sz).mpr ⟨way_in y k',z⟩,rfl⟩
theorem grow_at {m n:Nat} (h:Mk m) (h1:n * 5<m * 3) (h2:(n + 1) * 5 ≥ m * 3) (hn:n + 1≤1228):∃ M,SetTable.sizeAbove (SetTable.grown (n + 1)) - 1=M∧Mk M∧SetTable.sizeAbove (SetTable.grown (n + 1))≤2048∧(n + 1) * 5<M * 3∧m≤M:=by
 have s4:SetTable.sizeAbove (SetTable.grown 5)=32:=by decide +kernel
 have s18:SetTable.sizeAbove (SetTable.grown 19)=128:=by decide +kernel
 have s76:SetTable.sizeAbove (SetTable.grown 77)=512:=by decide +kernel
 have s306:SetTable.sizeAbove (SetTable.grown 307)=2048:=by decide +kernel
 rcases h with e | e | e | e | e
 ·subst e
  obtain rfl:n=4:=by omega
  exact ⟨31,by rw [s4],.inr (.inl rfl),by rw [s4];decide,by decide,by decide⟩
 ·subst e
  obtain rfl:n=18:=by omega
  exact ⟨127,by rw [s18],.inr (.inr (.inl rfl)),by rw [s18];decide,by decide,by decide⟩
 ·subst e
  obtain rfl:n=76:=by omega
  exact ⟨511,by rw [s76],.inr (.inr (.inr (.inl rfl))),by rw [s76];decide,by decide,by decide⟩
 ·subst e
  obtain rfl:n=306:=by omega
  exact ⟨2047,by rw [s306],.inr (.inr (.inr (.inr rfl))),by rw [s306];decide,by decide,by decide⟩
 ·subst e
  omega
end FcT
set_option maxRecDepth 100000
set_option maxHeartbeats 4000000
namespace FcN
open PySem PySem.Spec PyProof.Rows L2
mutual
inductive NkV (K:PySem.W.Frag) (H:Hp):NestedKey→V→Prop
 | num (i:Int):NkV K H (.num i) (.int i)
 | text (x:Str):NkV K H (.text x) (.str x)
 | tup {b:Addr} {vs:List V} {ks:List NestedKey} (h:SqT K H b vs) (r:NkAll K H ks vs):NkV K H (.tup ks) (.ref b)
inductive NkAll (K:PySem.W.Frag) (H:Hp):List NestedKey→List V→Prop
 | nil:NkAll K H [] []
 | cons {k:NestedKey} {v:V} {ks:List NestedKey} {vs:List V} (h:NkV K H k v) (r:NkAll K H ks vs):NkAll K H (k::ks) (v::vs)
end
mutual
theorem NkV.ex {K:PySem.W.Frag} {H H':Hp} (e:∀ c ys,SqT K H c ys→SqT K H' c ys):∀ {k:NestedKey} {v:V},NkV K H k v→NkV K H' k v
 | _,_,.num i=>.num i
 | _,_,.text x=>.text x
 | _,_,.tup h r=>.tup (e _ _ h) (NkAll.ex e r)
theorem NkAll.ex {K:PySem.W.Frag} {H H':Hp} (e:∀ c ys,SqT K H c ys→SqT K H' c ys):∀ {ks:List NestedKey} {vs:List V},NkAll K H ks vs→NkAll K H' ks vs
 | _,_,.nil=>.nil
 | _,_,.cons h r=>.cons (NkV.ex e h) (NkAll.ex e r)
end
def NkT (K:PySem.W.Frag) (H:Hp) (b:Addr) (k:NestedKey):Prop:=NkV K H k (.ref b)∧k.depth≤8
theorem NkT.ex {K:PySem.W.Frag} {H H':Hp} {b:Addr} {k:NestedKey} (h:NkT K H b k) (e:∀ c ys,SqT K H c ys→SqT K H' c ys):NkT K H' b k:=⟨h.1.ex e,h.2⟩
theorem nst_room {A:Around} (hu:A.units + 100<cLine) {prog:Program} {w:World}:(nestedKind prog w).room A.in1:=by
 show A.units + 1 + 8<cLine
 omega
theorem hn_of {k:Nat} {A:Around} (r:Room k A):A.units + 100<cLine:=by have:=r.un;omega
abbrev Ent:=NestedKey×Addr×V
def RelE (p:Ent) (q:NestedKey×Addr×Value):Prop:=p.1=q.1∧p.2.1=q.2.1∧RelV p.2.2 q.2.2
def dN (P:Program) (w:World) (d:Addr) (o:Obj) (xs:List Ent):HO:=.ext fun h=>h.get? d=some o∧(d == sysModules)=false∧xs.length≤sizeLine∧o.ExactDict ∧
 ∃ ys:List (NestedKey×Addr×Value),Paired RelE xs ys∧(∃ es ep,o.data=.dict es ep∧es.toList=ys.map (entryOfKey (nestedKind P w)))∧(ys.map (·.1)).Nodup
def kvs (xs:List Ent):List (NestedKey×V):=xs.map fun x=>(x.1,x.2.2)
def putW (xs:List Ent) (k:NestedKey) (b:Addr) (v:V):List Ent :=
 if (valV (kvs xs) k).isSome=true then xs.map (fun x=>if x.1=k then (x.1,x.2.1,v) else x) else xs++[(k,b,v)]
def KeysT (K:PySem.W.Frag) (H:Hp) (xs:List Ent):Prop:=∀ x∈xs,NkT K H x.2.1 x.1
def ND (P:Program) (w:World) (K:PySem.W.Frag) (H:Hp) (d:Addr) (o:Obj) (xs:List Ent):Prop:=H d=some (dN P w d o xs)∧KeysT K H xs
theorem len_putW (xs:List Ent) (k:NestedKey) (b:Addr) (v:V):(putW xs k b v).length≤xs.length + 1:=by
 unfold putW
 split
 ·rw [List.length_map];omega
 ·rw [List.length_append];simp
theorem keysT_put {K:PySem.W.Frag} {H H':Hp} {xs:List Ent} {k:NestedKey} {b:Addr} {v:V} (h:KeysT K H xs) (hb:NkT K H b k) (e:∀ c ys,SqT K H c ys→SqT K H' c ys):KeysT K H' (putW xs k b v):=by
 intro x hx
 unfold putW at hx
 split at hx
 ·obtain ⟨y,hy,rfl⟩:=List.mem_map.mp hx
  by_cases z:y.1=k
  ·simp only [z,if_true];rw [← z];exact (h y hy).ex e
  ·simp only [z,if_false];exact (h y hy).ex e
 ·rcases List.mem_append.mp hx with hx | hx
  ·exact (h x hx).ex e
  ·obtain rfl:=List.mem_singleton.mp hx
   exact hb.ex e
section
variable {P:Program} {w:World} {H:Hp} {h:Heap} {d:Addr} {o:Obj} {xs:List Ent}
theorem dw_ok {ys:List (NestedKey×Addr×Value)} {es:Array DictEntry} {ep:Nat} (h1:h.get? d=some o) (h2:(d == sysModules)=false) (h3:xs.length≤sizeLine) (h4:o.ExactDict) (h5:Paired RelE xs ys) (h6:o.data=.dict es ep)
  (h7:es.toList=ys.map (entryOfKey (nestedKind P w))) (h8:(ys.map (·.1)).Nodup):ObjOk P w H h d (dN P w d o xs) :=
 ⟨⟨h1,h2,h3,h4,ys,h5,⟨es,ep,h6,h7⟩,h8⟩,⟨o,h1⟩,fun _ _ z k=>⟨k _ z.1,z.2⟩⟩
theorem dw_of (ok:HOk P w H h) (e:H d=some (dN P w d o xs)):h.get? d=some o∧(d == sysModules)=false∧xs.length≤sizeLine∧o.ExactDict ∧
  ∃ ys:List (NestedKey×Addr×Value),Paired RelE xs ys∧(∃ es ep,o.data=.dict es ep∧es.toList=ys.map (entryOfKey (nestedKind P w)))∧(ys.map (·.1)).Nodup :=
 (show ObjOk P w H h d (dN P w d o xs) from ok d _ e).1
theorem relE_val {ys:List (NestedKey×Addr×Value)} (r:Paired RelE xs ys) (k:NestedKey):RelO (valV (kvs xs) k) ((atKey ys k).map (·.2)):=by
 induction r with
 | nil=>exact True.intro
 | @cons p q ps qs z t ih =>
  obtain ⟨z1,z2,z3⟩:=z
  by_cases e:p.1=k
  ·have e':q.1=k:=z1.symm.trans e
   have b:atKey (q::qs) k=some q.2:=by simp [atKey,List.find?_cons,e']
   rw [show kvs (p::ps)=(p.1,p.2.2)::kvs ps from rfl,valV_pos (p:=(p.1,p.2.2)) e,b];exact z3
  ·have e':¬ q.1=k:=fun y=>e (z1.trans y)
   have b:atKey (q::qs) k=atKey qs k:=by simp [atKey,List.find?_cons,e']
   rw [show kvs (p::ps)=(p.1,p.2.2)::kvs ps from rfl,valV_neg (p:=(p.1,p.2.2)) e,b];exact ih
theorem relE_put {ys:List (NestedKey×Addr×Value)} (r:Paired RelE xs ys) (k:NestedKey) (b:Addr) {v:V} {u:Value} (rv:RelV v u):Paired RelE (putW xs k b v) (storedH ys k b u):=by
 have e:(valV (kvs xs) k).isSome=(atKey ys k).isSome:=by rw [(relE_val r k).isSome_eq,Option.isSome_map]
 unfold putW storedH
 rw [e]
 by_cases q:(atKey ys k).isSome=true
 ·rw [if_pos q,if_pos q]
  clear e q
  induction r with
  | nil=>exact .nil
  | @cons p q ps qs z t ih =>
   rw [List.map_cons,List.map_cons]
   refine .cons ?_ ih
   obtain ⟨z1,z2,z3⟩:=z
   unfold putAt
   by_cases e:p.1=k
   ·rw [if_pos e,if_pos (z1.symm.trans e)];exact ⟨z1,z2,rv⟩
   ·rw [if_neg e,if_neg (fun y=>e (z1.trans y))];exact ⟨z1,z2,z3⟩
 ·rw [if_neg q,if_neg q];exact Paired.snoc r ⟨rfl,rfl,rv⟩
end
section
variable {X:Cx} {pins:List (Addr×Obj)} {σ:L2.St} {H:Hp} {s:Shared} {d b:Addr} {o:Obj} {xs:List Ent} {k:NestedKey} {v:V} {u:Value} {A:Around} {E:Value→Shared→Prop}
mutual
theorem nk_is (I:Inv X pins σ H s):∀ {k:NestedKey} {v:V},NkV X.K H k v→∀ {u:Value},RelV v u→NestedIs s.heap k u
 | _,_,.num i,u,r=>by obtain ⟨t,rfl⟩:=r;exact .int _ _
 | _,_,.text x,u,r=>by obtain ⟨t,rfl⟩:=r;exact .text _ _
 | _,_,.tup h q,u,r=>by
  cases r
  obtain ⟨its,r,⟨ob,h1,h2,n,h3⟩,_⟩:=I.tuple h
  exact .tup h1 h2 h3 (nk_all I q (by simpa using r))
theorem nk_all (I:Inv X pins σ H s):∀ {ks:List NestedKey} {vs:List V},NkAll X.K H ks vs→∀ {us:List Value},Vals vs us→NestedAll s.heap ks us
 | _,_,.nil,us,r=>by cases r;exact .nil
 | _,_,.cons h q,us,r=>by
  cases r with
  | cons a b=>exact .cons (nk_is I h a) (nk_all I q b)
end
theorem key_is (I:Inv X pins σ H s) (e:NkT X.K H b k):(nestedKind X.prog X.w).is s.heap k b:=by
 exact ⟨nk_is I e.1 rfl,e.2⟩
theorem mem_pair {ys:List (NestedKey×Addr×Value)} (r:Paired RelE xs ys):∀ y∈ys,∃ x∈xs,RelE x y:=by
 induction r with
 | nil=>intro y hy;exact nomatch hy
 | @cons p q ps qs z t ih =>
  intro y hy
  rcases List.mem_cons.mp hy with rfl | hy
  ·exact ⟨p,List.mem_cons_self,z⟩
  ·obtain ⟨x,hx,e⟩:=ih y hy
   exact ⟨x,List.mem_cons_of_mem _ hx,e⟩
theorem Inv.way (I:Inv X pins σ H s) (D:ND X.prog X.w X.K H d o xs):s.heap.get? d=some o∧(d == sysModules)=false∧xs.length≤sizeLine∧o.ExactDict ∧
  ∃ (ys:List (NestedKey×Addr×Value)) (es:Array DictEntry) (ep:Nat),Paired RelE xs ys∧o.data=.dict es ep∧es.toList=ys.map (entryOfKey (nestedKind X.prog X.w))∧s.heap.DictOfH (nestedKind X.prog X.w) d ys:=by
 obtain ⟨h1,h2,h3,h4,ys,h5,⟨es,ep,h6,h7⟩,h8⟩:=dw_of I.hok D.1
 refine ⟨h1,h2,h3,h4,ys,es,ep,h5,h6,h7,o,es,ep,h1,h4,h6,h7,fun y hy=>?_,h8⟩
 obtain ⟨x,hx,e1,e2,_⟩:=mem_pair h5 y hy
 have z:=key_is I (D.2 x hx)
 rw [e1,e2] at z
 exact z
theorem w_getItem {Q:Value→Shared→Prop} (hu:A.units + 100<cLine) (I:Inv X pins σ H s) (D:ND X.prog X.w X.K H d o xs) (hb:NkT X.K H b k) (g:valV (kvs xs) k=some v) (h:∀ w' s',Inv X pins σ H s'→RelV v w'→Q w' s') :
  wpAny (model X.prog X.w) A (getItem (.ref d) (.ref b)) Q E s:=by
 obtain ⟨_,hd,_,_,ys,es,ep,rel,_,_,dd⟩:=Inv.way I D
 obtain ⟨w',hw,rw'⟩:=RelO.some_of (v:=v) (o:=(atKey ys k).map (·.2)) (by rw [← g];exact relE_val rel k)
 obtain ⟨p,hp,hp2⟩:=Option.map_eq_some_iff.mp hw
 refine wpAny_getItem_heap (nst_room hu) (key_is I hb) dd hp ?_
 rw [hp2]
 exact h w' _ (I.tok _) rw'
theorem w_some (I:Inv X pins σ H s) (D:ND X.prog X.w X.K H d o xs) {ys:List (NestedKey×Addr×Value)} (rel:Paired RelE xs ys) (k:NestedKey):(atKey ys k).isSome=(valV (kvs xs) k).isSome:=by
 have q:=(relE_val rel k).isSome_eq
 rw [Option.isSome_map] at q
 exact q.symm
theorem dw_empty (h:Heap) (hb:sysModules<h.objs.size):ObjOk X.prog X.w H (h.push { cls:=.type "dict",data:=.dict #[] }) h.objs.size (dN X.prog X.w h.objs.size { cls:=.type "dict",data:=.dict #[] } []) :=
 dw_ok (ys:=[]) (es:=#[]) (ep:=0) (Heap.get?_push_size _ rfl) (beq_eq_false_iff_ne.mpr (Ne.symm (Nat.ne_of_lt hb))) (Nat.zero_le _) ⟨rfl,rfl,rfl⟩ .nil rfl rfl List.nodup_nil
end
end FcN
set_option maxRecDepth 100000
set_option maxHeartbeats 4000000
namespace FcN
open PySem PySem.Spec PyProof.Rows L2
section
variable {X:Cx} {pins:List (Addr×Obj)} {σ:L2.St} {H:Hp} {s:Shared}
theorem dict_ep {o:Obj} {es es':Array DictEntry} {ep ep':Nat} (a:o.data=.dict es ep) (b:o.data=.dict es' ep'):es'=es∧ep'=ep:=by
 rw [a] at b
 injection b with b1 b2
 exact ⟨b1.symm,b2.symm⟩
end
section
variable {P:Program} {w:World} {K:PySem.W.Frag} {tg:Expr} {d:Addr} {o:Obj} {es:Array DictEntry} {ep:Nat} {xs:List Ent}
end
section
variable {X:Cx} {tg e:Expr} {td:TE}
end
section
variable {P:Program} {w:World} {d:Addr} {o:Obj} {xs:List Ent}
end
section
variable {X:Cx}
theorem relE_keys {xs:List Ent} {ys:List (NestedKey×Addr×Value)} (r:Paired RelE xs ys):ys.map (·.1)=xs.map (·.1):=by
 induction r with
 | nil=>rfl
 | @cons p q ps qs z t ih=>rw [List.map_cons,List.map_cons,ih,z.1]
end
section
variable {X:Cx}
variable {o e:Expr} {es:List Expr} {to:TE} {t:TA} {name:Str} {apos cpos:Pos} {id:String} {r:V→List V→Hp→VK→Prop}
end
end FcN
set_option maxRecDepth 100000
set_option maxHeartbeats 4000000
namespace FcT
open PySem PySem.Spec PyProof.Rows L2
section
variable {P:Program} {w:World} {A:Around} {E:Value→Shared→Prop} {s:Shared}
def ByV (P:Program) (w:World) (n:Nat) (s:Shared) (v:Value):Prop:=∀ (A:Around) (E:Value→Shared→Prop) (Q:Bool→Shared→Prop),(∀ b,Q b s)→wpAny (model P w) A (hashByValue n v) Q E s
def NoC (P:Program) (w:World) (n:Nat) (s:Shared) (v:Value):Prop:=∀ (A:Around) (E:Value→Shared→Prop) (Q:Bool→Shared→Prop),Q false s→wpAny (model P w) A (ofAClassStatement n v) Q E s
theorem byV_tup {n:Nat} {a:Addr} {o:Obj} {vs:Array Value} {m:Nat} (ho:s.heap.get? a=some o) (hc:o.cls=.type "tuple") (hd:o.data=.seq vs m) (hv:∀ v∈vs.toList,ByV P w n s v):ByV P w (n + 1) s (.ref a):=fun A E Q q=>by
 have ty:s.TypeIs (.ref a) "tuple":=⟨o,ho,hc⟩
 unfold hashByValue
 refine wpAny_bind (wpAny_specialOf ty F.slot_tuple_hash.lookup ?_)
 show wpAny _ _ (seqItems? (.ref a) >>= _) _ _ s
 refine wpAny_bind (wpAny_seqItems ho hd ?_)
 refine wpAny_bind ?_
 show wpAny _ _ (forIn vs _ _) _ _ s
 rw [← Array.forIn_toList]
 refine wpAny_forIn_list _ (fun rest r s'=>r.1=none∧s'=s∧∀ v∈rest,ByV P w n s v) _ ?_ ?_ _ _ ⟨rfl,rfl,hv⟩
 ·rintro v rest r s' ⟨z,rfl,all⟩
  refine wpAny_bind (all v List.mem_cons_self _ _ _ fun b=>?_)
  cases b with
  | false =>
   simp only [Bool.not_false,if_true]
   exact wpAny_pure (wpAny_pure (q false))
  | true =>
   simp only [Bool.not_true,Bool.false_eq_true,if_false]
   exact wpAny_pure ⟨rfl,rfl,fun u hu=>all u (List.mem_cons_of_mem _ hu)⟩
 ·rintro ⟨r1,r2⟩ s' ⟨z,rfl,_⟩
  simp only at z
  subst z
  exact wpAny_pure (q true)
theorem noC_tup {n:Nat} {a:Addr} {o:Obj} {vs:Array Value} {m:Nat} (ho:s.heap.get? a=some o) (hc:o.cls=.type "tuple") (hd:o.data=.seq vs m) (hv:∀ v∈vs.toList,NoC P w n s v):NoC P w (n + 1) s (.ref a):=fun A E Q q=>by
 have ty:s.TypeIs (.ref a) "tuple":=⟨o,ho,hc⟩
 unfold ofAClassStatement
 refine wpAny_bind (wpAny_typeOf ty ?_)
 dsimp only
 have e:(("tuple":String) == "tuple")=true:=by decide
 simp only [e,if_true,Bool.not_true,Bool.false_eq_true,if_false]
 try refine wpAny_bind (wpAny_pure ?_)
 try simp only [Bool.not_true,Bool.false_eq_true,if_false]
 show wpAny _ _ (seqItems? (.ref a) >>= _) _ _ s
 refine wpAny_bind (wpAny_seqItems ho hd ?_)
 dsimp only
 refine wpAny_bind ?_
 show wpAny _ _ (forIn vs _ _) _ _ s
 rw [← Array.forIn_toList]
 refine wpAny_forIn_list _ (fun rest r s'=>r.1=none∧s'=s∧∀ v∈rest,NoC P w n s v) _ ?_ ?_ _ _ ⟨rfl,rfl,hv⟩
 ·rintro v rest r s' ⟨z,rfl,all⟩
  refine wpAny_bind (all v List.mem_cons_self _ _ _ ?_)
  simp only [Bool.false_eq_true,if_false]
  exact wpAny_pure ⟨rfl,rfl,fun u hu=>all u (List.mem_cons_of_mem _ hu)⟩
 ·rintro ⟨r1,r2⟩ s' ⟨z,rfl,_⟩
  simp only at z
  subst z
  exact wpAny_pure q
mutual
theorem byV_key:∀ (k:NestedKey) (v:Value) (n:Nat) (s:Shared),NestedIs s.heap k v→k.depth≤n→ByV P w n s v
 | .none,_,n,s,x,_=>by cases x;intro A E Q q;cases n<;>exact wpAny_pure (q _)
 | .num i,_,n,s,x,_=>by cases x<;>(intro A E Q q;cases n<;>exact wpAny_pure (q _))
 | .text y,_,n,s,x,_=>by cases x;intro A E Q q;cases n<;>exact wpAny_pure (q _)
 | .tup ks,_,n,s,x,hn=>by
  cases x with
  | tup hg hc hd hk =>
   simp only [NestedKey.depth] at hn
   cases n with
   | zero=>omega
   | succ n=>exact byV_tup hg hc hd (byV_keys ks _ n s hk (by omega))
theorem byV_keys:∀ (ks:List NestedKey) (vs:List Value) (n:Nat) (s:Shared),NestedAll s.heap ks vs→NestedKey.depthAll ks≤n→∀ v∈vs,ByV P w n s v
 | [],_,n,s,x,_,v,hv=>by cases x;cases hv
 | k::ks,_,n,s,x,hn,v,hv=>by
  cases x with
  | cons x1 x2 =>
   simp only [NestedKey.depthAll] at hn
   rcases List.mem_cons.mp hv with e | hv
   ·rw [e];exact byV_key k _ n s x1 (by omega)
   ·exact byV_keys ks _ n s x2 (by omega) v hv
end
mutual
theorem noC_key:∀ (k:NestedKey) (v:Value) (n:Nat) (s:Shared),NestedIs s.heap k v→k.depth≤n→NoC P w n s v
 | .none,_,n,s,x,_=>by cases x;intro A E Q q;cases n<;>exact wpAny_pure q
 | .num i,_,n,s,x,_=>by cases x<;>(intro A E Q q;cases n<;>exact wpAny_pure q)
 | .text y,_,n,s,x,_=>by cases x;intro A E Q q;cases n<;>exact wpAny_pure q
 | .tup ks,_,n,s,x,hn=>by
  cases x with
  | tup hg hc hd hk =>
   simp only [NestedKey.depth] at hn
   cases n with
   | zero=>omega
   | succ n=>exact noC_tup hg hc hd (noC_keys ks _ n s hk (by omega))
theorem noC_keys:∀ (ks:List NestedKey) (vs:List Value) (n:Nat) (s:Shared),NestedAll s.heap ks vs→NestedKey.depthAll ks≤n→∀ v∈vs,NoC P w n s v
 | [],_,n,s,x,_,v,hv=>by cases x;cases hv
 | k::ks,_,n,s,x,hn,v,hv=>by
  cases x with
  | cons x1 x2 =>
   simp only [NestedKey.depthAll] at hn
   rcases List.mem_cons.mp hv with e | hv
   ·rw [e];exact noC_key k _ n s x1 (by omega)
   ·exact noC_keys ks _ n s x2 (by omega) v hv
end
abbrev KA (P:Program) (w:World) (h:Heap) (k:NestedKey) (b:Addr):Prop:=(nestedKind P w).is h k b
theorem ka_keep {h h':Heap} {k:NestedKey} {b:Addr} (x:KA P w h k b) (e:∀ c o,h.get? c=some o→h'.get? c=some o):KA P w h' k b:=⟨NestedIs.at (fun c o vs n hc _=>e c o hc) k _ x.1,x.2⟩
theorem ka_same {h h':Heap} {k:NestedKey} {a b:Addr} {o:Obj} {es:Array (Int×Value)} {ep:Nat} {t:SetTable} (x:KA P w h k b) (ho:h.get? a=some o) (hd:o.data=.set es ep t) (e:Heap.SameBut a h h'):KA P w h' k b :=
 ⟨NestedIs.at (fun c ob vs n hc hv=>(e.2 c (fun z=>by
  subst z
  rw [ho] at hc
  cases hc
  rw [hd] at hv
  cases hv)).trans hc) k _ x.1,x.2⟩
theorem unseen {k:NestedKey} {b:Addr} {Q:Bool→Shared→Prop} (hk:KA P w s.heap k b) {ys:List Value} (hy:∀ y∈ys,∃ k' c,y=Value.ref c∧KA P w s.heap k' c) (q:Q false s):wpAny (model P w) A (searchCouldBeSeen (.ref b) ys) Q E s:=by
 unfold searchCouldBeSeen
 refine wpAny_bind ?_
 refine wpAny_forIn_list _ (fun rest r s'=>r.1=none∧s'=s∧∀ y∈rest,∃ k' c,y=Value.ref c∧KA P w s.heap k' c) _ ?_ ?_ _ _ ⟨rfl,rfl,hy⟩
 ·rintro v rest r s' ⟨z,rfl,all⟩
  obtain ⟨k',c,rfl,hc⟩:=all v List.mem_cons_self
  have all':=fun u hu=>all u (List.mem_cons_of_mem _ hu)
  dsimp only
  by_cases hv:(b == c || (carriedByValue (.ref b) && carriedByValue (.ref c)))=true
  ·exact wp_if_pos hv (wpAny_pure ⟨rfl,rfl,all'⟩)
  ·refine wp_if_neg hv ?_
   refine wpAny_bind ((nestedKind P w).quiet hk ?_)
   simp only [Bool.not_true,Bool.false_eq_true,if_false]
   refine wpAny_bind ((nestedKind P w).quiet hc ?_)
   simp only [Bool.not_true,Bool.false_eq_true,if_false]
   refine wpAny_bind (noC_key k _ 8 s' hk.1 hk.2 _ _ _ ?_)
   simp only [Bool.false_eq_true,if_false]
   refine wpAny_bind (noC_key k' _ 8 s' hc.1 hc.2 _ _ _ ?_)
   simp only [Bool.false_eq_true,if_false]
   exact wpAny_pure ⟨rfl,rfl,all'⟩
 ·rintro ⟨r1,r2⟩ s' ⟨z,rfl,_⟩
  simp only at z
  subst z
  exact wpAny_pure q
def rowsK (w:World) (L:List (Addr×NestedKey)):List (Int×Value):=L.map fun p=>(p.2.hash w,Value.ref p.1)
structure TSR (P:Program) (w:World) (h:Heap) (a:Addr) (L:List (Addr×NestedKey)) (es:Array (Int×Value)) (ep:Nat) (t:SetTable):Prop where
 ob:∃ o,h.get? a=some o∧o.ExactSet∧o.data=.set es ep t
 rows:es.toList=rowsK w L
 tab:Tb t (L.map fun p=>p.2.hash w)
 nd:(L.map (·.2)).Nodup
 ka:∀ p∈L,KA P w h p.2 p.1
 room:L.length * 5<t.mask * 3
 led:w.params.followText "set-order"=true∨t.led=true
variable {a:Addr} {L:List (Addr×NestedKey)} {es:Array (Int×Value)} {ep:Nat} {t:SetTable}
theorem rowsK_len {L:List (Addr×NestedKey)} {es:Array (Int×Value)} (h:es.toList=rowsK w L):es.size=L.length:=by
 have:=congrArg List.length h
 rw [Array.length_toList] at this
 unfold rowsK at this
 rw [List.length_map] at this
 exact this
theorem rowsK_at {L:List (Addr×NestedKey)} {es:Array (Int×Value)} (h:es.toList=rowsK w L) {i:Nat} {p:Addr×NestedKey} (hp:L[i]?=some p):es[i]?=some (p.2.hash w,Value.ref p.1):=by
 rw [← Array.getElem?_toList,h]
 unfold rowsK
 rw [List.getElem?_map,hp]<;>rfl
theorem fits_of {hs:List Int} (T:Tb t hs) {n:Nat} (e:hs.length=n) (hn:n≤t.mask):t.fits n=true:=by
 have:=T.sz
 unfold SetTable.fits SetTable.fill
 rw [T.dm,Bool.and_eq_true,beq_iff_eq,decide_eq_true_eq]
 show t.place.size=n∧t.place.size + 0≤t.mask
 omega
theorem TSR.fits (R:TSR P w s.heap a L es ep t):t.fits es.size=true:=by
 have:=R.room
 exact fits_of R.tab (by rw [List.length_map,rowsK_len R.rows]) (by rw [rowsK_len R.rows];omega)
theorem TSR.odd (R:TSR P w s.heap a L es ep t):¬ t.gaveWay=true:=by
 unfold SetTable.gaveWay
 rw [mk_odd R.tab.mkm]
 decide
abbrev prb (m:Nat) (x:Int) (n:Nat):SetTable.Probe:=nth m (runAt m (SetTable.bits x % (m + 1)) (SetTable.bits x)) n
theorem prb_dummy (m:Nat) (x:Int) (n:Nat):(prb m x n).dummy=none:=by
 have key:∀ (n:Nat) (p:SetTable.Probe),p.dummy=none→(nth m p n).dummy=none:=fun n=>by
  induction n with
  | zero=>exact fun p h=>h
  | succ n ih=>exact fun p h=>ih _ (by unfold adv;split<;>exact h)
 exact key n _ rfl
theorem prb_add (m:Nat) (x:Int) (c q:Nat):nth m (prb m x c) q=prb m x (c + q):=(nth_add m c _ q).symm
theorem look_from (R:TSR P w s.heap a L es ep t) {b:Addr} {k:NestedKey} (hb:KA P w s.heap k b) (hu:A.units + 8<cLine) (ad:Bool) {n:Nat} (hn:n<10 * SetTable.turns t.mask)
  (n1:way t.mask (k.hash w) n ∉ t.place.toList) (n2:∀ c,c<n→way t.mask (k.hash w) c∈t.place.toList) {Q:SetFound→Shared→Prop}
  (hin:k∈L.map (·.2)→(ad=true→Q (.there none) s)∧(ad=false→∀ i,Q (.there (some i)) s)) (hout:k ∉ L.map (·.2)→Q (.free (way t.mask (k.hash w) n) false) s) :
  ∀ (f c:Nat) (st:Option SetTable.Probe),st.getD (t.probeStart (k.hash w))=prb t.mask (k.hash w) c→c≤n→n - c<f →
   (∀ (i:Nat) p,L[i]?=some p→p.2=k→∃ c',c≤c'∧c'<n∧t.place.toList[i]?=some (way t.mask (k.hash w) c')) →
   wpAny (model P w) A (setSearchFrom a (.ref b) (k.hash w) ad f st) Q E s
 | 0,c,st,_,_,h,_=>absurd h (Nat.not_lt_zero _)
 | f + 1,c,st,hst,hc,hf,hre=>by
  obtain ⟨o,ho,hex,hd⟩:=R.ob
  rw [setSearchFrom_succ]
  refine wpAny_bind (wpAny_setState_of ho hd R.fits ?_)
  dsimp only
  refine wp_if_neg R.odd ?_
  try refine wpAny_bind (wpAny_pure ?_)
  have jw:∀ q,(nth t.mask (prb t.mask (k.hash w) c) q).j=way t.mask (k.hash w) (c + q):=fun q=>congrArg SetTable.Probe.j (prb_add _ _ c q)
  have cn:c + (n - c)=n:=by omega
  have hat:∀ (i:Nat) p,L[i]?=some p→(es[i]?.map (·.1)).getD 0=p.2.hash w:=fun i p hp=>by rw [rowsK_at R.rows hp]<;>rfl
  have gone:∀ {q:Nat} (_:∀ k' i':Nat,k'<q→t.place.toList[i']?=some (nth t.mask (prb t.mask (k.hash w) c) k').j→(fun i:Nat=>(es[i]?.map (·.1)).getD 0) i'≠k.hash w) {i0:Nat} {p0:Addr×NestedKey},L[i0]?=some p0→p0.2=k→∃ c',c + q≤c'∧c'<n∧t.place.toList[i0]?=some (way t.mask (k.hash w) c'):=fun {q} hno {i0 p0} h0 e0=>by
   obtain ⟨c',a1,a2,a3⟩:=hre i0 p0 h0 e0
   refine ⟨c',Classical.byContradiction fun z=>?_,a2,a3⟩
   refine hno (c' - c) i0 (by omega) ?_ ((hat i0 p0 h0).trans (congrArg (NestedKey.hash w) e0))
   rw [jw,show c + (c' - c)=c' by omega]
   exact a3
  rcases go_spec t R.tab.ris R.tab.dm (fun i=>(es[i]?.map (·.1)).getD 0) (k.hash w) (10 * SetTable.turns t.mask) (n - c) _ (prb_dummy t.mask (k.hash w) c) (by omega) (fun q hq=>by rw [jw];exact n2 _ (by omega)) (by rw [jw,cn];exact n1) with ⟨q,i,q1,q2,q3,q4,q5⟩ | ⟨q4,q5⟩
  ·have met:t.probe (fun i=>(es[i]?.map (·.1)).getD 0) (k.hash w) (st.getD (t.probeStart (k.hash w)))=some (.candidate (way t.mask (k.hash w) (c + q)) i (prb t.mask (k.hash w) (c + (q + 1)))):=by
    rw [hst,← jw,← prb_add]
    exact q5
   rw [met]
   dsimp only
   rw [jw] at q2
   have li:i<L.length:=by
    have h1:=(List.getElem?_eq_some_iff.mp q2).1
    have h2:=R.tab.sz
    rw [List.length_map] at h2
    rw [Array.length_toList] at h1
    omega
   have hp:L[i]?=some L[i]:=List.getElem?_eq_getElem li
   generalize L[i]=p at hp
   have hm:=List.mem_of_getElem? hp
   have live:t.slot (way t.mask (k.hash w) (c + q))=.live i:=slot_live R.tab.ris q2
   have rest:wpAny (model P w) A (searchRest a (.ref b) (k.hash w) ad f es t (way t.mask (k.hash w) (c + q)) i (prb t.mask (k.hash w) (c + (q + 1)))) Q E s:=by
    unfold searchRest
    rw [rowsK_at R.rows hp]
    dsimp only
    refine wpAny_bind (wpAny_holding ((nestedKind P w).eqBool hu (R.ka p hm) hb ?_))
    refine wpAny_bind (wpAny_setState_of ho hd R.fits ?_)
    dsimp only
    by_cases e:p.2=k
    ·obtain ⟨i1,i2⟩:=hin (List.mem_map.mpr ⟨p,hm,e⟩)
     cases ad with
     | true=>exact wp_if_pos (by simp [e]) (wpAny_pure (i1 rfl))
     | false =>
      refine wp_if_neg (by simp) ?_
      try refine wpAny_bind (wpAny_pure ?_)
      rw [sameMem]
      dsimp only
      simp only [if_true,live,rowsK_at R.rows hp]
      refine wpAny_bind (wpAny_isSame_ref_self (wpAny_bind (wpAny_pure ?_)))
      simp only [if_true]
      exact wp_if_pos (by simp [e]) (wpAny_pure (i2 rfl i))
    ·refine wp_if_neg (by simp [e]) ?_
     try refine wpAny_bind (wpAny_pure ?_)
     rw [sameMem]
     dsimp only
     simp only [if_true,live,rowsK_at R.rows hp]
     refine wpAny_bind (wpAny_isSame_ref_self (wpAny_bind (wpAny_pure ?_)))
     simp only [if_true]
     refine wp_if_neg (by simp [e]) ?_
     refine look_from R hb hu ad hn n1 n2 hin hout f (c + (q + 1)) _ rfl (by omega) (by omega) fun i0 p0 h0 e0=>?_
     obtain ⟨c',a1,a2,a3⟩:=gone q4 h0 e0
     refine ⟨c',Classical.byContradiction fun z=>?_,a2,a3⟩
     obtain rfl:c'=c + q:=by omega
     have:=slot_live R.tab.ris a3
     rw [live] at this
     injection this with this
     rw [← this,hp] at h0
     cases h0
     exact e e0
   by_cases hl:t.led=true
   ·refine wp_if_neg (by simp [hl]) ?_
    try refine wpAny_bind (wpAny_pure ?_)
    exact rest
   ·refine wp_if_pos (by simp [hl]) ?_
    refine wpAny_bind (unseen hb (fun y hy=>?_) ?_)
    ·obtain ⟨r,hr,rfl⟩:=List.mem_map.mp hy
     have hr:r∈es.toList:=by
      have:r∈es∧r.1=k.hash w:=by simpa using hr
      simpa using this.1
     rw [R.rows] at hr
     obtain ⟨p2,hp2,rfl⟩:=List.mem_map.mp hr
     exact ⟨p2.2,p2.1,rfl,R.ka p2 hp2⟩
    ·refine wp_if_neg (by decide) ?_
     try refine wpAny_bind (wpAny_pure ?_)
     exact rest
  ·have met:t.probe (fun i=>(es[i]?.map (·.1)).getD 0) (k.hash w) (st.getD (t.probeStart (k.hash w)))=some (.empty (way t.mask (k.hash w) n) none):=by
    rw [hst]
    have e2:way t.mask (k.hash w) n=(nth t.mask (prb t.mask (k.hash w) c) (n - c)).j:=by rw [jw,cn]
    rw [e2]
    exact q5
   rw [met]
   dsimp only
   refine wpAny_pure (hout fun z=>?_)
   obtain ⟨p0,h0,e0⟩:=List.mem_map.mp z
   obtain ⟨i0,hi0⟩:=List.getElem?_of_mem h0
   obtain ⟨c',a1,a2,_⟩:=gone q4 hi0 e0
   omega
theorem look (R:TSR P w s.heap a L es ep t) {b:Addr} {k:NestedKey} (hb:KA P w s.heap k b) (hu:A.units + 8<cLine) (ad:Bool) {Q:SetFound→Shared→Prop}
  (hin:k∈L.map (·.2)→(ad=true→Q (.there none) s)∧(ad=false→∀ i,Q (.there (some i)) s))
  (hout:∀ n,k ∉ L.map (·.2)→way t.mask (k.hash w) n ∉ t.place.toList→(∀ c,c<n→way t.mask (k.hash w) c∈t.place.toList)→Q (.free (way t.mask (k.hash w) n) false) s) :
  wpAny (model P w) A (setSearch a (.ref b) (k.hash w) ad) Q E s:=by
 have room:=R.room
 obtain ⟨n,n0,n1,n2⟩:=R.tab.stop (by rw [List.length_map];omega) (k.hash w)
 have big:n<100000:=by
  have:=mk_le R.tab.mkm
  unfold SetTable.turns at n0
  omega
 unfold setSearch
 refine look_from R hb hu ad n0 n1 n2 hin (fun h=>hout n h n1 n2) 100000 0 none rfl (Nat.zero_le _) (by omega) fun i p hp e=>?_
 have li:i<t.place.toList.length:=by
  have h1:=(List.getElem?_eq_some_iff.mp hp).1
  have h2:=R.tab.sz
  rw [List.length_map] at h2
  rw [Array.length_toList]
  omega
 have hj:=List.getElem?_eq_getElem li
 obtain ⟨c,c1,c2⟩:=R.tab.ahead n1 (show (L.map fun p=>p.2.hash w)[i]?=some (k.hash w) by rw [List.getElem?_map,hp,← e]<;>rfl) hj
 exact ⟨c,Nat.zero_le _,c1,by rw [hj,c2]⟩
theorem relaid_at {o:Obj} (ho:s.heap.get? a=some o) (hex:o.ExactSet) (hd:o.data=.set es ep t) (hrows:es.toList=rowsK w L) (T:Tb t (L.map fun p=>p.2.hash w)) (hm:L.length≤t.mask) (nd:(L.map (·.2)).Nodup) (ka:∀ p∈L,KA P w s.heap p.2 p.1) (led:w.params.followText "set-order"=true∨t.led=true) {wanted M:Nat}
  (hw:SetTable.sizeAbove wanted - 1=M) (hM:Mk M) (hw2:SetTable.sizeAbove wanted≤2048) (hn:L.length * 5<M * 3) {Q:Unit→Shared→Prop}
  (q:∀ h' L' es' ep' t',Heap.SameBut a s.heap h'→TSR P w h' a L' es' ep' t'→L'.Perm L→Q () { s with heap:=h' }):wpAny (model P w) A (setRelay a wanted) Q E s:=by
 have sz:=rowsK_len hrows
 obtain ⟨t',order,e,op,T2,em,el⟩:=laid_ok t (hs:=es.map (·.1)) hw hM (by rw [Array.size_map,sz];omega)
 rw [Array.size_map,sz] at op
 have ent:∀ l:List Nat,(∀ i∈l,i<L.length)→∃ L2:List (Addr×NestedKey),l.filterMap (fun i=>es[i]?)=rowsK w L2∧L2=l.filterMap (fun i=>L[i]?)∧(L2.map fun p=>p.2.hash w)=l.map fun i=>(es.map (·.1)).getD i 0:=fun l=>by
  induction l with
  | nil=>exact fun _=>⟨[],rfl,rfl,rfl⟩
  | cons i l ih =>
   intro hl
   have li:=hl i List.mem_cons_self
   obtain ⟨L2,g1,g2,g3⟩:=ih fun j hj=>hl j (List.mem_cons_of_mem _ hj)
   have hp:L[i]?=some L[i]:=List.getElem?_eq_getElem li
   have he:=rowsK_at hrows hp
   refine ⟨L[i]::L2,?_,?_,?_⟩
   ·rw [List.filterMap_cons_some he,g1]<;>rfl
   ·rw [List.filterMap_cons_some hp,g2]
   ·have e5:(es.map (·.1))[i]?=some ((L[i]).2.hash w):=by rw [Array.getElem?_map,he]<;>rfl
    rw [List.map_cons,List.map_cons,g3,Array.getD_eq_getD_getElem?,e5]<;>rfl
 obtain ⟨L2,g1,g2,g3⟩:=ent order.toList fun i hi=>List.mem_range.mp (op.mem_iff.mp hi)
 have all:(List.range L.length).filterMap (fun i=>L[i]?)=L:=List.filterMap_getElem?_range_length L
 have pm:L2.Perm L:=by
  have:=op.filterMap fun i=>L[i]?
  rw [all,← g2] at this
  exact this
 have fm:(order.filterMap (es[·]?)).toList=rowsK w L2:=by rw [Array.toList_filterMap];exact g1
 rw [← g3] at T2
 have s2:(order.filterMap (es[·]?)).size=es.size:=by rw [rowsK_len fm,sz,pm.length_eq]
 rw [setRelay_eq]
 refine wpAny_bind (wpAny_setState_of ho hd (fits_of T (by rw [List.length_map,sz]) (by rw [sz];exact hm)) ?_)
 dsimp only
 refine wp_if_neg (by rw [sizeLine_eq];omega) ?_
 try refine wpAny_bind (wpAny_pure ?_)
 rw [e]
 dsimp only
 refine wpAny_bind ?_
 refine wp_if_neg (by rw [s2];simp) ?_
 try refine wpAny_bind (wpAny_pure ?_)
 refine wpAny_pure ?_
 dsimp only
 have mle:=mk_le hM
 refine wpAny_storeSet_of ho hd ?_ (by rw [s2,sz,sizeLine_eq];omega)
 have sb:Heap.SameBut a s.heap (s.heap.update a (Obj.putSet (order.filterMap (es[·]?)) t')):=Heap.SameBut.update ..
 exact q _ L2 _ (ep + 1) t' sb ⟨⟨_,store_at ho hd,⟨hex.1,hex.2.1,hex.2.2⟩,rfl⟩,fm,T2,(pm.map (·.2)).nodup_iff.mpr nd,fun p hp=>ka_same (ka p (pm.mem_iff.mp hp)) ho hd sb,by rw [pm.length_eq,em];exact hn,by rw [el];exact led⟩ pm
theorem add_one (R:TSR P w s.heap a L es ep t) {b:Addr} {k:NestedKey} (hb:KA P w s.heap k b) (hu:A.units + 8<cLine) (few:L.length<1228) {Q:Bool→Shared→Prop}
  (q:∀ r h' L' es' ep' t',Heap.SameBut a s.heap h'→TSR P w h' a L' es' ep' t'→(k∈L.map (·.2)→L'=L)→(k ∉ L.map (·.2)→L'.Perm ((b,k)::L))→Q r { s with heap:=h' }) :
  wpAny (model P w) A (setAddHashed a (.ref b) (k.hash w)) Q E s:=by
 obtain ⟨o,ho,hex,hd⟩:=R.ob
 have sz:=rowsK_len R.rows
 have room:=R.room
 unfold setAddHashed
 refine wpAny_holding ?_
 rw [show (100000:Nat)=99999 + 1 from rfl,setAddHashedIn_succ]
 refine wpAny_bind (wpAny_setState_of ho hd R.fits ?_)
 dsimp only
 refine wp_if_neg (by simp [byScan,Value.scannable]) ?_
 try refine wpAny_bind (wpAny_pure ?_)
 refine wpAny_bind (look R hb hu true (fun h=>⟨fun _=>?_,fun z=>(nomatch z)⟩) fun n h n1 n2=>?_)
 ·dsimp only
  exact wpAny_pure (q false s.heap L es ep t (Heap.SameBut.refl a s.heap) R (fun _=>rfl) fun z=>absurd h z)
 ·dsimp only
  refine wpAny_bind (wpAny_setState_of ho hd R.fits ?_)
  dsimp only
  obtain ⟨p,p1,p2,T2,p3,p5,p4⟩:=R.tab.put n1 n2
  generalize t.put (way t.mask (k.hash w) n)=pt at p2 T2 p3 p5 p4 ⊢
  obtain ⟨t1,r0⟩:=pt
  dsimp only at p2 T2 p3 p5 p4 ⊢
  obtain rfl:r0=p:=p2
  have pl:r0≤L.length:=by rw [List.length_map] at p1;exact p1
  have hin:(SetTable.insertAt es r0 (k.hash w,Value.ref b)).toList=rowsK w (L.take r0++(b,k)::L.drop r0):=by
   rw [SetTable.toList_insertAt,R.rows]
   unfold rowsK
   rw [List.map_append,List.map_cons,List.map_take,List.map_drop]
  have hh:(L.map fun p=>p.2.hash w).take r0++k.hash w::(L.map fun p=>p.2.hash w).drop r0=(L.take r0++(b,k)::L.drop r0).map fun p=>p.2.hash w:=by rw [List.map_append,List.map_cons,List.map_take,List.map_drop]
  rw [hh] at T2
  have pm:(L.take r0++(b,k)::L.drop r0).Perm ((b,k)::L):=put_perm L r0 (b,k)
  generalize L.take r0++(b,k)::L.drop r0=L1 at hin T2 pm
  generalize SetTable.insertAt es r0 (k.hash w,Value.ref b)=es1 at hin ⊢
  have l1:L1.length=L.length + 1:=pm.length_eq
  have z1:=rowsK_len hin
  have nd1:(L1.map (·.2)).Nodup:=(pm.map (·.2)).nodup_iff.mpr (List.nodup_cons.mpr ⟨h,R.nd⟩)
  rw [List.length_map] at p4
  have fin:∀ t2:SetTable,t2.place=t1.place→t2.dummies=t1.dummies→t2.mask=t1.mask→t2.led=t1.led→wpAny (model P w) A (do
    storeSet a es1 t2
    if !false && t2.tooFull then setRelay a (SetTable.grown (es.size + 1))
    return true) Q E s:=fun t2 v1 v2 v3 v4=>by
   have T3:Tb t2 (L1.map fun p=>p.2.hash w):=⟨by rw [v1];exact T2.ris,by rw [v2];exact T2.dm,by rw [v1];exact T2.sz,by rw [v3];exact T2.mkm,by rw [v1,v3];exact T2.reach⟩
   have fl:t2.fill=L.length + 1:=by
    rw [← p4]
    show t2.place.size + t2.dummies.size=t1.place.size + t1.dummies.size
    rw [v1,v2]
   have mE:t2.mask=t.mask:=v3.trans p3
   have lE:w.params.followText "set-order"=true∨t2.led=true:=by rw [v4,p5];exact R.led
   refine wpAny_bind (wpAny_storeSet_of ho hd ?_ (by rw [z1,l1,sizeLine_eq];omega))
   have sb:Heap.SameBut a s.heap (s.heap.update a (Obj.putSet es1 t2)):=Heap.SameBut.update ..
   have ho1:=store_at (es':=es1) (t':=t2) ho hd
   generalize s.heap.update a (Obj.putSet es1 t2)=h1 at sb ho1 ⊢
   have ka1:∀ p∈L1,KA P w h1 p.2 p.1:=fun p hp=>by
    rcases List.mem_cons.mp (pm.mem_iff.mp hp) with e | hp
    ·rw [e];exact ka_same hb ho hd sb
    ·exact ka_same (R.ka p hp) ho hd sb
   by_cases full:t2.tooFull=true
   ·have f2:(L.length + 1) * 5 ≥ t.mask * 3:=by
     have:=full
     unfold SetTable.tooFull at this
     rw [decide_eq_true_eq,fl,mE] at this
     exact this
    obtain ⟨M,m1,m2,m3,m4,m5⟩:=grow_at R.tab.mkm room f2 (by omega)
    rw [sz]
    have go:wpAny (model P w) A (setRelay a (SetTable.grown (L.length + 1))) (fun _ s'=>wpAny (model P w) A (pure true) Q E s') E { s with heap:=h1 } :=
     relaid_at (s:={ s with heap:=h1 }) ho1 ⟨hex.1,hex.2.1,hex.2.2⟩ rfl hin T3 (by omega) nd1 ka1 lE m1 m2 m3 (by rw [l1];exact m4) fun h2 L2 es2 ep2 t3 sb2 R2 pm2 =>
      wpAny_pure (q true h2 L2 es2 ep2 t3 (sb.trans sb2) R2 (fun z=>absurd z h) fun _=>pm2.trans pm)
    first
     | (refine wpAny_bind ?_;refine wp_if_pos (by simp [full]) ?_;exact go)
     | (refine wp_if_pos (by simp [full]) ?_;refine wpAny_bind ?_;exact go)
   ·first
     | refine wp_if_neg (by simp [full]) ?_
     | (refine wpAny_bind ?_;refine wp_if_neg (by simp [full]) ?_;refine wpAny_pure ?_)
    refine wpAny_pure (q true h1 L1 es1 (ep + 1) t2 sb ⟨⟨_,ho1,⟨hex.1,hex.2.1,hex.2.2⟩,rfl⟩,hin,T3,nd1,ka1,?_,lE⟩ (fun z=>absurd z h) fun _=>pm)
    have:=full
    unfold SetTable.tooFull at this
    rw [decide_eq_true_eq,fl,mE] at this
    rw [l1,mE]
    omega
  have fin2:∀ b:Bool,wpAny (model P w) A (do
    storeSet a es1 (if b then t1 else { t1 with plain:=false })
    if !false && (if b then t1 else { t1 with plain:=false }).tooFull then setRelay a (SetTable.grown (es.size + 1))
    return true) Q E s:=fun b=>by
   cases b with
   | true=>exact fin t1 rfl rfl rfl rfl
   | false=>exact fin { t1 with plain:=false } rfl rfl rfl rfl
  by_cases hp:t1.plain=true
  ·first
    | (refine wpAny_bind ?_;refine wp_if_pos hp ?_;exact byV_key k _ 8 s hb.1 hb.2 _ _ _ fin2)
    | exact wp_if_pos hp (wpAny_bind (byV_key k _ 8 s hb.1 hb.2 _ _ _ fin2))
  ·first
    | (refine wpAny_bind ?_;refine wp_if_neg hp ?_;exact wpAny_pure (fin2 true))
    | exact wp_if_neg hp (wpAny_bind (wpAny_pure (fin2 true)))
end
end FcT
set_option maxRecDepth 100000
set_option maxHeartbeats 4000000
namespace FcW
open PySem PySem.Spec PyProof.Rows L2
section
variable {X:Cx}
def rInD (K:PySem.W.Frag):R2:=fun x y H Q=>∃ d ds,Dp K H x d∧Dp K H y (.list ds)∧PyData.canLay0 d=true∧PyData.canLayAll0 ds=true∧min (PyData.depthAll ds) d.depth≤150∧Q (.bl (ds.any fun z=>PyData.eqv z d)) H
theorem op_inD {k:Nat} (hr:Room k X.A):OpR X (compareOp .In) (rInD X.K):=by
 intro pins s σ H x y v u Q I rx ry h
 obtain ⟨d,ds,hd,he,sd,se,hm,q⟩:=h
 obtain ⟨as,r1⟩:=Dp.reads I d x v hd rx
 obtain ⟨bs,r2⟩:=Dp.reads I (.list ds) y u he ry
 exact SeqAt.in_list_reads r2 r1 se sd (by have:=hr.un;omega) ⟨.bl _,H,I,rfl,q⟩
def rNotInD (K:PySem.W.Frag):R2:=fun x y H Q=>∃ d ds,Dp K H x d∧Dp K H y (.list ds)∧PyData.canLay0 d=true∧PyData.canLayAll0 ds=true∧min (PyData.depthAll ds) d.depth≤150∧Q (.bl (!ds.any fun z=>PyData.eqv z d)) H
theorem op_notinD {k:Nat} (hr:Room k X.A):OpR X (compareOp .NotIn) (rNotInD X.K):=by
 intro pins s σ H x y v u Q I rx ry h
 obtain ⟨d,ds,hd,he,sd,se,hm,q⟩:=h
 obtain ⟨as,r1⟩:=Dp.reads I d x v hd rx
 obtain ⟨bs,r2⟩:=Dp.reads I (.list ds) y u he ry
 exact SeqAt.notIn_list_reads r2 r1 se sd (by have:=hr.un;omega) ⟨.bl _,H,I,rfl,q⟩
end
end FcW
set_option maxRecDepth 100000
set_option maxHeartbeats 4000000
namespace FcW
open PySem PySem.Spec PyProof.Rows L2
section
variable {X:Cx}
end
end FcW
set_option maxRecDepth 100000
set_option maxHeartbeats 4000000
namespace FcS
open PySem PySem.Spec PyProof.Rows L2
section
variable {P:Program} {w:World} {A:Around} {E:Value→Shared→Prop} {s:Shared}
abbrev set0 (w:World):Obj:={ cls:=.type "set",dict:=none,data:=.set #[] 0 (.fresh 0 0 (!w.params.followText "set-order")) }
end
end FcS
set_option maxRecDepth 100000
set_option maxHeartbeats 4000000
namespace FcW
open PySem PySem.Spec PyProof.Rows L2
section
variable {X:Cx} {pins:List (Addr×Obj)} {σ:L2.St} {H:Hp} {s:Shared}
end
end FcW
namespace FcR
open PySem PySem.Spec PyProof.Rows L2
theorem b_set:bootBuiltins "set"=some (.type "set"):=by decide +kernel
end FcR
set_option maxRecDepth 100000
set_option maxHeartbeats 4000000
namespace FcT
open PySem PySem.Spec PyProof.Rows L2
section
variable {P:Program} {w:World} {A:Around} {E:Value→Shared→Prop} {s:Shared}
theorem TSR.keep {h h':Heap} {a:Addr} {L:List (Addr×NestedKey)} {es:Array (Int×Value)} {ep:Nat} {t:SetTable} (R:TSR P w h a L es ep t) (e:∀ o,h.get? a=some o→h'.get? a=some o) (k:∀ p∈L,KA P w h' p.2 p.1):TSR P w h' a L es ep t:=by
 obtain ⟨o,ho,r⟩:=R.ob
 exact ⟨⟨o,e o ho,r⟩,R.rows,R.tab,R.nd,k,R.room,R.led⟩
theorem tsr_new {h:Heap} {a:Addr} (e:h.get? a=some (FcS.set0 w)):TSR P w h a [] #[] 0 (.fresh 0 0 (!w.params.followText "set-order")) where
 ob:=⟨_,e,⟨rfl,rfl,rfl⟩,rfl⟩
 rows:=rfl
 tab:=⟨List.Pairwise.nil,rfl,rfl,.inl rfl,fun i x j h=>by simp at h⟩
 nd:=List.nodup_nil
 ka:=fun p hp=>nomatch hp
 room:=by show 0 * 5<7 * 3;decide
 led:=by
  show _∨(!w.params.followText "set-order")=true
  cases w.params.followText "set-order"
  ·exact .inr rfl
  ·exact .inl rfl
structure Has (ks:List (Addr×NestedKey)) (i:Nat) (L:List (Addr×NestedKey)):Prop where
 sub:∀ p∈L,p∈ks.take i
 all:∀ p∈ks.take i,p.2∈L.map (·.2)
 len:L.length≤i
theorem Has.next {ks L L':List (Addr×NestedKey)} {i:Nat} {x:Addr×NestedKey} (g:Has ks i L) (hx:ks[i]?=some x) (old:x.2∈L.map (·.2)→L'=L) (new:x.2 ∉ L.map (·.2)→L'.Perm (x::L)):Has ks (i + 1) L':=by
 have tk:ks.take (i + 1)=ks.take i++[x]:=by rw [List.take_succ,hx]<;>rfl
 by_cases c:x.2∈L.map (·.2)
 ·obtain rfl:=old c
  refine ⟨fun p hp=>?_,fun p hp=>?_,Nat.le_succ_of_le g.len⟩
  ·rw [tk];exact List.mem_append_left _ (g.sub p hp)
  ·rw [tk] at hp
   rcases List.mem_append.mp hp with z | z
   ·exact g.all p z
   ·rw [List.mem_singleton.mp z];exact c
 ·have pm:=new c
  refine ⟨fun p hp=>?_,fun p hp=>?_,by have:=g.len;rw [pm.length_eq,List.length_cons];omega⟩
  ·rw [tk]
   rcases List.mem_cons.mp (pm.mem_iff.mp hp) with z | z
   ·rw [z];exact List.mem_append_right _ List.mem_cons_self
   ·exact List.mem_append_left _ (g.sub p z)
  ·rw [(pm.map (·.2)).mem_iff,List.map_cons]
   rw [tk] at hp
   rcases List.mem_append.mp hp with z | z
   ·exact List.mem_cons_of_mem _ (g.all p z)
   ·rw [List.mem_singleton.mp z];exact List.mem_cons_self
theorem fill_set {I:Addr} {fp wr:List Addr} {G:Array GenState→Array GenState→Prop} {n:Nat} {Pv:Nat→Value→Prop} {St:Nat→Shared→Prop} {R:Result→Shared→Prop} (W:WalksS P w A.in1 I fp wr G n Pv St) (S:Addr) (hS:S ∉ fp) (ks:List (Addr×NestedKey)) (hn:n=ks.length) (few:ks.length≤1228)
  (val:∀ i v,Pv i v→∃ p,ks[i]?=some p∧v=.ref p.1) (h0:Heap) (hk:∀ p∈ks,KA P w h0 p.2 p.1) (fS:h0.get? S=none) (fw:∀ b∈wr,h0.get? b=none) (hu:A.in1.units + 8<cLine) :
  ∀ (j i:Nat) (s:Shared),n - i=j→i≤n→St i s→(∀ b o,h0.get? b=some o→s.heap.get? b=some o)→(∃ L es ep t,TSR P w s.heap S L es ep t∧Has ks i L) →
   (∀ s' L es ep t,Moved (S::wr) G s s'→TSR P w s'.heap S L es ep t→Has ks n L→(∀ b o,h0.get? b=some o→s'.heap.get? b=some o)→R (.ok (.ret .none)) s') →
   codeAny (model P w) A (.builtin "set.update.loop" ⟨[.ref S,.ref I],[]⟩) R s:=by
 have nS:S ∉ wr:=fun z=>hS (W.sub _ z)
 have sub:∀ b∈wr,b∈S::wr:=fun b hb=>List.mem_cons_of_mem _ hb
 have old:∀ {s s':Shared},Moved wr G s s'→(∀ b o,h0.get? b=some o→s.heap.get? b=some o)→∀ b o,h0.get? b=some o→s'.heap.get? b=some o:=fun m kp b o e=>m.heap b o (fun z=>by rw [fw b z] at e;cases e) (kp b o e)
 intro j
 induction j with
 | zero =>
  intro i s hj hi st kp ⟨L,es,ep,t,T,g⟩ q
  obtain rfl:i=n:=by omega
  refine codeAny_builtin F.entry_set_update_loop ?_
  rw [Around.under_plainId F.plain_set_update_loop _]
  show wpAny _ A.in1 (pyNext (.ref I) >>= _) _ _ s
  refine wpAny_bind (W.done s _ _ st fun s' m=>?_)
  show wpAny _ A.in1 (ret Value.none) _ _ s'
  have kp':=old m kp
  exact wpAny_pure (q s' L es ep t (m.mono sub) (T.keep (fun o e=>m.heap S o nS e) fun p hp=>ka_keep (hk p (List.mem_of_mem_take (g.sub p hp))) kp') g kp')
 | succ j ih =>
  intro i s hj hi st kp ⟨L,es,ep,t,T,g⟩ q
  have lt:i<n:=by omega
  refine codeAny_builtin F.entry_set_update_loop ?_
  rw [Around.under_plainId F.plain_set_update_loop _]
  show wpAny _ A.in1 (pyNext (.ref I) >>= _) _ _ s
  refine wpAny_bind (W.item i s _ _ lt st fun v s' pv st' m=>?_)
  obtain ⟨p,hp,rfl⟩:=val i v pv
  have kp':=old m kp
  have T':TSR P w s'.heap S L es ep t:=T.keep (fun o e=>m.heap S o nS e) fun p hp=>ka_keep (hk p (List.mem_of_mem_take (g.sub p hp))) kp'
  have kx:KA P w s'.heap p.2 p.1:=ka_keep (hk p (List.mem_of_getElem? hp)) kp'
  show wpAny _ A.in1 (holding [Value.ref p.1] (setAdd S (.ref p.1)) >>= _) _ _ s'
  refine wpAny_bind (wpAny_holding ?_)
  unfold setAdd
  refine wpAny_holding ?_
  refine wpAny_bind ((nestedKind P w).pyHash hu kx ?_)
  have gl:=g.len
  refine add_one (s:={ s' with toks:=s'.toks + (nestedKind P w).draws p.2 }) T' kx hu (by omega) fun r h' L' es' ep' t' sb T2 c1 c2=>?_
  have kp2:∀ b o,h0.get? b=some o→h'.get? b=some o:=fun b o e=>(sb.2 b (fun z=>by rw [z,fS] at e;cases e)).trans (kp' b o e)
  refine wpAny_pure ⟨plainId_quiet F.plain_set_update_loop _,ih (i + 1) _ (by omega) lt (W.frame _ s' _ _ st' (Nat.le_add_right _ _) fun b hb o e=>?_) kp2 ⟨L',es',ep',t',T2,g.next hp c1 c2⟩ fun s2 L2 es2 ep2 t2 m2 T3 g2 k2=>?_⟩
  ·rw [sb.2 b (fun z:b=S=>hS (by rw [← z];exact hb))];exact e
  ·refine q s2 L2 es2 ep2 t2 (Moved.trans W.gtrans ((m.mono sub).then_heap (Nat.le_add_right _ _) fun b o hb e=>?_) m2) T3 g2 k2
   rw [sb.2 b (fun z:b=S=>hb (by rw [z];exact List.mem_cons_self))];exact e
theorem set_call {l:Addr} {items:Array Value} (ks:List (Addr×NestedKey)) {Q:Value→Shared→Prop} (hh:A.handled=none) (hl:s.heap.IsList l items) (hit:items.toList=ks.map fun p=>Value.ref p.1) (hk:∀ p∈ks,KA P w s.heap p.2 p.1) (few:ks.length≤1228) (hu:A.units + 20<cLine)
  (h:∀ (h':Heap) (tk:Nat) L es ep t,TSR P w h' s.heap.objs.size L es ep t→Has ks ks.length L→(∀ b o,s.heap.get? b=some o→h'.get? b=some o)→Q (.ref s.heap.objs.size) { s with heap:=h',toks:=tk }) :
  wpAny (model P w) A (call (.type "set") [.ref l]) Q E s:=by
 have nIt:items.size=ks.length:=by
  have:=congrArg List.length hit
  rw [Array.length_toList,List.length_map] at this
  exact this
 obtain ⟨c,tl,hmro⟩:=F.called_set.mro
 have hmade:=F.called_set.made
 have hsub:=F.called_set.sub
 refine wpAny_call (codeAny_of_tree (show wpAny _ _ (callAny (.type "set") _) _ _ _ from wpAny_pure ⟨Code.quiet_builtin _ (by decide +kernel),codeAny_builtin F.entry_type_call ?_⟩))
 rw [Around.under_plain (weight_type_call_type "set" [.ref l] []) rfl]
 have nt:=F.called_set.notType
 have cc:=F.called_set.canCreate
 have tc:=F.typeCall_set_1 (.ref l)
 repeat (any_goals (first | assumption | wp_step))
 refine codeAny_mono (code_set_led1 (.ref l) (E:=E) (Q₁:=fun ob t=>ob=.ref s.heap.objs.size∧t={ s with heap:=s.heap.push (FcS.set0 w) }) ⟨rfl,rfl⟩) fun res s1 hr=>?_
 cases res with
 | error e=>exact hr
 | ok fl =>
  cases fl with
  | ret ob =>
   obtain ⟨rfl,rfl⟩:=hr
   have g0:(s.heap.push (FcS.set0 w)).get? s.heap.objs.size=some (FcS.set0 w):=Heap.get?_push_size _ rfl
   have t0:Shared.TypeIs { s with heap:=s.heap.push (FcS.set0 w) } (.ref s.heap.objs.size) "set":=⟨_,g0,rfl⟩
   have il:=F.called_set.init.lookup
   have ib:=F.called_set.init.bind (.ref s.heap.objs.size)
   repeat (any_goals (first | assumption | wp_step))
   refine codeAny_mono (codeAny_call_builtin (R:=wants (fun r t=>r=.none∧∃ h' tk L es ep tb,t={ s with heap:=h',toks:=tk }∧TSR P w h' s.heap.objs.size L es ep tb∧Has ks ks.length L ∧
     (∀ b o,s.heap.get? b=some o→h'.get? b=some o)) E) F.called_set.init.plain F.entry_set_init (check_set_init_1 t0 ?_)) fun r2 s2 hr2=>?_
   ·obtain ⟨ol,ho,hcl,nl,hdl⟩:=hl
    obtain ⟨ocls,odict,odata,oslots⟩:=ol
    simp only at hcl hdl
    subst hcl;subst hdl
    have ho1:(s.heap.push (FcS.set0 w)).get? l=some { cls:=.type "list",dict:=odict,data:=.seq items nl,slots:=oslots }:=Heap.get?_push_of_some _ ho
    have q1:=F.sub_list_set
    have q2:=F.sub_list_frozenset
    have ne:(Value.type "list" == Value.type "dict")=false:=by decide
    have hl1:(s.heap.push (FcS.set0 w)).IsList l items:=⟨_,ho1,rfl,nl,rfl⟩
    unfold Builtin.«set.__init__» noKeywords Builtin.Frozenset.updateFrom
    generalize hPI:pyIter=PI
    wp_walk
    subst hPI
    refine wpAny_pyIter_list hl1 (wpAny_bind (wpAny_runValue ?_))
    have ls:l<s.heap.objs.size:=Heap.lt_size ho
    have h3:A.in1.in1.in1.handled=none:=by simp [hh]
    have zz:(s.heap.push (FcS.set0 w)).objs.size=s.heap.objs.size + 1:=Heap.size_push ..
    have neI:l≠(s.heap.push (FcS.set0 w)).objs.size:=by rw [zz];exact Nat.ne_of_lt (Nat.lt_succ_of_lt ls)
    have nf:s.heap.objs.size ∉ [(s.heap.push (FcS.set0 w)).objs.size,l]:=by
     rw [zz]
     simp only [List.mem_cons,List.not_mem_nil,or_false,not_or]
     exact ⟨Nat.ne_of_lt (Nat.lt_succ_self _),Nat.ne_of_gt ls⟩
    have val:∀ (i:Nat) (v:Value),items[i]?=some v→∃ p,ks[i]?=some p∧v=.ref p.1:=fun i v hv=>by
     have hv:items.toList[i]?=some v:=by rw [Array.getElem?_toList];exact hv
     rw [hit,List.getElem?_map] at hv
     obtain ⟨p,e1,e2⟩:=Option.map_eq_some_iff.mp hv
     exact ⟨p,e1,e2.symm⟩
    have high:∀ b,s.heap.objs.size≤b→s.heap.get? b=none:=fun b hb=>by
     cases q:s.heap.get? b with
     | none=>rfl
     | some o=>exact absurd (Nat.lt_of_lt_of_le (Heap.lt_size q) hb) (Nat.lt_irrefl _)
    refine fill_set ((Walks.list h3 _ l neI items).toS) s.heap.objs.size nf ks nIt few val s.heap hk (high _ (Nat.le_refl _)) (fun b hb=>high b (by rw [List.mem_singleton.mp hb,zz];exact Nat.le_succ _)) (by simp;omega) (items.size - 0) 0 _ (by omega) (Nat.zero_le _) ⟨⟨_,Heap.get?_push_size _ rfl,rfl,rfl⟩,(hl1.push _)⟩
     (fun b o e=>Heap.get?_push_of_some _ (Heap.get?_push_of_some _ e)) ⟨[],#[],0,_,tsr_new (Heap.get?_push_of_some _ g0),⟨fun p hp=>(nomatch hp),fun p hp=>(by simp at hp),Nat.le_refl _⟩⟩ ?_
    intro s' L es ep tb m T g kp
    obtain ⟨h',g2,d',tk',os'⟩:=s'
    have e1:g2=s.gens:=m.gens
    have e2:d'=s.drawn:=m.drawn
    have e3:os'=s.os:=m.os
    subst e1;subst e2;subst e3
    rw [nIt] at g
    show wpAny _ _ _ _ _ _
    exact wpAny_pure (show wpAny _ _ (ret Value.none) _ _ _ from wpAny_pure ⟨rfl,h',tk',L,es,ep,tb,rfl,T,g,kp⟩)
   ·cases r2 with
    | error e=>exact hr2
    | ok fl2 =>
     cases fl2 with
     | ret r =>
      obtain ⟨rfl,h',tk,L,es,ep,tb,rfl,T,g,kp⟩:=hr2
      repeat (any_goals (first | assumption | wp_step))
      exact h _ _ _ _ _ _ T g kp
     | _=>exact hr2.elim
  | _=>exact hr.elim
end
structure TS0 (w:World) (h:Heap) (a:Addr) (L:List (Addr×NestedKey)):Prop where
 ex:∃ (es:Array (Int×Value)) (ep:Nat) (t:SetTable),(∃ o,h.get? a=some o∧o.ExactSet∧o.data=.set es ep t)∧es.toList=rowsK w L∧Tb t (L.map fun p=>p.2.hash w)∧(L.map (·.2)).Nodup∧L.length * 5<t.mask * 3∧(w.params.followText "set-order"=true∨t.led=true)
def TSO (w:World) (a:Addr) (L:List (Addr×NestedKey)):HO:=.ext fun h=>TS0 w h a L
def TsD (w:World) (K:PySem.W.Frag) (H:Hp) (a:Addr) (L:List (Addr×NestedKey)):Prop:=H a=some (TSO w a L)∧∀ p∈L,FcN.NkT K H p.1 p.2
theorem tso_new {P:Program} {w:World} {H:Hp} {h:Heap} {a:Addr} {L:List (Addr×NestedKey)} {es:Array (Int×Value)} {ep:Nat} {t:SetTable} (R:TSR P w h a L es ep t):ObjOk P w H h a (TSO w a L):=by
 obtain ⟨o,ho,r⟩:=R.ob
 refine ⟨⟨es,ep,t,⟨o,ho,r⟩,R.rows,R.tab,R.nd,R.room,R.led⟩,⟨o,ho⟩,fun h1 h2 p k=>?_⟩
 have ⟨es',ep',t',⟨o',ho',r'⟩,q'⟩:=TS0.ex p
 exact ⟨es',ep',t',⟨o',k o' ho',r'⟩,q'⟩
section
variable {X:Cx}
theorem nk_at {pins:List (Addr×Obj)} {σ:L2.St} {H:Hp} {s:Shared} {b:Addr} {k:NestedKey} (I:Inv X pins σ H s) (h:FcN.NkT X.K H b k):KA X.prog X.w s.heap k b:=FcN.key_is I h
theorem ts_at {pins:List (Addr×Obj)} {σ:L2.St} {H:Hp} {s:Shared} {a:Addr} {L:List (Addr×NestedKey)} (I:Inv X pins σ H s) (h:TsD X.w X.K H a L):∃ es ep t,TSR X.prog X.w s.heap a L es ep t:=by
 have R:TS0 X.w s.heap a L:=(show ObjOk X.prog X.w H s.heap a (TSO X.w a L) from I.hok _ _ h.1).1
 obtain ⟨es,ep,t,h1,h2,h3,h4,h5,h6⟩:=R.ex
 exact ⟨es,ep,t,h1,h2,h3,h4,fun p hp=>nk_at I (h.2 p hp),h5,h6⟩
theorem refs_eq:∀ {ks:List (Addr×NestedKey)} {us:List Value},Vals (ks.map fun p=>V.ref p.1) us→us=ks.map fun p=>Value.ref p.1
 | [],_,.nil=>rfl
 | p::ks,_,.cons r t=>by
  cases r
  rw [refs_eq t]<;>rfl
def rSetN (K:PySem.W.Frag) (w:World):List V→Hp→VK→Prop:=fun xs H Q=>∃ (l:Addr) (ks:List (Addr×NestedKey)),xs=[V.ref l]∧SqL K H l (ks.map fun p=>V.ref p.1)∧(∀ p∈ks,FcN.NkT K H p.1 p.2)∧ks.length≤1228 ∧
 ∀ a L,H a=none→(∀ p∈L,p∈ks)→(∀ p∈ks,p.2∈L.map (·.2))→(L.map (·.2)).Nodup→L.length≤ks.length→Q (.ref a) (upd H a (TSO w a L))
theorem cr_setN (hc:X.calm=true) (hu:X.A.units + 100<cLine):CallR X (.type "set") (rSetN X.K X.w):=by
 intro pins s σ H xs us Q I r h
 obtain ⟨l,ks,rfl,hl,hk,hf,q⟩:=h
 rw [Vals.ref1 r]
 obtain ⟨its,rv,pl,hz⟩:=I.list hl
 have hn:H s.heap.objs.size=none:=I.hok.fresh (Nat.le_refl _)
 refine set_call (P:=X.prog) (w:=X.w) ks (I.ok.hd hc) pl.isList (by simpa using refs_eq rv) (fun p hp=>nk_at I (hk p hp)) hf (by omega) fun h' tk L es ep t R g k=>?_
 refine ⟨.ref s.heap.objs.size,upd H s.heap.objs.size (TSO X.w s.heap.objs.size L),I.laid (t':=tk) k (Nat.le_refl _) (tso_new R),rfl,q _ L hn (fun p hp=>List.mem_of_mem_take (g.sub p hp)) (fun p hp=>g.all p (by rw [List.take_length];exact hp)) R.nd g.len⟩
end
section
variable {P:Program} {w:World} {A:Around} {E:Value→Shared→Prop} {s:Shared} {a:Addr} {L:List (Addr×NestedKey)} {es:Array (Int×Value)} {ep:Nat} {t:SetTable}
theorem TSR.ty (R:TSR P w s.heap a L es ep t):s.TypeIs (.ref a) "set":=let ⟨o,ho,hc,_⟩:=R.ob;⟨o,ho,hc.1⟩
end
section
variable {X:Cx}
end
end FcT
set_option maxRecDepth 100000
set_option maxHeartbeats 4000000
namespace FcT
open PySem PySem.Spec PyProof.Rows L2
mutual
def nkD:NestedKey→PyData
 | .none=>.none
 | .num i=>.int i
 | .text x=>.str x
 | .tup ks=>.tuple (nkDs ks)
def nkDs:List NestedKey→List PyData
 | []=>[]
 | k::ks=>nkD k::nkDs ks
end
mutual
theorem nk_dp {K:PySem.W.Frag} {H:Hp}:∀ {k:NestedKey} {v:V},FcN.NkV K H k v→Dp K H v (nkD k)
 | _,_,.num i=>.int i
 | _,_,.text x=>.str x
 | _,_,.tup h r=>.tup h (nk_dps r)
theorem nk_dps {K:PySem.W.Frag} {H:Hp}:∀ {ks:List NestedKey} {vs:List V},FcN.NkAll K H ks vs→DpAll K H vs (nkDs ks)
 | _,_,.nil=>.nil
 | _,_,.cons h r=>.cons (nk_dp h) (nk_dps r)
end
section
variable {h:Heap}
mutual
theorem nk_noA:∀ {k:NestedKey} {u:Value} {as:List Addr},Reads h u (nkD k) as→as=[]
 | .none,_,_,r=>by cases r;rfl
 | .num i,_,_,r=>by cases r;rfl
 | .text x,_,_,r=>by cases r;rfl
 | .tup ks,_,_,r=>by
  cases r with
  | tuple _ _ _ r4=>exact nk_noAs r4
theorem nk_noAs:∀ {ks:List NestedKey} {us:List Value} {as:List Addr},ReadsAll h us (nkDs ks) as→as=[]
 | [],_,_,r=>by cases r;rfl
 | k::ks,_,_,r=>by
  cases r with
  | cons h1 h2=>rw [nk_noA h1,nk_noAs h2]<;>rfl
end
end
abbrev KD:=Addr×NestedKey
def leK (x y:KD):Bool:=PySem.W.dataLe false (fun p:KD=>nkD p.2) x y
def rSortTs (w:World) (K:PySem.W.Frag):List V→Hp→VK→Prop:=fun vs H Q=>∃ (a:Addr) (L:List KD),vs=[.ref a]∧TsD w K H a L∧L.length≤1228∧(∀ p∈L,(nkD p.2).depth≤60∧∃ x xs,nkD p.2=.tuple (x::xs))∧(∀ p∈L,∀ q∈L,PySem.W.alike (nkD p.2) (nkD q.2)=true) ∧
 ∀ (M:List KD) p,M.Perm L→H p=none→Q (.ref p) (upd H p (.lst ((M.mergeSort leK).map fun q=>V.ref q.1)))
theorem perm_refs:∀ {vs:List Value} {L:List KD},vs.Perm (L.map fun p=>Value.ref p.1)→∃ M:List KD,vs=(M.map fun p=>Value.ref p.1)∧M.Perm L:=by
 intro vs L h
 generalize e:(L.map fun p=>Value.ref p.1)=us at h
 induction h generalizing L with
 | nil=>exact ⟨[],rfl,by cases L with | nil=>exact .nil | cons a b=>cases e⟩
 | @cons x l1 l2 h ih =>
  cases L with
  | nil=>cases e
  | cons p L =>
   injection e with e1 e2
   obtain ⟨M,m1,m2⟩:=ih e2
   subst e1
   exact ⟨p::M,by rw [List.map_cons,← m1],m2.cons p⟩
 | @swap x y l =>
  cases L with
  | nil=>cases e
  | cons p L =>
   cases L with
   | nil=>cases e
   | cons q L =>
    injection e with e1 e2
    injection e2 with e2 e3
    subst e1
    subst e2
    exact ⟨q::p::L,by rw [List.map_cons,List.map_cons,e3],.swap p q L⟩
 | trans h1 h2 ih1 ih2 =>
  obtain ⟨M,m1,m2⟩:=ih2 e
  obtain ⟨N,n1,n2⟩:=ih1 m1.symm
  exact ⟨N,n1,n2.trans m2⟩
section
variable {X:Cx}
theorem cr_sortTs {k:Nat} (hc:X.calm=true) (hr:Room k X.A):CallR X (.builtin "sorted") (rSortTs X.w X.K):=by
 intro pins s σ H vs us Q I r h
 obtain ⟨a,L,rfl,hd,hl,hk,hal,q⟩:=h
 rw [Vals.ref1 r]
 obtain ⟨es,ep,t,R⟩:=ts_at I hd
 obtain ⟨o,ho,hex,hdt⟩:=R.ob
 have sz:=rowsK_len R.rows
 refine Calls.call_function_entry kind_sorted plain_sorted entry_sorted (args_sorted1 _) ?_
 unfold Builtin.«sorted»
 refine wpAny_bind (m:=checkCount "sorted" 1 1 _) (wpAny_pure ?_)
 refine wpAny_bind (collect_set (A:=X.A.in1) (I.ok.hd hc) ⟨o,ho,hex.1,hdt⟩ R.fits (by unfold scanBound;omega) R.tab.ris R.led fun s1 vs kk hz gg oo pm=>?_)
 have er:es.toList.map (·.2)=L.map fun p=>Value.ref p.1:=by
  rw [R.rows]
  unfold rowsK
  rw [List.map_map]<;>rfl
 rw [er] at pm
 obtain ⟨M,rfl,pM⟩:=perm_refs pm
 have lM:M.length≤sizeLine:=by rw [pM.length_eq,sizeLine_eq];omega
 refine wpAny_bind (wpAny_newList ?_ (by rw [List.length_map];exact lM))
 have hn:(s1.heap.push { cls:=.type "list",data:=.seq (M.map fun p=>Value.ref p.1).toArray }).get? s1.heap.objs.size=some (seqObj "list" (M.map fun p=>Value.ref p.1).toArray 0):=Heap.get?_push_size _ rfl
 have kb:∀ b ob,s.heap.get? b=some ob→(s1.heap.push { cls:=.type "list",data:=.seq (M.map fun p=>Value.ref p.1).toArray }).get? b=some ob:=fun b ob e=>Heap.get?_push_of_some _ (kk b ob e)
 have hlb:∀ b ob,s.heap.get? b=some ob→b≠s1.heap.objs.size:=fun b ob e=>Nat.ne_of_lt (Heap.lt_size (kk b ob e))
 generalize hh2:s1.heap.push { cls:=.type "list",data:=.seq (M.map fun p=>Value.ref p.1).toArray }=h2 at hn kb
 have rd:∀ p∈M,∃ as,Reads h2 (Value.ref p.1) (nkD p.2) as∧s1.heap.objs.size ∉ as:=fun p hp=>by
  have dk:=nk_dp (hd.2 p (pM.mem_iff.mp hp)).1
  obtain ⟨as,ra⟩:=Dp.reads I (nkD p.2) (.ref p.1) (.ref p.1) dk rfl
  have ra2:=PyProof.Rows.Reads.keeps (fun b ob z=>kb b ob z) ra
  refine ⟨as,ra2,fun z=>?_⟩
  rw [nk_noA ra2] at z
  exact nomatch z
 show wpAny _ _ (holding _ (call (.builtin "list.sort") [.ref s1.heap.objs.size]) >>= _) _ _ _
 refine wpAny_bind (wpAny_holding (PySem.W.list_sort_data (A:=X.A.in1) (R:=fun v (b:KD)=>v=Value.ref b.1) (enc:=fun p:KD=>nkD p.2) (bs:=M) (s:={ s1 with heap:=h2 }) hn
  (FcW.each_of (f:=fun p:KD=>p.1) M fun _ _=>rfl) (FcW.each_of (f:=fun p:KD=>p.1) M fun p hp=>rd p hp) (fun x0 hx0 y0 hy0=>?_) (.inl fun dd hdd=>?_) lM (fun b hb=>?_) fun out ol eo=>?_))
 ·obtain ⟨x,hx,rfl⟩:=List.mem_map.mp hx0
  obtain ⟨y,hy,rfl⟩:=List.mem_map.mp hy0
  exact hal x (pM.mem_iff.mp hx) y (pM.mem_iff.mp hy)
 ·obtain ⟨x,hx,rfl⟩:=List.mem_map.mp hdd
  exact (hk x (pM.mem_iff.mp hx)).2
 ·have:=hr.un
  have:=(hk b (pM.mem_iff.mp hb)).1
  show X.A.in1.units + 1 + (nkD b.2).depth<cLine
  have e2:X.A.in1.units=X.A.units + 1:=rfl
  omega
 ·have eo':=FcW.each_refs (f:=fun p:KD=>p.1) eo
  obtain ⟨eF,heF⟩:=PyProof.Rows.sortedHeap_at (out:=List.toArray out) hn
  have hn0:H s1.heap.objs.size=none:=I.hok.fresh hz
  have ml:(M.mergeSort leK).length=M.length:=List.length_mergeSort _
  have kF:∀ b ob,s.heap.get? b=some ob→(PyProof.Rows.sortedHeap h2 s1.heap.objs.size (M.map fun p=>Value.ref p.1) out.toArray).get? b=some ob:=fun b ob z=>(PyProof.Rows.sortedHeap_old (hlb b ob z) (Heap.lt_size (kb b ob z))).trans (kb b ob z)
  have vv:Vals ((M.mergeSort leK).map fun p=>V.ref p.1) out:=by
   rw [eo']
   have z:=FcW.vals_refs ((M.mergeSort leK).map fun p=>p.1)
   rw [List.map_map,List.map_map] at z
   exact z
  have J:Inv X pins σ (upd H s1.heap.objs.size (.lst ((M.mergeSort leK).map fun p=>V.ref p.1))) { s with heap:=PyProof.Rows.sortedHeap h2 s1.heap.objs.size (M.map fun p=>Value.ref p.1) out.toArray,gens:=s1.gens,drawn:=s1.drawn,toks:=s1.toks } :=
   I.call (ch:=[]) (Un.laid kF hz hn0) (I.hok.laid kF hz ⟨by rw [List.length_map,ml];exact lM,out,eF,vv,heF⟩) (by rw [gg];exact I.bare) (fun _ z=>nomatch z)
  refine wpAny_pure ⟨_,rfl,?_⟩
  have e:({ s1 with heap:=PyProof.Rows.sortedHeap h2 s1.heap.objs.size (M.map fun p=>Value.ref p.1) out.toArray }:Shared)={ s with heap:=PyProof.Rows.sortedHeap h2 s1.heap.objs.size (M.map fun p=>Value.ref p.1) out.toArray,gens:=s1.gens,drawn:=s1.drawn,toks:=s1.toks }:=by
   cases s1
   cases s
   cases oo
   rfl
  show EP X pins σ Q _ _
  rw [e]
  exact ⟨.ref s1.heap.objs.size,_,J,rfl,q M _ pM hn0⟩
end
end FcT
set_option maxRecDepth 100000
set_option maxHeartbeats 4000000
namespace Fc
open PySem PySem.Spec PyProof.Rows L2 FcR
open Evl (Ex)
section
def TT (K:PySem.W.Frag) (H H':Hp):Prop:=∀ b l,SqT K H b l→SqT K H' b l
theorem TT.ex {K:PySem.W.Frag} {H H':Hp} (e:Ex H H'):TT K H H':=fun _ _ h=>Evl.ex_t e h
theorem TT.trans {K:PySem.W.Frag} {H H' H'':Hp} (a:TT K H H') (b:TT K H' H''):TT K H H'':=fun _ _ h=>b _ _ (a _ _ h)
theorem TT.lst {K:PySem.W.Frag} {H H':Hp} {p:Addr} {d:List V} (e:H p=some (.lst d)) (x:∀ b o,b≠p→H b=some o→H' b=some o):TT K H H':=fun b l h=>by
 rcases h with h | h
 ·refine .inl ?_
  rcases h with h | ⟨ob,h⟩
  ·exact .inl (x _ _ (ne_of h e (fun z=>nomatch z)) h)
  ·exact .inr ⟨ob,x _ _ (ne_of h e (fun z=>nomatch z)) h⟩
 ·exact .inr h
end
section
open FcM (Way Node Tab)
theorem wyR_dp {K:PySem.W.Frag} {H:Hp} {bs:List Addr} {vs:List Way} (h:Paired (fun b v=>SqT K H b ((wk v).map kV)) bs vs):DpAll K H (bs.map V.ref) (vs.map fun v=>FcW.keyD (wk v)):=by
 induction h with
 | nil=>exact .nil
 | cons z _ ih=>exact .cons (FcW.dp_key z) ih
theorem wyR_can (vs:List Way):PyData.canLayAll0 (vs.map fun v=>FcW.keyD (wk v))=true:=by
 induction vs with
 | nil=>rfl
 | cons v vs ih =>
  show (PyData.canLay0 (FcW.keyD (wk v)) && PyData.canLayAll0 (vs.map fun v=>FcW.keyD (wk v)))=true
  rw [can_wk,ih]<;>rfl
theorem wyR_any (vs:List Way) (u:Way):((vs.map fun v=>FcW.keyD (wk v)).any fun z=>PyData.eqv z (FcW.keyD (wk u)))=decide (u∈vs):=by
 rw [List.any_map]
 by_cases e:u∈vs
 ·rw [decide_eq_true e]
  exact List.any_eq_true.mpr ⟨u,e,by show PyData.eqv _ _=true;rw [eqv_wk];exact decide_eq_true rfl⟩
 ·rw [decide_eq_false e]
  exact Bool.eq_false_iff.mpr fun z=>by
   obtain ⟨v,h1,h2⟩:=List.any_eq_true.mp z
   have:v=u:=of_decide_eq_true ((eqv_wk v u).symm.trans h2)
   exact e (this ▸ h1)
end
section
open FcM (Way Node Tab)
theorem datW (v:Way):PyData.canLay0 (FcW.keyD (wk v))=true:=can_wk v
def WyLs (K:PySem.W.Frag) (H:Hp) (a:Addr) (as:List Addr) (Ws:List (List Way)):Prop:=H a=some (.lst (as.map V.ref))∧Paired (fun l ws=>WyL K H l ws) as Ws
theorem paired_app11 {α β:Type} {R:α→β→Prop} {xs xs':List α} {ys ys':List β} (h:Paired R xs ys) (k:Paired R xs' ys'):Paired R (xs++xs') (ys++ys'):=by
 induction h with
 | nil=>exact k
 | cons r t ih=>exact .cons r ih
theorem sum_atL {Ws:List (List Way)} {i:Nat} {ws:List Way} (h:Ws[i]?=some ws):ws.length≤(Ws.map List.length).sum:=by
 induction Ws generalizing i with
 | nil=>simp at h
 | cons x l ih =>
  rw [List.map_cons,List.sum_cons]
  cases i with
  | zero=>cases h;omega
  | succ i=>have:=ih (i:=i) (by simpa using h);omega
def sp_out11 (K:PySem.W.Frag):Sp:=fun vs H Q _=>∃ (v:Way) (b:Addr),vs=[.ref b]∧SqT K H b ((wk v).map kV)∧v≠.cnt 1∧(∀ k,v=.brk k∨v=.cnt k→1≤k)∧∀ (H':Hp) (c:Addr),Ex H H'→SqT K H' c ((wk (outW v)).map kV)→Q (.ref c) H'
def sp_seq11 (K:PySem.W.Frag):Sp:=fun vs H Q _=>∃ (a:Addr) (as:List Addr) (Ws:List (List Way)),vs=[.ref a]∧WyLs K H a as Ws∧(Ws.map List.length).sum≤1000∧Ws.length≤400∧∀ (H':Hp) (l:Addr),Ex H H'→H l=none→WyL K H' l ((sqW Ws).1++(if (sqW Ws).2=true then [.nrm] else []))→Q (.ref l) H'
section
variable {P:Program} {w:World} {h:Heap} {K:PySem.W.Frag} {mg:Str→Option Value} {base:Heap}
abbrev N_law_outside:List Str:=["_law_way"]
theorem sc_law_outside:FnScope N_law_outside ["_law_way"] (defScope sd_law_outside):=⟨rfl,rfl,rfl,by decide +kernel,rfl,by decide +kernel,by decide +kernel⟩
theorem ok_law_outside (T:Tx w h K mg):Ok P w K mg base 1 ("_law_outside",none) ["_law_way"] (sp_out11 K):=by
 obtain ⟨fd,F⟩:=F_law_outside T
 refine ⟨fd,?_,F.bindsN (fun _ _ _ _ _ _ us hl=>match us,hl with | [_],_=>rfl),F.kp⟩
 refine F.ok sc_law_outside (fun vs H Q E h=>?_) (fun cdv A outer s H vs Q E hr h=>?_)
 ·obtain ⟨v,b,rfl,hb,hne,hk,q⟩:=h
  rfl
 ·obtain ⟨v,b,rfl,hb,hne,hk,q⟩:=h
  refine ⟨_,PSs.nox (pss_cons (ps_if (pt_cmpR op_eq (pe_callB call_len_seq rfl (fr_len T) b_len (pa_cons (pv 0) pa_nil)) pe_int (nomark _)) (pss_one (ps_ret (pv 0))) pss_nil) (pss_one (ps_ret (pe_ifExp (pt_cmpR (op_eqM hr) (pv 0) (pe_tup (pa_cons pe_str (pa_cons pe_int pa_nil))) (nomark _)) (pe_tup (pa_cons pe_str pa_nil)) (pe_tup (pa_cons (pe_ix ix_tup (pv 0) pe_int (fun _ _=>rfl)) (pa_cons (pe_op op_sub (pe_ix ix_tup (pv 0) pe_int (fun _ _=>rfl)) pe_int) pa_nil))))))),?_⟩
  match v,hb,hne,hk,q with
  | .nrm,hb,hne,hk,q=>exact ⟨_,rfl,b,_,rfl,.inr hb,rfl,_,rfl,itT rfl ⟨_,rfl,q H b (Evl.Ex.refl _) hb⟩⟩
  | .ret,hb,hne,hk,q=>exact ⟨_,rfl,b,_,rfl,.inr hb,rfl,_,rfl,itT rfl ⟨_,rfl,q H b (Evl.Ex.refl _) hb⟩⟩
  | .rai,hb,hne,hk,q=>exact ⟨_,rfl,b,_,rfl,.inr hb,rfl,_,rfl,itT rfl ⟨_,rfl,q H b (Evl.Ex.refl _) hb⟩⟩
  | .brk 0,hb,hne,hk,q=>exact absurd (hk 0 (.inl rfl)) (by decide)
  | .cnt 0,hb,hne,hk,q=>exact absurd (hk 0 (.inr rfl)) (by decide)
  | .cnt 1,hb,hne,hk,q=>exact absurd rfl hne
  | .brk 1,hb,hne,hk,q =>
   refine ⟨_,rfl,b,_,rfl,.inr hb,rfl,_,rfl,itF rfl ?_⟩
   refine ⟨_,rfl,sz (by simp),?_⟩
   intro p1 n1
   generalize e1:upd _ p1 _=H1
   obtain ⟨x1,s1,o1⟩:=new_of e1 n1
   clear e1
   refine ⟨_,_,FcW.dp_key (k:=wk (.brk 1)) (Evl.ex_t x1 hb),FcW.dp_key (k:=wk (.brk 1)) (show SqT K H1 p1 ((wk (.brk 1)).map kV) from SqT.of s1),datW _,datW _,Nat.le_trans (Nat.min_le_left _ _) (by rw [dep_wk];decide),_,rfl,itT (by rw [eqv_wk];exact decide_eq_true rfl) ⟨sz (by simp),?_⟩⟩
   intro p2 n2
   generalize e2:upd _ p2 _=H2
   obtain ⟨x2,s2,o2⟩:=new_of e2 n2
   clear e2
   exact q H2 p2 (x1.trans x2) (SqT.of s2)
  | .brk (k + 2),hb,hne,hk,q =>
   refine ⟨_,rfl,b,_,rfl,.inr hb,rfl,_,rfl,itF rfl ?_⟩
   refine ⟨_,rfl,sz (by simp),?_⟩
   intro p1 n1
   generalize e1:upd _ p1 _=H1
   obtain ⟨x1,s1,o1⟩:=new_of e1 n1
   clear e1
   have hb1:=Evl.ex_t x1 hb
   refine ⟨_,_,FcW.dp_key (k:=wk (.brk (k + 2))) hb1,FcW.dp_key (k:=wk (.brk 1)) (show SqT K H1 p1 ((wk (.brk 1)).map kV) from SqT.of s1),datW _,datW _,Nat.le_trans (Nat.min_le_left _ _) (by rw [dep_wk];decide),_,rfl,itF (by rw [eqv_wk];exact decide_eq_false (fun z=>by injection z with z;omega)) ?_⟩
   refine ⟨_,rfl,b,_,_,_,rfl,rfl,hb1,at0,_,rfl,b,_,_,_,rfl,rfl,hb1,at1,_,_,rfl,rfl,sz (by simp),?_⟩
   intro p2 n2
   generalize e2:upd _ p2 _=H2
   obtain ⟨x2,s2,o2⟩:=new_of e2 n2
   clear e2
   refine q H2 p2 (x1.trans x2) (SqT.of ?_)
   rw [s2]
   show some (HO.tup [V.str "break",V.int (((k + 2:Nat):Int) - 1)])=_
   have e:((k + 2:Nat):Int) - 1=((k + 1:Nat):Int):=by omega
   rw [e]<;>rfl
  | .cnt (k + 2),hb,hne,hk,q =>
   refine ⟨_,rfl,b,_,rfl,.inr hb,rfl,_,rfl,itF rfl ?_⟩
   refine ⟨_,rfl,sz (by simp),?_⟩
   intro p1 n1
   generalize e1:upd _ p1 _=H1
   obtain ⟨x1,s1,o1⟩:=new_of e1 n1
   clear e1
   have hb1:=Evl.ex_t x1 hb
   refine ⟨_,_,FcW.dp_key (k:=wk (.cnt (k + 2))) hb1,FcW.dp_key (k:=wk (.brk 1)) (show SqT K H1 p1 ((wk (.brk 1)).map kV) from SqT.of s1),datW _,datW _,Nat.le_trans (Nat.min_le_left _ _) (by rw [dep_wk];decide),_,rfl,itF (by rw [eqv_wk];exact decide_eq_false (fun z=>(nomatch z))) ?_⟩
   refine ⟨_,rfl,b,_,_,_,rfl,rfl,hb1,at0,_,rfl,b,_,_,_,rfl,rfl,hb1,at1,_,_,rfl,rfl,sz (by simp),?_⟩
   intro p2 n2
   generalize e2:upd _ p2 _=H2
   obtain ⟨x2,s2,o2⟩:=new_of e2 n2
   clear e2
   refine q H2 p2 (x1.trans x2) (SqT.of ?_)
   rw [s2]
   show some (HO.tup [V.str "continue",V.int (((k + 2:Nat):Int) - 1)])=_
   have e:((k + 2:Nat):Int) - 1=((k + 1:Nat):Int):=by omega
   rw [e]<;>rfl
abbrev N_law_of_seq:List Str:=["_law_some","_law_found","_law_is_open","_law_here","_law_way"]
theorem sc_law_of_seq:FnScope N_law_of_seq ["_law_some"] (defScope sd_law_of_seq):=⟨rfl,rfl,rfl,by decide +kernel,rfl,by decide +kernel,by decide +kernel⟩
theorem ok_law_of_seq (T:Tx w h K mg):Ok P w K mg base 2 ("_law_of_seq",none) ["_law_some"] (sp_seq11 K):=by
 obtain ⟨fd,F⟩:=F_law_of_seq T
 refine ⟨fd,?_,F.bindsN (fun _ _ _ _ _ _ us hl=>match us,hl with | [_],_=>rfl),F.kp⟩
 refine F.ok sc_law_of_seq (fun vs H Q E h=>?_) (fun cdv A outer s H vs Q E hr h=>?_)
 ·obtain ⟨a,as,Ws,rfl,⟨ha,pa⟩,hs,hl,q⟩:=h
  rfl
 ·obtain ⟨a,as,Ws,rfl,⟨ha,pa⟩,hs,hl,q⟩:=h
  refine ⟨_,PSs.nox (pss_cons (ps_par rfl sc_law_of_seq.nd (i:=1) (j:=2) rfl rfl (by decide) rfl rfl (pa_cons (pe_lst pa_nil) (pa_cons pe_bl pa_nil)) (by rfl)) (pss_cons (ps_for PassesOwn.never rfl (pi_list (pv 0)) (pg_name (i:=3) sc_law_of_seq.nd rfl (Or.inl rfl)) (pss_one (ps_if (pt_val (pv 2)) (pss_cons (ps_expr (pe_bm PySem.F.plainAttrs_list PySem.F.slot_list_extend PySem.F.type_list_extend mt_extend (pv 1) (pa_cons (pe_lc (own:=[("_law_way",4)]) rfl sc_law_of_seq.nd (pi_list (pv 3)) (blkOk_by (N:=N_law_of_seq) (sc:=defScope sd_law_of_seq) (by decide +kernel)) (fun _ _ _ _ _=>(pg_name (i:=4) sc_law_of_seq.nd rfl (Or.inl rfl))) (fun _ _ _ _ _=>(pts_one (pt_cmpR (show OpR _ _ (rNeM K) from op_neM hr) (pv 4) (pe_tup (pa_cons pe_str pa_nil)) (nomark _)))) (fun _ _ _ _ _=>(pv 4))) pa_nil))) (pss_one (ps_set (i:=2) sc_law_of_seq.nd rfl (Or.inl rfl) (pe_cmpR (FcW.op_inD hr) (pe_tup (pa_cons pe_str pa_nil)) (pv 3) (by rfl))))) pss_nil))) (pss_one (ps_ret (pe_op op_cat (pv 1) (pe_op op_rep (pe_lst (pa_cons (pe_tup (pa_cons pe_str pa_nil)) pa_nil)) (pe_callTy call_int1 rfl (fr_int T) b_int (pa_cons (pv 2) pa_nil)))))))),?_⟩
  refine ⟨sz (by simp),?_⟩
  intro p1 n1
  generalize e1:upd _ p1 _=H1
  obtain ⟨x1,s1,o1⟩:=new_of e1 n1
  clear e1
  refine ⟨_,_,rfl,?_⟩
  have al:=Paired.length pa
  have a1:a≠p1:=fun z=>by rw [z,n1] at ha;cases ha
  refine ⟨_,rfl,a,rfl,⟨_,Evl.sq_of (x1 _ _ ha)⟩,?_⟩
  refine for_it (walk_list (xs:=as.map V.ref)) (fun i σ' H'=>∃ (bs:List Addr) (fs:List Way) (op:Bool) (o3 o4:Option V),σ'=[some (.ref a),some (.ref p1),some (.bl op),o3,o4]∧H' p1=some (.lst (bs.map V.ref))∧Paired (fun b v=>SqT K H' b ((wk v).map kV)) bs fs∧(fs,op)=(Ws.take i).foldl sqS ([],true)∧∀ b o,b≠p1→H1 b=some o→H' b=some o) ?_ ?_ ?_ ?_
  ·exact ⟨[],[],true,_,_,rfl,s1,.nil,rfl,fun b o _ e=>e⟩
  ·exact fun i σ' H' _ ⟨_,_,_,_,_,_,_,_,_,k⟩=>Evl.sq_of (k _ _ a1 (x1 _ _ ha))
  rotate_left
  ·rintro σ' H2 ⟨bs,fs,op,o3,o4,rfl,l2,P2,e2,k2⟩
   rw [List.length_map,al,List.take_length,sqS_all] at e2
   have ef:fs=(sqW Ws).1:=(congrArg Prod.fst e2).trans (List.nil_append _)
   have eo:op=(sqW Ws).2:=congrArg Prod.snd e2
   have fl:fs.length≤1000:=by
    have:=sqS_len Ws ([],true)
    rw [sqS_all] at this
    have:(sqW Ws).1.length≤0 + (Ws.map List.length).sum:=by simpa using this
    rw [ef];omega
   have bl:=Paired.length P2
   refine ⟨_,rfl,sz (by simp),?_⟩
   intro p3 n3
   generalize e3:upd _ p3 _=H3
   obtain ⟨x3,s3,o3⟩:=new_of e3 n3
   clear e3
   refine ⟨sz (by simp),?_⟩
   intro p4 n4
   generalize e4:upd _ p4 _=H4
   obtain ⟨x4,s4,o4⟩:=new_of e4 n4
   clear e4
   refine ⟨_,rfl,.inr ⟨_,rfl,?_⟩⟩
   have ek:(if op=true then (1:Int) else 0)=((if op=true then 1 else 0:Nat):Int):=by cases op<;>rfl
   rw [ek]
   refine ⟨p4,_,_,rfl,rfl,s4,by omega,by split<;>omega,(by simp;cases op<;>simp [sizeLine_eq]),?_⟩
   intro p5 n5
   generalize e5:upd _ p5 _=H5
   obtain ⟨x5,s5,o5⟩:=new_of e5 n5
   clear e5
   have l5:=x5 _ _ (x4 _ _ (x3 _ _ l2))
   refine ⟨p1,p5,_,_,rfl,rfl,l5,s5,sz (by
    rw [List.length_map]
    have:(List.replicate ((if op=true then 1 else 0:Nat):Int).toNat [V.ref p3]).flatten.length≤1:=by cases op<;>simp
    omega),?_⟩
   intro p6 n6
   generalize e6:upd _ p6 _=H6
   obtain ⟨x6,s6,o6⟩:=new_of e6 n6
   clear e6
   have x25:=x3.trans (x4.trans x5)
   have xH2:Ex H H2:=fun b o e=>k2 b o (fun z=>by rw [z,n1] at e;cases e) (x1 _ _ e)
   refine q H6 p6 (xH2.trans (x25.trans x6)) (ex_none (xH2.trans x25) n6) ?_
   rw [← ef,← eo]
   have P6:=L2.Paired.mapP P2 fun _ _ z=>Evl.ex_t (x25.trans x6) z
   cases op with
   | false=>exact ⟨bs,by rw [s6];simp,by simpa using P6⟩
   | true=>exact ⟨bs++[p3],by rw [s6];simp,Paired.snoc P6 (show SqT K H6 p3 ((wk .nrm).map kV) from SqT.of (x6 _ _ (x5 _ _ (x4 _ _ s3))))⟩
  rintro i v σ' Hq H2 hi ⟨bs,fs,op,o3,o4,rfl,l2,P2,e2,k2⟩ ⟨rfl,hv⟩
  obtain ⟨wl,hwl,rfl⟩:∃ wl,as[i]?=some wl∧v=.ref wl:=by
   rw [List.getElem?_map] at hv
   obtain ⟨d,g1,g2⟩:=Option.map_eq_some_iff.mp hv
   exact ⟨d,g1,g2.symm⟩
  obtain ⟨ws,hws,hW⟩:=paired_get pa hwl
  have tk:Ws.take (i + 1)=Ws.take i++[ws]:=by rw [List.take_succ,hws]<;>rfl
  have st:((Ws.take (i + 1)).foldl sqS ([],true))=sqS (fs,op) ws:=by rw [tk,List.foldl_append,← e2]<;>rfl
  refine ⟨_,rfl,_,rfl,ite_of (fun c=>?_) (fun c=>?_)⟩
  rotate_left
  ·have c:op=false:=by simpa using c
   subst c
   exact ⟨bs,fs,false,_,_,rfl,l2,P2,by rw [st]<;>rfl,k2⟩
  subst c
  have x12:Ex H H2:=fun b o e=>k2 b o (fun z=>by rw [z,n1] at e;cases e) (x1 _ _ e)
  have T2:TT K H H2:=TT.ex x12
  obtain ⟨wbs,w1,w2⟩:=id hW
  have w12:=x12 _ _ w1
  have wlp:wl≠p1:=fun z=>by rw [z,n1] at w1;cases w1
  have fl:fs.length≤1000:=by
   have:=sqS_len (Ws.take i) ([],true)
   rw [← e2] at this
   have h2:((Ws.take i).map List.length).sum≤(Ws.map List.length).sum:=by
    rw [List.map_take]
    have:=List.take_append_drop i (Ws.map List.length)
    rw [← this,List.sum_append]
    rw [List.take_append_drop]
    omega
   have this:fs.length≤0 + ((Ws.take i).map List.length).sum:=this
   omega
  have wsl:ws.length≤1000:=by
   have:=sum_atL hws
   omega
  have bl:=Paired.length P2
  have wbl:=Paired.length w2
  refine ⟨_,rfl,.inl ⟨rfl,_,Evl.sq_of l2⟩,?_⟩
  refine ⟨_,rfl,wl,rfl,⟨_,Evl.sq_of w12⟩,fun D nD=>?_⟩
  have Dp1:D≠p1:=fun z=>by rw [z,l2] at nD;cases nD
  refine lc_it (walk_list (xs:=wbs.map V.ref)) (fun j H'=>∃ (cs:List Addr),H' D=some (.lst (cs.map V.ref))∧Paired (fun b v=>SqT K H2 b ((wk v).map kV)) cs ((ws.take j).filter fun w=>decide (w≠.nrm))∧∀ b o,b≠D→H2 b=some o→H' b=some o) ?_ ?_ ?_ ?_
  ·exact ⟨[],upd_same,.nil,fun b o n e=>by rw [upd_ne n];exact e⟩
  ·exact fun j H' _ ⟨_,_,_,k⟩=>Evl.sq_of (k _ _ (fun z=>by rw [← z,w12] at nD;cases nD) w12)
  ·rintro j v2 Ja Jb hj ⟨cs,lD,PD,kD⟩ ⟨rfl,hv2⟩
   obtain ⟨b,hb,rfl⟩:∃ b,wbs[j]?=some b∧v2=.ref b:=by
    rw [List.getElem?_map] at hv2
    obtain ⟨d,g1,g2⟩:=Option.map_eq_some_iff.mp hv2
    exact ⟨d,g1,g2.symm⟩
   obtain ⟨u,hu,hbu⟩:=paired_get w2 hb
   have tku:ws.take (j + 1)=ws.take j++[u]:=by rw [List.take_succ,hu]<;>rfl
   have xJ:Ex H2 Jb:=fun b o e=>kD b o (fun z=>by rw [z,nD] at e;cases e) e
   have hbJ:SqT K Jb b ((wk u).map kV):=Evl.ex_t (x12.trans xJ) hbu
   have cl:=Paired.length PD
   have flt:=List.length_filter_le (fun w=>decide (w≠Way.nrm)) (ws.take j)
   rw [List.length_take] at flt
   refine ⟨rfl,_,rfl,sz (by simp),?_⟩
   intro p6 n6
   generalize e6:upd _ p6 _=H6
   obtain ⟨x6,s6,o6⟩:=new_of e6 n6
   clear e6
   refine ⟨_,_,FcW.dp_key (k:=wk u) (Evl.ex_t x6 hbJ),FcW.dp_key (k:=wk .nrm) (show SqT K H6 p6 ((wk .nrm).map kV) from SqT.of s6),datW _,datW _,Nat.le_trans (Nat.min_le_left _ _) (by rw [dep_wk];decide),_,rfl,?_⟩
   rw [eqv_wk]
   refine ite_of (fun c=>?_) (fun c=>?_)
   ·have c:u≠.nrm:=fun z=>by rw [z,decide_eq_true rfl] at c;cases c
    refine ⟨_,rfl,_,x6 _ _ lD,szl (by rw [List.length_map];omega),cs++[b],by rw [upd_same,List.map_append]<;>rfl,?_,fun b o n e=>by rw [upd_ne n];exact x6 _ _ (kD b o n e)⟩
    rw [tku,List.filter_append,List.filter_cons_of_pos (by simp [c]),List.filter_nil]
    exact Paired.snoc PD (Evl.ex_t x12 hbu)
   ·have c:u=.nrm:=by
     by_cases z:u=.nrm
     ·exact z
     ·rw [decide_eq_false z] at c;cases c
    refine ⟨cs,x6 _ _ lD,?_,fun b o n e=>x6 _ _ (kD b o n e)⟩
    rw [tku,List.filter_append,List.filter_cons_of_neg (by simp [c]),List.filter_nil,List.append_nil]
    exact PD
  rintro H7 ⟨cs,l7,P7,k7⟩
  have wbl2:(wbs.map V.ref).length=ws.length:=by rw [List.length_map];exact wbl
  rw [wbl2,List.take_length] at P7
  have cl:=Paired.length P7
  have flt:=List.length_filter_le (fun w=>decide (w≠Way.nrm)) ws
  have l72:=k7 _ _ (fun z=>Dp1 z.symm) l2
  have x27:Ex H2 H7:=fun b o e=>k7 b o (fun z=>by rw [z,nD] at e;cases e) e
  refine ⟨p1,D,_,_,rfl,rfl,l72,l7,sz (by rw [List.length_map,List.length_map];omega),?_⟩
  generalize e8:upd _ p1 _=H8
  obtain ⟨s8,o8⟩:=set_of e8
  clear e8
  have k28:∀ b o,b≠p1→H2 b=some o→H8 b=some o:=fun b o n e=>by rw [o8 b n];exact x27 _ _ e
  have T28:TT K H2 H8:=(TT.ex x27).trans (TT.lst l72 fun b o n e=>by rw [o8 b n];exact e)
  have x8:Ex H H8:=fun b o e=>k28 b o (fun z=>by rw [z,n1] at e;cases e) (x12 _ _ e)
  refine ⟨sz (by simp),?_⟩
  intro p9 n9
  generalize e9:upd _ p9 _=H9
  obtain ⟨x9,s9,o9⟩:=new_of e9 n9
  clear e9
  refine ⟨_,rfl,_,_,FcW.dp_key (k:=wk .nrm) (show SqT K H9 p9 ((wk .nrm).map kV) from SqT.of s9),.lst (Evl.sq_of (x9 _ _ (x8 _ _ w1))) (wyR_dp (L2.Paired.mapP w2 fun _ _ z=>Evl.ex_t (x8.trans x9) z)),datW _,wyR_can _,(Nat.le_trans (Nat.min_le_right _ _) (by rw [dep_wk];decide)),?_⟩
  rw [wyR_any]
  refine ⟨bs++cs,fs++ws.filter (fun w=>decide (w≠.nrm)),decide (Way.nrm∈ws),_,_,rfl,?_,?_,?_,fun b o n e=>x9 _ _ (k28 b o n (k2 b o n e))⟩
  ·rw [x9 _ _ s8,List.map_append]
  ·exact paired_app11 (L2.Paired.mapP P2 fun _ _ z=>Evl.ex_t x9 (T28 _ _ z)) (L2.Paired.mapP P7 fun _ _ z=>Evl.ex_t x9 (T28 _ _ z))
  ·rw [st]<;>rfl
end
end
section
open FcM (Way Node Tab)
def kN:Key→NestedKey
 | .inl i=>.num i
 | .inr x=>.text x
def wyK (w:Way):NestedKey:=.tup ((wk w).map kN)
theorem nk_kV {K:PySem.W.Frag} {H:Hp}:∀ k:Key,FcN.NkV K H (kN k) (kV k)
 | .inl i=>.num i
 | .inr x=>.text x
theorem nk_kVs {K:PySem.W.Frag} {H:Hp}:∀ ks:List Key,FcN.NkAll K H (ks.map kN) (ks.map kV)
 | []=>.nil
 | k::ks=>.cons (nk_kV k) (nk_kVs ks)
theorem dep_kN:∀ ks:List Key,NestedKey.depthAll (ks.map kN)=0
 | []=>rfl
 | .inl i::ks=>by have:=dep_kN ks;simp only [List.map_cons,NestedKey.depthAll,kN,NestedKey.depth] at this ⊢;omega
 | .inr x::ks=>by have:=dep_kN ks;simp only [List.map_cons,NestedKey.depthAll,kN,NestedKey.depth] at this ⊢;omega
theorem kN_inj:∀ {a b:Key},kN a=kN b→a=b
 | .inl i,.inl j,h=>by injection h with h;rw [h]
 | .inr i,.inr j,h=>by injection h with h;rw [h]
 | .inl i,.inr j,h=>nomatch h
 | .inr i,.inl j,h=>nomatch h
theorem kNs_inj:∀ {a b:List Key},a.map kN=b.map kN→a=b
 | [],[],_=>rfl
 | [],y::b,h=>nomatch h
 | x::a,[],h=>nomatch h
 | x::a,y::b,h=>by
  rw [List.map_cons,List.map_cons] at h
  obtain ⟨h1,h2⟩:=List.cons.inj h
  rw [kN_inj h1,kNs_inj h2]
theorem wyK_inj {a b:Way} (h:wyK a=wyK b):a=b:=by
 unfold wyK at h
 injection h with h
 exact wk_inj (kNs_inj h)
end
section
open FcM (Way Node Tab)
theorem nkD_wy (v:Way):FcT.nkD (wyK v)=FcW.keyD (wk v):=by cases v<;>rfl
theorem nk_wy {K:PySem.W.Frag} {H:Hp} {b:Addr} {v:Way} (h:SqT K H b ((wk v).map kV)):FcN.NkT K H b (wyK v):=by
 refine ⟨.tup h (nk_kVs _),?_⟩
 have:=dep_kN (wk v)
 simp only [wyK,NestedKey.depth]
 omega
theorem srt_ts {M:List FcT.KD} {ws:List Way} (h:M.map (·.2)=ws.map wyK):(M.mergeSort FcT.leK).map (·.2)=(ws.mergeSort leW).map wyK:=by
 have m1:=List.map_mergeSort (r:=FcT.leK) (s:=fun a b:NestedKey=>PySem.W.dataLe false (fun k=>FcT.nkD k) a b) (f:=fun e:FcT.KD=>e.2) (l:=M) (fun a _ b _=>rfl)
 have m2:=List.map_mergeSort (r:=leW) (s:=fun a b:NestedKey=>PySem.W.dataLe false (fun k=>FcT.nkD k) a b) (f:=wyK) (l:=ws) (fun a _ b _=>by
  show PySem.W.dataLe false (fun v:Way=>FcW.keyD (wk v)) a b=PySem.W.dataLe false (fun k=>FcT.nkD k) (wyK a) (wyK b)
  simp only [PySem.W.dataLe,PySem.W.sortLe,nkD_wy])
 rw [m1,h,m2]
theorem keys_ws:∀ {M:List FcT.KD},(∀ p∈M,∃ v,p.2=wyK v)→∃ ws:List Way,M.map (·.2)=ws.map wyK
 | [],_=>⟨[],rfl⟩
 | p::M,h=>by
  obtain ⟨v,e⟩:=h p List.mem_cons_self
  obtain ⟨ws,e2⟩:=keys_ws fun q hq=>h q (List.mem_cons_of_mem _ hq)
  exact ⟨v::ws,by rw [List.map_cons,List.map_cons,e,e2]⟩
def kindLf:Node→Option Way
 | .ret=>some .ret
 | .rai=>some .rai
 | .brk k=>some (.brk k)
 | .cnt k=>some (.cnt k)
 | _=>none
def sp_byp (K:PySem.W.Frag):Sp:=fun vs H Q _=>∃ (nd:Node) (t sa:Addr) (rest:List V) (as:List Addr) (g:Nat→List Way) (tw:Tw),vs=[.ref t,.ref sa]∧SqT K H t (.str (kindN nd)::rest)∧(∀ u,kindLf nd=some u→SqT K H t ((wk u).map kV))∧WyLs K H sa as (nd.ch.map g)∧(nd.ch.map fun c=>(g c).length).sum≤900∧nd.ch.length≤400∧(∀ c∈nd.ch,∀ v∈g c,∀ k,v=.brk k∨v=.cnt k→1≤k)∧NdK tw∧(∀ u,u∈byW nd g ↔ u∈srtW tw) ∧
 ∀ (H':Hp) (l:Addr),Ex H H'→H l=none→WyL K H' l (srtW tw)→Q (.ref l) H'
section
variable {P:Program} {w:World} {h:Heap} {K:PySem.W.Frag} {mg:Str→Option Value} {base:Heap}
abbrev N_law_by_parts:List Str:=["_law_statement_here","_law_some","_law_kind","_law_found","_law_way"]
theorem sc_law_by_parts:FnScope N_law_by_parts ["_law_statement_here","_law_some"] (defScope sd_law_by_parts):=⟨rfl,rfl,rfl,by decide +kernel,rfl,by decide +kernel,by decide +kernel⟩
theorem ok_law_by_parts (T:Tx w h K mg):Ok P w K mg base 3 ("_law_by_parts",none) ["_law_statement_here","_law_some"] (sp_byp K):=by
 obtain ⟨fd,F⟩:=F_law_by_parts T
 refine ⟨fd,?_,F.bindsN (fun _ _ _ _ _ _ us hl=>match us,hl with | [_,_],_=>rfl),F.kp⟩
 obtain ⟨fd_law_of_seq,G_law_of_seq,bi_law_of_seq,kp_law_of_seq⟩:=ok_law_of_seq (P:=P) (base:=base) T
 obtain ⟨fd_law_outside,G_law_outside,bi_law_outside,kp_law_outside⟩:=ok_law_outside (P:=P) (base:=base) T
 refine F.ok sc_law_by_parts (fun vs H Q E h=>?_) (fun cdv A outer s H vs Q E hr h=>?_)
 ·obtain ⟨nd,t,sa,rest,as,g,tw,rfl,ht,hlf,⟨hsa,pa⟩,hs,hc,hk,ndk,hby,q⟩:=h
  rfl
 ·obtain ⟨nd,t,sa,rest,as,g,tw,rfl,ht,hlf,⟨hsa,pa⟩,hs,hc,hk,ndk,hby,q⟩:=h
  refine ⟨_,PSs.nox (pss_cons (ps_par rfl sc_law_by_parts.nd (i:=2) (j:=3) rfl rfl (by decide) rfl rfl (pa_cons (pe_ix ix_tup (pv 0) pe_int (fun _ _=>rfl)) (pa_cons (pe_lst pa_nil) pa_nil)) (by rfl)) (Evl.pss_cut (ps_if (pt_cmpR op_in_seq (pv 2) (pe_tup (pa_cons pe_str (pa_cons pe_str pa_nil))) (by rfl)) (pss_one (ps_set (i:=3) sc_law_by_parts.nd rfl (Or.inl rfl) (pe_op op_cat (pe_lst (pa_cons (pe_tup (pa_cons pe_str pa_nil)) pa_nil)) (pe_op op_rep (pe_lst (pa_cons (pe_tup (pa_cons pe_str pa_nil)) pa_nil)) (pe_callTy call_int1 rfl (fr_int T) b_int (pa_cons (pe_cmpR op_eq (pv 2) pe_str (nomark _)) pa_nil)))))) (pss_one (ps_if (pt_cmpR op_eq (pv 2) pe_str (nomark _)) (pss_one (ps_set (i:=3) sc_law_by_parts.nd rfl (Or.inl rfl) (pe_op op_cat (pe_ix ix_list (pv 1) pe_int (fun _ _=>rfl)) (pe_ix ix_list (pv 1) pe_int (fun _ _=>rfl))))) (pss_one (ps_if (pt_cmpR op_eq (pv 2) pe_str (nomark _)) (pss_one (ps_set (i:=3) sc_law_by_parts.nd rfl (Or.inl rfl) (pe_op op_cat (pe_lst (pa_cons (pe_tup (pa_cons pe_str pa_nil)) pa_nil)) (pe_lc (own:=[("_law_way",4)]) rfl sc_law_by_parts.nd (pi_list (pe_ix ix_list (pv 1) pe_int (fun _ _=>rfl))) (blkOk_by (N:=N_law_by_parts) (sc:=defScope sd_law_by_parts) (by decide +kernel)) (fun _ _ _ _ _=>(pg_name (i:=4) sc_law_by_parts.nd rfl (Or.inl rfl))) (fun _ _ _ _ _=>(pts_one (pt_cmpR (show OpR _ _ (rNeM K) from op_neM hr) (pv 4) (pe_tup (pa_cons pe_str (pa_cons pe_int pa_nil))) (nomark _)))) (fun _ _ _ _ _=>(pe_call G_law_outside (hr.mono (by decide)) rfl (g_law_outside T) kp_law_outside bi_law_outside .nil passF (pa_cons (pv 4) pa_nil))))))) (pss_one (ps_if (pt_cmpR op_eq (pv 2) pe_str (nomark _)) (pss_one (ps_set (i:=3) sc_law_by_parts.nd rfl (Or.inl rfl) (pe_call G_law_of_seq (hr.mono (by decide)) rfl (g_law_of_seq T) kp_law_of_seq bi_law_of_seq .nil passF (pa_cons (pv 1) pa_nil)))) (pss_one (ps_if (pt_cmpR op_eq (pv 2) pe_str (nomark _)) (pss_one (ps_set (i:=3) sc_law_by_parts.nd rfl (Or.inl rfl) (pe_op op_cat (pe_lc (own:=[("_law_way",4)]) rfl sc_law_by_parts.nd (pi_list (pe_ix ix_list (pv 1) pe_int (fun _ _=>rfl))) (blkOk_by (N:=N_law_by_parts) (sc:=defScope sd_law_by_parts) (by decide +kernel)) (fun _ _ _ _ _=>(pg_name (i:=4) sc_law_by_parts.nd rfl (Or.inl rfl))) (fun _ _ _ _ _=>(pts_one (pt_cmpR (show OpR _ _ (rNeM K) from op_neM hr) (pv 4) (pe_tup (pa_cons pe_str pa_nil)) (nomark _)))) (fun _ _ _ _ _=>(pv 4))) (pe_op op_rep (pe_ix ix_list (pv 1) pe_int (fun _ _=>rfl)) (pe_callTy call_int1 rfl (fr_int T) b_int (pa_cons (pe_cmpR (FcW.op_inD hr) (pe_tup (pa_cons pe_str pa_nil)) (pe_ix ix_list (pv 1) pe_int (fun _ _=>rfl)) (by rfl)) pa_nil)))))) (pss_one (ps_if (pt_cmpR op_eq (pv 2) pe_str (nomark _)) (pss_one (ps_set (i:=3) sc_law_by_parts.nd rfl (Or.inl rfl) (pe_op op_cat (pe_op op_rep (pe_ix ix_list (pv 1) pe_int (fun _ _=>rfl)) (pe_callTy call_int1 rfl (fr_int T) b_int (pa_cons (pe_cmpR (FcW.op_inD hr) (pe_tup (pa_cons pe_str pa_nil)) (pe_ix ix_list (pv 1) pe_int (fun _ _=>rfl)) (by rfl)) pa_nil))) (pe_lc (own:=[("_law_way",4)]) rfl sc_law_by_parts.nd (pi_list (pe_ix ix_list (pv 1) pe_int (fun _ _=>rfl))) (blkOk_by (N:=N_law_by_parts) (sc:=defScope sd_law_by_parts) (by decide +kernel)) (fun _ _ _ _ _=>(pg_name (i:=4) sc_law_by_parts.nd rfl (Or.inl rfl))) (fun _ _ _ _ _=>(pts_one (pt_cmpR (show OpR _ _ (rNeM K) from op_neM hr) (pv 4) (pe_tup (pa_cons pe_str pa_nil)) (nomark _)))) (fun _ _ _ _ _=>(pv 4)))))) (pss_one (ps_set (i:=3) sc_law_by_parts.nd rfl (Or.inl rfl) (pe_lst (pa_cons (pv 0) pa_nil))))))))))))))) (pss_one (ps_ret (pe_callB (FcT.cr_sortTs rfl hr) rfl (fr_sorted T) b_sorted (pa_cons (pe_callTy (FcT.cr_setN rfl (FcN.hn_of hr)) rfl (fr_set T) b_set (pa_cons (pv 3) pa_nil)) pa_nil)))))),?_⟩
  refine ⟨_,rfl,t,_,_,_,rfl,rfl,ht,at0,sz (by simp),?_⟩
  intro p1 n1
  generalize e1:upd _ p1 _=H1
  obtain ⟨x1,s1,o1⟩:=new_of e1 n1
  clear e1
  refine ⟨_,_,rfl,?_⟩
  refine ⟨fun σ' H'=>∃ (l:Addr) (o4:Option V),σ'=[some (.ref t),some (.ref sa),some (.str (kindN nd)),some (.ref l),o4]∧Ex H H'∧WyL K H' l (byW nd g),?_,?_⟩
  rotate_left
  ·rintro σ' H2 ⟨l,o4,rfl,x2,⟨bs,l2,P2⟩⟩
   have hl:=byW_len nd g
   have bl:=Paired.length P2
   generalize byW nd g=fs at P2 hby hl bl
   have ek:((bs.zip fs).map fun x=>(x.1,wyK x.2)).map (fun p:FcT.KD=>V.ref p.1)=bs.map V.ref:=by
    rw [List.map_map]
    show (bs.zip fs).map (fun x=>V.ref x.1)=_
    rw [show (fun x:Addr×Way=>V.ref x.1)=V.ref ∘ Prod.fst from rfl,← List.map_map,List.map_fst_zip (by omega)]
   have kin:∀ p∈(bs.zip fs).map (fun x=>(x.1,wyK x.2)),∃ v,p.2=wyK v∧v∈fs∧SqT K H2 p.1 ((wk v).map kV):=fun p hp=>by
    obtain ⟨⟨b,v⟩,hz,rfl⟩:=List.mem_map.mp hp
    obtain ⟨i,hi⟩:=List.getElem?_of_mem hz
    obtain ⟨h1,h2⟩:=List.getElem?_zip_eq_some.mp hi
    obtain ⟨v',h3,h4⟩:=paired_get P2 h1
    rw [h2] at h3
    cases h3
    exact ⟨v,rfl,List.mem_of_getElem? h2,h4⟩
   have kout:∀ v∈fs,∃ p∈(bs.zip fs).map (fun x=>(x.1,wyK x.2)),p.2=wyK v:=fun v hv=>by
    obtain ⟨i,hi⟩:=List.getElem?_of_mem hv
    have li:=(List.getElem?_eq_some_iff.mp hi).1
    have hb:bs[i]?=some (bs[i]'(by omega)):=List.getElem?_eq_getElem (by omega)
    exact ⟨_,List.mem_map.mpr ⟨(bs[i]'(by omega),v),List.mem_of_getElem? (List.getElem?_zip_eq_some.mpr ⟨hb,hi⟩),rfl⟩,rfl⟩
   have kl:((bs.zip fs).map fun x=>(x.1,wyK x.2)).length≤1228:=by rw [List.length_map,List.length_zip];omega
   generalize (bs.zip fs).map (fun x=>(x.1,wyK x.2))=ks at ek kin kout kl
   refine ⟨_,rfl,l,ks,rfl,by rw [ek];exact Evl.sq_of l2,fun p hp=>?_,kl,fun a L na sub all nd ll=>?_⟩
   ·obtain ⟨v,e,_,hv⟩:=kin p hp
    rw [e];exact nk_wy hv
   generalize e3:upd H2 a _=H3
   obtain ⟨x3,s3,o3⟩:=new_of e3 na
   clear e3
   refine ⟨a,L,rfl,⟨s3,fun p hp=>?_⟩,by omega,fun p hp=>?_,fun p hp p' hp'=>?_,fun M pn pM nn=>?_⟩
   ·obtain ⟨v,e,_,hv⟩:=kin p (sub p hp)
    rw [e];exact nk_wy (Evl.ex_t x3 hv)
   ·obtain ⟨v,e,_,hv⟩:=kin p (sub p hp)
    rw [e,nkD_wy]
    refine ⟨by rw [dep_wk];decide,?_⟩
    cases v<;>exact ⟨_,_,rfl⟩
   ·obtain ⟨v,e,_,_⟩:=kin p (sub p hp)
    obtain ⟨v',e',_,_⟩:=kin p' (sub p' hp')
    rw [e,e',nkD_wy,nkD_wy]
    exact alike_wk v v'
   generalize e4:upd H3 pn _=H4
   obtain ⟨x4,s4,o4⟩:=new_of e4 nn
   clear e4
   obtain ⟨ws,ew⟩:=keys_ws (M:=M) fun p hp=>by
    obtain ⟨v,e,_⟩:=kin p (sub p (pM.mem_iff.mp hp))
    exact ⟨v,e⟩
   have nM:(ws.map wyK).Nodup:=by rw [← ew];exact (pM.map (·.2)).nodup_iff.mpr nd
   have nw:ws.Nodup:=List.Pairwise.of_map wyK (fun _ _ hne e=>hne (congrArg wyK e)) nM
   have mem:∀ u,u∈ws ↔ u∈srtW tw:=fun u=>by
    rw [← hby u]
    constructor
    ·intro hu
     have:wyK u∈M.map (·.2):=by rw [ew];exact List.mem_map_of_mem hu
     obtain ⟨p,hp,e⟩:=List.mem_map.mp this
     obtain ⟨v,e2,hv,_⟩:=kin p (sub p (pM.mem_iff.mp hp))
     rw [e] at e2
     rw [wyK_inj e2];exact hv
    ·intro hu
     obtain ⟨p,hp,e⟩:=kout u hu
     have h1:=all p hp
     rw [← (pM.map (·.2)).mem_iff,ew,e] at h1
     obtain ⟨v,hv,e2⟩:=List.mem_map.mp h1
     rw [← wyK_inj e2];exact hv
   have es:=srt_ts ew
   rw [srt_of ndk nw mem] at es
   have hL:(M.mergeSort FcT.leK).length=(srtW tw).length:=by
    have:=congrArg List.length es
    simpa using this
   refine q H4 pn (x2.trans (x3.trans x4)) (ex_none (x2.trans x3) nn) ⟨(M.mergeSort FcT.leK).map (·.1),by rw [s4,List.map_map]<;>rfl,?_⟩
   refine paired_of_map (by rw [List.length_map];exact hL) fun i b v h1 h2=>?_
   rw [List.getElem?_map] at h1
   obtain ⟨e,h3,rfl⟩:=Option.map_eq_some_iff.mp h1
   obtain ⟨u,eu,_,hu⟩:=kin e (sub e (pM.mem_iff.mp (List.mem_mergeSort.mp (List.mem_of_getElem? h3))))
   have h4:=congrArg (fun l:List NestedKey=>l[i]?) es
   rw [show ((M.mergeSort FcT.leK).map (·.2))[i]?=some e.2 from by rw [List.getElem?_map,h3]<;>rfl,show ((srtW tw).map wyK)[i]?=some (wyK v) from by rw [List.getElem?_map,h2]<;>rfl] at h4
   have h4:=Option.some.inj h4
   rw [eu] at h4
   rw [← wyK_inj h4]
   exact Evl.ex_t (x3.trans x4) hu
  cases nd with
  | do_ =>
   refine ⟨_,rfl,sz (by simp),?_⟩
   intro p2 n2
   generalize e2:upd _ p2 _=H2
   obtain ⟨x2,s2,o2⟩:=new_of e2 n2
   clear e2
   refine ⟨p2,_,rfl,.inr (Evl.st_of s2),rfl,flat_strs ["do","call"],_,rfl,itT (in_strs (k:="do") (l:=["do","call"]) (by decide)) ?_⟩
   refine ⟨sz (by simp),?_⟩
   intro p3 n3
   generalize e3:upd _ p3 _=H3
   obtain ⟨x3,s3,o3⟩:=new_of e3 n3
   clear e3
   refine ⟨sz (by simp),?_⟩
   intro p4 n4
   generalize e4:upd _ p4 _=H4
   obtain ⟨x4,s4,o4⟩:=new_of e4 n4
   clear e4
   refine ⟨sz (by simp),?_⟩
   intro p5 n5
   generalize e5:upd _ p5 _=H5
   obtain ⟨x5,s5,o5⟩:=new_of e5 n5
   clear e5
   refine ⟨sz (by simp),?_⟩
   intro p6 n6
   generalize e6:upd _ p6 _=H6
   obtain ⟨x6,s6,o6⟩:=new_of e6 n6
   clear e6
   refine ⟨_,rfl,rfl,.inr ⟨_,rfl,?_⟩⟩
   refine ⟨p6,0,_,rfl,rfl,s6,by decide,by decide,by simp [sizeLine_eq],?_⟩
   intro p7 n7
   generalize e7:upd _ p7 _=H7
   obtain ⟨x7,s7,o7⟩:=new_of e7 n7
   clear e7
   refine ⟨p4,p7,_,_,rfl,rfl,x7 _ _ (x6 _ _ (x5 _ _ s4)),s7,sz (by simp),?_⟩
   intro p8 n8
   generalize e8:upd _ p8 _=H8
   obtain ⟨x8,s8,o8⟩:=new_of e8 n8
   clear e8
   have x:=x1.trans (x2.trans (x3.trans (x4.trans (x5.trans (x6.trans (x7.trans x8))))))
   exact ⟨p8,_,rfl,x,[p3],by rw [s8]<;>rfl,.cons (show SqT K H8 p3 ((wk .nrm).map kV) from SqT.of ((x4.trans (x5.trans (x6.trans (x7.trans x8)))) _ _ s3)) .nil⟩
  | call =>
   refine ⟨_,rfl,sz (by simp),?_⟩
   intro p2 n2
   generalize e2:upd _ p2 _=H2
   obtain ⟨x2,s2,o2⟩:=new_of e2 n2
   clear e2
   refine ⟨p2,_,rfl,.inr (Evl.st_of s2),rfl,flat_strs ["do","call"],_,rfl,itT (in_strs (k:="call") (l:=["do","call"]) (by decide)) ?_⟩
   refine ⟨sz (by simp),?_⟩
   intro p3 n3
   generalize e3:upd _ p3 _=H3
   obtain ⟨x3,s3,o3⟩:=new_of e3 n3
   clear e3
   refine ⟨sz (by simp),?_⟩
   intro p4 n4
   generalize e4:upd _ p4 _=H4
   obtain ⟨x4,s4,o4⟩:=new_of e4 n4
   clear e4
   refine ⟨sz (by simp),?_⟩
   intro p5 n5
   generalize e5:upd _ p5 _=H5
   obtain ⟨x5,s5,o5⟩:=new_of e5 n5
   clear e5
   refine ⟨sz (by simp),?_⟩
   intro p6 n6
   generalize e6:upd _ p6 _=H6
   obtain ⟨x6,s6,o6⟩:=new_of e6 n6
   clear e6
   refine ⟨_,rfl,rfl,.inr ⟨_,rfl,?_⟩⟩
   refine ⟨p6,1,_,rfl,rfl,s6,by decide,by decide,by simp [sizeLine_eq],?_⟩
   intro p7 n7
   generalize e7:upd _ p7 _=H7
   obtain ⟨x7,s7,o7⟩:=new_of e7 n7
   clear e7
   refine ⟨p4,p7,_,_,rfl,rfl,x7 _ _ (x6 _ _ (x5 _ _ s4)),s7,sz (by simp),?_⟩
   intro p8 n8
   generalize e8:upd _ p8 _=H8
   obtain ⟨x8,s8,o8⟩:=new_of e8 n8
   clear e8
   have x:=x1.trans (x2.trans (x3.trans (x4.trans (x5.trans (x6.trans (x7.trans x8))))))
   exact ⟨p8,_,rfl,x,[p3,p5],by rw [s8]<;>rfl,.cons (show SqT K H8 p3 ((wk .nrm).map kV) from SqT.of ((x4.trans (x5.trans (x6.trans (x7.trans x8)))) _ _ s3)) (.cons (show SqT K H8 p5 ((wk .rai).map kV) from SqT.of ((x6.trans (x7.trans x8)) _ _ s5)) .nil)⟩
  | iff a b =>
   cases pa with
   | @cons la _ as' _ ha pa =>
   cases pa with
   | @cons lb _ as' _ hb pa =>
   cases pa
   refine ⟨_,rfl,sz (by simp),?_⟩
   intro p2 n2
   generalize e2:upd _ p2 _=H2
   obtain ⟨x2,s2,o2⟩:=new_of e2 n2
   clear e2
   refine ⟨p2,_,rfl,.inr (Evl.st_of s2),rfl,flat_strs ["do","call"],_,rfl,itF (in_strs (k:="if") (l:=["do","call"]) (by decide)) ?_⟩
   refine ⟨_,rfl,rfl,_,rfl,itT (decide_eq_true rfl) ?_⟩
   have x:=x1.trans x2
   have hs2:=x _ _ hsa
   obtain ⟨ba,wa1,wa2⟩:=wyL_ex x ha
   obtain ⟨bb,wb1,wb2⟩:=wyL_ex x hb
   have l1:=Paired.length wa2
   have l2:=Paired.length wb2
   have hs:([a,b].map fun c=>(g c).length).sum≤900:=hs
   simp at hs
   refine ⟨_,rfl,sa,_,_,.ref la,rfl,rfl,Evl.sq_of hs2,at0,_,rfl,sa,_,_,.ref lb,rfl,rfl,Evl.sq_of hs2,at1,la,lb,_,_,rfl,rfl,wa1,wb1,sz (by rw [List.length_map,List.length_map];omega),?_⟩
   intro p3 n3
   generalize e3:upd _ p3 _=H3
   obtain ⟨x3,s3,o3⟩:=new_of e3 n3
   clear e3
   exact ⟨p3,_,rfl,x.trans x3,ba++bb,by rw [s3,List.map_append],paired_app11 (L2.Paired.mapP wa2 fun _ _ z=>Evl.ex_t x3 z) (L2.Paired.mapP wb2 fun _ _ z=>Evl.ex_t x3 z)⟩
  | seq l =>
   refine ⟨_,rfl,sz (by simp),?_⟩
   intro p2 n2
   generalize e2:upd _ p2 _=H2
   obtain ⟨x2,s2,o2⟩:=new_of e2 n2
   clear e2
   refine ⟨p2,_,rfl,.inr (Evl.st_of s2),rfl,flat_strs ["do","call"],_,rfl,itF (in_strs (k:="seq") (l:=["do","call"]) (by decide)) ?_⟩
   refine ⟨_,rfl,rfl,_,rfl,itF (show decide (V.str "seq"=V.str "if")=false from decide_eq_false (by decide)) ?_⟩
   refine ⟨_,rfl,rfl,_,rfl,itF (show decide (V.str "seq"=V.str "while")=false from decide_eq_false (by decide)) ?_⟩
   refine ⟨_,rfl,rfl,_,rfl,itT (decide_eq_true rfl) ?_⟩
   have x:=x1.trans x2
   have hs:(l.map fun c=>(g c).length).sum≤900:=hs
   refine ⟨_,rfl,sa,as,l.map g,rfl,⟨x _ _ hsa,L2.Paired.mapP pa fun _ _ z=>wyL_ex x z⟩,by rw [List.map_map];exact Nat.le_trans hs (by decide),by rw [List.length_map];exact hc,fun H3 l3 x3 n3 W3=>?_⟩
   exact ⟨l3,_,rfl,x.trans x3,W3⟩
  | whl a =>
   cases pa with
   | @cons la _ as' _ ha pa =>
   cases pa
   refine ⟨_,rfl,sz (by simp),?_⟩
   intro p2 n2
   generalize e2:upd _ p2 _=H2
   obtain ⟨x2,s2,o2⟩:=new_of e2 n2
   clear e2
   refine ⟨p2,_,rfl,.inr (Evl.st_of s2),rfl,flat_strs ["do","call"],_,rfl,itF (in_strs (k:="while") (l:=["do","call"]) (by decide)) ?_⟩
   refine ⟨_,rfl,rfl,_,rfl,itF (show decide (V.str "while"=V.str "if")=false from decide_eq_false (by decide)) ?_⟩
   refine ⟨_,rfl,rfl,_,rfl,itT (decide_eq_true rfl) ?_⟩
   refine ⟨sz (by simp),?_⟩
   intro p3 n3
   generalize e3:upd _ p3 _=H3
   obtain ⟨x3,s3,o3⟩:=new_of e3 n3
   clear e3
   refine ⟨sz (by simp),?_⟩
   intro p4 n4
   generalize e4:upd _ p4 _=H4
   obtain ⟨x4,s4,o4⟩:=new_of e4 n4
   clear e4
   have x:=x1.trans (x2.trans (x3.trans x4))
   have hs4:=x _ _ hsa
   obtain ⟨ba,wa1,wa2⟩:=wyL_ex x ha
   have l1:=Paired.length wa2
   have hs:([a].map fun c=>(g c).length).sum≤900:=hs
   simp at hs
   refine ⟨_,rfl,sa,_,_,.ref la,rfl,rfl,Evl.sq_of hs4,at0,la,rfl,⟨_,Evl.sq_of wa1⟩,fun D5 nD5=>?_⟩
   have Dne:∀ b o,H4 b=some o→b≠D5:=fun b o e z=>by rw [z,nD5] at e;cases e
   refine lc_it (walk_list (xs:=ba.map V.ref)) (fun j H'=>∃ (cs:List Addr),H' D5=some (.lst (cs.map V.ref))∧Paired (fun b v=>SqT K H' b ((wk v).map kV)) cs ((((g a).take j).filter fun w=>decide (w≠.cnt 1)).map outW)∧∀ b o,b≠D5→H4 b=some o→H' b=some o) ?_ ?_ ?_ ?_
   ·exact ⟨[],upd_same,.nil,fun b o n e=>by rw [upd_ne n];exact e⟩
   ·exact fun j H' _ ⟨_,_,_,k⟩=>Evl.sq_of (k _ _ (Dne _ _ wa1) wa1)
   ·rintro j v2 Ja Jb hj ⟨cs,lD,PD,kD⟩ ⟨rfl,hv2⟩
    obtain ⟨b,hb,rfl⟩:∃ b,ba[j]?=some b∧v2=.ref b:=by
     rw [List.getElem?_map] at hv2
     obtain ⟨d,g1,g2⟩:=Option.map_eq_some_iff.mp hv2
     exact ⟨d,g1,g2.symm⟩
    obtain ⟨u,hu,hbu⟩:=paired_get wa2 hb
    have tku:(g a).take (j + 1)=(g a).take j++[u]:=by rw [List.take_succ,hu]<;>rfl
    have xJ:Ex H4 Jb:=fun b o e=>kD b o (Dne _ _ e) e
    have hbJ:SqT K Jb b ((wk u).map kV):=Evl.ex_t xJ hbu
    have cl:=Paired.length PD
    have flt:=List.length_filter_le (fun w=>decide (w≠Way.cnt 1)) ((g a).take j)
    rw [List.length_take] at flt
    rw [List.length_map] at cl
    refine ⟨rfl,_,rfl,sz (by simp),?_⟩
    intro p16 n16
    generalize e16:upd _ p16 _=H16
    obtain ⟨x16,s16,o16⟩:=new_of e16 n16
    clear e16
    refine ⟨_,_,FcW.dp_key (k:=wk u) (Evl.ex_t x16 hbJ),FcW.dp_key (k:=wk (.cnt 1)) (show SqT K H16 p16 ((wk (.cnt 1)).map kV) from SqT.of s16),datW _,datW _,Nat.le_trans (Nat.min_le_left _ _) (by rw [dep_wk];decide),_,rfl,?_⟩
    rw [eqv_wk]
    refine ite_of (fun c=>?_) (fun c=>?_)
    ·have c:u≠.cnt 1:=fun z=>by rw [z,decide_eq_true rfl] at c;cases c
     refine ⟨_,rfl,u,b,rfl,Evl.ex_t x16 hbJ,c,hk a (by simp [Node.ch]) u (List.mem_of_getElem? hu),fun H17 c17 x17 s17=>?_⟩
     have l17:=x17 _ _ (x16 _ _ lD)
     have TD:TT K H17 (upd H17 D5 (.lst (cs.map V.ref++[.ref c17]))):=TT.lst l17 fun b o n e=>by rw [upd_ne n];exact e
     refine ⟨_,l17,szl (by rw [List.length_map];omega),cs++[c17],by rw [upd_same,List.map_append]<;>rfl,?_,fun b o n e=>by rw [upd_ne n];exact x17 _ _ (x16 _ _ (kD b o n e))⟩
     rw [tku,List.filter_append,List.filter_cons_of_pos (by simp [c]),List.filter_nil,List.map_append]
     exact Paired.snoc (L2.Paired.mapP PD fun _ _ z=>TD _ _ (Evl.ex_t (x16.trans x17) z)) (TD _ _ s17)
    ·have c:u=.cnt 1:=by
      by_cases z:u=.cnt 1
      ·exact z
      ·rw [decide_eq_false z] at c;cases c
     refine ⟨cs,x16 _ _ lD,?_,fun b o n e=>x16 _ _ (kD b o n e)⟩
     rw [tku,List.filter_append,List.filter_cons_of_neg (by simp [c]),List.filter_nil,List.append_nil]
     exact L2.Paired.mapP PD fun _ _ z=>Evl.ex_t x16 z
   rintro H6 ⟨cs,l6,P6,k6⟩
   rw [List.length_map,l1,List.take_length] at P6
   have x46:Ex H4 H6:=fun b o e=>k6 b o (Dne _ _ e) e
   have cl:=Paired.length P6
   have flt:=List.length_filter_le (fun w=>decide (w≠Way.cnt 1)) (g a)
   rw [List.length_map] at cl
   refine ⟨p4,D5,_,_,rfl,rfl,x46 _ _ s4,l6,sz (by simp;omega),?_⟩
   intro p7 n7
   generalize e7:upd _ p7 _=H7
   obtain ⟨x7,s7,o7⟩:=new_of e7 n7
   clear e7
   exact ⟨p7,_,rfl,x.trans (x46.trans x7),p3::cs,by rw [s7]<;>rfl,.cons (show SqT K H7 p3 ((wk .nrm).map kV) from SqT.of (x7 _ _ (x46 _ _ (x4 _ _ s3)))) (L2.Paired.mapP P6 fun _ _ z=>Evl.ex_t x7 z)⟩
  | tr a b =>
   cases pa with
   | @cons la _ as' _ ha pa =>
   cases pa with
   | @cons lb _ as' _ hb pa =>
   cases pa
   refine ⟨_,rfl,sz (by simp),?_⟩
   intro p2 n2
   generalize e2:upd _ p2 _=H2
   obtain ⟨x2,s2,o2⟩:=new_of e2 n2
   clear e2
   refine ⟨p2,_,rfl,.inr (Evl.st_of s2),rfl,flat_strs ["do","call"],_,rfl,itF (in_strs (k:="try") (l:=["do","call"]) (by decide)) ?_⟩
   refine ⟨_,rfl,rfl,_,rfl,itF (show decide (V.str "try"=V.str "if")=false from decide_eq_false (by decide)) ?_⟩
   refine ⟨_,rfl,rfl,_,rfl,itF (show decide (V.str "try"=V.str "while")=false from decide_eq_false (by decide)) ?_⟩
   refine ⟨_,rfl,rfl,_,rfl,itF (show decide (V.str "try"=V.str "seq")=false from decide_eq_false (by decide)) ?_⟩
   refine ⟨_,rfl,rfl,_,rfl,itT (decide_eq_true rfl) ?_⟩
   have x:=x1.trans x2
   have hs2:=x _ _ hsa
   obtain ⟨ba,wa1,wa2⟩:=wyL_ex x ha
   obtain ⟨bb,wb1,wb2⟩:=wyL_ex x hb
   have l1:=Paired.length wa2
   have l2:=Paired.length wb2
   have hs:([a,b].map fun c=>(g c).length).sum≤900:=hs
   simp at hs
   refine ⟨_,rfl,sa,_,_,.ref la,rfl,rfl,Evl.sq_of hs2,at0,la,rfl,⟨_,Evl.sq_of wa1⟩,fun D5 nD5=>?_⟩
   have Dne:∀ b o,H2 b=some o→b≠D5:=fun b o e z=>by rw [z,nD5] at e;cases e
   refine lc_it (walk_list (xs:=ba.map V.ref)) (fun j H'=>∃ (cs:List Addr),H' D5=some (.lst (cs.map V.ref))∧Paired (fun b v=>SqT K H2 b ((wk v).map kV)) cs (((g a).take j).filter fun w=>decide (w≠Way.rai))∧∀ b o,b≠D5→H2 b=some o→H' b=some o) ?_ ?_ ?_ ?_
   ·exact ⟨[],upd_same,.nil,fun b o n e=>by rw [upd_ne n];exact e⟩
   ·exact fun j H' _ ⟨_,_,_,k⟩=>Evl.sq_of (k _ _ (Dne _ _ wa1) wa1)
   ·rintro j v2 Ja Jb hj ⟨cs,lD,PD,kD⟩ ⟨rfl,hv2⟩
    obtain ⟨bq,hbq,rfl⟩:∃ bq,ba[j]?=some bq∧v2=.ref bq:=by
     rw [List.getElem?_map] at hv2
     obtain ⟨d,g1,g2⟩:=Option.map_eq_some_iff.mp hv2
     exact ⟨d,g1,g2.symm⟩
    obtain ⟨u,hu,hbu⟩:=paired_get wa2 hbq
    have tku:(g a).take (j + 1)=(g a).take j++[u]:=by rw [List.take_succ,hu]<;>rfl
    have xJ:Ex H2 Jb:=fun b o e=>kD b o (Dne _ _ e) e
    have hbJ:SqT K Jb bq ((wk u).map kV):=Evl.ex_t xJ hbu
    have cl:=Paired.length PD
    have flt:=List.length_filter_le (fun w=>decide (w≠Way.rai)) ((g a).take j)
    rw [List.length_take] at flt
    refine ⟨rfl,_,rfl,sz (by simp),?_⟩
    intro p16 n16
    generalize e16:upd _ p16 _=H16
    obtain ⟨x16,s16,o16⟩:=new_of e16 n16
    clear e16
    refine ⟨_,_,FcW.dp_key (k:=wk u) (Evl.ex_t x16 hbJ),FcW.dp_key (k:=wk (Way.rai)) (show SqT K H16 p16 ((wk (Way.rai)).map kV) from SqT.of s16),datW _,datW _,Nat.le_trans (Nat.min_le_left _ _) (by rw [dep_wk];decide),_,rfl,?_⟩
    rw [eqv_wk]
    refine ite_of (fun c=>?_) (fun c=>?_)
    ·have c:u≠Way.rai:=fun z=>by rw [z,decide_eq_true rfl] at c;cases c
     refine ⟨_,rfl,_,x16 _ _ lD,szl (by rw [List.length_map];omega),cs++[bq],by rw [upd_same,List.map_append]<;>rfl,?_,fun b o n e=>by rw [upd_ne n];exact x16 _ _ (kD b o n e)⟩
     rw [tku,List.filter_append,List.filter_cons_of_pos (by simp [c]),List.filter_nil]
     exact Paired.snoc PD hbu
    ·have c:u=Way.rai:=by
      by_cases z:u=Way.rai
      ·exact z
      ·rw [decide_eq_false z] at c;cases c
     refine ⟨cs,x16 _ _ lD,?_,fun b o n e=>x16 _ _ (kD b o n e)⟩
     rw [tku,List.filter_append,List.filter_cons_of_neg (by simp [c]),List.filter_nil,List.append_nil]
     exact PD
   rintro H6 ⟨cs,l6,P6,k6⟩
   rw [List.length_map,l1,List.take_length] at P6
   have x26:Ex H2 H6:=fun b o e=>k6 b o (Dne _ _ e) e
   have cl:=Paired.length P6
   have flt:=List.length_filter_le (fun w=>decide (w≠Way.rai)) (g a)
   have hs6:=x26 _ _ hs2
   refine ⟨_,rfl,sa,_,_,.ref lb,rfl,rfl,Evl.sq_of hs6,at1,sz (by simp),?_⟩
   intro p7 n7
   generalize e7:upd _ p7 _=H7
   obtain ⟨x7,s7,o7⟩:=new_of e7 n7
   clear e7
   refine ⟨_,rfl,sa,_,_,.ref la,rfl,rfl,Evl.sq_of (x7 _ _ hs6),at0,?_⟩
   refine ⟨_,_,FcW.dp_key (k:=wk .rai) (show SqT K H7 p7 ((wk .rai).map kV) from SqT.of s7),.lst (Evl.sq_of (x7 _ _ (x26 _ _ wa1))) (wyR_dp (L2.Paired.mapP wa2 fun _ _ z=>Evl.ex_t (x26.trans x7) z)),datW _,wyR_can _,(Nat.le_trans (Nat.min_le_right _ _) (by rw [dep_wk];decide)),.inr ⟨_,rfl,?_⟩⟩
   rw [wyR_any]
   have ek:(if decide (Way.rai∈g a)=true then (1:Int) else 0)=((if Way.rai∈g a then 1 else 0:Nat):Int):=by
    by_cases c:Way.rai∈g a
    ·rw [decide_eq_true c,if_pos rfl,if_pos c]<;>rfl
    ·rw [decide_eq_false c,if_neg (by decide),if_neg c]<;>rfl
   rw [ek]
   have wb7:=x7 _ _ (x26 _ _ wb1)
   refine ⟨lb,_,_,rfl,rfl,wb7,by omega,by split<;>omega,(by rw [List.length_map,Int.toNat_natCast,sizeLine_eq];split<;>omega),?_⟩
   intro p8 n8
   generalize e8:upd _ p8 _=H8
   obtain ⟨x8,s8,o8⟩:=new_of e8 n8
   clear e8
   rw [Int.toNat_natCast] at s8
   have rl:(List.replicate (if Way.rai∈g a then 1 else 0) (bb.map V.ref)).flatten=(if Way.rai∈g a then bb else []).map V.ref:=by
    split<;>simp
   rw [rl] at s8
   have wl:(if Way.rai∈g a then bb else []).length≤bb.length:=by
    split
    ·exact Nat.le_refl _
    ·exact Nat.zero_le _
   refine ⟨D5,p8,_,_,rfl,rfl,x8 _ _ (x7 _ _ l6),s8,sz (by rw [List.length_map,List.length_map];omega),?_⟩
   intro p9 n9
   generalize e9:upd _ p9 _=H9
   obtain ⟨x9,s9,o9⟩:=new_of e9 n9
   clear e9
   have x29:=x26.trans (x7.trans (x8.trans x9))
   refine ⟨p9,_,rfl,x.trans x29,cs++(if Way.rai∈g a then bb else []),by rw [s9,List.map_append],?_⟩
   refine paired_app11 (L2.Paired.mapP P6 fun _ _ z=>Evl.ex_t x29 z) ?_
   split
   ·exact L2.Paired.mapP wb2 fun _ _ z=>Evl.ex_t x29 z
   ·exact .nil
  | fin a b =>
   cases pa with
   | @cons la _ as' _ ha pa =>
   cases pa with
   | @cons lb _ as' _ hb pa =>
   cases pa
   refine ⟨_,rfl,sz (by simp),?_⟩
   intro p2 n2
   generalize e2:upd _ p2 _=H2
   obtain ⟨x2,s2,o2⟩:=new_of e2 n2
   clear e2
   refine ⟨p2,_,rfl,.inr (Evl.st_of s2),rfl,flat_strs ["do","call"],_,rfl,itF (in_strs (k:="final") (l:=["do","call"]) (by decide)) ?_⟩
   refine ⟨_,rfl,rfl,_,rfl,itF (show decide (V.str "final"=V.str "if")=false from decide_eq_false (by decide)) ?_⟩
   refine ⟨_,rfl,rfl,_,rfl,itF (show decide (V.str "final"=V.str "while")=false from decide_eq_false (by decide)) ?_⟩
   refine ⟨_,rfl,rfl,_,rfl,itF (show decide (V.str "final"=V.str "seq")=false from decide_eq_false (by decide)) ?_⟩
   refine ⟨_,rfl,rfl,_,rfl,itF (show decide (V.str "final"=V.str "try")=false from decide_eq_false (by decide)) ?_⟩
   refine ⟨_,rfl,rfl,_,rfl,itT (decide_eq_true rfl) ?_⟩
   have x:=x1.trans x2
   have hs2:=x _ _ hsa
   obtain ⟨ba,wa1,wa2⟩:=wyL_ex x ha
   obtain ⟨bb,wb1,wb2⟩:=wyL_ex x hb
   have l1:=Paired.length wa2
   have l2:=Paired.length wb2
   have hs:([a,b].map fun c=>(g c).length).sum≤900:=hs
   simp at hs
   refine ⟨_,rfl,sa,_,_,.ref la,rfl,rfl,Evl.sq_of hs2,at0,sz (by simp),?_⟩
   intro p7 n7
   generalize e7:upd _ p7 _=H7
   obtain ⟨x7,s7,o7⟩:=new_of e7 n7
   clear e7
   refine ⟨_,rfl,sa,_,_,.ref lb,rfl,rfl,Evl.sq_of (x7 _ _ hs2),at1,?_⟩
   refine ⟨_,_,FcW.dp_key (k:=wk .nrm) (show SqT K H7 p7 ((wk .nrm).map kV) from SqT.of s7),.lst (Evl.sq_of (x7 _ _ wb1)) (wyR_dp (L2.Paired.mapP wb2 fun _ _ z=>Evl.ex_t x7 z)),datW _,wyR_can _,(Nat.le_trans (Nat.min_le_right _ _) (by rw [dep_wk];decide)),.inr ⟨_,rfl,?_⟩⟩
   rw [wyR_any]
   have ek:(if decide (Way.nrm∈g b)=true then (1:Int) else 0)=((if Way.nrm∈g b then 1 else 0:Nat):Int):=by
    by_cases c:Way.nrm∈g b
    ·rw [decide_eq_true c,if_pos rfl,if_pos c]<;>rfl
    ·rw [decide_eq_false c,if_neg (by decide),if_neg c]<;>rfl
   rw [ek]
   have wa7:=x7 _ _ wa1
   refine ⟨la,_,_,rfl,rfl,wa7,by omega,by split<;>omega,(by rw [List.length_map,Int.toNat_natCast,sizeLine_eq];split<;>omega),?_⟩
   intro p8 n8
   generalize e8:upd _ p8 _=H8
   obtain ⟨x8,s8,o8⟩:=new_of e8 n8
   clear e8
   rw [Int.toNat_natCast] at s8
   have rl:(List.replicate (if Way.nrm∈g b then 1 else 0) (ba.map V.ref)).flatten=(if Way.nrm∈g b then ba else []).map V.ref:=by
    split<;>simp
   rw [rl] at s8
   have wl:(if Way.nrm∈g b then ba else []).length≤ba.length:=by
    split
    ·exact Nat.le_refl _
    ·exact Nat.zero_le _
   have x28:=x7.trans x8
   have wb8:=x28 _ _ wb1
   refine ⟨_,rfl,sa,_,_,.ref lb,rfl,rfl,Evl.sq_of (x28 _ _ hs2),at1,lb,rfl,⟨_,Evl.sq_of wb8⟩,fun D5 nD5=>?_⟩
   have wb28:=L2.Paired.mapP wb2 fun _ _ z=>Evl.ex_t x28 z
   have Dne:∀ b o,H8 b=some o→b≠D5:=fun b o e z=>by rw [z,nD5] at e;cases e
   refine lc_it (walk_list (xs:=bb.map V.ref)) (fun j H'=>∃ (cs:List Addr),H' D5=some (.lst (cs.map V.ref))∧Paired (fun b v=>SqT K H8 b ((wk v).map kV)) cs (((g b).take j).filter fun w=>decide (w≠Way.nrm))∧∀ b o,b≠D5→H8 b=some o→H' b=some o) ?_ ?_ ?_ ?_
   ·exact ⟨[],upd_same,.nil,fun b o n e=>by rw [upd_ne n];exact e⟩
   ·exact fun j H' _ ⟨_,_,_,k⟩=>Evl.sq_of (k _ _ (Dne _ _ wb8) wb8)
   ·rintro j v2 Ja Jb hj ⟨cs,lD,PD,kD⟩ ⟨rfl,hv2⟩
    obtain ⟨bq,hbq,rfl⟩:∃ bq,bb[j]?=some bq∧v2=.ref bq:=by
     rw [List.getElem?_map] at hv2
     obtain ⟨d,g1,g2⟩:=Option.map_eq_some_iff.mp hv2
     exact ⟨d,g1,g2.symm⟩
    obtain ⟨u,hu,hbu⟩:=paired_get wb28 hbq
    have tku:(g b).take (j + 1)=(g b).take j++[u]:=by rw [List.take_succ,hu]<;>rfl
    have xJ:Ex H8 Jb:=fun b o e=>kD b o (Dne _ _ e) e
    have hbJ:SqT K Jb bq ((wk u).map kV):=Evl.ex_t xJ hbu
    have cl:=Paired.length PD
    have flt:=List.length_filter_le (fun w=>decide (w≠Way.nrm)) ((g b).take j)
    rw [List.length_take] at flt
    refine ⟨rfl,_,rfl,sz (by simp),?_⟩
    intro p16 n16
    generalize e16:upd _ p16 _=H16
    obtain ⟨x16,s16,o16⟩:=new_of e16 n16
    clear e16
    refine ⟨_,_,FcW.dp_key (k:=wk u) (Evl.ex_t x16 hbJ),FcW.dp_key (k:=wk (Way.nrm)) (show SqT K H16 p16 ((wk (Way.nrm)).map kV) from SqT.of s16),datW _,datW _,Nat.le_trans (Nat.min_le_left _ _) (by rw [dep_wk];decide),_,rfl,?_⟩
    rw [eqv_wk]
    refine ite_of (fun c=>?_) (fun c=>?_)
    ·have c:u≠Way.nrm:=fun z=>by rw [z,decide_eq_true rfl] at c;cases c
     refine ⟨_,rfl,_,x16 _ _ lD,szl (by rw [List.length_map];omega),cs++[bq],by rw [upd_same,List.map_append]<;>rfl,?_,fun b o n e=>by rw [upd_ne n];exact x16 _ _ (kD b o n e)⟩
     rw [tku,List.filter_append,List.filter_cons_of_pos (by simp [c]),List.filter_nil]
     exact Paired.snoc PD hbu
    ·have c:u=Way.nrm:=by
      by_cases z:u=Way.nrm
      ·exact z
      ·rw [decide_eq_false z] at c;cases c
     refine ⟨cs,x16 _ _ lD,?_,fun b o n e=>x16 _ _ (kD b o n e)⟩
     rw [tku,List.filter_append,List.filter_cons_of_neg (by simp [c]),List.filter_nil,List.append_nil]
     exact PD
   rintro H6 ⟨cs,l6,P6,k6⟩
   rw [List.length_map,l2,List.take_length] at P6
   have x86:Ex H8 H6:=fun b o e=>k6 b o (Dne _ _ e) e
   have cl:=Paired.length P6
   have flt:=List.length_filter_le (fun w=>decide (w≠Way.nrm)) (g b)
   refine ⟨p8,D5,_,_,rfl,rfl,x86 _ _ s8,l6,sz (by rw [List.length_map,List.length_map];omega),?_⟩
   intro p9 n9
   generalize e9:upd _ p9 _=H9
   obtain ⟨x9,s9,o9⟩:=new_of e9 n9
   clear e9
   have x29:=x28.trans (x86.trans x9)
   refine ⟨p9,_,rfl,x.trans x29,(if Way.nrm∈g b then ba else [])++cs,by rw [s9,List.map_append],?_⟩
   refine paired_app11 ?_ (L2.Paired.mapP P6 fun _ _ z=>Evl.ex_t (x86.trans x9) z)
   split
   ·exact L2.Paired.mapP wa2 fun _ _ z=>Evl.ex_t x29 z
   ·exact .nil
  | ret =>
   refine ⟨_,rfl,sz (by simp),?_⟩
   intro p2 n2
   generalize e2:upd _ p2 _=H2
   obtain ⟨x2,s2,o2⟩:=new_of e2 n2
   clear e2
   refine ⟨p2,_,rfl,.inr (Evl.st_of s2),rfl,flat_strs ["do","call"],_,rfl,itF (in_strs (k:="return") (l:=["do","call"]) (by decide)) ?_⟩
   refine ⟨_,rfl,rfl,_,rfl,itF (show decide (V.str "return"=V.str "if")=false from decide_eq_false (by decide)) ?_⟩
   refine ⟨_,rfl,rfl,_,rfl,itF (show decide (V.str "return"=V.str "while")=false from decide_eq_false (by decide)) ?_⟩
   refine ⟨_,rfl,rfl,_,rfl,itF (show decide (V.str "return"=V.str "seq")=false from decide_eq_false (by decide)) ?_⟩
   refine ⟨_,rfl,rfl,_,rfl,itF (show decide (V.str "return"=V.str "try")=false from decide_eq_false (by decide)) ?_⟩
   refine ⟨_,rfl,rfl,_,rfl,itF (show decide (V.str "return"=V.str "final")=false from decide_eq_false (by decide)) ?_⟩
   refine ⟨_,rfl,sz (by simp),?_⟩
   intro p3 n3
   generalize e3:upd _ p3 _=H3
   obtain ⟨x3,s3,o3⟩:=new_of e3 n3
   clear e3
   have x:=x1.trans (x2.trans x3)
   exact ⟨p3,_,rfl,x,[t],s3,.cons (Evl.ex_t x (hlf .ret rfl)) .nil⟩
  | rai =>
   refine ⟨_,rfl,sz (by simp),?_⟩
   intro p2 n2
   generalize e2:upd _ p2 _=H2
   obtain ⟨x2,s2,o2⟩:=new_of e2 n2
   clear e2
   refine ⟨p2,_,rfl,.inr (Evl.st_of s2),rfl,flat_strs ["do","call"],_,rfl,itF (in_strs (k:="raise") (l:=["do","call"]) (by decide)) ?_⟩
   refine ⟨_,rfl,rfl,_,rfl,itF (show decide (V.str "raise"=V.str "if")=false from decide_eq_false (by decide)) ?_⟩
   refine ⟨_,rfl,rfl,_,rfl,itF (show decide (V.str "raise"=V.str "while")=false from decide_eq_false (by decide)) ?_⟩
   refine ⟨_,rfl,rfl,_,rfl,itF (show decide (V.str "raise"=V.str "seq")=false from decide_eq_false (by decide)) ?_⟩
   refine ⟨_,rfl,rfl,_,rfl,itF (show decide (V.str "raise"=V.str "try")=false from decide_eq_false (by decide)) ?_⟩
   refine ⟨_,rfl,rfl,_,rfl,itF (show decide (V.str "raise"=V.str "final")=false from decide_eq_false (by decide)) ?_⟩
   refine ⟨_,rfl,sz (by simp),?_⟩
   intro p3 n3
   generalize e3:upd _ p3 _=H3
   obtain ⟨x3,s3,o3⟩:=new_of e3 n3
   clear e3
   have x:=x1.trans (x2.trans x3)
   exact ⟨p3,_,rfl,x,[t],s3,.cons (Evl.ex_t x (hlf .rai rfl)) .nil⟩
  | brk k =>
   refine ⟨_,rfl,sz (by simp),?_⟩
   intro p2 n2
   generalize e2:upd _ p2 _=H2
   obtain ⟨x2,s2,o2⟩:=new_of e2 n2
   clear e2
   refine ⟨p2,_,rfl,.inr (Evl.st_of s2),rfl,flat_strs ["do","call"],_,rfl,itF (in_strs (k:="break") (l:=["do","call"]) (by decide)) ?_⟩
   refine ⟨_,rfl,rfl,_,rfl,itF (show decide (V.str "break"=V.str "if")=false from decide_eq_false (by decide)) ?_⟩
   refine ⟨_,rfl,rfl,_,rfl,itF (show decide (V.str "break"=V.str "while")=false from decide_eq_false (by decide)) ?_⟩
   refine ⟨_,rfl,rfl,_,rfl,itF (show decide (V.str "break"=V.str "seq")=false from decide_eq_false (by decide)) ?_⟩
   refine ⟨_,rfl,rfl,_,rfl,itF (show decide (V.str "break"=V.str "try")=false from decide_eq_false (by decide)) ?_⟩
   refine ⟨_,rfl,rfl,_,rfl,itF (show decide (V.str "break"=V.str "final")=false from decide_eq_false (by decide)) ?_⟩
   refine ⟨_,rfl,sz (by simp),?_⟩
   intro p3 n3
   generalize e3:upd _ p3 _=H3
   obtain ⟨x3,s3,o3⟩:=new_of e3 n3
   clear e3
   have x:=x1.trans (x2.trans x3)
   exact ⟨p3,_,rfl,x,[t],s3,.cons (Evl.ex_t x (hlf (.brk k) rfl)) .nil⟩
  | cnt k =>
   refine ⟨_,rfl,sz (by simp),?_⟩
   intro p2 n2
   generalize e2:upd _ p2 _=H2
   obtain ⟨x2,s2,o2⟩:=new_of e2 n2
   clear e2
   refine ⟨p2,_,rfl,.inr (Evl.st_of s2),rfl,flat_strs ["do","call"],_,rfl,itF (in_strs (k:="continue") (l:=["do","call"]) (by decide)) ?_⟩
   refine ⟨_,rfl,rfl,_,rfl,itF (show decide (V.str "continue"=V.str "if")=false from decide_eq_false (by decide)) ?_⟩
   refine ⟨_,rfl,rfl,_,rfl,itF (show decide (V.str "continue"=V.str "while")=false from decide_eq_false (by decide)) ?_⟩
   refine ⟨_,rfl,rfl,_,rfl,itF (show decide (V.str "continue"=V.str "seq")=false from decide_eq_false (by decide)) ?_⟩
   refine ⟨_,rfl,rfl,_,rfl,itF (show decide (V.str "continue"=V.str "try")=false from decide_eq_false (by decide)) ?_⟩
   refine ⟨_,rfl,rfl,_,rfl,itF (show decide (V.str "continue"=V.str "final")=false from decide_eq_false (by decide)) ?_⟩
   refine ⟨_,rfl,sz (by simp),?_⟩
   intro p3 n3
   generalize e3:upd _ p3 _=H3
   obtain ⟨x3,s3,o3⟩:=new_of e3 n3
   clear e3
   have x:=x1.trans (x2.trans x3)
   exact ⟨p3,_,rfl,x,[t],s3,.cons (Evl.ex_t x (hlf (.cnt k) rfl)) .nil⟩
end
end
section
open FcM (Way Node Tab)
def nmOk (x:Str):Prop:=nameOk x=true∧PyData.canLay0 (.str x)=true∧x.length≤100000
theorem sbn_do {r k l b:Nat} {x:Str} (hr:1≤r) (hk:1≤k) (hb:b≤25) (hx:nmOk x):SB r k l b (.tuple [.str "do",.str x]):=by
 obtain ⟨h1,h2,h3⟩:=hx
 refine sb_leaf hr hk hb (show nameOk x=true from h1) rfl ?_ (fun k y r e=>by cases e;exact h3) (fun x e=>by cases e) (by simp [PyData.depth,PyData.depthAll])
 show (PyData.canLay0 (.str "do") && (PyData.canLay0 (.str x) && true))=true
 rw [h2]
 kernel_rfl
theorem sbn_if {r r' k l b:Nat} {x:Str} {a c:PyData} (hx:nmOk x) (hb:b≤25) (ha:SB r k l b a) (hc:SB r' k l b c):SB (r + r' + 1) (k + 1) l b (.tuple [.str "if",.str x,a,c]):=by
 obtain ⟨h1,h2,h3⟩:=hx
 refine sb_two rfl (show nameOk x=true from h1) rfl (fun ca cc=>?_) (fun k y r e=>by cases e;exact h3) (fun x e=>by cases e) ?_ hb ha hc
 ·show (PyData.canLay0 (.str "if") && (PyData.canLay0 (.str x) && (PyData.canLay0 a && (PyData.canLay0 c && true))))=true
  rw [h2,ca,cc]
  kernel_rfl
 ·simp only [PyData.depth,PyData.depthAll]
  omega
theorem sbn_whl {r k l b:Nat} {x:Str} {a:PyData} (hx:nmOk x) (hb:b≤25) (h:SB r k (l + 1) b a):SB (r + 1) (k + 1) l b (.tuple [.str "while",.str x,a]):=by
 obtain ⟨h1,h2,h3⟩:=hx
 have ca:=h.can
 obtain ⟨g,e,w,w1,w2,o⟩:=h
 refine ⟨.mk ?_ (fun k y r e=>by cases e;exact h3) (fun z hz=>?_) (fun x e=>by cases e),?_,1 + w,by omega,by omega,fun dd hd=>?_⟩
 ·show (PyData.canLay0 (.str "while") && (PyData.canLay0 (.str x) && (PyData.canLay0 a && true)))=true
  rw [h2,ca]
  kernel_rfl
 ·have hz:z∈[a]:=hz
  rw [List.mem_singleton.mp hz]
  exact g
 ·simp only [PyData.depth,PyData.depthAll]
  omega
 ·exact okS_one (a:=a) rfl (show nameOk x=true from h1) (o (dd + 1) (by omega)) (by omega) hb
end
section
open FcM (Way Node Tab)
def jp11 (q:Str) (n:Int):PyData:=.tuple [.str q,.int n]
def do11 (x:Str):PyData:=.tuple [.str "do",.str x]
def if11 (x:Str) (a b:PyData):PyData:=.tuple [.str "if",.str x,a,b]
def ca11:PyData:=if11 "a" (jp11 "break" 12) (if11 "b" (jp11 "continue" 3) (do11 "c"))
def cb11:PyData:=if11 "x" (jp11 "break" 2) (if11 "y" (jp11 "break" 10) (if11 "z" (jp11 "continue" 11) ca11))
def wh11:Nat→PyData
 | 0=>.tuple [.str "final",cb11,do11 "d"]
 | n + 1=>.tuple [.str "while",.str "w",wh11 n]
theorem nm11 (x:Str) (h:x∈(["a","b","c","d","x","y","z","w"]:List Str)):nmOk x:=by
 simp only [List.mem_cons,List.not_mem_nil,or_false] at h
 rcases h with rfl | rfl | rfl | rfl | rfl | rfl | rfl | rfl<;>(unfold nmOk;decide +kernel)
theorem sb_cb11:SB 11 6 12 0 cb11:=by
 have j:∀ (q:Str) (n:Int) (k:Nat),(q="break"∨q="continue")→1≤n→n≤12→1≤k→SB 1 k 12 0 (jp11 q n):=fun q n k h1 h2 h3 h4=>sb_jmp (Nat.le_refl _) h4 (by decide) h1 h2 h3
 have c1:SB 3 2 12 0 (if11 "b" (jp11 "continue" 3) (do11 "c")):=sbn_if (nm11 "b" (by decide +kernel)) (by decide) (j _ 3 1 (.inr rfl) (by decide) (by decide) (by decide)) (sbn_do (r:=1) (by decide) (by decide) (by decide) (nm11 "c" (by decide +kernel)))
 have c2:SB 5 3 12 0 ca11:=sbn_if (nm11 "a" (by decide +kernel)) (by decide) (j _ 12 2 (.inl rfl) (by decide) (by decide) (by decide)) c1
 have c3:SB 7 4 12 0 (if11 "z" (jp11 "continue" 11) ca11):=sbn_if (nm11 "z" (by decide +kernel)) (by decide) (j _ 11 3 (.inr rfl) (by decide) (by decide) (by decide)) c2
 have c4:SB 9 5 12 0 (if11 "y" (jp11 "break" 10) (if11 "z" (jp11 "continue" 11) ca11)):=sbn_if (nm11 "y" (by decide +kernel)) (by decide) (j _ 10 4 (.inl rfl) (by decide) (by decide) (by decide)) c3
 exact sbn_if (nm11 "x" (by decide +kernel)) (by decide) (j _ 2 5 (.inl rfl) (by decide) (by decide) (by decide)) c4
theorem sb_wh11:∀ n,n≤12→SB (13 + n) (7 + n) (12 - n) 0 (wh11 n)
 | 0,_=>sb_fin (by decide) sb_cb11 (sbn_do (r:=1) (by decide) (by decide) (by decide) (nm11 "d" (by decide +kernel)))
 | n + 1,h=>by
  have ih:=sb_wh11 n (by omega)
  rw [show 12 - n=(12 - (n + 1)) + 1 from by omega] at ih
  exact sbn_whl (nm11 "w" (by decide +kernel)) (by decide) ih
def bld11:Nat→List WIt→List Row→List Row
 | 0,_,rows=>rows
 | _ + 1,[],rows=>rows
 | n + 1,it::st,rows=>bld11 n (newIts it rows.length++st) (addRow rows it.d it.par)
theorem bld_is11 {m:Nat} {st:List WIt} {rows fin:List Row} (b:Builds m st rows fin):∀ k,m≤k→bld11 k st rows=fin:=by
 induction b with
 | done rows =>
  intro k _
  cases k<;>rfl
 | step ok h ih =>
  intro k hk
  cases k with
  | zero=>omega
  | succ k =>
   show bld11 k _ _=_
   exact ih k (by omega)
theorem bld_len11 {m:Nat} {st:List WIt} {rows fin:List Row} (b:Builds m st rows fin):fin.length=rows.length + m:=by
 induction b with
 | done=>rfl
 | step ok h ih =>
  rw [ih,addRow_len]
  omega
def fn11:List Row:=bld11 40 [⟨wh11 12,none,1,0,0⟩] []
theorem td_11:∃ N lp,TD (wh11 12) N fn11 lp:=by
 obtain ⟨gs,dep,wt,w1,w2,okk⟩:=sb_wh11 12 (Nat.le_refl _)
 obtain ⟨fin,b,l⟩:=builds_of wt [⟨wh11 12,none,1,0,0⟩] [] (by have:=OkL.cons (it:=⟨wh11 12,none,1,0,0⟩) (okk 1 (by decide)) .nil;simpa using this) (by simp;omega)
 obtain ⟨N,fin2,lp,td⟩:=td_of (okk 1 (by decide)) (by omega)
 have e0:fin=fin2:=(bld_is11 b (wt + N) (by omega)).symm.trans (bld_is11 td.bd (wt + N) (by omega))
 have e:fn11=fin:=bld_is11 b 40 (by
  have:=bld_len11 b
  omega)
 rw [e,e0]
 exact ⟨N,lp,td⟩
theorem nd_11:∀ i,i<12→(tabOf fn11).nd i=.whl (i + 1):=by
 intro i hi
 have:i=0∨i=1∨i=2∨i=3∨i=4∨i=5∨i=6∨i=7∨i=8∨i=9∨i=10∨i=11:=by omega
 rcases this with rfl | rfl | rfl | rfl | rfl | rfl | rfl | rfl | rfl | rfl | rfl | rfl<;>kernel_rfl
theorem ln_11:fn11.length=25:=by decide +kernel
def du11:List Way:=[.brk 2,.brk 10,.brk 12,.cnt 3,.cnt 11,.nrm]
theorem so_11:du11.Pairwise (fun a b=>leW a b=true):=by decide +kernel
theorem srt_is {t:Tw} (nt:NdK t) {l:List Way} (so:l.Pairwise (fun a b=>leW a b=true)) (nd:l.Nodup) (h:∀ u,u∈l ↔ u∈t.map (·.1)):srtW t=l:=by
 refine sorted_ext ?_ so ((List.Perm.nodup_iff (List.mergeSort_perm _ _)).mpr nt) nd fun a=>?_
 ·exact PySem.W.sort_pairwise (le:=leW) (PySem.W.sortLe_total (PyProof.Rows.listOrd PyProof.Rows.itemOrd) false fun v:Way=>PySem.W.keyToks (FcW.keyD (wk v))) _
 ·unfold srtW
  rw [List.mem_mergeSort,h a]
theorem tb_12:(tbN (tabOf fn11) 12).map (·.1)=[.brk 2,.brk 10,.cnt 11,.brk 12,.cnt 3,.nrm]:=by decide +kernel
theorem tb_13:(tbN (tabOf fn11) 13).map (·.1)=[.brk 2,.brk 10,.cnt 11,.brk 12,.cnt 3,.nrm]:=by decide +kernel
theorem wy_12 {lp:Nat→Nat} (W:TW fn11 lp):srtW (tbN (tabOf fn11) 12)=du11∧srtW (tbN (tabOf fn11) 13)=du11:=by
 have m:∀ u:Way,u∈du11 ↔ u∈[Way.brk 2,.brk 10,.cnt 11,.brk 12,.cnt 3,.nrm]:=fun u=>by
  unfold du11
  simp only [List.mem_cons,List.not_mem_nil,or_false]
  constructor<;>(rintro (h | h | h | h | h | h)<;>simp [h])
 refine ⟨srt_is (ndk_all W.wf (by show 12<fn11.length;rw [ln_11];decide)) so_11 (by decide) fun u=>?_,srt_is (ndk_all W.wf (by show 13<fn11.length;rw [ln_11];decide)) so_11 (by decide) fun u=>?_⟩
 ·rw [tb_12];exact m u
 ·rw [tb_13];exact m u
end
end Fc
set_option maxRecDepth 100000
set_option maxHeartbeats 4000000
namespace FcL
open PySem PySem.Spec PyProof.Rows L2 FcR FcX LamX NdefX
structure LF where
 params:Arguments
 body:Expr
 scope:Scope
 qual:Str
 cl:List (Str×Addr)
 c:Addr
 dV:Value
abbrev LF.fd (F:LF) (pm ctv:Value):FuncData :=
 { name:="<lambda>",qualname:=F.qual,params:=F.params,body:=.expr F.body,scope:=F.scope,globals:=mainGlobals,closure:=F.cl,defaults:=F.dV,kwdefaults:=.none,doc:=.none,pyModule:=pm,annotations:=none,code:=.ref F.c,closureTuple:=ctv,builtins:=builtinsNs }
abbrev LF.nf (F:LF):NF:=⟨"<lambda>",F.qual,F.params,[],F.scope,F.cl,F.c⟩
def LamO (f:Addr) (F:LF):HO:=.ext fun h=>∃ pm ctv:Value,h.get? f=some ({ cls:=.type "function",data:=.func (F.fd pm ctv) }:Obj)
theorem lamO_ne {f:Addr} {F:LF} (ps:Array Value):LamO f F≠.tbl ps:=fun z=>by
 unfold LamO at z
 cases z
def Dfl (H:Hp) (dV:Value) (ds:List V):Prop:=(dV=.none∧ds=[])∨∃ T,dV=.ref T∧ds≠[]∧H T=some (.tup ds)
theorem Dfl.ex {H H':Hp} {dV:Value} {ds:List V} (d:Dfl H dV ds) (e:∀ b o,H b=some o→(∀ ps,o≠.tbl ps)→H' b=some o):Dfl H' dV ds:=by
 rcases d with z | ⟨T,a,b,c⟩
 ·exact .inl z
 ·exact .inr ⟨T,a,b,e _ _ c fun ps z=>by cases z⟩
structure LamAt (H:Hp) (f:Addr) (F:LF) (ds:List V):Prop where
 ob:H f=some (LamO f F)
 co:H F.c=some (CodeO F.c F.qual)
 df:Dfl H F.dV ds
theorem LamAt.ex {H H':Hp} {f:Addr} {F:LF} {ds:List V} (d:LamAt H f F ds) (e:∀ b o,H b=some o→(∀ ps,o≠.tbl ps)→H' b=some o):LamAt H' f F ds :=
 ⟨e _ _ d.ob lamO_ne,e _ _ d.co codeO_ne,d.df.ex e⟩
abbrev CellsB (base:Heap) (cl:List (Str×Addr)) (fr:List Str) (ws:List (Option V)):Prop:=CellsAt cl fr ws base (fun _=>none)
abbrev LSp:=List (Option V)→Hp→VK→XK→Prop
structure LOk (P:Program) (w:World) (K:PySem.W.Frag) (mg:Str→Option Value) (base:Heap) (k:Nat) (F:LF) (ds:List V) (fr:List Str) (sp:LSp):Prop where
 run:∀ (A:Around) (outer:List Env) (s:Shared) (H:Hp) (f:Addr) (ws:List (Option V)) (Q:VK) (E:XK),Room k A→Env0 P w K mg base A outer s H→LamAt H f F ds→CellsB base F.cl fr ws→sp ws H Q E →
  codeAny (model P w) A (.call (.ref f) ⟨[],[]⟩) (CR (L2.CX P w) outer P w H s Q E) s
theorem LOk.mono {P:Program} {w:World} {K:PySem.W.Frag} {mg:Str→Option Value} {base:Heap} {j k:Nat} {F:LF} {ds:List V} {fr:List Str} {sp:LSp} (o:LOk P w K mg base j F ds fr sp) (h:j≤k):LOk P w K mg base k F ds fr sp :=
 ⟨fun A outer s H f ws Q E hr=>o.run A outer s H f ws Q E (hr.mono h)⟩
section
variable {P:Program} {w:World} {K:PySem.W.Frag} {mg:Str→Option Value} {base:Heap} {N ps fr:List Str} {F:LF} {k:Nat} {ds:List V} {sp:LSp}
end
structure Grown (X:Cx) (env:Env) (N:List Str) (σ:L2.St) (base':Heap):Prop where
 up:∀ b o,X.base.get? b=some o→base'.get? b=some o
 kin:X.K.In base'
 cells:∀ (Y:Cx) (cl:List (Str×Addr)) (fr:List Str) (js:List Nat),Y.env=env→Y.N=N→Caps Y cl fr js→CellsB base' cl fr (js.map (slotAt σ))
theorem Grown.env0 {X Y:Cx} {pins pinsY:List (Addr×Obj)} {σ σY:L2.St} {H HY:Hp} {s sY:Shared} (I:Inv X pins σ H s) (IY:Inv Y pinsY σY HY sY) (far:∀ y c,Y.env.cells.lookup y=some c→X.base.get? c=none∧c ∉ frs X.stack)
  (kp:∀ y c o,Y.env.cells.lookup y=some c→sY.heap.get? c=some o→s.heap.get? c=some o∧H c=none) :
  ∃ base',Grown X Y.env Y.N σY base'∧Env0 X.prog X.w X.K X.mg base' X.A X.stack s H:=by
 classical
 let Hh:Hp:=fun b=>if (∃ o,X.base.get? b=some o)∨(∃ y,Y.env.cells.lookup y=some b) then none else some (.own 0)
 have e0:=I.env0
 have hb:∀ b o,X.base.get? b=some o→(hidT s.heap Hh).get? b=some o:=fun b o e=>hidT_get (e0.bs b o e).1 (if_pos (.inl ⟨o,e⟩))
 have hc:∀ y c o,Y.env.cells.lookup y=some c→sY.heap.get? c=some o→(hidT s.heap Hh).get? c=some o:=fun y c o e ho=>hidT_get (kp y c o e ho).1 (if_pos (.inr ⟨y,e⟩))
 have bk:∀ b o,(hidT s.heap Hh).get? b=some o→s.heap.get? b=some o∧H b=none∧((∃ o,X.base.get? b=some o)∨(∃ y,Y.env.cells.lookup y=some b)):=fun b o e=>by
  obtain ⟨h1,h2⟩:=of_hidT e
  by_cases q:(∃ o,X.base.get? b=some o)∨(∃ y,Y.env.cells.lookup y=some b)
  ·refine ⟨h1,?_,q⟩
   rcases q with ⟨o',z⟩ | ⟨y,z⟩
   ·exact (e0.bs b o' z).2
   ·obtain ⟨v,oc,hoc,_⟩:=IY.cell y b z
    exact (kp y b oc z hoc).2
  ·have z:Hh b=some (.own 0):=if_neg q
   rw [z] at h2
   cases h2
 have up:∀ {c:Addr} {v:Option Value} {y:Str},Y.env.cells.lookup y=some c→sY.heap.IsCell c v→(hidT s.heap Hh).IsCell c v:=fun {c v y} e ⟨o,ho,hd⟩=>⟨o,hc y c o e ho,hd⟩
 have mod:Mod X.K X.mg (hidT s.heap Hh):=by
  obtain ⟨m1,m2,⟨mb,m3,m4⟩,m5⟩:=e0.mod
  exact ⟨m1.keeps hb,m2.keeps hb,⟨mb,m3.keeps hb,m4⟩,m5.keeps hb⟩
 refine ⟨hidT s.heap Hh,⟨hb,mod.kin,fun Z cl fr js eZ eN cp=>?_⟩,e0.frames,mod,fun b o e=>⟨(bk b o e).1,(bk b o e).2.1⟩,Nat.le_of_eq (hidT_size _ _),?_,e0.frf,e0.hok,e0.bare⟩
 ·have cpY:Caps Y cl fr js:=by
   obtain ⟨c1,c2,c3,c4⟩:=cp
   rw [eZ] at c1 c2 c3
   rw [eN] at c4
   exact ⟨c1,c2,c3,c4⟩
  have C:=cells_of IY cpY
  refine ⟨C.len,fun y c e=>⟨rfl,?_⟩,C.inj,fun i y e=>?_⟩
  ·obtain ⟨_,v,z⟩:=C.all y c e
   exact ⟨v,up (cpY.sub y c e) z⟩
  ·obtain ⟨c,h1,h2⟩:=C.has i y e
   refine ⟨c,h1,fun v ev=>?_⟩
   obtain ⟨u,r,z⟩:=h2 v ev
   exact ⟨u,r,up (cpY.sub y c h1) z⟩
 ·have all:∀ l:List Env,(∀ b∈frs l,b∈frs X.stack)→s.heap.FunFrames X.base l→s.heap.FunFrames (hidT s.heap Hh) l:=by
   intro l
   induction l with
   | nil=>intro _ _;trivial
   | cons env r ih =>
    intro hs hl
    obtain ⟨hk,⟨L,o,hf,hn,ho,hd⟩,hr⟩:=hl
    have hL:L∈frs X.stack:=hs L (List.mem_filterMap.mpr ⟨env,List.mem_cons_self,hf⟩)
    refine ⟨hk,⟨L,o,hf,?_,ho,hd⟩,ih (fun b hb=>hs b ?_) hr⟩
    ·cases q:(hidT s.heap Hh).get? L with
     | none=>rfl
     | some o' =>
      rcases (bk L o' q).2.2 with ⟨_,z⟩ | ⟨y,z⟩
      ·rw [hn] at z
       cases z
      ·exact absurd hL (far y L z).2
    ·obtain ⟨ev,he,hq⟩:=List.mem_filterMap.mp hb
     exact List.mem_filterMap.mpr ⟨ev,List.mem_cons_of_mem _ he,hq⟩
  exact all _ (fun _ hb=>hb) e0.funs
end FcL
set_option maxRecDepth 100000
set_option maxHeartbeats 4000000
namespace FcL
open PySem PySem.Spec PyProof.Rows L2 FcR FcX LamX NdefX
section
variable {M:Model} {A:Around} {E:Value→Shared→Prop} {s:Shared} {F:LF} {env:Env} {c P:Addr} {ps:Array Value} {pos:Pos} {line:Nat} {mg:Str→Option Value} {Q:Value→Shared→Prop}
end
def ExtT (T:List (Addr×Str)) (H H':Hp):Prop:=∀ b o,H b=some o→(∀ p∈T,p.1≠b)→H' b=some o
theorem ExtT.n {T:List (Addr×Str)} {H H':Hp} (e:ExtT T H H') (t:Tabs T H):ExtN H H':=fun b o h n=>e b o h fun p hp z=>by
 obtain ⟨ps,h1,_⟩:=t p hp
 rw [z,h] at h1
 exact n ps (Option.some.inj h1)
section
variable {X:Cx} {pins:List (Addr×Obj)} {σ:L2.St} {H:Hp} {s:Shared}
end
section
variable {X:Cx} {T:List (Addr×Str)} {c P:Addr} {params:Arguments} {body:Expr} {scope:Scope} {pos:Pos} {fr:List Str} {js:List Nat}
end
end FcL
set_option maxRecDepth 100000
set_option maxHeartbeats 4000000
namespace FcL
open PySem PySem.Spec PyProof.Rows L2 FcR FcX LamX NdefX
section
variable {X:Cx}
end
end FcL
set_option maxRecDepth 100000
set_option maxHeartbeats 4000000
namespace FcL
open PySem PySem.Spec PyProof.Rows L2 FcR FcX LamX NdefX
section
variable {X:Cx} {k:Nat}
end
end FcL
namespace Fc
open PySem
end Fc
set_option maxRecDepth 100000
set_option maxHeartbeats 4000000
namespace FcL
open PySem PySem.Spec PyProof.Rows L2 FcR FcX LamX NdefX
def tIxS (C:Addr) (S:Sp→Prop) (W:WX) (ta ti:TE):TE:=fun σ H Q=>ta σ H fun x H1=>ti σ H1 fun y H2=>∃ a dx fs,x=.ref a∧H2 a=some (.ins C dx fs)∧∃ sp,S sp∧sp [x,y] H2 Q (WE W σ)
theorem fnIn_of {K:PySem.W.Frag} {x qual:Str} {params:Arguments} {body:List Stmt} {scope:Scope} {dvs:List V} {kws:List (Str×V)} {f:Addr} {fd:FuncData} (F:FunD K x qual params body scope dvs kws f fd):PySem.W.fnIn K f=true:=by
 obtain ⟨_,_,_,_,_,_,_,_,_,_,rfl,lk,_⟩:=F.ex
 unfold PySem.W.fnIn
 rw [lk]
section
variable {X:Cx} {k:Nat} {f C:Addr} {S:Sp→Prop} {W:WX} {o i:Expr} {pos apos:Pos} {ta ti:TE} {m:Str}
theorem run_in1 {fd:FuncData} {ps:List Str} {sp:Sp} (F:FnOk X.prog X.w X.K X.mg X.base (L2.CX X.prog X.w) k f fd ps sp) (hr:Room k X.A.in1) (hb:Binds X.K fd ps []) (tk:Takes X W) {pins:List (Addr×Obj)} {σ:L2.St} {H:Hp} {s:Shared} {us:List Value} {vs:List V} {Q:VK}
  (I:Inv X pins σ H s) (r:Vals vs us) (h:sp vs H Q (WE W σ)):wpAny (model X.prog X.w) X.A.in1 (call (.ref f) us) (EP X pins σ Q) X.xe s:=by
 have e:=I.env0
 have e0:Env0 X.prog X.w X.K X.mg X.base X.A.in1 X.stack s H:=⟨e.frames,e.mod,e.bs,e.bsz,e.funs,e.frf,e.hok,e.bare⟩
 have hl:=F.len _ _ _ _ h
 have b:=hb s us I.kIn (by rw [List.append_nil,← r.length];exact hl)
 rw [List.append_nil] at b
 refine wpAny_call (codeAny_mono (F.run _ X.stack s H ⟨us,[]⟩ us vs _ _ hr e0 b r h) fun r s' hq=>?_)
 cases r with
 | error e=>exact passAt tk σ pins _ _ e s' I hq
 | ok fl =>
  cases fl with
  | ret w=>exact I.after hq
  | next=>exact False.elim hq
  | brk=>exact False.elim hq
  | cont=>exact False.elim hq
theorem pe_ixS (A:∀ sp,S sp→HeldX X.prog X.w X.K X.mg X.base k f sp) (hm:Meth X.K C "__getitem__" f) (hfn:PySem.W.fnIn X.K f=true) (hr:Room (k + 1) X.A) (tk:Takes X W) (ha:PE X o ta) (hi:PE X i ti)
  (hsl:∀ x v,subscripted i true (.ref x) v=runValue (.builtin "lifetime.subscript" ⟨[.ref x,v],[]⟩):=by intro _ _;with_unfolding_all rfl):PE X (.Subscript o i pos) (tIxS C S W ta ti):=by
 refine ⟨fun pins s σ H Q I h=>?_⟩
 refine Subscript_ (binT ha hi I h fun v u s2 x y H2 I2 rx ry q=>?_)
 obtain ⟨a,dx,fs,rfl,hx,sp,hS,q⟩:=q
 obtain rfl:v=Value.ref a:=rx
 obtain ⟨fd,ps,F,_,hb⟩:=(A sp hS).ex
 obtain ⟨mA,J,_⟩:=ins_get I2.hok hx
 obtain ⟨od,J,_⟩:=J.look
 obtain ⟨mm,hF⟩:=I2.fr
 exact PySem.W.sub_K hF I2.ok.mod.kin J hm.at_ hfn hm.fn (run_in1 F hr.in1 hb tk I2 (.cons (show L2.RelV (.ref a) (Value.ref a) from rfl) (.cons ry .nil)) q) (hsl _ _)
end
section
variable {X:Cx} {CX:CXT} {C f:Addr} {fd:FuncData} {ps ks:List Str} {sp:Sp} {E:XK} {k:Nat} {m:Str} {o:Expr} {apos pos:Pos} {kws:List Keyword} {ta:TE} {tk:TA} {g:List Value→List Value} {gV:List V→List V}
end
end FcL
set_option maxRecDepth 100000
set_option maxHeartbeats 4000000
namespace Fc
open PySem PySem.Spec PyProof.Rows L2 FcR
open Evl (Ex)
section
def BadN (K:PySem.W.Frag) (H:Hp) (u:V) (n:Nat):Prop:=(∃ i:Int,u=.int i∧(decide (0≤i) && decide (i≤(n:Int) - 1))=false) ∨
 (∃ t b1 b2,(∀ H',Ex H H'→TyX K H' u t)∧PySem.W.kitOne K t (.type "int")=some b1∧PySem.W.kitOne K t (.type "bool")=some b2∧(b1 && !b2)=false)
theorem BadN.ex {K:PySem.W.Frag} {H H':Hp} {u:V} {n:Nat} (b:BadN K H u n) (e:Ex H H'):BadN K H' u n:=by
 rcases b with z | ⟨t,b1,b2,ty,r⟩
 ·exact .inl z
 ·exact .inr ⟨t,b1,b2,fun H2 e2=>ty H2 (e.trans e2),r⟩
theorem RaisesA.ex {K:PySem.W.Frag} {C f:Str} {H H':Hp} {y:V} {E:XK} (r:RaisesA K C f H y E) (e:Ex H H'):RaisesA K C f H' y E:=fun H2 d x n s=>r H2 d (e.trans x) (ex_none e n) s
theorem heldOf {P:Program} {w:World} {K:PySem.W.Frag} {mg:Str→Option Value} {base:Heap} {k:Nat} {at_:Str×Option Str} {ps:List Str} {sp:Sp} (o:Ok P w K mg base k at_ ps sp):∀ sp',sp'=sp→FcX.HeldX P w K mg base k (He.fAd K at_) sp':=fun sp' e=>by
 subst e
 obtain ⟨fd,G,b,kp⟩:=o
 exact ⟨fd,_,G,kp,b⟩
section
variable {P:Program} {w:World} {h:Heap} {K:PySem.W.Frag} {mg:Str→Option Value} {base:Heap}
end
end
section
def sp_get (K:PySem.W.Frag):Sp:=fun vs H Q _=>∃ (F:Hp) (A:CAd) (rows:List Row) (n:Nat) (r:Row),vs=[.ref A.p,.int (n:Int)]∧CodeH K F F A rows∧Ex F H∧rows[n]?=some r∧∀ v,Dp K F v r.d→Q v H
section
variable {P:Program} {w:World} {h:Heap} {K:PySem.W.Frag} {mg:Str→Option Value} {base:Heap}
abbrev N_Code___getitem__:List Str:=["self","number"]
theorem sc_Code___getitem__:FnScope N_Code___getitem__ ["self","number"] (defScope sd_Code___getitem__):=⟨rfl,rfl,rfl,by decide +kernel,rfl,by decide +kernel,by decide +kernel⟩
theorem ok_Code___getitem__ (T:Tx w h K mg):Ok P w K mg base 4 ("Code",some "__getitem__") ["self","number"] (sp_get K):=by
 obtain ⟨fd,F⟩:=F_Code___getitem__ T
 refine ⟨fd,?_,F.bindsN (fun _ _ _ _ _ _ us hl=>match us,hl with | [_,_],_=>rfl),F.kp⟩
 obtain ⟨fd_Code_check_number,G_Code_check_number,bi_Code_check_number,kp_Code_check_number⟩:=ok_Code_check_number (P:=P) (base:=base) T
 refine F.ok sc_Code___getitem__ (fun vs H Q E h=>?_) (fun cdv A outer s H vs Q E hr h=>?_)
 ·obtain ⟨F,A,rows,n,r,rfl,C,xF,hw,q⟩:=h
  rfl
 ·obtain ⟨F,A,rows,n,r,rfl,C,xF,hw,q⟩:=h
  refine ⟨_,PSs.nox (pss_cons (ps_expr (pe_meth (pv 0) (c_Code T) (me_Code_check_number T) G_Code_check_number (hr.mono (by decide)) bi_Code_check_number .nil passF (pa_cons (pv 1) pa_nil))) (pss_one (ps_ret (pe_ix ix_list (pe_fld (pv 0) rfl) (pv 1) (fun _ _=>rfl))))),?_⟩
  obtain ⟨vs,C1,da⟩:=C.ex (Evl.Ex.refl _) xF
  obtain ⟨v,hv,dv⟩:=dpA_get da (i:=n) (d:=r.d) (by rw [List.getElem?_map,hw]<;>rfl)
  refine ⟨_,rfl,A.p,_,_,rfl,C1.ob,fm_Code_check_number _ _ _ _ _,_,rfl,F,A,rows,n,rfl,C,xF,(List.getElem?_eq_some_iff.mp hw).1,?_⟩
  exact ⟨_,rfl,A.p,_,_,_,_,rfl,C1.ob,c_Code T,na_Code_statements T,fl_Code_statements _ _ _ _ _,_,rfl,A.a1,_,_,v,rfl,rfl,Evl.sq_of C1.h1,atI_nat hv,q v dv⟩
end
end
section
open FcM (Way Node Tab)
end
section
open FcM (Way Node Tab)
abbrev Bg:=List (Option (List Int))
def Odd (xs:List V):Prop:=∃ x∈xs,∀ k,x≠V.int k
theorem sqT_exb {K:PySem.W.Frag} {H H':Hp} {p b:Addr} {xs l:List V} (e:H p=some (.lst xs)) (x:ExB p H H') (h:SqT K H b l):SqT K H' b l:=by
 rcases h with h | h
 ·refine .inl ?_
  rcases h with h | ⟨ob,h⟩
  ·exact .inl (x _ _ (ne_of h e (fun z=>nomatch z)) h)
  ·exact .inr ⟨ob,x _ _ (ne_of h e (fun z=>nomatch z)) h⟩
 ·exact .inr h
theorem ints_exb {H H':Hp} {p a:Addr} {xs:List V} {l:List Int} (e:H p=some (.lst xs)) (hx:Odd xs) (x:ExB p H H') (h:H a=some (.lst (l.map V.int))):H' a=some (.lst (l.map V.int)) :=
 x _ _ (fun y=>by
  rw [y,e] at h
  injection h with h
  injection h with h
  obtain ⟨x,h1,h2⟩:=hx
  rw [h] at h1
  obtain ⟨k,_,h3⟩:=List.mem_map.mp h1
  exact h2 k h3.symm) h
theorem wt_exb {P:Program} {w:World} {K:PySem.W.Frag} {H H':Hp} {p d:Addr} {xs:List V} {t:Tw} (e:H p=some (.lst xs)) (hx:Odd xs) (x:ExB p H H') (D:Wt P w K hp0 H d t):Wt P w K hp0 H' d t:=by
 obtain ⟨o,es,⟨D1,D2⟩,R⟩:=D
 exact ⟨o,es,⟨x _ _ (ne_of D1 e (fun z=>nomatch z)) D1,fun y h=>sqT_exb e x (D2 y h)⟩,L2.Paired.mapP R fun _ _ z=>⟨z.1,let ⟨a,e1,e2,e3⟩:=z.2;⟨a,e1,ints_exb e hx x e2,e3⟩⟩⟩
theorem ansV_ex {K:PySem.W.Frag} {H H':Hp} {v:V}:∀ {l:Option (List Int)},Ex H H'→AnsV K H v l→AnsV K H' v l
 | none,_,h=>h
 | some l,e,⟨a,h1,h2⟩=>⟨a,h1,e _ _ h2⟩
theorem ansV_odd {K:PySem.W.Frag} {H:Hp} {bs:List V} {L:Bg} (h:Paired (AnsV K H) bs L) (hl:0<L.length):Odd bs:=by
 cases h with
 | nil=>simp at hl
 | @cons x y xs ys r t =>
  refine ⟨x,List.mem_cons_self,fun k z=>?_⟩
  cases y with
  | none=>cases (show x=V.non from r).symm.trans z
  | some l =>
   obtain ⟨a,h1,_⟩:=r
   cases h1.symm.trans z
def FrV (N:Hp) (u:V):Prop:=∀ a,u=.ref a→N a=none
theorem FrV.of {N:Hp} {a:Addr} (h:N a=none):FrV N (.ref a):=fun b e=>by cases e;exact h
theorem FrV.non {N:Hp}:FrV N .non:=fun b e=>by cases e
def BgL (K:PySem.W.Frag) (F H:Hp) (p:Addr) (L:Bg):Prop:=∃ bs,H p=some (.lst bs)∧Paired (AnsV K H) bs L∧0<L.length∧∀ u∈bs,FrV F u
theorem bgL_ex {K:PySem.W.Frag} {F H H':Hp} {p:Addr} {L:Bg} (e:Ex H H') (h:BgL K F H p L):BgL K F H' p L:=let ⟨bs,h1,h2,h3⟩:=h;⟨bs,e _ _ h1,L2.Paired.mapP h2 fun _ _ z=>ansV_ex e z,h3⟩
theorem ex_exB' {F H H':Hp} {p:Addr} (e:Ex F H) (hp:F p=none) (b:ExB p H H'):Ex F H':=fun c o h=>b c o (ne_of_none h hp) (e c o h)
structure BgK (P:Program) (w:World) (K:PySem.W.Frag) (F:Hp) (A:CAd) (rows:List Row) (lp:Nat→Nat) (a p:Addr) (ds:List Addr) (L:Bg) (H:Hp):Prop where
 x:CK K F A rows lp
 e:Ex F H
 f:F p=none
 la:H a=some (.lst (ds.map V.ref))
 n:a≠p
 w:WtA P w K hp0 H ds ((List.range rows.length).map (tbN (tabOf rows)))
 b:BgL K F H p L
theorem BgK.exb {P:Program} {w:World} {K:PySem.W.Frag} {F H H':Hp} {A:CAd} {rows:List Row} {lp:Nat→Nat} {a p:Addr} {ds:List Addr} {L L':Bg} (z:BgK P w K F A rows lp a p ds L H) (b:ExB p H H') (l:BgL K F H' p L'):BgK P w K F A rows lp a p ds L' H':=by
 obtain ⟨bs,h1,h2,h3,_⟩:=z.b
 have od:=ansV_odd h2 h3
 exact ⟨z.x,ex_exB' z.e z.f b,z.f,b _ _ z.n z.la,z.n,L2.Paired.mapP z.w fun _ _ y=>wt_exb h1 od b y,l⟩
theorem BgK.ex {P:Program} {w:World} {K:PySem.W.Frag} {F H H':Hp} {A:CAd} {rows:List Row} {lp:Nat→Nat} {a p:Addr} {ds:List Addr} {L:Bg} (z:BgK P w K F A rows lp a p ds L H) (e:Ex H H'):BgK P w K F A rows lp a p ds L H':=z.exb (exB_of e) (bgL_ex e z.b)
theorem BgK.dict {P:Program} {w:World} {K:PySem.W.Frag} {F H:Hp} {A:CAd} {rows:List Row} {lp:Nat→Nat} {a p:Addr} {ds:List Addr} {L:Bg} (z:BgK P w K F A rows lp a p ds L H) {c:Nat} (hc:c<rows.length):∃ d,(ds.map V.ref)[c]?=some (.ref d)∧Wt P w K hp0 H d (tbN (tabOf rows) c):=by
 obtain ⟨d,h1,h2⟩:=paired_getR z.w (show ((List.range rows.length).map (tbN (tabOf rows)))[c]?=some (tbN (tabOf rows) c) from by rw [List.getElem?_map,List.getElem?_range hc]<;>rfl)
 exact ⟨d,by rw [List.getElem?_map,h1]<;>rfl,h2⟩
section
variable {P:Program} {w:World} {h:Heap} {K:PySem.W.Frag} {mg:Str→Option Value} {base:Heap}
end
end
section
open FcM (Way Node Tab)
theorem ch_len {rows:List Row} {lp:Nat→Nat} (W:TW rows lp) (G:WgA rows) {n:Nat} {r:Row} (hr:rows[n]?=some r):(partsD r.d).length≤400:=by
 have hn:=(List.getElem?_eq_some_iff.mp hr).1
 obtain ⟨x,hx,g⟩:=G n hn
 have h1:=wg_len g
 obtain ⟨_,h2,h3⟩:=W.sv n r hr
 rw [tab_nd hr,← h3] at h1
 omega
end
section
open FcM (Way Node Tab)
theorem lf_ways {d:PyData} {l:Int} (h:SV l d) {K:PySem.W.Frag} {H:Hp} {t:Addr} (hd:Dp K H (.ref t) d) {par:Option Nat} {ch:List Nat} {u:Way} (hu:kindLf (ndOf ⟨d,par,ch⟩)=some u) (hn:∀ k,ndOf ⟨d,par,ch⟩=.brk k∨ndOf ⟨d,par,ch⟩=.cnt k→∃ q,d=.tuple [.str q,.int (k:Int)]):SqT K H t ((wk u).map kV):=by
 cases h with
 | ret =>
  cases hu
  obtain ⟨a,xs,e,hS,hA⟩:=dp_tup hd
  cases e
  cases hA with | cons h1 hA=>cases hA;obtain rfl:=dp_str h1;exact hS
 | rai =>
  cases hu
  obtain ⟨a,xs,e,hS,hA⟩:=dp_tup hd
  cases e
  cases hA with | cons h1 hA=>cases hA;obtain rfl:=dp_str h1;exact hS
 | brk n h1 h2 =>
  obtain ⟨a,xs,e,hS,hA⟩:=dp_tup hd
  cases e
  obtain ⟨q,eq⟩:=hn _ (.inl rfl)
  have hu:u=.brk (numD (.tuple [.str "break",.int n])):=(Option.some.inj hu).symm
  injection eq with eq
  obtain ⟨_,e2⟩:=List.cons.inj eq
  obtain ⟨e2,_⟩:=List.cons.inj e2
  injection e2 with e2
  rw [hu]
  cases hA with
  | cons g1 hA =>
  cases hA with
  | cons g2 hA =>
  cases hA
  obtain rfl:=dp_str g1
  obtain rfl:=dp_int g2
  rw [e2] at hS
  exact hS
 | cnt n h1 h2 =>
  obtain ⟨a,xs,e,hS,hA⟩:=dp_tup hd
  cases e
  obtain ⟨q,eq⟩:=hn _ (.inr rfl)
  have hu:u=.cnt (numD (.tuple [.str "continue",.int n])):=(Option.some.inj hu).symm
  injection eq with eq
  obtain ⟨_,e2⟩:=List.cons.inj eq
  obtain ⟨e2,_⟩:=List.cons.inj e2
  injection e2 with e2
  rw [hu]
  cases hA with
  | cons g1 hA =>
  cases hA with
  | cons g2 hA =>
  cases hA
  obtain rfl:=dp_str g1
  obtain rfl:=dp_int g2
  rw [e2] at hS
  exact hS
 | _=>cases hu
theorem jmp_num {d:PyData} {l:Int} (h:SV l d) {par:Option Nat} {ch:List Nat} (k:Nat) (e:ndOf ⟨d,par,ch⟩=.brk k∨ndOf ⟨d,par,ch⟩=.cnt k):∃ q,d=.tuple [.str q,.int (k:Int)]:=by
 cases h with
 | brk n h1 h2 =>
  rcases e with e | e
  ·have e:Node.brk n.toNat=.brk k:=e
   injection e with e
   exact ⟨_,by rw [← e,Int.toNat_of_nonneg (by omega)]⟩
  ·cases e
 | cnt n h1 h2 =>
  rcases e with e | e
  ·cases e
  ·have e:Node.cnt n.toNat=.cnt k:=e
   injection e with e
   exact ⟨_,by rw [← e,Int.toNat_of_nonneg (by omega)]⟩
 | _=>rcases e with e | e<;>cases e
theorem sv_hd {d:PyData} {l:Int} (h:SV l d):∃ r,d=.tuple (.str (kindD d)::r):=by cases h<;>exact ⟨_,rfl⟩
theorem byp_of {K:PySem.W.Frag} {F H:Hp} {A:CAd} {rows:List Row} {lp:Nat→Nat} (X:CK K F A rows lp) {n:Nat} (hn:n<rows.length) {r:Row} (hr:rows[n]?=some r) {v:V} (dv:Dp K H v r.d) {sa:Addr} {as:List Addr} (hs:WyLs K H sa as (r.ch.map fun c=>srtW (tbN (tabOf rows) c))) {Q:VK} {E:XK}
  (q:∀ (H':Hp) (l:Addr),Ex H H'→H l=none→WyL K H' l (srtW (tbN (tabOf rows) n))→Q (.ref l) H'):sp_byp K [v,.ref sa] H Q E:=by
 obtain ⟨sv,e1,e2⟩:=X.w.sv n r hr
 obtain ⟨rd,er⟩:=sv_hd sv
 have hnd:=tab_nd hr
 obtain ⟨p1,p2⟩:=parts_ok X.w X.g hn
 rw [er] at dv
 obtain ⟨t,xs,rfl,hS,hA⟩:=dp_tup dv
 rw [← er] at dv
 cases hA with
 | @cons v0 xr _ _ h0 hA =>
 obtain rfl:=dp_str h0
 have hk:kindD r.d=kindN ((tabOf rows).nd n):=by rw [hnd];exact kd_nd sv
 have hch:r.ch=((tabOf rows).nd n).ch:=by rw [hnd];exact e2
 rw [hk] at hS
 rw [hch] at hs
 have cl:((tabOf rows).nd n).ch.length≤400:=by
  rw [← hch,e1]
  exact ch_len X.w X.g hr
 refine ⟨(tabOf rows).nd n,t,sa,xr,as,fun c=>srtW (tbN (tabOf rows) c),tbN (tabOf rows) n,rfl,hS,fun u hu=>?_,hs,?_,cl,fun c hc u hu k hk=>?_,ndk_all X.w.wf hn,fun u=>byW_ok X.w hn u,q⟩
 ·rw [hnd] at hu
  exact lf_ways sv dv hu (fun k e=>jmp_num sv k e)
 ·have:(((tabOf rows).nd n).ch.map fun c=>(srtW (tbN (tabOf rows) c)).length)=(((tabOf rows).nd n).ch.map (tbN (tabOf rows))).map List.length:=by
   rw [List.map_map]
   refine List.map_congr_left fun c _=>?_
   unfold srtW
   rw [List.length_mergeSort,List.length_map]<;>rfl
  rw [this]
  omega
 ·unfold srtW at hu
  rw [List.mem_mergeSort,List.mem_map] at hu
  obtain ⟨p,hp,rfl⟩:=hu
  exact ((p2 c hc).2 p hp).2 k hk
theorem byp_at {K:PySem.W.Frag} {H:Hp} {vs:List V} {Q:VK} {E:XK} (h:sp_byp K vs H Q E):sp_byp K (vs++[]) H Q E:=by rw [List.append_nil];exact h
theorem wyl_dat {K:PySem.W.Frag} {H:Hp} {a b:Addr} {ws:List Way} (h:WyL K H a ws) (k:WyL K H b ws):∃ d,Dp K H (.ref a) d∧Dp K H (.ref b) d∧PyData.canLay0 d=true∧d.depth≤200:=by
 obtain ⟨bs,h1,h2⟩:=h
 obtain ⟨cs,k1,k2⟩:=k
 have dep:(PyData.list (ws.map fun v=>FcW.keyD (wk v))).depth≤200:=by
  have:PyData.depthAll (ws.map fun v=>FcW.keyD (wk v))≤5:=by
   clear h2 k2
   induction ws with
   | nil=>exact Nat.zero_le _
   | cons w ws ih =>
    show max _ _≤5
    rw [dep_wk]
    omega
  simp only [PyData.depth]
  omega
 exact ⟨.list (ws.map fun v=>FcW.keyD (wk v)),.lst (Evl.sq_of h1) (wyR_dp h2),.lst (Evl.sq_of k1) (wyR_dp k2),wyR_can _,dep⟩
theorem wyl_ne {K:PySem.W.Frag} {H:Hp} {a b:Addr} {ws:List Way} {Q:VK} (h:WyL K H a ws) (k:WyL K H b ws) (q:Q (.bl false) H):rNeM K (.ref a) (.ref b) H Q:=by
 obtain ⟨d,h1,h2,h3,h4⟩:=wyl_dat h k
 exact ⟨d,d,h1,h2,h3,h3,Nat.le_trans (Nat.min_le_left _ _) h4,by rw [PySem.SeqAt.eqv_refl d h3];exact q⟩
theorem wyl_eq {K:PySem.W.Frag} {H:Hp} {a b:Addr} {ws:List Way} {Q:VK} (h:WyL K H a ws) (k:WyL K H b ws) (q:Q (.bl true) H):rEqM K (.ref a) (.ref b) H Q:=by
 obtain ⟨d,h1,h2,h3,h4⟩:=wyl_dat h k
 exact ⟨d,d,h1,h2,h3,h3,Nat.le_trans (Nat.min_le_left _ _) h4,by rw [PySem.SeqAt.eqv_refl d h3];exact q⟩
def sp_deep11:Sp:=fun vs H Q _=>vs=[]∧∀ H',Ex H H'→Q (.bl true) H'
section
variable {P:Program} {w:World} {h:Heap} {K:PySem.W.Frag} {mg:Str→Option Value} {base:Heap}
abbrev N_law_deep_right:List Str:=["_law_chain","_law_due","_law_statement_here","_law_turn","_law_code","_law_number"]
theorem sc_law_deep_right:FnScope N_law_deep_right [] (defScope sd_law_deep_right):=⟨rfl,rfl,rfl,by decide +kernel,rfl,by decide +kernel,by decide +kernel⟩
theorem ok_law_deep_right (T:Tx w h K mg):Ok P w K mg base 60 ("_law_deep_right",none) [] (sp_deep11):=by
 obtain ⟨fd,F⟩:=F_law_deep_right T
 refine ⟨fd,?_,F.bindsN (fun _ _ _ _ _ _ us hl=>match us,hl with | [],_=>rfl),F.kp⟩
 obtain ⟨fd_law_by_parts,G_law_by_parts,bi_law_by_parts,kp_law_by_parts⟩:=ok_law_by_parts (P:=P) (base:=base) T
 obtain ⟨fd_ways,G_ways,bi_ways,kp_ways⟩:=ok_ways (P:=P) (base:=base) T
 obtain ⟨fd_Code___init__,G_Code___init__,bi_Code___init__,kp_Code___init__⟩:=ok_Code___init__ (P:=P) (base:=base) T
 refine F.ok sc_law_deep_right (fun vs H Q E h=>?_) (fun cdv A outer s H vs Q E hr h=>?_)
 ·obtain ⟨rfl,q⟩:=h
  rfl
 ·obtain ⟨rfl,q⟩:=h
  refine ⟨_,PSs.nox (pss_cons (ps_set (i:=0) sc_law_deep_right.nd rfl (Or.inl rfl) (pe_tup (pa_cons pe_str (pa_cons pe_str (pa_cons (pe_tup (pa_cons pe_str (pa_cons pe_int pa_nil))) (pa_cons (pe_tup (pa_cons pe_str (pa_cons pe_str (pa_cons (pe_tup (pa_cons pe_str (pa_cons pe_int pa_nil))) (pa_cons (pe_tup (pa_cons pe_str (pa_cons pe_str pa_nil))) pa_nil))))) pa_nil)))))) (pss_cons (ps_set (i:=0) sc_law_deep_right.nd rfl (Or.inl rfl) (pe_tup (pa_cons pe_str (pa_cons pe_str (pa_cons (pe_tup (pa_cons pe_str (pa_cons pe_int pa_nil))) (pa_cons (pe_tup (pa_cons pe_str (pa_cons pe_str (pa_cons (pe_tup (pa_cons pe_str (pa_cons pe_int pa_nil))) (pa_cons (pe_tup (pa_cons pe_str (pa_cons pe_str (pa_cons (pe_tup (pa_cons pe_str (pa_cons pe_int pa_nil))) (pa_cons (pv 0) pa_nil))))) pa_nil))))) pa_nil)))))) (pss_cons (ps_set (i:=1) sc_law_deep_right.nd rfl (Or.inl rfl) (pe_lst (pa_cons (pe_tup (pa_cons pe_str (pa_cons pe_int pa_nil))) (pa_cons (pe_tup (pa_cons pe_str (pa_cons pe_int pa_nil))) (pa_cons (pe_tup (pa_cons pe_str (pa_cons pe_int pa_nil))) (pa_cons (pe_tup (pa_cons pe_str (pa_cons pe_int pa_nil))) (pa_cons (pe_tup (pa_cons pe_str (pa_cons pe_int pa_nil))) (pa_cons (pe_tup (pa_cons pe_str pa_nil)) pa_nil)))))))) (pss_cons (ps_set (i:=2) sc_law_deep_right.nd rfl (Or.inl rfl) (pe_tup (pa_cons pe_str (pa_cons (pv 0) (pa_cons (pe_tup (pa_cons pe_str (pa_cons pe_str pa_nil))) pa_nil))))) (pss_cons (ps_for PassesOwn.never rfl (pi_range1 rfl (fr_range T) (pa_cons pe_int pa_nil)) (pg_name (i:=3) sc_law_deep_right.nd rfl (Or.inl rfl)) (pss_one (ps_set (i:=2) sc_law_deep_right.nd rfl (Or.inl rfl) (pe_tup (pa_cons pe_str (pa_cons pe_str (pa_cons (pv 2) pa_nil))))))) (pss_cons (ps_set (i:=4) sc_law_deep_right.nd rfl (Or.inl rfl) (pe_make (mk_Code T) G_Code___init__ (hr.mono (by decide)) rfl (g_Code T) bi_Code___init__ .nil passF (pa_cons (pv 2) pa_nil))) (pss_cons (ps_for PassesOwn.never rfl (pi_range1 rfl (fr_range T) (pa_cons pe_int pa_nil)) (pg_name (i:=5) sc_law_deep_right.nd rfl (Or.inl rfl)) (pss_one (ps_if (pt_cmpR (op_neM hr) (pe_call G_ways (hr.mono (by decide)) rfl (g_ways T) kp_ways bi_ways .nil passF (pa_cons (pv 4) (pa_cons (pv 5) pa_nil))) (pe_call G_law_by_parts (hr.mono (by decide)) rfl (g_law_by_parts T) kp_law_by_parts bi_law_by_parts .nil passF (pa_cons (FcL.pe_ixS (heldOf (ok_Code___getitem__ (P:=P) (base:=base) T)) (me_Code___getitem__ T) (FcL.fnIn_of (F_Code___getitem__ T).choose_spec) (hr.mono (by decide)) LamX.takes0 (pv 4) (pv 5)) (pa_cons (pe_lst (pa_cons (pe_call G_ways (hr.mono (by decide)) rfl (g_ways T) kp_ways bi_ways .nil passF (pa_cons (pv 4) (pa_cons (pe_op op_add (pv 5) pe_int) pa_nil))) pa_nil)) pa_nil))) (nomark _)) (pss_one (ps_ret pe_bl)) pss_nil))) (pss_one (ps_ret (pe_and (pe_cmpR (op_eqM hr) (pe_call G_ways (hr.mono (by decide)) rfl (g_ways T) kp_ways bi_ways .nil passF (pa_cons (pv 4) (pa_cons pe_int pa_nil))) (pv 1) (nomark _)) (pe_one (pe_cmpR (op_eqM hr) (pe_call G_ways (hr.mono (by decide)) rfl (g_ways T) kp_ways bi_ways .nil passF (pa_cons (pv 4) (pa_cons pe_int pa_nil))) (pv 1) (nomark _))))))))))))),?_⟩
  refine ⟨sz (by simp),?_⟩
  intro p1 n1
  generalize e1:upd _ p1 _=H1
  obtain ⟨x1,s1,o1⟩:=new_of e1 n1
  clear e1
  refine ⟨sz (by simp),?_⟩
  intro p2 n2
  generalize e2:upd _ p2 _=H2
  obtain ⟨x2,s2,o2⟩:=new_of e2 n2
  clear e2
  refine ⟨sz (by simp),?_⟩
  intro p3 n3
  generalize e3:upd _ p3 _=H3
  obtain ⟨x3,s3,o3⟩:=new_of e3 n3
  clear e3
  refine ⟨sz (by simp),?_⟩
  intro p4 n4
  generalize e4:upd _ p4 _=H4
  obtain ⟨x4,s4,o4⟩:=new_of e4 n4
  clear e4
  refine ⟨sz (by simp),?_⟩
  intro p5 n5
  generalize e5:upd _ p5 _=H5
  obtain ⟨x5,s5,o5⟩:=new_of e5 n5
  clear e5
  have dc5:Dp K H5 (.ref p5) ca11:=.tup (Evl.st_of s5) (.cons (.str _) (.cons (.str _) (.cons (.tup (Evl.st_of ((x2.trans (x3.trans (x4.trans x5))) _ _ s1)) (.cons (.str _) (.cons (.int _) .nil))) (.cons (.tup (Evl.st_of (x5 _ _ s4)) (.cons (.str _) (.cons (.str _) (.cons (.tup (Evl.st_of ((x3.trans (x4.trans x5)) _ _ s2)) (.cons (.str _) (.cons (.int _) .nil))) (.cons (.tup (Evl.st_of ((x4.trans x5) _ _ s3)) (.cons (.str _) (.cons (.str _) .nil))) .nil))))) .nil))))
  have X5:=x1.trans (x2.trans (x3.trans (x4.trans x5)))
  refine ⟨sz (by simp),?_⟩
  intro p6 n6
  generalize e6:upd _ p6 _=H6
  obtain ⟨x6,s6,o6⟩:=new_of e6 n6
  clear e6
  refine ⟨sz (by simp),?_⟩
  intro p7 n7
  generalize e7:upd _ p7 _=H7
  obtain ⟨x7,s7,o7⟩:=new_of e7 n7
  clear e7
  refine ⟨sz (by simp),?_⟩
  intro p8 n8
  generalize e8:upd _ p8 _=H8
  obtain ⟨x8,s8,o8⟩:=new_of e8 n8
  clear e8
  refine ⟨_,rfl,?_⟩
  refine ⟨sz (by simp),?_⟩
  intro p9 n9
  generalize e9:upd _ p9 _=H9
  obtain ⟨x9,s9,o9⟩:=new_of e9 n9
  clear e9
  refine ⟨sz (by simp),?_⟩
  intro p10 n10
  generalize e10:upd _ p10 _=H10
  obtain ⟨x10,s10,o10⟩:=new_of e10 n10
  clear e10
  refine ⟨sz (by simp),?_⟩
  intro p11 n11
  generalize e11:upd _ p11 _=H11
  obtain ⟨x11,s11,o11⟩:=new_of e11 n11
  clear e11
  have d11:Dp K H11 (.ref p11) cb11:=.tup (Evl.st_of s11) (.cons (.str _) (.cons (.str _) (.cons (.tup (Evl.st_of ((x7.trans (x8.trans (x9.trans (x10.trans x11)))) _ _ s6)) (.cons (.str _) (.cons (.int _) .nil))) (.cons (.tup (Evl.st_of (x11 _ _ s10)) (.cons (.str _) (.cons (.str _) (.cons (.tup (Evl.st_of ((x8.trans (x9.trans (x10.trans x11))) _ _ s7)) (.cons (.str _) (.cons (.int _) .nil))) (.cons (.tup (Evl.st_of ((x10.trans x11) _ _ s9)) (.cons (.str _) (.cons (.str _) (.cons (.tup (Evl.st_of ((x9.trans (x10.trans x11)) _ _ s8)) (.cons (.str _) (.cons (.int _) .nil))) (.cons (dp_ex (x6.trans (x7.trans (x8.trans (x9.trans (x10.trans x11))))) dc5) .nil))))) .nil))))) .nil))))
  refine ⟨sz (by simp),?_⟩
  intro p12 n12
  generalize e12:upd _ p12 _=H12
  obtain ⟨x12,s12,o12⟩:=new_of e12 n12
  clear e12
  refine ⟨sz (by simp),?_⟩
  intro p13 n13
  generalize e13:upd _ p13 _=H13
  obtain ⟨x13,s13,o13⟩:=new_of e13 n13
  clear e13
  refine ⟨sz (by simp),?_⟩
  intro p14 n14
  generalize e14:upd _ p14 _=H14
  obtain ⟨x14,s14,o14⟩:=new_of e14 n14
  clear e14
  refine ⟨sz (by simp),?_⟩
  intro p15 n15
  generalize e15:upd _ p15 _=H15
  obtain ⟨x15,s15,o15⟩:=new_of e15 n15
  clear e15
  refine ⟨sz (by simp),?_⟩
  intro p16 n16
  generalize e16:upd _ p16 _=H16
  obtain ⟨x16,s16,o16⟩:=new_of e16 n16
  clear e16
  refine ⟨sz (by simp),?_⟩
  intro p17 n17
  generalize e17:upd _ p17 _=H17
  obtain ⟨x17,s17,o17⟩:=new_of e17 n17
  clear e17
  refine ⟨sz (by simp),?_⟩
  intro p18 n18
  generalize e18:upd _ p18 _=H18
  obtain ⟨x18,s18,o18⟩:=new_of e18 n18
  clear e18
  have W18:WyL K H18 p18 du11:=⟨[p12,p13,p14,p15,p16,p17],s18,.cons (SqT.of ((x13.trans (x14.trans (x15.trans (x16.trans (x17.trans x18))))) _ _ s12)) (.cons (SqT.of ((x14.trans (x15.trans (x16.trans (x17.trans x18)))) _ _ s13)) (.cons (SqT.of ((x15.trans (x16.trans (x17.trans x18))) _ _ s14)) (.cons (SqT.of ((x16.trans (x17.trans x18)) _ _ s15)) (.cons (SqT.of ((x17.trans x18) _ _ s16)) (.cons (SqT.of (x18 _ _ s17)) .nil)))))⟩
  have x118:=x12.trans (x13.trans (x14.trans (x15.trans (x16.trans (x17.trans x18)))))
  refine ⟨_,rfl,?_⟩
  refine ⟨sz (by simp),?_⟩
  intro p19 n19
  generalize e19:upd _ p19 _=H19
  obtain ⟨x19,s19,o19⟩:=new_of e19 n19
  clear e19
  refine ⟨sz (by simp),?_⟩
  intro p20 n20
  generalize e20:upd _ p20 _=H20
  obtain ⟨x20,s20,o20⟩:=new_of e20 n20
  clear e20
  have d20:Dp K H20 (.ref p20) (wh11 0):=.tup (Evl.st_of s20) (.cons (.str _) (.cons (dp_ex (x118.trans (x19.trans x20)) d11) (.cons (.tup (Evl.st_of (x20 _ _ s19)) (.cons (.str _) (.cons (.str _) .nil))) .nil)))
  have x1820:=x19.trans x20
  have X20:Ex H H20:=X5.trans (x6.trans (x7.trans (x8.trans (x9.trans (x10.trans (x11.trans (x118.trans x1820)))))))
  refine ⟨_,rfl,by decide,by decide,?_⟩
  refine for_it (walk_range (lo:=0) (n:=12)) (fun i σ' H'=>∃ (st:Addr) (o3:Option V),σ'=[some (.ref p11),some (.ref p18),some (.ref st),o3,none,none]∧Ex H20 H'∧Dp K H' (.ref st) (wh11 i)) ?_ ?_ ?_ ?_
  ·exact ⟨p20,_,rfl,Evl.Ex.refl _,d20⟩
  ·exact fun _ _ _ _ _=>True.intro
  ·rintro i v σ' Ha Hb hi ⟨st,o3,rfl,x,ds⟩ ⟨rfl,rfl⟩
   refine ⟨_,rfl,?_⟩
   refine ⟨sz (by simp),?_⟩
   intro p21 n21
   generalize e21:upd _ p21 _=H21
   obtain ⟨x21,s21,o21⟩:=new_of e21 n21
   clear e21
   exact ⟨p21,_,rfl,x.trans x21,.tup (Evl.st_of s21) (.cons (.str _) (.cons (.str _) (.cons (dp_ex x21 ds) .nil)))⟩
  rintro σ' H22 ⟨st,o3,rfl,x22,dst⟩
  obtain ⟨gs,_⟩:=sb_wh11 12 (Nat.le_refl _)
  obtain ⟨N,lp,td⟩:=td_11
  have rfl22:Ex H22 H22:=Evl.Ex.refl _
  refine ⟨_,rfl,?_⟩
  intro q23 dx23 nq23 nd23 ne23
  generalize e23:upd (upd _ dx23 _) q23 _=G23
  obtain ⟨y23,hq23⟩:=make_of e23 nq23 nd23
  clear e23
  refine ⟨H22,q23,dx23,.ref st,wh11 12,GS,N,fn11,rfl,hq23,(show Ex H22 _ from rfl22).trans y23,ex_none (show Ex H22 _ from rfl22) nq23,dst,(fun e he=>gs_parts he),gs,td.bd,fun A23 F23 H23 eA23 g23 C23=>⟨rfl,?_⟩⟩
  subst eA23
  have k23:=fun b o (e:_=some o)=>g23.kp b o (y23 b o e) (ne_of_none e nq23)
  have X:CK K F23 A23 fn11 lp:=td.ck C23
  have x2223:Ex H22 H23:=fun b o e=>k23 b o e
  have obx:∀ {H':Hp},Ex F23 H'→H' A23.p=some (.ins (He.ga K "Code") A23.dx (cFs A23)):=fun {H'} x=>by
   obtain ⟨vs,C1,_⟩:=X.c.ex (Evl.Ex.refl _) x
   exact C1.ob
  have W23:WyL K H23 p18 du11:=wyL_ex x2223 (wyL_ex x22 (wyL_ex x1820 W18))
  refine ⟨_,rfl,by decide,by decide,?_⟩
  refine for_it (walk_range (lo:=0) (n:=12)) (fun i σ' H'=>∃ (o3 o5:Option V),σ'=[some (.ref p11),some (.ref p18),some (.ref st),o3,some (.ref A23.p),o5]∧Ex H23 H') ?_ ?_ ?_ ?_
  ·exact ⟨_,_,rfl,Evl.Ex.refl _⟩
  ·exact fun _ _ _ _ _=>True.intro
  ·rintro i v σ' Ha Hb hi ⟨o3,o5,rfl,x⟩ ⟨rfl,rfl⟩
   have ei:(0:Int) + (i:Int)=(i:Int):=by omega
   dsimp only
   rw [ei]
   have hi:i<12:=hi
   have l11:=ln_11
   have hn:i<fn11.length:=by omega
   have hn1:i + 1<fn11.length:=by omega
   obtain ⟨r,hr⟩:=row_at hn
   have hnd:=nd_11 i hi
   have hch:r.ch=[i + 1]:=by
    have:=(X.w.sv i r hr).2.2
    rw [← tab_nd hr,hnd] at this
    exact this
   refine ⟨_,rfl,_,rfl,F23,A23,fn11,lp,i,rfl,X,g23.fh.trans x,hn,fun H24 a24 x24 n24 W24=>?_⟩
   refine ⟨_,rfl,_,rfl,A23.p,_,_,rfl,obx (g23.fh.trans (x.trans x24)),_,rfl,F23,A23,fn11,i,r,rfl,X.c,g23.fh.trans (x.trans x24),hr,fun v25 dv25=>?_⟩
   refine ⟨_,rfl,_,rfl,_,_,rfl,rfl,F23,A23,fn11,lp,i + 1,rfl,X,g23.fh.trans (x.trans x24),hn1,fun H26 a26 x26 n26 W26=>?_⟩
   refine ⟨sz (by simp),?_⟩
   intro p27 n27
   generalize e27:upd _ p27 _=H27
   obtain ⟨x27,s27,o27⟩:=new_of e27 n27
   clear e27
   unfold tNil
   refine byp_at (E:=fun _ _ _=>False) ?_
   refine byp_of X hn hr (dp_ex (g23.fh.trans (x.trans (x24.trans (x26.trans x27)))) dv25) (as:=[a26]) ⟨s27,by rw [hch];exact .cons (wyL_ex x27 W26) .nil⟩ fun H28 a28 x28 n28 W28=>?_
   refine wyl_ne (wyL_ex (x26.trans (x27.trans x28)) W24) W28 ⟨_,rfl,itF rfl ⟨_,_,rfl,x.trans (x24.trans (x26.trans (x27.trans x28)))⟩⟩
  rintro σ' H24 ⟨o3,o5,rfl,x24⟩
  obtain ⟨w12,w13⟩:=wy_12 X.w
  have l11:=ln_11
  have xF:=g23.fh.trans x24
  refine ⟨_,rfl,F23,A23,fn11,lp,12,rfl,X,xF,by omega,fun H25 a25 x25 n25 W25=>⟨_,rfl,?_⟩⟩
  rw [w12] at W25
  have W24:=wyL_ex x24 W23
  refine wyl_eq W25 (wyL_ex x25 W24) ⟨_,rfl,?_⟩
  rw [if_pos rfl]
  refine ⟨_,rfl,F23,A23,fn11,lp,13,rfl,X,xF.trans x25,by omega,fun H26 a26 x26 n26 W26=>⟨_,rfl,?_⟩⟩
  rw [w13] at W26
  refine wyl_eq W26 (wyL_ex (x25.trans x26) W24) ?_
  exact q H26 (X20.trans (x22.trans (x2223.trans (x24.trans (x25.trans x26)))))
end
end
section
def sp_law (K:PySem.W.Frag):Sp:=fun vs H Q _=>∃ (a:Addr) (ns:List Int),vs=[.ref a]∧ns.length≤63∧SqL K H a (ns.map V.int)∧∀ H',Q (.bl true) H'
theorem cut_mem {xs:List V} {lo hi:Option Int} {x:V} (h:x∈cutV xs lo hi):x∈xs:=by
 unfold cutV at h
 exact List.mem_of_mem_drop (List.mem_of_mem_take h)
end
section
def sp_prts (K:PySem.W.Frag):Sp:=fun vs H Q _=>∃ (F:Hp) (A:CAd) (rows:List Row) (n:Nat) (r:Row),vs=[.ref A.p,.int (n:Int)]∧CodeH K F F A rows∧Ex F H∧rows[n]?=some r∧r.ch.length≤400∧∀ (H':Hp) (a:Addr),Ex H H'→H a=none→H' a=some (.lst (intsV r.ch))→Q (.ref a) H'
section
variable {P:Program} {w:World} {h:Heap} {K:PySem.W.Frag} {mg:Str→Option Value} {base:Heap}
abbrev N_Code_parts:List Str:=["self","number"]
theorem sc_Code_parts:FnScope N_Code_parts ["self","number"] (defScope sd_Code_parts):=⟨rfl,rfl,rfl,by decide +kernel,rfl,by decide +kernel,by decide +kernel⟩
theorem okF_Code_parts (T:Tx w h K mg):∃ fd,FnOk P w K mg base (CX P w) 4 (He.fAd K ("Code",some "parts")) fd ["self","number"] (sp_prts K)∧Binds K fd ["self","number"] []∧PySem.W.keepIn K (.ref (He.fAd K ("Code",some "parts")))=true∧FunD K "parts" "Code.parts" (defArgs sd_Code_parts) (defBody sd_Code_parts) (defScope sd_Code_parts) [] [] (He.fAd K ("Code",some "parts")) fd:=by
 obtain ⟨fd,F⟩:=F_Code_parts T
 refine ⟨fd,?_,F.bindsN (fun _ _ _ _ _ _ us hl=>match us,hl with | [_,_],_=>rfl),F.kp,F⟩
 obtain ⟨fd_Code_check_number,G_Code_check_number,bi_Code_check_number,kp_Code_check_number⟩:=ok_Code_check_number (P:=P) (base:=base) T
 refine F.ok sc_Code_parts (fun vs H Q E h=>?_) (fun cdv A outer s H vs Q E hr h=>?_)
 ·obtain ⟨F,A,rows,n,r,rfl,C,xF,hw,hc,q⟩:=h
  rfl
 ·obtain ⟨F,A,rows,n,r,rfl,C,xF,hw,hc,q⟩:=h
  refine ⟨_,PSs.nox (pss_cons (ps_expr (pe_meth (pv 0) (c_Code T) (me_Code_check_number T) G_Code_check_number (hr.mono (by decide)) bi_Code_check_number .nil passF (pa_cons (pv 1) pa_nil))) (pss_one (ps_ret (pe_callTy call_list_of rfl (fr_list T) b_list (pa_cons (pe_ix ix_list (pe_fld (pv 0) rfl) (pv 1) (fun _ _=>rfl)) pa_nil))))),?_⟩
  obtain ⟨vs,C1,_⟩:=C.ex (Evl.Ex.refl _) xF
  refine ⟨_,rfl,A.p,_,_,rfl,C1.ob,fm_Code_check_number _ _ _ _ _,_,rfl,F,A,rows,n,rfl,C,xF,(List.getElem?_eq_some_iff.mp hw).1,?_⟩
  have lt:=(List.getElem?_eq_some_iff.mp hw).1
  have lc:n<A.cs.length:=by rw [C1.cl,List.length_map];exact lt
  have hcc:=C1.cc n _ _ (List.getElem?_eq_getElem lc) (by rw [List.getElem?_map,hw]<;>rfl)
  refine ⟨_,rfl,A.p,_,_,_,_,rfl,C1.ob,c_Code T,na_Code_children T,fl_Code_children _ _ _ _ _,_,rfl,A.a5,_,_,.ref A.cs[n],rfl,rfl,Evl.sq_of C1.h5,atI_nat (by rw [List.getElem?_map,List.getElem?_eq_getElem lc]<;>rfl),?_⟩
  refine ⟨A.cs[n],_,rfl,.inl (Evl.sq_of hcc),?_⟩
  intro p1 n1
  generalize e1:upd _ p1 _=H1
  obtain ⟨x1,s1,o1⟩:=new_of e1 n1
  clear e1
  exact q H1 p1 x1 n1 s1
theorem ok_Code_parts (T:Tx w h K mg):Ok P w K mg base 4 ("Code",some "parts") ["self","number"] (sp_prts K):=by
 obtain ⟨fd,a,b,c,_⟩:=okF_Code_parts (P:=P) (base:=base) T
 exact ⟨fd,a,b,c⟩
end
end
section
open FcM (Way Node Tab)
theorem mul_as (i j k:Int) {H:Hp} {Q:VK} (c:CMul i j) (e:i * j=k) (q:Q (.int k) H):rI CMul (fun i j=>V.int (i * j)) (.int i) (.int j) H Q:=⟨i,j,rfl,rfl,c,by subst e;exact q⟩
theorem root11 {K:PySem.W.Frag} {F:Hp} {A:CAd} {rows:List Row} {lp:Nat→Nat} (X:CK K F A rows lp) {u:Way} (h:u∈srtW (tbN (tabOf rows) 0)):u∈([.nrm,.ret,.rai]:List Way):=by
 unfold srtW at h
 rw [List.mem_mergeSort,List.mem_map] at h
 obtain ⟨p,hp,rfl⟩:=h
 have h0:0<rows.length:=X.w.wf.ne
 obtain ⟨m,hm,g⟩:=X.g 0 h0
 have h1:=(tg_all X.w.wf g h0).ok p hp
 rw [X.w.wf.lp0] at h1
 cases e:p.1 with
 | brk k=>rw [e] at h1;have:=h1.1;have:=h1.2;omega
 | cnt k=>rw [e] at h1;have:=h1.1;have:=h1.2;omega
 | _=>simp
section
variable {P:Program} {w:World} {h:Heap} {K:PySem.W.Frag} {mg:Str→Option Value} {base:Heap}
abbrev N_law:List Str:=["_law_script","_law_cell","_law_source_here","_law_code","_law_turn","_law_number","_law_some","_law_part","_law_way"]
theorem sc_law:FnScope N_law ["_law_script"] (defScope sd_law):=⟨rfl,rfl,rfl,by decide +kernel,rfl,by decide +kernel,by decide +kernel⟩
theorem okF_law (T:Tx w h K mg):∃ fd,FnOk P w K mg base (CX P w) 208 (He.fAd K ("law",none)) fd ["_law_script"] (sp_law K)∧Binds K fd ["_law_script"] []∧PySem.W.keepIn K (.ref (He.fAd K ("law",none)))=true∧FunD K "law" "law" (defArgs sd_law) (defBody sd_law) (defScope sd_law) [] [] (He.fAd K ("law",none)) fd:=by
 obtain ⟨fd,F⟩:=F_law T
 refine ⟨fd,?_,F.bindsN (fun _ _ _ _ _ _ us hl=>match us,hl with | [_],_=>rfl),F.kp,F⟩
 obtain ⟨fd_law_by_parts,G_law_by_parts,bi_law_by_parts,kp_law_by_parts⟩:=ok_law_by_parts (P:=P) (base:=base) T
 obtain ⟨fd_law_cell_at,G_law_cell_at,bi_law_cell_at,kp_law_cell_at⟩:=ok_law_cell_at (P:=P) (base:=base) T
 obtain ⟨fd_law_choice,G_law_choice,bi_law_choice,kp_law_choice⟩:=ok_law_choice (P:=P) (base:=base) T
 obtain ⟨fd_law_deep_right,G_law_deep_right,bi_law_deep_right,kp_law_deep_right⟩:=ok_law_deep_right (P:=P) (base:=base) T
 obtain ⟨fd_law_draw,G_law_draw,bi_law_draw,kp_law_draw⟩:=ok_law_draw (P:=P) (base:=base) T
 obtain ⟨fd_law_source,G_law_source,bi_law_source,kp_law_source⟩:=ok_law_source (P:=P) (base:=base) T
 obtain ⟨fd_ways,G_ways,bi_ways,kp_ways⟩:=ok_ways (P:=P) (base:=base) T
 obtain ⟨fd_Code___init__,G_Code___init__,bi_Code___init__,kp_Code___init__⟩:=ok_Code___init__ (P:=P) (base:=base) T
 obtain ⟨fd_Code___len__,G_Code___len__,bi_Code___len__,kp_Code___len__⟩:=ok_Code___len__ (P:=P) (base:=base) T
 obtain ⟨fd_Code_parts,G_Code_parts,bi_Code_parts,kp_Code_parts⟩:=ok_Code_parts (P:=P) (base:=base) T
 obtain ⟨fd_law_statement,G_law_statement,bi_law_statement,kp_law_statement⟩:=ok_stmB (P:=P) (base:=base) T 100
 refine F.ok sc_law (fun vs H Q E h=>?_) (fun cdv A outer s H vs Q E hr h=>?_)
 ·obtain ⟨a,ns,rfl,hl,hs,q⟩:=h
  rfl
 ·obtain ⟨a,ns,rfl,hl,hs,q⟩:=h
  refine ⟨_,PSs.nox (pss_cons (ps_for PassesOwn.never rfl (pi_list (pe_op op_cat (pe_lst (pa_cons (pe_call G_law_cell_at (hr.mono (by decide)) rfl (g_law_cell_at T) kp_law_cell_at bi_law_cell_at .nil passF (pa_cons (pv 0) (pa_cons pe_int pa_nil))) pa_nil)) (pe_slice sl_list (pv 0) (po_some pe_int) (po_some pe_int)))) (pg_name (i:=1) sc_law.nd rfl (Or.inl rfl)) (pss_cons (ps_set (i:=2) sc_law.nd rfl (Or.inl rfl) (pe_call G_law_source (hr.mono (by decide)) rfl (g_law_source T) kp_law_source bi_law_source .nil passF (pa_cons (pv 1) pa_nil))) (pss_cons (ps_set (i:=3) sc_law.nd rfl (Or.inr rfl) (pe_make (mk_Code T) G_Code___init__ (hr.mono (by decide)) rfl (g_Code T) bi_Code___init__ .nil passF (pa_cons (pe_call G_law_statement (hr.mono (by decide)) rfl (g_law_statement T) kp_law_statement bi_law_statement .nil passF (pa_cons (pv 2) (pa_cons (pe_call G_law_choice (hr.mono (by decide)) rfl (g_law_choice T) kp_law_choice bi_law_choice .nil passF (pa_cons (pv 2) (pa_cons (pe_lst (pa_cons pe_int (pa_cons pe_int (pa_cons pe_int pa_nil)))) pa_nil))) (pa_cons pe_int (pa_cons pe_int (pa_cons pe_int pa_nil)))))) pa_nil))) (pss_cons (ps_for PassesOwn.never rfl (pi_range1 rfl (fr_range T) (pa_cons pe_int pa_nil)) (pg_name (i:=4) sc_law.nd rfl (Or.inl rfl)) (pss_cons (ps_set (i:=5) sc_law.nd rfl (Or.inl rfl) (pe_op op_mul (pe_call G_law_draw (hr.mono (by decide)) rfl (g_law_draw T) kp_law_draw bi_law_draw .nil passF (pa_cons (pv 2) (pa_cons (pe_callB (FcO.call_lenO G_Code___len__ (hr.mono (by decide)) (me_Code___len__ T) bi_Code___len__ passF) rfl (fr_len T) b_len (pa_cons (pv 3) pa_nil)) pa_nil))) (pe_callTy call_int1 rfl (fr_int T) b_int (pa_cons (pe_cmpR op_gt (pv 4) pe_int (nomark _)) pa_nil)))) (pss_cons (ps_setLc (i:=6) (own:=[("_law_part",7)]) rfl sc_law.nd rfl rfl (sw_true rfl rfl rfl (by decide +kernel)) (pi_list (pe_meth (pv 3) (c_Code T) (me_Code_parts T) G_Code_parts (hr.mono (by decide)) bi_Code_parts .nil passF (pa_cons (pv 5) pa_nil))) (blkOk_by (N:=N_law) (sc:=defScope sd_law) (by decide +kernel)) (fun _ _ _ _ _=>(pg_name (i:=7) sc_law.nd rfl (Or.inl rfl))) (fun _ _ _ _ _=>pts_nil) (fun _ _ _ _ _=>(pe_call G_ways (hr.mono (by decide)) rfl (g_ways T) kp_ways bi_ways .nil passF (pa_cons (pv 3) (pa_cons (pv 7) pa_nil))))) (pss_one (ps_if (pt_cmpR (op_neM hr) (pe_call G_ways (hr.mono (by decide)) rfl (g_ways T) kp_ways bi_ways .nil passF (pa_cons (pv 3) (pa_cons (pv 5) pa_nil))) (pe_call G_law_by_parts (hr.mono (by decide)) rfl (g_law_by_parts T) kp_law_by_parts bi_law_by_parts .nil passF (pa_cons (FcL.pe_ixS (heldOf (ok_Code___getitem__ (P:=P) (base:=base) T)) (me_Code___getitem__ T) (FcL.fnIn_of (F_Code___getitem__ T).choose_spec) (hr.mono (by decide)) LamX.takes0 (pv 3) (pv 5)) (pa_cons (pv 6) pa_nil))) (nomark _)) (pss_one (ps_ret pe_bl)) pss_nil))))) (pss_one (ps_if (pt_cmpR (op_neM hr) (pe_lc (own:=[("_law_way",8)]) rfl sc_law.nd (pi_list (pe_call G_ways (hr.mono (by decide)) rfl (g_ways T) kp_ways bi_ways .nil passF (pa_cons (pv 3) (pa_cons pe_int pa_nil)))) (blkOk_by (N:=N_law) (sc:=defScope sd_law) (by decide +kernel)) (fun _ _ _ _ _=>(pg_name (i:=8) sc_law.nd rfl (Or.inl rfl))) (fun _ _ _ _ _=>(pts_one (pt_cmpR (show OpR _ _ (FcW.rNotInD K) from FcW.op_notinD hr) (pv 8) (pe_lst (pa_cons (pe_tup (pa_cons pe_str pa_nil)) (pa_cons (pe_tup (pa_cons pe_str pa_nil)) (pa_cons (pe_tup (pa_cons pe_str pa_nil)) pa_nil)))) (by rfl)))) (fun _ _ _ _ _=>(pv 8))) (pe_lst pa_nil) (nomark _)) (pss_one (ps_ret pe_bl)) pss_nil)))))) (pss_one (ps_ret (pe_call0 G_law_deep_right (hr.mono (by decide)) rfl (g_law_deep_right T) kp_law_deep_right bi_law_deep_right .nil passF)))),?_⟩
  refine ⟨_,rfl,a,ns,0,rfl,hs,sz (by simp),?_⟩
  intro p1 n1
  generalize e1:upd _ p1 _=H1
  obtain ⟨x1,s1,o1⟩:=new_of e1 n1
  clear e1
  have hs1:=Evl.ex_l x1 hs
  refine ⟨_,rfl,1,rfl,3,rfl,a,_,rfl,hs1,?_⟩
  intro p2 n2
  generalize e2:upd _ p2 _=H2
  obtain ⟨x2,s2,o2⟩:=new_of e2 n2
  clear e2
  have hc2:(cutV (ns.map V.int) (some 1) (some 3)).length≤63:=Nat.le_trans (cutV_length ..) (by rw [List.length_map];exact hl)
  refine ⟨p1,p2,_,_,rfl,rfl,x2 _ _ s1,s2,sz (by simp;omega),?_⟩
  intro p3 n3
  generalize e3:upd _ p3 _=H3
  obtain ⟨x3,s3,o3⟩:=new_of e3 n3
  clear e3
  have isI:∀ (i:Nat) (x:V),([V.int (ns.getD 0 0)]++cutV (ns.map V.int) (some 1) (some 3))[i]?=some x→∃ c,x=.int c:=fun i x hx=>by
   have hm:=List.mem_of_getElem? hx
   rcases List.mem_append.mp hm with h1 | h1
   ·exact ⟨_,List.mem_singleton.mp h1⟩
   ·obtain ⟨c,_,e⟩:=List.mem_map.mp (cut_mem h1)
    exact ⟨c,e.symm⟩
  generalize [V.int (ns.getD 0 0)]++cutV (ns.map V.int) (some 1) (some 3)=cs at s3 isI
  refine ⟨p3,rfl,⟨_,Evl.sq_of s3⟩,?_⟩
  refine for_it (walk_list (xs:=cs)) (fun i σ' H'=>Ex H3 H'∧∃ u1 u2 u3 u4 u5 u6 u7 u8,σ'=[some (.ref a),u1,u2,u3,u4,u5,u6,u7,u8]) ?_ ?_ ?_ ?_
  ·exact ⟨Evl.Ex.refl _,_,_,_,_,_,_,_,_,rfl⟩
  ·exact fun i σ' H' _ ⟨e,_⟩=>Evl.sq_of (e _ _ s3)
  rotate_left
  ·rintro σ' H' ⟨e,u1,u2,u3,u4,u5,u6,u7,u8,rfl⟩
   exact ⟨rfl,fun H2 _=>q H2⟩
  rintro i v σ' Ha Hb hi ⟨e,u1,u2,u3,u4,u5,u6,u7,u8,rfl⟩ ⟨rfl,hv⟩
  obtain ⟨c,rfl⟩:=isI i v hv
  refine ⟨_,rfl,c,rfl,fun p4 H4 n4 x4 s4 o4=>?_⟩
  have r4:Gr (fun b=>b=p4) hp0 H4 hp0 H4:=Gr.refl (fun b o z=>by cases z)
  refine ⟨_,rfl,_,rfl,sz (by simp),?_⟩
  intro p5 n5
  generalize e5:upd _ p5 _=H5
  obtain ⟨x5,s5,o5⟩:=new_of e5 n5
  clear e5
  have p54:p5≠p4:=fun z=>by obtain ⟨_,_,_,h,_⟩:=s4;rw [z,h] at n5;cases n5
  refine ⟨p4,p5,0,[V.int 12,.int 60,.int 400],rfl,s4.kp fun o h=>x5 _ _ h,by omega,s5,p54,(by simp),(by simp),fun H6 x hx s6 o6=>?_⟩
  obtain ⟨rm,rfl,rm1,rm2⟩:∃ rm:Nat,x=.int (rm:Int)∧1≤rm∧rm≤400:=by
   simp only [List.mem_cons,List.not_mem_nil,or_false] at hx
   rcases hx with rfl | rfl | rfl
   ·exact ⟨12,rfl,by decide,by decide⟩
   ·exact ⟨60,rfl,by decide,by decide⟩
   ·exact ⟨400,rfl,by decide,by decide⟩
  have g6:=(r4.trans (Gr.new r4.fh x5)).trans (gr_kp (F:=hp0) (fun b o z=>by cases z) rfl o6)
  refine ⟨hp0,p4,1,rm,100,0,0,rfl,Nat.le_refl _,rm1,by decide,by omega,by decide,by decide,g6.fh,rfl,s6,by omega,fun F7 H7 vd d g7 f7 s7 dvd sb=>?_⟩
  have g47:=g6.trans g7
  obtain ⟨gs,dep,wt,w1,w2,okk⟩:=sb
  have ok1:=okk 1 (by decide)
  obtain ⟨N,fin,lp,td⟩:=td_of ok1 (by omega)
  intro q9 dx9 nq9 nd9 ne9
  generalize e9:upd (upd _ dx9 _) q9 _=G9
  obtain ⟨y9,hq9⟩:=make_of e9 nq9 nd9
  clear e9
  refine ⟨F7,q9,dx9,vd,d,GS,N,fin,rfl,hq9,(show Ex F7 _ from g47.fh).trans y9,ex_none (show Ex F7 _ from g47.fh) nq9,dvd,(fun e he=>gs_parts he),gs,td.bd,fun A9 F9 H9 eA9 g9 C9=>⟨rfl,?_⟩⟩
  subst eA9
  have k9:=fun b o (e:_=some o)=>g9.kp b o (y9 b o e) (ne_of_none e nq9)
  have nA4:H4 A9.p=none:=by
   cases z:H4 A9.p with
   | none=>rfl
   | some o =>
    by_cases e:A9.p=p4
    ·obtain ⟨_,_,_,h,_⟩:=s7
     rw [e,h] at nq9
     cases nq9
    ·rw [g47.kp _ _ z e] at nq9
     cases nq9
  have gM:Gr (fun b=>b=p4) hp0 H4 F9 H9:=(g47.trans (Gr.new g47.fh y9)).hide g9 fun x hx=>.inl (by rw [hx];exact nA4)
  have x9:Ex Hb H9:=fun b o hb=>gM.kp b o (x4 b o hb) (ne_of_none hb n4)
  have s9:SrcB H9 p4 (1 + 8 * rm):=s7.kp fun o h=>k9 _ _ h
  have f9:F9 p4=none:=g9.nw p4 (by obtain ⟨_,_,_,h,_⟩:=s7;rw [y9 _ _ h];exact fun z=>nomatch z) f7 (fun z=>by obtain ⟨_,_,_,h,_⟩:=s7;rw [z] at h;rw [h] at nq9;cases nq9)
  have xF9:Ex F9 H9:=gM.fh
  have X:CK K F9 A9 fin lp:=td.ck C9
  have hl4:=X.l
  have hN:0<fin.length:=X.w.wf.ne
  have obx:∀ {H':Hp},Ex F9 H'→H' A9.p=some (.ins (He.ga K "Code") A9.dx (cFs A9)):=fun {H'} x=>by
   obtain ⟨vs,C1,_⟩:=X.c.ex (Evl.Ex.refl _) x
   exact C1.ob
  refine ⟨_,rfl,by decide,by decide,?_⟩
  refine for_it (walk_range (lo:=0) (n:=12)) (fun j σ' H'=>∃ o4 o5 o6 o7 o8,Ex Hb H'∧Ex F9 H'∧SrcB H' p4 (1 + 8 * rm + j)∧σ'=[some (.ref a),some (.int c),some (.ref p4),some (.ref A9.p),o4,o5,o6,o7,o8]) ?_ ?_ ?_ ?_
  ·exact ⟨_,_,_,_,_,x9,xF9,s9,rfl⟩
  ·exact fun _ _ _ _ _=>True.intro
  ·rintro j v σ' H10 H11 hj ⟨o4,o5,o6,o7,o8,eb,xF,s10,rfl⟩ ⟨rfl,hv⟩
   obtain rfl:v=.int (j:Int):=hv.trans (congrArg V.int (by omega))
   have hj:j<12:=hj
   refine ⟨_,rfl,_,rfl,A9.p,_,_,rfl,obx xF,F9,A9,fin,rfl,X.c,xF,fin.length,rfl,(by omega),p4,_,(fin.length:Int),rfl,s10,by omega,by omega,by omega,fun v12 H12 v0 v1 s12 o12=>?_⟩
   refine ⟨_,rfl,_,_,rfl,rfl,.inr ⟨_,rfl,?_⟩⟩
   obtain ⟨n,hn,en⟩:∃ n:Nat,n<fin.length∧v12 * (if decide ((0:Int)<(j:Int))=true then 1 else 0)=(n:Int):=by
    by_cases z:(0:Int)<(j:Int)
    ·exact ⟨v12.toNat,by omega,by rw [decide_eq_true z,if_pos rfl];omega⟩
    ·exact ⟨0,hN,by rw [decide_eq_false z];simp⟩
   refine mul_as _ _ _ (.inr ⟨by split<;>decide,by split<;>decide⟩) en ?_
   have xF12:Ex F9 H12:=fun b o h=>o12 b o (fun z=>by rw [z,f9] at h;cases h) (xF b o h)
   have eb12:Ex Hb H12:=fun b o h=>o12 b o (ne_of_none h n4) (eb b o h)
   obtain ⟨r,hr⟩:=row_at hn
   have hcl:r.ch.length≤400:=by
    obtain ⟨_,e1,_⟩:=X.w.sv n r hr
    rw [e1]
    exact ch_len X.w X.g hr
   refine ⟨_,rfl,A9.p,_,_,rfl,obx xF12,rfl,_,rfl,F9,A9,fin,n,r,rfl,X.c,xF12,hr,hcl,fun H13 a13 x13 n13 s13=>?_⟩
   refine ⟨a13,rfl,⟨_,Evl.sq_of s13⟩,fun D14 nD14=>?_⟩
   have Dne:∀ b o,H13 b=some o→b≠D14:=fun b o e z=>by rw [z,nD14] at e;cases e
   refine lc_it (walk_list (xs:=intsV r.ch)) (fun i H'=>∃ as:List Addr,H' D14=some (.lst (as.map V.ref))∧Paired (fun l ws=>l≠D14∧WyL K H' l ws) as ((r.ch.take i).map fun c=>srtW (tbN (tabOf fin) c))∧∀ b o,b≠D14→H13 b=some o→H' b=some o) ?_ ?_ ?_ ?_
   ·exact ⟨[],upd_same,.nil,fun b o n e=>by rw [upd_ne n];exact e⟩
   ·exact fun i H' _ ⟨_,_,_,k⟩=>Evl.sq_of (k _ _ (Dne _ _ s13) s13)
   ·rintro i v2 Ja Jb hi ⟨as,lD,PD,kD⟩ ⟨rfl,hv2⟩
    obtain ⟨k,hk,rfl⟩:∃ k:Nat,r.ch[i]?=some k∧v2=.int (k:Int):=by
     unfold intsV at hv2
     rw [List.getElem?_map] at hv2
     obtain ⟨k,g1,g2⟩:=Option.map_eq_some_iff.mp hv2
     exact ⟨k,g1,g2.symm⟩
    have hi:i<r.ch.length:=by
     have:=List.getElem?_eq_some_iff.mp hk
     exact this.1
    have tk:r.ch.take (i + 1)=r.ch.take i++[k]:=by rw [List.take_succ,hk]<;>rfl
    have xJ:Ex H13 Jb:=fun b o e=>kD b o (Dne _ _ e) e
    have cl:=Paired.length PD
    rw [List.length_map,List.length_take] at cl
    have hkl:k<fin.length:=by
     have:=(X.w.wf.dn n hn k (by rw [tab_nd hr,← (X.w.sv n r hr).2.2];exact List.mem_of_getElem? hk)).2.1
     exact this
    refine ⟨rfl,_,rfl,_,rfl,F9,A9,fin,lp,k,rfl,X,xF12.trans (x13.trans xJ),hkl,fun H15 a15 x15 n15 W15=>?_⟩
    have l15:=x15 _ _ lD
    have TD:TT K H15 (upd H15 D14 (.lst (as.map V.ref++[.ref a15]))):=TT.lst l15 fun b o n e=>by rw [upd_ne n];exact e
    refine ⟨_,l15,szl (by rw [List.length_map];omega),as++[a15],by rw [upd_same,List.map_append]<;>rfl,?_,fun b o n e=>by rw [upd_ne n];exact x15 _ _ (kD b o n e)⟩
    rw [tk,List.map_append]
    have up:∀ {l:Addr} {ws:List Way},l≠D14→WyL K H15 l ws→WyL K (upd H15 D14 (.lst (as.map V.ref++[.ref a15]))) l ws:=fun {l ws} hl ⟨bs,b1,b2⟩=>⟨bs,by rw [upd_ne hl];exact b1,L2.Paired.mapP b2 fun _ _ z=>TD _ _ z⟩
    have na:a15≠D14:=fun z=>by rw [z,lD] at n15;cases n15
    exact Paired.snoc (L2.Paired.mapP PD fun _ _ z=>⟨z.1,up z.1 (wyL_ex x15 z.2)⟩) ⟨na,up na W15⟩
   rintro H16 ⟨as,l16,P16,k16⟩
   rw [intsV,List.length_map,List.take_length] at P16
   have x16:Ex H13 H16:=fun b o e=>k16 b o (Dne _ _ e) e
   have x1216:=x13.trans x16
   have xF16:=xF12.trans x1216
   refine ⟨_,rfl,_,rfl,F9,A9,fin,lp,n,rfl,X,xF16,hn,fun H17 a17 x17 n17 W17=>?_⟩
   refine ⟨_,rfl,_,rfl,A9.p,_,_,rfl,obx (xF16.trans x17),_,rfl,F9,A9,fin,n,r,rfl,X.c,xF16.trans x17,hr,fun v18 dv18=>?_⟩
   refine ⟨_,rfl,?_⟩
   unfold tNil
   refine byp_at (E:=fun _ _ _=>False) ?_
   refine byp_of X hn hr (dp_ex (xF16.trans x17) dv18) (as:=as) ⟨x17 _ _ l16,L2.Paired.mapP P16 fun _ _ z=>wyL_ex x17 z.2⟩ fun H19 a19 x19 n19 W19=>?_
   refine wyl_ne (wyL_ex x19 W17) W19 ⟨_,rfl,itF rfl ?_⟩
   have x1219:=x1216.trans (x17.trans x19)
   exact ⟨_,_,_,_,_,eb12.trans x1219,xF12.trans x1219,s12.kp fun o h=>x1219 _ _ h,rfl⟩
  rintro σ' H10 ⟨o4,o5,o6,o7,o8,eb,xF,s10,rfl⟩
  refine ⟨_,rfl,F9,A9,fin,lp,0,rfl,X,xF,hN,fun H11 a11 x11 n11 W11=>?_⟩
  obtain ⟨ba,wa1,wa2⟩:=W11
  refine ⟨a11,rfl,⟨_,Evl.sq_of wa1⟩,fun D12 nD12=>?_⟩
  have Dne:∀ b o,H11 b=some o→b≠D12:=fun b o e z=>by rw [z,nD12] at e;cases e
  refine lc_it (walk_list (xs:=ba.map V.ref)) (fun i H'=>H' D12=some (.lst [])∧∀ b o,b≠D12→H11 b=some o→H' b=some o) ?_ ?_ ?_ ?_
  ·exact ⟨upd_same,fun b o n e=>by rw [upd_ne n];exact e⟩
  ·exact fun i H' _ ⟨_,k⟩=>Evl.sq_of (k _ _ (Dne _ _ wa1) wa1)
  ·rintro i v2 Ja Jb hi ⟨lD,kD⟩ ⟨rfl,hv2⟩
   obtain ⟨b,hb,rfl⟩:∃ b,ba[i]?=some b∧v2=.ref b:=by
    rw [List.getElem?_map] at hv2
    obtain ⟨d,g1,g2⟩:=Option.map_eq_some_iff.mp hv2
    exact ⟨d,g1,g2.symm⟩
   obtain ⟨u,hu,hbu⟩:=paired_get wa2 hb
   have xJ:Ex H11 Jb:=fun b o e=>kD b o (Dne _ _ e) e
   have hbJ:SqT K Jb b ((wk u).map kV):=Evl.ex_t xJ hbu
   have hu3:=root11 X (List.mem_of_getElem? hu)
   refine ⟨rfl,_,rfl,sz (by simp),?_⟩
   intro p13 n13
   generalize e13:upd _ p13 _=H13
   obtain ⟨x13,s13,o13⟩:=new_of e13 n13
   clear e13
   refine ⟨sz (by simp),?_⟩
   intro p14 n14
   generalize e14:upd _ p14 _=H14
   obtain ⟨x14,s14,o14⟩:=new_of e14 n14
   clear e14
   refine ⟨sz (by simp),?_⟩
   intro p15 n15
   generalize e15:upd _ p15 _=H15
   obtain ⟨x15,s15,o15⟩:=new_of e15 n15
   clear e15
   refine ⟨sz (by simp),?_⟩
   intro p16 n16
   generalize e16:upd _ p16 _=H16
   obtain ⟨x16,s16,o16⟩:=new_of e16 n16
   clear e16
   have y16:=x13.trans (x14.trans (x15.trans x16))
   refine ⟨FcW.keyD (wk u),[.nrm,.ret,.rai].map fun w=>FcW.keyD (wk w),FcW.dp_key (k:=wk u) (Evl.ex_t y16 hbJ),.lst (Evl.sq_of s16) (.cons (FcW.dp_key (k:=wk .nrm) (show SqT K H16 p13 ((wk .nrm).map kV) from SqT.of ((x14.trans (x15.trans x16)) _ _ s13))) (.cons (FcW.dp_key (k:=wk .ret) (show SqT K H16 p14 ((wk .ret).map kV) from SqT.of ((x15.trans x16) _ _ s14))) (.cons (FcW.dp_key (k:=wk .rai) (show SqT K H16 p15 ((wk .rai).map kV) from SqT.of (x16 _ _ s15))) .nil))),datW _,wyR_can _,Nat.le_trans (Nat.min_le_right _ _) (by rw [dep_wk];decide),_,rfl,?_⟩
   rw [wyR_any]
   refine itF (by rw [decide_eq_true hu3]<;>rfl) ?_
   exact ⟨y16 _ _ lD,fun b o n e=>y16 _ _ (kD b o n e)⟩
  rintro H13 ⟨l13,k13⟩
  have x13:Ex H11 H13:=fun b o e=>k13 b o (Dne _ _ e) e
  refine ⟨sz (by simp),?_⟩
  intro p14 n14
  generalize e14:upd _ p14 _=H14
  obtain ⟨x14,s14,o14⟩:=new_of e14 n14
  clear e14
  refine ⟨.list [],.list [],.lst (Evl.sq_of (x14 _ _ l13)) .nil,.lst (Evl.sq_of s14) .nil,rfl,rfl,by decide,_,rfl,itF (by rw [PySem.SeqAt.eqv_refl _ rfl]<;>rfl) ?_⟩
  exact ⟨e.trans (eb.trans (x11.trans (x13.trans x14))),_,_,_,_,_,_,_,_,rfl⟩
end
end
end Fc
namespace Fc
open PySem PySem.Spec PyProof.Rows L2
theorem calm_fn {P:Program} {w:World} {K:PySem.W.Frag} {mg:Str→Option Value} {base:Heap} {k:Nat} {f:Addr} {fd:FuncData} {ps:List Str} {sp:Sp} (G:FnOk P w K mg base (L2.CX P w) k f fd ps sp) (hsp:∀ vs H Q E,sp vs H Q E→sp vs H Q (fun _ _ _=>False)):FnOk P w K mg base CX0 k f fd ps sp :=
 ⟨G.len,fun A outer s H args us vs Q E hr e b r h=>codeAny_mono (G.run A outer s H args us vs Q (fun _ _ _=>False) hr e b r (hsp _ _ _ _ h)) fun r s' hq=>by
  cases r with
  | error e =>
   obtain ⟨_,_,_,_,_,_,_,_,_,_,_,_,z⟩:=hq
   exact z.elim
  | ok fl=>cases fl<;>exact hq⟩
end Fc
open PySem PySem.W PyProof.Rows in
set_option maxRecDepth 100000 in
set_option maxHeartbeats 0 in
theorem PySem.Challenge.cw_finallycopies_k11_whole_ways_by_the_part_holds : PySem.Challenge.rw_finallycopies_k11_whole_ways_by_the_part.Holds := by
 w_on;o_law
 refine HandSHeadRun.head_any (r:=Fc.R) (q:=view Fc.R.prog [49]) (H:=Fc.hk) (ob:=Fc.ob) (M:=20000) (loose:=Fc.looseL) (d:=HandSHeadRun.topDef Fc.R.prog 49) (kwd:=[]) Fc.ob_eq
  (by kernel_rfl) (fun s=>by kernel_rfl) Fc.run (by kernel_rfl) (by kernel_rfl) (by kernel_rfl) (by rfl) (by first | assumption | decide +kernel) (by decide +kernel) ⟨rfl,rfl,rfl,rfl,rfl,by decide +kernel⟩ ?hw ?hc
 case hw=>w_witness2
 case hc =>
  refine L2.walk_ofE (l:=PySem.Challenge.rw_finallycopies_k11_whole_ways_by_the_part) (n:=63) (k:=208) (x:="_law_script") (CX:=L2.CX0) rfl (by decide) (by kernel_rfl) ⟨rfl,by decide,by decide⟩ ?F (fun _ _ _ _ z=>z)
  intro w mg fa h Y G hmg0
  obtain ⟨K,KX,c⟩:=Y
  have hmg:mg ("law":PySem.Str)=some (.ref fa):=by
   have e:(HandSHeadRun.topDef Fc.R.prog 49).name=("law":PySem.Str):=by kernel_rfl
   rw [← e]
   exact hmg0
  have T:Fc.Tx w h K mg:=⟨KX,G,c⟩
  obtain rfl:fa=He.ga K "law":=Value.ref.inj (Option.some.inj (hmg.symm.trans (Fc.g_law T)))
  obtain ⟨fd,F⟩:=Fc.F_law T
  have b:=L2.FunD.bindsA (ps:=["_law_script"]) F fun _ _ _ _ _ _ us hl=>match us,hl with | [_],_=>rfl
  refine ⟨K,fd,Fc.sp_law K,KX,fun s v=>b s [v] rfl,fun H a ns hl _ hS=>⟨a,ns,rfl,hl,hS,fun _=>rfl⟩,fun base _ _=>?_⟩
  obtain ⟨fd',G',_,_,F'⟩:=Fc.okF_law (P:=(PySem.Challenge.rw_finallycopies_k11_whole_ways_by_the_part).prog) (base:=base) T
  obtain rfl:fd=fd':=by
   obtain ⟨_,_,_,_,_,_,_,_,_,_,_,l1,_⟩:=F.ex
   obtain ⟨_,_,_,_,_,_,_,_,_,_,_,l2,_⟩:=F'.ex
   have z:=l1.symm.trans l2
   cases z
   rfl
  exact Fc.calm_fn G' (fun _ _ _ _ z=>z)
