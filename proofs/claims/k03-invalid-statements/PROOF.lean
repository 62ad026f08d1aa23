import PyProof.Rows.All
import Wide.All
import OpenK.AllK
import Wide.FinOn
import KE.KDictItemsList
import HandS.ForMost
import PyProof.EqAt
import PyProof.EqKinds
import PyProof.EnumMake
import HandS.Exc
import HandS.Conv
import HandS.Evl
import HandS.IsInst
import HandS.Style
import HandS.TupAny
import HandS.Defaults
import HandS.HeadHook4
import HandS.Walk
import KE.KExcInit
import KE.KExcIs
import HandS.ExcOwn
import HandS.ExcInit
import HandS.ExcValue
import HandS.OwnEq
import HandS.MakeKw
import HandS.TryMany
import HandS.ExcField
import HandS.CallLocal
import HandS.Lambda
import HandS.Nested
import HandS.EndTab
import HandS.HeadWalk
import PyProof.ReprRoads
import HandS.Head0
import HandS.Head1
import HandS.Head2
import HandS.HeadEnd
import HandS.HeadHook1
import HandS.HeadHook2
import HandS.HeadHook3
import HandS.More
import KE.KDictWalk
import KE.KDictDisplayH
import HandS.Iter
import HandS.Dict
import HandS.DictTup
import HandS.Small
import KE.LtData
import KE.SortData
import KE.KDictSum
import PyProof.NeKinds
import HandS.TupMul
import PySem.Challenge.RW_finallycopies_k03_invalid_statements
set_option Elab.async false
set_option linter.all false
set_option maxRecDepth 100000
set_option maxHeartbeats 4000000
namespace FcE
open PySem PySem.W PySem.Calls PyProof.Rows PyProof.V PySem.Spec
def EnB (h:Heap) (e it a:Addr) (f:Bool) (i:Int) (item:Value):Prop :=
 h.get? e=some { cls:=.type "enumerate",dict:=none,data:=.fields #[rawInt a,.bool f,.ref it,rawInt i,.none,item],slots:=#[] }
section
variable {prog:Program} {w:World} {A:Around} {E:Value→Shared→Prop} {s:Shared}
theorem enB_next {e it l a:Addr} {f:Bool} {oa:Obj} {i:Nat} {items:Array Value} {x item:Value} {Q:Option Value→Shared→Prop}
  (he:EnB s.heap e it a f i item) (ha:s.heap.get? a=some oa) (hae:a≠e) (hai:a≠it) (hit:s.heap.IsListIter it l i) (hl:s.heap.IsList l items) (hx:items[i]?=some x) (hne:e≠it)
  (hQ:∀ h',EnB h' e it a true ((i:Int) + 1) item→h'.IsListIter it l (i + 1) →
   h'.get? s.heap.objs.size=some { cls:=.type "tuple",data:=.seq #[.int i s.toks,x] }→h'.objs.size=s.heap.objs.size + 1 →
   (∀ b o,b≠e→b≠it→s.heap.get? b=some o→h'.get? b=some o)→Q (some (.ref s.heap.objs.size)) { s with heap:=h',toks:=s.toks + 1 }) :
  wpAny (model prog w) A (pyNext (.ref e)) Q E s:=by
 obtain ⟨hp,g,d,tk,os⟩:=s
 have hT:Shared.TypeIs ⟨hp,g,d,tk,os⟩ (.ref e) "enumerate":=⟨_,he,rfl⟩
 unfold pyNext
 refine wpAny_bind (wpAny_attempt (wpAny_callSpecial?_slot (name:=Str.ofString "__next__") hT F.slot_enumerate_next
  (wpAny_call_entry F.slot_enumerate_next hT F.entry_enumerate_next ?_ (F.args_enumerate_next_1 _))))
 show wpAny _ _ (field (.ref e) 2 >>= _) _ _ _
 refine wpAny_bind (wpAny_field he rfl (x:=.ref it) rfl ?_)
 refine wpAny_bind (wpAny_nextOf_list_item hit hl hx fun h1 hit1 hs1=>?_)
 replace hs1:Heap.SameBut it hp h1:=hs1
 have he1:EnB h1 e it a f i item:=(hs1.2 e hne).trans he
 show wpAny _ _ (field (.ref e) 3 >>= _) _ _ ⟨h1,g,d,tk,os⟩
 refine wpAny_bind (wpAny_field he1 rfl (x:=rawInt i) rfl ?_)
 show wpAny _ _ (field (.ref e) 4 >>= _) _ _ ⟨h1,g,d,tk,os⟩
 refine wpAny_bind (wpAny_field he1 rfl (x:=.none) rfl ?_)
 show wpAny _ _ (mkInt i >>= _) _ _ ⟨h1,g,d,tk,os⟩
 refine wpAny_bind (wpAny_mkInt ?_)
 show wpAny _ _ (setField (.ref e) 3 (rawInt ((i:Int) + 1)) >>= _) _ _ ⟨h1,g,d,tk + 1,os⟩
 refine wpAny_bind (wpAny_setField_rec he1 (by simp) fun h2 he2 hs2=>?_)
 replace hs2:Heap.SameBut e h1 h2:=hs2
 replace he2:EnB h2 e it a f ((i:Int) + 1) item:=he2
 show wpAny _ _ (setField (.ref e) 4 .none >>= _) _ _ ⟨h2,g,d,tk + 1,os⟩
 refine wpAny_bind (wpAny_setField_rec he2 (by simp) fun h3 he3 hs3=>?_)
 replace hs3:Heap.SameBut e h2 h3:=hs3
 replace he3:EnB h3 e it a f ((i:Int) + 1) item:=he3
 show wpAny _ _ (newTuple [.int i tk,x] >>= _) _ _ ⟨h3,g,d,tk + 1,os⟩
 refine wpAny_bind (wpAny_newTuple ?_)
 have he4:EnB (h3.push { cls:=.type "tuple",data:=.seq #[.int i tk,x] }) e it a f ((i:Int) + 1) item:=Heap.get?_push_of_some _ he3
 generalize hh4:h3.push { cls:=.type "tuple",data:=.seq #[.int i tk,x] }=h4 at he4
 have hsz:h3.objs.size=hp.objs.size:=by rw [hs3.1,hs2.1,hs1.1]
 have hel:e<hp.objs.size:=Heap.lt_size he
 have ht4:h4.get? hp.objs.size=some { cls:=.type "tuple",data:=.seq #[.int i tk,x] }:=by rw [← hh4,← hsz];exact Heap.get?_push_size _ rfl
 have hz4:h4.objs.size=hp.objs.size + 1:=by rw [← hh4,Heap.size_push,hsz]
 have hk4:∀ b o,b≠e→b≠it→hp.get? b=some o→h4.get? b=some o:=fun b o hbe hbi hb=>by
  rw [← hh4];exact Heap.get?_push_of_some _ (hs3.extBut b o hbe (hs2.extBut b o hbe (hs1.extBut b o hbi hb)))
 have hit4:h4.IsListIter it l (i + 1):=by
  rw [← hh4];obtain ⟨o,ho,r⟩:=(hit1.extBut hs2.extBut (Ne.symm hne)).extBut hs3.extBut (Ne.symm hne);exact ⟨o,Heap.get?_push_of_some _ ho,r⟩
 show wpAny _ _ (Builtin.SmallTypes.ownedTupleIsFree (.ref e) >>= _) _ _ ⟨h4,g,d,tk + 1,os⟩
 rw [hsz]
 have ha4:h4.get? a=some oa:=hk4 a oa hae hai ha
 clear hh4 he3 hs3 he2 hs2 he1 hs1 hit1 hsz h3 h2 h1
 refine wpAny_bind ?_
 unfold Builtin.SmallTypes.ownedTupleIsFree
 refine wpAny_bind (wpAny_field he4 rfl (x:=rawInt a) rfl ?_)
 show wpAny _ _ (loadIfAlive ((a:Int).toNat) >>= _) _ _ _
 rw [Int.toNat_natCast]
 refine wpAny_bind (kdx_alive ha4 ?_)
 simp only [Option.isNone_some,Bool.false_eq_true,if_false]
 refine wpAny_bind (wpAny_field he4 rfl (x:=.bool f) rfl ?_)
 have fin:∀ h5:Heap,EnB h5 e it a true ((i:Int) + 1) item→Heap.SameBut e h4 h5→Q (some (.ref hp.objs.size)) ⟨h5,g,d,tk + 1,os⟩:=fun h5 he5 hs5 =>
  hQ h5 he5 (hit4.extBut hs5.extBut (Ne.symm hne)) (by exact hs5.extBut _ _ (Nat.ne_of_gt hel) ht4) (by show h5.objs.size=hp.objs.size + 1;rw [hs5.1,hz4]) fun b o hbe hbi hb=>hs5.extBut b o hbe (hk4 b o hbe hbi hb)
 cases f with
 | true =>
  rw [if_neg (show ¬ ((Value.bool true != Value.bool true)=true) from Bool.false_ne_true)]
  refine wpAny_pure ?_
  simp only [Bool.false_eq_true,if_false]
  exact wpAny_pure ⟨_,rfl,wpAny_pure (fin h4 he4 (Heap.SameBut.refl _ _))⟩
 | false =>
  rw [if_pos (show (Value.bool false != Value.bool true)=true from rfl)]
  refine wpAny_bind (wpAny_setField_rec he4 (by simp) fun h5 he5 hs5=>?_)
  replace hs5:Heap.SameBut e h4 h5:=hs5
  replace he5:EnB h5 e it a true ((i:Int) + 1) item:=he5
  refine wpAny_pure ?_
  simp only [Bool.false_eq_true,if_false]
  exact wpAny_pure ⟨_,rfl,wpAny_pure (fin h5 he5 hs5)⟩
theorem enB_done {e it l a:Addr} {f:Bool} {i:Nat} {items:Array Value} {item:Value} {Q:Option Value→Shared→Prop} (hh:A.handled=none)
  (he:EnB s.heap e it a f i item) (hit:s.heap.IsListIter it l i) (hl:s.heap.IsList l items) (hx:items[i]?=none)
  (hQ:∀ h',Heap.ExtBut it s.heap h'→Q none { s with heap:=h' }):wpAny (model prog w) A (pyNext (.ref e)) Q E s:=by
 have hT:s.TypeIs (.ref e) "enumerate":=⟨_,he,rfl⟩
 unfold pyNext
 refine wpAny_bind (wpAny_attempt (wpAny_callSpecial?_slot (name:=Str.ofString "__next__") hT F.slot_enumerate_next
  (wpAny_call_entry F.slot_enumerate_next hT F.entry_enumerate_next ?_ (F.args_enumerate_next_1 _))))
 show wpAny _ _ (field (.ref e) 2 >>= _) _ _ _
 refine wpAny_bind (wpAny_field he rfl (x:=.ref it) rfl ?_)
 refine wpAny_bind (wpAny_nextOf_list_end hh hit hl hx fun h' x he' hx'=>?_)
 obtain ⟨o,ho,hc⟩:=hx'
 refine wpAny_bind (wpAny_isInstance (T:="StopIteration") (b:=true) ⟨o,ho,hc⟩ isSubtype_stop ?_)
 exact wpAny_pure (hQ _ he')
end
def EnSt (h:Heap) (e it S:Addr) (i:Nat):Prop :=
 (i=0∧∃ old,IsEnum h e it 0 old)∨∃ a f oa item,EnB h e it a f i item∧h.get? a=some oa∧a≠e∧a≠it∧a≠S
theorem EnSt.keep {h h':Heap} {e it S:Addr} {i:Nat} (x:EnSt h e it S i) (hk:∀ b o,b≠S→h.get? b=some o→h'.get? b=some o) (hS:e≠S):EnSt h' e it S i:=by
 rcases x with ⟨z,old,q⟩ | ⟨a,f,oa,item,q,r,n1,n2,n3⟩
 ·exact .inl ⟨z,old,hk e _ hS q⟩
 ·exact .inr ⟨a,f,oa,item,hk e _ hS q,hk a oa n3 r,n1,n2,n3⟩
structure EnG (items:Array Value) (lo:Addr) (h:Heap) (as:List Addr):Prop where
 above:∀ a∈as,lo<a
 nodup:as.Nodup
 pairs:∀ (j:Nat) (a:Addr),as[j]?=some a→∃ t x,items[j]?=some x∧h.get? a=some { cls:=.type "tuple",data:=.seq #[.int j t,x] }
section
variable {prog:Program} {w:World} {A:Around} {E:Value→Shared→Prop} {s:Shared} {R:Result→Shared→Prop} {items:Array Value}
theorem en_item {e it l S:Addr} {i:Nat} {x:Value} {Q:Option Value→Shared→Prop} (hst:EnSt s.heap e it S i) (hS:S<s.heap.objs.size) (hit:s.heap.IsListIter it l i) (hl:s.heap.IsList l items) (hx:items[i]?=some x) (hne:e≠it)
  (hQ:∀ h',EnSt h' e it S (i + 1)→h'.IsListIter it l (i + 1)→h'.get? s.heap.objs.size=some { cls:=.type "tuple",data:=.seq #[.int i s.toks,x] }→h'.objs.size=s.heap.objs.size + 1 →
   (∀ b o,b≠e→b≠it→s.heap.get? b=some o→h'.get? b=some o)→Q (some (.ref s.heap.objs.size)) { s with heap:=h',toks:=s.toks + 1 }) :
  wpAny (model prog w) A (pyNext (.ref e)) Q E s:=by
 have itl:it<s.heap.objs.size:=by obtain ⟨_,q,_⟩:=hit;exact Heap.lt_size q
 rcases hst with ⟨z,old,q⟩ | ⟨a,f,oa,item,q,r,n1,n2,n3⟩
 ·subst z
  refine wpAny_pyNext_enum_item q hit hl hx hne fun h' ho h1 h2 h3 hk=>hQ h' (.inr ⟨s.heap.objs.size,false,_,x,?_,h2,Nat.ne_of_gt (Heap.lt_size q),Nat.ne_of_gt itl,Nat.ne_of_gt hS⟩) h1 h2 h3 hk
  exact ho
 ·refine enB_next q r n1 n2 hit hl hx hne fun h' ho h1 h2 h3 hk=>hQ h' (.inr ⟨a,true,oa,item,?_,hk a oa n1 n2 r,n1,n2,n3⟩) h1 h2 h3 hk
  have z:((i + 1:Nat):Int)=(i:Int) + 1:=by omega
  rw [z]
  exact ho
theorem en_done {e it l S:Addr} {i:Nat} {Q:Option Value→Shared→Prop} (hh:A.handled=none) (hst:EnSt s.heap e it S i) (hit:s.heap.IsListIter it l i) (hl:s.heap.IsList l items) (hx:items[i]?=none)
  (hQ:∀ h',Heap.ExtBut it s.heap h'→Q none { s with heap:=h' }):wpAny (model prog w) A (pyNext (.ref e)) Q E s:=by
 rcases hst with ⟨z,old,q⟩ | ⟨a,f,oa,item,q,r,n1,n2,n3⟩
 ·subst z
  exact wpAny_pyNext_enum_end hh q hit hl hx hQ
 ·exact enB_done hh q hit hl hx hQ
theorem en_loop {S e it l:Addr} (hh:A.handled=none) (hSe:e<S) (hSi:it<S) (hSl:l≠S) (hle:l≠e) (hli:l≠it) (hne:e≠it) (hn:items.size≤sizeLine) (res:Value) {h0:Heap}
  (hR:∀ h' tk acc c as,(∀ b o,b≠S→b≠e→b≠it→h0.get? b=some o→h'.get? b=some o)→h'.get? S=some { cls:=.type "list",dict:=none,data:=.seq acc c,slots:=#[] }→as.length=items.size→EnG items S h' as →
   acc.toList=as.map Value.ref→R (.ok (.ret res)) { s with heap:=h',toks:=tk }) :
  ∀ (k i:Nat) (h:Heap) (tk c:Nat) (acc:Array Value) (as:List Addr),items.size - i=k→i≤items.size→EnSt h e it S i→h.IsListIter it l i→h.IsList l items→(∀ b o,b≠S→b≠e→b≠it→h0.get? b=some o→h.get? b=some o) →
   h.get? S=some { cls:=.type "list",dict:=none,data:=.seq acc c,slots:=#[] }→acc.toList=as.map Value.ref→as.length=i→EnG items S h as →
   codeAny (model prog w) A (.builtin "list.extend.loop" ⟨[.ref S,.ref e,res],[]⟩) R { s with heap:=h,toks:=tk }:=by
 have nSe:S≠e:=Nat.ne_of_gt hSe
 have nSi:S≠it:=Nat.ne_of_gt hSi
 intro k
 induction k with
 | zero =>
  intro i h tk c acc as hk hi hst hit hl hkeep hS hacc hal hG
  have hin:i=items.size:=by omega
  refine codeAny_builtin PySem.F.entry_extend_loop ?_
  rw [Around.under_plainId PySem.F.plain_extend_loop _]
  show wpAny _ A.in1 (pyNext (.ref e) >>= _) _ _ _
  refine wpAny_bind (en_done (s:={ s with heap:=h,toks:=tk }) (A:=A.in1) hh hst hit hl (Array.getElem?_eq_none (by omega)) fun h' he=>?_)
  refine wpAny_pure (hR h' tk acc c as (fun b o h1 h2 h3 z=>he b o h3 (hkeep b o h1 h2 h3 z)) (he S _ nSi hS) (by omega) ⟨hG.above,hG.nodup,fun j a hj=>?_⟩ hacc)
  obtain ⟨t,x,e1,e2⟩:=hG.pairs j a hj
  exact ⟨t,x,e1,he a _ (Nat.ne_of_gt (Nat.lt_trans hSi (hG.above a (List.mem_of_getElem? hj)))) e2⟩
 | succ k ih =>
  intro i h tk c acc as hk hi hst hit hl hkeep hS hacc hal hG
  have hlt:i<items.size:=by omega
  have hsz:acc.size=i:=by rw [← Array.length_toList,hacc,List.length_map,hal]
  have hx:items[i]?=some items[i]:=Array.getElem?_eq_getElem hlt
  have hSz:S<h.objs.size:=Heap.lt_size hS
  refine codeAny_builtin PySem.F.entry_extend_loop ?_
  rw [Around.under_plainId PySem.F.plain_extend_loop _]
  show wpAny _ A.in1 (pyNext (.ref e) >>= _) _ _ _
  refine wpAny_bind (en_item (s:={ s with heap:=h,toks:=tk }) (S:=S) hst hSz hit hl hx hne fun h' hst' hit' ht hz hkp=>?_)
  dsimp only at ht hz hkp ⊢
  have hS':=hkp S _ nSe nSi hS
  have up:∀ b o,b≠S→h'.get? b=some o→(h'.update S (Obj.mapSeq (·.push (Value.ref h.objs.size)))).get? b=some o:=fun b o hb z=>(Heap.get?_update_other _ _ (Ne.symm hb)).trans z
  have hl':(h'.update S (Obj.mapSeq (·.push (Value.ref h.objs.size)))).IsList l items:=hl.at fun o z=>up l o hSl (hkp l o hle hli z)
  have hit2:(h'.update S (Obj.mapSeq (·.push (Value.ref h.objs.size)))).IsListIter it l (i + 1):=hit'.at fun o z=>up it o (Ne.symm nSi) z
  show wpAny _ A.in1 (updateSeq S (·.push (Value.ref h.objs.size)) >>= _) _ _ _
  refine wpAny_bind ?_
  refine wpAny_updateSeq hS' rfl (wpAny_pure ⟨plainId_quiet PySem.F.plain_extend_loop _,ih (i + 1) _ (tk + 1) _ (acc.push (Value.ref h.objs.size)) (as++[h.objs.size]) (by omega) hlt (hst'.keep up (Ne.symm nSe)) hit2 hl'
   (fun b o h1 h2 h3 z=>up b o h1 (hkp b o h2 h3 (hkeep b o h1 h2 h3 z))) (Heap.get?_update_self _ hS' rfl) (by rw [Array.toList_push,hacc,List.map_append];rfl) (by rw [List.length_append,hal];rfl) ⟨?_,?_,?_⟩⟩) (by rw [hsz];omega) (by show (acc.push (Value.ref h.objs.size)).size≤sizeLine + 1;rw [Array.size_push,hsz];omega)
  ·intro a ha
   rcases List.mem_append.mp ha with ha | ha
   ·exact hG.above a ha
   ·rw [List.mem_singleton.mp ha];exact hSz
  ·refine List.nodup_append.mpr ⟨hG.nodup,List.nodup_cons.mpr ⟨List.not_mem_nil,List.nodup_nil⟩,fun a ha b hb=>?_⟩
   rw [List.mem_singleton.mp hb]
   obtain ⟨j,hj⟩:=List.mem_iff_getElem?.mp ha
   obtain ⟨_,_,_,z⟩:=hG.pairs j a hj
   exact Nat.ne_of_lt (Heap.lt_size z)
  ·intro j b hj
   rcases Nat.lt_trichotomy j as.length with h1 | h1 | h1
   ·rw [List.getElem?_append_left h1] at hj
    obtain ⟨t,x,e1,e2⟩:=hG.pairs j b hj
    have hb:=hG.above b (List.mem_of_getElem? hj)
    exact ⟨t,x,e1,up b _ (Nat.ne_of_gt hb) (hkp b _ (Nat.ne_of_gt (Nat.lt_trans hSe hb)) (Nat.ne_of_gt (Nat.lt_trans hSi hb)) e2)⟩
   ·subst h1
    have hb:h.objs.size=b:=by simpa using hj
    subst hb
    subst hal
    exact ⟨tk,_,hx,up _ _ (Nat.ne_of_gt hSz) ht⟩
   ·have hnone:(as++[h.objs.size])[j]?=none:=List.getElem?_eq_none (by rw [List.length_append,List.length_singleton];omega)
    rw [hnone] at hj;cases hj
end
theorem nolen_enum:typeLookup (.type "enumerate") "__len__"=pure none:=by rw [typeLookup_type,builtinLookup_eq_fast];kernel_rfl
theorem nohint_enum:typeLookup (.type "enumerate") "__length_hint__"=pure none:=by rw [typeLookup_type,builtinLookup_eq_fast];kernel_rfl
section
variable {prog:Program} {w:World} {A:Around} {E:Value→Shared→Prop} {s:Shared} {items:Array Value}
theorem en_hint {r:Addr} {Q:Bool→Shared→Prop} (hT:s.TypeIs (.ref r) "enumerate") (h:Q true s):wpAny (model prog w) A (Builtin.List.listLengthHint (.ref r)) Q E s:=by
 unfold Builtin.List.listLengthHint
 refine wpAny_bind (wpAny_specialOf hT nolen_enum ?_)
 refine wpAny_ite_split (fun hab=>absurd hab (by decide)) (fun _=>?_)
 refine wpAny_ite_split (fun hab=>absurd hab (by decide)) (fun _=>?_)
 refine wpAny_bind (wpAny_specialOf hT nohint_enum ?_)
 exact wpAny_pure h
theorem en_extend {R:Result→Shared→Prop} {S e it l:Addr} (hh:A.handled=none) (hSe:e<S) (hSi:it<S) (hSl:l≠S) (hle:l≠e) (hli:l≠it) (hne:e≠it) (hst:IsEnum s.heap e it 0 .none) (hit:s.heap.IsListIter it l 0) (hl:s.heap.IsList l items)
  (res:Value) (c0:Nat) (hS:s.heap.get? S=some { cls:=.type "list",data:=.seq #[] c0 })
  (hR:∀ h' tk acc c as,(∀ b o,b≠S→b≠e→b≠it→s.heap.get? b=some o→h'.get? b=some o)→h'.get? S=some { cls:=.type "list",dict:=none,data:=.seq acc c,slots:=#[] }→as.length=items.size→EnG items S h' as →
   acc.toList=as.map Value.ref→R (.ok (.ret res)) { s with heap:=h',toks:=tk }) (hn:items.size≤sizeLine) :
  wpAny (model prog w) A.in1 (Builtin.List.listExtendWith (.ref S) (.ref e) res)
   (fun fin s'=>match fin with | .done f=>R (.ok f) s' | .again c'=>c'.quiet=true∧codeAny (model prog w) A c' R s') (fun e s'=>R (.error e) s') s:=by
 have nSe:S≠e:=Nat.ne_of_gt hSe
 have hT:s.TypeIs (.ref e) "enumerate":=⟨_,hst,rfl⟩
 have key:∀ (h:Heap) (c1 tk:Nat),(∀ b o,b≠S→s.heap.get? b=some o→h.get? b=some o)→h.get? S=some { cls:=.type "list",data:=.seq #[] c1 } →
   codeAny (model prog w) A (.builtin "list.extend.loop" ⟨[.ref S,.ref e,res],[]⟩) R { s with heap:=h,toks:=tk }:=by
  intro h c1 tk hk hS1
  exact en_loop (items:=items) (s:=s) (h0:=s.heap) hh hSe hSi hSl hle hli hne hn res hR items.size 0 h tk c1 #[] [] (Nat.sub_zero _) (Nat.zero_le _) (.inl ⟨rfl,.none,hk e _ (Ne.symm nSe) hst⟩)
   (hit.at fun o z=>hk it o (Nat.ne_of_lt hSi) z) (hl.at fun o z=>hk l o hSl z) (fun b o h1 _ _ z=>hk b o h1 z) hS1 rfl rfl ⟨(fun _ z=>nomatch z),List.nodup_nil,fun j a hj=>by simp at hj⟩
 unfold Builtin.List.listExtendWith
 refine wpAny_bind (wpAny_typeOf (T:="enumerate") hT ?_)
 have h1:Builtin.List.listSameRef (.ref S) (.ref e)=false:=by simp [Builtin.List.listSameRef,nSe]
 have h2:(Value.type "enumerate" == Value.type "list")=false:=by decide
 have h3:(Value.type "enumerate" == Value.type "tuple")=false:=by decide
 simp only [h1,h2,h3,Bool.or_false,Bool.false_eq_true,if_false]
 refine wpAny_bind (wpAny_pyIter_enum hst ?_)
 refine wpAny_bind (wpAny_holding (en_hint hT ?_))
 refine wpAny_ite_split (fun _=>?_) (fun _=>wpAny_pure ⟨plainId_quiet PySem.F.plain_extend_loop _,key _ c0 _ (fun b o _ z=>z) hS⟩)
 refine wpAny_bind (wpAny_rule ?_)
 refine wpAny_bind ?_
 show wpAny _ _ (updateSeq S (·.push .none) >>= fun _=>updateSeq S (·.pop)) _ _ _
 refine wpAny_bind (wpAny_updateSeq hS rfl ?_)
 have hS2:=Heap.get?_update_self (Obj.mapSeq (·.push Value.none)) hS rfl
 refine wpAny_updateSeq (hz:=by seq_fits) hS2 rfl ?_
 have hS3:=Heap.get?_update_self (Obj.mapSeq (·.pop)) hS2 rfl
 refine wpAny_pure ⟨plainId_quiet PySem.F.plain_extend_loop _,key _ _ _ (fun b o hb z=>?_) hS3⟩
 exact (Heap.get?_update_other _ _ (Ne.symm hb)).trans ((Heap.get?_update_other _ _ (Ne.symm hb)).trans z)
theorem en_call {Q:Value→Shared→Prop} {e it l:Addr} (hh:A.handled=none) (hle:l≠e) (hli:l≠it) (hne:e≠it) (hst:IsEnum s.heap e it 0 .none) (hit:s.heap.IsListIter it l 0) (hl:s.heap.IsList l items) (hn:items.size≤sizeLine)
  (hQ:∀ h' tk acc c as,(∀ b o,b≠e→b≠it→s.heap.get? b=some o→h'.get? b=some o)→h'.get? s.heap.objs.size=some { cls:=.type "list",dict:=none,data:=.seq acc c,slots:=#[] }→as.length=items.size→EnG items s.heap.objs.size h' as →
   acc.toList=as.map Value.ref→Q (.ref s.heap.objs.size) { s with heap:=h',toks:=tk }) :
  wpAny (model prog w) A (call (.type "list") [.ref e]) Q E s:=by
 refine callType_codes (Q₁:=fun obj s₁=>obj=.ref s.heap.objs.size∧s₁={ s with heap:=s.heap.push { cls:=.type "list",data:=.seq #[] } }) PySem.F.called_list (PySem.F.typeCall_list_1 _) PySem.F.entry_list_init
  (code_list_new _ ⟨rfl,rfl⟩) fun obj s₁ h₁=>?_
 obtain ⟨rfl,rfl⟩:=h₁
 have up:∀ b o,s.heap.get? b=some o→(s.heap.push { cls:=.type "list",data:=.seq #[] }).get? b=some o:=fun b o z=>Heap.get?_push_of_some _ z
 have hS:(s.heap.push { cls:=.type "list",data:=.seq #[] }).get? s.heap.objs.size=some { cls:=.type "list",data:=.seq #[] }:=Heap.get?_push_size _ rfl
 have le:e<s.heap.objs.size:=Heap.lt_size hst
 have li:it<s.heap.objs.size:=by obtain ⟨_,q,_⟩:=hit;exact Heap.lt_size q
 have ll:l≠s.heap.objs.size:=by obtain ⟨_,q,_⟩:=hl;exact Nat.ne_of_lt (Heap.lt_size q)
 refine ⟨⟨_,hS,rfl⟩,PySem.F.args_list_init_2 _ _,?_⟩
 show wpAny _ _ (do let old ← Builtin.List.listItems (.ref s.heap.objs.size);Builtin.List.listUpdate (.ref s.heap.objs.size) (fun _=>#[]);letGo old.toList.reverse;Builtin.List.listExtendWith (.ref s.heap.objs.size) (.ref e) .none) _ _ _
 refine wpAny_bind ?_
 unfold Builtin.List.listItems
 refine wpAny_bind (wpAny_seqItems hS rfl (wpAny_pure ?_))
 show wpAny _ _ (updateSeq s.heap.objs.size (fun _=>#[]) >>= fun _=>letGo (#[]:Array Value).toList.reverse >>= fun _=>Builtin.List.listExtendWith (.ref s.heap.objs.size) (.ref e) .none) _ _ _
 refine wpAny_bind (wpAny_updateSeq hS rfl ?_)
 have hS2:=Heap.get?_update_self (Obj.mapSeq (fun _=>(#[]:Array Value))) hS rfl
 have oth:∀ b o,b≠s.heap.objs.size→s.heap.get? b=some o→((s.heap.push { cls:=.type "list",data:=.seq #[] }).update s.heap.objs.size (Obj.mapSeq (fun _=>(#[]:Array Value)))).get? b=some o :=
  fun b o hb z=>(Heap.get?_update_other _ _ (Ne.symm hb)).trans (up b o z)
 refine wpAny_bind (wpAny_letGo ?_)
 refine en_extend (A:=A.in1) hh le li ll hle hli hne (oth e _ (Nat.ne_of_lt le) hst) (hit.at fun o z=>oth it o (Nat.ne_of_lt li) z) (hl.at fun o z=>oth l o ll z) .none _ hS2 (fun h' tk acc c as hk h1 h2 h3 h4=>?_) hn
 exact ⟨rfl,hQ h' tk acc c as (fun b o n1 n2 z=>hk b o (Nat.ne_of_lt (Heap.lt_size z)) n1 n2 (oth b o (Nat.ne_of_lt (Heap.lt_size z)) z)) h1 h2 h3 h4⟩
end
end FcE
set_option maxRecDepth 100000
set_option maxHeartbeats 4000000
namespace FcR
open PySem PySem.Spec PyProof.Rows L2
theorem passF {P:Program} {w:World} {X:Cx}:Passes (CX P w) X (fun _ _ _=>False):=fun _ _ _ _ _ _ _ h=>by
 obtain ⟨_,_,_,_,_,_,_,_,_,_,_,_,z⟩:=h
 exact z.elim
def gFld (K:PySem.W.Frag) (to:TE) (f:Str):TG:=fun v σ H Q=>to σ H fun x H1=>∃ a C dx fs,x=.ref a∧H1 a=some (.ins C dx fs)∧Cls K C∧NoAttr K C f∧fs.length<1000∧Q σ (upd H1 a (.ins C dx (putF f v fs)))
theorem pg_fld {X:Cx} {o:Expr} {f:Str} {pos:Pos} {to:TE} (ho:PE X o to):PG X (.Attribute o f pos) (gFld X.K to f):=by
 refine ⟨fun pins s σ H v u Q I r h=>?_⟩
 have ea:assign (.Attribute o f pos) X.env u=(do
   let ov ← holding [u] (eval o X.env)
   standAt pos.atName
   holding [u,ov] (setAttr ov f u)
   release [u,ov] []):=rfl
 rw [ea]
 refine wpAny_bind (wpAny_holding (thn (ho.run pins s σ H _ I h) fun ov s1 ⟨x,H1,I1,r1,a,C,dx,fs,ex,e1,c,n,l,q⟩=>?_))
 subst ex
 obtain rfl:ov=Value.ref a:=r1
 refine wpAny_bind (wpAny_standAt (wpAny_bind (wpAny_holding ?_)))
 exact setattr_ok I1 e1 c n l r fun s3 I3=>wpAny_release ⟨σ,_,I3,q⟩
def putP:Hp→List Addr→Nat→List V→Hp
 | H,a::as,j,x::xs=>putP (upd H a (.tup [.int (j:Int),x])) as (j + 1) xs
 | H,_,_,_=>H
theorem putP_off {b:Addr}:∀ (as:List Addr) (xs:List V) (j:Nat) (H:Hp),b ∉ as→putP H as j xs b=H b
 | [],_,_,_,_=>rfl
 | _::_,[],_,_,_=>rfl
 | a::as,x::xs,j,H,h=>by
  show putP (upd H a (.tup [.int (j:Int),x])) as (j + 1) xs b=H b
  rw [putP_off as xs _ _ (fun z=>h (List.mem_cons_of_mem _ z)),upd_ne (fun z=>h (by rw [z];exact List.mem_cons_self))]
theorem putP_at:∀ (as:List Addr) (xs:List V) (j:Nat) (H:Hp),as.length=xs.length→as.Nodup→∀ (i:Nat) (a:Addr) (x:V),as[i]?=some a→xs[i]?=some x→putP H as j xs a=some (.tup [.int ((j + i:Nat):Int),x])
 | [],_,_,_,_,_,i,a,x,h,_=>by simp at h
 | _::_,[],_,_,h,_,_,_,_,_,_=>by cases h
 | a0::as,x0::xs,j,H,h,hn,0,a,x,h1,h2=>by
  have hn':=List.nodup_cons.mp hn
  simp at h1 h2
  subst h1 h2
  show putP (upd H a0 (.tup [.int (j:Int),x0])) as (j + 1) xs a0=_
  rw [putP_off as xs _ _ hn'.1,upd_same]<;>rfl
 | a0::as,x0::xs,j,H,h,hn,i + 1,a,x,h1,h2=>by
  have ih:=putP_at as xs (j + 1) (upd H a0 (.tup [.int (j:Int),x0])) (Nat.succ.inj h) (List.nodup_cons.mp hn).2 i a x (by simpa using h1) (by simpa using h2)
  have e:j + 1 + i=j + (i + 1):=by omega
  rw [e] at ih
  exact ih
def rEnumL (K:PySem.W.Frag):V→Hp→VK→Prop:=fun x H Q=>∃ (a:Addr) (xs:List V),x=.ref a∧SqL K H a xs ∧
 ∀ (H':Hp) (p:Addr) (ts:List Addr),(∀ b o,H b=some o→H' b=some o)→H p=none→(∀ t∈ts,H t=none)→p ∉ ts→ts.Nodup→ts.length=xs.length→H' p=some (.lst (ts.map V.ref)) →
  (∀ (i:Nat) (t:Addr) (x:V),ts[i]?=some t→xs[i]?=some x→H' t=some (.tup [.int (i:Int),x]))→Q (.ref p) H'
def tListEnum (K:PySem.W.Frag) (te:TE):TE:=fun σ H Q=>te σ H fun x H1=>rEnumL K x H1 Q
theorem vals_refs:∀ as:List Addr,Vals (as.map V.ref) (as.map Value.ref)
 | []=>.nil
 | _::as=>.cons rfl (vals_refs as)
section
variable {X:Cx} {e:Expr} {te:TE} {p p2 pos2 pos:Pos}
theorem enum_laid {pins:List (Addr×Obj)} {σ:L2.St} {H:Hp} {s:Shared} {h':Heap} {tk:Nat} {xs:List V} {its:List Value} {acc:Array Value} {c:Nat} {as:List Addr} {S:Addr} (hge:s.heap.objs.size≤S) (I:Inv X pins σ H s) (hz:xs.length≤sizeLine) (rv:Vals xs its)
  (hk:∀ b o,s.heap.get? b=some o→h'.get? b=some o) (hS:h'.get? S=some { cls:=.type "list",dict:=none,data:=.seq acc c,slots:=#[] }) (hl:as.length=xs.length) (hG:FcE.EnG its.toArray S h' as) (hacc:acc.toList=as.map Value.ref) :
  ∃ H':Hp,(∀ b o,H b=some o→H' b=some o)∧H S=none∧(∀ t∈as,H t=none)∧S ∉ as∧H' S=some (.lst (as.map V.ref)) ∧
   (∀ (i:Nat) (t:Addr) (x:V),as[i]?=some t→xs[i]?=some x→H' t=some (.tup [.int (i:Int),x]))∧Inv X pins σ H' { s with heap:=h',toks:=tk }:=by
 have hSn:S ∉ as:=fun z=>Nat.lt_irrefl _ (hG.above _ z)
 have new:∀ t∈as,H t=none:=fun t ht=>I.hok.fresh (Nat.le_trans hge (Nat.le_of_lt (hG.above t ht)))
 have newS:H S=none:=I.hok.fresh hge
 have atP:∀ (i:Nat) (t:Addr) (x:V),as[i]?=some t→xs[i]?=some x→putP (upd H S (.lst (as.map V.ref))) as 0 xs t=some (.tup [.int (i:Int),x]):=fun i t x h1 h2=>by
  have z:=putP_at as xs 0 (upd H S (.lst (as.map V.ref))) hl hG.nodup i t x h1 h2
  rw [Nat.zero_add] at z
  exact z
 have off:∀ b,b ∉ as→b≠S→putP (upd H S (.lst (as.map V.ref))) as 0 xs b=H b:=fun b h1 h2=>by rw [putP_off as xs _ _ h1,upd_ne h2]
 have low:∀ b o,s.heap.get? b=some o→b ∉ as∧b≠S:=fun b o z=>⟨fun y=>absurd (Heap.lt_size z) (Nat.not_lt.mpr (Nat.le_trans hge (Nat.le_of_lt (hG.above b y)))),Nat.ne_of_lt (Nat.lt_of_lt_of_le (Heap.lt_size z) hge)⟩
 have kp:∀ b u,H b=some u→(putP (upd H S (.lst (as.map V.ref))) as 0 xs) b=some u:=fun b u z=>by
  rw [off b (fun y=>by rw [new b y] at z;cases z) (fun y=>by rw [y,newS] at z;cases z)]
  exact z
 have eS:putP (upd H S (.lst (as.map V.ref))) as 0 xs S=some (.lst (as.map V.ref)):=by rw [putP_off as xs _ _ hSn,upd_same]
 refine ⟨putP (upd H S (.lst (as.map V.ref))) as 0 xs,kp,newS,new,hSn,eS,atP,?_⟩
 refine I.call' (ch:=[]) rfl ⟨fun b o q _ _ _=>hk b o q,fun b o q _ _ _=>⟨o.slots,hk b o q⟩,fun b o q n _=>?_,fun b o q _=>⟨o,hk b o q⟩,fun b ys q=>kp b _ q,fun b o u q=>kp b _ q,fun b ps q=>⟨#[],by rw [kp b _ q];simp⟩⟩ (fun b u q=>?_) I.bare fun b z=>by simp at z
 ·obtain ⟨z1,z2⟩:=low b o q
  rw [off b z1 z2]
  exact n
 ·by_cases hb:b∈as
  ·obtain ⟨j,hj⟩:=List.mem_iff_getElem?.mp hb
   have jl:j<xs.length:=by rw [← hl];exact (List.getElem?_eq_some_iff.mp hj).1
   have hx:xs[j]?=some xs[j]:=List.getElem?_eq_getElem jl
   rw [atP j b _ hj hx] at q
   cases q
   obtain ⟨t,x,f1,f2⟩:=hG.pairs j b hj
   obtain ⟨u,g1,g2⟩:=rv.get hx
   have ex:x=u:=by
    have f1':its[j]?=some x:=by simpa using f1
    rw [g1] at f1'
    exact (Option.some.inj f1').symm
   exact ⟨by show 2≤sizeLine;decide,[.int (j:Int) t,x],.cons ⟨t,rfl⟩ (.cons (by rw [ex];exact g2) .nil),⟨_,f2,rfl,_,rfl⟩⟩
  ·by_cases hb2:b=S
   ·rw [hb2] at q ⊢
    rw [eS] at q
    cases q
    refine ⟨by rw [List.length_map];omega,acc.toList,c,by rw [hacc];exact vals_refs as,?_⟩
    rw [Array.toArray_toList]
    exact hS
   ·rw [off b hb hb2] at q
    exact (I.hok b u q).stay (fun d v _ y=>hk d v y) (fun d y=>kp d _ y) fun d ys y=>kp d _ y
theorem pe_listEnum (hc:X.calm=true) (he:PE X e te) (hg:Gl X "list") (hm:X.mg "list"=none) (hv:bootBuiltins "list"=some (.type "list")) (hg2:Gl X "enumerate") (hm2:X.mg "enumerate"=none) (hv2:bootBuiltins "enumerate"=some (.type "enumerate"))
  (hs:starEach [.Call (.Name "enumerate" p2) [e] [] pos2] X.env=(false,eval (.Call (.Name "enumerate" p2) [e] [] pos2) X.env)::starEach [] X.env:=by rfl) (hs2:starEach [e] X.env=(false,eval e X.env)::starEach [] X.env:=by rfl) :
  PE X (.Call (.Name "list" p) [.Call (.Name "enumerate" p2) [e] [] pos2] [] pos) (tListEnum X.K te):=by
 refine ⟨fun pins s σ H Q I hq=>?_⟩
 refine wpAny_Call_Name_kw (ld_blt I hg hm hv ?_)
 refine PyProof.Rows.callWith_type1 ?_ hs rfl
 rw [hs]
 show wpAny _ _ (spliced ((false,eval (.Call (.Name "enumerate" p2) [e] [] pos2) X.env)::backTo pos (starEach [] X.env))) _ _ s
 refine Calls.spliced_cons ?_
 refine wpAny_Call_Name_kw (ld_blt I hg2 hm2 hv2 ?_)
 refine PyProof.Rows.callWith_type1 ?_ hs2 rfl
 rw [hs2]
 show wpAny _ _ (spliced ((false,eval e X.env)::backTo pos2 (starEach [] X.env))) _ _ s
 refine Calls.spliced_cons (thn (he.run pins s σ H _ I hq) fun u s1 ⟨x,H1,I1,rx,a,xs,ex,hL,q⟩=>?_)
 subst ex
 obtain rfl:u=Value.ref a:=rx
 refine Calls.spliced_nil ?_
 obtain ⟨its,rv,hl0,hz⟩:=I1.list hL
 have hl:s1.heap.IsList a its.toArray:=hl0.isList
 have al:a<s1.heap.objs.size:=by obtain ⟨_,y,_⟩:=hl;exact Heap.lt_size y
 refine call_enumerate_list hl fun h1 hE hI hsz hk=>?_
 refine Calls.spliced_nil ?_
 have hl1:h1.IsList a its.toArray:=hl.at fun o y=>hk a o y
 have lx:xs.length=its.length:=rv.length
 have hlen:its.toArray.size=xs.length:=by simp [lx]
 refine FcE.en_call (items:=its.toArray) (I1.ok.hd hc) (Nat.ne_of_lt (Nat.lt_succ_of_lt al)) (Nat.ne_of_lt al) (Nat.succ_ne_self _) hE hI hl1 (by rw [hlen];exact hz) fun h' tk acc c as hkk hS hla hG hacc=>?_
 obtain ⟨H',k1,k2,k3,k4,k5,k6,J⟩:=enum_laid (tk:=tk) (S:=h1.objs.size) (by rw [hsz];exact Nat.le_add_right _ _) I1 hz rv
  (fun b o y=>hkk b o (Nat.ne_of_lt (Nat.lt_succ_of_lt (Heap.lt_size y))) (Nat.ne_of_lt (Heap.lt_size y)) (hk b o y)) hS (by rw [hla,hlen]) hG hacc
 exact ⟨.ref _,H',J,rfl,q H' _ as k1 k2 k3 k4 hG.nodup (by rw [hla,hlen]) k5 k6⟩
def rEqM (K:PySem.W.Frag):R2:=fun x y H Q=>∃ d e,Dp K H x d∧Dp K H y e∧PyData.canLay0 d=true∧PyData.canLay0 e=true∧min d.depth e.depth≤200∧Q (.bl (PyData.eqv d e)) H
def rNeM (K:PySem.W.Frag):R2:=fun x y H Q=>∃ d e,Dp K H x d∧Dp K H y e∧PyData.canLay0 d=true∧PyData.canLay0 e=true∧min d.depth e.depth≤200∧Q (.bl (!PyData.eqv d e)) H
theorem op_eqM {k:Nat} (hr:Room k X.A):OpR X (compareOp .Eq) (rEqM X.K):=by
 intro pins s σ H x y v u Q I rx ry h
 obtain ⟨d,e,hd,he,sd,se,hm,q⟩:=h
 obtain ⟨as,r1⟩:=Dp.reads I d x v hd rx
 obtain ⟨bs,r2⟩:=Dp.reads I e y u he ry
 exact SeqAt.compareEq_reads r1 r2 sd se (by have:=hr.un;omega) ⟨.bl _,H,I,rfl,q⟩
theorem op_neM {k:Nat} (hr:Room k X.A):OpR X (compareOp .NotEq) (rNeM X.K):=by
 intro pins s σ H x y v u Q I rx ry h
 obtain ⟨d,e,hd,he,sd,se,hm,q⟩:=h
 obtain ⟨as,r1⟩:=Dp.reads I d x v hd rx
 obtain ⟨bs,r2⟩:=Dp.reads I e y u he ry
 exact SeqAt.compareNe_reads r1 r2 sd se (by have:=hr.un;omega) ⟨.bl _,H,I,rfl,q⟩
end
end FcR
set_option maxRecDepth 100000
set_option maxHeartbeats 4000000
namespace Fc
open PySem PySem.Spec PyProof.Rows L2 FcR
open Evl (Ex)
section
theorem b_len:bootBuiltins "len"=some (.builtin "len"):=by decide +kernel
theorem b_isinstance:bootBuiltins "isinstance"=some (.builtin "isinstance"):=by decide +kernel
theorem b_all:bootBuiltins "all"=some (.builtin "all"):=by decide +kernel
theorem b_list:bootBuiltins "list"=some (.type "list"):=by decide +kernel
theorem b_tuple:bootBuiltins "tuple"=some (.type "tuple"):=by decide +kernel
theorem b_int:bootBuiltins "int"=some (.type "int"):=by decide +kernel
theorem b_bool:bootBuiltins "bool"=some (.type "bool"):=by decide +kernel
theorem b_str:bootBuiltins "str"=some (.type "str"):=by decide +kernel
theorem b_enumerate:bootBuiltins "enumerate"=some (.type "enumerate"):=by decide +kernel
def Ok (P:Program) (w:World) (K:PySem.W.Frag) (mg:Str→Option Value) (base:Heap) (k:Nat) (at_:Str×Option Str) (ps:List Str) (sp:Sp):Prop :=
 ∃ fd,FnOk P w K mg base (CX P w) k (He.fAd K at_) fd ps sp∧Binds K fd ps []∧PySem.W.keepIn K (.ref (He.fAd K at_))=true
theorem Ok.mono {P:Program} {w:World} {K:PySem.W.Frag} {mg:Str→Option Value} {base:Heap} {j k:Nat} {at_:Str×Option Str} {ps:List Str} {sp:Sp} (h:Ok P w K mg base j at_ ps sp) (e:j≤k):Ok P w K mg base k at_ ps sp:=by
 obtain ⟨fd,G,b,kp⟩:=h
 exact ⟨fd,G.mono e,b,kp⟩
theorem ite_of {c:Bool} {A B:Prop} (h1:c=true→A) (h2:c=false→B):if c=true then A else B:=by
 cases c with
 | true=>rw [if_pos rfl];exact h1 rfl
 | false=>rw [if_neg Bool.false_ne_true];exact h2 rfl
theorem itT {c:Bool} {A B:Prop} (hc:c=true) (h:A):if c=true then A else B:=by
 rw [if_pos hc]
 exact h
theorem itF {c:Bool} {A B:Prop} (hc:c=false) (h:B):if c=true then A else B:=by
 rw [hc,if_neg Bool.false_ne_true]
 exact h
theorem sz {n:Nat} (h:n≤100000):n≤sizeLine:=Evl.sz_of h
theorem szl {n:Nat} (h:n<100000):n<sizeLine:=Evl.sz_lt h
mutual
theorem dp_ex {K:PySem.W.Frag} {H H':Hp} (e:Ex H H'):∀ {d:PyData} {v:V},Dp K H v d→Dp K H' v d
 | _,_,.non=>.non
 | _,_,.bl b=>.bl b
 | _,_,.int i=>.int i
 | _,_,.str x=>.str x
 | _,_,.lst h a=>.lst (Evl.ex_l e h) (dpA_ex e a)
 | _,_,.tup h a=>.tup (Evl.ex_t e h) (dpA_ex e a)
theorem dpA_ex {K:PySem.W.Frag} {H H':Hp} (e:Ex H H'):∀ {ds:List PyData} {vs:List V},DpAll K H vs ds→DpAll K H' vs ds
 | _,_,.nil=>.nil
 | _,_,.cons h a=>.cons (dp_ex e h) (dpA_ex e a)
end
theorem dpA_len {K:PySem.W.Frag} {H:Hp}:∀ {ds:List PyData} {vs:List V},DpAll K H vs ds→vs.length=ds.length
 | _,_,.nil=>rfl
 | _,_,.cons _ a=>congrArg Nat.succ (dpA_len a)
theorem dpA_get {K:PySem.W.Frag} {H:Hp}:∀ {ds:List PyData} {vs:List V},DpAll K H vs ds→∀ {i:Nat} {d:PyData},ds[i]?=some d→∃ v,vs[i]?=some v∧Dp K H v d
 | _,_,.nil,i,d,h=>by simp at h
 | _,_,.cons h a,0,d,e=>by simp at e;subst e;exact ⟨_,rfl,h⟩
 | _,_,.cons h a,i + 1,d,e=>by
  obtain ⟨v,e1,e2⟩:=dpA_get a (i:=i) (d:=d) (by simpa using e)
  exact ⟨v,by simpa using e1,e2⟩
theorem dpA_app {K:PySem.W.Frag} {H:Hp}:∀ {ds es:List PyData} {vs ws:List V},DpAll K H vs ds→DpAll K H ws es→DpAll K H (vs++ws) (ds++es)
 | _,_,_,_,.nil,b=>b
 | _,_,_,_,.cons h a,b=>.cons h (dpA_app a b)
theorem dpA_drop {K:PySem.W.Frag} {H:Hp}:∀ {ds:List PyData} {vs:List V} (n:Nat),DpAll K H vs ds→DpAll K H (vs.drop n) (ds.drop n)
 | _,_,0,a=>a
 | _,_,_ + 1,.nil=>.nil
 | _,_,n + 1,.cons _ a=>dpA_drop n a
theorem dpA_take {K:PySem.W.Frag} {H:Hp}:∀ {ds:List PyData} {vs:List V} (n:Nat),DpAll K H vs ds→DpAll K H (vs.take n) (ds.take n)
 | _,_,0,_=>.nil
 | _,_,_ + 1,.nil=>.nil
 | _,_,n + 1,.cons h a=>.cons h (dpA_take n a)
theorem dp_tup {K:PySem.W.Frag} {H:Hp} {v:V} {ds:List PyData} (h:Dp K H v (.tuple ds)):∃ a xs,v=.ref a∧SqT K H a xs∧DpAll K H xs ds:=by
 cases h with
 | tup h a=>exact ⟨_,_,rfl,h,a⟩
theorem dp_str {K:PySem.W.Frag} {H:Hp} {v:V} {x:Str} (h:Dp K H v (.str x)):v=.str x:=by cases h;rfl
theorem dp_int {K:PySem.W.Frag} {H:Hp} {v:V} {x:Int} (h:Dp K H v (.int x)):v=.int x:=by cases h;rfl
theorem exu {F H:Hp} {p:Addr} {o:HO} (e:Ex F H) (hp:H p=none):Ex F (upd H p o):=fun a u h=>by
 rw [upd_ne (ne_of_none (e a u h) hp)]
 exact e a u h
theorem exm {F H:Hp} {p:Addr} {o:HO} (e:Ex F H) (hp:F p=none):Ex F (upd H p o):=Evl.Ex.mut e hp
theorem new_of {H H1:Hp} {p:Addr} {o:HO} (e:upd H p o=H1) (n:H p=none):Ex H H1∧H1 p=some o∧∀ b,b≠p→H1 b=H b:=by
 subst e
 exact ⟨exu (Evl.Ex.refl _) n,upd_same,fun b hb=>upd_ne hb⟩
theorem set_of {H H1:Hp} {p:Addr} {o:HO} (e:upd H p o=H1):H1 p=some o∧∀ b,b≠p→H1 b=H b:=by
 subst e
 exact ⟨upd_same,fun b hb=>upd_ne hb⟩
theorem set_ex {F H H1:Hp} {p:Addr} (x:Ex F H) (n:F p=none) (o:∀ b,b≠p→H1 b=H b):Ex F H1:=fun b u e=>by
 rw [o b (ne_of_none e n)]
 exact x b u e
theorem ex_none {F H:Hp} {p:Addr} (x:Ex F H) (n:H p=none):F p=none:=by
 cases e:F p with
 | none=>rfl
 | some u=>rw [x _ _ e] at n;cases n
end
end Fc
set_option maxRecDepth 100000
set_option maxHeartbeats 4000000
namespace FcX
open PySem PySem.Spec PyProof.Rows PySem.HandSPX
section
variable {M:Model} {A:Around} {E:Value→Shared→Prop} {h:Heap} {g:Array GenState} {d:Drawn} {t:Nat} {os:OsState}
variable {nm q:Str} {C N:Addr} {bs bm bmB:List Value} {hdct:Bool} {sn:List Str} {sub:List Value} {ab:Bool} {col:Option Bool} {dd:Option Addr} {k0 k1 k2 k3 k5:Option Value} {B newId initId:String}
theorem newcheck (F:ExcBaseFacts B newId initId bmB) (hT:∀ X:String,bm.contains (.type X)=bmB.contains (.type X)) {us:List Value} {kw:List (Str×Value)} {Q:Unit→Shared→Prop}
  (hC:h.get? C=some (excClassObj nm q C N bs bm hdct sn sub ab col dd k0 k1 k2 k3 k5 newId)) (hq:Q () ⟨h,g,d,t,os⟩):wpAny M A (checkBuiltinCall newId ⟨.ref C::us,kw⟩) Q E ⟨h,g,d,t,os⟩:=by
 have hb:(Value.ref C::bm).contains (.type B)=true:=by rw [List.contains_cons,hT,F.hasB,Bool.or_true]
 have ns:=F.noStar
 simp only [checkBuiltinCall,F.newKind,F.newSplit,F.newRow]
 repeat (first | refine wpAny_loadPart_at hC ?_ | (refine wpAny_isSubtype_exc hC ?_;rw [hb]) | refine wpAny_staticBase_exc hC ?_ | refine wpAny_madeBy_exc hC ?_ | simp only [bne_self_eq_false,Bool.false_eq_true,if_false] | wp_step)
 exact hq
end
section
variable {prog:Program} {w:World} {A:Around} {E:Value→Shared→Prop} {R:Result→Shared→Prop} {h:Heap} {g:Array GenState} {d:Drawn} {t:Nat} {os:OsState}
variable {nm q:Str} {C N:Addr} {bs bm bmB:List Value} {hdct:Bool} {sn:List Str} {sub:List Value} {ab:Bool} {col:Option Bool} {dd:Option Addr} {k0 k1 k2 k3 k5:Option Value} {B newId initId:String}
theorem newK (F:ExcBaseFacts B newId initId bmB) (hT:∀ X:String,bm.contains (.type X)=bmB.contains (.type X)) {us:List Value} {kw:List (Str×Value)}
  (hC:h.get? C=some (excClassObj nm q C N bs bm hdct sn sub ab col dd k0 k1 k2 k3 k5 newId))
  (hq:R (.ok (.ret (.ref (h.objs.size + 1)))) ⟨(h.push (W.kdv_tup us)).push (excO C h.objs.size),g,d,t,os⟩) (hz:us.length≤sizeLine) :
  codeAny (model prog w) A (.builtin newId ⟨.ref C::us,kw⟩) R ⟨h,g,d,t,os⟩:=by
 have hends:=F.ends
 have hcB:(Value.ref C::bm).contains (.type B)=true:=by rw [List.contains_cons,hT,F.hasB,Bool.or_true]
 have a1:(Value.ref C::bm).contains (.type "AttributeError")=false:=by rw [List.contains_cons,hT,F.noAttr];rfl
 have a2:(Value.ref C::bm).contains (.type "NameError")=false:=by rw [List.contains_cons,hT,F.noName];rfl
 refine codeAny_builtinAt F.entry ?_
 unfold Builtin.«BaseException.__new__»
 refine PySem.wpAt_bind ?_
 show PySem.wpAt _ _ _ (stack >>= _) _ _ _
 refine PySem.wpAt_bind (PySem.wpAt_stack fun p below=>PySem.wpAt_of_wpAny ?_)
 wp_walk
 refine PySem.wpAt_of_wpAny ?_
 rw [F.owner]
 repeat (first | with_reducible refine wpAny_madeHere_exc F.canon hC ?_ | with_reducible refine wpAny_loadPart_at hC ?_ | (with_reducible refine wpAny_isSubtype_exc hC ?_;first | rw [hcB] | rw [a1] | rw [a2]) | wp_step)
 show R _ _
 rw [Heap.size_push]
 exact hq
theorem typeK (F:ExcBaseFacts B newId initId bmB) (hT:∀ X:String,bm.contains (.type X)=bmB.contains (.type X)) {us:List Value} {kw:List (Str×Value)} {fI:Addr} {Q:Fin→Shared→Prop}
  (hC:h.get? C=some (excClassObj nm q C N bs bm hdct sn sub ab col dd k0 k1 k2 k3 k5 newId))
  (hi:W.Looks (model prog w) h (typeLookup (.ref C) "__init__") (some (.ref fI))) (hb:∀ self,W.Looks (model prog w) h (bindSpecial (.ref fI) self) (.ref fI,[self])) (hz:us.length≤sizeLine)
  (hq:codeAny (model prog w) A (.call (.ref fI) ⟨.ref (h.objs.size + 1)::us,kw⟩)
   (fun r s'=>match r with | .ok (.ret v)=>v=.none∧Q (.done (.ret (.ref (h.objs.size + 1)))) s' | .ok _=>False | .error e=>E e s')
   ⟨(h.push (W.kdv_tup us)).push (excO C h.objs.size),g,d,t,os⟩) :
  wpAny (model prog w) A (Builtin.«type.__call__» ⟨.ref C::us,kw⟩) Q E ⟨h,g,d,t,os⟩:=by
 repeat (first | with_reducible refine wpAny_loadPart_at hC ?_ | with_reducible refine wpAny_madeBy_exc hC ?_ | wp_step)
 refine codeAny_call_builtin_code (Code.quiet_builtin _ F.quiet) (newcheck F hT hC ?_)
 refine newK F hT hC ?_ hz
 show wpAny _ _ _ _ _ _
 have kp:∀ b o,h.get? b=some o→((h.push (W.kdv_tup us)).push (excO C h.objs.size)).get? b=some o:=fun b o e=>Heap.get?_push_of_some _ (Heap.get?_push_of_some _ e)
 have hC':=kp _ _ hC
 have he:((h.push (W.kdv_tup us)).push (excO C h.objs.size)).get? (h.objs.size + 1)=some (excO C h.objs.size):=by heap_get
 have cc:(Value.ref C::bm).contains (.ref C)=true:=by simp
 have i1:=hi.keeps kp
 have b1:=(hb (.ref (h.objs.size + 1))).keeps kp
 unfold isInstance
 repeat (first | with_reducible refine wpAny_loadPart_at he ?_ | (with_reducible refine wpAny_isSubtype_exc hC' ?_;rw [cc]) | wp_step)
 show wpAny _ _ (typeLookup (.ref C) _) _ _ _
 refine i1.at ?_
 refine wpAny_holding (wpAny_bind (b1.at ?_))
 refine wpAny_bind (wpAny_call (codeAny_mono hq fun r s' z=>?_))
 rcases r with e | (v | _ | _ | _)<;>first | exact z | exact z.elim | skip
 obtain ⟨rfl,z⟩:=z
 first
  | exact wpAny_pure (wpAny_pure z)
  | (wp_walk;exact z)
theorem callK (F:ExcBaseFacts B newId initId bmB) (hT:∀ X:String,bm.contains (.type X)=bmB.contains (.type X)) {us:List Value} {kw:List (Str×Value)} {fI:Addr}
  (hC:h.get? C=some (excClassObj nm q C N bs bm hdct sn sub ab col dd k0 k1 k2 k3 k5 newId))
  (hi:W.Looks (model prog w) h (typeLookup (.ref C) "__init__") (some (.ref fI))) (hb:∀ self,W.Looks (model prog w) h (bindSpecial (.ref fI) self) (.ref fI,[self])) (hz:us.length≤sizeLine)
  (hq:codeAny (model prog w) (A.under (.builtin "type.__call__" ⟨.ref C::us,kw⟩)) (.call (.ref fI) ⟨.ref (h.objs.size + 1)::us,kw⟩) (W.InitBack (h.objs.size + 1) R)
   ⟨(h.push (W.kdv_tup us)).push (excO C h.objs.size),g,d,t,os⟩) :
  codeAny (model prog w) A (.call (.ref C) ⟨us,kw⟩) R ⟨h,g,d,t,os⟩:=by
 have f1:=tc_lookup
 have f2:=tc_bind (.ref C)
 have hy:(⟨h,g,d,t,os⟩:Shared).TypeIs (.ref C) "type":=⟨_,hC,rfl⟩
 refine codeAny_of_tree ?_
 show wpAny _ _ (callAny (.ref C) _) _ _ _
 repeat (any_goals (first | assumption | with_reducible refine wpAny_loadPart_at hC ?_ | wp_step))
 refine ⟨rfl,?_⟩
 refine codeAny_call_builtin_at (Code.quiet_builtin _ (by decide +kernel)) entry_typeCall (wpAny_check_type_call_sub hC (typeK F hT hC hi hb hz ?_))
 refine codeAny_mono hq fun r s' z=>?_
 rcases r with e | (v | _ | _ | _)<;>exact z
end
end FcX
set_option maxRecDepth 100000
set_option maxHeartbeats 4000000
namespace FcX
open PySem PySem.Spec PyProof.Rows L2 FcR
abbrev aeT:List Value:=[.type "ArithmeticError",.type "Exception",.type "BaseException",.type "object"]
structure XC (K:PySem.W.Frag) (C:Addr):Prop where
 ini:PySem.W.excInitIn K C aeT "ArithmeticError.__new__"=true
 over:PySem.W.excOver K C aeT=true
 sa:PySem.W.findIn K (.ref C) "__setattr__"=some (some (.builtin "object.__setattr__"))
 ga:PySem.W.findIn K (.ref C) "__getattribute__"=some (some (.builtin "BaseException.__getattribute__"))
 gt:PySem.W.findIn K (.ref C) "__getattr__"=some none
 ex:PySem.W.subIn K (.ref C) (.type "BaseException")=some true
 ty:PySem.W.typeIn K (.ref C)=some (.type "type")
 kp:PySem.W.keepIn K (.ref C)=true
 hd:PySem.W.hasDictIn K C=true
 cl:PySem.W.findIn K (.ref C) "__class__"=some (some (.builtin "object.__class__"))
 cg:PySem.W.specialIn K (.builtin "object.__class__") "__get__"=some (some (.builtin "getset_descriptor.__get__"))
 ct:PySem.W.takesIn K (.builtin "object.__class__")=some true
 mo:PySem.W.mroIn K C (.type "object")=some true
def xcB (K:PySem.W.Frag) (C:Addr):Bool:=PySem.W.excInitIn K C aeT "ArithmeticError.__new__" && (PySem.W.excOver K C aeT && (
 decide (PySem.W.findIn K (.ref C) "__setattr__"=some (some (.builtin "object.__setattr__"))) && (decide (PySem.W.findIn K (.ref C) "__getattribute__"=some (some (.builtin "BaseException.__getattribute__"))) && (
 decide (PySem.W.findIn K (.ref C) "__getattr__"=some none) && (decide (PySem.W.subIn K (.ref C) (.type "BaseException")=some true) && (decide (PySem.W.typeIn K (.ref C)=some (.type "type")) && (PySem.W.keepIn K (.ref C) && (PySem.W.hasDictIn K C && (
 decide (PySem.W.findIn K (.ref C) "__class__"=some (some (.builtin "object.__class__"))) && (decide (PySem.W.specialIn K (.builtin "object.__class__") "__get__"=some (some (.builtin "getset_descriptor.__get__"))) && (
 decide (PySem.W.takesIn K (.builtin "object.__class__")=some true) && decide (PySem.W.mroIn K C (.type "object")=some true))))))))))))
theorem xcB_ok {K:PySem.W.Frag} {C:Addr} (h:xcB K C=true):XC K C:=by
 unfold xcB at h
 simp only [Bool.and_eq_true,decide_eq_true_eq] at h
 obtain ⟨h1,h2,h3,h4,h5,h6,h7,h8,h9,h10,h11,h12,h13⟩:=h
 exact ⟨h1,h2,h3,h4,h5,h6,h7,h8,h9,h10,h11,h12,h13⟩
structure XI (K:PySem.W.Frag) (C fI:Addr) (f:Str):Prop where
 ini:PySem.W.findIn K (.ref C) "__init__"=some (some (.ref fI))
 fn:PySem.W.typeIn K (.ref fI)=some (.type "function")
 tk:PySem.W.takerIn K C f=some none
 no:PySem.W.findIn K (.ref C) f=some none
def xiB (K:PySem.W.Frag) (C fI:Addr) (f:Str):Bool:=decide (PySem.W.findIn K (.ref C) "__init__"=some (some (.ref fI))) && (decide (PySem.W.typeIn K (.ref fI)=some (.type "function")) && (decide (PySem.W.takerIn K C f=some none) && decide (PySem.W.findIn K (.ref C) f=some none)))
theorem xiB_ok {K:PySem.W.Frag} {C fI:Addr} {f:Str} (h:xiB K C fI f=true):XI K C fI f:=by
 unfold xiB at h
 simp only [Bool.and_eq_true,decide_eq_true_eq] at h
 obtain ⟨h1,h2,h3,h4⟩:=h
 exact ⟨h1,h2,h3,h4⟩
section
variable {X:Cx} {pins:List (Addr×Obj)} {σ:L2.St} {H:Hp} {s:Shared} {a C fI:Addr} {f:Str} {y:V} {u:Value} {A:Around} {E:Value→Shared→Prop}
theorem xst {Q:Unit→Shared→Prop} (T:XC X.K C) (ht:PySem.W.takerIn X.K C f=some none) (I:Inv X pins σ H s) (e:H a=some (exo a C none)) (ry:RelV y u)
  (h:∀ dx s',H dx=none→dx≠a→Inv X pins σ (upd (upd H dx (exd dx [(f,y)])) a (exo a C (some dx))) s'→Q () s'):wpAny (model X.prog X.w) A (setAttr (.ref a) f u) Q E s:=by
 obtain ⟨t1,ho⟩:=exo_at I.hok e
 obtain ⟨hp,g,d,t,os⟩:=s
 obtain ⟨cd,hc,hcd⟩:=PySem.W.any_some T.hd
 have hlt:=Heap.lt_size ho
 have hne:hp.objs.size≠a:=Nat.ne_of_gt hlt
 refine PySem.W.set_plain I.kIn (ox:=PySem.W.excObj C t1 none .none) (od:=none) ⟨ho,rfl,rfl,trivial⟩ T.sa ?_
 refine PySem.W.osa_openX (od:=none) (ox:=PySem.W.excObj C t1 none .none) F.store_ArithmeticError I.kIn ⟨ho,rfl,rfl,trivial⟩ T.over ht fun b=>?_
 refine wpAny_bind (wpAny_pure (wpAny_bind (PySem.W.instanceDict_exc (c2:=.none) ho (PySem.W.looks_clsIn I.kIn hc) hcd ?_)))
 show wpAny _ _ (Builtin.ObjectAttr.storeInDict hp.objs.size _ f u) _ _ _
 refine PySem.HandSPX.store_in_new ?_ fun h' tk' hn' sb=>?_
 ·exact ⟨_,#[],_,(Heap.get?_update_ne _ _ _ _ hne).trans (Heap.get?_push_at rfl rfl),rfl,fun e he=>absurd he (by simp),fun _=>rfl⟩
 ·have ho1:(hp.push (PySem.W.dictOf [] 0)).get? a=some (PySem.W.excObj C t1 none .none):=Heap.get?_push_of_some _ ho
  have hx:h'.get? a=some (PySem.W.excObj C t1 (some hp.objs.size) .none):=(sb.2 a hne.symm).trans (Heap.get?_update_self _ ho1 rfl)
  have k:∀ b o,b≠a→hp.get? b=some o→h'.get? b=some o:=fun b o hb q =>
   (sb.2 b (Nat.ne_of_lt (Heap.lt_size q))).trans ((Heap.get?_update_ne _ _ _ _ hb).trans (Heap.get?_push_of_some _ q))
  have hnd:H hp.objs.size=none:=I.hok.fresh (Nat.le_refl _)
  have nd:∀ {b:Addr} {o:Obj},hp.get? b=some o→b≠hp.objs.size:=fun q=>Nat.ne_of_lt (Heap.lt_size q)
  have na:∀ {b:Addr},H b=none→b≠a:=fun n z=>by rw [z,e] at n;cases n
  have U:Un X.fs [] H (upd (upd H hp.objs.size (exd hp.objs.size [(f,y)])) a (exo a C (some hp.objs.size))) hp h':={
   keep:=fun b o q n _ _=>k b o (na n) q
   slot:=fun b o q n _ _=>⟨o.slots,k b o (na n) q⟩
   free:=fun b o q n _=>by rw [upd_ne (na n),upd_ne (nd q)];exact n
   there:=fun b o q _=>by
    by_cases hb:b=a
    ·exact ⟨_,by rw [hb];exact hx⟩
    ·exact ⟨o,k b o hb q⟩
   tups:=fun b xs q=>by rw [upd_ne (at_ne e q exo_tup),upd_ne (ne_of_none q hnd)];exact q
   frzs:=fun b o v q=>by rw [upd_ne (at_ne e q exo_frz),upd_ne (ne_of_none q hnd)];exact q
   tbls:=fun b ps q=>⟨#[],by rw [upd_ne (at_ne e q exo_tbl),upd_ne (ne_of_none q hnd),q];simp⟩ }
  refine h hp.objs.size _ hnd hne (I.un (t':=tk') U fun b o q=>?_)
  by_cases hb:b=a
  ·subst hb
   rw [upd_same] at q
   cases q
   exact exo_ok hx
  ·rw [upd_ne hb] at q
   by_cases hd:b=hp.objs.size
   ·subst hd
    rw [upd_same] at q
    cases q
    exact exd_ok hn' (relO_put (fs:=[]) ry fun g=>True.intro)
   ·rw [upd_ne hd] at q
    refine (I.hok b o q).stay (fun c v hc z=>k c v ?_ z) (fun c hc=>?_) (fun c xs hc=>?_)
    ·rcases hc with hc | hc
     ·rw [hc]
      exact hb
     ·exact at_ne e hc exo_own
    ·rw [upd_ne (at_ne e hc exo_own),upd_ne (ne_of_none hc hnd)]
     exact hc
    ·rw [upd_ne (at_ne e hc exo_tup),upd_ne (ne_of_none hc hnd)]
     exact hc
end
def tXst (K:PySem.W.Frag) (f:Str) (to te:TE):TS:=fun D σ H=>te σ H fun y H1=>to σ H1 fun x H2=>∃ a C:Addr,x=.ref a∧XC K C∧PySem.W.takerIn K C f=some none∧H2 a=some (exo a C none) ∧
 ∀ dx,H2 dx=none→dx≠a→D.nx σ (upd (upd H2 dx (exd dx [(f,y)])) a (exo a C (some dx)))
theorem ps_xst {X:Cx} {o e:Expr} {to te:TE} {f:Str} {p pos:Pos} (ho:PE X o to) (he:PE X e te) (hs:swapsWith e (some (.Attribute o f p)) pos.line X.env=pure false:=by rfl):PS X (.Assign [.Attribute o f p] e pos) (tXst X.K f to te):=by
 refine ⟨fun pins s σ H D I h=>?_⟩
 refine plainObj_wpAny_Assign_Attribute (thn (he.run pins s σ H _ I h) fun v s1 ⟨y,H1,I1,r1,q1⟩=>thn (ho.run pins s1 σ H1 _ I1 q1) fun u s2 ⟨x,H2,I2,r2,a,C,ex,T,ht,ea,q⟩=>?_) hs
 subst ex
 obtain rfl:u=Value.ref a:=r2
 exact xst T ht I2 ea r1 fun dx s' n ne J=>⟨σ,_,J,q dx n ne⟩
def spX (K:PySem.W.Frag) (C:Addr) (f:Str):Sp:=fun vs H Q _=>∃ (a:Addr) (y:V),vs=[.ref a,y]∧H a=some (exo a C none)∧∀ dx,H dx=none→dx≠a→Q .non (upd (upd H dx (exd dx [(f,y)])) a (exo a C (some dx)))
def XV (H:Hp) (C:Addr) (f:Str) (y:V) (a:Addr):Prop:=∃ d,H a=some (exo a C (some d))∧H d=some (exd d [(f,y)])
theorem XV.ex {H H':Hp} {C:Addr} {f:Str} {y:V} {a:Addr} (h:XV H C f y a) (e:Evl.Ex H H'):XV H' C f y a:=by
 obtain ⟨d,h1,h2⟩:=h
 exact ⟨d,e _ _ h1,e _ _ h2⟩
section
variable {X:Cx} {CX:CXT} {k:Nat} {C fI:Addr} {fd:FuncData} {f n x:Str} {p pos kpos:Pos} {e:Expr} {es:List Expr} {ta:TA} {te:TE}
end
def xkB (K:PySem.W.Frag) (ns:List Str):Bool:=ns.all fun c=>ns.all (fun d=>decide (PySem.W.kitOne K (.ref (He.ga K c)) (.ref (He.ga K d))=some (c == d || d == "CopyError"))) &&
 (decide (PySem.W.kitOne K (.ref (He.ga K c)) (.type "ArithmeticError")=some true) && decide (PySem.W.kitAny K (.ref (He.ga K c)) [.type "ValueError",.type "TypeError",.type "LookupError"]=some false))
end FcX
set_option maxRecDepth 100000
set_option maxHeartbeats 4000000
namespace Fc
open PySem PySem.Spec PyProof.Rows L2 FcR
open Evl (Ex)
section
abbrev rLenK (K:PySem.W.Frag):List V→Hp→VK→Prop:=fun xs H Q=>∃ p ys,xs=[V.ref p]∧(SqL K H p ys∨SqT K H p ys)∧Q (V.int (ys.length:Int)) H
def frz (F H:Hp) (L:List Addr):Hp:=fun b=>if b∈L then H b else F b
theorem frz_in {F H:Hp} {L:List Addr} {b:Addr} (h:b∈L):frz F H L b=H b:=if_pos h
theorem frz_out {F H:Hp} {L:List Addr} {b:Addr} (h:b ∉ L):frz F H L b=F b:=if_neg h
theorem frz_ex {F H:Hp} {L:List Addr} (h:∀ b∈L,F b=none):Ex F (frz F H L):=fun b o e=>by
 rw [frz_out (fun z=>by rw [h b z] at e;cases e)]
 exact e
theorem frz_le {F H:Hp} {L:List Addr} (e:Ex F H):Ex (frz F H L) H:=fun b o h=>by
 by_cases z:b∈L
 ·rw [frz_in z] at h;exact h
 ·rw [frz_out z] at h;exact e b o h
structure Gr (M:Addr→Prop) (F H F' H':Hp):Prop where
 ff:Ex F F'
 fh:Ex F' H'
 nw:∀ b,H b≠none→F b=none→¬ M b→F' b=none
 kp:∀ b o,H b=some o→¬ M b→H' b=some o
theorem Gr.refl {M:Addr→Prop} {F H:Hp} (x:Ex F H):Gr M F H F H:=⟨Evl.Ex.refl _,x,fun _ _ e _=>e,fun _ _ e _=>e⟩
theorem Gr.trans {M:Addr→Prop} {F H F1 H1 F2 H2:Hp} (a:Gr M F H F1 H1) (b:Gr M F1 H1 F2 H2):Gr M F H F2 H2 :=
 ⟨a.ff.trans b.ff,b.fh,fun c h1 h2 h3=>b.nw c (fun z=>by
  cases e:H c with
  | none=>exact h1 e
  | some o=>rw [a.kp c o e h3] at z;cases z) (a.nw c h1 h2 h3) h3,fun c o e h=>b.kp c o (a.kp c o e h) h⟩
theorem Gr.new {M:Addr→Prop} {F H H1:Hp} (x:Ex F H) (e:Ex H H1):Gr M F H F H1:=⟨Evl.Ex.refl _,x.trans e,fun _ _ h _=>h,fun b o h _=>e b o h⟩
theorem Gr.set {M:Addr→Prop} {F H H1:Hp} {p:Addr} (x:Ex F H) (hp:M p) (hf:F p=none) (o:∀ b,b≠p→H1 b=H b):Gr M F H F H1 :=
 ⟨Evl.Ex.refl _,set_ex x hf o,fun _ _ h _=>h,fun b u e hb=>by rw [o b (fun z=>hb (z ▸ hp))];exact e⟩
theorem Gr.frz {M:Addr→Prop} {F H H1:Hp} {p:Addr} {u:HO} (x:Ex F H) (n:H p=none) (s:H1 p=some u) (o:∀ b,b≠p→H1 b=H b):Gr M F H (upd F p u) H1:=by
 refine ⟨exu (Evl.Ex.refl _) (ex_none x n),fun b w e=>?_,fun b h1 h2 _=>?_,fun b w e _=>?_⟩
 ·by_cases z:b=p
  ·rw [z,upd_same] at e
   cases e
   rw [z]
   exact s
  ·rw [upd_ne z] at e
   rw [o b z]
   exact x b w e
 ·rw [upd_ne (fun z=>h1 (by rw [z];exact n))]
  exact h2
 ·rw [o b (ne_of_none e n)]
  exact e
theorem Gr.mono {M M':Addr→Prop} {F H F' H':Hp} (g:Gr M F H F' H') (h:∀ b,M b→M' b):Gr M' F H F' H' :=
 ⟨g.ff,g.fh,fun b h1 h2 h3=>g.nw b h1 h2 fun z=>h3 (h b z),fun b o e hb=>g.kp b o e fun z=>hb (h b z)⟩
theorem Gr.ex {F H F' H':Hp} (g:Gr (fun _=>False) F H F' H'):Ex H H':=fun b o e=>g.kp b o e id
theorem Gr.hide {M M':Addr→Prop} {F H F1 H1 F2 H2:Hp} (a:Gr M F H F1 H1) (b:Gr M' F1 H1 F2 H2) (h:∀ x,M' x→H x=none∨M x):Gr M F H F2 H2:=by
 have hn:∀ x,H x≠none→¬ M x→¬ M' x:=fun x h1 h2 h3=>(h x h3).elim h1 h2
 refine ⟨a.ff.trans b.ff,b.fh,fun x h1 h2 h3=>b.nw x (fun z=>?_) (a.nw x h1 h2 h3) (hn x h1 h3),fun x o e h1=>b.kp x o (a.kp x o e h1) (hn x (by rw [e];exact fun z=>nomatch z) h1)⟩
 cases e:H x with
 | none=>exact h1 e
 | some o=>rw [a.kp x o e h3] at z;cases z
theorem Gr.frzAt {M:Addr→Prop} {F H F1 H1:Hp} {p:Addr} {o:HO} (g:Gr M F H F1 H1) (hp:H p=none) (h1:H1 p=some o) (hf:F1 p=none):Gr M F H (upd F1 p o) H1:=by
 refine ⟨exu g.ff hf,fun b u e=>?_,fun b a1 a2 a3=>?_,g.kp⟩
 ·by_cases z:b=p
  ·rw [z,upd_same] at e;cases e;rw [z];exact h1
  ·rw [upd_ne z] at e;exact g.fh b u e
 ·rw [upd_ne (fun z=>a1 (by rw [z];exact hp))]
  exact g.nw b a1 a2 a3
structure Rg (M:Addr→Prop) (F0 H F R H':Hp):Prop where
 g:Gr M F0 H F H'
 rh:Ex R H'
 dj:∀ b o,R b=some o→F b=none
 rn:∀ b o,R b=some o→H b=none∧¬ M b
def hp0:Hp:=fun _=>none
section
variable {M:Addr→Prop} {F0 H F R H':Hp}
theorem Rg.start (g:Gr M F0 H F H'):Rg M F0 H F hp0 H':=⟨g,fun b o e=>(by cases e),fun b o e=>(by cases e),fun b o e=>(by cases e)⟩
theorem Rg.fresh (x:Rg M F0 H F R H') {p:Addr} (n:H' p=none):F p=none∧R p=none∧(¬ M p→H p=none):=by
 refine ⟨ex_none x.g.fh n,ex_none x.rh n,fun hm=>?_⟩
 cases e:H p with
 | none=>rfl
 | some o=>rw [x.g.kp p o e hm] at n;cases n
theorem Rg.junk (x:Rg M F0 H F R H') {H1:Hp} (e:Ex H' H1):Rg M F0 H F R H1:=⟨x.g.trans (Gr.new x.g.fh e),x.rh.trans e,x.dj,x.rn⟩
theorem Rg.newR (x:Rg M F0 H F R H') {H1:Hp} {p:Addr} {o:HO} (hm:¬ M p) (n:H' p=none) (s:H1 p=some o) (e:∀ b,b≠p→H1 b=H' b):Rg M F0 H F (upd R p o) H1:=by
 obtain ⟨f1,f2,f3⟩:=x.fresh n
 have ex:Ex H' H1:=fun b u h=>by rw [e b (ne_of_none h n)];exact h
 refine ⟨x.g.trans (Gr.new x.g.fh ex),fun b u h=>?_,fun b u h=>?_,fun b u h=>?_⟩
 all_goals by_cases z:b=p
 ·rw [z,upd_same] at h;cases h;rw [z];exact s
 ·rw [upd_ne z] at h;rw [e b z];exact x.rh b u h
 ·rw [z];exact f1
 ·rw [upd_ne z] at h;exact x.dj b u h
 ·rw [z];exact ⟨f3 hm,hm⟩
 ·rw [upd_ne z] at h;exact x.rn b u h
theorem Rg.newF (x:Rg M F0 H F R H') {H1:Hp} {p:Addr} {o:HO} (n:H' p=none) (s:H1 p=some o) (e:∀ b,b≠p→H1 b=H' b):Rg M F0 H (upd F p o) R H1:=by
 obtain ⟨f1,f2,f3⟩:=x.fresh n
 have ex:Ex H' H1:=fun b u h=>by rw [e b (ne_of_none h n)];exact h
 refine ⟨x.g.trans (Gr.frz x.g.fh n s e),x.rh.trans ex,fun b u h=>?_,x.rn⟩
 rw [upd_ne (ne_of_none h f2)]
 exact x.dj b u h
theorem Rg.setR (x:Rg M F0 H F R H') {H1:Hp} {p:Addr} {o u0:HO} (hp:R p=some u0) (s:H1 p=some o) (e:∀ b,b≠p→H1 b=H' b):Rg M F0 H F (upd R p o) H1:=by
 obtain ⟨r1,r2⟩:=x.rn p u0 hp
 refine ⟨⟨x.g.ff,fun b u h=>?_,x.g.nw,fun b u h hb=>?_⟩,fun b u h=>?_,fun b u h=>?_,fun b u h=>?_⟩
 ·have z:b≠p:=fun z=>by rw [z,x.dj p u0 hp] at h;cases h
  rw [e b z];exact x.g.fh b u h
 ·have z:b≠p:=fun z=>by rw [z,r1] at h;cases h
  rw [e b z];exact x.g.kp b u h hb
 all_goals by_cases z:b=p
 ·rw [z,upd_same] at h;cases h;rw [z];exact s
 ·rw [upd_ne z] at h;rw [e b z];exact x.rh b u h
 ·rw [z];exact x.dj p u0 hp
 ·rw [upd_ne z] at h;exact x.dj b u h
 ·rw [z];exact ⟨r1,r2⟩
 ·rw [upd_ne z] at h;exact x.rn b u h
theorem Rg.call {M':Addr→Prop} {F2 H2:Hp} (x:Rg M F0 H F R H') (c:Gr M' F H' F2 H2) (hM:∀ b,M' b→M b):Rg M F0 H F2 R H2:=by
 refine ⟨x.g.trans (c.mono hM),fun b o h=>c.kp b o (x.rh b o h) fun z=>(x.rn b o h).2 (hM b z),fun b o h=>?_,x.rn⟩
 exact c.nw b (by rw [x.rh b o h];exact fun z=>nomatch z) (x.dj b o h) fun z=>(x.rn b o h).2 (hM b z)
theorem Rg.only (x:Rg M F0 H F R H') {R':Hp} (e:Ex R' R):Rg M F0 H F R' H':=⟨x.g,e.trans x.rh,fun b o h=>x.dj b o (e b o h),fun b o h=>x.rn b o (e b o h)⟩
def joinH (F R:Hp):Hp:=fun b=>match R b with
 | some o=>some o
 | none=>F b
theorem joinH_r {b:Addr} {o:HO} (h:R b=some o):joinH F R b=some o:=by unfold joinH;rw [h]
theorem joinH_f (dj:∀ b o,R b=some o→F b=none):Ex F (joinH F R):=fun b o h=>by
 unfold joinH
 cases e:R b with
 | none=>exact h
 | some u=>rw [dj b u e] at h;cases h
theorem Rg.done (x:Rg M F0 H F R H'):Gr M F0 H (joinH F R) H':=by
 refine ⟨x.g.ff.trans (joinH_f x.dj),fun b o h=>?_,fun b h1 h2 h3=>?_,x.g.kp⟩
 ·unfold joinH at h
  cases e:R b with
  | none=>rw [e] at h;exact x.g.fh b o h
  | some u=>rw [e] at h;cases h;exact x.rh b _ e
 ·unfold joinH
  cases e:R b with
  | none=>exact x.g.nw b h1 h2 h3
  | some u=>exact absurd (x.rn b u e).1 h1
theorem Rg.part (x:Rg M F0 H F R H') {R1 R2:Hp} (e1:Ex R1 R) (e2:Ex R2 R) (d:∀ b o,R1 b=some o→R2 b=none):Rg M F0 H (joinH F R2) R1 H':=by
 refine ⟨(x.only e2).done,e1.trans x.rh,fun b o h=>?_,fun b o h=>x.rn b o (e1 b o h)⟩
 unfold joinH
 rw [d b o h]
 exact x.dj b o (e1 b o h)
end
end
end Fc
set_option maxRecDepth 100000
set_option maxHeartbeats 4000000
namespace FcO
open PySem PySem.Spec PyProof.Rows L2
section
variable {X:Cx} {CX:CXT} {C f:Addr} {fd:FuncData} {ps:List Str} {sp:Sp} {E:XK} {k:Nat}
end
end FcO
namespace FcO
open PySem PySem.Spec PyProof.Rows L2
def eqB (K : PySem.W.Frag) (C : Addr) : Bool :=
  (decide (PySem.W.findIn K (.ref C) "__ne__" = some (some (.builtin "object.__ne__"))) && decide (PySem.W.findIn K (.ref C) "__class__" = some (some (.builtin "object.__class__")))) &&
  ((decide (PySem.W.specialIn K (.builtin "object.__class__") "__get__" = some (some (.builtin "getset_descriptor.__get__"))) && decide (PySem.W.takesIn K (.builtin "object.__class__") = some true)) &&
  ((decide (PySem.W.mroIn K C (.type "object") = some true) && decide (PySem.W.kitOne K (.ref C) (.ref C) = some true)) &&
   ((["NoneType", "bool", "int", "str", "list", "tuple", "dict"] : List String).all fun T => decide (PySem.W.kitOne K (.type T) (.ref C) = some false))))
section
variable {X:Cx} {CX:CXT} {C f:Addr} {fd:FuncData} {ps:List Str} {sp:Sp} {E:XK} {k:Nat}
end
end FcO
namespace FcO
open PySem PySem.Spec PyProof.Rows L2
section
variable {X:Cx} {CX:CXT} {C f:Addr} {fd:FuncData} {ps ks:List Str} {sp:Sp} {E:XK} {k:Nat} {x:Str} {p pos:Pos} {kws:List Keyword} {tk:TA} {g:List Value→List Value} {gV:List V→List V}
end
end FcO
set_option maxRecDepth 100000
set_option maxHeartbeats 4000000
namespace FcX
open PySem PySem.Spec PyProof.Rows L2 FcR
def tMkR (C:Addr) (f:Str) (ta:TA):L2.St→Hp→XK→Prop:=fun σ H Q=>ta σ H fun vs H1=>∃ y,vs=[y]∧∀ d,H1 d=none→Q (.ref C) (some d) (upd H1 d (.xd [(f,y)]))
theorem del_made {H:Hp} {a dx:Addr} {u1 u2 u3 o:HO} (h1:H a=none) (h3:dx≠a):upd (del (upd (upd (upd H a u1) dx u2) a u3) a) dx o=upd H dx o:=by
 funext b
 by_cases hb:b=dx
 ·rw [hb,upd_same,upd_same]
 ·rw [upd_ne hb,upd_ne hb]
  by_cases ha:b=a
  ·rw [ha,del_same,h1]
  ·rw [del_ne ha,upd_ne ha,upd_ne hb,upd_ne ha]
section
variable {X:Cx} {CX:CXT} {k:Nat} {C fI:Addr} {fd:FuncData} {f n x:Str} {p pos:Pos} {e:Expr} {te:TE}
theorem pmk_X (T:XC X.K C) (N:XI X.K C fI f) (G:FnOk X.prog X.w X.K X.mg X.base CX k fI fd ["self",n] (spX X.K C f)) (hr:Room (k + 1) X.A) (hb:Binds X.K fd ["self",n] []) (hx:Passes CX X (fun _ _ _=>False)) (hg:Gl X x) (hm:X.mg x=some (.ref C)) (ha:PE X e te)
  (hdb:(x == ("__debug__":Str))=false:=by decide) (he:starEach [e] X.env=(false,eval e X.env)::starEach [] X.env:=by rfl):PMk X (.Call (.Name x p) [e] [] pos) (tMkR C f (tCons te tNil)):=by
 intro pins s0 σ H0 Q I0 h
 refine wpAny_Call_Name_kw (ld_glob I0 hg hm ?_ hdb)
 refine PySem.W.callWith_K (h₀:=X.base) I0.ok.mod.kin T.kp (thn ((pa_cons (hs:=he) ha pa_nil).run pos pins s0 σ H0 _ I0 h) fun us s1 ⟨vs,H,I,r1,y,ev,q⟩=>⟨I.kIn,?_⟩) he (by rfl)
 subst ev
 cases r1 with
 | @cons _ v _ _ r r2 =>
 cases r2
 show wpAny _ _ (call (.ref C) [v]) _ _ _
 obtain ⟨hp,g,dr,tk,os⟩:=s1
 obtain ⟨nm,N',qn,bs,bm,hdct,sn,sub,ab,col,dd,k0,k1,k2,k3,k5,hC,hT⟩:=PySem.W.excInit_of I.kIn T.ini
 have hsz:hp.objs.size≤hp.objs.size + 1:=Nat.le_succ _
 have hn:H (hp.objs.size + 1)=none:=I.hok.fresh hsz
 have kk:∀ b o,hp.get? b=some o→((hp.push (PySem.W.kdv_tup [v])).push (PySem.HandSPX.excO C hp.objs.size)).get? b=some o:=fun b o e=>Heap.get?_push_of_some _ (Heap.get?_push_of_some _ e)
 have hget:((hp.push (PySem.W.kdv_tup [v])).push (PySem.HandSPX.excO C hp.objs.size)).get? (hp.objs.size + 1)=some (PySem.HandSPX.excO C hp.objs.size):=by heap_get
 have I2:Inv X pins σ (upd H (hp.objs.size + 1) (exo (hp.objs.size + 1) C none)) ⟨(hp.push (PySem.W.kdv_tup [v])).push (PySem.HandSPX.excO C hp.objs.size),g,dr,tk,os⟩ :=
  I.laid (t':=tk) (a:=hp.objs.size + 1) (o:=exo (hp.objs.size + 1) C none) (h':=(hp.push (PySem.W.kdv_tup [v])).push (PySem.HandSPX.excO C hp.objs.size)) kk hsz (exo_ok hget)
 have hq:spX X.K C f [.ref (hp.objs.size + 1),y] (upd H (hp.objs.size + 1) (exo (hp.objs.size + 1) C none)) (fun z H2=>z=.non∧∃ (d:Addr) (fs:List (Str×V)),H2 (hp.objs.size + 1)=some (exo (hp.objs.size + 1) C (some d))∧H2 d=some (exd d fs)∧H d=none∧Q (.ref C) (some d) (upd (del H2 (hp.objs.size + 1)) d (.xd fs))) (fun _ _ _=>False) :=
  ⟨hp.objs.size + 1,y,rfl,upd_same,fun dx h1 h2=>⟨rfl,dx,[(f,y)],upd_same,by rw [upd_ne h2,upd_same],by rw [upd_ne h2] at h1;exact h1,by
   rw [del_made hn h2]
   exact q dx (by rw [upd_ne h2] at h1;exact h1)⟩⟩
 refine wpAny_call (callK F.excBase_ArithmeticError hT hC (PySem.W.looks_findIn I.kIn N.ini) (fun self=>PySem.W.bind_fn I.kIn self N.fn) (by rw [sizeLine_eq];show 1≤_;decide)
  (codeAny_mono (G.run _ X.stack _ _ ⟨Value.ref (hp.objs.size + 1)::[v],[]⟩ [Value.ref (hp.objs.size + 1),v] [V.ref (hp.objs.size + 1),y] _ (fun _ _ _=>False) (hr.make C [v] []) (I2.env0.make C [v] []) (hb _ [Value.ref (hp.objs.size + 1),v] I2.kIn rfl) (.cons (show RelV (V.ref (hp.objs.size + 1)) (Value.ref (hp.objs.size + 1)) from rfl) (.cons r .nil)) hq) fun r s' hq'=>?_))
 cases r with
 | error er=>exact hx pins σ _ _ er s' I2 hq'
 | ok fl =>
  cases fl with
  | ret u =>
   obtain ⟨v3,H2,os2,bare2,un2,hok2,rv,ev,d,fs,ea,ed,hd1,q2⟩:=hq'
   subst ev
   obtain ⟨h2,g2,d2,t2,os'⟩:=s'
   exact ⟨rv,mk_end (raises_own T.ex T.ty) I hsz kk un2 hok2 os2 bare2 ea ed hd1 q2⟩
  | next=>exact False.elim hq'
  | brk=>exact False.elim hq'
  | cont=>exact False.elim hq'
end
end FcX
set_option maxRecDepth 100000
set_option maxHeartbeats 4000000
namespace FcX
open PySem PySem.Spec PyProof.Rows L2 FcR
def xhB (K:PySem.W.Frag) (ns:List Str):Bool:=ns.all fun c=>ns.all fun d=>decide (PySem.W.exmOne K (.ref (He.ga K c)) (.ref (He.ga K d))=some (c == d || d == "CopyError"))
theorem xh_own {K:PySem.W.Frag} {ns:List Str} (h:xhB K ns=true) {c d:Str} (hc:c∈ns) (hd:d∈ns):PySem.W.exmOne K (.ref (He.ga K c)) (.ref (He.ga K d))=some (c == d || d == "CopyError"):=by
 have z:=List.all_eq_true.mp h c hc
 simp only [List.all_eq_true,decide_eq_true_eq] at z
 exact z d hd
theorem XC.xf {K:PySem.W.Frag} {C:Addr} (T:XC K C):XfC K C:=⟨T.ga,T.gt,T.ex,T.hd⟩
abbrev Cl:=Value×Option Nat×(Addr→Value→Option Addr→TS)
def wMix (K:PySem.W.Frag) (Wout:WX) (D:Ends):List Cl→WX
 | []=>Wout
 | (c,none,ts)::r=>fun cls d σ H=>∃ b,PySem.W.exmOne K cls c=some b∧(b=true→∀ a,H a=none→ts a cls d D σ H)∧(b=false→wMix K Wout D r cls d σ H)
 | (c,some i,ts)::r=>fun cls d σ H=>∃ b,PySem.W.exmOne K cls c=some b∧(b=true→∀ a,H a=none→ts a cls d { nx:=fun σ' H'=>D.nx (σ'.set i none) H',rt:=D.rt,bk:=fun σ' H'=>D.bk (σ'.set i none) H',ct:=fun σ' H'=>D.ct (σ'.set i none) H' } (σ.set i (some (.ref a))) H)∧(b=false→wMix K Wout D r cls d σ H)
inductive HdsM (X:Cx):List ExceptHandler→List Cl→Prop
 | nil:HdsM X [] []
 | cons {x:Str} {c:Value} {ts:Addr→Value→Option Addr→TS} {b₀:Stmt} {suite:List Stmt} {np pos':Pos} {hds:List ExceptHandler} {l:List Cl} (hc:Names X x c)
   (hsu:∀ (a:Addr) (oe:Obj) (cls:Value) (d:Option Addr) (pn:List (Addr×Obj)),Zc cls d oe→(∃ vs,oe.data=.fields vs)→PSs (X.suite a ((a,oe)::pn)) (b₀::suite) (ts a cls d)) (r:HdsM X hds l) :
   HdsM X (.ExceptHandler (some (.Name x np)) none (b₀::suite) pos'::hds) ((c,none,ts)::l)
 | as {x n:Str} {i:Nat} {c:Value} {ts:Addr→Value→Option Addr→TS} {b₀:Stmt} {suite:List Stmt} {np pos':Pos} {hds:List ExceptHandler} {l:List Cl} (hi:X.N[i]?=some n) (hln:X.env.kindOf n=some .local) (hc:Names X x c)
   (hsu:∀ (a:Addr) (oe:Obj) (cls:Value) (d:Option Addr) (pn:List (Addr×Obj)),Zc cls d oe→(∃ vs,oe.data=.fields vs)→PSs (X.suite a ((a,oe)::pn)) (b₀::suite) (ts a cls d)) (r:HdsM X hds l) :
   HdsM X (.ExceptHandler (some (.Name x np)) (some n) (b₀::suite) pos'::hds) ((c,some i,ts)::l)
section
variable {X:Cx} {body:List Stmt} {h₀:ExceptHandler} {hds:List ExceptHandler} {l:List Cl} {pos:Pos} {tb:WX→TS} {Wout:WX}
theorem ps_try_mix (hs:X.stack=X.env::X.outer) (hf:X.env.frame=some X.env.locals) (hN:X.N.Nodup) (tk:Takes X Wout)
  (hb:∀ (W:WX) (pn:List (Addr×Obj)) (xe:Value→Shared→Prop),Takes (X.tr pn xe) W→PassesOwn (model X.prog X.w) X.A X.env xe→PSs (X.tr pn xe) body (tb W))
  (hh:HdsM X (h₀::hds) l):PS X (.Try body (h₀::hds) [] [] pos) (fun D σ H=>tb (wMix X.K Wout D l) D σ H):=by
 refine ⟨fun pins s σ H D I h=>?_⟩
 have ok:=I.ok
 have hfr:X.A.frames=some (X.env::X.outer):=by rw [ok.frames,hs]
 refine wpAny_Try_except ?_
 refine wpAny_mono ((hb (wMix X.K Wout D l) (X.pn++pins) (fun e s₁=>wpAny (model X.prog X.w) X.A (noteFrame e X.env) (fun _ s₂=>wpAny (model X.prog X.w) X.A (setFlight e none) (fun _ s₃ =>
  wpAny (model X.prog X.w) X.A (handleBy e X.env (h₀::hds)) (SP X pins D) X.xe s₃) X.xe s₂) X.xe s₁) (fun u s' xx=>?_) PassesOwn.looking).run [] s σ H D (I.toTry _) h) (fun f s1 hsp=>?_) (fun e s1 he=>he)
 ·obtain ⟨a,B,sI,pins',σ',H',cls,d,rfl,J',nb,up,sky,na,os,ag,w⟩:=xx
  have J:Inv X pins σ' H' sI:=J'.ofTry ok
  have sky':Sky B (X.env::X.outer) a (Zc cls d) X.env.locals s'.heap:=by rw [← hs];exact sky
  show wpAny (model X.prog X.w) X.A (noteFrame (.ref a) X.env) _ _ _
  refine Sky.land Zc.steady hfr hf sky' fun h3 fl3 up3=>?_
  have J3:Inv X pins σ' H' { s' with heap:=h3 }:=J.landed nb fl3.1 (up.trans up3) os ag
  obtain ⟨oe3,vs3,he3,hz3,hd3⟩:=fl3.there
  have notFr:∀ {h:Heap} {o:Obj} {vs:Array Value},h.FunFrames B (X.env::X.outer)→h.get? a=some o→o.data=.fields vs→a ∉ frs (X.env::X.outer):=fun {h o vs} ff e dd hm=>by
   obtain ⟨_,o',e',hnf⟩:=ff.mem hm
   rw [e] at e';cases e'
   exact hnf _ dd
  have nfr:=notFr fl3.2.2.1 he3 hd3
  have nL:a≠X.env.locals:=fun z=>nfr (List.mem_filterMap.mpr ⟨X.env,List.mem_cons_self,by rw [hf,z]⟩)
  have nF:a ∉ X.fs:=fun hm=>by
   obtain ⟨e,he,q⟩:=List.mem_filterMap.mp hm
   exact nfr (List.mem_filterMap.mpr ⟨e,List.mem_cons_of_mem _ he,q⟩)
  have S3:=J3.suite he3 hd3 na nL nF
  have LT:PySem.W.Looks (model X.prog X.w) h3 (typeOf (.ref a)) cls:=fun A Q E s k q=>wpAny_typeOf_ref (k _ _ he3) (by rw [hz3.1];exact q)
  have test:∀ {x:Str} {c:Value} {np:Pos} {Q:Value→Shared→Prop} {E:Value→Shared→Prop},Names X x c→Q c { s' with heap:=h3 }→wpAny (model X.prog X.w) (X.A.mark (some (.ref a))) (eval (.Name x np) X.env) Q E { s' with heap:=h3 }:=fun {x c np Q E} hc q=>by
   obtain ⟨hg,hdbg,hm | ⟨hm,hv,hnn⟩⟩:=hc
   ·exact ld_glob (X:=X.suite a ((a,oe3)::(X.pn++pins))) S3 hg hm q hdbg
   ·exact ld_blt (X:=X.suite a ((a,oe3)::(X.pn++pins))) S3 hg hm hv q hnn hdbg
  have go:∀ {hds':List ExceptHandler} {l':List Cl},HdsM X hds' l'→wMix X.K Wout D l' cls d σ' H' →
    wpAny (model X.prog X.w) X.A (handleBy (.ref a) X.env hds') (SP X pins D) X.xe { s' with heap:=h3 }:=by
   intro hds' l' hk
   induction hk with
   | nil =>
    intro w
    refine wpAny_handleBy_nil ?_
    obtain ⟨k1,k2,k3,oe,vs,T,oT,ts',he,hz,hd,h1,hr⟩:=id fl3
    unfold PySem.passOn
    refine wpAny_bind (wpAny_field he hd h1 ?_)
    rw [if_neg (show ¬ ((Value.ref T == Value.none)=true) from by simp)]
    have fin:wpAny (model X.prog X.w) X.A (setFlight (.ref a) X.env.frame) (fun _ s4=>wpAny (model X.prog X.w) X.A (throw (.ref a):Sem Flow) (SP X pins D) X.xe s4) X.xe { s' with heap:=h3 }:=by
     rw [hf]
     refine HandSPX.setFlight_upZ fl3 fun h4 hh4 up4=>wpAny_throw (tk _ _ ?_)
     exact ⟨a,B,sI,pins,σ',H',cls,d,rfl,J,nb,(up.trans up3).trans up4,.inr (.inr (by rw [hs];exact hh4)),na,os,ag,w⟩
    first
     | exact wpAny_bind (wpAny_pure (wpAny_bind fin))
     | exact wpAny_bind fin
   | @cons x c ts b₀ suite np pos' hds2 l2 hc hsu r ih =>
    intro w
    obtain ⟨b,hb1,hyes,hno⟩:=w
    refine wpAny_handleBy_cons (codeAny_handlers_test ?_) (by intro q;cases q)
    have LM:=PySem.W.exm_one (M:=model X.prog X.w) (J3.kIn) LT hb1
    refine test hc (LM.here ?_)
    cases b with
    | true =>
     refine codeAny_handlers_suite ?_
     refine HandSPX.lands_againZ fl3 fun h4 fl4 up4=>?_
     have J4:Inv X pins σ' H' { s' with heap:=h4 }:=J.landed nb fl4.1 ((up.trans up3).trans up4) os ag
     obtain ⟨oe4,vs4,he4,hz4,hd4⟩:=fl4.there
     have S4:=J4.suite he4 hd4 na nL nF
     refine wpAny_mono ((hsu a oe4 cls d (X.pn++pins) hz4 ⟨_,hd4⟩).run [] _ _ H' _ S4 (hyes rfl a na)) (fun f s6 hsp=>?_) (fun _ _ z=>False.elim z)
     cases f with
     | next =>
      obtain ⟨σ6,H6,S6,q6⟩:=hsp
      exact ⟨_,_,S6.unsuite ok,q6⟩
     | brk =>
      obtain ⟨σ6,H6,S6,q6⟩:=hsp
      exact ⟨_,_,S6.unsuite ok,q6⟩
     | cont =>
      obtain ⟨σ6,H6,S6,q6⟩:=hsp
      exact ⟨_,_,S6.unsuite ok,q6⟩
     | ret u =>
      obtain ⟨v6,σ6,H6,S6,r6,q6⟩:=hsp
      exact ⟨_,_,_,S6.unsuite ok,r6,q6⟩
    | false =>
     show wpAny _ X.A (handleBy (.ref a) X.env hds2) _ _ _
     exact ih (hno rfl)
   | @as x n i c ts b₀ suite np pos' hds2 l2 hi hln hc hsu r ih =>
    intro w
    obtain ⟨b,hb1,hyes,hno⟩:=w
    have hloc:Loc X.env.scope n:=.inl hln
    refine wpAny_handleBy_cons (codeAny_handlers_test ?_) (by intro q;cases q)
    have LM:=PySem.W.exm_one (M:=model X.prog X.w) (J3.kIn) LT hb1
    refine test hc (LM.here ?_)
    cases b with
    | true =>
     refine codeAny_handlers_suite_as ?_
     refine HandSPX.lands_againZ fl3 fun h4 fl4 up4=>?_
     have J4:Inv X pins σ' H' { s' with heap:=h4 }:=J.landed nb fl4.1 ((up.trans up3).trans up4) os ag
     obtain ⟨oe4,vs4,he4,hz4,hd4⟩:=fl4.there
     have S4:=J4.suite he4 hd4 na nL nF
     refine store_ok (X:=X.suite a ((a,oe4)::(X.pn++pins))) (v:=.ref a) S4 hN hi hloc rfl (fun s5 S5=>?_) (.inr hln)
     refine wpAny_mono ((hsu a oe4 cls d (X.pn++pins) hz4 ⟨_,hd4⟩).run [] s5 _ H' _ S5 (hyes rfl a na)) (fun f s6 hsp=>?_) (fun _ _ z=>False.elim z)
     have end_:∀ {σ6:L2.St} {H6:Hp} {Q:Shared→Prop},Inv (X.suite a ((a,oe4)::(X.pn++pins))) [] σ6 H6 s6→(∀ s7,Inv X pins (σ6.set i none) H6 s7→Q s7) →
       wpAny (model X.prog X.w) X.A (do bindName X.env n .none;unbindBehindTheSuite X.env n pos') (fun _ s7=>Q s7) X.xe s6:=fun {σ6 H6 Q} S6 hq=>gone_ok (S6.unsuite ok) hN hi hln hq
     cases f with
     | next =>
      obtain ⟨σ6,H6,S6,q6⟩:=hsp
      exact end_ S6 fun s7 J7=>⟨_,_,J7,q6⟩
     | brk =>
      obtain ⟨σ6,H6,S6,q6⟩:=hsp
      exact end_ S6 fun s7 J7=>⟨_,_,J7,q6⟩
     | cont =>
      obtain ⟨σ6,H6,S6,q6⟩:=hsp
      exact end_ S6 fun s7 J7=>⟨_,_,J7,q6⟩
     | ret u =>
      obtain ⟨v6,σ6,H6,S6,r6,q6⟩:=hsp
      exact end_ S6 fun s7 J7=>⟨_,_,_,J7,r6,q6⟩
    | false =>
     show wpAny _ X.A (handleBy (.ref a) X.env hds2) _ _ _
     exact ih (hno rfl)
  exact go hh w
 ·cases f with
  | next =>
   obtain ⟨σ',H',J',q⟩:=hsp
   exact wpAny_execs_nil ⟨σ',H',J'.ofTry ok,q⟩
  | brk =>
   obtain ⟨σ',H',J',q⟩:=hsp
   exact ⟨σ',H',J'.ofTry ok,q⟩
  | cont =>
   obtain ⟨σ',H',J',q⟩:=hsp
   exact ⟨σ',H',J'.ofTry ok,q⟩
  | ret u =>
   obtain ⟨v,σ',H',J',r,q⟩:=hsp
   exact ⟨v,σ',H',J'.ofTry ok,r,q⟩
end
structure HeldX (P:Program) (w:World) (K:PySem.W.Frag) (mg:Str→Option Value) (base:Heap) (k:Nat) (f:Addr) (sp:Sp):Prop where
 ex:∃ (fd:FuncData) (ps:List Str),FnOk P w K mg base (L2.CX P w) k f fd ps sp∧PySem.W.keepIn K (.ref f)=true∧Binds K fd ps []
section
variable {X:Cx} {k i:Nat} {x:Str} {p pos:Pos} {e:Expr} {es:List Expr} {t:TA} {W:WX}
end
end FcX
set_option maxRecDepth 100000
set_option maxHeartbeats 4000000
namespace FcX
open PySem PySem.Spec PyProof.Rows L2 FcR
section
variable {X:Cx} {k:Nat} {f C:Addr} {S:Sp→Prop} {W:WX} {x m:Str} {p pos apos:Pos} {e o:Expr} {es:List Expr} {ta:TE} {t:TA}
def tMakeS (C:Addr) (S:Sp→Prop) (W:WX) (t:TA):TE:=fun σ H Q=>t σ H fun vs H1=>∃ sp,S sp∧∀ x dx,H1 x=none→H1 dx=none→dx≠x →
 sp (.ref x::vs) (upd (upd H1 dx (.own x)) x (.ins C dx [])) (fun v H2=>v=.non∧Q (.ref x) H2) (WE W σ)
theorem run_makeS {pins:List (Addr×Obj)} {σ:L2.St} {H:Hp} {s:Shared} {Q:VK} {us:List Value} {vs:List V} {sp:Sp} (M:Mk X.K C f) (h0:HeldX X.prog X.w X.K X.mg X.base k f sp) (hr:Room (k + 1) X.A)
  (tk:Takes X W) (I:Inv X pins σ H s) (r:Vals vs us)
  (h:∀ x dx,H x=none→H dx=none→dx≠x→sp (.ref x::vs) (upd (upd H dx (.own x)) x (.ins C dx [])) (fun v H2=>v=.non∧Q (.ref x) H2) (WE W σ)) :
  wpAny (model X.prog X.w) X.A (call (.ref C) us) (EP X pins σ Q) X.xe s:=by
 obtain ⟨fd,ps,F,_,hb⟩:=h0.ex
 have hq:=h (s.heap.objs.size + 1) s.heap.objs.size (I.hok.fresh (Nat.le_succ _)) (I.hok.fresh (Nat.le_refl _)) (Nat.ne_of_lt (Nat.lt_succ_self _))
 have I2:=Inv.made (C:=C) I
 have r2:Vals (V.ref (s.heap.objs.size + 1)::vs) (Value.ref (s.heap.objs.size + 1)::us):=.cons rfl r
 have hl:(Value.ref (s.heap.objs.size + 1)::us).length=ps.length:=by
  have e:=r2.length
  rw [F.len _ _ _ _ hq] at e
  exact e.symm
 have hb':=hb { s with heap:=(s.heap.push _).push _ } (Value.ref (s.heap.objs.size + 1)::us) I2.kIn (by rw [List.append_nil];exact hl)
 rw [List.append_nil] at hb'
 refine wpAny_call (make_map (f:=f) I.kIn M.makes M.init (beq_iff_eq.mp M.fn) (codeAny_mono (F.run _ X.stack _ _ ⟨Value.ref (s.heap.objs.size + 1)::us,[]⟩ (Value.ref (s.heap.objs.size + 1)::us) _ _ (WE W σ) (hr.make C us [])
  (I2.env0.make C us []) hb' r2 hq) fun r s' hq'=>?_))
 cases r with
 | error e=>exact passAt tk σ pins _ _ e s' I2 hq'
 | ok fl =>
  cases fl with
  | ret u =>
   obtain ⟨v,H',I3,rv,ev,q3⟩:=I2.after hq'
   subst ev
   exact ⟨rv,⟨V.ref (s.heap.objs.size + 1),H',I3,rfl,q3⟩⟩
  | next=>exact False.elim hq'
  | brk=>exact False.elim hq'
  | cont=>exact False.elim hq'
theorem pe_makeS (A:∀ sp,S sp→HeldX X.prog X.w X.K X.mg X.base k f sp) (M:Mk X.K C f) (hr:Room (k + 1) X.A) (hg:Gl X x) (hm:X.mg x=some (.ref C)) (tk:Takes X W)
  (ha:PA X (e::es) t) (hdb:(x == ("__debug__":Str))=false:=by decide) (he:starEach (e::es) X.env=(false,eval e X.env)::starEach es X.env:=by rfl) (hpl:(backTo pos (starEach es X.env)).any (·.1)=false:=by rfl) :
  PE X (.Call (.Name x p) (e::es) [] pos) (tMakeS C S W t):=by
 refine ⟨fun pins s σ H Q I h=>?_⟩
 refine wpAny_Call_Name_kw (ld_glob I hg hm ?_ hdb)
 refine PySem.W.callWith_K (h₀:=X.base) I.ok.mod.kin M.kp (thn (ha.run pos pins s σ H _ I h) fun us s1 ⟨vs,H1,I1,r,q⟩=>⟨I1.kIn,?_⟩) he hpl
 obtain ⟨sp,hS,q⟩:=q
 exact run_makeS M (A sp hS) hr tk I1 r q
end
end FcX
set_option maxRecDepth 100000
set_option maxHeartbeats 4000000
namespace FcL
open PySem PySem.Spec PyProof.Rows L2 FcR FcX LamX NdefX
structure FnG (P:Program) (w:World) (K:PySem.W.Frag) (mg:Str→Option Value) (base:Heap) (k:Nat) (f:Addr) (fd:FuncData) (ps:List Str) (sp:Sp):Prop where
 len:∀ vs H Q E,sp vs H Q E→vs.length=ps.length
 run:∀ (A:Around) (outer:List Env) (s:Shared) (H:Hp) (args:Args) (us:List Value) (vs:List V) (Q:VK) (E:XK),A.guards=some []→Room k A→Env0 P w K mg base A outer s H→BindsTo s fd args (ps.zip us)→Vals vs us→sp vs H Q E →
  codeAny (model P w) A (.call (.ref f) args) (CR (L2.CX P w) outer P w H s Q E) s
theorem FnG.of {P:Program} {w:World} {K:PySem.W.Frag} {mg:Str→Option Value} {base:Heap} {k:Nat} {f:Addr} {fd:FuncData} {ps:List Str} {sp:Sp} (F:FnOk P w K mg base (L2.CX P w) k f fd ps sp):FnG P w K mg base k f fd ps sp :=
 ⟨F.len,fun A outer s H args us vs Q E _ hr e0 b r h=>F.run A outer s H args us vs Q E hr e0 b r h⟩
theorem FnG.mono {P:Program} {w:World} {K:PySem.W.Frag} {mg:Str→Option Value} {base:Heap} {j k:Nat} {f:Addr} {fd:FuncData} {ps:List Str} {sp:Sp} (F:FnG P w K mg base j f fd ps sp) (h:j≤k):FnG P w K mg base k f fd ps sp :=
 ⟨F.len,fun A outer s H args us vs Q E hg hr=>F.run A outer s H args us vs Q E hg (hr.mono h)⟩
section
variable {P:Program} {w:World} {K:PySem.W.Frag} {mg:Str→Option Value} {base:Heap} {x qual:Str} {params:Arguments} {body:List Stmt} {scope:Scope} {dvs:List V} {kws:List (Str×V)} {fd:FuncData} {at_:Str×Option Str}
end
section
variable {X:Cx} {k:Nat} {f:Addr} {fd:FuncData} {ps:List Str} {sp:Sp} {x:Str} {p pos:Pos} {e:Expr} {es:List Expr} {t:TA}
end
end FcL
set_option maxRecDepth 100000
set_option maxHeartbeats 0
namespace Fc
open PySem PySem.Spec PyProof.Rows L2
def topS (i:Nat):Stmt:=PySem.Challenge.pw_finallycopies_k03_invalid_statements.main.body.getD i (.Pass ⟨0,0,0,0⟩)
abbrev sd_wall:Stmt:=topS 0
def d_wall:He.DefD:=⟨("_wall",none),"_wall","_wall",defArgs sd_wall,defBody sd_wall,defScope sd_wall,[],[]⟩
abbrev sd_InvalidCode___init__:Stmt:=inClass (topS 3) 0
def d_InvalidCode___init__:He.DefD:=⟨("InvalidCode",some "__init__"),"__init__","InvalidCode.__init__",defArgs sd_InvalidCode___init__,defBody sd_InvalidCode___init__,defScope sd_InvalidCode___init__,[],[]⟩
abbrev sd_InvalidNumber___init__:Stmt:=inClass (topS 4) 0
def d_InvalidNumber___init__:He.DefD:=⟨("InvalidNumber",some "__init__"),"__init__","InvalidNumber.__init__",defArgs sd_InvalidNumber___init__,defBody sd_InvalidNumber___init__,defScope sd_InvalidNumber___init__,[],[]⟩
abbrev sd_LimitExceeded___init__:Stmt:=inClass (topS 5) 0
def d_LimitExceeded___init__:He.DefD:=⟨("LimitExceeded",some "__init__"),"__init__","LimitExceeded.__init__",defArgs sd_LimitExceeded___init__,defBody sd_LimitExceeded___init__,defScope sd_LimitExceeded___init__,[],[]⟩
abbrev sd_is_integer:Stmt:=topS 7
def d_is_integer:He.DefD:=⟨("is_integer",none),"is_integer","is_integer",defArgs sd_is_integer,defBody sd_is_integer,defScope sd_is_integer,[],[]⟩
abbrev sd_is_between:Stmt:=topS 8
def d_is_between:He.DefD:=⟨("is_between",none),"is_between","is_between",defArgs sd_is_between,defBody sd_is_between,defScope sd_is_between,[],[]⟩
abbrev sd_is_name:Stmt:=topS 18
def d_is_name:He.DefD:=⟨("is_name",none),"is_name","is_name",defArgs sd_is_name,defBody sd_is_name,defScope sd_is_name,[],[]⟩
abbrev sd_is_statement:Stmt:=topS 19
def d_is_statement:He.DefD:=⟨("is_statement",none),"is_statement","is_statement",defArgs sd_is_statement,defBody sd_is_statement,defScope sd_is_statement,[],[]⟩
abbrev sd_parts_in:Stmt:=topS 20
def d_parts_in:He.DefD:=⟨("parts_in",none),"parts_in","parts_in",defArgs sd_parts_in,defBody sd_parts_in,defScope sd_parts_in,[],[]⟩
abbrev sd_Code___init__:Stmt:=inClass (topS 21) 0
def d_Code___init__:He.DefD:=⟨("Code",some "__init__"),"__init__","Code.__init__",defArgs sd_Code___init__,defBody sd_Code___init__,defScope sd_Code___init__,[],[]⟩
abbrev sd_Code_check:Stmt:=inClass (topS 21) 1
def d_Code_check:He.DefD:=⟨("Code",some "check"),"check","Code.check",defArgs sd_Code_check,defBody sd_Code_check,defScope sd_Code_check,[],[]⟩
abbrev sd_Code_keep:Stmt:=inClass (topS 21) 2
def d_Code_keep:He.DefD:=⟨("Code",some "keep"),"keep","Code.keep",defArgs sd_Code_keep,defBody sd_Code_keep,defScope sd_Code_keep,[],[]⟩
abbrev sd_Code___eq__:Stmt:=inClass (topS 21) 3
def d_Code___eq__:He.DefD:=⟨("Code",some "__eq__"),"__eq__","Code.__eq__",defArgs sd_Code___eq__,defBody sd_Code___eq__,defScope sd_Code___eq__,[],[]⟩
abbrev sd_Code___len__:Stmt:=inClass (topS 21) 4
def d_Code___len__:He.DefD:=⟨("Code",some "__len__"),"__len__","Code.__len__",defArgs sd_Code___len__,defBody sd_Code___len__,defScope sd_Code___len__,[],[]⟩
abbrev sd_Code___getitem__:Stmt:=inClass (topS 21) 5
def d_Code___getitem__:He.DefD:=⟨("Code",some "__getitem__"),"__getitem__","Code.__getitem__",defArgs sd_Code___getitem__,defBody sd_Code___getitem__,defScope sd_Code___getitem__,[],[]⟩
abbrev sd_Code___iter__:Stmt:=inClass (topS 21) 6
def d_Code___iter__:He.DefD:=⟨("Code",some "__iter__"),"__iter__","Code.__iter__",defArgs sd_Code___iter__,defBody sd_Code___iter__,defScope sd_Code___iter__,[],[]⟩
abbrev sd_Code_check_number:Stmt:=inClass (topS 21) 7
def d_Code_check_number:He.DefD:=⟨("Code",some "check_number"),"check_number","Code.check_number",defArgs sd_Code_check_number,defBody sd_Code_check_number,defScope sd_Code_check_number,[],[]⟩
abbrev sd_Code_is_place:Stmt:=inClass (topS 21) 8
def d_Code_is_place:He.DefD:=⟨("Code",some "is_place"),"is_place","Code.is_place",defArgs sd_Code_is_place,defBody sd_Code_is_place,defScope sd_Code_is_place,[],[]⟩
abbrev sd_Code_check_place:Stmt:=inClass (topS 21) 9
def d_Code_check_place:He.DefD:=⟨("Code",some "check_place"),"check_place","Code.check_place",defArgs sd_Code_check_place,defBody sd_Code_check_place,defScope sd_Code_check_place,[],[]⟩
abbrev sd_Code_kind:Stmt:=inClass (topS 21) 10
def d_Code_kind:He.DefD:=⟨("Code",some "kind"),"kind","Code.kind",defArgs sd_Code_kind,defBody sd_Code_kind,defScope sd_Code_kind,[],[]⟩
abbrev sd_Code_parent:Stmt:=inClass (topS 21) 11
def d_Code_parent:He.DefD:=⟨("Code",some "parent"),"parent","Code.parent",defArgs sd_Code_parent,defBody sd_Code_parent,defScope sd_Code_parent,[],[]⟩
abbrev sd_Code_parts:Stmt:=inClass (topS 21) 12
def d_Code_parts:He.DefD:=⟨("Code",some "parts"),"parts","Code.parts",defArgs sd_Code_parts,defBody sd_Code_parts,defScope sd_Code_parts,[],[]⟩
abbrev sd_Code_places:Stmt:=inClass (topS 21) 13
def d_Code_places:He.DefD:=⟨("Code",some "places"),"places","Code.places",defArgs sd_Code_places,defBody sd_Code_places,defScope sd_Code_places,[],[]⟩
abbrev sd_Code_entry:Stmt:=inClass (topS 21) 14
def d_Code_entry:He.DefD:=⟨("Code",some "entry"),"entry","Code.entry",defArgs sd_Code_entry,defBody sd_Code_entry,defScope sd_Code_entry,[],[]⟩
abbrev sd_Code_entry_of:Stmt:=inClass (topS 21) 15
def d_Code_entry_of:He.DefD:=⟨("Code",some "entry_of"),"entry_of","Code.entry_of",defArgs sd_Code_entry_of,defBody sd_Code_entry_of,defScope sd_Code_entry_of,[],[]⟩
abbrev sd_Code_layers:Stmt:=inClass (topS 21) 16
def d_Code_layers:He.DefD:=⟨("Code",some "layers"),"layers","Code.layers",defArgs sd_Code_layers,defBody sd_Code_layers,defScope sd_Code_layers,[],[]⟩
abbrev sd_Code_layers_of:Stmt:=inClass (topS 21) 17
def d_Code_layers_of:He.DefD:=⟨("Code",some "layers_of"),"layers_of","Code.layers_of",defArgs sd_Code_layers_of,defBody sd_Code_layers_of,defScope sd_Code_layers_of,[],[]⟩
abbrev sd_law_cell_at:Stmt:=topS 23
def d_law_cell_at:He.DefD:=⟨("_law_cell_at",none),"_law_cell_at","_law_cell_at",defArgs sd_law_cell_at,defBody sd_law_cell_at,defScope sd_law_cell_at,[],[]⟩
abbrev sd_law_source_of:Stmt:=topS 24
def d_law_source_of:He.DefD:=⟨("_law_source_of",none),"_law_source_of","_law_source_of",defArgs sd_law_source_of,defBody sd_law_source_of,defScope sd_law_source_of,[],[]⟩
abbrev sd_law_draw:Stmt:=topS 25
def d_law_draw:He.DefD:=⟨("_law_draw",none),"_law_draw","_law_draw",defArgs sd_law_draw,defBody sd_law_draw,defScope sd_law_draw,[],[]⟩
abbrev sd_law_one:Stmt:=topS 26
def d_law_one:He.DefD:=⟨("_law_one",none),"_law_one","_law_one",defArgs sd_law_one,defBody sd_law_one,defScope sd_law_one,[],[]⟩
abbrev sd_law_leaf:Stmt:=topS 27
def d_law_leaf:He.DefD:=⟨("_law_leaf",none),"_law_leaf","_law_leaf",defArgs sd_law_leaf,defBody sd_law_leaf,defScope sd_law_leaf,[],[]⟩
abbrev sd_law_statement:Stmt:=topS 28
def d_law_statement:He.DefD:=⟨("_law_statement",none),"_law_statement","_law_statement",defArgs sd_law_statement,defBody sd_law_statement,defScope sd_law_statement,[],[]⟩
abbrev sd_law_parts:Stmt:=topS 29
def d_law_parts:He.DefD:=⟨("_law_parts",none),"_law_parts","_law_parts",defArgs sd_law_parts,defBody sd_law_parts,defScope sd_law_parts,[],[]⟩
abbrev sd_law_flat:Stmt:=topS 30
def d_law_flat:He.DefD:=⟨("_law_flat",none),"_law_flat","_law_flat",defArgs sd_law_flat,defBody sd_law_flat,defScope sd_law_flat,[],[]⟩
abbrev sd_law_built:Stmt:=topS 31
def d_law_built:He.DefD:=⟨("_law_built",none),"_law_built","_law_built",defArgs sd_law_built,defBody sd_law_built,defScope sd_law_built,[],[]⟩
abbrev sd_law_loops:Stmt:=topS 32
def d_law_loops:He.DefD:=⟨("_law_loops",none),"_law_loops","_law_loops",defArgs sd_law_loops,defBody sd_law_loops,defScope sd_law_loops,[],[]⟩
abbrev sd_law_odd_named:Stmt:=topS 33
def d_law_odd_named:He.DefD:=⟨("_law_odd_named",none),"_law_odd_named","_law_odd_named",defArgs sd_law_odd_named,defBody sd_law_odd_named,defScope sd_law_odd_named,[],[]⟩
abbrev sd_law_odd:Stmt:=topS 34
def d_law_odd:He.DefD:=⟨("_law_odd",none),"_law_odd","_law_odd",defArgs sd_law_odd,defBody sd_law_odd,defScope sd_law_odd,[],[]⟩
abbrev sd_law_said:Stmt:=topS 35
def d_law_said:He.DefD:=⟨("_law_said",none),"_law_said","_law_said",defArgs sd_law_said,defBody sd_law_said,defScope sd_law_said,[],[]⟩
abbrev sd_law:Stmt:=topS 36
def d_law:He.DefD:=⟨("law",none),"law","law",defArgs sd_law,defBody sd_law,defScope sd_law,[],[]⟩
def fnL0:List He.DefD:=[d_wall,d_InvalidCode___init__,d_InvalidNumber___init__,d_LimitExceeded___init__,d_is_integer,d_is_between,d_is_name,d_is_statement,d_parts_in,d_Code___init__,d_Code_check,d_Code_keep,d_Code___eq__,d_Code___len__,d_Code___getitem__,d_Code___iter__,d_Code_check_number,d_Code_is_place,d_Code_check_place,d_Code_kind,d_Code_parent,d_Code_parts,d_Code_places,d_Code_entry,d_Code_entry_of,d_Code_layers,d_Code_layers_of,d_law_cell_at,d_law_source_of,d_law_draw]
def fnL1:List He.DefD:=[d_law_one,d_law_leaf,d_law_statement,d_law_parts,d_law_flat,d_law_built,d_law_loops,d_law_odd_named,d_law_odd,d_law_said,d_law]
def fnL:List He.DefD:=fnL0++fnL1
def faL0:List He.Fa:=[.glo "_wall",.glo "CopyError",.glo "InvalidCode",.glo "InvalidNumber",.glo "LimitExceeded",.glo "is_integer",.glo "is_between",.glo "SIZES",.glo "NAMED",.glo "JUMPS",.glo "is_name",.glo "is_statement",.glo "parts_in",.glo "Code",.glo "_law_cell_at",.glo "_law_source_of",.glo "_law_draw",.glo "_law_one",.glo "_law_leaf",.glo "_law_statement",.glo "_law_parts",.glo "_law_flat",.glo "_law_built",.glo "_law_loops",.glo "_law_odd_named",.glo "_law_odd",.glo "_law_said",.glo "law",.free "ArithmeticError",.free "TypeError"]
def faL1:List He.Fa:=[.free "all",.free "bool",.free "enumerate",.free "int",.free "isinstance",.free "len",.free "list",.free "range",.free "reversed",.free "str",.free "tuple",.int "MOST_STATEMENTS" 400,.int "MOST_DEEP" 100,.int "MOST_BLOCKS" 25,.int "MOST_LETTERS" 8,.str "LETTERS" "abcdefghijklmnopqrstuvwxyz",.cls "Code",.mkr "Code",.noat "Code" "children",.noat "Code" "kinds",.noat "Code" "labels",.noat "Code" "parents",.noat "Code" "statements",.meth "Code" "check",.meth "Code" "keep",.meth "Code" "__eq__",.meth "Code" "__len__",.meth "Code" "__getitem__",.meth "Code" "__iter__",.meth "Code" "check_number"]
def faL2:List He.Fa:=[.meth "Code" "is_place",.meth "Code" "check_place",.meth "Code" "kind",.meth "Code" "parent",.meth "Code" "parts",.meth "Code" "places",.meth "Code" "entry",.meth "Code" "entry_of",.meth "Code" "layers",.meth "Code" "layers_of"]
def faL:List He.Fa:=faL0++faL1++faL2
def tabL:List He.Tab:=[(fun K=>He.ga K "SIZES",["do","call","if","while","seq","break","continue","return","raise","try","final"])]
def tfL:List He.Defn:=[]
def xN:List PySem.Str:=["CopyError","InvalidCode","InvalidNumber","LimitExceeded"]
def exB (K:PySem.W.Frag):Bool:=(He.tupB K "NAMED" [.str "do",.str "call",.str "if",.str "while"]) && (He.tupB K "JUMPS" [.str "break",.str "continue"]) && (He.valsB K (He.ga K "SIZES") [("do",.int 2),("call",.int 2),("if",.int 4),("while",.int 3),("seq",.int 2),("break",.int 2),("continue",.int 2),("return",.int 1),("raise",.int 1),("try",.int 3),("final",.int 3)]) && (FcX.xcB K (He.ga K "CopyError") && PySem.W.excIn K (He.ga K "CopyError") FcX.aeT "ArithmeticError.__new__") && (FcX.xcB K (He.ga K "InvalidCode") && FcX.xiB K (He.ga K "InvalidCode") (He.fAd K ("InvalidCode",some "__init__")) "number") && (FcX.xcB K (He.ga K "InvalidNumber") && FcX.xiB K (He.ga K "InvalidNumber") (He.fAd K ("InvalidNumber",some "__init__")) "number") && (FcX.xcB K (He.ga K "LimitExceeded") && FcX.xiB K (He.ga K "LimitExceeded") (He.fAd K ("LimitExceeded",some "__init__")) "limit") && (FcX.xkB K xN) && (FcO.eqB K (He.ga K "Code")) && (FcX.xhB K xN)
def looseL0:List PySem.Str:=["_wall","CopyError","InvalidCode","InvalidNumber","LimitExceeded","is_integer","is_between","SIZES","NAMED","JUMPS","is_name","is_statement","parts_in","Code","_law_cell_at","_law_source_of","_law_draw","_law_one","_law_leaf","_law_statement","_law_parts","_law_flat","_law_built","_law_loops","_law_odd_named","_law_odd","_law_said","MOST_STATEMENTS","MOST_DEEP","MOST_BLOCKS"]
def looseL1:List PySem.Str:=["MOST_LETTERS","LETTERS"]
def looseL:List PySem.Str:=looseL0++looseL1
abbrev R:PySem.W.OpenRow:=PySem.W.OpenLaw.row PySem.Challenge.rw_finallycopies_k03_invalid_statements
abbrev hk:PySem.W.Hook:=He.hookX 4 faL fnL tabL tfL exB
def ob (s:PySem.W.SharedT):He.AlX:=He.obsX 4 faL fnL tabL tfL exB (HandSHeadRun.getT s)
theorem ob_eq (s:PySem.W.SharedT):ob s=hk.obs s.abs:=He.obsX_eq (HandSHeadRun.getT_eq s)
theorem map3 {α β γ δ:Type} {o:Option α} {f:α→β} {g:α→γ} {h:α→δ} {a:β} {b:γ} {c:δ} (h1:o.map f=some a) (h2:o.map g=some b) (h3:o.map h=some c):o.map (fun s=>(f s,g s,h s))=some (a,b,c):=by
 cases o with
 | none=>cases h1
 | some x=>cases h1;cases h2;cases h3;rfl
theorem mapP {α β γ:Type} {o:Option α} {h:α→β×γ} {c:β×γ} (h1:o.map (fun s=>(h s).1)=some c.1) (h2:o.map (fun s=>(h s).2)=some c.2):o.map h=some c:=by
 cases o with
 | none=>cases h1
 | some x =>
  have e1:(h x).1=c.1:=Option.some.inj h1
  have e2:(h x).2=c.2:=Option.some.inj h2
  show some (h x)=some c
  rw [← Prod.eta (h x),← Prod.eta c,e1,e2]
theorem mapB {α:Type} {o:Option α} {f g:α→Bool} (h1:o.map f=some true) (h2:o.map g=some true):o.map (fun s=>f s && g s)=some true:=by
 cases o with
 | none=>cases h1
 | some x =>
  have e1:f x=true:=Option.some.inj h1
  have e2:g x=true:=Option.some.inj h2
  show some (f x && g x)=some true
  rw [e1,e2]<;>rfl
theorem mapA {α β:Type} {o:Option α} {l:List β} {p:α→β→Bool} (n:Nat) (h1:o.map (fun s=>(l.take n).all (p s))=some true) (h2:o.map (fun s=>(l.drop n).all (p s))=some true):o.map (fun s=>l.all (p s))=some true:=by
 cases o with
 | none=>cases h1
 | some x =>
  have e1:(l.take n).all (p x)=true:=Option.some.inj h1
  have e2:(l.drop n).all (p x)=true:=Option.some.inj h2
  show some (l.all (p x))=some true
  rw [← List.take_append_drop n l,List.all_append,e1,e2]<;>rfl
theorem mapF {α β γ:Type} {o:Option α} {f:α→β} {g:α→γ} {a:β} {b:γ} (h:o.map (fun s=>(f s,g s))=some (a,b)):o.map f=some a:=by
 cases o with
 | none=>cases h
 | some x=>cases h;rfl
theorem mapS {α β γ:Type} {o:Option α} {f:α→β} {g:α→γ} {a:β} {b:γ} (h:o.map (fun s=>(f s,g s))=some (a,b)):o.map g=some b:=by
 cases o with
 | none=>cases h
 | some x=>cases h;rfl
theorem runF_a (w:World) (os:PySem.OsState):(HandSHeadRun.endF (HandSHeadRun.stepQ (HandSHeadRun.denQ HandSHeadRun.tabQ) R.prog (w.withFollow "special-get-raises" false)) 20000 R.prog (w.withFollow "special-get-raises" false) os).map (fun s=>HandSHeadRun.looksF R.prog (PySem.W.boot_heap (w.withFollow "special-get-raises" false).params) s.abs)=some true:=by kernel_rfl
theorem runF_b (w:World) (os:PySem.OsState):(HandSHeadRun.endF (HandSHeadRun.stepQ (HandSHeadRun.denQ HandSHeadRun.tabQ) R.prog (w.withFollow "special-get-raises" false)) 20000 R.prog (w.withFollow "special-get-raises" false) os).map (fun s=>HandSHeadRun.seenQ (PySem.W.view R.prog [36]) looseL (PySem.importedModules R.prog.main.body) (fun s=>PySem.W.xlAt (PySem.W.view R.prog [36]) [] s && PySem.W.recOk R.toRowW.records s) s.abs)=some (PySem.W.openGood (PySem.W.view R.prog [36]) looseL):=by kernel_rfl
theorem runF_c1 (w:World) (os:PySem.OsState):(HandSHeadRun.endF (HandSHeadRun.stepQ (HandSHeadRun.denQ HandSHeadRun.tabQ) R.prog (w.withFollow "special-get-raises" false)) 20000 R.prog (w.withFollow "special-get-raises" false) os).map (fun s=>faL.all fun f=>f.ok (He.frT (HandSHeadRun.getT s) (He.asD (HandSHeadRun.getT s) 4)))=some true:=by kernel_rfl
theorem runF_c2a (w:World) (os:PySem.OsState):(HandSHeadRun.endF (HandSHeadRun.stepQ (HandSHeadRun.denQ HandSHeadRun.tabQ) R.prog (w.withFollow "special-get-raises" false)) 20000 R.prog (w.withFollow "special-get-raises" false) os).map (fun s=>(fnL.take (fnL.length / 2)).all fun d=>d.ok (He.frT (HandSHeadRun.getT s) (He.asD (HandSHeadRun.getT s) 4)))=some true:=by kernel_rfl
theorem runF_c2b (w:World) (os:PySem.OsState):(HandSHeadRun.endF (HandSHeadRun.stepQ (HandSHeadRun.denQ HandSHeadRun.tabQ) R.prog (w.withFollow "special-get-raises" false)) 20000 R.prog (w.withFollow "special-get-raises" false) os).map (fun s=>(fnL.drop (fnL.length / 2)).all fun d=>d.ok (He.frT (HandSHeadRun.getT s) (He.asD (HandSHeadRun.getT s) 4)))=some true:=by kernel_rfl
theorem runF_c2 (w:World) (os:PySem.OsState):(HandSHeadRun.endF (HandSHeadRun.stepQ (HandSHeadRun.denQ HandSHeadRun.tabQ) R.prog (w.withFollow "special-get-raises" false)) 20000 R.prog (w.withFollow "special-get-raises" false) os).map (fun s=>fnL.all fun d=>d.ok (He.frT (HandSHeadRun.getT s) (He.asD (HandSHeadRun.getT s) 4)))=some true:=mapA (p:=fun s (d:He.DefD)=>d.ok (He.frT (HandSHeadRun.getT s) (He.asD (HandSHeadRun.getT s) 4))) (fnL.length / 2) (runF_c2a w os) (runF_c2b w os)
theorem runF_c34 (w:World) (os:PySem.OsState):(HandSHeadRun.endF (HandSHeadRun.stepQ (HandSHeadRun.denQ HandSHeadRun.tabQ) R.prog (w.withFollow "special-get-raises" false)) 20000 R.prog (w.withFollow "special-get-raises" false) os).map (fun s=>(fnL.map fun d=>He.fnW (He.frT (HandSHeadRun.getT s) (He.asD (HandSHeadRun.getT s) 4)) d.at_,tabL.map fun t=>He.dicW (He.frT (HandSHeadRun.getT s) (He.asD (HandSHeadRun.getT s) 4)) (t.1 (He.frT (HandSHeadRun.getT s) (He.asD (HandSHeadRun.getT s) 4)))))=some (fnL.map He.DefD.val,tabL.map fun t=>some (He.keysIn (w.withFollow "special-get-raises" false).params t.2)):=by kernel_rfl
theorem runF_c3 (w:World) (os:PySem.OsState):(HandSHeadRun.endF (HandSHeadRun.stepQ (HandSHeadRun.denQ HandSHeadRun.tabQ) R.prog (w.withFollow "special-get-raises" false)) 20000 R.prog (w.withFollow "special-get-raises" false) os).map (fun s=>fnL.map fun d=>He.fnW (He.frT (HandSHeadRun.getT s) (He.asD (HandSHeadRun.getT s) 4)) d.at_)=some (fnL.map He.DefD.val):=mapF (runF_c34 w os)
theorem runF_c4 (w:World) (os:PySem.OsState):(HandSHeadRun.endF (HandSHeadRun.stepQ (HandSHeadRun.denQ HandSHeadRun.tabQ) R.prog (w.withFollow "special-get-raises" false)) 20000 R.prog (w.withFollow "special-get-raises" false) os).map (fun s=>tabL.map fun t=>He.dicW (He.frT (HandSHeadRun.getT s) (He.asD (HandSHeadRun.getT s) 4)) (t.1 (He.frT (HandSHeadRun.getT s) (He.asD (HandSHeadRun.getT s) 4))))=some (tabL.map fun t=>some (He.keysIn (w.withFollow "special-get-raises" false).params t.2)):=mapS (runF_c34 w os)
theorem runF_c (w:World) (os:PySem.OsState):(HandSHeadRun.endF (HandSHeadRun.stepQ (HandSHeadRun.denQ HandSHeadRun.tabQ) R.prog (w.withFollow "special-get-raises" false)) 20000 R.prog (w.withFollow "special-get-raises" false) os).map (fun s=>(ob s).1)=some (hk.val (w.withFollow "special-get-raises" false)).1:=mapP (h:=fun s=>(ob s).1) (c:=(hk.val (w.withFollow "special-get-raises" false)).1) (mapP (h:=fun s=>(ob s).1.1) (c:=(hk.val (w.withFollow "special-get-raises" false)).1.1) (mapB (runF_c1 w os) (runF_c2 w os)) (runF_c3 w os)) (runF_c4 w os)
theorem runF_d (w:World) (os:PySem.OsState):(HandSHeadRun.endF (HandSHeadRun.stepQ (HandSHeadRun.denQ HandSHeadRun.tabQ) R.prog (w.withFollow "special-get-raises" false)) 20000 R.prog (w.withFollow "special-get-raises" false) os).map (fun s=>(ob s).2)=some (hk.val (w.withFollow "special-get-raises" false)).2:=by kernel_rfl
theorem runF (w:World):HandSHeadRun.RunEq R (PySem.W.view R.prog [36]) hk ob 20000 looseL (w.withFollow "special-get-raises" false):=fun os=>map3 (runF_a w os) (runF_b w os) (mapP (h:=ob) (runF_c w os) (runF_d w os))
theorem runT_a (w:World) (os:PySem.OsState):(HandSHeadRun.endF (HandSHeadRun.stepQ (HandSHeadRun.denQ HandSHeadRun.tabQ) R.prog (w.withFollow "special-get-raises" true)) 20000 R.prog (w.withFollow "special-get-raises" true) os).map (fun s=>HandSHeadRun.looksF R.prog (PySem.W.boot_heap (w.withFollow "special-get-raises" true).params) s.abs)=some true:=by kernel_rfl
theorem runT_b (w:World) (os:PySem.OsState):(HandSHeadRun.endF (HandSHeadRun.stepQ (HandSHeadRun.denQ HandSHeadRun.tabQ) R.prog (w.withFollow "special-get-raises" true)) 20000 R.prog (w.withFollow "special-get-raises" true) os).map (fun s=>HandSHeadRun.seenQ (PySem.W.view R.prog [36]) looseL (PySem.importedModules R.prog.main.body) (fun s=>PySem.W.xlAt (PySem.W.view R.prog [36]) [] s && PySem.W.recOk R.toRowW.records s) s.abs)=some (PySem.W.openGood (PySem.W.view R.prog [36]) looseL):=by kernel_rfl
theorem runT_c1 (w:World) (os:PySem.OsState):(HandSHeadRun.endF (HandSHeadRun.stepQ (HandSHeadRun.denQ HandSHeadRun.tabQ) R.prog (w.withFollow "special-get-raises" true)) 20000 R.prog (w.withFollow "special-get-raises" true) os).map (fun s=>faL.all fun f=>f.ok (He.frT (HandSHeadRun.getT s) (He.asD (HandSHeadRun.getT s) 4)))=some true:=by kernel_rfl
theorem runT_c2a (w:World) (os:PySem.OsState):(HandSHeadRun.endF (HandSHeadRun.stepQ (HandSHeadRun.denQ HandSHeadRun.tabQ) R.prog (w.withFollow "special-get-raises" true)) 20000 R.prog (w.withFollow "special-get-raises" true) os).map (fun s=>(fnL.take (fnL.length / 2)).all fun d=>d.ok (He.frT (HandSHeadRun.getT s) (He.asD (HandSHeadRun.getT s) 4)))=some true:=by kernel_rfl
theorem runT_c2b (w:World) (os:PySem.OsState):(HandSHeadRun.endF (HandSHeadRun.stepQ (HandSHeadRun.denQ HandSHeadRun.tabQ) R.prog (w.withFollow "special-get-raises" true)) 20000 R.prog (w.withFollow "special-get-raises" true) os).map (fun s=>(fnL.drop (fnL.length / 2)).all fun d=>d.ok (He.frT (HandSHeadRun.getT s) (He.asD (HandSHeadRun.getT s) 4)))=some true:=by kernel_rfl
theorem runT_c2 (w:World) (os:PySem.OsState):(HandSHeadRun.endF (HandSHeadRun.stepQ (HandSHeadRun.denQ HandSHeadRun.tabQ) R.prog (w.withFollow "special-get-raises" true)) 20000 R.prog (w.withFollow "special-get-raises" true) os).map (fun s=>fnL.all fun d=>d.ok (He.frT (HandSHeadRun.getT s) (He.asD (HandSHeadRun.getT s) 4)))=some true:=mapA (p:=fun s (d:He.DefD)=>d.ok (He.frT (HandSHeadRun.getT s) (He.asD (HandSHeadRun.getT s) 4))) (fnL.length / 2) (runT_c2a w os) (runT_c2b w os)
theorem runT_c34 (w:World) (os:PySem.OsState):(HandSHeadRun.endF (HandSHeadRun.stepQ (HandSHeadRun.denQ HandSHeadRun.tabQ) R.prog (w.withFollow "special-get-raises" true)) 20000 R.prog (w.withFollow "special-get-raises" true) os).map (fun s=>(fnL.map fun d=>He.fnW (He.frT (HandSHeadRun.getT s) (He.asD (HandSHeadRun.getT s) 4)) d.at_,tabL.map fun t=>He.dicW (He.frT (HandSHeadRun.getT s) (He.asD (HandSHeadRun.getT s) 4)) (t.1 (He.frT (HandSHeadRun.getT s) (He.asD (HandSHeadRun.getT s) 4)))))=some (fnL.map He.DefD.val,tabL.map fun t=>some (He.keysIn (w.withFollow "special-get-raises" true).params t.2)):=by kernel_rfl
theorem runT_c3 (w:World) (os:PySem.OsState):(HandSHeadRun.endF (HandSHeadRun.stepQ (HandSHeadRun.denQ HandSHeadRun.tabQ) R.prog (w.withFollow "special-get-raises" true)) 20000 R.prog (w.withFollow "special-get-raises" true) os).map (fun s=>fnL.map fun d=>He.fnW (He.frT (HandSHeadRun.getT s) (He.asD (HandSHeadRun.getT s) 4)) d.at_)=some (fnL.map He.DefD.val):=mapF (runT_c34 w os)
theorem runT_c4 (w:World) (os:PySem.OsState):(HandSHeadRun.endF (HandSHeadRun.stepQ (HandSHeadRun.denQ HandSHeadRun.tabQ) R.prog (w.withFollow "special-get-raises" true)) 20000 R.prog (w.withFollow "special-get-raises" true) os).map (fun s=>tabL.map fun t=>He.dicW (He.frT (HandSHeadRun.getT s) (He.asD (HandSHeadRun.getT s) 4)) (t.1 (He.frT (HandSHeadRun.getT s) (He.asD (HandSHeadRun.getT s) 4))))=some (tabL.map fun t=>some (He.keysIn (w.withFollow "special-get-raises" true).params t.2)):=mapS (runT_c34 w os)
theorem runT_c (w:World) (os:PySem.OsState):(HandSHeadRun.endF (HandSHeadRun.stepQ (HandSHeadRun.denQ HandSHeadRun.tabQ) R.prog (w.withFollow "special-get-raises" true)) 20000 R.prog (w.withFollow "special-get-raises" true) os).map (fun s=>(ob s).1)=some (hk.val (w.withFollow "special-get-raises" true)).1:=mapP (h:=fun s=>(ob s).1) (c:=(hk.val (w.withFollow "special-get-raises" true)).1) (mapP (h:=fun s=>(ob s).1.1) (c:=(hk.val (w.withFollow "special-get-raises" true)).1.1) (mapB (runT_c1 w os) (runT_c2 w os)) (runT_c3 w os)) (runT_c4 w os)
theorem runT_d (w:World) (os:PySem.OsState):(HandSHeadRun.endF (HandSHeadRun.stepQ (HandSHeadRun.denQ HandSHeadRun.tabQ) R.prog (w.withFollow "special-get-raises" true)) 20000 R.prog (w.withFollow "special-get-raises" true) os).map (fun s=>(ob s).2)=some (hk.val (w.withFollow "special-get-raises" true)).2:=by kernel_rfl
theorem runT (w:World):HandSHeadRun.RunEq R (PySem.W.view R.prog [36]) hk ob 20000 looseL (w.withFollow "special-get-raises" true):=fun os=>map3 (runT_a w os) (runT_b w os) (mapP (h:=ob) (runT_c w os) (runT_d w os))
theorem run (w:World):HandSHeadRun.RunEq R (PySem.W.view R.prog [36]) hk ob 20000 looseL w:=PySem.W.byRow2 "special-get-raises" (P:=fun w=>HandSHeadRun.RunEq R (PySem.W.view R.prog [36]) hk ob 20000 looseL w) runF runT w
structure Tx (w:World) (h:Heap) (K:PySem.W.Frag) (mg:Str→Option Value):Prop where
 X:K.In h
 G:h.Ns mainGlobals mg
 c:He.SaysX faL fnL tabL tfL exB w h K
section
variable {w:World} {h:Heap} {K:PySem.W.Frag} {mg:Str→Option Value}
theorem g_CopyError (T:Tx w h K mg):mg "CopyError"=some (.ref (He.ga K "CopyError")):=He.glo_ok T.X T.G (T.c.t.d.fact 1 rfl)
theorem g_InvalidCode (T:Tx w h K mg):mg "InvalidCode"=some (.ref (He.ga K "InvalidCode")):=He.glo_ok T.X T.G (T.c.t.d.fact 2 rfl)
theorem g_LimitExceeded (T:Tx w h K mg):mg "LimitExceeded"=some (.ref (He.ga K "LimitExceeded")):=He.glo_ok T.X T.G (T.c.t.d.fact 4 rfl)
theorem g_is_integer (T:Tx w h K mg):mg "is_integer"=some (.ref (He.ga K "is_integer")):=He.glo_ok T.X T.G (T.c.t.d.fact 5 rfl)
theorem g_is_between (T:Tx w h K mg):mg "is_between"=some (.ref (He.ga K "is_between")):=He.glo_ok T.X T.G (T.c.t.d.fact 6 rfl)
theorem g_SIZES (T:Tx w h K mg):mg "SIZES"=some (.ref (He.ga K "SIZES")):=He.glo_ok T.X T.G (T.c.t.d.fact 7 rfl)
theorem g_NAMED (T:Tx w h K mg):mg "NAMED"=some (.ref (He.ga K "NAMED")):=He.glo_ok T.X T.G (T.c.t.d.fact 8 rfl)
theorem g_JUMPS (T:Tx w h K mg):mg "JUMPS"=some (.ref (He.ga K "JUMPS")):=He.glo_ok T.X T.G (T.c.t.d.fact 9 rfl)
theorem g_is_name (T:Tx w h K mg):mg "is_name"=some (.ref (He.ga K "is_name")):=He.glo_ok T.X T.G (T.c.t.d.fact 10 rfl)
theorem g_is_statement (T:Tx w h K mg):mg "is_statement"=some (.ref (He.ga K "is_statement")):=He.glo_ok T.X T.G (T.c.t.d.fact 11 rfl)
theorem g_parts_in (T:Tx w h K mg):mg "parts_in"=some (.ref (He.ga K "parts_in")):=He.glo_ok T.X T.G (T.c.t.d.fact 12 rfl)
theorem g_Code (T:Tx w h K mg):mg "Code"=some (.ref (He.ga K "Code")):=He.glo_ok T.X T.G (T.c.t.d.fact 13 rfl)
theorem g_law_cell_at (T:Tx w h K mg):mg "_law_cell_at"=some (.ref (He.ga K "_law_cell_at")):=He.glo_ok T.X T.G (T.c.t.d.fact 14 rfl)
theorem g_law_source_of (T:Tx w h K mg):mg "_law_source_of"=some (.ref (He.ga K "_law_source_of")):=He.glo_ok T.X T.G (T.c.t.d.fact 15 rfl)
theorem g_law_draw (T:Tx w h K mg):mg "_law_draw"=some (.ref (He.ga K "_law_draw")):=He.glo_ok T.X T.G (T.c.t.d.fact 16 rfl)
theorem g_law_one (T:Tx w h K mg):mg "_law_one"=some (.ref (He.ga K "_law_one")):=He.glo_ok T.X T.G (T.c.t.d.fact 17 rfl)
theorem g_law_leaf (T:Tx w h K mg):mg "_law_leaf"=some (.ref (He.ga K "_law_leaf")):=He.glo_ok T.X T.G (T.c.t.d.fact 18 rfl)
theorem g_law_statement (T:Tx w h K mg):mg "_law_statement"=some (.ref (He.ga K "_law_statement")):=He.glo_ok T.X T.G (T.c.t.d.fact 19 rfl)
theorem g_law_parts (T:Tx w h K mg):mg "_law_parts"=some (.ref (He.ga K "_law_parts")):=He.glo_ok T.X T.G (T.c.t.d.fact 20 rfl)
theorem g_law_flat (T:Tx w h K mg):mg "_law_flat"=some (.ref (He.ga K "_law_flat")):=He.glo_ok T.X T.G (T.c.t.d.fact 21 rfl)
theorem g_law_built (T:Tx w h K mg):mg "_law_built"=some (.ref (He.ga K "_law_built")):=He.glo_ok T.X T.G (T.c.t.d.fact 22 rfl)
theorem g_law_loops (T:Tx w h K mg):mg "_law_loops"=some (.ref (He.ga K "_law_loops")):=He.glo_ok T.X T.G (T.c.t.d.fact 23 rfl)
theorem g_law_odd_named (T:Tx w h K mg):mg "_law_odd_named"=some (.ref (He.ga K "_law_odd_named")):=He.glo_ok T.X T.G (T.c.t.d.fact 24 rfl)
theorem g_law_odd (T:Tx w h K mg):mg "_law_odd"=some (.ref (He.ga K "_law_odd")):=He.glo_ok T.X T.G (T.c.t.d.fact 25 rfl)
theorem g_law_said (T:Tx w h K mg):mg "_law_said"=some (.ref (He.ga K "_law_said")):=He.glo_ok T.X T.G (T.c.t.d.fact 26 rfl)
theorem g_law (T:Tx w h K mg):mg "law"=some (.ref (He.ga K "law")):=He.glo_ok T.X T.G (T.c.t.d.fact 27 rfl)
theorem fr_all (T:Tx w h K mg):mg "all"=none:=He.free_ok T.X T.G (T.c.t.d.fact 30 rfl)
theorem fr_bool (T:Tx w h K mg):mg "bool"=none:=He.free_ok T.X T.G (T.c.t.d.fact 31 rfl)
theorem fr_enumerate (T:Tx w h K mg):mg "enumerate"=none:=He.free_ok T.X T.G (T.c.t.d.fact 32 rfl)
theorem fr_int (T:Tx w h K mg):mg "int"=none:=He.free_ok T.X T.G (T.c.t.d.fact 33 rfl)
theorem fr_isinstance (T:Tx w h K mg):mg "isinstance"=none:=He.free_ok T.X T.G (T.c.t.d.fact 34 rfl)
theorem fr_len (T:Tx w h K mg):mg "len"=none:=He.free_ok T.X T.G (T.c.t.d.fact 35 rfl)
theorem fr_list (T:Tx w h K mg):mg "list"=none:=He.free_ok T.X T.G (T.c.t.d.fact 36 rfl)
theorem fr_range (T:Tx w h K mg):mg "range"=none:=He.free_ok T.X T.G (T.c.t.d.fact 37 rfl)
theorem fr_reversed (T:Tx w h K mg):mg "reversed"=none:=He.free_ok T.X T.G (T.c.t.d.fact 38 rfl)
theorem fr_str (T:Tx w h K mg):mg "str"=none:=He.free_ok T.X T.G (T.c.t.d.fact 39 rfl)
theorem fr_tuple (T:Tx w h K mg):mg "tuple"=none:=He.free_ok T.X T.G (T.c.t.d.fact 40 rfl)
theorem i_MOST_STATEMENTS (T:Tx w h K mg):∃ t,mg "MOST_STATEMENTS"=some (.int 400 t):=He.int_ok T.X T.G (T.c.t.d.fact 41 rfl)
theorem i_MOST_DEEP (T:Tx w h K mg):∃ t,mg "MOST_DEEP"=some (.int 100 t):=He.int_ok T.X T.G (T.c.t.d.fact 42 rfl)
theorem i_MOST_BLOCKS (T:Tx w h K mg):∃ t,mg "MOST_BLOCKS"=some (.int 25 t):=He.int_ok T.X T.G (T.c.t.d.fact 43 rfl)
theorem i_MOST_LETTERS (T:Tx w h K mg):∃ t,mg "MOST_LETTERS"=some (.int 8 t):=He.int_ok T.X T.G (T.c.t.d.fact 44 rfl)
theorem i_LETTERS (T:Tx w h K mg):∃ t,mg "LETTERS"=some (.str "abcdefghijklmnopqrstuvwxyz" t):=He.str_ok T.X T.G (T.c.t.d.fact 45 rfl)
theorem c_Code (T:Tx w h K mg):Cls K (He.ga K "Code"):=He.cls_ok (T.c.t.d.fact 46 rfl)
theorem mk_Code (T:Tx w h K mg):Mk K (He.ga K "Code") (He.ma K (He.ga K "Code") "__init__"):=He.mkr_ok (T.c.t.d.fact 47 rfl)
theorem na_Code_children (T:Tx w h K mg):NoAttr K (He.ga K "Code") "children":=He.noat_ok (T.c.t.d.fact 48 rfl)
theorem na_Code_kinds (T:Tx w h K mg):NoAttr K (He.ga K "Code") "kinds":=He.noat_ok (T.c.t.d.fact 49 rfl)
theorem na_Code_labels (T:Tx w h K mg):NoAttr K (He.ga K "Code") "labels":=He.noat_ok (T.c.t.d.fact 50 rfl)
theorem na_Code_parents (T:Tx w h K mg):NoAttr K (He.ga K "Code") "parents":=He.noat_ok (T.c.t.d.fact 51 rfl)
theorem na_Code_statements (T:Tx w h K mg):NoAttr K (He.ga K "Code") "statements":=He.noat_ok (T.c.t.d.fact 52 rfl)
theorem me_Code_check (T:Tx w h K mg):Meth K (He.ga K "Code") "check" (He.ma K (He.ga K "Code") "check"):=He.meth_ok (T.c.t.d.fact 53 rfl)
theorem me_Code_keep (T:Tx w h K mg):Meth K (He.ga K "Code") "keep" (He.ma K (He.ga K "Code") "keep"):=He.meth_ok (T.c.t.d.fact 54 rfl)
theorem F_InvalidCode___init__ (T:Tx w h K mg):∃ fd,FunD K "__init__" "InvalidCode.__init__" (defArgs sd_InvalidCode___init__) (defBody sd_InvalidCode___init__) (defScope sd_InvalidCode___init__) [] [] (He.fAd K ("InvalidCode",some "__init__")) fd:=T.c.t.d.def_ 1 rfl
theorem F_LimitExceeded___init__ (T:Tx w h K mg):∃ fd,FunD K "__init__" "LimitExceeded.__init__" (defArgs sd_LimitExceeded___init__) (defBody sd_LimitExceeded___init__) (defScope sd_LimitExceeded___init__) [] [] (He.fAd K ("LimitExceeded",some "__init__")) fd:=T.c.t.d.def_ 3 rfl
theorem F_is_integer (T:Tx w h K mg):∃ fd,FunD K "is_integer" "is_integer" (defArgs sd_is_integer) (defBody sd_is_integer) (defScope sd_is_integer) [] [] (He.fAd K ("is_integer",none)) fd:=T.c.t.d.def_ 4 rfl
theorem F_is_between (T:Tx w h K mg):∃ fd,FunD K "is_between" "is_between" (defArgs sd_is_between) (defBody sd_is_between) (defScope sd_is_between) [] [] (He.fAd K ("is_between",none)) fd:=T.c.t.d.def_ 5 rfl
theorem F_is_name (T:Tx w h K mg):∃ fd,FunD K "is_name" "is_name" (defArgs sd_is_name) (defBody sd_is_name) (defScope sd_is_name) [] [] (He.fAd K ("is_name",none)) fd:=T.c.t.d.def_ 6 rfl
theorem F_is_statement (T:Tx w h K mg):∃ fd,FunD K "is_statement" "is_statement" (defArgs sd_is_statement) (defBody sd_is_statement) (defScope sd_is_statement) [] [] (He.fAd K ("is_statement",none)) fd:=T.c.t.d.def_ 7 rfl
theorem F_parts_in (T:Tx w h K mg):∃ fd,FunD K "parts_in" "parts_in" (defArgs sd_parts_in) (defBody sd_parts_in) (defScope sd_parts_in) [] [] (He.fAd K ("parts_in",none)) fd:=T.c.t.d.def_ 8 rfl
theorem F_Code___init__ (T:Tx w h K mg):∃ fd,FunD K "__init__" "Code.__init__" (defArgs sd_Code___init__) (defBody sd_Code___init__) (defScope sd_Code___init__) [] [] (He.fAd K ("Code",some "__init__")) fd:=T.c.t.d.def_ 9 rfl
theorem F_Code_check (T:Tx w h K mg):∃ fd,FunD K "check" "Code.check" (defArgs sd_Code_check) (defBody sd_Code_check) (defScope sd_Code_check) [] [] (He.fAd K ("Code",some "check")) fd:=T.c.t.d.def_ 10 rfl
theorem F_Code_keep (T:Tx w h K mg):∃ fd,FunD K "keep" "Code.keep" (defArgs sd_Code_keep) (defBody sd_Code_keep) (defScope sd_Code_keep) [] [] (He.fAd K ("Code",some "keep")) fd:=T.c.t.d.def_ 11 rfl
theorem F_law_cell_at (T:Tx w h K mg):∃ fd,FunD K "_law_cell_at" "_law_cell_at" (defArgs sd_law_cell_at) (defBody sd_law_cell_at) (defScope sd_law_cell_at) [] [] (He.fAd K ("_law_cell_at",none)) fd:=T.c.t.d.def_ 27 rfl
theorem F_law_source_of (T:Tx w h K mg):∃ fd,FunD K "_law_source_of" "_law_source_of" (defArgs sd_law_source_of) (defBody sd_law_source_of) (defScope sd_law_source_of) [] [] (He.fAd K ("_law_source_of",none)) fd:=T.c.t.d.def_ 28 rfl
theorem F_law_draw (T:Tx w h K mg):∃ fd,FunD K "_law_draw" "_law_draw" (defArgs sd_law_draw) (defBody sd_law_draw) (defScope sd_law_draw) [] [] (He.fAd K ("_law_draw",none)) fd:=T.c.t.d.def_ 29 rfl
theorem F_law_one (T:Tx w h K mg):∃ fd,FunD K "_law_one" "_law_one" (defArgs sd_law_one) (defBody sd_law_one) (defScope sd_law_one) [] [] (He.fAd K ("_law_one",none)) fd:=T.c.t.d.def_ 30 rfl
theorem F_law_leaf (T:Tx w h K mg):∃ fd,FunD K "_law_leaf" "_law_leaf" (defArgs sd_law_leaf) (defBody sd_law_leaf) (defScope sd_law_leaf) [] [] (He.fAd K ("_law_leaf",none)) fd:=T.c.t.d.def_ 31 rfl
theorem F_law_statement (T:Tx w h K mg):∃ fd,FunD K "_law_statement" "_law_statement" (defArgs sd_law_statement) (defBody sd_law_statement) (defScope sd_law_statement) [] [] (He.fAd K ("_law_statement",none)) fd:=T.c.t.d.def_ 32 rfl
theorem F_law_parts (T:Tx w h K mg):∃ fd,FunD K "_law_parts" "_law_parts" (defArgs sd_law_parts) (defBody sd_law_parts) (defScope sd_law_parts) [] [] (He.fAd K ("_law_parts",none)) fd:=T.c.t.d.def_ 33 rfl
theorem F_law_flat (T:Tx w h K mg):∃ fd,FunD K "_law_flat" "_law_flat" (defArgs sd_law_flat) (defBody sd_law_flat) (defScope sd_law_flat) [] [] (He.fAd K ("_law_flat",none)) fd:=T.c.t.d.def_ 34 rfl
theorem F_law_built (T:Tx w h K mg):∃ fd,FunD K "_law_built" "_law_built" (defArgs sd_law_built) (defBody sd_law_built) (defScope sd_law_built) [] [] (He.fAd K ("_law_built",none)) fd:=T.c.t.d.def_ 35 rfl
theorem F_law_loops (T:Tx w h K mg):∃ fd,FunD K "_law_loops" "_law_loops" (defArgs sd_law_loops) (defBody sd_law_loops) (defScope sd_law_loops) [] [] (He.fAd K ("_law_loops",none)) fd:=T.c.t.d.def_ 36 rfl
theorem F_law_odd_named (T:Tx w h K mg):∃ fd,FunD K "_law_odd_named" "_law_odd_named" (defArgs sd_law_odd_named) (defBody sd_law_odd_named) (defScope sd_law_odd_named) [] [] (He.fAd K ("_law_odd_named",none)) fd:=T.c.t.d.def_ 37 rfl
theorem F_law_odd (T:Tx w h K mg):∃ fd,FunD K "_law_odd" "_law_odd" (defArgs sd_law_odd) (defBody sd_law_odd) (defScope sd_law_odd) [] [] (He.fAd K ("_law_odd",none)) fd:=T.c.t.d.def_ 38 rfl
theorem F_law_said (T:Tx w h K mg):∃ fd,FunD K "_law_said" "_law_said" (defArgs sd_law_said) (defBody sd_law_said) (defScope sd_law_said) [] [] (He.fAd K ("_law_said",none)) fd:=T.c.t.d.def_ 39 rfl
theorem F_law (T:Tx w h K mg):∃ fd,FunD K "law" "law" (defArgs sd_law) (defBody sd_law) (defScope sd_law) [] [] (He.fAd K ("law",none)) fd:=T.c.t.d.def_ 40 rfl
theorem t_NAMED (T:Tx w h K mg) (H:Hp):SqT K H (He.ga K "NAMED") [.str "do",.str "call",.str "if",.str "while"]:=He.tupB_ok (x:="NAMED") (vs:=[.str "do",.str "call",.str "if",.str "while"]) (He.ba (He.ba (He.ba (He.ba (He.ba (He.ba (He.ba (He.ba (He.ba T.c.more).1).1).1).1).1).1).1).1).1 H
theorem t_JUMPS (T:Tx w h K mg) (H:Hp):SqT K H (He.ga K "JUMPS") [.str "break",.str "continue"]:=He.tupB_ok (x:="JUMPS") (vs:=[.str "break",.str "continue"]) (He.ba (He.ba (He.ba (He.ba (He.ba (He.ba (He.ba (He.ba (He.ba T.c.more).1).1).1).1).1).1).1).1).2 H
theorem d_SIZES (T:Tx w h K mg):∃ es n,KDict K w (He.ga K "SIZES") es n:=T.c.t.tab 0 rfl
theorem dk_SIZES (T:Tx w h K mg):He.dicW K (He.ga K "SIZES")=some (He.keysIn w.params ["do","call","if","while","seq","break","continue","return","raise","try","final"]):=Option.some.inj (show some (He.dicW K (He.ga K "SIZES"))=some (some (He.keysIn w.params ["do","call","if","while","seq","break","continue","return","raise","try","final"])) from congrArg (fun z:He.AlT=>z.2[0]?) T.c.t)
theorem v_SIZES (T:Tx w h K mg) {q:Str×He.Dv} (hq:q∈([("do",.int 2),("call",.int 2),("if",.int 4),("while",.int 3),("seq",.int 2),("break",.int 2),("continue",.int 2),("return",.int 1),("raise",.int 1),("try",.int 3),("final",.int 3)]:List (Str×He.Dv))):∃ u,PySem.W.nsIn K (He.ga K "SIZES") q.1=some (some u)∧RelV (q.2.v K) u:=He.valsB_ok (He.ba (He.ba (He.ba (He.ba (He.ba (He.ba (He.ba (He.ba T.c.more).1).1).1).1).1).1).1).2 hq
theorem x_InvalidCode (T:Tx w h K mg):FcX.XC K (He.ga K "InvalidCode"):=FcX.xcB_ok (He.ba ((He.ba (He.ba (He.ba (He.ba (He.ba (He.ba T.c.more).1).1).1).1).1).2)).1
theorem xi_InvalidCode (T:Tx w h K mg):FcX.XI K (He.ga K "InvalidCode") (He.fAd K ("InvalidCode",some "__init__")) "number":=FcX.xiB_ok (He.ba ((He.ba (He.ba (He.ba (He.ba (He.ba (He.ba T.c.more).1).1).1).1).1).2)).2
theorem x_LimitExceeded (T:Tx w h K mg):FcX.XC K (He.ga K "LimitExceeded"):=FcX.xcB_ok (He.ba ((He.ba (He.ba (He.ba (He.ba T.c.more).1).1).1).2)).1
theorem xi_LimitExceeded (T:Tx w h K mg):FcX.XI K (He.ga K "LimitExceeded") (He.fAd K ("LimitExceeded",some "__init__")) "limit":=FcX.xiB_ok (He.ba ((He.ba (He.ba (He.ba (He.ba T.c.more).1).1).1).2)).2
theorem xh (T:Tx w h K mg):FcX.xhB K xN=true:=(He.ba T.c.more).2
end
end Fc
set_option maxRecDepth 100000
set_option maxHeartbeats 4000000
namespace Fc
open PySem PySem.Spec PyProof.Rows L2 FcR
open Evl (Ex)
section
theorem find_none_of {P:Params} {z:Str}:∀ {l:List DictEntry} {ks:List Str},l.map He.keyOf=He.keysIn P ks→z ∉ ks→l.find? (·.key.isStr z)=none∧l.any (·.refKey)=false
 | [],_,_,_=>⟨rfl,rfl⟩
 | e::r,[],h,_=>by cases h
 | e::r,k::ks,h,hz=>by
  have h1:He.keyOf e::r.map He.keyOf=some (k,PyData.keyHash P k)::He.keysIn P ks:=h
  injection h1 with h2 h3
  obtain ⟨i1,i2⟩:=find_none_of (z:=z) h3 fun y=>hz (List.mem_cons_of_mem _ y)
  unfold He.keyOf at h2
  split at h2
  ·rename_i x t q
   have h4:=Option.some.inj h2
   obtain ⟨h5,h6⟩:=Prod.mk.inj h4
   have ne:x≠z:=fun y=>hz (by rw [← y,h5];exact List.mem_cons_self)
   constructor
   ·rw [List.find?_cons]
    have e1:e.key.isStr z=false:=by
     rw [q]
     show (x == z)=false
     simpa using ne
    rw [e1]
    exact i1
   ·rw [List.any_cons,i2]
    have e2:e.refKey=false:=by
     unfold DictEntry.refKey
     rw [q]<;>rfl
    rw [e2]<;>rfl
  ·cases h2
theorem ns_none {K:PySem.W.Frag} {P:Params} {a:Addr} {ks:List Str} {z:Str} (h:He.dicW K a=some (He.keysIn P ks)) (hz:z ∉ ks):PySem.W.nsIn K a z=some none:=by
 unfold He.dicW at h
 unfold PySem.W.nsIn
 cases q:K.lookup a with
 | none=>rw [q] at h;cases h
 | some o =>
  obtain ⟨oc,od,dt,osl⟩:=o
  rw [q] at h
  cases oc with
  | type c =>
   cases od with
   | none =>
    cases dt with
    | dict es n =>
     have h1:(match decide (c="dict") && (osl.isEmpty && !(a == sysModules)) with
      | true=>some (es.toList.map He.keyOf)
      | false=>none)=some (He.keysIn P ks):=h
     split at h1
     ·obtain ⟨i1,i2⟩:=find_none_of (z:=z) (Option.some.inj h1) hz
      show (match es.toList.find? (·.key.isStr z) with
       | some e=>some (some e.val)
       | none=>if es.toList.any (·.refKey) then none else some none)=some none
      rw [i1,i2]
      rfl
     ·cases h1
    | _=>cases h
   | some b=>cases dt<;>cases h
  | _=>cases od<;>cases dt<;>cases h
def tyD:PyData→String
 | .none=>"NoneType"
 | .bool _=>"bool"
 | .int _=>"int"
 | .str _=>"str"
 | .list _=>"list"
 | .tuple _=>"tuple"
 | .dict _=>"dict"
theorem ty_lst {K:PySem.W.Frag} {H:Hp} {a:Addr} {xs:List V} (h:SqL K H a xs):TyX K H (.ref a) (.type "list"):=by
 rcases h with (h | ⟨o,h⟩) | ⟨o,its,n,hk,hc,_⟩
 ·exact .base (.lst h)
 ·exact .base (.frz h)
 ·exact .kList hk hc
theorem ty_tup {K:PySem.W.Frag} {H:Hp} {a:Addr} {xs:List V} (h:SqT K H a xs):TyX K H (.ref a) (.type "tuple"):=by
 rcases h with (h | ⟨o,h⟩) | ⟨o,its,n,hk,hc,_⟩
 ·exact .base (.tup h)
 ·exact .fTuple h
 ·exact .kTuple hk hc
theorem dp_ty {K:PySem.W.Frag} {H:Hp} {v:V} {d:PyData} (h:Dp K H v d):TyX K H v (.type (tyD d)):=by
 cases h with
 | non=>exact .base .non
 | bl b=>exact .base (.bl b)
 | int i=>exact .base (.int i)
 | str x=>exact .base (.str x)
 | lst h _=>exact ty_lst h
 | tup h _=>exact ty_tup h
def isT (n:String) (d:PyData):Bool:=tyD d == n
theorem k_str {K:PySem.W.Frag}:∀ d:PyData,PySem.W.kitOne K (.type (tyD d)) (.type "str")=some (isT "str" d)
 | .none=>kit_ty (show kitB "NoneType" "str"=some false by decide +kernel)
 | .bool _=>kit_ty (show kitB "bool" "str"=some false by decide +kernel)
 | .int _=>kit_ty (show kitB "int" "str"=some false by decide +kernel)
 | .str _=>kit_ty (show kitB "str" "str"=some true by decide +kernel)
 | .list _=>kit_ty (show kitB "list" "str"=some false by decide +kernel)
 | .tuple _=>kit_ty (show kitB "tuple" "str"=some false by decide +kernel)
 | .dict _=>kit_ty (show kitB "dict" "str"=some false by decide +kernel)
theorem k_tuple {K:PySem.W.Frag}:∀ d:PyData,PySem.W.kitOne K (.type (tyD d)) (.type "tuple")=some (isT "tuple" d)
 | .none=>kit_ty (show kitB "NoneType" "tuple"=some false by decide +kernel)
 | .bool _=>kit_ty (show kitB "bool" "tuple"=some false by decide +kernel)
 | .int _=>kit_ty (show kitB "int" "tuple"=some false by decide +kernel)
 | .str _=>kit_ty (show kitB "str" "tuple"=some false by decide +kernel)
 | .list _=>kit_ty (show kitB "list" "tuple"=some false by decide +kernel)
 | .tuple _=>kit_ty (show kitB "tuple" "tuple"=some true by decide +kernel)
 | .dict _=>kit_ty (show kitB "dict" "tuple"=some false by decide +kernel)
theorem k_bool {K:PySem.W.Frag}:∀ d:PyData,PySem.W.kitOne K (.type (tyD d)) (.type "bool")=some (isT "bool" d)
 | .none=>kit_ty (show kitB "NoneType" "bool"=some false by decide +kernel)
 | .bool _=>kit_ty (show kitB "bool" "bool"=some true by decide +kernel)
 | .int _=>kit_ty (show kitB "int" "bool"=some false by decide +kernel)
 | .str _=>kit_ty (show kitB "str" "bool"=some false by decide +kernel)
 | .list _=>kit_ty (show kitB "list" "bool"=some false by decide +kernel)
 | .tuple _=>kit_ty (show kitB "tuple" "bool"=some false by decide +kernel)
 | .dict _=>kit_ty (show kitB "dict" "bool"=some false by decide +kernel)
def isIntB:PyData→Bool
 | .int _=>true
 | .bool _=>true
 | _=>false
theorem k_int {K:PySem.W.Frag}:∀ d:PyData,PySem.W.kitOne K (.type (tyD d)) (.type "int")=some (isIntB d)
 | .none=>kit_ty (show kitB "NoneType" "int"=some false by decide +kernel)
 | .bool _=>kit_ty (show kitB "bool" "int"=some true by decide +kernel)
 | .int _=>kit_ty (show kitB "int" "int"=some true by decide +kernel)
 | .str _=>kit_ty (show kitB "str" "int"=some false by decide +kernel)
 | .list _=>kit_ty (show kitB "list" "int"=some false by decide +kernel)
 | .tuple _=>kit_ty (show kitB "tuple" "int"=some false by decide +kernel)
 | .dict _=>kit_ty (show kitB "dict" "int"=some false by decide +kernel)
def letters:List Nat:=(Str.ofString "abcdefghijklmnopqrstuvwxyz").cps.toList
def nameOk (x:Str):Bool:=(decide ((1:Int)≤x.length) && decide ((x.length:Int)≤8)) && x.cps.toList.all fun c=>decide (c∈letters)
def isName:PyData→Bool
 | .str x=>nameOk x
 | _=>false
def isNum (lo hi:Int):PyData→Bool
 | .int n=>decide (lo≤n) && decide (n≤hi)
 | _=>false
def kNamed:List Str:=["do","call","if","while"]
def kJumps:List Str:=["break","continue"]
def kSizes:List (Str×Int):=[("do",2),("call",2),("if",4),("while",3),("seq",2),("break",2),("continue",2),("return",1),("raise",1),("try",3),("final",3)]
def nonEmptyT:PyData→Bool
 | .tuple (_::_)=>true
 | _=>false
def isStm:PyData→Int→Bool
 | .tuple (.str k::r),loops=>(match kSizes.lookup k with
  | none=>false
  | some n=>if (r.length:Int) + 1≠n then false else
   if k∈kNamed then isName (r.getD 0 .none) else if k∈kJumps then isNum 1 loops (r.getD 0 .none) else
    (if k≠"seq" then true else nonEmptyT (r.getD 0 .none)))
 | _,_=>false
def partsD:PyData→List PyData
 | .tuple (.str k::r)=>if k="seq" then (match r with
   | .tuple ps::_=>ps.take 401
   | _=>[]) else if k∈kNamed then r.drop 1 else if k="try"∨k="final" then r else []
 | _=>[]
end
section
def sp_is_integer (K:PySem.W.Frag):Sp:=fun vs H Q _=>∃ (v:V) (t:Value) (b1 b2:Bool),vs=[v]∧TyX K H v t∧PySem.W.kitOne K t (.type "int")=some b1∧PySem.W.kitOne K t (.type "bool")=some b2∧Q (.bl (b1 && !b2)) H
def sp_is_between (K:PySem.W.Frag):Sp:=fun vs H Q _=>∃ (v:V) (i j:Int),vs=[v,.int i,.int j] ∧
 ((∃ n,v=.int n∧Q (.bl (decide (i≤n) && decide (n≤j))) H)∨(∃ t b1 b2,TyX K H v t∧PySem.W.kitOne K t (.type "int")=some b1∧PySem.W.kitOne K t (.type "bool")=some b2∧(b1 && !b2)=false∧Q (.bl false) H))
theorem k_ii {K:PySem.W.Frag}:PySem.W.kitOne K (.type "int") (.type "int")=some true:=kit_ty (by decide +kernel)
theorem k_ib {K:PySem.W.Frag}:PySem.W.kitOne K (.type "int") (.type "bool")=some false:=kit_ty (by decide +kernel)
section
variable {P:Program} {w:World} {h:Heap} {K:PySem.W.Frag} {mg:Str→Option Value} {base:Heap}
abbrev N_is_integer:List Str:=["value"]
theorem sc_is_integer:FnScope N_is_integer ["value"] (defScope sd_is_integer):=⟨rfl,rfl,rfl,by decide +kernel,rfl,by decide +kernel,by decide +kernel⟩
theorem ok_is_integer (T:Tx w h K mg):Ok P w K mg base 1 ("is_integer",none) ["value"] (sp_is_integer K):=by
 obtain ⟨fd,F⟩:=F_is_integer T
 refine ⟨fd,?_,F.bindsN (fun _ _ _ _ _ _ us hl=>match us,hl with | [_],_=>rfl),F.kp⟩
 refine F.ok sc_is_integer (fun vs H Q E h=>?_) (fun cdv A outer s H vs Q E hr h=>?_)
 ·obtain ⟨v,t,b1,b2,rfl,ty,k1,k2,q⟩:=h
  rfl
 ·obtain ⟨v,t,b1,b2,rfl,ty,k1,k2,q⟩:=h
  refine ⟨_,PSs.nox (pss_one (ps_ret (pe_and (pe_callB call_isi rfl (fr_isinstance T) b_isinstance (pa_cons (pv 0) (pa_cons (pe_bltn (v:=.ty "int") rfl (fr_int T) b_int rfl) pa_nil))) (pe_one (pe_not (pe_callB call_isi rfl (fr_isinstance T) b_isinstance (pa_cons (pv 0) (pa_cons (pe_bltn (v:=.ty "bool") rfl (fr_bool T) b_bool rfl) pa_nil)))))))),?_⟩
  refine ⟨_,rfl,v,.ty "int",t,_,b1,rfl,.ty _,ty,k1,_,rfl,ite_of (fun h1=>?_) (fun h1=>?_)⟩
  ·subst h1
   exact ⟨_,rfl,v,.ty "bool",t,_,b2,rfl,.ty _,ty,k2,_,rfl,q⟩
  ·subst h1
   exact q
abbrev N_is_between:List Str:=["value","low","high"]
theorem sc_is_between:FnScope N_is_between ["value","low","high"] (defScope sd_is_between):=⟨rfl,rfl,rfl,by decide +kernel,rfl,by decide +kernel,by decide +kernel⟩
theorem ok_is_between (T:Tx w h K mg):Ok P w K mg base 2 ("is_between",none) ["value","low","high"] (sp_is_between K):=by
 obtain ⟨fd,F⟩:=F_is_between T
 refine ⟨fd,?_,F.bindsN (fun _ _ _ _ _ _ us hl=>match us,hl with | [_,_,_],_=>rfl),F.kp⟩
 obtain ⟨fd_is_integer,G_is_integer,bi_is_integer,kp_is_integer⟩:=ok_is_integer (P:=P) (base:=base) T
 refine F.ok sc_is_between (fun vs H Q E h=>?_) (fun cdv A outer s H vs Q E hr h=>?_)
 ·obtain ⟨v,i,j,rfl,q⟩:=h
  rfl
 ·obtain ⟨v,i,j,rfl,q⟩:=h
  refine ⟨_,PSs.nox (pss_one (ps_ret (pe_and (pe_call G_is_integer (hr.mono (by decide)) rfl (g_is_integer T) kp_is_integer bi_is_integer .nil passF (pa_cons (pv 0) pa_nil)) (pe_one (pe_chain op_le op_le (pv 1) (pv 0) (pv 2)))))),?_⟩
  rcases q with ⟨n,rfl,q⟩ | ⟨t,b1,b2,ty,k1,k2,hb,q⟩
  ·refine ⟨_,rfl,.int n,.type "int",true,false,rfl,.base (.int n),k_ii,k_ib,_,rfl,itT rfl ?_⟩
   refine ⟨_,rfl,_,rfl,_,_,rfl,rfl,_,rfl,ite_of (fun h1=>?_) (fun h1=>?_)⟩
   ·refine ⟨_,rfl,_,_,rfl,rfl,?_⟩
    rw [h1] at q
    exact q
   ·rw [h1] at q
    exact q
  ·refine ⟨_,rfl,v,t,b1,b2,rfl,ty,k1,k2,_,rfl,itF hb q⟩
end
end
section
def sp_is_name (K:PySem.W.Frag):Sp:=fun vs H Q _=>∃ (v:V) (d:PyData),vs=[v]∧Dp K H v d∧(∀ x,d=.str x→x.length≤100000)∧∀ H',Ex H H'→Q (.bl (isName d)) H'
theorem take_one {α:Type} {l:List α} {i:Nat} {x:α} (h:l[i]?=some x):l.take (i + 1)=l.take i++[x]:=by
 rw [List.take_add_one,h]<;>rfl
section
variable {P:Program} {w:World} {h:Heap} {K:PySem.W.Frag} {mg:Str→Option Value} {base:Heap}
abbrev N_is_name:List Str:=["value","sign"]
theorem sc_is_name:FnScope N_is_name ["value"] (defScope sd_is_name):=⟨rfl,rfl,rfl,by decide +kernel,rfl,by decide +kernel,by decide +kernel⟩
theorem ok_is_name (T:Tx w h K mg):Ok P w K mg base 1 ("is_name",none) ["value"] (sp_is_name K):=by
 obtain ⟨fd,F⟩:=F_is_name T
 refine ⟨fd,?_,F.bindsN (fun _ _ _ _ _ _ us hl=>match us,hl with | [_],_=>rfl),F.kp⟩
 obtain ⟨tm_LETTERS,m_LETTERS⟩:=i_LETTERS T
 obtain ⟨tm_MOST_LETTERS,m_MOST_LETTERS⟩:=i_MOST_LETTERS T
 refine F.ok sc_is_name (fun vs H Q E h=>?_) (fun cdv A outer s H vs Q E hr h=>?_)
 ·obtain ⟨v,d,rfl,hd,hl,q⟩:=h
  rfl
 ·obtain ⟨v,d,rfl,hd,hl,q⟩:=h
  refine ⟨_,PSs.nox (pss_one (ps_ret (pe_and (pe_callB call_isi rfl (fr_isinstance T) b_isinstance (pa_cons (pv 0) (pa_cons (pe_bltn (v:=.ty "str") rfl (fr_str T) b_str rfl) pa_nil))) (pe_and (pe_chain op_le op_le pe_int (pe_callB call_len_str rfl (fr_len T) b_len (pa_cons (pv 0) pa_nil)) (pe_glob (v:=.int 8) rfl m_MOST_LETTERS ⟨_,rfl⟩)) (pe_one (pe_callB (cr_all rfl) rfl (fr_all T) b_all (pa_cons (pe_lc (own:=[("sign",1)]) rfl sc_is_name.nd (pi_str (pv 0)) (blkOk_by (N:=N_is_name) (sc:=defScope sd_is_name) (by decide +kernel)) (fun _ _ _ _ _=>(pg_name (i:=1) sc_is_name.nd rfl (Or.inl rfl))) (fun _ _ _ _ _=>pts_nil) (fun _ _ _ _ _=>(pe_cmpR op_in_sign (pv 1) (pe_glob (v:=.str "abcdefghijklmnopqrstuvwxyz") rfl m_LETTERS ⟨_,rfl⟩) (by rfl)))) pa_nil))))))),?_⟩
  refine ⟨_,rfl,v,.ty "str",_,_,_,rfl,.ty _,dp_ty hd,k_str d,_,rfl,ite_of (fun h1=>?_) (fun h1=>?_)⟩
  ·obtain ⟨x,rfl⟩:∃ x,d=.str x:=by cases d<;>first | exact ⟨_,rfl⟩ | cases h1
   obtain rfl:=dp_str hd
   have hx:=hl x rfl
   have e1:isName (.str x)=((decide ((1:Int)≤x.length) && decide ((x.length:Int)≤8)) && x.cps.toList.all fun c=>decide (c∈letters)):=rfl
   rw [e1] at q
   refine ⟨_,rfl,x,rfl,sz hx,_,_,rfl,rfl,_,rfl,ite_of (fun h2=>?_) (fun h2=>?_)⟩
   ·refine ⟨_,_,rfl,rfl,_,rfl,ite_of (fun h3=>?_) (fun h3=>?_)⟩
    ·refine ⟨_,rfl,x,rfl,fun D hD=>lc_it walk_str (fun i H'=>Ex H H'∧H' D=some (.lst ((x.cps.toList.take i).map fun c=>V.bl (decide (c∈letters))))) ?_ (fun _ _ _ _=>True.intro) ?_ ?_⟩
     ·exact ⟨exu (Evl.Ex.refl H) hD,upd_same⟩
     ·rintro i y H1 H2 hi ⟨k1,k2⟩ ⟨rfl,c,hc,rfl⟩
      refine ⟨rfl,?_⟩
      refine ⟨_,rfl,c,_,rfl,rfl,_,k2,szl ?_,exm k1 hD,?_⟩
      ·have e2:x.cps.size=x.length:=rfl
       rw [List.length_map,List.length_take]
       omega
      ·have hc':x.cps.toList[i]?=some c:=by simpa using hc
       rw [take_one hc',List.map_append,upd_same]<;>rfl
     ·rintro H1 ⟨k1,k2⟩
      refine ⟨D,x.cps.toList.map fun c=>decide (c∈letters),rfl,Evl.sq_of ?_,?_⟩
      ·have e4:x.cps.size=x.cps.toList.length:=by simp
       rw [k2,e4,List.take_length,List.map_map]<;>rfl
      ·rw [h2,h3] at q
       have e3:((x.cps.toList.map fun c=>decide (c∈letters)).all id)=x.cps.toList.all fun c=>decide (c∈letters):=by simp [List.all_map]
       rw [e3]
       exact q H1 k1
    ·rw [h2,h3] at q
     exact q H (Evl.Ex.refl H)
   ·refine ⟨_,rfl,itF rfl ?_⟩
    rw [h2] at q
    exact q H (Evl.Ex.refl H)
  ·have e:isName d=false:=by cases d<;>first | rfl | cases h1
   rw [e] at q
   exact q H (Evl.Ex.refl H)
end
end
section
theorem at0 {α:Type} {v:α} {r:List α}:atI (v::r) 0=some v:=atI_nat (j:=0) rfl
theorem at1 {α:Type} {u v:α} {r:List α}:atI (u::v::r) 1=some v:=atI_nat (j:=1) rfl
theorem at2 {α:Type} {t u v:α} {r:List α}:atI (t::u::v::r) 2=some v:=atI_nat (j:=2) rfl
def szD (d:PyData):Prop:=∀ k x r,d=.tuple (k::.str x::r)→x.length≤100000
def sp_is_statement (K:PySem.W.Frag):Sp:=fun vs H Q _=>∃ (v:V) (d:PyData) (loops:Int),vs=[v,.int loops]∧Dp K H v d∧PyData.canLay0 d=true∧szD d∧∀ H',Ex H H'→Q (.bl (isStm d loops)) H'
theorem eqv_nil (ds:List PyData):PyData.eqv (.tuple ds) (.tuple [])=ds.isEmpty:=by
 cases ds<;>simp [PyData.eqv,PyData.eqvAll]
theorem min_nil (d:PyData):min d.depth (PyData.tuple []).depth≤200:=Nat.le_trans (Nat.min_le_right _ _) (by decide)
theorem inV_strs (k:Str) (l:List Str):inV (.str k) (l.map V.str)=decide (k∈l):=by
 unfold inV
 rw [List.any_map]
 induction l with
 | nil=>rfl
 | cons a l ih =>
  rw [List.any_cons,ih]
  show ((a == k) || decide (k∈l))=decide (k∈a::l)
  by_cases h:a=k
  ·subst h;simp
  ·have h2:(a == k)=false:=by simpa using h
   have h3:¬ k=a:=fun e=>h e.symm
   simp [h2,h3]
theorem flat_strs (l:List Str):(l.map V.str).all flatV=true:=by
 rw [List.all_map]
 exact List.all_eq_true.mpr fun _ _=>rfl
theorem named_two {k:Str} {n:Int} (h:k∈kNamed) (e:kSizes.lookup k=some n):2≤n:=by
 simp only [kNamed,List.mem_cons,List.not_mem_nil,or_false] at h
 rcases h with rfl | rfl | rfl | rfl
 ·have:kSizes.lookup ("do":Str)=some 2:=by decide +kernel
  rw [this] at e;cases e;decide
 ·have:kSizes.lookup ("call":Str)=some 2:=by decide +kernel
  rw [this] at e;cases e;decide
 ·have:kSizes.lookup ("if":Str)=some 4:=by decide +kernel
  rw [this] at e;cases e;decide
 ·have:kSizes.lookup ("while":Str)=some 3:=by decide +kernel
  rw [this] at e;cases e;decide
theorem jumps_two {k:Str} {n:Int} (h:k∈kJumps) (e:kSizes.lookup k=some n):n=2:=by
 simp only [kJumps,List.mem_cons,List.not_mem_nil,or_false] at h
 rcases h with rfl | rfl
 ·have:kSizes.lookup ("break":Str)=some 2:=by decide +kernel
  rw [this] at e;cases e;rfl
 ·have:kSizes.lookup ("continue":Str)=some 2:=by decide +kernel
  rw [this] at e;cases e;rfl
theorem seq_two {n:Int} (e:kSizes.lookup ("seq":Str)=some n):n=2:=by
 have:kSizes.lookup ("seq":Str)=some 2:=by decide +kernel
 rw [this] at e;cases e;rfl
theorem lookup_mem {k:Str} {n:Int}:∀ {l:List (Str×Int)},l.lookup k=some n→(k,n)∈l
 | [],h=>by cases h
 | (a,b)::l,h=>by
  rw [List.lookup_cons] at h
  by_cases e:k=a
  ·subst e
   have e2:(k == k)=true:=by simp
   rw [e2] at h
   cases h
   exact List.mem_cons_self
  ·have e2:(k == a)=false:=by simpa using e
   rw [e2] at h
   exact List.mem_cons_of_mem _ (lookup_mem h)
theorem lookup_none {k:Str}:∀ {l:List (Str×Int)},l.lookup k=none→k ∉ l.map (·.1)
 | [],_=>fun h=>by cases h
 | (a,b)::l,h=>by
  rw [List.lookup_cons] at h
  by_cases e:k=a
  ·subst e
   have e2:(k == k)=true:=by simp
   rw [e2] at h
   cases h
  ·have e2:(k == a)=false:=by simpa using e
   rw [e2] at h
   intro m
   rcases List.mem_cons.mp m with m | m
   ·exact e m
   ·exact lookup_none h m
section
variable {P:Program} {w:World} {h:Heap} {K:PySem.W.Frag} {mg:Str→Option Value} {base:Heap}
theorem sizes_ns (T:Tx w h K mg) (k:Str):∃ r,PySem.W.nsIn K (He.ga K "SIZES") k=some r∧(match kSizes.lookup k with
  | none=>r=none
  | some n=>∃ u,r=some u∧RelV (.int n) u):=by
 cases e:kSizes.lookup k with
 | none=>exact ⟨none,ns_none (dk_SIZES T) (lookup_none e),rfl⟩
 | some n =>
  have m:=lookup_mem e
  have m2:(k,He.Dv.int n)∈([("do",.int 2),("call",.int 2),("if",.int 4),("while",.int 3),("seq",.int 2),("break",.int 2),("continue",.int 2),("return",.int 1),("raise",.int 1),("try",.int 3),("final",.int 3)]:List (Str×He.Dv)) :=
   List.mem_map_of_mem (f:=fun q:Str×Int=>(q.1,He.Dv.int q.2)) m
  obtain ⟨u,e1,e2⟩:=v_SIZES T m2
  exact ⟨some u,e1,u,rfl,e2⟩
abbrev N_is_statement:List Str:=["value","loops"]
theorem sc_is_statement:FnScope N_is_statement ["value","loops"] (defScope sd_is_statement):=⟨rfl,rfl,rfl,by decide +kernel,rfl,by decide +kernel,by decide +kernel⟩
theorem ok_is_statement (T:Tx w h K mg):Ok P w K mg base 3 ("is_statement",none) ["value","loops"] (sp_is_statement K):=by
 obtain ⟨fd,F⟩:=F_is_statement T
 refine ⟨fd,?_,F.bindsN (fun _ _ _ _ _ _ us hl=>match us,hl with | [_,_],_=>rfl),F.kp⟩
 obtain ⟨fd_is_between,G_is_between,bi_is_between,kp_is_between⟩:=ok_is_between (P:=P) (base:=base) T
 obtain ⟨fd_is_name,G_is_name,bi_is_name,kp_is_name⟩:=ok_is_name (P:=P) (base:=base) T
 obtain ⟨es,nE,D⟩:=d_SIZES T
 refine F.ok sc_is_statement (fun vs H Q E h=>?_) (fun cdv A outer s H vs Q E hr h=>?_)
 ·obtain ⟨v,d,loops,rfl,hd,hc,hz,q⟩:=h
  rfl
 ·obtain ⟨v,d,loops,rfl,hd,hc,hz,q⟩:=h
  refine ⟨_,PSs.nox (pss_cons (ps_if (PW.pt (pw_or (pt_not (pt_val (pe_callB call_isi rfl (fr_isinstance T) b_isinstance (pa_cons (pv 0) (pa_cons (pe_bltn (v:=.ty "tuple") rfl (fr_tuple T) b_tuple rfl) pa_nil))))) (pw_or (pt_cmpR (op_eqM hr) (pv 0) (pe_tup pa_nil) (nomark _)) (pw_or1 (pt_not (pt_val (pe_callB call_isi rfl (fr_isinstance T) b_isinstance (pa_cons (pe_ix ix_tup (pv 0) pe_int (fun _ _=>rfl)) (pa_cons (pe_bltn (v:=.ty "str") rfl (fr_str T) b_str rfl) pa_nil))))))))) (pss_one (ps_ret pe_bl)) pss_nil) (pss_cons (ps_if (PW.pt (pw_or (pt_cmpR (op_notIn_kd D) (pe_ix ix_tup (pv 0) pe_int (fun _ _=>rfl)) (pe_glob (v:=.ref (He.ga K "SIZES")) rfl (g_SIZES T) rfl) (by rfl)) (pw_or1 (pt_cmpR op_ne (pe_callB call_len_seq rfl (fr_len T) b_len (pa_cons (pv 0) pa_nil)) (pe_ix ix_kdict (pe_glob (v:=.ref (He.ga K "SIZES")) rfl (g_SIZES T) rfl) (pe_ix ix_tup (pv 0) pe_int (fun _ _=>rfl)) (fun _ _=>rfl)) (nomark _))))) (pss_one (ps_ret pe_bl)) pss_nil) (pss_cons (ps_if (pt_cmpR op_in_seq (pe_ix ix_tup (pv 0) pe_int (fun _ _=>rfl)) (pe_glob (v:=.ref (He.ga K "NAMED")) rfl (g_NAMED T) rfl) (by rfl)) (pss_one (ps_ret (pe_call G_is_name (hr.mono (by decide)) rfl (g_is_name T) kp_is_name bi_is_name .nil passF (pa_cons (pe_ix ix_tup (pv 0) pe_int (fun _ _=>rfl)) pa_nil)))) pss_nil) (pss_cons (ps_if (pt_cmpR op_in_seq (pe_ix ix_tup (pv 0) pe_int (fun _ _=>rfl)) (pe_glob (v:=.ref (He.ga K "JUMPS")) rfl (g_JUMPS T) rfl) (by rfl)) (pss_one (ps_ret (pe_call G_is_between (hr.mono (by decide)) rfl (g_is_between T) kp_is_between bi_is_between .nil passF (pa_cons (pe_ix ix_tup (pv 0) pe_int (fun _ _=>rfl)) (pa_cons pe_int (pa_cons (pv 1) pa_nil)))))) pss_nil) (pss_one (ps_ret (pe_or (pe_cmpR op_ne (pe_ix ix_tup (pv 0) pe_int (fun _ _=>rfl)) pe_str (nomark _)) (pe_one (pe_and (pe_callB call_isi rfl (fr_isinstance T) b_isinstance (pa_cons (pe_ix ix_tup (pv 0) pe_int (fun _ _=>rfl)) (pa_cons (pe_bltn (v:=.ty "tuple") rfl (fr_tuple T) b_tuple rfl) pa_nil))) (pe_one (pe_cmpR (op_neM hr) (pe_ix ix_tup (pv 0) pe_int (fun _ _=>rfl)) (pe_tup pa_nil) (nomark _)))))))))))),?_⟩
  refine ⟨_,rfl,v,.ty "tuple",_,_,_,rfl,.ty _,dp_ty hd,k_tuple d,_,rfl,ite_of (fun h1=>?_) (fun h1=>?_)⟩
  ·have e:isStm d loops=false:=by cases d<;>first | rfl | cases h1
   rw [e] at q
   exact q H (Evl.Ex.refl H)
  obtain ⟨ds,rfl⟩:∃ ds,d=.tuple ds:=by cases d<;>first | exact ⟨_,rfl⟩ | cases h1
  obtain ⟨a,xs,rfl,hS,hA⟩:=dp_tup hd
  refine ⟨_,rfl,sz (by decide),fun p hp=>?_⟩
  have x1:Ex H (upd H p (.tup [])):=exu (Evl.Ex.refl H) hp
  refine ⟨.tuple ds,.tuple [],dp_ex x1 hd,.tup (Evl.st_of upd_same) .nil,hc,rfl,min_nil _,_,rfl,ite_of (fun h2=>?_) (fun h2=>?_)⟩
  ·rw [eqv_nil] at h2
   cases ds with
   | nil=>exact q _ x1
   | cons _ _=>cases h2
  rw [eqv_nil] at h2
  cases hA with
  | nil=>cases h2
  | @cons v0 xr d0 dr h0 hA =>
  have hS1:=Evl.ex_t x1 hS
  refine ⟨_,rfl,a,_,_,_,rfl,rfl,hS1,at0,v0,.ty "str",_,_,_,rfl,.ty _,dp_ty (dp_ex x1 h0),k_str d0,_,rfl,ite_of (fun h3=>?_) (fun h3=>?_)⟩
  ·have e:isStm (.tuple (d0::dr)) loops=false:=by cases d0<;>first | rfl | cases h3
   rw [e] at q
   exact q _ x1
  obtain ⟨k,rfl⟩:∃ k,d0=.str k:=by cases d0<;>first | exact ⟨_,rfl⟩ | cases h3
  obtain rfl:=dp_str h0
  have el:=dpA_len hA
  obtain ⟨r,n1,n2⟩:=sizes_ns T k
  refine ⟨_,rfl,a,_,_,_,rfl,rfl,hS1,at0,k,r,rfl,rfl,n1,_,rfl,ite_of (fun h4=>?_) (fun h4=>?_)⟩
  ·have e:isStm (.tuple (.str k::dr)) loops=false:=by
    cases e1:kSizes.lookup k with
    | none=>simp only [isStm,e1]
    | some n =>
     rw [e1] at n2
     obtain ⟨u,rfl,_⟩:=n2
     cases h4
   rw [e] at q
   exact q _ x1
  cases e1:kSizes.lookup k with
  | none =>
   rw [e1] at n2
   subst n2
   cases h4
  | some n =>
  rw [e1] at n2
  obtain ⟨u,rfl,ru⟩:=n2
  have q':∀ b,(isStm (.tuple (.str k::dr)) loops=b)→∀ H',Ex H H'→Q (.bl b) H':=fun b e=>by rw [← e];exact q
  refine ⟨_,rfl,a,_,rfl,.inr hS1,_,rfl,a,_,_,_,rfl,rfl,hS1,at0,_,k,.int n,rfl,rfl,⟨es,nE,u,D.at_,D.lit,n1,ru⟩,rfl,_,rfl,ite_of (fun h5=>?_) (fun h5=>?_)⟩
  ·refine q' false ?_ _ x1
   have h6:¬ ((dr.length:Int) + 1=n):=by
    intro e
    have:decide (V.int ((V.str k::xr).length:Int)=V.int n)=true:=decide_eq_true (by rw [List.length_cons,el];congr 1)
    rw [this] at h5
    cases h5
   simp only [isStm,e1,if_pos h6]
  have hn:(dr.length:Int) + 1=n:=by
   have h6:decide (V.int ((V.str k::xr).length:Int)=V.int n)=true:=by
    cases z:decide (V.int ((V.str k::xr).length:Int)=V.int n) with
    | true=>rfl
    | false=>rw [z] at h5;cases h5
   have h7:=V.int.inj (of_decide_eq_true h6)
   rw [List.length_cons,el] at h7
   omega
  have es0:isStm (.tuple (.str k::dr)) loops=(if k∈kNamed then isName (dr.getD 0 .none) else if k∈kJumps then isNum 1 loops (dr.getD 0 .none) else (if k≠"seq" then true else nonEmptyT (dr.getD 0 .none))):=by
   simp only [isStm,e1,if_neg (show ¬ ((dr.length:Int) + 1≠n) from fun z=>z hn)]
  refine ⟨_,rfl,a,_,_,_,rfl,rfl,hS1,at0,He.ga K "NAMED",_,rfl,.inr (t_NAMED T _),rfl,flat_strs kNamed,_,rfl,ite_of (fun h6=>?_) (fun h6=>?_)⟩
  ·have h6:inV (.str k) (kNamed.map V.str)=true:=h6
   rw [inV_strs] at h6
   have hk:=of_decide_eq_true h6
   have n2:=named_two hk e1
   cases hA with
   | nil=>simp at hn;omega
   | @cons v1 xr d1 dr g1 hA =>
   refine ⟨_,rfl,a,_,_,_,rfl,rfl,hS1,at1,v1,d1,rfl,dp_ex x1 g1,fun x e=>hz (.str k) x dr (by rw [e]),fun H' x2=>q' _ ?_ H' (x1.trans x2)⟩
   rw [es0,if_pos hk]<;>rfl
  have h6:inV (.str k) (kNamed.map V.str)=false:=h6
  rw [inV_strs] at h6
  have hk:¬ k∈kNamed:=of_decide_eq_false h6
  refine ⟨_,rfl,a,_,_,_,rfl,rfl,hS1,at0,He.ga K "JUMPS",_,rfl,.inr (t_JUMPS T _),rfl,flat_strs kJumps,_,rfl,ite_of (fun h7=>?_) (fun h7=>?_)⟩
  ·have h7:inV (.str k) (kJumps.map V.str)=true:=h7
   rw [inV_strs] at h7
   have hj:=of_decide_eq_true h7
   have n2:=jumps_two hj e1
   cases hA with
   | nil=>simp at hn;omega
   | @cons v1 xr d1 dr g1 hA =>
   have e2:isStm (.tuple (.str k::d1::dr)) loops=isNum 1 loops d1:=by rw [es0,if_neg hk,if_pos hj]<;>rfl
   refine ⟨_,rfl,a,_,_,_,rfl,rfl,hS1,at1,_,rfl,v1,1,loops,rfl,?_⟩
   cases d1 with
   | int m =>
    obtain rfl:=dp_int g1
    exact .inl ⟨m,rfl,q' _ e2 _ x1⟩
   | _=>exact .inr ⟨_,_,_,dp_ty (dp_ex x1 g1),k_int _,k_bool _,rfl,q' _ e2 _ x1⟩
  have h7:inV (.str k) (kJumps.map V.str)=false:=h7
  rw [inV_strs] at h7
  have hj:¬ k∈kJumps:=of_decide_eq_false h7
  rw [if_neg hk,if_neg hj] at es0
  refine ⟨_,rfl,a,_,_,_,rfl,rfl,hS1,at0,rfl,_,rfl,ite_of (fun h8=>?_) (fun h8=>?_)⟩
  ·have hs:k≠"seq":=by
    intro e
    subst e
    have z:decide (V.str "seq"=V.str "seq")=true:=decide_eq_true rfl
    rw [z] at h8
    cases h8
   exact q' true (by rw [es0,if_pos hs]) _ x1
  have hs:k="seq":=by
   cases z:decide (V.str k=V.str "seq") with
   | true=>exact V.str.inj (of_decide_eq_true z)
   | false=>rw [z] at h8;cases h8
  subst hs
  have n2:=seq_two e1
  cases hA with
  | nil=>simp at hn;omega
  | @cons v1 xr d1 dr g1 hA =>
  rw [if_neg (fun z=>z rfl)] at es0
  refine ⟨_,rfl,a,_,_,_,rfl,rfl,hS1,at1,v1,.ty "tuple",_,_,_,rfl,.ty _,dp_ty (dp_ex x1 g1),k_tuple d1,_,rfl,ite_of (fun h9=>?_) (fun h9=>?_)⟩
  ·obtain ⟨es2,rfl⟩:∃ ds,d1=.tuple ds:=by cases d1<;>first | exact ⟨_,rfl⟩ | cases h9
   refine ⟨_,rfl,a,_,_,_,rfl,rfl,hS1,at1,sz (by decide),fun p2 hp2=>?_⟩
   have x2:Ex H (upd (upd H p (.tup [])) p2 (.tup [])):=exu x1 hp2
   have hc1:PyData.canLay0 (.tuple es2)=true:=by
    have z:(PyData.canLay0 (.str "seq") && (PyData.canLay0 (.tuple es2) && PyData.canLayAll0 dr))=true:=hc
    exact (Bool.and_eq_true_iff.mp (Bool.and_eq_true_iff.mp z).2).1
   refine ⟨.tuple es2,.tuple [],dp_ex x2 g1,.tup (Evl.st_of upd_same) .nil,hc1,rfl,min_nil _,q' _ ?_ _ x2⟩
   rw [es0,eqv_nil]
   cases es2<;>rfl
  ·refine q' false ?_ _ x1
   rw [es0]
   cases d1<;>first | rfl | cases h9
end
end
section
mutual
inductive Dz (K:PySem.W.Frag) (H:Hp):V→PyData→Prop
 | of {v:V} {d:PyData} (h:Dp K H v d):Dz K H v d
 | dct {a:Addr} (h:H a=some (.dK [])):Dz K H (.ref a) (.dict [])
 | tup {a:Addr} {vs:List V} {ds:List PyData} (s:SqT K H a vs) (t:DzAll K H vs ds):Dz K H (.ref a) (.tuple ds)
inductive DzAll (K:PySem.W.Frag) (H:Hp):List V→List PyData→Prop
 | nil:DzAll K H [] []
 | cons {v:V} {vs:List V} {d:PyData} {ds:List PyData} (h:Dz K H v d) (t:DzAll K H vs ds):DzAll K H (v::vs) (d::ds)
end
theorem dzA_of {K:PySem.W.Frag} {H:Hp}:∀ {ds:List PyData} {vs:List V},DpAll K H vs ds→DzAll K H vs ds
 | _,_,.nil=>.nil
 | _,_,.cons h t=>.cons (.of h) (dzA_of t)
mutual
theorem dz_ex {K:PySem.W.Frag} {H H':Hp} (e:Ex H H'):∀ {d:PyData} {v:V},Dz K H v d→Dz K H' v d
 | _,_,.of h=>.of (dp_ex e h)
 | _,_,.dct h=>.dct (e _ _ h)
 | _,_,.tup s t=>.tup (Evl.ex_t e s) (dzA_ex e t)
theorem dzA_ex {K:PySem.W.Frag} {H H':Hp} (e:Ex H H'):∀ {ds:List PyData} {vs:List V},DzAll K H vs ds→DzAll K H' vs ds
 | _,_,.nil=>.nil
 | _,_,.cons h t=>.cons (dz_ex e h) (dzA_ex e t)
end
theorem dz_ty {K:PySem.W.Frag} {H:Hp} {v:V} {d:PyData} (h:Dz K H v d):TyX K H v (.type (tyD d)):=by
 cases h with
 | of h=>exact dp_ty h
 | dct h=>exact .base (.dK h)
 | tup s _=>exact ty_tup s
theorem dz_tup {K:PySem.W.Frag} {H:Hp} {v:V} {ds:List PyData} (h:Dz K H v (.tuple ds)):∃ a xs,v=.ref a∧SqT K H a xs∧DzAll K H xs ds:=by
 cases h with
 | of h =>
  obtain ⟨a,xs,e,s,t⟩:=dp_tup h
  exact ⟨a,xs,e,s,dzA_of t⟩
 | tup s t=>exact ⟨_,_,rfl,s,t⟩
theorem dz_str {K:PySem.W.Frag} {H:Hp} {v:V} {x:Str} (h:Dz K H v (.str x)):v=.str x:=by
 cases h with
 | of h=>exact dp_str h
theorem dz_int {K:PySem.W.Frag} {H:Hp} {v:V} {x:Int} (h:Dz K H v (.int x)):v=.int x:=by
 cases h with
 | of h=>exact dp_int h
theorem dzA_len {K:PySem.W.Frag} {H:Hp}:∀ {ds:List PyData} {vs:List V},DzAll K H vs ds→vs.length=ds.length
 | _,_,.nil=>rfl
 | _,_,.cons _ a=>congrArg Nat.succ (dzA_len a)
theorem dzA_get {K:PySem.W.Frag} {H:Hp}:∀ {ds:List PyData} {vs:List V},DzAll K H vs ds→∀ {i:Nat} {d:PyData},ds[i]?=some d→∃ v,vs[i]?=some v∧Dz K H v d
 | _,_,.nil,i,d,h=>by simp at h
 | _,_,.cons h a,0,d,e=>by simp at e;subst e;exact ⟨_,rfl,h⟩
 | _,_,.cons h a,i + 1,d,e=>by
  obtain ⟨v,e1,e2⟩:=dzA_get a (i:=i) (d:=d) (by simpa using e)
  exact ⟨v,by simpa using e1,e2⟩
theorem dzA_app {K:PySem.W.Frag} {H:Hp}:∀ {ds es:List PyData} {vs ws:List V},DzAll K H vs ds→DzAll K H ws es→DzAll K H (vs++ws) (ds++es)
 | _,_,_,_,.nil,b=>b
 | _,_,_,_,.cons h a,b=>.cons h (dzA_app a b)
theorem dzA_drop {K:PySem.W.Frag} {H:Hp}:∀ {ds:List PyData} {vs:List V} (n:Nat),DzAll K H vs ds→DzAll K H (vs.drop n) (ds.drop n)
 | _,_,0,a=>a
 | _,_,_ + 1,.nil=>.nil
 | _,_,n + 1,.cons _ a=>dzA_drop n a
theorem dzA_take {K:PySem.W.Frag} {H:Hp}:∀ {ds:List PyData} {vs:List V} (n:Nat),DzAll K H vs ds→DzAll K H (vs.take n) (ds.take n)
 | _,_,0,_=>.nil
 | _,_,_ + 1,.nil=>.nil
 | _,_,n + 1,.cons h a=>.cons h (dzA_take n a)
end
section
theorem sl_any {K:PySem.W.Frag} {H:Hp} {a:Addr} {xs:List V} {lo hi:Option Int} {Q:VK} (hS:SqT K H a xs) (k:∀ p H',Ex H H'→SqT K H' p (cutV xs lo hi)→Q (.ref p) H'):rSlA K (.ref a) lo hi H Q:=by
 refine ⟨a,xs,rfl,hS,fun h=>k a H (Evl.Ex.refl H) ?_,fun _ p hp=>k p _ (exu (Evl.Ex.refl H) hp) (Evl.st_of upd_same)⟩
 have e:cutV xs lo hi=xs:=by
  unfold cutV
  rw [h.1,h.2]
  simp
 rw [e]
 exact hS
theorem cut_from (xs:List V) (n:Nat):cutV xs (some (n:Int)) none=xs.drop n:=by
 unfold cutV
 rw [HT.sIx_none,HT.sIx_nat]
 by_cases h:n≤xs.length
 ·rw [Nat.min_eq_left h,List.take_of_length_le (by rw [List.length_drop];omega)]
 ·rw [Nat.min_eq_right (by omega),List.drop_eq_nil_of_le (by omega),List.drop_eq_nil_of_le (by omega)]
  simp
theorem cut_to (xs:List V) (n:Nat):cutV xs none (some (n:Int))=xs.take n:=by
 unfold cutV
 rw [HT.sIx_none,HT.sIx_nat]
 simp only [List.drop_zero,Nat.sub_zero]
 by_cases h:n≤xs.length
 ·rw [Nat.min_eq_left h]
 ·rw [Nat.min_eq_right (by omega),List.take_of_length_le (Nat.le_refl _),List.take_of_length_le (by omega)]
def sp_parts_in (K:PySem.W.Frag):Sp:=fun vs H Q _=>∃ (F:Hp) (v:V) (d:PyData) (loops:Int),vs=[v]∧Ex F H∧Dp K F v d∧isStm d loops=true ∧
 ∀ p H' xs,H p=none→Ex H H'→H' p=some (.lst xs)→DpAll K F xs (partsD d)→Q (.ref p) H'
theorem isStm_shape {d:PyData} {loops:Int} (h:isStm d loops=true):∃ k r n,d=.tuple (.str k::r)∧kSizes.lookup k=some n∧(r.length:Int) + 1=n ∧
  (if k∈kNamed then isName (r.getD 0 .none) else if k∈kJumps then isNum 1 loops (r.getD 0 .none) else (if k≠"seq" then true else nonEmptyT (r.getD 0 .none)))=true:=by
 unfold isStm at h
 split at h
 ·rename_i k r
  split at h
  ·cases h
  ·rename_i n e
   split at h
   ·cases h
   ·rename_i hn
    exact ⟨k,r,n,rfl,e,Decidable.not_not.mp hn,h⟩
 ·cases h
theorem fresh_up {H H':Hp} {p:Addr} (e:Ex H H') (h:H' p=none):H p=none:=Evl.fresh_back e h
section
variable {P:Program} {w:World} {h:Heap} {K:PySem.W.Frag} {mg:Str→Option Value} {base:Heap}
abbrev N_parts_in:List Str:=["statement"]
theorem sc_parts_in:FnScope N_parts_in ["statement"] (defScope sd_parts_in):=⟨rfl,rfl,rfl,by decide +kernel,rfl,by decide +kernel,by decide +kernel⟩
theorem ok_parts_in (T:Tx w h K mg):Ok P w K mg base 1 ("parts_in",none) ["statement"] (sp_parts_in K):=by
 obtain ⟨fd,F⟩:=F_parts_in T
 refine ⟨fd,?_,F.bindsN (fun _ _ _ _ _ _ us hl=>match us,hl with | [_],_=>rfl),F.kp⟩
 obtain ⟨tm_MOST_STATEMENTS,m_MOST_STATEMENTS⟩:=i_MOST_STATEMENTS T
 refine F.ok sc_parts_in (fun vs H Q E h=>?_) (fun cdv A outer s H vs Q E hr h=>?_)
 ·obtain ⟨F0,v,d,loops,rfl,xF,hd,hs,q⟩:=h
  rfl
 ·obtain ⟨F0,v,d,loops,rfl,xF,hd,hs,q⟩:=h
  refine ⟨_,PSs.nox (pss_cons (ps_if (pt_cmpR op_eq (pe_ix ix_tup (pv 0) pe_int (fun _ _=>rfl)) pe_str (nomark _)) (pss_one (ps_ret (pe_callTy call_list_of rfl (fr_list T) b_list (pa_cons (pe_slice sl_tupA (pe_ix ix_tup (pv 0) pe_int (fun _ _=>rfl)) po_none (po_some (pe_op op_add (pe_glob (v:=.int 400) rfl m_MOST_STATEMENTS ⟨_,rfl⟩) pe_int))) pa_nil)))) pss_nil) (pss_cons (ps_if (pt_cmpR op_in_seq (pe_ix ix_tup (pv 0) pe_int (fun _ _=>rfl)) (pe_glob (v:=.ref (He.ga K "NAMED")) rfl (g_NAMED T) rfl) (by rfl)) (pss_one (ps_ret (pe_callTy call_list_of rfl (fr_list T) b_list (pa_cons (pe_slice sl_tupA (pv 0) (po_some pe_int) po_none) pa_nil)))) pss_nil) (pss_one (ps_ret (pe_ifExp (pt_cmpR op_in_seq (pe_ix ix_tup (pv 0) pe_int (fun _ _=>rfl)) (pe_tup (pa_cons pe_str (pa_cons pe_str pa_nil))) (by rfl)) (pe_callTy call_list_of rfl (fr_list T) b_list (pa_cons (pe_slice sl_tupA (pv 0) (po_some pe_int) po_none) pa_nil)) (pe_lst pa_nil)))))),?_⟩
  obtain ⟨k,r,n,rfl,e1,hn,hs⟩:=isStm_shape hs
  obtain ⟨a,xs,rfl,hS,hA⟩:=dp_tup hd
  have hS:=Evl.ex_t xF hS
  cases hA with
  | @cons v0 xr _ _ h0 hA =>
  obtain rfl:=dp_str h0
  refine ⟨_,rfl,a,_,_,_,rfl,rfl,hS,at0,rfl,_,rfl,ite_of (fun h1=>?_) (fun h1=>?_)⟩
  ·have hk:k="seq":=V.str.inj (of_decide_eq_true h1)
   subst hk
   have n2:=seq_two e1
   have nn:¬ (("seq":Str)∈kNamed):=by decide +kernel
   have nj:¬ (("seq":Str)∈kJumps):=by decide +kernel
   rw [if_neg nn,if_neg nj,if_neg (fun z=>z rfl)] at hs
   cases hA with
   | nil=>simp at hn;omega
   | @cons v1 xr d1 dr g1 hA =>
   obtain ⟨ps,rfl⟩:∃ ps,d1=.tuple ps:=by cases d1<;>first | exact ⟨_,rfl⟩ | cases hs
   obtain ⟨b,ys,rfl,gS,gA⟩:=dp_tup g1
   have gS:=Evl.ex_t xF gS
   refine ⟨_,rfl,a,_,_,_,rfl,rfl,hS,at1,_,_,rfl,rfl,_,rfl,?_⟩
   refine sl_any (lo:=none) gS fun p H1 x1 s1=>?_
   refine ⟨p,_,rfl,.inr s1,fun l hl=>q l _ _ (fresh_up x1 hl) (exu x1 hl) upd_same ?_⟩
   rw [show ((400:Int) + 1)=((401:Nat):Int) from rfl,cut_to]
   exact dpA_take 401 gA
  have hk:¬ k="seq":=fun e=>by
   have z:decide (V.str k=V.str "seq")=true:=decide_eq_true (by rw [e])
   rw [z] at h1
   cases h1
  refine ⟨_,rfl,a,_,_,_,rfl,rfl,hS,at0,He.ga K "NAMED",_,rfl,.inr (t_NAMED T _),rfl,flat_strs kNamed,_,rfl,ite_of (fun h2=>?_) (fun h2=>?_)⟩
  ·have h2:inV (.str k) (kNamed.map V.str)=true:=h2
   rw [inV_strs] at h2
   have hm:=of_decide_eq_true h2
   refine ⟨_,rfl,_,rfl,?_⟩
   dsimp only [tNoPart]
   refine sl_any (hi:=none) hS fun p H1 x1 s1=>?_
   refine ⟨p,_,rfl,.inr s1,fun l hl=>q l _ _ (fresh_up x1 hl) (exu x1 hl) upd_same ?_⟩
   rw [show (2:Int)=((2:Nat):Int) from rfl,cut_from]
   show DpAll K F0 (xr.drop 1) (partsD (.tuple (.str k::r)))
   rw [show partsD (.tuple (.str k::r))=r.drop 1 from by simp only [partsD,if_neg hk,if_pos hm]]
   exact dpA_drop 1 hA
  have h2:inV (.str k) (kNamed.map V.str)=false:=h2
  rw [inV_strs] at h2
  have hm:¬ k∈kNamed:=of_decide_eq_false h2
  refine ⟨_,rfl,a,_,_,_,rfl,rfl,hS,at0,sz (by decide),fun p0 hp0=>⟨p0,_,rfl,.inr (Evl.st_of upd_same),rfl,flat_strs ["try","final"],_,rfl,ite_of (fun h3=>?_) (fun h3=>?_)⟩⟩
  ·have h3:inV (.str k) ((["try","final"]:List Str).map V.str)=true:=h3
   rw [inV_strs] at h3
   have ht:k="try"∨k="final":=by simpa using of_decide_eq_true h3
   have x0:Ex H (upd H p0 (.tup [.str "try",.str "final"])):=exu (Evl.Ex.refl H) hp0
   refine ⟨_,rfl,_,rfl,?_⟩
   dsimp only [tNoPart]
   refine sl_any (hi:=none) (Evl.ex_t x0 hS) fun p H1 x1 s1=>?_
   have x2:=x0.trans x1
   refine ⟨p,_,rfl,.inr s1,fun l hl=>q l _ _ (fresh_up x2 hl) (exu x2 hl) upd_same ?_⟩
   rw [show (1:Int)=((1:Nat):Int) from rfl,cut_from]
   show DpAll K F0 xr (partsD (.tuple (.str k::r)))
   rw [show partsD (.tuple (.str k::r))=r from by simp only [partsD,if_neg hk,if_neg hm,if_pos ht]]
   exact hA
  ·have h3:inV (.str k) ((["try","final"]:List Str).map V.str)=false:=h3
   rw [inV_strs] at h3
   have ht:¬ (k="try"∨k="final"):=by simpa using of_decide_eq_false h3
   have x0:Ex H (upd H p0 (.tup [.str "try",.str "final"])):=exu (Evl.Ex.refl H) hp0
   refine ⟨sz (by decide),fun l hl=>q l _ _ (fresh_up x0 hl) (exu x0 hl) upd_same ?_⟩
   rw [show partsD (.tuple (.str k::r))=[] from by simp only [partsD,if_neg hk,if_neg hm,if_neg ht]]
   exact .nil
end
end
section
def fl_Code (v0 v1 v2 v3 v4:V):List (Str×V):=[("statements",v0),("kinds",v1),("labels",v2),("parents",v3),("children",v4)]
theorem fl_Code_statements (v0 v1 v2 v3 v4:V):(fl_Code v0 v1 v2 v3 v4).lookup ("statements":Str)=some v0:=by kernel_rfl
theorem fl_Code_kinds (v0 v1 v2 v3 v4:V):(fl_Code v0 v1 v2 v3 v4).lookup ("kinds":Str)=some v1:=by kernel_rfl
theorem fl_Code_labels (v0 v1 v2 v3 v4:V):(fl_Code v0 v1 v2 v3 v4).lookup ("labels":Str)=some v2:=by kernel_rfl
theorem fl_Code_parents (v0 v1 v2 v3 v4:V):(fl_Code v0 v1 v2 v3 v4).lookup ("parents":Str)=some v3:=by kernel_rfl
theorem fl_Code_children (v0 v1 v2 v3 v4:V):(fl_Code v0 v1 v2 v3 v4).lookup ("children":Str)=some v4:=by kernel_rfl
theorem fm_Code_check (v0 v1 v2 v3 v4:V):(fl_Code v0 v1 v2 v3 v4).lookup ("check":Str)=none:=by kernel_rfl
theorem fm_Code_keep (v0 v1 v2 v3 v4:V):(fl_Code v0 v1 v2 v3 v4).lookup ("keep":Str)=none:=by kernel_rfl
theorem fi_Code_0 (v0:V):putF "statements" v0 ([]:List (Str×V))=([(("statements":Str),v0)]:List (Str×V)):=by kernel_rfl
theorem fi_Code_1 (v0 v1:V):putF "kinds" v1 ([(("statements":Str),v0)]:List (Str×V))=([(("statements":Str),v0),(("kinds":Str),v1)]:List (Str×V)):=by kernel_rfl
theorem fi_Code_2 (v0 v1 v2:V):putF "labels" v2 ([(("statements":Str),v0),(("kinds":Str),v1)]:List (Str×V))=([(("statements":Str),v0),(("kinds":Str),v1),(("labels":Str),v2)]:List (Str×V)):=by kernel_rfl
theorem fi_Code_3 (v0 v1 v2 v3:V):putF "parents" v3 ([(("statements":Str),v0),(("kinds":Str),v1),(("labels":Str),v2)]:List (Str×V))=([(("statements":Str),v0),(("kinds":Str),v1),(("labels":Str),v2),(("parents":Str),v3)]:List (Str×V)):=by kernel_rfl
theorem fi_Code_4 (v0 v1 v2 v3 v4:V):putF "children" v4 ([(("statements":Str),v0),(("kinds":Str),v1),(("labels":Str),v2),(("parents":Str),v3)]:List (Str×V))=([(("statements":Str),v0),(("kinds":Str),v1),(("labels":Str),v2),(("parents":Str),v3),(("children":Str),v4)]:List (Str×V)):=by kernel_rfl
end
section
structure Row where
 d:PyData
 par:Option Nat
 ch:List Nat
def kindD:PyData→Str
 | .tuple (.str k::_)=>k
 | _=>""
def kLab:List Str:=kNamed++kJumps
def labD:PyData→V
 | .tuple (.str k::r)=>if k∈kLab then (match r with
   | .str x::_=>.str x
   | .int n::_=>.int n
   | _=>.non) else .non
 | _=>.non
def parV:Option Nat→V
 | none=>.non
 | some i=>.int (i:Int)
def intsV (l:List Nat):List V:=l.map fun n:Nat=>V.int (n:Int)
structure CAd where
 p:Addr
 dx:Addr
 a1:Addr
 a2:Addr
 a3:Addr
 a4:Addr
 a5:Addr
 cs:List Addr
def CAd.all (A:CAd):List Addr:=A.p::A.a1::A.a2::A.a3::A.a4::A.a5::A.cs
def cFs (A:CAd):List (Str×V):=fl_Code (.ref A.a1) (.ref A.a2) (.ref A.a3) (.ref A.a4) (.ref A.a5)
structure CL (K:PySem.W.Frag) (H:Hp) (A:CAd) (L1 L2 L3 L4:List V) (Cs:List (List V)):Prop where
 ob:H A.p=some (.ins (He.ga K "Code") A.dx (cFs A))
 h1:H A.a1=some (.lst L1)
 h2:H A.a2=some (.lst L2)
 h3:H A.a3=some (.lst L3)
 h4:H A.a4=some (.lst L4)
 h5:H A.a5=some (.lst (A.cs.map V.ref))
 cl:A.cs.length=Cs.length
 cc:∀ (i:Nat) (c:Addr) (x:List V),A.cs[i]?=some c→Cs[i]?=some x→H c=some (.lst x)
 nd:A.all.Nodup
section
variable {K:PySem.W.Frag} {F H H':Hp} {A:CAd} {L1 L2 L3 L4:List V} {Cs:List (List V)}
theorem CL.ex (x:CL K H A L1 L2 L3 L4 Cs) (e:Ex H H'):CL K H' A L1 L2 L3 L4 Cs :=
 ⟨e _ _ x.ob,e _ _ x.h1,e _ _ x.h2,e _ _ x.h3,e _ _ x.h4,e _ _ x.h5,x.cl,fun i c y h1 h2=>e _ _ (x.cc i c y h1 h2),x.nd⟩
theorem CL.ne (x:CL K H A L1 L2 L3 L4 Cs) :
  (A.p≠A.a1∧A.p≠A.a2∧A.p≠A.a3∧A.p≠A.a4∧A.p≠A.a5∧A.p ∉ A.cs)∧(A.a1≠A.a2∧A.a1≠A.a3∧A.a1≠A.a4∧A.a1≠A.a5∧A.a1 ∉ A.cs) ∧
  (A.a2≠A.a3∧A.a2≠A.a4∧A.a2≠A.a5∧A.a2 ∉ A.cs)∧(A.a3≠A.a4∧A.a3≠A.a5∧A.a3 ∉ A.cs)∧(A.a4≠A.a5∧A.a4 ∉ A.cs)∧A.a5 ∉ A.cs∧A.cs.Nodup:=by
 have z:=x.nd
 simp only [CAd.all,List.nodup_cons,List.mem_cons,not_or] at z
 exact ⟨z.1,z.2.1,z.2.2.1,z.2.2.2.1,z.2.2.2.2.1,z.2.2.2.2.2⟩
theorem CL.there (x:CL K H A L1 L2 L3 L4 Cs) {b:Addr} (hb:b∈A.all):∃ o,H b=some o:=by
 simp only [CAd.all,List.mem_cons] at hb
 rcases hb with rfl | rfl | rfl | rfl | rfl | rfl | hb
 ·exact ⟨_,x.ob⟩
 ·exact ⟨_,x.h1⟩
 ·exact ⟨_,x.h2⟩
 ·exact ⟨_,x.h3⟩
 ·exact ⟨_,x.h4⟩
 ·exact ⟨_,x.h5⟩
 ·obtain ⟨i,hi⟩:=List.mem_iff_getElem?.mp hb
  have l:i<Cs.length:=by rw [← x.cl];exact (List.getElem?_eq_some_iff.mp hi).1
  exact ⟨_,x.cc i b _ hi (List.getElem?_eq_getElem l)⟩
theorem CL.fresh (x:CL K H A L1 L2 L3 L4 Cs) {q:Addr} (h:H q=none):q ∉ A.all:=fun z=>by
 obtain ⟨o,e⟩:=x.there z
 rw [h] at e
 cases e
theorem CL.off (x:CL K H A L1 L2 L3 L4 Cs) {q:Addr} {o:HO} (h:q ∉ A.all):CL K (upd H q o) A L1 L2 L3 L4 Cs:=by
 have n:∀ {b:Addr},b∈A.all→b≠q:=fun hb e=>h (e ▸ hb)
 have mc:∀ {c:Addr},c∈A.cs→c∈A.all:=fun hc=>by simp [CAd.all,hc]
 exact ⟨by rw [upd_ne (n (by simp [CAd.all]))];exact x.ob,by rw [upd_ne (n (by simp [CAd.all]))];exact x.h1,by rw [upd_ne (n (by simp [CAd.all]))];exact x.h2,by rw [upd_ne (n (by simp [CAd.all]))];exact x.h3,
  by rw [upd_ne (n (by simp [CAd.all]))];exact x.h4,by rw [upd_ne (n (by simp [CAd.all]))];exact x.h5,x.cl,fun i c y h1 h2=>by rw [upd_ne (n (mc (List.mem_of_getElem? h1)))];exact x.cc i c y h1 h2,x.nd⟩
theorem nin {c b:Addr} {l:List Addr} (h:b ∉ l) (hc:c∈l):c≠b:=fun e=>h (e ▸ hc)
theorem CL.s1 (x:CL K H A L1 L2 L3 L4 Cs) (y:List V):CL K (upd H A.a1 (.lst y)) A y L2 L3 L4 Cs:=by
 obtain ⟨⟨n1,n2,n3,n4,n5,n6⟩,⟨m12,m13,m14,m15,m1⟩,⟨m23,m24,m25,m2⟩,⟨m34,m35,m3⟩,⟨m45,m4⟩,m5,m6⟩:=x.ne
 exact ⟨by rw [upd_ne n1];exact x.ob,upd_same,by rw [upd_ne m12.symm];exact x.h2,by rw [upd_ne m13.symm];exact x.h3,by rw [upd_ne m14.symm];exact x.h4,by rw [upd_ne m15.symm];exact x.h5,x.cl,
  fun i c z g1 g2=>by rw [upd_ne (nin m1 (List.mem_of_getElem? g1))];exact x.cc i c z g1 g2,x.nd⟩
theorem CL.s2 (x:CL K H A L1 L2 L3 L4 Cs) (y:List V):CL K (upd H A.a2 (.lst y)) A L1 y L3 L4 Cs:=by
 obtain ⟨⟨n1,n2,n3,n4,n5,n6⟩,⟨m12,m13,m14,m15,m1⟩,⟨m23,m24,m25,m2⟩,⟨m34,m35,m3⟩,⟨m45,m4⟩,m5,m6⟩:=x.ne
 exact ⟨by rw [upd_ne n2];exact x.ob,by rw [upd_ne m12];exact x.h1,upd_same,by rw [upd_ne m23.symm];exact x.h3,by rw [upd_ne m24.symm];exact x.h4,by rw [upd_ne m25.symm];exact x.h5,x.cl,
  fun i c z g1 g2=>by rw [upd_ne (nin m2 (List.mem_of_getElem? g1))];exact x.cc i c z g1 g2,x.nd⟩
theorem CL.s3 (x:CL K H A L1 L2 L3 L4 Cs) (y:List V):CL K (upd H A.a3 (.lst y)) A L1 L2 y L4 Cs:=by
 obtain ⟨⟨n1,n2,n3,n4,n5,n6⟩,⟨m12,m13,m14,m15,m1⟩,⟨m23,m24,m25,m2⟩,⟨m34,m35,m3⟩,⟨m45,m4⟩,m5,m6⟩:=x.ne
 exact ⟨by rw [upd_ne n3];exact x.ob,by rw [upd_ne m13];exact x.h1,by rw [upd_ne m23];exact x.h2,upd_same,by rw [upd_ne m34.symm];exact x.h4,by rw [upd_ne m35.symm];exact x.h5,x.cl,
  fun i c z g1 g2=>by rw [upd_ne (nin m3 (List.mem_of_getElem? g1))];exact x.cc i c z g1 g2,x.nd⟩
theorem CL.s4 (x:CL K H A L1 L2 L3 L4 Cs) (y:List V):CL K (upd H A.a4 (.lst y)) A L1 L2 L3 y Cs:=by
 obtain ⟨⟨n1,n2,n3,n4,n5,n6⟩,⟨m12,m13,m14,m15,m1⟩,⟨m23,m24,m25,m2⟩,⟨m34,m35,m3⟩,⟨m45,m4⟩,m5,m6⟩:=x.ne
 exact ⟨by rw [upd_ne n4];exact x.ob,by rw [upd_ne m14];exact x.h1,by rw [upd_ne m24];exact x.h2,by rw [upd_ne m34];exact x.h3,upd_same,by rw [upd_ne m45.symm];exact x.h5,x.cl,
  fun i c z g1 g2=>by rw [upd_ne (nin m4 (List.mem_of_getElem? g1))];exact x.cc i c z g1 g2,x.nd⟩
theorem nd_get {α:Type} {l:List α} (h:l.Nodup) {i j:Nat} {x:α} (hi:l[i]?=some x) (hj:l[j]?=some x):i=j:=by
 obtain ⟨h1,e1⟩:=List.getElem?_eq_some_iff.mp hi
 obtain ⟨h2,e2⟩:=List.getElem?_eq_some_iff.mp hj
 exact (List.getElem_inj h).mp (e1.trans e2.symm)
theorem CL.child (x:CL K H A L1 L2 L3 L4 Cs) {i:Nat} {c:Addr} (hc:A.cs[i]?=some c) (y:List V):CL K (upd H c (.lst y)) A L1 L2 L3 L4 (Cs.set i y):=by
 obtain ⟨⟨n1,n2,n3,n4,n5,n6⟩,⟨m12,m13,m14,m15,m1⟩,⟨m23,m24,m25,m2⟩,⟨m34,m35,m3⟩,⟨m45,m4⟩,m5,m6⟩:=x.ne
 have hm:c∈A.cs:=List.mem_of_getElem? hc
 refine ⟨by rw [upd_ne (nin n6 hm).symm];exact x.ob,by rw [upd_ne (nin m1 hm).symm];exact x.h1,by rw [upd_ne (nin m2 hm).symm];exact x.h2,by rw [upd_ne (nin m3 hm).symm];exact x.h3,by rw [upd_ne (nin m4 hm).symm];exact x.h4,
  by rw [upd_ne (nin m5 hm).symm];exact x.h5,by rw [List.length_set];exact x.cl,fun j c' z g1 g2=>?_,x.nd⟩
 by_cases e:i=j
 ·subst e
  rw [hc] at g1
  cases g1
  have l:i<Cs.length:=by rw [← x.cl];exact (List.getElem?_eq_some_iff.mp hc).1
  rw [List.getElem?_set_self l] at g2
  cases g2
  exact upd_same
 ·rw [List.getElem?_set_ne e] at g2
  have nc:c'≠c:=fun q=>e (nd_get m6 hc (by rw [← q];exact g1))
  rw [upd_ne nc]
  exact x.cc j c' z g1 g2
theorem CL.push (x:CL K H A L1 L2 L3 L4 Cs) {c:Addr} (hc:H c=none):CL K (upd (upd H c (.lst [])) A.a5 (.lst (A.cs.map V.ref++[.ref c]))) { A with cs:=A.cs++[c] } L1 L2 L3 L4 (Cs++[[]]):=by
 obtain ⟨⟨n1,n2,n3,n4,n5,n6⟩,⟨m12,m13,m14,m15,m1⟩,⟨m23,m24,m25,m2⟩,⟨m34,m35,m3⟩,⟨m45,m4⟩,m5,m6⟩:=x.ne
 have f:=x.fresh hc
 have y:=x.off (o:=.lst []) f
 simp only [CAd.all,List.mem_cons,not_or] at f
 obtain ⟨f0,f1,f2,f3,f4,f5,f6⟩:=f
 refine ⟨by rw [upd_ne n5];exact y.ob,by rw [upd_ne m15];exact y.h1,by rw [upd_ne m25];exact y.h2,by rw [upd_ne m35];exact y.h3,by rw [upd_ne m45];exact y.h4,?_,by simp [x.cl],fun i c' z g1 g2=>?_,?_⟩
 ·show upd _ A.a5 _ A.a5=some (HO.lst ((A.cs++[c]).map V.ref))
  rw [upd_same,List.map_append]<;>rfl
 ·have g1:(A.cs++[c])[i]?=some c':=g1
  rcases Nat.lt_or_ge i A.cs.length with l | l
  ·rw [List.getElem?_append_left l] at g1
   rw [List.getElem?_append_left (by rw [← x.cl];exact l)] at g2
   rw [upd_ne (nin m5 (List.mem_of_getElem? g1))]
   exact y.cc i c' z g1 g2
  ·rw [List.getElem?_append_right l] at g1
   rw [List.getElem?_append_right (by rw [← x.cl];exact l)] at g2
   have e1:i - A.cs.length=0:=by
    have:=(List.getElem?_eq_some_iff.mp g1).1
    simp at this
    omega
   rw [e1] at g1
   rw [← x.cl,e1] at g2
   cases g1
   cases g2
   rw [upd_ne f5]
   exact upd_same
 ·show (A.p::A.a1::A.a2::A.a3::A.a4::A.a5::(A.cs++[c])).Nodup
  simp only [List.nodup_cons,List.mem_cons,List.mem_append,List.mem_singleton,not_or,List.not_mem_nil,or_false]
  refine ⟨⟨n1,n2,n3,n4,n5,n6,fun e=>f0 e.symm⟩,⟨m12,m13,m14,m15,m1,fun e=>f1 e.symm⟩,⟨m23,m24,m25,m2,fun e=>f2 e.symm⟩,⟨m34,m35,m3,fun e=>f3 e.symm⟩,⟨m45,m4,fun e=>f4 e.symm⟩,⟨m5,fun e=>f5 e.symm⟩,?_⟩
  exact List.nodup_append.mpr ⟨m6,List.nodup_cons.mpr ⟨List.not_mem_nil,List.nodup_nil⟩,fun a ha b hb=>by rw [List.mem_singleton.mp hb];exact fun e=>f6 (e ▸ ha)⟩
end
def CodeH (K:PySem.W.Frag) (F H:Hp) (A:CAd) (rows:List Row):Prop :=
 ∃ vs,CL K H A vs (rows.map fun r=>V.str (kindD r.d)) (rows.map fun r=>labD r.d) (rows.map fun r=>parV r.par) (rows.map fun r=>intsV r.ch)∧DpAll K F vs (rows.map Row.d)
def addCh (rows:List Row) (i n:Nat):List Row:=rows.modify i fun r=>{ r with ch:=r.ch++[n] }
def addRow (rows:List Row) (d:PyData) (par:Option Nat):List Row:=(match par with
 | none=>rows
 | some i=>addCh rows i rows.length)++[⟨d,par,[]⟩]
def sp_Code_check (K:PySem.W.Frag):Sp:=fun vs H Q _=>∃ (v0 v:V) (d:PyData) (n deep loops blocks:Int),vs=[v0,v,.int n,.int deep,.int loops,.int blocks]∧Dp K H v d∧PyData.canLay0 d=true∧szD d∧n<400∧deep≤100∧blocks≤25∧isStm d loops=true ∧
 ∀ H',Ex H H'→Q .non H'
section
variable {P:Program} {w:World} {h:Heap} {K:PySem.W.Frag} {mg:Str→Option Value} {base:Heap}
abbrev N_Code_check:List Str:=["self","value","number","deep","loops","blocks"]
theorem sc_Code_check:FnScope N_Code_check ["self","value","number","deep","loops","blocks"] (defScope sd_Code_check):=⟨rfl,rfl,rfl,by decide +kernel,rfl,by decide +kernel,by decide +kernel⟩
theorem ok_Code_check (T:Tx w h K mg):Ok P w K mg base 4 ("Code",some "check") ["self","value","number","deep","loops","blocks"] (sp_Code_check K):=by
 obtain ⟨fd,F⟩:=F_Code_check T
 refine ⟨fd,?_,F.bindsN (fun _ _ _ _ _ _ us hl=>match us,hl with | [_,_,_,_,_,_],_=>rfl),F.kp⟩
 obtain ⟨fd_is_statement,G_is_statement,bi_is_statement,kp_is_statement⟩:=ok_is_statement (P:=P) (base:=base) T
 obtain ⟨tm_MOST_BLOCKS,m_MOST_BLOCKS⟩:=i_MOST_BLOCKS T
 obtain ⟨tm_MOST_DEEP,m_MOST_DEEP⟩:=i_MOST_DEEP T
 obtain ⟨tm_MOST_STATEMENTS,m_MOST_STATEMENTS⟩:=i_MOST_STATEMENTS T
 refine F.ok sc_Code_check (fun vs H Q E h=>?_) (fun cdv A outer s H vs Q E hr h=>?_)
 ·obtain ⟨v0,v,d,n,deep,loops,blocks,rfl,hd,hc,hz,l1,l2,l3,hs,q⟩:=h
  rfl
 ·obtain ⟨v0,v,d,n,deep,loops,blocks,rfl,hd,hc,hz,l1,l2,l3,hs,q⟩:=h
  refine ⟨_,PSs.nox (pss_cons (ps_if (pt_cmpR op_ge (pv 2) (pe_glob (v:=.int 400) rfl m_MOST_STATEMENTS ⟨_,rfl⟩) (nomark _)) (pss_one ps_never) pss_nil) (pss_cons (ps_if (pt_cmpR op_gt (pv 3) (pe_glob (v:=.int 100) rfl m_MOST_DEEP ⟨_,rfl⟩) (nomark _)) (pss_one ps_never) pss_nil) (pss_cons (ps_if (pt_cmpR op_gt (pv 5) (pe_glob (v:=.int 25) rfl m_MOST_BLOCKS ⟨_,rfl⟩) (nomark _)) (pss_one ps_never) pss_nil) (pss_one (ps_if (pt_not (pt_val (pe_call G_is_statement (hr.mono (by decide)) rfl (g_is_statement T) kp_is_statement bi_is_statement .nil passF (pa_cons (pv 1) (pa_cons (pv 4) pa_nil))))) (pss_one ps_never) pss_nil))))),?_⟩
  refine ⟨_,rfl,_,_,rfl,rfl,_,rfl,itF (decide_eq_false (by omega)) ?_⟩
  refine ⟨_,rfl,_,_,rfl,rfl,_,rfl,itF (decide_eq_false (by omega)) ?_⟩
  refine ⟨_,rfl,_,_,rfl,rfl,_,rfl,itF (decide_eq_false (by omega)) ?_⟩
  refine ⟨_,rfl,_,rfl,v,d,loops,rfl,hd,hc,hz,fun H' x=>⟨_,rfl,itF (by rw [hs]<;>rfl) (q H' x)⟩⟩
end
end
section
theorem map_modify_same {α β:Type} (f:α→β) (g:α→α) (h:∀ x,f (g x)=f x) (l:List α) (i:Nat):(l.modify i g).map f=l.map f:=by
 apply List.ext_getElem?
 intro j
 rw [List.getElem?_map,List.getElem?_map,List.getElem?_modify]
 cases l[j]? with
 | none=>rfl
 | some x=>by_cases e:i=j<;>simp [e,h]
def noteCh (n:Nat) (r:Row):Row:={ r with ch:=r.ch++[n] }
theorem addCh_eq (rows:List Row) (i n:Nat):addCh rows i n=rows.modify i (noteCh n):=rfl
theorem addCh_len (rows:List Row) (i n:Nat):(addCh rows i n).length=rows.length:=by simp [addCh]
theorem addCh_map {β:Type} (f:Row→β) (rows:List Row) (i n:Nat) (h:∀ r,f (noteCh n r)=f r):(addCh rows i n).map f=rows.map f:=map_modify_same f (noteCh n) h rows i
theorem addCh_ch (rows:List Row) (i n:Nat) (r:Row) (h:rows[i]?=some r):(addCh rows i n).map (fun r=>intsV r.ch)=(rows.map fun r=>intsV r.ch).set i (intsV r.ch++[.int (n:Int)]):=by
 apply List.ext_getElem?
 intro j
 rw [addCh_eq,List.getElem?_map,List.getElem?_modify,List.getElem?_set,List.getElem?_map]
 have li:i<rows.length:=(List.getElem?_eq_some_iff.mp h).1
 by_cases e:i=j
 ·subst e
  rw [h]
  simp [noteCh,intsV,li]
 ·cases rows[j]?<;>simp [e]
def stepRows (rows:List Row) (par:Option Nat):List Row:=match par with
 | none=>rows
 | some i=>addCh rows i rows.length
theorem stepRows_len (rows:List Row) (par:Option Nat):(stepRows rows par).length=rows.length:=by
 cases par with
 | none=>rfl
 | some i=>exact addCh_len _ _ _
def sp_Code_keep (K:PySem.W.Frag):Sp:=fun vs H Q _=>∃ (F:Hp) (A:CAd) (rows:List Row) (v:V) (d:PyData) (loops:Int) (par:Option Nat),vs=[.ref A.p,v,parV par]∧Ex F H∧CodeH K F H A rows∧(∀ b∈A.all,F b=none)∧Dp K F v d∧isStm d loops=true ∧
 rows.length<1000∧(∀ i,par=some i→∃ r,rows[i]?=some r∧r.ch.length<1000) ∧
 ∀ c H',H c=none→CodeH K F H' { A with cs:=A.cs++[c] } (addRow rows d par)→(∀ b o,H b=some o→b ∉ A.all→H' b=some o)→Q .non H'
theorem stm_lab {k:Str} {r:List PyData} {loops:Int} (h:isStm (.tuple (.str k::r)) loops=true) (hk:k∈kLab):(∃ x r',r=.str x::r')∨∃ n r',r=.int n::r':=by
 obtain ⟨k',r',n,e,e1,hn,hs⟩:=isStm_shape h
 cases e
 rcases List.mem_append.mp hk with hk | hk
 ·rw [if_pos hk] at hs
  cases r with
  | nil=>cases hs
  | cons d r'=>cases d with
   | str x=>exact .inl ⟨x,r',rfl⟩
   | _=>cases hs
 ·by_cases h2:k∈kNamed
  ·rw [if_pos h2] at hs
   cases r with
   | nil=>cases hs
   | cons d r'=>cases d with
    | str x=>exact .inl ⟨x,r',rfl⟩
    | _=>cases hs
  ·rw [if_neg h2,if_pos hk] at hs
   cases r with
   | nil=>cases hs
   | cons d r'=>cases d with
    | int x=>exact .inr ⟨x,r',rfl⟩
    | _=>cases hs
theorem in_all1 (A:CAd):A.a1∈A.all:=by simp [CAd.all]
theorem in_all2 (A:CAd):A.a2∈A.all:=by simp [CAd.all]
theorem in_all3 (A:CAd):A.a3∈A.all:=by simp [CAd.all]
theorem in_all4 (A:CAd):A.a4∈A.all:=by simp [CAd.all]
theorem in_all5 (A:CAd):A.a5∈A.all:=by simp [CAd.all]
theorem in_allc {A:CAd} {c:Addr} (h:c∈A.cs):c∈A.all:=by simp [CAd.all,h]
section
variable {P:Program} {w:World} {h:Heap} {K:PySem.W.Frag} {mg:Str→Option Value} {base:Heap}
abbrev N_Code_keep:List Str:=["self","statement","parent"]
theorem sc_Code_keep:FnScope N_Code_keep ["self","statement","parent"] (defScope sd_Code_keep):=⟨rfl,rfl,rfl,by decide +kernel,rfl,by decide +kernel,by decide +kernel⟩
theorem ok_Code_keep (T:Tx w h K mg):Ok P w K mg base 1 ("Code",some "keep") ["self","statement","parent"] (sp_Code_keep K):=by
 obtain ⟨fd,F⟩:=F_Code_keep T
 refine ⟨fd,?_,F.bindsN (fun _ _ _ _ _ _ us hl=>match us,hl with | [_,_,_],_=>rfl),F.kp⟩
 refine F.ok sc_Code_keep (fun vs H Q E h=>?_) (fun cdv A outer s H vs Q E hr h=>?_)
 ·obtain ⟨F0,A,rows,v,d,loops,par,rfl,xF,⟨L1,C,dL⟩,nw,hd,hs,hl,hpar,q⟩:=h
  rfl
 ·obtain ⟨F0,A,rows,v,d,loops,par,rfl,xF,⟨L1,C,dL⟩,nw,hd,hs,hl,hpar,q⟩:=h
  refine ⟨_,PSs.nox (Evl.pss_cut (ps_if (pt_cmpR op_notN (pv 2) pe_non (nomark _)) (pss_one (ps_expr (pe_bm PySem.F.plainAttrs_list PySem.F.slot_list_append PySem.F.type_list_append mt_append (pe_ix ix_list (pe_fld (pv 0) rfl) (pv 2) (fun _ _=>rfl)) (pa_cons (pe_callB call_len_seq rfl (fr_len T) b_len (pa_cons (pe_fld (pv 0) rfl) pa_nil)) pa_nil)))) pss_nil) (pss_cons (ps_expr (pe_bm PySem.F.plainAttrs_list PySem.F.slot_list_append PySem.F.type_list_append mt_append (pe_fld (pv 0) rfl) (pa_cons (pv 1) pa_nil))) (pss_cons (ps_expr (pe_bm PySem.F.plainAttrs_list PySem.F.slot_list_append PySem.F.type_list_append mt_append (pe_fld (pv 0) rfl) (pa_cons (pe_ix ix_tup (pv 1) pe_int (fun _ _=>rfl)) pa_nil))) (Evl.pss_cut (ps_expr (pe_bm PySem.F.plainAttrs_list PySem.F.slot_list_append PySem.F.type_list_append mt_append (pe_fld (pv 0) rfl) (pa_cons (pe_ifExp (pt_cmpR op_in_seq (pe_ix ix_tup (pv 1) pe_int (fun _ _=>rfl)) (pe_op op_catT (pe_glob (v:=.ref (He.ga K "NAMED")) rfl (g_NAMED T) rfl) (pe_glob (v:=.ref (He.ga K "JUMPS")) rfl (g_JUMPS T) rfl)) (by rfl)) (pe_ix ix_tup (pv 1) pe_int (fun _ _=>rfl)) pe_non) pa_nil))) (pss_cons (ps_expr (pe_bm PySem.F.plainAttrs_list PySem.F.slot_list_append PySem.F.type_list_append mt_append (pe_fld (pv 0) rfl) (pa_cons (pv 2) pa_nil))) (pss_one (ps_expr (pe_bm PySem.F.plainAttrs_list PySem.F.slot_list_append PySem.F.type_list_append mt_append (pe_fld (pv 0) rfl) (pa_cons (pe_lst pa_nil) pa_nil))))))))),?_⟩
  obtain ⟨k,r,n,rfl,_,_,_⟩:=isStm_shape hs
  obtain ⟨a,xs,rfl,hS,hA⟩:=dp_tup hd
  cases hA with
  | @cons v0 xr _ _ h0 hA =>
  obtain rfl:=dp_str h0
  refine ⟨fun σ' H'=>σ'=L2.start N_Code_keep [.ref A.p,.ref a,parV par]∧CL K H' A L1 (rows.map fun r=>V.str (kindD r.d)) (rows.map fun r=>labD r.d) (rows.map fun r=>parV r.par) ((stepRows rows par).map fun r=>intsV r.ch)∧Ex F0 H'∧(∀ b o,H b=some o→b ∉ A.all→H' b=some o)∧(∀ b,H' b=none→H b=none),?_,?_⟩
  ·refine ⟨_,rfl,rfl,_,rfl,ite_of (fun h1=>?_) (fun h1=>?_)⟩
   ·cases par with
    | none=>cases h1
    | some i =>
    obtain ⟨ri,e1,e2⟩:=hpar i rfl
    have li:i<A.cs.length:=by rw [C.cl,List.length_map];exact (List.getElem?_eq_some_iff.mp e1).1
    have hci:A.cs[i]?=some A.cs[i]:=List.getElem?_eq_getElem li
    have hcm:A.cs[i]∈A.cs:=List.getElem_mem li
    have hcc:=C.cc i _ _ hci (show (rows.map fun r=>intsV r.ch)[i]?=some (intsV ri.ch) from by rw [List.getElem?_map,e1]<;>rfl)
    refine ⟨_,rfl,A.p,_,_,_,_,rfl,C.ob,c_Code T,na_Code_children T,fl_Code_children _ _ _ _ _,_,rfl,A.a5,_,_,.ref A.cs[i],rfl,rfl,Evl.sq_of C.h5,atI_nat (by rw [List.getElem?_map,hci]<;>rfl),Or.inl ⟨rfl,_,Evl.sq_of hcc⟩,?_⟩
    refine ⟨_,rfl,A.p,_,_,_,_,rfl,C.ob,c_Code T,na_Code_kinds T,fl_Code_kinds _ _ _ _ _,A.a2,_,rfl,.inl (Evl.sq_of C.h2),A.cs[i],_,_,rfl,rfl,hcc,szl (by rw [intsV,List.length_map];omega),?_⟩
    refine ⟨rfl,?_,exm xF (nw _ (in_allc hcm)),fun b o e hb=>by rw [upd_ne (fun z=>hb (by rw [z];exact in_allc hcm))];exact e,fun b e=>?_⟩
    ·have y:=C.child hci (intsV ri.ch++[.int ((rows.map fun r=>V.str (kindD r.d)).length:Int)])
     have e3:(stepRows rows (some i)).map (fun r=>intsV r.ch)=(rows.map fun r=>intsV r.ch).set i (intsV ri.ch++[.int ((rows.map fun r=>V.str (kindD r.d)).length:Int)]):=by
      rw [List.length_map]
      exact addCh_ch rows i rows.length ri e1
     rw [e3]
     exact y
    ·by_cases z:b=A.cs[i]
     ·rw [z,upd_same] at e
      cases e
     ·rw [upd_ne z] at e
      exact e
   ·cases par with
    | some i=>cases h1
    | none=>exact ⟨rfl,C,xF,fun b o e _=>e,fun b e=>e⟩
  rintro σ' H1 ⟨rfl,C1,xF1,kp1,fr1⟩
  have es:(stepRows rows par).map (fun r=>V.str (kindD r.d))=rows.map (fun r=>V.str (kindD r.d)):=by cases par with
   | none=>rfl
   | some i=>exact addCh_map _ rows i _ fun _=>rfl
  have el:(stepRows rows par).map (fun r=>labD r.d)=rows.map (fun r=>labD r.d):=by cases par with
   | none=>rfl
   | some i=>exact addCh_map _ rows i _ fun _=>rfl
  have ep:(stepRows rows par).map (fun r=>parV r.par)=rows.map (fun r=>parV r.par):=by cases par with
   | none=>rfl
   | some i=>exact addCh_map _ rows i _ fun _=>rfl
  have ed:(stepRows rows par).map Row.d=rows.map Row.d:=by cases par with
   | none=>rfl
   | some i=>exact addCh_map _ rows i _ fun _=>rfl
  have l1:L1.length=rows.length:=by rw [dpA_len dL,List.length_map]
  refine ⟨_,rfl,A.p,_,_,_,_,rfl,C1.ob,c_Code T,na_Code_statements T,fl_Code_statements _ _ _ _ _,Or.inl ⟨rfl,_,Evl.sq_of C1.h1⟩,_,rfl,A.a1,_,_,rfl,rfl,C1.h1,szl (by omega),?_⟩
  have C2:=C1.s1 (L1++[.ref a])
  have xF2:=exm (o:=.lst (L1++[.ref a])) xF1 (nw _ (in_all1 A))
  refine ⟨_,rfl,A.p,_,_,_,_,rfl,C2.ob,c_Code T,na_Code_kinds T,fl_Code_kinds _ _ _ _ _,Or.inl ⟨rfl,_,Evl.sq_of C2.h2⟩,_,rfl,a,_,_,_,rfl,rfl,Evl.ex_t xF2 hS,at0,A.a2,_,_,rfl,rfl,C2.h2,szl (by rw [List.length_map];omega),?_⟩
  have C3:=C2.s2 (rows.map (fun r=>V.str (kindD r.d))++[.str k])
  have xF3:=exm (o:=.lst (rows.map (fun r=>V.str (kindD r.d))++[.str k])) xF2 (nw _ (in_all2 A))
  refine ⟨fun σ' H'=>σ'=L2.start N_Code_keep [.ref A.p,.ref a,parV par]∧CL K H' A (L1++[.ref a]) (rows.map (fun r=>V.str (kindD r.d))++[.str k]) (rows.map (fun r=>labD r.d)++[labD (.tuple (.str k::r))]) (rows.map fun r=>parV r.par) ((stepRows rows par).map fun r=>intsV r.ch)∧Ex F0 H'∧(∀ b o,H b=some o→b ∉ A.all→H' b=some o)∧(∀ b,H' b=none→H b=none),?_,?_⟩
  ·refine ⟨_,rfl,A.p,_,_,_,_,rfl,C3.ob,c_Code T,na_Code_labels T,fl_Code_labels _ _ _ _ _,Or.inl ⟨rfl,_,Evl.sq_of C3.h3⟩,_,rfl,a,_,_,_,rfl,rfl,Evl.ex_t xF3 hS,at0,He.ga K "NAMED",He.ga K "JUMPS",_,_,rfl,rfl,t_NAMED T _,t_JUMPS T _,(by simp),sz (by decide),(fun z=>by cases z),fun _ p0 hp0=>?_⟩
   have C4:=C3.off (o:=.tup (kLab.map V.str)) (C3.fresh hp0)
   have xF4:Ex F0 _:=exu (o:=.tup (kLab.map V.str)) xF3 hp0
   have fin:∀ (o1 o2 o4:HO) (H5:Hp),H5=upd (upd (upd (upd H1 A.a1 o1) A.a2 o2) p0 (.tup (kLab.map V.str))) A.a3 o4→(∀ b o,H b=some o→b ∉ A.all→H5 b=some o)∧(∀ b,H5 b=none→H b=none):=by
    intro o1 o2 o4 H5 e5
    subst e5
    have back:∀ {Hx:Hp} {q b:Addr} {o:HO},upd Hx q o b=none→Hx b=none:=fun {Hx q b o} e=>by
     by_cases z:b=q
     ·rw [z,upd_same] at e;cases e
     ·rw [upd_ne z] at e;exact e
    refine ⟨fun b o e hb=>?_,fun b e=>fr1 b (back (back (back (back e))))⟩
    have e1:=kp1 b o e hb
    have np:b≠p0:=fun z=>by
     have y:H1 p0=none:=by
      have y1:=back (back hp0)
      exact y1
     rw [z,y] at e1
     cases e1
    rw [upd_ne (fun z=>hb (by rw [z];exact in_all3 A)),upd_ne np,upd_ne (fun z=>hb (by rw [z];exact in_all2 A)),upd_ne (fun z=>hb (by rw [z];exact in_all1 A))]
    exact e1
   have tail:∀ u,u=labD (.tuple (.str k::r))→rAppend (.ref A.a3) [u] (upd (upd (upd H1 A.a1 (.lst (L1++[.ref a]))) A.a2 (.lst (rows.map (fun r=>V.str (kindD r.d))++[.str k]))) p0 (.tup (kLab.map V.str))) (fun _ H'=>L2.start N_Code_keep [.ref A.p,.ref a,parV par]=L2.start N_Code_keep [.ref A.p,.ref a,parV par]∧CL K H' A (L1++[.ref a]) (rows.map (fun r=>V.str (kindD r.d))++[.str k]) (rows.map (fun r=>labD r.d)++[labD (.tuple (.str k::r))]) (rows.map fun r=>parV r.par) ((stepRows rows par).map fun r=>intsV r.ch)∧Ex F0 H'∧(∀ b o,H b=some o→b ∉ A.all→H' b=some o)∧(∀ b,H' b=none→H b=none)):=by
    rintro u rfl
    obtain ⟨f1,f2⟩:=fin (.lst (L1++[.ref a])) (.lst (rows.map (fun r=>V.str (kindD r.d))++[.str k])) (.lst (rows.map (fun r=>labD r.d)++[labD (.tuple (.str k::r))])) _ rfl
    exact ⟨A.a3,_,_,rfl,rfl,C4.h3,szl (by rw [List.length_map];omega),rfl,C4.s3 _,exm xF4 (nw _ (in_all3 A)),f1,f2⟩
   refine ⟨p0,kLab.map V.str,rfl,.inr (Evl.st_of upd_same),rfl,flat_strs kLab,_,rfl,ite_of (fun h2=>?_) (fun h2=>?_)⟩
   ·have h2:inV (.str k) (kLab.map V.str)=true:=h2
    rw [inV_strs] at h2
    have hm:=of_decide_eq_true h2
    rcases stm_lab hs hm with ⟨x,r',rfl⟩ | ⟨x,r',rfl⟩
    ·cases hA with
     | @cons v1 xr' _ _ g1 hA =>
     obtain rfl:=dp_str g1
     refine ⟨_,rfl,a,_,_,_,rfl,rfl,Evl.ex_t xF4 hS,at1,tail _ ?_⟩
     simp only [labD,if_pos hm]
    ·cases hA with
     | @cons v1 xr' _ _ g1 hA =>
     obtain rfl:=dp_int g1
     refine ⟨_,rfl,a,_,_,_,rfl,rfl,Evl.ex_t xF4 hS,at1,tail _ ?_⟩
     simp only [labD,if_pos hm]
   ·have h2:inV (.str k) (kLab.map V.str)=false:=h2
    rw [inV_strs] at h2
    have hm:¬ k∈kLab:=of_decide_eq_false h2
    refine tail _ ?_
    simp only [labD,if_neg hm]
  rintro σ' H5 ⟨rfl,C5,xF5,kp5,fr5⟩
  refine ⟨_,rfl,A.p,_,_,_,_,rfl,C5.ob,c_Code T,na_Code_parents T,fl_Code_parents _ _ _ _ _,Or.inl ⟨rfl,_,Evl.sq_of C5.h4⟩,_,rfl,A.a4,_,_,rfl,rfl,C5.h4,szl (by rw [List.length_map];omega),?_⟩
  have C6:=C5.s4 (rows.map (fun r=>parV r.par)++[parV par])
  refine ⟨_,rfl,A.p,_,_,_,_,rfl,C6.ob,c_Code T,na_Code_children T,fl_Code_children _ _ _ _ _,Or.inl ⟨rfl,_,Evl.sq_of C6.h5⟩,sz (by decide),fun c hc=>?_⟩
  have nc5:A.a5≠c:=fun z=>C6.fresh hc (by rw [← z];exact in_all5 A)
  refine ⟨A.a5,_,_,rfl,rfl,by rw [upd_ne nc5];exact C6.h5,szl (by rw [List.length_map,C6.cl,List.length_map,stepRows_len];omega),?_⟩
  have C7:=C6.push hc
  have nc4:c≠A.a4:=fun z=>C6.fresh hc (by rw [z];exact in_all4 A)
  have hcH:H c=none:=fr5 c (by rw [upd_ne nc4] at hc;exact hc)
  have ea:addRow rows (.tuple (.str k::r)) par=stepRows rows par++[⟨.tuple (.str k::r),par,[]⟩]:=by cases par<;>rfl
  refine q c _ hcH ⟨L1++[.ref a],?_,?_⟩ fun b o e hb=>?_
  ·rw [ea,List.map_append,List.map_append,List.map_append,List.map_append,es,el,ep]
   exact C7
  ·rw [ea,List.map_append,ed]
   exact dpA_app dL (.cons hd .nil)
  ·have e5:=kp5 b o e hb
   have ncb:b≠c:=fun z=>by rw [z,hcH] at e;cases e
   rw [upd_ne (fun z=>hb (by rw [z];exact in_all5 A)),upd_ne ncb,upd_ne (fun z=>hb (by rw [z];exact in_all4 A))]
   exact e5
end
end
section
structure WIt where
 d:PyData
 par:Option Nat
 deep:Nat
 loops:Nat
 blocks:Nat
def okIt (it:WIt) (n:Nat):Prop:=n<400∧it.deep≤100∧it.blocks≤25∧isStm it.d (it.loops:Int)=true
def newIt (it:WIt) (n:Nat) (at_:Nat) (part:PyData):WIt :=
 ⟨part,some n,it.deep + 1,it.loops + (if kindD it.d="while" then 1 else 0),it.blocks + (if kindD it.d="final"∧at_=1 then 1 else 0)⟩
def newIts (it:WIt) (n:Nat):List WIt:=(partsD it.d).mapIdx fun i p=>newIt it n i p
inductive Builds:Nat→List WIt→List Row→List Row→Prop
 | done (rows:List Row):Builds 0 [] rows rows
 | step {n:Nat} {it:WIt} {st:List WIt} {rows fin:List Row} (ok:okIt it rows.length) (h:Builds n (newIts it rows.length++st) (addRow rows it.d it.par) fin):Builds (n + 1) (it::st) rows fin
theorem Builds.len {m:Nat} {st:List WIt} {rows fin:List Row} (b:Builds m st rows fin):st.length≤m:=by
 induction b with
 | done=>exact Nat.le_refl _
 | step ok h ih =>
  rw [List.length_append] at ih
  rw [List.length_cons]
  omega
def wV (v:V) (it:WIt):List V:=[v,parV it.par,.int (it.deep:Int),.int (it.loops:Int),.int (it.blocks:Int)]
def parD:Option Nat→PyData
 | none=>.none
 | some i=>.int (i:Int)
def wD (it:WIt):PyData:=.tuple [it.d,parD it.par,.int (it.deep:Int),.int (it.loops:Int),.int (it.blocks:Int)]
inductive WAt (K:PySem.W.Frag) (F:Hp):List Addr→List WIt→Prop
 | nil:WAt K F [] []
 | cons {t:Addr} {ts:List Addr} {it:WIt} {st:List WIt} {v:V} (h:F t=some (.tup (wV v it))) (hd:Dp K F v it.d) (r:WAt K F ts st):WAt K F (t::ts) (it::st)
theorem WAt.ex {K:PySem.W.Frag} {F F':Hp} (e:Ex F F'):∀ {ts:List Addr} {st:List WIt},WAt K F ts st→WAt K F' ts st
 | _,_,.nil=>.nil
 | _,_,.cons h hd r=>.cons (e _ _ h) (dp_ex e hd) (WAt.ex e r)
theorem WAt.len {K:PySem.W.Frag} {F:Hp}:∀ {ts:List Addr} {st:List WIt},WAt K F ts st→ts.length=st.length
 | _,_,.nil=>rfl
 | _,_,.cons _ _ r=>congrArg Nat.succ (WAt.len r)
theorem dp_par {K:PySem.W.Frag} {F:Hp} (o:Option Nat):Dp K F (parV o) (parD o):=by
 cases o with
 | none=>exact .non
 | some i=>exact .int _
theorem WAt.dp {K:PySem.W.Frag} {F:Hp}:∀ {ts:List Addr} {st:List WIt},WAt K F ts st→DpAll K F (ts.map V.ref) (st.map wD)
 | _,_,.nil=>.nil
 | _,_,.cons h hd r=>.cons (.tup (Evl.st_of h) (.cons hd (.cons (dp_par _) (.cons (.int _) (.cons (.int _) (.cons (.int _) .nil)))))) (WAt.dp r)
theorem dpA_rev {K:PySem.W.Frag} {F:Hp}:∀ {ds:List PyData} {vs:List V},DpAll K F vs ds→DpAll K F vs.reverse ds.reverse
 | _,_,.nil=>.nil
 | _,_,.cons h a=>by
  rw [List.reverse_cons,List.reverse_cons]
  exact dpA_app (dpA_rev a) (.cons h .nil)
theorem canAll {l:List PyData} (h:∀ d∈l,PyData.canLay0 d=true):PyData.canLayAll0 l=true:=by
 induction l with
 | nil=>rfl
 | cons a l ih =>
  show (PyData.canLay0 a && PyData.canLayAll0 l)=true
  rw [h a List.mem_cons_self,ih fun d hd=>h d (List.mem_cons_of_mem _ hd)]<;>rfl
theorem can_wD {it:WIt} (h:PyData.canLay0 it.d=true):PyData.canLay0 (wD it)=true:=by
 show (PyData.canLay0 it.d && (PyData.canLay0 (parD it.par) && (PyData.canLay0 (.int _) && (PyData.canLay0 (.int _) && (PyData.canLay0 (.int _) && PyData.canLayAll0 [])))))=true
 rw [h]
 cases it.par<;>rfl
theorem eqv_lnil (ds:List PyData):PyData.eqv (.list ds) (.list [])=ds.isEmpty:=by
 cases ds<;>simp [PyData.eqv,PyData.eqvAll]
theorem min_lnil (d:PyData):min d.depth (PyData.list []).depth≤200:=Nat.le_trans (Nat.min_le_right _ _) (by decide)
def sp_Code___init__ (K:PySem.W.Frag):Sp:=fun vs H Q _=>∃ (F:Hp) (p dx:Addr) (v:V) (d:PyData) (G:PyData→Prop) (N:Nat) (fin:List Row),vs=[.ref p,v]∧H p=some (.ins (He.ga K "Code") dx [])∧Ex F H∧F p=none∧Dp K F v d ∧
 (∀ e,G e→PyData.canLay0 e=true∧szD e∧∀ x∈partsD e,G x)∧G d∧Builds N [⟨d,none,1,0,0⟩] [] fin ∧
 ∀ A F' H',A.p=p→Gr (fun b=>b=p) F H F' H'→CodeH K F' F' A fin→Q .non H'
theorem nn_of {H:Hp} {a b:Addr} {o:HO} (h:H a=none) (h':H b=some o):b≠a:=ne_of_none h' h
theorem up_none {H:Hp} {a b:Addr} {o:HO} (h:upd H a o b=none):b≠a∧H b=none:=by
 by_cases z:b=a
 ·rw [z,upd_same] at h;cases h
 ·rw [upd_ne z] at h;exact ⟨z,h⟩
structure InW (K:PySem.W.Frag) (F0 H:Hp) (p wq:Addr) (Gd:PyData→Prop) (st:List WIt) (rows:List Row) (A:CAd) (ts:List Addr) (F' H':Hp):Prop where
 ap:A.p=p
 code:CodeH K F' H' A rows
 na:∀ b∈A.all,F' b=none
 wa:wq ∉ A.all
 fw:F' wq=none
 wl:H' wq=some (.lst (ts.map V.ref).reverse)
 wi:WAt K F' ts st
 ff:Ex F0 F'
 fh:Ex F' H'
 nw:∀ b,H b≠none→F0 b=none→F' b=none
 kp:∀ b o,H b=some o→b≠p→H' b=some o
 nh:∀ b∈A.all,b=p∨H b=none
 hw:H wq=none
 it:∀ i∈st,Gd i.d∧∀ j,i.par=some j→j<rows.length
 ch:∀ r∈rows,r.ch.length≤rows.length
theorem InW.fresh {K:PySem.W.Frag} {F0 H F' H':Hp} {p wq:Addr} {Gd:PyData→Prop} {st:List WIt} {rows:List Row} {A:CAd} {ts:List Addr} (x:InW K F0 H p wq Gd st rows A ts F' H') {c:Addr} (h:H' c=none):H c=none∧F' c=none∧c ∉ A.all∧c≠wq:=by
 obtain ⟨vs,C,_⟩:=x.code
 have n:c ∉ A.all:=C.fresh h
 have np:c≠p:=fun z=>n (by rw [z,← x.ap];simp [CAd.all])
 refine ⟨?_,?_,n,fun z=>by rw [z,x.wl] at h;cases h⟩
 ·cases e:H c with
  | none=>rfl
  | some o=>rw [x.kp c o e np] at h;cases h
 ·cases e:F' c with
  | none=>rfl
  | some o=>rw [x.fh c o e] at h;cases h
section
variable {K:PySem.W.Frag} {F0 H F' H' F2 H2:Hp} {p wq:Addr} {Gd:PyData→Prop} {st:List WIt} {rows:List Row} {A:CAd} {ts:List Addr}
theorem CodeH.ex {F F2 H H2:Hp} (c:CodeH K F H A rows) (e1:Ex F F2) (e2:Ex H H2):CodeH K F2 H2 A rows:=by
 obtain ⟨vs,C,dL⟩:=c
 exact ⟨vs,C.ex e2,dpA_ex e1 dL⟩
theorem InW.tr (x:InW K F0 H p wq Gd st rows A ts F' H') {b:Addr} (hb:b∈A.all):H' b≠none:=fun z=>by
 obtain ⟨vs,C,_⟩:=x.code
 exact C.fresh z hb
theorem InW.there (x:InW K F0 H p wq Gd st rows A ts F' H') {b:Addr} (hb:H b≠none):H' b≠none:=by
 by_cases z:b=p
 ·exact x.tr (by rw [z,← x.ap];simp [CAd.all])
 ·intro y
  cases e:H b with
  | none=>exact hb e
  | some o=>rw [x.kp b o e z] at y;cases y
theorem InW.ext (x:InW K F0 H p wq Gd st rows A ts F' H') (e1:Ex F' F2) (e2:Ex F2 H2) (e3:Ex H' H2) (e4:∀ b,H' b≠none→F' b=none→F2 b=none):InW K F0 H p wq Gd st rows A ts F2 H2 :=
 ⟨x.ap,x.code.ex e1 e3,fun b hb=>e4 b (x.tr hb) (x.na b hb),x.wa,e4 wq (by rw [x.wl];exact fun z=>nomatch z) x.fw,e3 _ _ x.wl,x.wi.ex e1,x.ff.trans e1,e2,fun b h1 h2=>e4 b (x.there h1) (x.nw b h1 h2),fun b o e hb=>e3 b o (x.kp b o e hb),x.nh,x.hw,x.it,x.ch⟩
theorem InW.new (x:InW K F0 H p wq Gd st rows A ts F' H') {q:Addr} {o:HO} (h:H' q=none):InW K F0 H p wq Gd st rows A ts F' (upd H' q o) :=
 x.ext (Evl.Ex.refl _) (exu x.fh h) (exu (Evl.Ex.refl _) h) fun _ _ e=>e
theorem InW.pop {it:WIt} {t:Addr} (x:InW K F0 H p wq Gd (it::st) rows A (t::ts) F' H'):InW K F0 H p wq Gd st rows A ts F' (upd H' wq (.lst (ts.map V.ref).reverse)):=by
 obtain ⟨vs,C,dL⟩:=x.code
 refine ⟨x.ap,⟨vs,C.off x.wa,dL⟩,x.na,x.wa,x.fw,upd_same,?_,x.ff,exm x.fh x.fw,x.nw,fun b o e hb=>?_,x.nh,x.hw,fun i hi=>x.it i (List.mem_cons_of_mem _ hi),x.ch⟩
 ·cases x.wi with
  | cons _ _ r=>exact r
 ·rw [upd_ne (nn_of x.hw e)]
  exact x.kp b o e hb
theorem addRow_len (rows:List Row) (d:PyData) (par:Option Nat):(addRow rows d par).length=rows.length + 1:=by
 cases par with
 | none=>simp [addRow]
 | some i=>simp [addRow,addCh]
theorem Builds.bd {m:Nat} {st:List WIt} {rows fin:List Row} (b:Builds m st rows fin):m=0∨rows.length + m≤400:=by
 induction b with
 | done=>exact .inl rfl
 | step ok h ih =>
  rw [addRow_len] at ih
  have:=ok.1
  omega
theorem addRow_ch {rows:List Row} {d:PyData} {par:Option Nat} (h:∀ r∈rows,r.ch.length≤rows.length):∀ r∈addRow rows d par,r.ch.length≤(addRow rows d par).length:=by
 rw [addRow_len]
 intro r hr
 rcases List.mem_append.mp hr with hr | hr
 ·cases par with
  | none =>
   have:=h r hr
   omega
  | some i =>
   have hr:r∈addCh rows i rows.length:=hr
   obtain ⟨j,hj⟩:=List.mem_iff_getElem?.mp hr
   rw [addCh_eq,List.getElem?_modify] at hj
   cases e:rows[j]? with
   | none=>rw [e] at hj;simp at hj
   | some r0 =>
    rw [e] at hj
    have h0:=h r0 (List.mem_of_getElem? e)
    by_cases z:i=j
    ·simp [z] at hj
     rw [← hj]
     simp [noteCh]
     omega
    ·simp [z] at hj
     rw [← hj]
     omega
 ·rw [List.mem_singleton.mp hr]
  simp
theorem InW.kept (x:InW K F0 H p wq Gd st rows A ts F' H') {c:Addr} {d:PyData} {par:Option Nat} (hc:H' c=none) (cd:CodeH K F' H2 { A with cs:=A.cs++[c] } (addRow rows d par)) (kp:∀ b o,H' b=some o→b ∉ A.all→H2 b=some o) :
  InW K F0 H p wq Gd st (addRow rows d par) { A with cs:=A.cs++[c] } ts F' H2:=by
 obtain ⟨f1,f2,f3,f4⟩:=x.fresh hc
 have mem:∀ b,b∈({ A with cs:=A.cs++[c] }:CAd).all→b∈A.all∨b=c:=fun b hb=>by
  simp only [CAd.all,List.mem_cons,List.mem_append,List.not_mem_nil,or_false] at hb ⊢
  rcases hb with h | h | h | h | h | h | h | h<;>simp [h]
 refine ⟨x.ap,cd,fun b hb=>?_,fun hb=>?_,x.fw,kp _ _ x.wl x.wa,x.wi,x.ff,fun b o e=>kp b o (x.fh b o e) (fun z=>by rw [x.na b z] at e;cases e),x.nw,fun b o e hb=>?_,fun b hb=>?_,x.hw,fun i hi=>⟨(x.it i hi).1,fun j e=>?_⟩,addRow_ch x.ch⟩
 ·rcases mem b hb with h | h
  ·exact x.na b h
  ·rw [h];exact f2
 ·rcases mem wq hb with h | h
  ·exact x.wa h
  ·exact f4 h.symm
 ·refine kp b o (x.kp b o e hb) fun z=>?_
  rcases x.nh b z with y | y
  ·exact hb y
  ·rw [y] at e;cases e
 ·rcases mem b hb with h | h
  ·exact x.nh b h
  ·rw [h];exact .inr f1
 ·rw [addRow_len]
  have:=(x.it i hi).2 j e
  omega
theorem InW.push {it:WIt} {t:Addr} {v:V} (x:InW K F0 H p wq Gd st rows A ts F' H') (ht:H' t=none) (hd:Dp K F' v it.d) (hit:Gd it.d∧∀ j,it.par=some j→j<rows.length) :
  InW K F0 H p wq Gd (it::st) rows A (t::ts) (upd F' t (.tup (wV v it))) (upd (upd H' t (.tup (wV v it))) wq (.lst (((t::ts).map V.ref).reverse))):=by
 obtain ⟨f1,f2,f3,f4⟩:=x.fresh ht
 have x1:=x.ext (F2:=upd F' t (.tup (wV v it))) (H2:=upd H' t (.tup (wV v it))) (exu (Evl.Ex.refl _) f2) (fun b o e=>by
   by_cases z:b=t
   ·rw [z,upd_same] at e ⊢;exact e
   ·rw [upd_ne z] at e ⊢;exact x.fh b o e) (exu (Evl.Ex.refl _) ht) (fun b h1 h2=>by rw [upd_ne (fun z=>h1 (by rw [z];exact ht))];exact h2)
 obtain ⟨vs,C,dL⟩:=x1.code
 refine ⟨x.ap,⟨vs,C.off x.wa,dL⟩,x1.na,x.wa,x1.fw,upd_same,.cons upd_same (dp_ex (exu (Evl.Ex.refl _) f2) hd) x1.wi,x1.ff,exm x1.fh x1.fw,x1.nw,fun b o e hb=>?_,x.nh,x.hw,fun i hi=>?_,x.ch⟩
 ·rw [upd_ne (nn_of x.hw e)]
  exact x1.kp b o e hb
 ·rcases List.mem_cons.mp hi with rfl | hi
  ·exact hit
  ·exact x.it i hi
end
theorem newIts_len (it:WIt) (n:Nat):(newIts it n).length=(partsD it.d).length:=by simp [newIts]
theorem newIts_get {it:WIt} {n j:Nat} {d:PyData} (h:(partsD it.d)[j]?=some d):(newIts it n)[j]?=some (newIt it n j d):=by
 unfold newIts
 rw [List.getElem?_mapIdx,h]<;>rfl
theorem wV_new (v:V) (it:WIt) (n j:Nat) (d:PyData):wV v (newIt it n j d)=[v,.int (n:Int),.int ((it.deep:Int) + 1),.int ((it.loops:Int) + (if decide (V.str (kindD it.d)=V.str "while")=true then 1 else 0)),
  .int ((it.blocks:Int) + (if kindD it.d="final"∧j=1 then 1 else 0))]:=by
 have e1:((it.deep + 1:Nat):Int)=(it.deep:Int) + 1:=by omega
 have e2:((it.loops + (if kindD it.d="while" then 1 else 0):Nat):Int)=(it.loops:Int) + (if decide (V.str (kindD it.d)=V.str "while")=true then 1 else 0):=by
  by_cases z:kindD it.d="while"
  ·rw [if_pos z,if_pos (decide_eq_true (by rw [z]))]<;>omega
  ·rw [if_neg z,if_neg (fun y=>z (V.str.inj (of_decide_eq_true y)))]<;>omega
 have e3:((it.blocks + (if kindD it.d="final"∧j=1 then 1 else 0):Nat):Int)=(it.blocks:Int) + (if kindD it.d="final"∧j=1 then 1 else 0):=by
  by_cases z:kindD it.d="final"∧j=1
  ·rw [if_pos z,if_pos z]<;>omega
  ·rw [if_neg z,if_neg z]<;>omega
 show [v,V.int (n:Int),V.int ((it.deep + 1:Nat):Int),V.int ((it.loops + (if kindD it.d="while" then 1 else 0):Nat):Int),V.int ((it.blocks + (if kindD it.d="final"∧j=1 then 1 else 0):Nat):Int)]=_
 rw [e1,e2,e3]
section
variable {P:Program} {w:World} {h:Heap} {K:PySem.W.Frag} {mg:Str→Option Value} {base:Heap}
abbrev N_Code___init__:List Str:=["self","statement","waiting","value","parent","deep","loops","blocks","number","at","part","inside"]
theorem sc_Code___init__:FnScope N_Code___init__ ["self","statement"] (defScope sd_Code___init__):=⟨rfl,rfl,rfl,by decide +kernel,rfl,by decide +kernel,by decide +kernel⟩
theorem okF_Code___init__ (T:Tx w h K mg):∃ fd,FnOk P w K mg base (CX P w) 6 (He.fAd K ("Code",some "__init__")) fd ["self","statement"] (sp_Code___init__ K)∧Binds K fd ["self","statement"] []∧PySem.W.keepIn K (.ref (He.fAd K ("Code",some "__init__")))=true∧FunD K "__init__" "Code.__init__" (defArgs sd_Code___init__) (defBody sd_Code___init__) (defScope sd_Code___init__) [] [] (He.fAd K ("Code",some "__init__")) fd:=by
 obtain ⟨fd,F⟩:=F_Code___init__ T
 refine ⟨fd,?_,F.bindsN (fun _ _ _ _ _ _ us hl=>match us,hl with | [_,_],_=>rfl),F.kp,F⟩
 obtain ⟨fd_parts_in,G_parts_in,bi_parts_in,kp_parts_in⟩:=ok_parts_in (P:=P) (base:=base) T
 obtain ⟨fd_Code_check,G_Code_check,bi_Code_check,kp_Code_check⟩:=ok_Code_check (P:=P) (base:=base) T
 obtain ⟨fd_Code_keep,G_Code_keep,bi_Code_keep,kp_Code_keep⟩:=ok_Code_keep (P:=P) (base:=base) T
 refine F.ok sc_Code___init__ (fun vs H Q E h=>?_) (fun cdv A outer s H vs Q E hr h=>?_)
 ·obtain ⟨F0,p,dx,v,d,Gd,N,fin,rfl,hp,xF,Fp,hd,hG,hGd,hB,q⟩:=h
  rfl
 ·obtain ⟨F0,p,dx,v,d,Gd,N,fin,rfl,hp,xF,Fp,hd,hG,hGd,hB,q⟩:=h
  refine ⟨_,PSs.nox (Evl.pss_cut (ps_asg (pe_tup (pa_cons (pe_lst pa_nil) (pa_cons (pe_lst pa_nil) (pa_cons (pe_lst pa_nil) pa_nil)))) (pg_tup rfl (pgs_cons (FcR.pg_fld (pv 0)) (pgs_cons (FcR.pg_fld (pv 0)) (pgs_cons (FcR.pg_fld (pv 0)) pgs_nil))))) (Evl.pss_cut (ps_asg (pe_tup (pa_cons (pe_lst pa_nil) (pa_cons (pe_lst pa_nil) pa_nil))) (pg_tup rfl (pgs_cons (FcR.pg_fld (pv 0)) (pgs_cons (FcR.pg_fld (pv 0)) pgs_nil)))) (pss_cons (ps_set (i:=2) sc_Code___init__.nd rfl (Or.inl rfl) (pe_lst (pa_cons (pe_tup (pa_cons (pv 1) (pa_cons pe_non (pa_cons pe_int (pa_cons pe_int (pa_cons pe_int pa_nil)))))) pa_nil))) (pss_one (ps_while PassesOwn.never (pt_cmpR (op_neM hr) (pv 2) (pe_lst pa_nil) (nomark _)) (pss_cons (ps_asg (pe_bm0 PySem.F.plainAttrs_list PySem.F.slot_list_pop PySem.F.type_list_pop mt_pop (pv 2)) (pg_tup rfl (pgs_cons (pg_name (i:=3) sc_Code___init__.nd rfl (Or.inl rfl)) (pgs_cons (pg_name (i:=4) sc_Code___init__.nd rfl (Or.inl rfl)) (pgs_cons (pg_name (i:=5) sc_Code___init__.nd rfl (Or.inl rfl)) (pgs_cons (pg_name (i:=6) sc_Code___init__.nd rfl (Or.inl rfl)) (pgs_cons (pg_name (i:=7) sc_Code___init__.nd rfl (Or.inl rfl)) pgs_nil))))))) (pss_cons (ps_set (i:=8) sc_Code___init__.nd rfl (Or.inl rfl) (pe_callB call_len_seq rfl (fr_len T) b_len (pa_cons (pe_fld (pv 0) rfl) pa_nil))) (pss_cons (ps_expr (pe_meth (pv 0) (c_Code T) (me_Code_check T) G_Code_check (hr.mono (by decide)) bi_Code_check .nil passF (pa_cons (pv 3) (pa_cons (pv 8) (pa_cons (pv 5) (pa_cons (pv 6) (pa_cons (pv 7) pa_nil))))))) (pss_cons (ps_expr (pe_meth (pv 0) (c_Code T) (me_Code_keep T) G_Code_keep (hr.mono (by decide)) bi_Code_keep .nil passF (pa_cons (pv 3) (pa_cons (pv 4) pa_nil)))) (pss_one (ps_for PassesOwn.never rfl (pi_reversed rfl (fr_reversed T) (pa_cons (FcR.pe_listEnum rfl (pe_call G_parts_in (hr.mono (by decide)) rfl (g_parts_in T) kp_parts_in bi_parts_in .nil passF (pa_cons (pv 3) pa_nil)) rfl (fr_list T) b_list rfl (fr_enumerate T) b_enumerate) pa_nil)) (pg_tup rfl (pgs_cons (pg_name (i:=9) sc_Code___init__.nd rfl (Or.inl rfl)) (pgs_cons (pg_name (i:=10) sc_Code___init__.nd rfl (Or.inl rfl)) pgs_nil))) (Evl.pss_cut (ps_set (i:=11) sc_Code___init__.nd rfl (Or.inl rfl) (pe_op op_add (pv 7) (pe_callTy call_int1 rfl (fr_int T) b_int (pa_cons (pe_and (pe_cmpR op_eq (pe_ix ix_tup (pv 3) pe_int (fun _ _=>rfl)) pe_str (nomark _)) (pe_one (pe_cmpR op_eq (pv 9) pe_int (nomark _)))) pa_nil)))) (pss_one (ps_expr (pe_bm PySem.F.plainAttrs_list PySem.F.slot_list_append PySem.F.type_list_append mt_append (pv 2) (pa_cons (pe_tup (pa_cons (pv 10) (pa_cons (pv 8) (pa_cons (pe_op op_add (pv 5) pe_int) (pa_cons (pe_op op_add (pv 6) (pe_callTy call_int1 rfl (fr_int T) b_int (pa_cons (pe_cmpR op_eq (pe_ix ix_tup (pv 3) pe_int (fun _ _=>rfl)) pe_str (nomark _)) pa_nil))) (pa_cons (pv 11) pa_nil)))))) pa_nil)))))))))))))))),?_⟩
  refine ⟨fun σ' H'=>σ'=L2.start N_Code___init__ [.ref p,v]∧∃ q1 q2 q3,H q1=none∧H q2=none∧H q3=none∧q2≠q1∧q3≠q1∧q3≠q2∧H' q1=some (.lst [])∧H' q2=some (.lst [])∧H' q3=some (.lst []) ∧
   H' p=some (.ins (He.ga K "Code") dx [("statements",.ref q1),("kinds",.ref q2),("labels",.ref q3)])∧(∀ b o,H b=some o→b≠p→H' b=some o)∧(∀ b,H' b=none→H b=none),?_,?_⟩
  ·refine ⟨sz (by simp),fun q1 f1=>⟨sz (by simp),fun q2 f2=>⟨sz (by simp),fun q3 f3=>⟨sz (by simp),fun t1 g1=>?_⟩⟩⟩⟩
   obtain ⟨n2a,f2⟩:=up_none f2
   obtain ⟨n3b,f3⟩:=up_none f3
   obtain ⟨n3a,f3⟩:=up_none f3
   obtain ⟨n1c,g1⟩:=up_none g1
   obtain ⟨n1b,g1⟩:=up_none g1
   obtain ⟨n1a,g1⟩:=up_none g1
   have p1:=nn_of f1 hp
   have p2:=nn_of f2 hp
   have p3:=nn_of f3 hp
   have p4:=nn_of g1 hp
   refine ⟨t1,_,rfl,Evl.st_of upd_same,rfl,_,_,rfl,_,rfl,p,_,dx,_,rfl,(by rw [upd_ne p4,upd_ne p3,upd_ne p2,upd_ne p1];exact hp),c_Code T,na_Code_statements T,(by simp),?_⟩
   rw [fi_Code_0]
   refine ⟨_,_,rfl,_,rfl,p,_,dx,_,rfl,upd_same,c_Code T,na_Code_kinds T,(by simp),?_⟩
   rw [fi_Code_1,upd_upd]
   refine ⟨_,_,rfl,_,rfl,p,_,dx,_,rfl,upd_same,c_Code T,na_Code_labels T,(by simp),rfl,?_⟩
   rw [fi_Code_2,upd_upd]
   refine ⟨rfl,q1,q2,q3,f1,f2,f3,n2a,n3a,n3b,?_,?_,?_,upd_same,fun b o e hb=>?_,fun b e=>?_⟩
   ·rw [upd_ne p1.symm,upd_ne n1a.symm,upd_ne n3a.symm,upd_ne n2a.symm,upd_same]
   ·rw [upd_ne p2.symm,upd_ne n1b.symm,upd_ne n3b.symm,upd_same]
   ·rw [upd_ne p3.symm,upd_ne n1c.symm,upd_same]
   ·rw [upd_ne hb,upd_ne (nn_of g1 e),upd_ne (nn_of f3 e),upd_ne (nn_of f2 e),upd_ne (nn_of f1 e)]
    exact e
   ·exact (up_none (up_none (up_none (up_none (up_none e).2).2).2).2).2
  rintro σ' H1 ⟨rfl,q1,q2,q3,f1,f2,f3,n21,n31,n32,h1,h2,h3,hp1,kp1,fr1⟩
  refine ⟨fun σ' H'=>σ'=L2.start N_Code___init__ [.ref p,v]∧∃ A:CAd,A.p=p∧A.dx=dx∧A.cs=[]∧CL K H' A [] [] [] [] []∧(∀ b∈A.all,b=p∨H b=none)∧(∀ b o,H b=some o→b≠p→H' b=some o)∧(∀ b,H' b=none→H b=none),?_,?_⟩
  ·refine ⟨sz (by simp),fun q4 f4=>⟨sz (by simp),fun q5 f5=>⟨sz (by simp),fun t2 g2=>?_⟩⟩⟩
   obtain ⟨n54,f5⟩:=up_none f5
   obtain ⟨m5,g2⟩:=up_none g2
   obtain ⟨m4,g2⟩:=up_none g2
   have p4:=nn_of f4 hp1
   have p5:=nn_of f5 hp1
   have pt:=nn_of g2 hp1
   refine ⟨t2,_,rfl,Evl.st_of upd_same,rfl,_,_,rfl,_,rfl,p,_,dx,_,rfl,(by rw [upd_ne pt,upd_ne p5,upd_ne p4];exact hp1),c_Code T,na_Code_parents T,(by simp),?_⟩
   rw [fi_Code_3]
   refine ⟨_,_,rfl,_,rfl,p,_,dx,_,rfl,upd_same,c_Code T,na_Code_children T,(by simp),rfl,?_⟩
   rw [fi_Code_4,upd_upd]
   have a1:=nn_of f4 h1
   have a2:=nn_of f4 h2
   have a3:=nn_of f4 h3
   have b1:=nn_of f5 h1
   have b2:=nn_of f5 h2
   have b3:=nn_of f5 h3
   have c1:=nn_of g2 h1
   have c2:=nn_of g2 h2
   have c3:=nn_of g2 h3
   have pn1:p≠q1:=nn_of f1 hp
   have pn2:p≠q2:=nn_of f2 hp
   have pn3:p≠q3:=nn_of f3 hp
   refine ⟨rfl,⟨p,dx,q1,q2,q3,q4,q5,[]⟩,rfl,rfl,rfl,⟨upd_same,?_,?_,?_,?_,?_,rfl,fun i c x e=>by simp at e,?_⟩,?_,fun b o e hb=>?_,fun b e=>?_⟩
   ·show upd _ p _ q1=_
    rw [upd_ne pn1.symm,upd_ne c1,upd_ne b1,upd_ne a1]
    exact h1
   ·show upd _ p _ q2=_
    rw [upd_ne pn2.symm,upd_ne c2,upd_ne b2,upd_ne a2]
    exact h2
   ·show upd _ p _ q3=_
    rw [upd_ne pn3.symm,upd_ne c3,upd_ne b3,upd_ne a3]
    exact h3
   ·show upd _ p _ q4=_
    rw [upd_ne p4.symm,upd_ne m4.symm,upd_ne n54.symm,upd_same]
   ·show upd _ p _ q5=_
    rw [upd_ne p5.symm,upd_ne m5.symm,upd_same]<;>rfl
   ·show [p,q1,q2,q3,q4,q5].Nodup
    simp only [List.nodup_cons,List.mem_cons,List.not_mem_nil,or_false,not_or,List.nodup_nil,and_true,not_false_eq_true]
    exact ⟨⟨pn1,pn2,pn3,p4,p5⟩,⟨n21.symm,n31.symm,a1,b1⟩,⟨n32.symm,a2,b2⟩,⟨a3,b3⟩,n54.symm⟩
   ·intro b hb
    have hb:b∈[p,q1,q2,q3,q4,q5]:=hb
    simp only [List.mem_cons,List.not_mem_nil,or_false] at hb
    rcases hb with rfl | rfl | rfl | rfl | rfl | rfl
    ·exact .inl rfl
    ·exact .inr f1
    ·exact .inr f2
    ·exact .inr f3
    ·exact .inr (fr1 _ f4)
    ·exact .inr (fr1 _ f5)
   ·have e1:=kp1 b o e hb
    rw [upd_ne hb,upd_ne (nn_of g2 e1),upd_ne (nn_of f5 e1),upd_ne (nn_of f4 e1)]
    exact e1
   ·exact fr1 _ (up_none (up_none (up_none (up_none e).2).2).2).2
  rintro σ' H2 ⟨rfl,A,rfl,rfl,ac,C,nA,kp2,fr2⟩
  refine ⟨_,rfl,sz (by simp),fun t3 g3=>⟨sz (by simp),fun wq gw=>?_⟩⟩
  obtain ⟨nwt,gw⟩:=up_none gw
  have gt:H2 t3=none:=g3
  have ft:F0 t3=none:=Evl.fresh_back xF (fr2 t3 gt)
  have v0:InW K F0 H A.p wq Gd [⟨d,none,1,0,0⟩] [] A [t3] (upd F0 t3 (.tup [v,.non,.int 1,.int 0,.int 0])) (upd (upd H2 t3 (.tup [v,.non,.int 1,.int 0,.int 0])) wq (.lst [.ref t3])):=by
   have C1:=(C.off (o:=.tup [v,.non,.int 1,.int 0,.int 0]) (C.fresh gt))
   have nwA:wq ∉ A.all:=C.fresh gw
   have C2:=C1.off (o:=.lst [.ref t3]) nwA
   have xx:Ex F0 (upd F0 t3 (.tup [v,.non,.int 1,.int 0,.int 0])):=exu (Evl.Ex.refl F0) ft
   have fA:∀ b∈A.all,F0 b=none:=fun b hb=>by
    rcases nA b hb with rfl | e
    ·exact Fp
    ·exact Evl.fresh_back xF e
   have ntA:t3 ∉ A.all:=C.fresh gt
   refine ⟨rfl,⟨[],C2,.nil⟩,fun b hb=>?_,nwA,?_,upd_same,.cons upd_same (dp_ex xx hd) .nil,xx,fun b o e=>?_,fun b e1 e2=>?_,fun b o e hb=>?_,nA,fr2 wq gw,fun i hi=>?_,fun r hr=>by cases hr⟩
   ·rw [upd_ne (fun z=>ntA (by rw [← z];exact hb))]
    exact fA b hb
   ·rw [upd_ne nwt]
    exact Evl.fresh_back xF (fr2 wq gw)
   ·by_cases z:b=t3
    ·rw [z,upd_same] at e
     cases e
     rw [z,upd_ne nwt.symm,upd_same]
    ·rw [upd_ne z] at e
     have e2:=xF b o e
     have nb:b≠A.p:=fun y=>by rw [y,Fp] at e;cases e
     rw [upd_ne (nn_of (fr2 wq gw) e2),upd_ne z]
     exact kp2 b o e2 nb
   ·rw [upd_ne (fun z=>e1 (by rw [z];exact fr2 t3 gt))]
    exact e2
   ·rw [upd_ne (nn_of (fr2 wq gw) e),upd_ne (nn_of (fr2 t3 gt) e)]
    exact kp2 b o e hb
   ·rw [List.mem_singleton.mp hi]
    exact ⟨hGd,fun j e=>by cases e⟩
  refine ⟨fun m σ' H'=>∃ st rows B ts F' o3 o4 o5 o6 o7 o8 o9 o10 o11,Builds m st rows fin∧σ'=[some (.ref A.p),some v,some (.ref wq),o3,o4,o5,o6,o7,o8,o9,o10,o11]∧InW K F0 H A.p wq Gd st rows B ts F' H',⟨N,_,_,_,_,_,_,_,_,_,_,_,_,_,_,hB,rfl,v0⟩,?_⟩
  rintro m σ' H3 ⟨st,rows,B,ts,F3,o3,o4,o5,o6,o7,o8,o9,o10,o11,bd,rfl,I3⟩
  have hcan:PyData.canLay0 (.list (st.map wD).reverse)=true:=canAll fun e he=>by
   obtain ⟨i,hi,rfl⟩:=List.mem_map.mp (List.mem_reverse.mp he)
   exact can_wD (hG _ (I3.it i hi).1).1
  refine ⟨_,rfl,sz (by simp),fun p4 g4=>?_⟩
  obtain ⟨r1,r2,r3,r4⟩:=I3.fresh g4
  have hdl:Dp K (upd H3 p4 (.lst [])) (.ref wq) (.list (st.map wD).reverse):=.lst (Evl.sq_of (by rw [upd_ne r4.symm];exact I3.wl)) (dpA_rev (dpA_ex (exu I3.fh g4) I3.wi.dp))
  refine ⟨_,_,hdl,.lst (Evl.sq_of upd_same) .nil,hcan,rfl,min_lnil _,_,rfl,ite_of (fun h4=>?_) (fun h4=>?_)⟩
  ·cases bd with
   | done=>simp [PyData.eqv,PyData.eqvAll] at h4
   | @step n it st' _ _ ok bd =>
   cases hts:I3.wi with
   | @cons t ts' _ _ v1 ht hv1 hr =>
   have I4:=(I3.new (o:=.lst []) g4).pop
   refine ⟨fun σ' H'=>∃ st rows B ts F' o3 o4 o5 o6 o7 o8 o9 o10 o11,Builds n st rows fin∧σ'=[some (.ref A.p),some v,some (.ref wq),o3,o4,o5,o6,o7,o8,o9,o10,o11]∧InW K F0 H A.p wq Gd st rows B ts F' H',fun σ' H' w=>⟨n,Nat.lt_succ_self _,w⟩,?_⟩
   have wl4:upd H3 p4 (.lst []) wq=some (.lst ((ts'.map V.ref).reverse++[.ref t])):=by
    rw [upd_ne r4.symm,I3.wl]<;>simp
   refine ⟨_,rfl,Or.inl ⟨rfl,_,Evl.sq_of wl4⟩,wq,_,.ref t,rfl,rfl,wl4,by simp,?_⟩
   rw [List.dropLast_concat]
   refine ⟨t,wV v1 it,rfl,Evl.st_of (I4.fh _ _ ht),rfl,_,_,rfl,_,_,rfl,_,_,rfl,_,_,rfl,_,_,rfl,rfl,?_⟩
   obtain ⟨L1,C4,dL4⟩:=id I4.code
   have ob4:∀ {H':Hp} {L1 L2 L3 L4:List V} {Cs:List (List V)},CL K H' B L1 L2 L3 L4 Cs→H' A.p=some (.ins (He.ga K "Code") B.dx (cFs B)):=fun C=>by rw [← I3.ap];exact C.ob
   refine ⟨_,rfl,A.p,_,_,_,_,rfl,ob4 C4,c_Code T,na_Code_kinds T,fl_Code_kinds _ _ _ _ _,B.a2,_,rfl,.inl (Evl.sq_of C4.h2),?_⟩
   have hgi:=hG _ (I3.it it List.mem_cons_self).1
   obtain ⟨k1,k2,k3,k4⟩:=id ok
   have ln:(rows.map fun r=>V.str (kindD r.d)).length=rows.length:=List.length_map _
   refine ⟨_,rfl,A.p,_,_,rfl,ob4 C4,fm_Code_check _ _ _ _ _,_,rfl,_,rfl,_,rfl,_,rfl,_,rfl,.ref A.p,v1,it.d,_,_,_,_,rfl,dp_ex I4.fh hv1,hgi.1,hgi.2.1,(by rw [ln];omega),(by omega),(by omega),k4,fun H5 x5=>?_⟩
   have I5:=I4.ext (Evl.Ex.refl _) (I4.fh.trans x5) x5 fun _ _ e=>e
   obtain ⟨L1',C5,dL5⟩:=id I5.code
   refine ⟨_,rfl,A.p,_,_,rfl,ob4 C5,fm_Code_keep _ _ _ _ _,_,rfl,_,rfl,F3,B,rows,v1,it.d,_,it.par,(by rw [← I3.ap]<;>rfl),I5.fh,I5.code,I5.na,hv1,k4,(by omega),fun i e=>?_,fun c H6 hc6 cd6 kp6=>?_⟩
   ·have li:=(I3.it it List.mem_cons_self).2 i e
    refine ⟨rows[i],List.getElem?_eq_getElem li,?_⟩
    have:=I3.ch rows[i] (List.getElem_mem li)
    omega
   have I6:=I5.kept hc6 cd6 kp6
   refine ⟨_,rfl,F3,v1,it.d,_,rfl,I6.fh,hv1,k4,fun pp H7 xs fp7 x7 hl7 dA7=>?_⟩
   have I7:=I6.ext (Evl.Ex.refl _) (I6.fh.trans x7) x7 fun _ _ e=>e
   refine ⟨pp,xs,rfl,Evl.sq_of hl7,fun H8 pe te k8 fpe fte npe nd8 lte hpe hte=>?_⟩
   have L8:∀ b∈pe::te,H7 b=none:=fun b hb=>by
    rcases List.mem_cons.mp hb with e | hb
    ·rw [e];exact fpe
    ·exact fte b hb
   have I8:InW K F0 H A.p wq Gd st' (addRow rows it.d it.par) { B with cs:=B.cs++[c] } ts' (frz F3 H8 (pe::te)) H8 :=
    I7.ext (frz_ex fun b hb=>(I7.fresh (L8 b hb)).2.1) (frz_le (I7.fh.trans k8)) k8 fun b h1 h2=>by rw [frz_out (fun z=>h1 (L8 b z))];exact h2
   have lx:xs.length=(partsD it.d).length:=dpA_len dA7
   have x38:Ex F3 (frz F3 H8 (pe::te)):=frz_ex fun b hb=>(I7.fresh (L8 b hb)).2.1
   obtain ⟨kk,rr,_,ek,_,_,_⟩:=isStm_shape k4
   obtain ⟨va,vxs,rfl,vS,vA⟩:=dp_tup (ek ▸ hv1)
   cases vA with
   | @cons vk vxr _ _ vk0 vA =>
   obtain rfl:=dp_str vk0
   have ekd:kindD it.d=kk:=by rw [ek]<;>rfl
   refine ⟨pe,_,rfl,Evl.sq_of hpe,for_it walk_rev (fun i σ' H'=>∃ ts'' F'' o9 o10 o11,σ'=[some (.ref A.p),some v,some (.ref wq),some (.ref va),some (parV it.par),some (.int (it.deep:Int)),some (.int (it.loops:Int)),some (.int (it.blocks:Int)),some (.int ((rows.map fun r=>V.str (kindD r.d)).length:Int)),o9,o10,o11] ∧
    InW K F0 H A.p wq Gd ((newIts it rows.length).drop (te.length - i)++st') (addRow rows it.d it.par) { B with cs:=B.cs++[c] } ts'' F'' H'∧Ex (frz F3 H8 (pe::te)) F'') ?_ ?_ ?_ ?_⟩
   ·refine ⟨ts',_,o9,o10,o11,rfl,?_,Evl.Ex.refl _⟩
    rw [Nat.sub_zero,List.drop_eq_nil_of_le (by rw [newIts_len,lte,lx];exact Nat.le_refl _)]
    exact I8
   ·rintro i σ' H' _ ⟨ts'',F'',_,_,_,_,I9,x9⟩
    exact Evl.sq_of (I9.fh _ _ (x9 _ _ (by rw [frz_in List.mem_cons_self];exact hpe)))
   ·rintro i x σ' H9x H9 hi ⟨ts'',F'',u9,u10,u11,rfl,I9,x9⟩ ⟨rfl,hx⟩
    rw [List.length_map] at hi hx
    have lj:te.length - 1 - i<te.length:=by omega
    have htj:te[te.length - 1 - i]?=some te[te.length - 1 - i]:=List.getElem?_eq_getElem lj
    rw [List.getElem?_map,htj] at hx
    cases hx
    have lxj:te.length - 1 - i<xs.length:=by rw [← lte];exact lj
    have hxj:xs[te.length - 1 - i]?=some xs[te.length - 1 - i]:=List.getElem?_eq_getElem lxj
    have lpj:te.length - 1 - i<(partsD it.d).length:=by rw [← lx];exact lxj
    have hpj:(partsD it.d)[te.length - 1 - i]?=some (partsD it.d)[te.length - 1 - i]:=List.getElem?_eq_getElem lpj
    obtain ⟨u,hu,hdu⟩:=dpA_get dA7 hpj
    rw [hxj] at hu
    cases hu
    have htu:=hte _ _ _ htj hxj
    have htF:H9 te[te.length - 1 - i]=some (.tup [.int ((te.length - 1 - i:Nat):Int),xs[te.length - 1 - i]]):=I9.fh _ _ (x9 _ _ (by rw [frz_in (List.mem_cons_of_mem _ (List.getElem_mem lj))];exact htu))
    have vS9:SqT K H9 va (V.str kk::vxr):=Evl.ex_t ((x38.trans x9).trans I9.fh) vS
    refine ⟨_,_,rfl,Evl.st_of htF,rfl,_,_,rfl,_,_,rfl,rfl,?_⟩
    refine ⟨fun σ' H'=>H'=H9∧σ'=[some (.ref A.p),some v,some (.ref wq),some (.ref va),some (parV it.par),some (.int (it.deep:Int)),some (.int (it.loops:Int)),some (.int (it.blocks:Int)),some (.int ((rows.map fun r=>V.str (kindD r.d)).length:Int)),some (.int ((te.length - 1 - i:Nat):Int)),some xs[te.length - 1 - i],some (.int ((it.blocks:Int) + (if kindD it.d="final"∧te.length - 1 - i=1 then 1 else 0)))],?_,?_⟩
    ·refine ⟨_,rfl,_,rfl,va,_,_,_,rfl,rfl,vS9,at0,rfl,_,rfl,ite_of (fun h5=>?_) (fun h5=>?_)⟩
     ·have e5:kk="final":=V.str.inj (of_decide_eq_true h5)
      refine ⟨_,rfl,rfl,.inr ⟨_,rfl,_,_,rfl,rfl,rfl,?_⟩⟩
      by_cases z:te.length - 1 - i=1
      ·rw [if_pos (show kindD it.d="final"∧te.length - 1 - i=1 from ⟨by rw [ekd,e5],z⟩),if_pos (decide_eq_true (by rw [z]<;>rfl))]<;>rfl
      ·rw [if_neg (show ¬ (kindD it.d="final"∧te.length - 1 - i=1) from fun y=>z y.2),if_neg (fun y=>z (by have:=V.int.inj (of_decide_eq_true y);omega))]<;>rfl
     ·have e5:¬ kk="final":=fun e=>by
       have y:decide (V.str kk=V.str "final")=true:=decide_eq_true (by rw [e])
       rw [y] at h5
       cases h5
      refine .inr ⟨_,rfl,_,_,rfl,rfl,rfl,?_⟩
      rw [if_neg (show ¬ (kindD it.d="final"∧te.length - 1 - i=1) from fun y=>e5 (by rw [← ekd];exact y.1))]<;>rfl
    rintro σ' H' ⟨rfl,rfl⟩
    refine ⟨_,rfl,Or.inl ⟨rfl,_,Evl.sq_of I9.wl⟩,_,rfl,_,rfl,_,rfl,_,_,rfl,rfl,_,rfl,_,rfl,va,_,_,_,rfl,rfl,vS9,at0,rfl,.inr ⟨_,rfl,_,_,rfl,rfl,_,rfl,sz (by simp),fun tn htn=>?_⟩⟩
    obtain ⟨z1,z2,z3,z4⟩:=I9.fresh htn
    refine ⟨wq,_,_,rfl,rfl,(by rw [upd_ne z4.symm];exact I9.wl),szl ?_,?_⟩
    ·have b1:=bd.len
     have b2:=bd.bd
     rw [List.length_append] at b1
     rw [List.length_reverse,List.length_map,I9.wi.len,List.length_append,List.length_drop]
     omega
    have I10:=I9.push (it:=newIt it rows.length (te.length - 1 - i) (partsD it.d)[te.length - 1 - i]) (v:=xs[te.length - 1 - i]) htn (dp_ex (x38.trans x9) hdu) ⟨hgi.2.2 _ (List.getElem_mem lpj),fun j e=>by cases e;rw [addRow_len];omega⟩
    have e6:(newIts it rows.length).drop (te.length - (i + 1))=newIt it rows.length (te.length - 1 - i) (partsD it.d)[te.length - 1 - i]::(newIts it rows.length).drop (te.length - i):=by
     have e7:te.length - (i + 1)=te.length - 1 - i:=by omega
     have l7:te.length - 1 - i<(newIts it rows.length).length:=by rw [newIts_len];exact lpj
     have g7:(newIts it rows.length)[te.length - 1 - i]=newIt it rows.length (te.length - 1 - i) (partsD it.d)[te.length - 1 - i]:=by
      have y:=newIts_get (n:=rows.length) hpj
      rw [List.getElem?_eq_getElem l7] at y
      exact Option.some.inj y
     rw [e7,List.drop_eq_getElem_cons l7,g7]
     congr 2
     omega
    refine ⟨tn::ts'',upd F'' tn (.tup (wV xs[te.length - 1 - i] (newIt it rows.length (te.length - 1 - i) (partsD it.d)[te.length - 1 - i]))),_,_,_,rfl,?_,x9.trans (exu (Evl.Ex.refl _) z2)⟩
    rw [e6,List.cons_append]
    have eH:upd (upd H' tn (.tup (wV xs[te.length - 1 - i] (newIt it rows.length (te.length - 1 - i) (partsD it.d)[te.length - 1 - i])))) wq (.lst (((tn::ts'').map V.ref).reverse)) =
      upd (upd H' tn (.tup [xs[te.length - 1 - i],.int ((rows.map fun r=>V.str (kindD r.d)).length:Int),.int ((it.deep:Int) + 1),.int ((it.loops:Int) + (if decide (V.str kk=V.str "while")=true then 1 else 0)),.int ((it.blocks:Int) + (if kindD it.d="final"∧te.length - 1 - i=1 then 1 else 0))])) wq (.lst ((ts''.map V.ref).reverse++[.ref tn])):=by
     rw [wV_new,ln,ekd,List.map_cons,List.reverse_cons]
    rw [eH] at I10
    exact I10
   ·rintro σ' H9 ⟨ts'',F'',u9,u10,u11,rfl,I9,x9⟩
    rw [List.length_map,Nat.sub_self,List.drop_zero] at I9
    exact ⟨_,_,_,_,_,_,_,_,_,_,_,_,_,_,bd,rfl,I9⟩
  ·rw [eqv_lnil] at h4
   cases bd with
   | step ok bd=>simp at h4
   | done =>
   have I5:=I3.new (o:=.lst []) g4
   obtain ⟨vs,C5,dL5⟩:=id I5.code
   have xf:Ex F3 (frz F3 (upd H3 p4 (.lst [])) B.all):=frz_ex I5.na
   refine q B (frz F3 (upd H3 p4 (.lst [])) B.all) _ I5.ap ⟨I5.ff.trans xf,frz_le I5.fh,fun b h1 h2 h3=>?_,fun b o e hb=>I5.kp b o e hb⟩ ⟨vs,?_,dpA_ex xf dL5⟩
   ·rw [frz_out (fun z=>by
     rcases I5.nh b z with y | y
     ·exact h3 y
     ·exact h1 y)]
    exact I5.nw b h1 h2
   ·have at_:∀ {b:Addr} {o:HO},b∈B.all→upd H3 p4 (.lst []) b=some o→frz F3 (upd H3 p4 (.lst [])) B.all b=some o:=fun hb e=>by rw [frz_in hb];exact e
    exact ⟨at_ (by simp [CAd.all]) C5.ob,at_ (in_all1 B) C5.h1,at_ (in_all2 B) C5.h2,at_ (in_all3 B) C5.h3,at_ (in_all4 B) C5.h4,at_ (in_all5 B) C5.h5,C5.cl,fun i c x h1 h2=>at_ (in_allc (List.mem_of_getElem? h1)) (C5.cc i c x h1 h2),C5.nd⟩
theorem ok_Code___init__ (T:Tx w h K mg):Ok P w K mg base 6 ("Code",some "__init__") ["self","statement"] (sp_Code___init__ K):=by
 obtain ⟨fd,a,b,c,_⟩:=okF_Code___init__ (P:=P) (base:=base) T
 exact ⟨fd,a,b,c⟩
end
theorem make_of {H H2:Hp} {q dx C:Addr} {fs:List (Str×V)} (e:upd (upd H dx (.own q)) q (.ins C dx fs)=H2) (nq:H q=none) (nd:H dx=none):Ex H H2∧H2 q=some (.ins C dx fs):=by
 subst e
 refine ⟨fun b o hb=>?_,upd_same⟩
 rw [upd_ne (ne_of_none hb nq),upd_ne (ne_of_none hb nd)]
 exact hb
end
section
def RaisesA (K:PySem.W.Frag) (C f:Str) (H:Hp) (y:V) (E:XK):Prop:=∀ H' d,Ex H H'→H d=none→H' d=some (.xd [(f,y)])→E (.ref (He.ga K C)) (some d) H'
section
variable {P:Program} {w:World} {h:Heap} {K:PySem.W.Frag} {mg:Str→Option Value} {base:Heap}
abbrev N_InvalidCode___init__:List Str:=["self","number"]
theorem sc_InvalidCode___init__:FnScope N_InvalidCode___init__ ["self","number"] (defScope sd_InvalidCode___init__):=⟨rfl,rfl,rfl,by decide +kernel,rfl,by decide +kernel,by decide +kernel⟩
theorem okF_InvalidCode___init__ (T:Tx w h K mg):∃ fd,FnOk P w K mg base (CX P w) 1 (He.fAd K ("InvalidCode",some "__init__")) fd ["self","number"] (FcX.spX K (He.ga K "InvalidCode") "number")∧Binds K fd ["self","number"] []∧PySem.W.keepIn K (.ref (He.fAd K ("InvalidCode",some "__init__")))=true∧FunD K "__init__" "InvalidCode.__init__" (defArgs sd_InvalidCode___init__) (defBody sd_InvalidCode___init__) (defScope sd_InvalidCode___init__) [] [] (He.fAd K ("InvalidCode",some "__init__")) fd:=by
 obtain ⟨fd,F⟩:=F_InvalidCode___init__ T
 refine ⟨fd,?_,F.bindsN (fun _ _ _ _ _ _ us hl=>match us,hl with | [_,_],_=>rfl),F.kp,F⟩
 refine F.ok sc_InvalidCode___init__ (fun vs H Q E h=>?_) (fun cdv A outer s H vs Q E hr h=>?_)
 ·obtain ⟨a,y,rfl,ea,q⟩:=h
  rfl
 ·obtain ⟨a,y,rfl,ea,q⟩:=h
  refine ⟨_,PSs.nox (pss_one (FcX.ps_xst (pv 0) (pv 1))),?_⟩
  exact ⟨y,rfl,.ref a,rfl,a,_,rfl,x_InvalidCode T,(xi_InvalidCode T).tk,ea,fun dx h1 h2=>q dx h1 h2⟩
abbrev N_LimitExceeded___init__:List Str:=["self","limit"]
theorem sc_LimitExceeded___init__:FnScope N_LimitExceeded___init__ ["self","limit"] (defScope sd_LimitExceeded___init__):=⟨rfl,rfl,rfl,by decide +kernel,rfl,by decide +kernel,by decide +kernel⟩
theorem okF_LimitExceeded___init__ (T:Tx w h K mg):∃ fd,FnOk P w K mg base (CX P w) 1 (He.fAd K ("LimitExceeded",some "__init__")) fd ["self","limit"] (FcX.spX K (He.ga K "LimitExceeded") "limit")∧Binds K fd ["self","limit"] []∧PySem.W.keepIn K (.ref (He.fAd K ("LimitExceeded",some "__init__")))=true∧FunD K "__init__" "LimitExceeded.__init__" (defArgs sd_LimitExceeded___init__) (defBody sd_LimitExceeded___init__) (defScope sd_LimitExceeded___init__) [] [] (He.fAd K ("LimitExceeded",some "__init__")) fd:=by
 obtain ⟨fd,F⟩:=F_LimitExceeded___init__ T
 refine ⟨fd,?_,F.bindsN (fun _ _ _ _ _ _ us hl=>match us,hl with | [_,_],_=>rfl),F.kp,F⟩
 refine F.ok sc_LimitExceeded___init__ (fun vs H Q E h=>?_) (fun cdv A outer s H vs Q E hr h=>?_)
 ·obtain ⟨a,y,rfl,ea,q⟩:=h
  rfl
 ·obtain ⟨a,y,rfl,ea,q⟩:=h
  refine ⟨_,PSs.nox (pss_one (FcX.ps_xst (pv 0) (pv 1))),?_⟩
  exact ⟨y,rfl,.ref a,rfl,a,_,rfl,x_LimitExceeded T,(xi_LimitExceeded T).tk,ea,fun dx h1 h2=>q dx h1 h2⟩
end
end
section
def faultI (n deep loops blocks:Int) (d:PyData):Option (Str×Str×Int):=if 400≤n then some ("LimitExceeded","limit",400) else if 100<deep then some ("LimitExceeded","limit",100) else if 25<blocks then some ("LimitExceeded","limit",25) else if isStm d loops=true then none else some ("InvalidCode","number",n)
def fault (it:WIt) (n:Nat):Option (Str×Str×Int):=faultI (n:Int) (it.deep:Int) (it.loops:Int) (it.blocks:Int) it.d
theorem faultI_of {it:WIt} {n:Nat} {f:Str×Str×Int} (h:fault it n=some f):faultI (n:Int) (it.deep:Int) (it.loops:Int) (it.blocks:Int) it.d=some (f.1,f.2.1,f.2.2):=h
inductive Fails:Nat→List WIt→List Row→(Str×Str×Int)→Prop
 | now {it:WIt} {st:List WIt} {rows:List Row} {f:Str×Str×Int} (h:fault it rows.length=some f):Fails 0 (it::st) rows f
 | step {n:Nat} {it:WIt} {st:List WIt} {rows:List Row} {f:Str×Str×Int} (ok:okIt it rows.length) (hl:(newIts it rows.length++st).length≤50000) (h:Fails n (newIts it rows.length++st) (addRow rows it.d it.par) f):Fails (n + 1) (it::st) rows f
section
variable {P:Program} {w:World} {h:Heap} {K:PySem.W.Frag} {mg:Str→Option Value} {base:Heap}
end
end
end Fc
set_option maxRecDepth 100000
set_option maxHeartbeats 4000000
namespace FcW
open PySem PySem.Spec PyProof.Rows L2
abbrev Ent:=List Key×Addr×V
def RelE (p:Ent) (q:List Key×Addr×Value):Prop:=p.1=q.1∧p.2.1=q.2.1∧RelV p.2.2 q.2.2
def dW (P:Program) (w:World) (d:Addr) (o:Obj) (xs:List Ent):HO:=.ext fun h=>h.get? d=some o∧(d == sysModules)=false∧xs.length≤sizeLine∧o.ExactDict ∧
 ∃ ys:List (List Key×Addr×Value),Paired RelE xs ys∧(∃ es ep,o.data=.dict es ep∧es.toList=ys.map (entryOfKey (tupleKind (mixKind P w))))∧(ys.map (·.1)).Nodup
def kvs (xs:List Ent):List (List Key×V):=xs.map fun x=>(x.1,x.2.2)
def KeysT (K:PySem.W.Frag) (H:Hp) (xs:List Ent):Prop:=∀ x∈xs,SqT K H x.2.1 (x.1.map kV)
def WD (P:Program) (w:World) (K:PySem.W.Frag) (H:Hp) (d:Addr) (o:Obj) (xs:List Ent):Prop:=H d=some (dW P w d o xs)∧KeysT K H xs
section
variable {P:Program} {w:World} {H:Hp} {h:Heap} {d:Addr} {o:Obj} {xs:List Ent}
theorem dw_of (ok:HOk P w H h) (e:H d=some (dW P w d o xs)):h.get? d=some o∧(d == sysModules)=false∧xs.length≤sizeLine∧o.ExactDict ∧
  ∃ ys:List (List Key×Addr×Value),Paired RelE xs ys∧(∃ es ep,o.data=.dict es ep∧es.toList=ys.map (entryOfKey (tupleKind (mixKind P w))))∧(ys.map (·.1)).Nodup :=
 (show ObjOk P w H h d (dW P w d o xs) from ok d _ e).1
end
section
variable {X:Cx} {pins:List (Addr×Obj)} {σ:L2.St} {H:Hp} {s:Shared} {d b:Addr} {o:Obj} {xs:List Ent} {k:List Key} {v:V} {u:Value} {A:Around} {E:Value→Shared→Prop}
theorem key_is (I:Inv X pins σ H s) (e:SqT X.K H b (k.map kV)):(tupleKind (mixKind X.prog X.w)).is s.heap k b:=by
 obtain ⟨its,r,⟨ob,h1,h2,n,h3⟩,_⟩:=I.tuple e
 exact ⟨ob,its.toArray,n,h1,h2,h3,by simpa using items_are r⟩
theorem mem_pair {ys:List (List Key×Addr×Value)} (r:Paired RelE xs ys):∀ y∈ys,∃ x∈xs,RelE x y:=by
 induction r with
 | nil=>intro y hy;exact nomatch hy
 | @cons p q ps qs z t ih =>
  intro y hy
  rcases List.mem_cons.mp hy with rfl | hy
  ·exact ⟨p,List.mem_cons_self,z⟩
  ·obtain ⟨x,hx,e⟩:=ih y hy
   exact ⟨x,List.mem_cons_of_mem _ hx,e⟩
theorem Inv.way (I:Inv X pins σ H s) (D:WD X.prog X.w X.K H d o xs):s.heap.get? d=some o∧(d == sysModules)=false∧xs.length≤sizeLine∧o.ExactDict ∧
  ∃ (ys:List (List Key×Addr×Value)) (es:Array DictEntry) (ep:Nat),Paired RelE xs ys∧o.data=.dict es ep∧es.toList=ys.map (entryOfKey (tupleKind (mixKind X.prog X.w)))∧s.heap.DictOfH (tupleKind (mixKind X.prog X.w)) d ys:=by
 obtain ⟨h1,h2,h3,h4,ys,h5,⟨es,ep,h6,h7⟩,h8⟩:=dw_of I.hok D.1
 refine ⟨h1,h2,h3,h4,ys,es,ep,h5,h6,h7,o,es,ep,h1,h4,h6,h7,fun y hy=>?_,h8⟩
 obtain ⟨x,hx,e1,e2,_⟩:=mem_pair h5 y hy
 have z:=key_is I (D.2 x hx)
 rw [e1,e2] at z
 exact z
end
end FcW
set_option maxRecDepth 100000
set_option maxHeartbeats 4000000
namespace FcW
open PySem PySem.Spec PyProof.Rows L2
section
variable {X:Cx} {pins:List (Addr×Obj)} {σ:L2.St} {H:Hp} {s:Shared} {d b:Addr} {o:Obj} {xs:List Ent} {k:List Key} {v:V} {u:Value} {A:Around} {E:Value→Shared→Prop}
end
section
variable {P:Program} {w:World} {K:PySem.W.Frag} {tg:Expr} {d:Addr} {o:Obj} {es:Array DictEntry} {ep:Nat} {xs:List Ent}
end
section
variable {X:Cx} {tg e:Expr} {td:TE} {apos cpos:Pos}
end
section
variable {P:Program} {w:World} {d:Addr} {o:Obj} {xs:List Ent}
end
end FcW
set_option maxRecDepth 100000
set_option maxHeartbeats 4000000
namespace FcW
open PySem PySem.Spec PyProof.Rows L2
section
variable {X:Cx}
theorem vals_refs:∀ as:List Addr,Vals (as.map V.ref) (as.map Value.ref)
 | []=>.nil
 | _::as=>.cons rfl (vals_refs as)
end
end FcW
set_option maxRecDepth 100000
set_option maxHeartbeats 4000000
namespace FcW
open PySem PySem.Spec PyProof.Rows L2
section
variable {X:Cx}
def rEqNil (K:PySem.W.Frag):R2:=fun x y H Q=>∃ (a b:Addr) (xs:List V),x=.ref a∧y=.ref b∧SqT K H a xs∧SqT K H b []∧Q (.bl xs.isEmpty) H
theorem op_eqNil {k:Nat} (hr:Room k X.A):OpR X (compareOp .Eq) (rEqNil X.K):=by
 intro pins s σ H x y v u Q I rx ry h
 obtain ⟨a,b,xs,rfl,rfl,h1,h2,q⟩:=h
 cases rx
 cases ry
 obtain ⟨its,r1,t1,_⟩:=I.tuple h1
 obtain ⟨its2,r2,t2,_⟩:=I.tuple h2
 cases r2
 refine SeqAt.eq_tupleAt (e:=fun _=>true) t1 t2 (by have:=hr.un;omega) (fun j _ h=>absurd h (by simp)) ?_
 have e:((List.range (min its.toArray.size ([]:List Value).toArray.size)).all (fun _=>true) && its.toArray.size == ([]:List Value).toArray.size)=xs.isEmpty:=by
  cases r1<;>simp
 rw [e]
 exact ⟨.bl _,H,I,rfl,q⟩
variable {o e:Expr} {es:List Expr} {to:TE} {t:TA} {name:Str} {apos cpos:Pos} {id:String} {r:V→List V→Hp→VK→Prop}
end
end FcW
set_option maxRecDepth 100000
set_option maxHeartbeats 4000000
namespace FcW
open PySem PySem.Spec PyProof.Rows L2
section
variable {X:Cx}
def rNeNil (K:PySem.W.Frag):R2:=fun x y H Q=>∃ (a b:Addr) (xs:List V),x=.ref a∧y=.ref b∧SqT K H a xs∧SqT K H b []∧Q (.bl (!xs.isEmpty)) H
theorem op_neNil {k:Nat} (hr:Room k X.A):OpR X (compareOp .NotEq) (rNeNil X.K):=by
 intro pins s σ H x y v u Q I rx ry h
 obtain ⟨a,b,xs,rfl,rfl,h1,h2,q⟩:=h
 cases rx
 cases ry
 obtain ⟨its,r1,t1,_⟩:=I.tuple h1
 obtain ⟨its2,r2,t2,_⟩:=I.tuple h2
 cases r2
 refine (SeqAt.RcNeAt.tuples (e:=fun _=>true) t1 t2 (by have:=hr.un;omega) (fun j _ h=>absurd h (by simp))) _ _ _ _ ?_
 have e:(!((List.range (min its.toArray.size ([]:List Value).toArray.size)).all (fun _=>true) && its.toArray.size == ([]:List Value).toArray.size))=!xs.isEmpty:=by
  cases r1<;>simp
 rw [e]
 exact ⟨.bl _,H,I,rfl,q⟩
def rNeNilL (K:PySem.W.Frag):R2:=fun x y H Q=>∃ (a b:Addr) (xs:List V),x=.ref a∧y=.ref b∧SqL K H a xs∧SqL K H b []∧Q (.bl (!xs.isEmpty)) H
theorem op_neNilL {k:Nat} (hr:Room k X.A):OpR X (compareOp .NotEq) (rNeNilL X.K):=by
 intro pins s σ H x y v u Q I rx ry h
 obtain ⟨a,b,xs,rfl,rfl,h1,h2,q⟩:=h
 cases rx
 cases ry
 obtain ⟨its,r1,l1,_⟩:=I.list h1
 obtain ⟨its2,r2,l2,_⟩:=I.list h2
 cases r2
 have l1:=l1.isList
 have l2:=l2.isList
 cases r1 with
 | nil =>
  refine (SeqAt.RcNeAt.lists (e:=fun _=>true) l1 l2 rfl (by have:=hr.un;omega) (fun j h _=>absurd h (by simp))) _ _ _ _ ?_
  exact ⟨.bl _,H,I,rfl,q⟩
 | cons rv rt =>
  refine (SeqAt.RcNeAt.lists_lengths l1 l2 (by simp) (by have:=hr.un;omega)) _ _ _ _ ?_
  exact ⟨.bl _,H,I,rfl,q⟩
end
end FcW
set_option maxRecDepth 100000
set_option maxHeartbeats 4000000
namespace Fc
open PySem PySem.Spec PyProof.Rows L2 FcR
open Evl (Ex)
section
def sp_is_nameZ (K:PySem.W.Frag):Sp:=fun vs H Q _=>∃ (v:V) (d:PyData),vs=[v]∧Dz K H v d∧(∀ x,d=.str x→x.length≤100000)∧∀ H',Ex H H'→Q (.bl (isName d)) H'
def sp_is_statementZ (K:PySem.W.Frag):Sp:=fun vs H Q _=>∃ (v:V) (d:PyData) (loops:Int),vs=[v,.int loops]∧Dz K H v d∧szD d∧∀ H',Ex H H'→Q (.bl (isStm d loops)) H'
def sp_parts_inZ (K:PySem.W.Frag):Sp:=fun vs H Q _=>∃ (F:Hp) (v:V) (d:PyData) (loops:Int),vs=[v]∧Ex F H∧Dz K F v d∧isStm d loops=true ∧
 ∀ p H' xs,H p=none→Ex H H'→H' p=some (.lst xs)→DzAll K F xs (partsD d)→Q (.ref p) H'
def sp_Code_checkZ (K:PySem.W.Frag):Sp:=fun vs H Q E=>∃ (v0 v:V) (d:PyData) (n deep loops blocks:Int),vs=[v0,v,.int n,.int deep,.int loops,.int blocks]∧Dz K H v d∧szD d ∧
 ((n<400∧deep≤100∧blocks≤25∧isStm d loops=true∧∀ H',Ex H H'→Q .non H')∨(∃ C f i,faultI n deep loops blocks d=some (C,f,i)∧RaisesA K C f H (.int i) E))
section
variable {P:Program} {w:World} {h:Heap} {K:PySem.W.Frag} {mg:Str→Option Value} {base:Heap}
theorem ok_is_nameZ (T:Tx w h K mg):Ok P w K mg base 1 ("is_name",none) ["value"] (sp_is_nameZ K):=by
 obtain ⟨fd,F⟩:=F_is_name T
 refine ⟨fd,?_,F.bindsN (fun _ _ _ _ _ _ us hl=>match us,hl with | [_],_=>rfl),F.kp⟩
 obtain ⟨tm_LETTERS,m_LETTERS⟩:=i_LETTERS T
 obtain ⟨tm_MOST_LETTERS,m_MOST_LETTERS⟩:=i_MOST_LETTERS T
 refine F.ok sc_is_name (fun vs H Q E h=>?_) (fun cdv A outer s H vs Q E hr h=>?_)
 ·obtain ⟨v,d,rfl,hd,hl,q⟩:=h
  rfl
 ·obtain ⟨v,d,rfl,hd,hl,q⟩:=h
  refine ⟨_,PSs.nox (pss_one (ps_ret (pe_and (pe_callB call_isi rfl (fr_isinstance T) b_isinstance (pa_cons (pv 0) (pa_cons (pe_bltn (v:=.ty "str") rfl (fr_str T) b_str rfl) pa_nil))) (pe_and (pe_chain op_le op_le pe_int (pe_callB call_len_str rfl (fr_len T) b_len (pa_cons (pv 0) pa_nil)) (pe_glob (v:=.int 8) rfl m_MOST_LETTERS ⟨_,rfl⟩)) (pe_one (pe_callB (cr_all rfl) rfl (fr_all T) b_all (pa_cons (pe_lc (own:=[("sign",1)]) rfl sc_is_name.nd (pi_str (pv 0)) (blkOk_by (N:=N_is_name) (sc:=defScope sd_is_name) (by decide +kernel)) (fun _ _ _ _ _=>(pg_name (i:=1) sc_is_name.nd rfl (Or.inl rfl))) (fun _ _ _ _ _=>pts_nil) (fun _ _ _ _ _=>(pe_cmpR op_in_sign (pv 1) (pe_glob (v:=.str "abcdefghijklmnopqrstuvwxyz") rfl m_LETTERS ⟨_,rfl⟩) (by rfl)))) pa_nil))))))),?_⟩
  refine ⟨_,rfl,v,.ty "str",_,_,_,rfl,.ty _,dz_ty hd,k_str d,_,rfl,ite_of (fun h1=>?_) (fun h1=>?_)⟩
  ·obtain ⟨x,rfl⟩:∃ x,d=.str x:=by cases d<;>first | exact ⟨_,rfl⟩ | cases h1
   obtain rfl:=dz_str hd
   have hx:=hl x rfl
   have e1:isName (.str x)=((decide ((1:Int)≤x.length) && decide ((x.length:Int)≤8)) && x.cps.toList.all fun c=>decide (c∈letters)):=rfl
   rw [e1] at q
   refine ⟨_,rfl,x,rfl,sz hx,_,_,rfl,rfl,_,rfl,ite_of (fun h2=>?_) (fun h2=>?_)⟩
   ·refine ⟨_,_,rfl,rfl,_,rfl,ite_of (fun h3=>?_) (fun h3=>?_)⟩
    ·refine ⟨_,rfl,x,rfl,fun D hD=>lc_it walk_str (fun i H'=>Ex H H'∧H' D=some (.lst ((x.cps.toList.take i).map fun c=>V.bl (decide (c∈letters))))) ?_ (fun _ _ _ _=>True.intro) ?_ ?_⟩
     ·exact ⟨exu (Evl.Ex.refl H) hD,upd_same⟩
     ·rintro i y H1 H2 hi ⟨k1,k2⟩ ⟨rfl,c,hc,rfl⟩
      refine ⟨rfl,?_⟩
      refine ⟨_,rfl,c,_,rfl,rfl,_,k2,szl ?_,exm k1 hD,?_⟩
      ·have e2:x.cps.size=x.length:=rfl
       rw [List.length_map,List.length_take]
       omega
      ·have hc':x.cps.toList[i]?=some c:=by simpa using hc
       rw [take_one hc',List.map_append,upd_same]<;>rfl
     ·rintro H1 ⟨k1,k2⟩
      refine ⟨D,x.cps.toList.map fun c=>decide (c∈letters),rfl,Evl.sq_of ?_,?_⟩
      ·have e4:x.cps.size=x.cps.toList.length:=by simp
       rw [k2,e4,List.take_length,List.map_map]<;>rfl
      ·rw [h2,h3] at q
       have e3:((x.cps.toList.map fun c=>decide (c∈letters)).all id)=x.cps.toList.all fun c=>decide (c∈letters):=by simp [List.all_map]
       rw [e3]
       exact q H1 k1
    ·rw [h2,h3] at q
     exact q H (Evl.Ex.refl H)
   ·refine ⟨_,rfl,itF rfl ?_⟩
    rw [h2] at q
    exact q H (Evl.Ex.refl H)
  ·have e:isName d=false:=by cases d<;>first | rfl | cases h1
   rw [e] at q
   exact q H (Evl.Ex.refl H)
theorem ok_is_statementZ (T:Tx w h K mg):Ok P w K mg base 3 ("is_statement",none) ["value","loops"] (sp_is_statementZ K):=by
 obtain ⟨fd,F⟩:=F_is_statement T
 refine ⟨fd,?_,F.bindsN (fun _ _ _ _ _ _ us hl=>match us,hl with | [_,_],_=>rfl),F.kp⟩
 obtain ⟨fd_is_between,G_is_between,bi_is_between,kp_is_between⟩:=ok_is_between (P:=P) (base:=base) T
 obtain ⟨fd_is_name,G_is_name,bi_is_name,kp_is_name⟩:=ok_is_nameZ (P:=P) (base:=base) T
 obtain ⟨es,nE,D⟩:=d_SIZES T
 refine F.ok sc_is_statement (fun vs H Q E h=>?_) (fun cdv A outer s H vs Q E hr h=>?_)
 ·obtain ⟨v,d,loops,rfl,hd,hz,q⟩:=h
  rfl
 ·obtain ⟨v,d,loops,rfl,hd,hz,q⟩:=h
  refine ⟨_,PSs.nox (pss_cons (ps_if (PW.pt (pw_or (pt_not (pt_val (pe_callB call_isi rfl (fr_isinstance T) b_isinstance (pa_cons (pv 0) (pa_cons (pe_bltn (v:=.ty "tuple") rfl (fr_tuple T) b_tuple rfl) pa_nil))))) (pw_or (pt_cmpR (FcW.op_eqNil hr) (pv 0) (pe_tup pa_nil) (nomark _)) (pw_or1 (pt_not (pt_val (pe_callB call_isi rfl (fr_isinstance T) b_isinstance (pa_cons (pe_ix ix_tup (pv 0) pe_int (fun _ _=>rfl)) (pa_cons (pe_bltn (v:=.ty "str") rfl (fr_str T) b_str rfl) pa_nil))))))))) (pss_one (ps_ret pe_bl)) pss_nil) (pss_cons (ps_if (PW.pt (pw_or (pt_cmpR (op_notIn_kd D) (pe_ix ix_tup (pv 0) pe_int (fun _ _=>rfl)) (pe_glob (v:=.ref (He.ga K "SIZES")) rfl (g_SIZES T) rfl) (by rfl)) (pw_or1 (pt_cmpR op_ne (pe_callB call_len_seq rfl (fr_len T) b_len (pa_cons (pv 0) pa_nil)) (pe_ix ix_kdict (pe_glob (v:=.ref (He.ga K "SIZES")) rfl (g_SIZES T) rfl) (pe_ix ix_tup (pv 0) pe_int (fun _ _=>rfl)) (fun _ _=>rfl)) (nomark _))))) (pss_one (ps_ret pe_bl)) pss_nil) (pss_cons (ps_if (pt_cmpR op_in_seq (pe_ix ix_tup (pv 0) pe_int (fun _ _=>rfl)) (pe_glob (v:=.ref (He.ga K "NAMED")) rfl (g_NAMED T) rfl) (by rfl)) (pss_one (ps_ret (pe_call G_is_name (hr.mono (by decide)) rfl (g_is_name T) kp_is_name bi_is_name .nil passF (pa_cons (pe_ix ix_tup (pv 0) pe_int (fun _ _=>rfl)) pa_nil)))) pss_nil) (pss_cons (ps_if (pt_cmpR op_in_seq (pe_ix ix_tup (pv 0) pe_int (fun _ _=>rfl)) (pe_glob (v:=.ref (He.ga K "JUMPS")) rfl (g_JUMPS T) rfl) (by rfl)) (pss_one (ps_ret (pe_call G_is_between (hr.mono (by decide)) rfl (g_is_between T) kp_is_between bi_is_between .nil passF (pa_cons (pe_ix ix_tup (pv 0) pe_int (fun _ _=>rfl)) (pa_cons pe_int (pa_cons (pv 1) pa_nil)))))) pss_nil) (pss_one (ps_ret (pe_or (pe_cmpR op_ne (pe_ix ix_tup (pv 0) pe_int (fun _ _=>rfl)) pe_str (nomark _)) (pe_one (pe_and (pe_callB call_isi rfl (fr_isinstance T) b_isinstance (pa_cons (pe_ix ix_tup (pv 0) pe_int (fun _ _=>rfl)) (pa_cons (pe_bltn (v:=.ty "tuple") rfl (fr_tuple T) b_tuple rfl) pa_nil))) (pe_one (pe_cmpR (FcW.op_neNil hr) (pe_ix ix_tup (pv 0) pe_int (fun _ _=>rfl)) (pe_tup pa_nil) (nomark _)))))))))))),?_⟩
  refine ⟨_,rfl,v,.ty "tuple",_,_,_,rfl,.ty _,dz_ty hd,k_tuple d,_,rfl,ite_of (fun h1=>?_) (fun h1=>?_)⟩
  ·have e:isStm d loops=false:=by cases d<;>first | rfl | cases h1
   rw [e] at q
   exact q H (Evl.Ex.refl H)
  obtain ⟨ds,rfl⟩:∃ ds,d=.tuple ds:=by cases d<;>first | exact ⟨_,rfl⟩ | cases h1
  obtain ⟨a,xs,rfl,hS,hA⟩:=dz_tup hd
  refine ⟨_,rfl,sz (by decide),fun p hp=>?_⟩
  have x1:Ex H (upd H p (.tup [])):=exu (Evl.Ex.refl H) hp
  refine ⟨a,p,xs,rfl,rfl,Evl.ex_t x1 hS,Evl.st_of upd_same,_,rfl,ite_of (fun h2=>?_) (fun h2=>?_)⟩
  ·cases hA with
   | nil=>exact q _ x1
   | cons _ _=>cases h2
  cases hA with
  | nil=>cases h2
  | @cons v0 xr d0 dr h0 hA =>
  have hS1:=Evl.ex_t x1 hS
  refine ⟨_,rfl,a,_,_,_,rfl,rfl,hS1,at0,v0,.ty "str",_,_,_,rfl,.ty _,dz_ty (dz_ex x1 h0),k_str d0,_,rfl,ite_of (fun h3=>?_) (fun h3=>?_)⟩
  ·have e:isStm (.tuple (d0::dr)) loops=false:=by cases d0<;>first | rfl | cases h3
   rw [e] at q
   exact q _ x1
  obtain ⟨k,rfl⟩:∃ k,d0=.str k:=by cases d0<;>first | exact ⟨_,rfl⟩ | cases h3
  obtain rfl:=dz_str h0
  have el:=dzA_len hA
  obtain ⟨r,n1,n2⟩:=sizes_ns T k
  refine ⟨_,rfl,a,_,_,_,rfl,rfl,hS1,at0,k,r,rfl,rfl,n1,_,rfl,ite_of (fun h4=>?_) (fun h4=>?_)⟩
  ·have e:isStm (.tuple (.str k::dr)) loops=false:=by
    cases e1:kSizes.lookup k with
    | none=>simp only [isStm,e1]
    | some n =>
     rw [e1] at n2
     obtain ⟨u,rfl,_⟩:=n2
     cases h4
   rw [e] at q
   exact q _ x1
  cases e1:kSizes.lookup k with
  | none =>
   rw [e1] at n2
   subst n2
   cases h4
  | some n =>
  rw [e1] at n2
  obtain ⟨u,rfl,ru⟩:=n2
  have q':∀ b,(isStm (.tuple (.str k::dr)) loops=b)→∀ H',Ex H H'→Q (.bl b) H':=fun b e=>by rw [← e];exact q
  refine ⟨_,rfl,a,_,rfl,.inr hS1,_,rfl,a,_,_,_,rfl,rfl,hS1,at0,_,k,.int n,rfl,rfl,⟨es,nE,u,D.at_,D.lit,n1,ru⟩,rfl,_,rfl,ite_of (fun h5=>?_) (fun h5=>?_)⟩
  ·refine q' false ?_ _ x1
   have h6:¬ ((dr.length:Int) + 1=n):=by
    intro e
    have:decide (V.int ((V.str k::xr).length:Int)=V.int n)=true:=decide_eq_true (by rw [List.length_cons,el];congr 1)
    rw [this] at h5
    cases h5
   simp only [isStm,e1,if_pos h6]
  have hn:(dr.length:Int) + 1=n:=by
   have h6:decide (V.int ((V.str k::xr).length:Int)=V.int n)=true:=by
    cases z:decide (V.int ((V.str k::xr).length:Int)=V.int n) with
    | true=>rfl
    | false=>rw [z] at h5;cases h5
   have h7:=V.int.inj (of_decide_eq_true h6)
   rw [List.length_cons,el] at h7
   omega
  have es0:isStm (.tuple (.str k::dr)) loops=(if k∈kNamed then isName (dr.getD 0 .none) else if k∈kJumps then isNum 1 loops (dr.getD 0 .none) else (if k≠"seq" then true else nonEmptyT (dr.getD 0 .none))):=by
   simp only [isStm,e1,if_neg (show ¬ ((dr.length:Int) + 1≠n) from fun z=>z hn)]
  refine ⟨_,rfl,a,_,_,_,rfl,rfl,hS1,at0,He.ga K "NAMED",_,rfl,.inr (t_NAMED T _),rfl,flat_strs kNamed,_,rfl,ite_of (fun h6=>?_) (fun h6=>?_)⟩
  ·have h6:inV (.str k) (kNamed.map V.str)=true:=h6
   rw [inV_strs] at h6
   have hk:=of_decide_eq_true h6
   have n2:=named_two hk e1
   cases hA with
   | nil=>simp at hn;omega
   | @cons v1 xr d1 dr g1 hA =>
   refine ⟨_,rfl,a,_,_,_,rfl,rfl,hS1,at1,v1,d1,rfl,dz_ex x1 g1,fun x e=>hz (.str k) x dr (by rw [e]),fun H' x2=>q' _ ?_ H' (x1.trans x2)⟩
   rw [es0,if_pos hk]<;>rfl
  have h6:inV (.str k) (kNamed.map V.str)=false:=h6
  rw [inV_strs] at h6
  have hk:¬ k∈kNamed:=of_decide_eq_false h6
  refine ⟨_,rfl,a,_,_,_,rfl,rfl,hS1,at0,He.ga K "JUMPS",_,rfl,.inr (t_JUMPS T _),rfl,flat_strs kJumps,_,rfl,ite_of (fun h7=>?_) (fun h7=>?_)⟩
  ·have h7:inV (.str k) (kJumps.map V.str)=true:=h7
   rw [inV_strs] at h7
   have hj:=of_decide_eq_true h7
   have n2:=jumps_two hj e1
   cases hA with
   | nil=>simp at hn;omega
   | @cons v1 xr d1 dr g1 hA =>
   have e2:isStm (.tuple (.str k::d1::dr)) loops=isNum 1 loops d1:=by rw [es0,if_neg hk,if_pos hj]<;>rfl
   refine ⟨_,rfl,a,_,_,_,rfl,rfl,hS1,at1,_,rfl,v1,1,loops,rfl,?_⟩
   cases d1 with
   | int m =>
    obtain rfl:=dz_int g1
    exact .inl ⟨m,rfl,q' _ e2 _ x1⟩
   | _=>exact .inr ⟨_,_,_,dz_ty (dz_ex x1 g1),k_int _,k_bool _,rfl,q' _ e2 _ x1⟩
  have h7:inV (.str k) (kJumps.map V.str)=false:=h7
  rw [inV_strs] at h7
  have hj:¬ k∈kJumps:=of_decide_eq_false h7
  rw [if_neg hk,if_neg hj] at es0
  refine ⟨_,rfl,a,_,_,_,rfl,rfl,hS1,at0,rfl,_,rfl,ite_of (fun h8=>?_) (fun h8=>?_)⟩
  ·have hs:k≠"seq":=by
    intro e
    subst e
    have z:decide (V.str "seq"=V.str "seq")=true:=decide_eq_true rfl
    rw [z] at h8
    cases h8
   exact q' true (by rw [es0,if_pos hs]) _ x1
  have hs:k="seq":=by
   cases z:decide (V.str k=V.str "seq") with
   | true=>exact V.str.inj (of_decide_eq_true z)
   | false=>rw [z] at h8;cases h8
  subst hs
  have n2:=seq_two e1
  cases hA with
  | nil=>simp at hn;omega
  | @cons v1 xr d1 dr g1 hA =>
  rw [if_neg (fun z=>z rfl)] at es0
  refine ⟨_,rfl,a,_,_,_,rfl,rfl,hS1,at1,v1,.ty "tuple",_,_,_,rfl,.ty _,dz_ty (dz_ex x1 g1),k_tuple d1,_,rfl,ite_of (fun h9=>?_) (fun h9=>?_)⟩
  ·obtain ⟨es2,rfl⟩:∃ ds,d1=.tuple ds:=by cases d1<;>first | exact ⟨_,rfl⟩ | cases h9
   obtain ⟨b2,ys2,rfl,gS,gA⟩:=dz_tup g1
   refine ⟨_,rfl,a,_,_,_,rfl,rfl,hS1,at1,sz (by decide),fun p2 hp2=>?_⟩
   have x2:Ex H (upd (upd H p (.tup [])) p2 (.tup [])):=exu x1 hp2
   refine ⟨b2,p2,ys2,rfl,rfl,Evl.ex_t x2 gS,Evl.st_of upd_same,q' _ ?_ _ x2⟩
   rw [es0]
   cases gA<;>rfl
  ·refine q' false ?_ _ x1
   rw [es0]
   cases d1<;>first | rfl | cases h9
theorem ok_parts_inZ (T:Tx w h K mg):Ok P w K mg base 1 ("parts_in",none) ["statement"] (sp_parts_inZ K):=by
 obtain ⟨fd,F⟩:=F_parts_in T
 refine ⟨fd,?_,F.bindsN (fun _ _ _ _ _ _ us hl=>match us,hl with | [_],_=>rfl),F.kp⟩
 obtain ⟨tm_MOST_STATEMENTS,m_MOST_STATEMENTS⟩:=i_MOST_STATEMENTS T
 refine F.ok sc_parts_in (fun vs H Q E h=>?_) (fun cdv A outer s H vs Q E hr h=>?_)
 ·obtain ⟨F0,v,d,loops,rfl,xF,hd,hs,q⟩:=h
  rfl
 ·obtain ⟨F0,v,d,loops,rfl,xF,hd,hs,q⟩:=h
  refine ⟨_,PSs.nox (pss_cons (ps_if (pt_cmpR op_eq (pe_ix ix_tup (pv 0) pe_int (fun _ _=>rfl)) pe_str (nomark _)) (pss_one (ps_ret (pe_callTy call_list_of rfl (fr_list T) b_list (pa_cons (pe_slice sl_tupA (pe_ix ix_tup (pv 0) pe_int (fun _ _=>rfl)) po_none (po_some (pe_op op_add (pe_glob (v:=.int 400) rfl m_MOST_STATEMENTS ⟨_,rfl⟩) pe_int))) pa_nil)))) pss_nil) (pss_cons (ps_if (pt_cmpR op_in_seq (pe_ix ix_tup (pv 0) pe_int (fun _ _=>rfl)) (pe_glob (v:=.ref (He.ga K "NAMED")) rfl (g_NAMED T) rfl) (by rfl)) (pss_one (ps_ret (pe_callTy call_list_of rfl (fr_list T) b_list (pa_cons (pe_slice sl_tupA (pv 0) (po_some pe_int) po_none) pa_nil)))) pss_nil) (pss_one (ps_ret (pe_ifExp (pt_cmpR op_in_seq (pe_ix ix_tup (pv 0) pe_int (fun _ _=>rfl)) (pe_tup (pa_cons pe_str (pa_cons pe_str pa_nil))) (by rfl)) (pe_callTy call_list_of rfl (fr_list T) b_list (pa_cons (pe_slice sl_tupA (pv 0) (po_some pe_int) po_none) pa_nil)) (pe_lst pa_nil)))))),?_⟩
  obtain ⟨k,r,n,rfl,e1,hn,hs⟩:=isStm_shape hs
  obtain ⟨a,xs,rfl,hS,hA⟩:=dz_tup hd
  have hS:=Evl.ex_t xF hS
  cases hA with
  | @cons v0 xr _ _ h0 hA =>
  obtain rfl:=dz_str h0
  refine ⟨_,rfl,a,_,_,_,rfl,rfl,hS,at0,rfl,_,rfl,ite_of (fun h1=>?_) (fun h1=>?_)⟩
  ·have hk:k="seq":=V.str.inj (of_decide_eq_true h1)
   subst hk
   have n2:=seq_two e1
   have nn:¬ (("seq":Str)∈kNamed):=by decide +kernel
   have nj:¬ (("seq":Str)∈kJumps):=by decide +kernel
   rw [if_neg nn,if_neg nj,if_neg (fun z=>z rfl)] at hs
   cases hA with
   | nil=>simp at hn;omega
   | @cons v1 xr d1 dr g1 hA =>
   obtain ⟨ps,rfl⟩:∃ ps,d1=.tuple ps:=by cases d1<;>first | exact ⟨_,rfl⟩ | cases hs
   obtain ⟨b,ys,rfl,gS,gA⟩:=dz_tup g1
   have gS:=Evl.ex_t xF gS
   refine ⟨_,rfl,a,_,_,_,rfl,rfl,hS,at1,_,_,rfl,rfl,_,rfl,?_⟩
   refine sl_any (lo:=none) gS fun p H1 x1 s1=>?_
   refine ⟨p,_,rfl,.inr s1,fun l hl=>q l _ _ (fresh_up x1 hl) (exu x1 hl) upd_same ?_⟩
   rw [show ((400:Int) + 1)=((401:Nat):Int) from rfl,cut_to]
   exact dzA_take 401 gA
  have hk:¬ k="seq":=fun e=>by
   have z:decide (V.str k=V.str "seq")=true:=decide_eq_true (by rw [e])
   rw [z] at h1
   cases h1
  refine ⟨_,rfl,a,_,_,_,rfl,rfl,hS,at0,He.ga K "NAMED",_,rfl,.inr (t_NAMED T _),rfl,flat_strs kNamed,_,rfl,ite_of (fun h2=>?_) (fun h2=>?_)⟩
  ·have h2:inV (.str k) (kNamed.map V.str)=true:=h2
   rw [inV_strs] at h2
   have hm:=of_decide_eq_true h2
   refine ⟨_,rfl,_,rfl,?_⟩
   dsimp only [tNoPart]
   refine sl_any (hi:=none) hS fun p H1 x1 s1=>?_
   refine ⟨p,_,rfl,.inr s1,fun l hl=>q l _ _ (fresh_up x1 hl) (exu x1 hl) upd_same ?_⟩
   rw [show (2:Int)=((2:Nat):Int) from rfl,cut_from]
   show DzAll K F0 (xr.drop 1) (partsD (.tuple (.str k::r)))
   rw [show partsD (.tuple (.str k::r))=r.drop 1 from by simp only [partsD,if_neg hk,if_pos hm]]
   exact dzA_drop 1 hA
  have h2:inV (.str k) (kNamed.map V.str)=false:=h2
  rw [inV_strs] at h2
  have hm:¬ k∈kNamed:=of_decide_eq_false h2
  refine ⟨_,rfl,a,_,_,_,rfl,rfl,hS,at0,sz (by decide),fun p0 hp0=>⟨p0,_,rfl,.inr (Evl.st_of upd_same),rfl,flat_strs ["try","final"],_,rfl,ite_of (fun h3=>?_) (fun h3=>?_)⟩⟩
  ·have h3:inV (.str k) ((["try","final"]:List Str).map V.str)=true:=h3
   rw [inV_strs] at h3
   have ht:k="try"∨k="final":=by simpa using of_decide_eq_true h3
   have x0:Ex H (upd H p0 (.tup [.str "try",.str "final"])):=exu (Evl.Ex.refl H) hp0
   refine ⟨_,rfl,_,rfl,?_⟩
   dsimp only [tNoPart]
   refine sl_any (hi:=none) (Evl.ex_t x0 hS) fun p H1 x1 s1=>?_
   have x2:=x0.trans x1
   refine ⟨p,_,rfl,.inr s1,fun l hl=>q l _ _ (fresh_up x2 hl) (exu x2 hl) upd_same ?_⟩
   rw [show (1:Int)=((1:Nat):Int) from rfl,cut_from]
   show DzAll K F0 xr (partsD (.tuple (.str k::r)))
   rw [show partsD (.tuple (.str k::r))=r from by simp only [partsD,if_neg hk,if_neg hm,if_pos ht]]
   exact hA
  ·have h3:inV (.str k) ((["try","final"]:List Str).map V.str)=false:=h3
   rw [inV_strs] at h3
   have ht:¬ (k="try"∨k="final"):=by simpa using of_decide_eq_false h3
   have x0:Ex H (upd H p0 (.tup [.str "try",.str "final"])):=exu (Evl.Ex.refl H) hp0
   refine ⟨sz (by decide),fun l hl=>q l _ _ (fresh_up x0 hl) (exu x0 hl) upd_same ?_⟩
   rw [show partsD (.tuple (.str k::r))=[] from by simp only [partsD,if_neg hk,if_neg hm,if_neg ht]]
   exact .nil
theorem ok_Code_checkZ (T:Tx w h K mg):Ok P w K mg base 4 ("Code",some "check") ["self","value","number","deep","loops","blocks"] (sp_Code_checkZ K):=by
 obtain ⟨fd,F⟩:=F_Code_check T
 refine ⟨fd,?_,F.bindsN (fun _ _ _ _ _ _ us hl=>match us,hl with | [_,_,_,_,_,_],_=>rfl),F.kp⟩
 obtain ⟨fd_is_statement,G_is_statement,bi_is_statement,kp_is_statement⟩:=ok_is_statementZ (P:=P) (base:=base) T
 obtain ⟨fd_InvalidCode___init__,G_InvalidCode___init__,bi_InvalidCode___init__,kp_InvalidCode___init__,FD_InvalidCode___init__⟩:=okF_InvalidCode___init__ (P:=P) (base:=base) T
 obtain ⟨fd_LimitExceeded___init__,G_LimitExceeded___init__,bi_LimitExceeded___init__,kp_LimitExceeded___init__,FD_LimitExceeded___init__⟩:=okF_LimitExceeded___init__ (P:=P) (base:=base) T
 obtain ⟨tm_MOST_BLOCKS,m_MOST_BLOCKS⟩:=i_MOST_BLOCKS T
 obtain ⟨tm_MOST_DEEP,m_MOST_DEEP⟩:=i_MOST_DEEP T
 obtain ⟨tm_MOST_STATEMENTS,m_MOST_STATEMENTS⟩:=i_MOST_STATEMENTS T
 refine F.ok sc_Code_check (fun vs H Q E h=>?_) (fun cdv A outer s H vs Q E hr h=>?_)
 ·obtain ⟨v0,v,d,n,deep,loops,blocks,rfl,hd,hz,alt⟩:=h
  rfl
 ·obtain ⟨v0,v,d,n,deep,loops,blocks,rfl,hd,hz,alt⟩:=h
  refine ⟨_,(pss_cons (ps_if (pt_cmpR op_ge (pv 2) (pe_glob (v:=.int 400) rfl m_MOST_STATEMENTS ⟨_,rfl⟩) (nomark _)) (pss_one (ps_raise rfl (takes_of rfl rfl rfl rfl) (FcX.pmk_X (x_LimitExceeded T) (xi_LimitExceeded T) G_LimitExceeded___init__ (hr.mono (by decide)) bi_LimitExceeded___init__ passF rfl (g_LimitExceeded T) (pe_glob (v:=.int 400) rfl m_MOST_STATEMENTS ⟨_,rfl⟩)))) pss_nil) (pss_cons (ps_if (pt_cmpR op_gt (pv 3) (pe_glob (v:=.int 100) rfl m_MOST_DEEP ⟨_,rfl⟩) (nomark _)) (pss_one (ps_raise rfl (takes_of rfl rfl rfl rfl) (FcX.pmk_X (x_LimitExceeded T) (xi_LimitExceeded T) G_LimitExceeded___init__ (hr.mono (by decide)) bi_LimitExceeded___init__ passF rfl (g_LimitExceeded T) (pe_glob (v:=.int 100) rfl m_MOST_DEEP ⟨_,rfl⟩)))) pss_nil) (pss_cons (ps_if (pt_cmpR op_gt (pv 5) (pe_glob (v:=.int 25) rfl m_MOST_BLOCKS ⟨_,rfl⟩) (nomark _)) (pss_one (ps_raise rfl (takes_of rfl rfl rfl rfl) (FcX.pmk_X (x_LimitExceeded T) (xi_LimitExceeded T) G_LimitExceeded___init__ (hr.mono (by decide)) bi_LimitExceeded___init__ passF rfl (g_LimitExceeded T) (pe_glob (v:=.int 25) rfl m_MOST_BLOCKS ⟨_,rfl⟩)))) pss_nil) (pss_one (ps_if (pt_not (pt_val (pe_call G_is_statement (hr.mono (by decide)) rfl (g_is_statement T) kp_is_statement bi_is_statement .nil (passes_call (takes_of rfl rfl rfl rfl) (fun _ _ _ _ h=>h)) (pa_cons (pv 1) (pa_cons (pv 4) pa_nil))))) (pss_one (ps_raise rfl (takes_of rfl rfl rfl rfl) (FcX.pmk_X (x_InvalidCode T) (xi_InvalidCode T) G_InvalidCode___init__ (hr.mono (by decide)) bi_InvalidCode___init__ passF rfl (g_InvalidCode T) (pv 2)))) pss_nil))))),?_⟩
  rcases alt with ⟨l1,l2,l3,hs,q⟩ | ⟨C,f,i,hf,ra⟩
  ·refine ⟨_,rfl,_,_,rfl,rfl,_,rfl,itF (decide_eq_false (by omega)) ?_⟩
   refine ⟨_,rfl,_,_,rfl,rfl,_,rfl,itF (decide_eq_false (by omega)) ?_⟩
   refine ⟨_,rfl,_,_,rfl,rfl,_,rfl,itF (decide_eq_false (by omega)) ?_⟩
   exact ⟨_,rfl,_,rfl,v,d,loops,rfl,hd,hz,fun H' x=>⟨_,rfl,itF (by rw [hs]<;>rfl) (q H' x)⟩⟩
  have fin:∀ H1,Ex H H1→∀ d,H1 d=none→E (.ref (He.ga K C)) (some d) (upd H1 d (.xd [(f,.int i)])):=fun H1 e d n=>ra _ d (e.trans (exu (Evl.Ex.refl _) n)) (ex_none e n) upd_same
  unfold faultI at hf
  by_cases h1:400≤n
  ·rw [if_pos h1] at hf
   cases hf
   exact ⟨_,rfl,_,_,rfl,rfl,_,rfl,itT (decide_eq_true (by omega)) ⟨_,rfl,fun d n=>fin H (Evl.Ex.refl _) d n⟩⟩
  refine ⟨_,rfl,_,_,rfl,rfl,_,rfl,itF (decide_eq_false (by omega)) ?_⟩
  rw [if_neg h1] at hf
  by_cases h2:100<deep
  ·rw [if_pos h2] at hf
   cases hf
   exact ⟨_,rfl,_,_,rfl,rfl,_,rfl,itT (decide_eq_true (by omega)) ⟨_,rfl,fun d n=>fin H (Evl.Ex.refl _) d n⟩⟩
  refine ⟨_,rfl,_,_,rfl,rfl,_,rfl,itF (decide_eq_false (by omega)) ?_⟩
  rw [if_neg h2] at hf
  by_cases h3:25<blocks
  ·rw [if_pos h3] at hf
   cases hf
   exact ⟨_,rfl,_,_,rfl,rfl,_,rfl,itT (decide_eq_true (by omega)) ⟨_,rfl,fun d n=>fin H (Evl.Ex.refl _) d n⟩⟩
  refine ⟨_,rfl,_,_,rfl,rfl,_,rfl,itF (decide_eq_false (by omega)) ?_⟩
  rw [if_neg h3] at hf
  cases hs:isStm d loops with
  | true =>
   rw [hs,if_pos rfl] at hf
   cases hf
  | false =>
   rw [hs,if_neg (by decide)] at hf
   cases hf
   exact ⟨_,rfl,_,rfl,v,d,loops,rfl,hd,hz,fun H' x=>⟨_,rfl,itT (by rw [hs]<;>rfl) ⟨_,rfl,_,rfl,fun d n=>fin H' x d n⟩⟩⟩
end
end
section
def CodeZ (K:PySem.W.Frag) (F H:Hp) (A:CAd) (rows:List Row):Prop :=
 ∃ vs,CL K H A vs (rows.map fun r=>V.str (kindD r.d)) (rows.map fun r=>labD r.d) (rows.map fun r=>parV r.par) (rows.map fun r=>intsV r.ch)∧DzAll K F vs (rows.map Row.d)
def sp_Code_keepZ (K:PySem.W.Frag):Sp:=fun vs H Q _=>∃ (F:Hp) (A:CAd) (rows:List Row) (v:V) (d:PyData) (loops:Int) (par:Option Nat),vs=[.ref A.p,v,parV par]∧Ex F H∧CodeZ K F H A rows∧(∀ b∈A.all,F b=none)∧Dz K F v d∧isStm d loops=true ∧
 rows.length<1000∧(∀ i,par=some i→∃ r,rows[i]?=some r∧r.ch.length<1000) ∧
 ∀ c H',H c=none→CodeZ K F H' { A with cs:=A.cs++[c] } (addRow rows d par)→(∀ b o,H b=some o→b ∉ A.all→H' b=some o)→Q .non H'
inductive WAz (K:PySem.W.Frag) (F:Hp):List Addr→List WIt→Prop
 | nil:WAz K F [] []
 | cons {t:Addr} {ts:List Addr} {it:WIt} {st:List WIt} {v:V} (h:F t=some (.tup (wV v it))) (hd:Dz K F v it.d) (r:WAz K F ts st):WAz K F (t::ts) (it::st)
theorem WAz.ex {K:PySem.W.Frag} {F F':Hp} (e:Ex F F'):∀ {ts:List Addr} {st:List WIt},WAz K F ts st→WAz K F' ts st
 | _,_,.nil=>.nil
 | _,_,.cons h hd r=>.cons (e _ _ h) (dz_ex e hd) (WAz.ex e r)
theorem WAz.len {K:PySem.W.Frag} {F:Hp}:∀ {ts:List Addr} {st:List WIt},WAz K F ts st→ts.length=st.length
 | _,_,.nil=>rfl
 | _,_,.cons _ _ r=>congrArg Nat.succ (WAz.len r)
structure InZ (K:PySem.W.Frag) (F0 H:Hp) (p wq:Addr) (Gd:PyData→Prop) (st:List WIt) (rows:List Row) (A:CAd) (ts:List Addr) (F' H':Hp):Prop where
 ap:A.p=p
 code:CodeZ K F' H' A rows
 na:∀ b∈A.all,F' b=none
 wa:wq ∉ A.all
 fw:F' wq=none
 wl:H' wq=some (.lst (ts.map V.ref).reverse)
 wi:WAz K F' ts st
 ff:Ex F0 F'
 fh:Ex F' H'
 nw:∀ b,H b≠none→F0 b=none→F' b=none
 kp:∀ b o,H b=some o→b≠p→H' b=some o
 nh:∀ b∈A.all,b=p∨H b=none
 hw:H wq=none
 it:∀ i∈st,Gd i.d∧∀ j,i.par=some j→j<rows.length
 ch:∀ r∈rows,r.ch.length≤rows.length
theorem InZ.fresh {K:PySem.W.Frag} {F0 H F' H':Hp} {p wq:Addr} {Gd:PyData→Prop} {st:List WIt} {rows:List Row} {A:CAd} {ts:List Addr} (x:InZ K F0 H p wq Gd st rows A ts F' H') {c:Addr} (h:H' c=none):H c=none∧F' c=none∧c ∉ A.all∧c≠wq:=by
 obtain ⟨vs,C,_⟩:=x.code
 have n:c ∉ A.all:=C.fresh h
 have np:c≠p:=fun z=>n (by rw [z,← x.ap];simp [CAd.all])
 refine ⟨?_,?_,n,fun z=>by rw [z,x.wl] at h;cases h⟩
 ·cases e:H c with
  | none=>rfl
  | some o=>rw [x.kp c o e np] at h;cases h
 ·cases e:F' c with
  | none=>rfl
  | some o=>rw [x.fh c o e] at h;cases h
section
variable {K:PySem.W.Frag} {F0 H F' H' F2 H2:Hp} {p wq:Addr} {Gd:PyData→Prop} {st:List WIt} {rows:List Row} {A:CAd} {ts:List Addr}
theorem CodeZ.ex {F F2 H H2:Hp} (c:CodeZ K F H A rows) (e1:Ex F F2) (e2:Ex H H2):CodeZ K F2 H2 A rows:=by
 obtain ⟨vs,C,dL⟩:=c
 exact ⟨vs,C.ex e2,dzA_ex e1 dL⟩
theorem InZ.tr (x:InZ K F0 H p wq Gd st rows A ts F' H') {b:Addr} (hb:b∈A.all):H' b≠none:=fun z=>by
 obtain ⟨vs,C,_⟩:=x.code
 exact C.fresh z hb
theorem InZ.there (x:InZ K F0 H p wq Gd st rows A ts F' H') {b:Addr} (hb:H b≠none):H' b≠none:=by
 by_cases z:b=p
 ·exact x.tr (by rw [z,← x.ap];simp [CAd.all])
 ·intro y
  cases e:H b with
  | none=>exact hb e
  | some o=>rw [x.kp b o e z] at y;cases y
theorem InZ.ext (x:InZ K F0 H p wq Gd st rows A ts F' H') (e1:Ex F' F2) (e2:Ex F2 H2) (e3:Ex H' H2) (e4:∀ b,H' b≠none→F' b=none→F2 b=none):InZ K F0 H p wq Gd st rows A ts F2 H2 :=
 ⟨x.ap,x.code.ex e1 e3,fun b hb=>e4 b (x.tr hb) (x.na b hb),x.wa,e4 wq (by rw [x.wl];exact fun z=>nomatch z) x.fw,e3 _ _ x.wl,x.wi.ex e1,x.ff.trans e1,e2,fun b h1 h2=>e4 b (x.there h1) (x.nw b h1 h2),fun b o e hb=>e3 b o (x.kp b o e hb),x.nh,x.hw,x.it,x.ch⟩
theorem InZ.new (x:InZ K F0 H p wq Gd st rows A ts F' H') {q:Addr} {o:HO} (h:H' q=none):InZ K F0 H p wq Gd st rows A ts F' (upd H' q o) :=
 x.ext (Evl.Ex.refl _) (exu x.fh h) (exu (Evl.Ex.refl _) h) fun _ _ e=>e
theorem InZ.pop {it:WIt} {t:Addr} (x:InZ K F0 H p wq Gd (it::st) rows A (t::ts) F' H'):InZ K F0 H p wq Gd st rows A ts F' (upd H' wq (.lst (ts.map V.ref).reverse)):=by
 obtain ⟨vs,C,dL⟩:=x.code
 refine ⟨x.ap,⟨vs,C.off x.wa,dL⟩,x.na,x.wa,x.fw,upd_same,?_,x.ff,exm x.fh x.fw,x.nw,fun b o e hb=>?_,x.nh,x.hw,fun i hi=>x.it i (List.mem_cons_of_mem _ hi),x.ch⟩
 ·cases x.wi with
  | cons _ _ r=>exact r
 ·rw [upd_ne (nn_of x.hw e)]
  exact x.kp b o e hb
theorem InZ.kept (x:InZ K F0 H p wq Gd st rows A ts F' H') {c:Addr} {d:PyData} {par:Option Nat} (hc:H' c=none) (cd:CodeZ K F' H2 { A with cs:=A.cs++[c] } (addRow rows d par)) (kp:∀ b o,H' b=some o→b ∉ A.all→H2 b=some o) :
  InZ K F0 H p wq Gd st (addRow rows d par) { A with cs:=A.cs++[c] } ts F' H2:=by
 obtain ⟨f1,f2,f3,f4⟩:=x.fresh hc
 have mem:∀ b,b∈({ A with cs:=A.cs++[c] }:CAd).all→b∈A.all∨b=c:=fun b hb=>by
  simp only [CAd.all,List.mem_cons,List.mem_append,List.not_mem_nil,or_false] at hb ⊢
  rcases hb with h | h | h | h | h | h | h | h<;>simp [h]
 refine ⟨x.ap,cd,fun b hb=>?_,fun hb=>?_,x.fw,kp _ _ x.wl x.wa,x.wi,x.ff,fun b o e=>kp b o (x.fh b o e) (fun z=>by rw [x.na b z] at e;cases e),x.nw,fun b o e hb=>?_,fun b hb=>?_,x.hw,fun i hi=>⟨(x.it i hi).1,fun j e=>?_⟩,addRow_ch x.ch⟩
 ·rcases mem b hb with h | h
  ·exact x.na b h
  ·rw [h];exact f2
 ·rcases mem wq hb with h | h
  ·exact x.wa h
  ·exact f4 h.symm
 ·refine kp b o (x.kp b o e hb) fun z=>?_
  rcases x.nh b z with y | y
  ·exact hb y
  ·rw [y] at e;cases e
 ·rcases mem b hb with h | h
  ·exact x.nh b h
  ·rw [h];exact .inr f1
 ·rw [addRow_len]
  have:=(x.it i hi).2 j e
  omega
theorem InZ.push {it:WIt} {t:Addr} {v:V} (x:InZ K F0 H p wq Gd st rows A ts F' H') (ht:H' t=none) (hd:Dz K F' v it.d) (hit:Gd it.d∧∀ j,it.par=some j→j<rows.length) :
  InZ K F0 H p wq Gd (it::st) rows A (t::ts) (upd F' t (.tup (wV v it))) (upd (upd H' t (.tup (wV v it))) wq (.lst (((t::ts).map V.ref).reverse))):=by
 obtain ⟨f1,f2,f3,f4⟩:=x.fresh ht
 have x1:=x.ext (F2:=upd F' t (.tup (wV v it))) (H2:=upd H' t (.tup (wV v it))) (exu (Evl.Ex.refl _) f2) (fun b o e=>by
   by_cases z:b=t
   ·rw [z,upd_same] at e ⊢;exact e
   ·rw [upd_ne z] at e ⊢;exact x.fh b o e) (exu (Evl.Ex.refl _) ht) (fun b h1 h2=>by rw [upd_ne (fun z=>h1 (by rw [z];exact ht))];exact h2)
 obtain ⟨vs,C,dL⟩:=x1.code
 refine ⟨x.ap,⟨vs,C.off x.wa,dL⟩,x1.na,x.wa,x1.fw,upd_same,.cons upd_same (dz_ex (exu (Evl.Ex.refl _) f2) hd) x1.wi,x1.ff,exm x1.fh x1.fw,x1.nw,fun b o e hb=>?_,x.nh,x.hw,fun i hi=>?_,x.ch⟩
 ·rw [upd_ne (nn_of x.hw e)]
  exact x1.kp b o e hb
 ·rcases List.mem_cons.mp hi with rfl | hi
  ·exact hit
  ·exact x.it i hi
end
def sp_Code___init__Z (K:PySem.W.Frag):Sp:=fun vs H Q E=>∃ (F:Hp) (p dx:Addr) (v:V) (d:PyData) (G:PyData→Prop) (N:Nat) (fin:Str×Str×Int),vs=[.ref p,v]∧H p=some (.ins (He.ga K "Code") dx [])∧Ex F H∧F p=none∧Dz K F v d ∧
 (∀ e,G e→szD e∧((∃ l,isStm e l=true)→∀ x∈partsD e,G x))∧G d∧Fails N [⟨d,none,1,0,0⟩] [] fin ∧
 ∀ H' dd,(∀ b o,H b=some o→b≠p→H' b=some o)→H dd=none→H' dd=some (.xd [(fin.2.1,.int fin.2.2)])→E (.ref (He.ga K fin.1)) (some dd) H'
section
variable {P:Program} {w:World} {h:Heap} {K:PySem.W.Frag} {mg:Str→Option Value} {base:Heap}
theorem ok_Code_keepZ (T:Tx w h K mg):Ok P w K mg base 1 ("Code",some "keep") ["self","statement","parent"] (sp_Code_keepZ K):=by
 obtain ⟨fd,F⟩:=F_Code_keep T
 refine ⟨fd,?_,F.bindsN (fun _ _ _ _ _ _ us hl=>match us,hl with | [_,_,_],_=>rfl),F.kp⟩
 refine F.ok sc_Code_keep (fun vs H Q E h=>?_) (fun cdv A outer s H vs Q E hr h=>?_)
 ·obtain ⟨F0,A,rows,v,d,loops,par,rfl,xF,⟨L1,C,dL⟩,nw,hd,hs,hl,hpar,q⟩:=h
  rfl
 ·obtain ⟨F0,A,rows,v,d,loops,par,rfl,xF,⟨L1,C,dL⟩,nw,hd,hs,hl,hpar,q⟩:=h
  refine ⟨_,PSs.nox (Evl.pss_cut (ps_if (pt_cmpR op_notN (pv 2) pe_non (nomark _)) (pss_one (ps_expr (pe_bm PySem.F.plainAttrs_list PySem.F.slot_list_append PySem.F.type_list_append mt_append (pe_ix ix_list (pe_fld (pv 0) rfl) (pv 2) (fun _ _=>rfl)) (pa_cons (pe_callB call_len_seq rfl (fr_len T) b_len (pa_cons (pe_fld (pv 0) rfl) pa_nil)) pa_nil)))) pss_nil) (pss_cons (ps_expr (pe_bm PySem.F.plainAttrs_list PySem.F.slot_list_append PySem.F.type_list_append mt_append (pe_fld (pv 0) rfl) (pa_cons (pv 1) pa_nil))) (pss_cons (ps_expr (pe_bm PySem.F.plainAttrs_list PySem.F.slot_list_append PySem.F.type_list_append mt_append (pe_fld (pv 0) rfl) (pa_cons (pe_ix ix_tup (pv 1) pe_int (fun _ _=>rfl)) pa_nil))) (Evl.pss_cut (ps_expr (pe_bm PySem.F.plainAttrs_list PySem.F.slot_list_append PySem.F.type_list_append mt_append (pe_fld (pv 0) rfl) (pa_cons (pe_ifExp (pt_cmpR op_in_seq (pe_ix ix_tup (pv 1) pe_int (fun _ _=>rfl)) (pe_op op_catT (pe_glob (v:=.ref (He.ga K "NAMED")) rfl (g_NAMED T) rfl) (pe_glob (v:=.ref (He.ga K "JUMPS")) rfl (g_JUMPS T) rfl)) (by rfl)) (pe_ix ix_tup (pv 1) pe_int (fun _ _=>rfl)) pe_non) pa_nil))) (pss_cons (ps_expr (pe_bm PySem.F.plainAttrs_list PySem.F.slot_list_append PySem.F.type_list_append mt_append (pe_fld (pv 0) rfl) (pa_cons (pv 2) pa_nil))) (pss_one (ps_expr (pe_bm PySem.F.plainAttrs_list PySem.F.slot_list_append PySem.F.type_list_append mt_append (pe_fld (pv 0) rfl) (pa_cons (pe_lst pa_nil) pa_nil))))))))),?_⟩
  obtain ⟨k,r,n,rfl,_,_,_⟩:=isStm_shape hs
  obtain ⟨a,xs,rfl,hS,hA⟩:=dz_tup hd
  cases hA with
  | @cons v0 xr _ _ h0 hA =>
  obtain rfl:=dz_str h0
  refine ⟨fun σ' H'=>σ'=L2.start N_Code_keep [.ref A.p,.ref a,parV par]∧CL K H' A L1 (rows.map fun r=>V.str (kindD r.d)) (rows.map fun r=>labD r.d) (rows.map fun r=>parV r.par) ((stepRows rows par).map fun r=>intsV r.ch)∧Ex F0 H'∧(∀ b o,H b=some o→b ∉ A.all→H' b=some o)∧(∀ b,H' b=none→H b=none),?_,?_⟩
  ·refine ⟨_,rfl,rfl,_,rfl,ite_of (fun h1=>?_) (fun h1=>?_)⟩
   ·cases par with
    | none=>cases h1
    | some i =>
    obtain ⟨ri,e1,e2⟩:=hpar i rfl
    have li:i<A.cs.length:=by rw [C.cl,List.length_map];exact (List.getElem?_eq_some_iff.mp e1).1
    have hci:A.cs[i]?=some A.cs[i]:=List.getElem?_eq_getElem li
    have hcm:A.cs[i]∈A.cs:=List.getElem_mem li
    have hcc:=C.cc i _ _ hci (show (rows.map fun r=>intsV r.ch)[i]?=some (intsV ri.ch) from by rw [List.getElem?_map,e1]<;>rfl)
    refine ⟨_,rfl,A.p,_,_,_,_,rfl,C.ob,c_Code T,na_Code_children T,fl_Code_children _ _ _ _ _,_,rfl,A.a5,_,_,.ref A.cs[i],rfl,rfl,Evl.sq_of C.h5,atI_nat (by rw [List.getElem?_map,hci]<;>rfl),Or.inl ⟨rfl,_,Evl.sq_of hcc⟩,?_⟩
    refine ⟨_,rfl,A.p,_,_,_,_,rfl,C.ob,c_Code T,na_Code_kinds T,fl_Code_kinds _ _ _ _ _,A.a2,_,rfl,.inl (Evl.sq_of C.h2),A.cs[i],_,_,rfl,rfl,hcc,szl (by rw [intsV,List.length_map];omega),?_⟩
    refine ⟨rfl,?_,exm xF (nw _ (in_allc hcm)),fun b o e hb=>by rw [upd_ne (fun z=>hb (by rw [z];exact in_allc hcm))];exact e,fun b e=>?_⟩
    ·have y:=C.child hci (intsV ri.ch++[.int ((rows.map fun r=>V.str (kindD r.d)).length:Int)])
     have e3:(stepRows rows (some i)).map (fun r=>intsV r.ch)=(rows.map fun r=>intsV r.ch).set i (intsV ri.ch++[.int ((rows.map fun r=>V.str (kindD r.d)).length:Int)]):=by
      rw [List.length_map]
      exact addCh_ch rows i rows.length ri e1
     rw [e3]
     exact y
    ·by_cases z:b=A.cs[i]
     ·rw [z,upd_same] at e
      cases e
     ·rw [upd_ne z] at e
      exact e
   ·cases par with
    | some i=>cases h1
    | none=>exact ⟨rfl,C,xF,fun b o e _=>e,fun b e=>e⟩
  rintro σ' H1 ⟨rfl,C1,xF1,kp1,fr1⟩
  have es:(stepRows rows par).map (fun r=>V.str (kindD r.d))=rows.map (fun r=>V.str (kindD r.d)):=by cases par with
   | none=>rfl
   | some i=>exact addCh_map _ rows i _ fun _=>rfl
  have el:(stepRows rows par).map (fun r=>labD r.d)=rows.map (fun r=>labD r.d):=by cases par with
   | none=>rfl
   | some i=>exact addCh_map _ rows i _ fun _=>rfl
  have ep:(stepRows rows par).map (fun r=>parV r.par)=rows.map (fun r=>parV r.par):=by cases par with
   | none=>rfl
   | some i=>exact addCh_map _ rows i _ fun _=>rfl
  have ed:(stepRows rows par).map Row.d=rows.map Row.d:=by cases par with
   | none=>rfl
   | some i=>exact addCh_map _ rows i _ fun _=>rfl
  have l1:L1.length=rows.length:=by rw [dzA_len dL,List.length_map]
  refine ⟨_,rfl,A.p,_,_,_,_,rfl,C1.ob,c_Code T,na_Code_statements T,fl_Code_statements _ _ _ _ _,Or.inl ⟨rfl,_,Evl.sq_of C1.h1⟩,_,rfl,A.a1,_,_,rfl,rfl,C1.h1,szl (by omega),?_⟩
  have C2:=C1.s1 (L1++[.ref a])
  have xF2:=exm (o:=.lst (L1++[.ref a])) xF1 (nw _ (in_all1 A))
  refine ⟨_,rfl,A.p,_,_,_,_,rfl,C2.ob,c_Code T,na_Code_kinds T,fl_Code_kinds _ _ _ _ _,Or.inl ⟨rfl,_,Evl.sq_of C2.h2⟩,_,rfl,a,_,_,_,rfl,rfl,Evl.ex_t xF2 hS,at0,A.a2,_,_,rfl,rfl,C2.h2,szl (by rw [List.length_map];omega),?_⟩
  have C3:=C2.s2 (rows.map (fun r=>V.str (kindD r.d))++[.str k])
  have xF3:=exm (o:=.lst (rows.map (fun r=>V.str (kindD r.d))++[.str k])) xF2 (nw _ (in_all2 A))
  refine ⟨fun σ' H'=>σ'=L2.start N_Code_keep [.ref A.p,.ref a,parV par]∧CL K H' A (L1++[.ref a]) (rows.map (fun r=>V.str (kindD r.d))++[.str k]) (rows.map (fun r=>labD r.d)++[labD (.tuple (.str k::r))]) (rows.map fun r=>parV r.par) ((stepRows rows par).map fun r=>intsV r.ch)∧Ex F0 H'∧(∀ b o,H b=some o→b ∉ A.all→H' b=some o)∧(∀ b,H' b=none→H b=none),?_,?_⟩
  ·refine ⟨_,rfl,A.p,_,_,_,_,rfl,C3.ob,c_Code T,na_Code_labels T,fl_Code_labels _ _ _ _ _,Or.inl ⟨rfl,_,Evl.sq_of C3.h3⟩,_,rfl,a,_,_,_,rfl,rfl,Evl.ex_t xF3 hS,at0,He.ga K "NAMED",He.ga K "JUMPS",_,_,rfl,rfl,t_NAMED T _,t_JUMPS T _,(by simp),sz (by decide),(fun z=>by cases z),fun _ p0 hp0=>?_⟩
   have C4:=C3.off (o:=.tup (kLab.map V.str)) (C3.fresh hp0)
   have xF4:Ex F0 _:=exu (o:=.tup (kLab.map V.str)) xF3 hp0
   have fin:∀ (o1 o2 o4:HO) (H5:Hp),H5=upd (upd (upd (upd H1 A.a1 o1) A.a2 o2) p0 (.tup (kLab.map V.str))) A.a3 o4→(∀ b o,H b=some o→b ∉ A.all→H5 b=some o)∧(∀ b,H5 b=none→H b=none):=by
    intro o1 o2 o4 H5 e5
    subst e5
    have back:∀ {Hx:Hp} {q b:Addr} {o:HO},upd Hx q o b=none→Hx b=none:=fun {Hx q b o} e=>by
     by_cases z:b=q
     ·rw [z,upd_same] at e;cases e
     ·rw [upd_ne z] at e;exact e
    refine ⟨fun b o e hb=>?_,fun b e=>fr1 b (back (back (back (back e))))⟩
    have e1:=kp1 b o e hb
    have np:b≠p0:=fun z=>by
     have y:H1 p0=none:=by
      have y1:=back (back hp0)
      exact y1
     rw [z,y] at e1
     cases e1
    rw [upd_ne (fun z=>hb (by rw [z];exact in_all3 A)),upd_ne np,upd_ne (fun z=>hb (by rw [z];exact in_all2 A)),upd_ne (fun z=>hb (by rw [z];exact in_all1 A))]
    exact e1
   have tail:∀ u,u=labD (.tuple (.str k::r))→rAppend (.ref A.a3) [u] (upd (upd (upd H1 A.a1 (.lst (L1++[.ref a]))) A.a2 (.lst (rows.map (fun r=>V.str (kindD r.d))++[.str k]))) p0 (.tup (kLab.map V.str))) (fun _ H'=>L2.start N_Code_keep [.ref A.p,.ref a,parV par]=L2.start N_Code_keep [.ref A.p,.ref a,parV par]∧CL K H' A (L1++[.ref a]) (rows.map (fun r=>V.str (kindD r.d))++[.str k]) (rows.map (fun r=>labD r.d)++[labD (.tuple (.str k::r))]) (rows.map fun r=>parV r.par) ((stepRows rows par).map fun r=>intsV r.ch)∧Ex F0 H'∧(∀ b o,H b=some o→b ∉ A.all→H' b=some o)∧(∀ b,H' b=none→H b=none)):=by
    rintro u rfl
    obtain ⟨f1,f2⟩:=fin (.lst (L1++[.ref a])) (.lst (rows.map (fun r=>V.str (kindD r.d))++[.str k])) (.lst (rows.map (fun r=>labD r.d)++[labD (.tuple (.str k::r))])) _ rfl
    exact ⟨A.a3,_,_,rfl,rfl,C4.h3,szl (by rw [List.length_map];omega),rfl,C4.s3 _,exm xF4 (nw _ (in_all3 A)),f1,f2⟩
   refine ⟨p0,kLab.map V.str,rfl,.inr (Evl.st_of upd_same),rfl,flat_strs kLab,_,rfl,ite_of (fun h2=>?_) (fun h2=>?_)⟩
   ·have h2:inV (.str k) (kLab.map V.str)=true:=h2
    rw [inV_strs] at h2
    have hm:=of_decide_eq_true h2
    rcases stm_lab hs hm with ⟨x,r',rfl⟩ | ⟨x,r',rfl⟩
    ·cases hA with
     | @cons v1 xr' _ _ g1 hA =>
     obtain rfl:=dz_str g1
     refine ⟨_,rfl,a,_,_,_,rfl,rfl,Evl.ex_t xF4 hS,at1,tail _ ?_⟩
     simp only [labD,if_pos hm]
    ·cases hA with
     | @cons v1 xr' _ _ g1 hA =>
     obtain rfl:=dz_int g1
     refine ⟨_,rfl,a,_,_,_,rfl,rfl,Evl.ex_t xF4 hS,at1,tail _ ?_⟩
     simp only [labD,if_pos hm]
   ·have h2:inV (.str k) (kLab.map V.str)=false:=h2
    rw [inV_strs] at h2
    have hm:¬ k∈kLab:=of_decide_eq_false h2
    refine tail _ ?_
    simp only [labD,if_neg hm]
  rintro σ' H5 ⟨rfl,C5,xF5,kp5,fr5⟩
  refine ⟨_,rfl,A.p,_,_,_,_,rfl,C5.ob,c_Code T,na_Code_parents T,fl_Code_parents _ _ _ _ _,Or.inl ⟨rfl,_,Evl.sq_of C5.h4⟩,_,rfl,A.a4,_,_,rfl,rfl,C5.h4,szl (by rw [List.length_map];omega),?_⟩
  have C6:=C5.s4 (rows.map (fun r=>parV r.par)++[parV par])
  refine ⟨_,rfl,A.p,_,_,_,_,rfl,C6.ob,c_Code T,na_Code_children T,fl_Code_children _ _ _ _ _,Or.inl ⟨rfl,_,Evl.sq_of C6.h5⟩,sz (by decide),fun c hc=>?_⟩
  have nc5:A.a5≠c:=fun z=>C6.fresh hc (by rw [← z];exact in_all5 A)
  refine ⟨A.a5,_,_,rfl,rfl,by rw [upd_ne nc5];exact C6.h5,szl (by rw [List.length_map,C6.cl,List.length_map,stepRows_len];omega),?_⟩
  have C7:=C6.push hc
  have nc4:c≠A.a4:=fun z=>C6.fresh hc (by rw [z];exact in_all4 A)
  have hcH:H c=none:=fr5 c (by rw [upd_ne nc4] at hc;exact hc)
  have ea:addRow rows (.tuple (.str k::r)) par=stepRows rows par++[⟨.tuple (.str k::r),par,[]⟩]:=by cases par<;>rfl
  refine q c _ hcH ⟨L1++[.ref a],?_,?_⟩ fun b o e hb=>?_
  ·rw [ea,List.map_append,List.map_append,List.map_append,List.map_append,es,el,ep]
   exact C7
  ·rw [ea,List.map_append,ed]
   exact dzA_app dL (.cons hd .nil)
  ·have e5:=kp5 b o e hb
   have ncb:b≠c:=fun z=>by rw [z,hcH] at e;cases e
   rw [upd_ne (fun z=>hb (by rw [z];exact in_all5 A)),upd_ne ncb,upd_ne (fun z=>hb (by rw [z];exact in_all4 A))]
   exact e5
theorem ok_Code___init__Z (T:Tx w h K mg):Ok P w K mg base 6 ("Code",some "__init__") ["self","statement"] (sp_Code___init__Z K):=by
 obtain ⟨fd,F⟩:=F_Code___init__ T
 refine ⟨fd,?_,F.bindsN (fun _ _ _ _ _ _ us hl=>match us,hl with | [_,_],_=>rfl),F.kp⟩
 obtain ⟨fd_parts_in,G_parts_in,bi_parts_in,kp_parts_in⟩:=ok_parts_inZ (P:=P) (base:=base) T
 obtain ⟨fd_Code_check,G_Code_check,bi_Code_check,kp_Code_check⟩:=ok_Code_checkZ (P:=P) (base:=base) T
 obtain ⟨fd_Code_keep,G_Code_keep,bi_Code_keep,kp_Code_keep⟩:=ok_Code_keepZ (P:=P) (base:=base) T
 refine F.ok sc_Code___init__ (fun vs H Q E h=>?_) (fun cdv A outer s H vs Q E hr h=>?_)
 ·obtain ⟨F0,p,dx,v,d,Gd,N,fin,rfl,hp,xF,Fp,hd,hG,hGd,hB,q⟩:=h
  rfl
 ·obtain ⟨F0,p,dx,v,d,Gd,N,fin,rfl,hp,xF,Fp,hd,hG,hGd,hB,q⟩:=h
  refine ⟨_,(Evl.pss_cut (ps_asg (pe_tup (pa_cons (pe_lst pa_nil) (pa_cons (pe_lst pa_nil) (pa_cons (pe_lst pa_nil) pa_nil)))) (pg_tup rfl (pgs_cons (FcR.pg_fld (pv 0)) (pgs_cons (FcR.pg_fld (pv 0)) (pgs_cons (FcR.pg_fld (pv 0)) pgs_nil))))) (Evl.pss_cut (ps_asg (pe_tup (pa_cons (pe_lst pa_nil) (pa_cons (pe_lst pa_nil) pa_nil))) (pg_tup rfl (pgs_cons (FcR.pg_fld (pv 0)) (pgs_cons (FcR.pg_fld (pv 0)) pgs_nil)))) (pss_cons (ps_set (i:=2) sc_Code___init__.nd rfl (Or.inl rfl) (pe_lst (pa_cons (pe_tup (pa_cons (pv 1) (pa_cons pe_non (pa_cons pe_int (pa_cons pe_int (pa_cons pe_int pa_nil)))))) pa_nil))) (pss_one (ps_while (passes_of rfl) (pt_cmpR (FcW.op_neNilL hr) (pv 2) (pe_lst pa_nil) (nomark _)) (pss_cons (ps_asg (pe_bm0 PySem.F.plainAttrs_list PySem.F.slot_list_pop PySem.F.type_list_pop mt_pop (pv 2)) (pg_tup rfl (pgs_cons (pg_name (i:=3) sc_Code___init__.nd rfl (Or.inl rfl)) (pgs_cons (pg_name (i:=4) sc_Code___init__.nd rfl (Or.inl rfl)) (pgs_cons (pg_name (i:=5) sc_Code___init__.nd rfl (Or.inl rfl)) (pgs_cons (pg_name (i:=6) sc_Code___init__.nd rfl (Or.inl rfl)) (pgs_cons (pg_name (i:=7) sc_Code___init__.nd rfl (Or.inl rfl)) pgs_nil))))))) (pss_cons (ps_set (i:=8) sc_Code___init__.nd rfl (Or.inl rfl) (pe_callB call_len_seq rfl (fr_len T) b_len (pa_cons (pe_fld (pv 0) rfl) pa_nil))) (pss_cons (ps_expr (pe_meth (pv 0) (c_Code T) (me_Code_check T) G_Code_check (hr.mono (by decide)) bi_Code_check .nil (passes_call (takes_of rfl rfl rfl rfl) (fun _ _ _ _ h=>h)) (pa_cons (pv 3) (pa_cons (pv 8) (pa_cons (pv 5) (pa_cons (pv 6) (pa_cons (pv 7) pa_nil))))))) (pss_cons (ps_expr (pe_meth (pv 0) (c_Code T) (me_Code_keep T) G_Code_keep (hr.mono (by decide)) bi_Code_keep .nil (passes_call (takes_of rfl rfl rfl rfl) (fun _ _ _ _ h=>h)) (pa_cons (pv 3) (pa_cons (pv 4) pa_nil)))) (pss_one (ps_for (passes_of rfl) rfl (pi_reversed rfl (fr_reversed T) (pa_cons (FcR.pe_listEnum rfl (pe_call G_parts_in (hr.mono (by decide)) rfl (g_parts_in T) kp_parts_in bi_parts_in .nil (passes_call (takes_of rfl rfl rfl rfl) (fun _ _ _ _ h=>h)) (pa_cons (pv 3) pa_nil)) rfl (fr_list T) b_list rfl (fr_enumerate T) b_enumerate) pa_nil)) (pg_tup rfl (pgs_cons (pg_name (i:=9) sc_Code___init__.nd rfl (Or.inl rfl)) (pgs_cons (pg_name (i:=10) sc_Code___init__.nd rfl (Or.inl rfl)) pgs_nil))) (Evl.pss_cut (ps_set (i:=11) sc_Code___init__.nd rfl (Or.inl rfl) (pe_op op_add (pv 7) (pe_callTy call_int1 rfl (fr_int T) b_int (pa_cons (pe_and (pe_cmpR op_eq (pe_ix ix_tup (pv 3) pe_int (fun _ _=>rfl)) pe_str (nomark _)) (pe_one (pe_cmpR op_eq (pv 9) pe_int (nomark _)))) pa_nil)))) (pss_one (ps_expr (pe_bm PySem.F.plainAttrs_list PySem.F.slot_list_append PySem.F.type_list_append mt_append (pv 2) (pa_cons (pe_tup (pa_cons (pv 10) (pa_cons (pv 8) (pa_cons (pe_op op_add (pv 5) pe_int) (pa_cons (pe_op op_add (pv 6) (pe_callTy call_int1 rfl (fr_int T) b_int (pa_cons (pe_cmpR op_eq (pe_ix ix_tup (pv 3) pe_int (fun _ _=>rfl)) pe_str (nomark _)) pa_nil))) (pa_cons (pv 11) pa_nil)))))) pa_nil)))))))))))))))),?_⟩
  refine ⟨fun σ' H'=>σ'=L2.start N_Code___init__ [.ref p,v]∧∃ q1 q2 q3,H q1=none∧H q2=none∧H q3=none∧q2≠q1∧q3≠q1∧q3≠q2∧H' q1=some (.lst [])∧H' q2=some (.lst [])∧H' q3=some (.lst []) ∧
   H' p=some (.ins (He.ga K "Code") dx [("statements",.ref q1),("kinds",.ref q2),("labels",.ref q3)])∧(∀ b o,H b=some o→b≠p→H' b=some o)∧(∀ b,H' b=none→H b=none),?_,?_⟩
  ·refine ⟨sz (by simp),fun q1 f1=>⟨sz (by simp),fun q2 f2=>⟨sz (by simp),fun q3 f3=>⟨sz (by simp),fun t1 g1=>?_⟩⟩⟩⟩
   obtain ⟨n2a,f2⟩:=up_none f2
   obtain ⟨n3b,f3⟩:=up_none f3
   obtain ⟨n3a,f3⟩:=up_none f3
   obtain ⟨n1c,g1⟩:=up_none g1
   obtain ⟨n1b,g1⟩:=up_none g1
   obtain ⟨n1a,g1⟩:=up_none g1
   have p1:=nn_of f1 hp
   have p2:=nn_of f2 hp
   have p3:=nn_of f3 hp
   have p4:=nn_of g1 hp
   refine ⟨t1,_,rfl,Evl.st_of upd_same,rfl,_,_,rfl,_,rfl,p,_,dx,_,rfl,(by rw [upd_ne p4,upd_ne p3,upd_ne p2,upd_ne p1];exact hp),c_Code T,na_Code_statements T,(by simp),?_⟩
   rw [fi_Code_0]
   refine ⟨_,_,rfl,_,rfl,p,_,dx,_,rfl,upd_same,c_Code T,na_Code_kinds T,(by simp),?_⟩
   rw [fi_Code_1,upd_upd]
   refine ⟨_,_,rfl,_,rfl,p,_,dx,_,rfl,upd_same,c_Code T,na_Code_labels T,(by simp),rfl,?_⟩
   rw [fi_Code_2,upd_upd]
   refine ⟨rfl,q1,q2,q3,f1,f2,f3,n2a,n3a,n3b,?_,?_,?_,upd_same,fun b o e hb=>?_,fun b e=>?_⟩
   ·rw [upd_ne p1.symm,upd_ne n1a.symm,upd_ne n3a.symm,upd_ne n2a.symm,upd_same]
   ·rw [upd_ne p2.symm,upd_ne n1b.symm,upd_ne n3b.symm,upd_same]
   ·rw [upd_ne p3.symm,upd_ne n1c.symm,upd_same]
   ·rw [upd_ne hb,upd_ne (nn_of g1 e),upd_ne (nn_of f3 e),upd_ne (nn_of f2 e),upd_ne (nn_of f1 e)]
    exact e
   ·exact (up_none (up_none (up_none (up_none (up_none e).2).2).2).2).2
  rintro σ' H1 ⟨rfl,q1,q2,q3,f1,f2,f3,n21,n31,n32,h1,h2,h3,hp1,kp1,fr1⟩
  refine ⟨fun σ' H'=>σ'=L2.start N_Code___init__ [.ref p,v]∧∃ A:CAd,A.p=p∧A.dx=dx∧A.cs=[]∧CL K H' A [] [] [] [] []∧(∀ b∈A.all,b=p∨H b=none)∧(∀ b o,H b=some o→b≠p→H' b=some o)∧(∀ b,H' b=none→H b=none),?_,?_⟩
  ·refine ⟨sz (by simp),fun q4 f4=>⟨sz (by simp),fun q5 f5=>⟨sz (by simp),fun t2 g2=>?_⟩⟩⟩
   obtain ⟨n54,f5⟩:=up_none f5
   obtain ⟨m5,g2⟩:=up_none g2
   obtain ⟨m4,g2⟩:=up_none g2
   have p4:=nn_of f4 hp1
   have p5:=nn_of f5 hp1
   have pt:=nn_of g2 hp1
   refine ⟨t2,_,rfl,Evl.st_of upd_same,rfl,_,_,rfl,_,rfl,p,_,dx,_,rfl,(by rw [upd_ne pt,upd_ne p5,upd_ne p4];exact hp1),c_Code T,na_Code_parents T,(by simp),?_⟩
   rw [fi_Code_3]
   refine ⟨_,_,rfl,_,rfl,p,_,dx,_,rfl,upd_same,c_Code T,na_Code_children T,(by simp),rfl,?_⟩
   rw [fi_Code_4,upd_upd]
   have a1:=nn_of f4 h1
   have a2:=nn_of f4 h2
   have a3:=nn_of f4 h3
   have b1:=nn_of f5 h1
   have b2:=nn_of f5 h2
   have b3:=nn_of f5 h3
   have c1:=nn_of g2 h1
   have c2:=nn_of g2 h2
   have c3:=nn_of g2 h3
   have pn1:p≠q1:=nn_of f1 hp
   have pn2:p≠q2:=nn_of f2 hp
   have pn3:p≠q3:=nn_of f3 hp
   refine ⟨rfl,⟨p,dx,q1,q2,q3,q4,q5,[]⟩,rfl,rfl,rfl,⟨upd_same,?_,?_,?_,?_,?_,rfl,fun i c x e=>by simp at e,?_⟩,?_,fun b o e hb=>?_,fun b e=>?_⟩
   ·show upd _ p _ q1=_
    rw [upd_ne pn1.symm,upd_ne c1,upd_ne b1,upd_ne a1]
    exact h1
   ·show upd _ p _ q2=_
    rw [upd_ne pn2.symm,upd_ne c2,upd_ne b2,upd_ne a2]
    exact h2
   ·show upd _ p _ q3=_
    rw [upd_ne pn3.symm,upd_ne c3,upd_ne b3,upd_ne a3]
    exact h3
   ·show upd _ p _ q4=_
    rw [upd_ne p4.symm,upd_ne m4.symm,upd_ne n54.symm,upd_same]
   ·show upd _ p _ q5=_
    rw [upd_ne p5.symm,upd_ne m5.symm,upd_same]<;>rfl
   ·show [p,q1,q2,q3,q4,q5].Nodup
    simp only [List.nodup_cons,List.mem_cons,List.not_mem_nil,or_false,not_or,List.nodup_nil,and_true,not_false_eq_true]
    exact ⟨⟨pn1,pn2,pn3,p4,p5⟩,⟨n21.symm,n31.symm,a1,b1⟩,⟨n32.symm,a2,b2⟩,⟨a3,b3⟩,n54.symm⟩
   ·intro b hb
    have hb:b∈[p,q1,q2,q3,q4,q5]:=hb
    simp only [List.mem_cons,List.not_mem_nil,or_false] at hb
    rcases hb with rfl | rfl | rfl | rfl | rfl | rfl
    ·exact .inl rfl
    ·exact .inr f1
    ·exact .inr f2
    ·exact .inr f3
    ·exact .inr (fr1 _ f4)
    ·exact .inr (fr1 _ f5)
   ·have e1:=kp1 b o e hb
    rw [upd_ne hb,upd_ne (nn_of g2 e1),upd_ne (nn_of f5 e1),upd_ne (nn_of f4 e1)]
    exact e1
   ·exact fr1 _ (up_none (up_none (up_none (up_none e).2).2).2).2
  rintro σ' H2 ⟨rfl,A,rfl,rfl,ac,C,nA,kp2,fr2⟩
  refine ⟨_,rfl,sz (by simp),fun t3 g3=>⟨sz (by simp),fun wq gw=>?_⟩⟩
  obtain ⟨nwt,gw⟩:=up_none gw
  have gt:H2 t3=none:=g3
  have ft:F0 t3=none:=Evl.fresh_back xF (fr2 t3 gt)
  have v0:InZ K F0 H A.p wq Gd [⟨d,none,1,0,0⟩] [] A [t3] (upd F0 t3 (.tup [v,.non,.int 1,.int 0,.int 0])) (upd (upd H2 t3 (.tup [v,.non,.int 1,.int 0,.int 0])) wq (.lst [.ref t3])):=by
   have C1:=(C.off (o:=.tup [v,.non,.int 1,.int 0,.int 0]) (C.fresh gt))
   have nwA:wq ∉ A.all:=C.fresh gw
   have C2:=C1.off (o:=.lst [.ref t3]) nwA
   have xx:Ex F0 (upd F0 t3 (.tup [v,.non,.int 1,.int 0,.int 0])):=exu (Evl.Ex.refl F0) ft
   have fA:∀ b∈A.all,F0 b=none:=fun b hb=>by
    rcases nA b hb with rfl | e
    ·exact Fp
    ·exact Evl.fresh_back xF e
   have ntA:t3 ∉ A.all:=C.fresh gt
   refine ⟨rfl,⟨[],C2,.nil⟩,fun b hb=>?_,nwA,?_,upd_same,.cons upd_same (dz_ex xx hd) .nil,xx,fun b o e=>?_,fun b e1 e2=>?_,fun b o e hb=>?_,nA,fr2 wq gw,fun i hi=>?_,fun r hr=>by cases hr⟩
   ·rw [upd_ne (fun z=>ntA (by rw [← z];exact hb))]
    exact fA b hb
   ·rw [upd_ne nwt]
    exact Evl.fresh_back xF (fr2 wq gw)
   ·by_cases z:b=t3
    ·rw [z,upd_same] at e
     cases e
     rw [z,upd_ne nwt.symm,upd_same]
    ·rw [upd_ne z] at e
     have e2:=xF b o e
     have nb:b≠A.p:=fun y=>by rw [y,Fp] at e;cases e
     rw [upd_ne (nn_of (fr2 wq gw) e2),upd_ne z]
     exact kp2 b o e2 nb
   ·rw [upd_ne (fun z=>e1 (by rw [z];exact fr2 t3 gt))]
    exact e2
   ·rw [upd_ne (nn_of (fr2 wq gw) e),upd_ne (nn_of (fr2 t3 gt) e)]
    exact kp2 b o e hb
   ·rw [List.mem_singleton.mp hi]
    exact ⟨hGd,fun j e=>by cases e⟩
  refine ⟨fun m σ' H'=>∃ st rows B ts F' o3 o4 o5 o6 o7 o8 o9 o10 o11,Fails m st rows fin∧σ'=[some (.ref A.p),some v,some (.ref wq),o3,o4,o5,o6,o7,o8,o9,o10,o11]∧InZ K F0 H A.p wq Gd st rows B ts F' H',⟨N,_,_,_,_,_,_,_,_,_,_,_,_,_,_,hB,rfl,v0⟩,?_⟩
  rintro m σ' H3 ⟨st,rows,B,ts,F3,o3,o4,o5,o6,o7,o8,o9,o10,o11,bd,rfl,I3⟩
  refine ⟨_,rfl,sz (by simp),fun p4 g4=>?_⟩
  obtain ⟨r1,r2,r3,r4⟩:=I3.fresh g4
  refine ⟨wq,p4,_,rfl,rfl,Evl.sq_of (by rw [upd_ne r4.symm];exact I3.wl),Evl.sq_of upd_same,_,rfl,ite_of (fun h4=>?_) (fun h4=>?_)⟩
  ·obtain ⟨it,st',rfl,alt⟩:∃ it st',st=it::st'∧((fault it rows.length=some fin)∨(∃ n,m=n + 1∧okIt it rows.length∧(newIts it rows.length++st').length≤50000∧Fails n (newIts it rows.length++st') (addRow rows it.d it.par) fin)):=by
    cases bd with
    | now hf=>exact ⟨_,_,rfl,.inl hf⟩
    | step ok hl bd=>exact ⟨_,_,rfl,.inr ⟨_,rfl,ok,hl,bd⟩⟩
   cases hts:I3.wi with
   | @cons t ts' _ _ v1 ht hv1 hr =>
   have I4:=(I3.new (o:=.lst []) g4).pop
   refine ⟨fun σ' H'=>∃ n,n<m∧∃ st rows B ts F' o3 o4 o5 o6 o7 o8 o9 o10 o11,Fails n st rows fin∧σ'=[some (.ref A.p),some v,some (.ref wq),o3,o4,o5,o6,o7,o8,o9,o10,o11]∧InZ K F0 H A.p wq Gd st rows B ts F' H',fun σ' H' w=>w,?_⟩
   have wl4:upd H3 p4 (.lst []) wq=some (.lst ((ts'.map V.ref).reverse++[.ref t])):=by
    rw [upd_ne r4.symm,I3.wl]<;>simp
   refine ⟨_,rfl,Or.inl ⟨rfl,_,Evl.sq_of wl4⟩,wq,_,.ref t,rfl,rfl,wl4,by simp,?_⟩
   rw [List.dropLast_concat]
   refine ⟨t,wV v1 it,rfl,Evl.st_of (I4.fh _ _ ht),rfl,_,_,rfl,_,_,rfl,_,_,rfl,_,_,rfl,_,_,rfl,rfl,?_⟩
   obtain ⟨L1,C4,dL4⟩:=id I4.code
   have ob4:∀ {H':Hp} {L1 L2 L3 L4:List V} {Cs:List (List V)},CL K H' B L1 L2 L3 L4 Cs→H' A.p=some (.ins (He.ga K "Code") B.dx (cFs B)):=fun C=>by rw [← I3.ap];exact C.ob
   refine ⟨_,rfl,A.p,_,_,_,_,rfl,ob4 C4,c_Code T,na_Code_kinds T,fl_Code_kinds _ _ _ _ _,B.a2,_,rfl,.inl (Evl.sq_of C4.h2),?_⟩
   have hgi:=hG _ (I3.it it List.mem_cons_self).1
   have ln:(rows.map fun r=>V.str (kindD r.d)).length=rows.length:=List.length_map _
   refine ⟨_,rfl,A.p,_,_,rfl,ob4 C4,fm_Code_check _ _ _ _ _,_,rfl,_,rfl,_,rfl,_,rfl,_,rfl,.ref A.p,v1,it.d,_,_,_,_,rfl,dz_ex I4.fh hv1,hgi.1,?_⟩
   rcases alt with hf | ⟨n,rfl,ok,hlen,bd⟩
   ·refine .inr ⟨fin.1,fin.2.1,fin.2.2,?_,fun H5 d5 x5 n5 h5=>q H5 d5 (fun b o hb hn=>x5 _ _ (I4.kp b o hb hn)) (I4.fresh n5).1 h5⟩
    rw [ln]
    exact faultI_of hf
   obtain ⟨k1,k2,k3,k4⟩:=id ok
   refine .inl ⟨(by rw [ln];omega),(by omega),(by omega),k4,fun H5 x5=>?_⟩
   have I5:=I4.ext (Evl.Ex.refl _) (I4.fh.trans x5) x5 fun _ _ e=>e
   obtain ⟨L1',C5,dL5⟩:=id I5.code
   refine ⟨_,rfl,A.p,_,_,rfl,ob4 C5,fm_Code_keep _ _ _ _ _,_,rfl,_,rfl,F3,B,rows,v1,it.d,_,it.par,(by rw [← I3.ap]<;>rfl),I5.fh,I5.code,I5.na,hv1,k4,(by omega),fun i e=>?_,fun c H6 hc6 cd6 kp6=>?_⟩
   ·have li:=(I3.it it List.mem_cons_self).2 i e
    refine ⟨rows[i],List.getElem?_eq_getElem li,?_⟩
    have:=I3.ch rows[i] (List.getElem_mem li)
    omega
   have I6:=I5.kept hc6 cd6 kp6
   refine ⟨_,rfl,F3,v1,it.d,_,rfl,I6.fh,hv1,k4,fun pp H7 xs fp7 x7 hl7 dA7=>?_⟩
   have I7:=I6.ext (Evl.Ex.refl _) (I6.fh.trans x7) x7 fun _ _ e=>e
   refine ⟨pp,xs,rfl,Evl.sq_of hl7,fun H8 pe te k8 fpe fte npe nd8 lte hpe hte=>?_⟩
   have L8:∀ b∈pe::te,H7 b=none:=fun b hb=>by
    rcases List.mem_cons.mp hb with e | hb
    ·rw [e];exact fpe
    ·exact fte b hb
   have I8:InZ K F0 H A.p wq Gd st' (addRow rows it.d it.par) { B with cs:=B.cs++[c] } ts' (frz F3 H8 (pe::te)) H8 :=
    I7.ext (frz_ex fun b hb=>(I7.fresh (L8 b hb)).2.1) (frz_le (I7.fh.trans k8)) k8 fun b h1 h2=>by rw [frz_out (fun z=>h1 (L8 b z))];exact h2
   have lx:xs.length=(partsD it.d).length:=dzA_len dA7
   have x38:Ex F3 (frz F3 H8 (pe::te)):=frz_ex fun b hb=>(I7.fresh (L8 b hb)).2.1
   obtain ⟨kk,rr,_,ek,_,_,_⟩:=isStm_shape k4
   obtain ⟨va,vxs,rfl,vS,vA⟩:=dz_tup (ek ▸ hv1)
   cases vA with
   | @cons vk vxr _ _ vk0 vA =>
   obtain rfl:=dz_str vk0
   have ekd:kindD it.d=kk:=by rw [ek]<;>rfl
   refine ⟨pe,_,rfl,Evl.sq_of hpe,for_it walk_rev (fun i σ' H'=>∃ ts'' F'' o9 o10 o11,σ'=[some (.ref A.p),some v,some (.ref wq),some (.ref va),some (parV it.par),some (.int (it.deep:Int)),some (.int (it.loops:Int)),some (.int (it.blocks:Int)),some (.int ((rows.map fun r=>V.str (kindD r.d)).length:Int)),o9,o10,o11] ∧
    InZ K F0 H A.p wq Gd ((newIts it rows.length).drop (te.length - i)++st') (addRow rows it.d it.par) { B with cs:=B.cs++[c] } ts'' F'' H'∧Ex (frz F3 H8 (pe::te)) F'') ?_ ?_ ?_ ?_⟩
   ·refine ⟨ts',_,o9,o10,o11,rfl,?_,Evl.Ex.refl _⟩
    rw [Nat.sub_zero,List.drop_eq_nil_of_le (by rw [newIts_len,lte,lx];exact Nat.le_refl _)]
    exact I8
   ·rintro i σ' H' _ ⟨ts'',F'',_,_,_,_,I9,x9⟩
    exact Evl.sq_of (I9.fh _ _ (x9 _ _ (by rw [frz_in List.mem_cons_self];exact hpe)))
   ·rintro i x σ' H9x H9 hi ⟨ts'',F'',u9,u10,u11,rfl,I9,x9⟩ ⟨rfl,hx⟩
    rw [List.length_map] at hi hx
    have lj:te.length - 1 - i<te.length:=by omega
    have htj:te[te.length - 1 - i]?=some te[te.length - 1 - i]:=List.getElem?_eq_getElem lj
    rw [List.getElem?_map,htj] at hx
    cases hx
    have lxj:te.length - 1 - i<xs.length:=by rw [← lte];exact lj
    have hxj:xs[te.length - 1 - i]?=some xs[te.length - 1 - i]:=List.getElem?_eq_getElem lxj
    have lpj:te.length - 1 - i<(partsD it.d).length:=by rw [← lx];exact lxj
    have hpj:(partsD it.d)[te.length - 1 - i]?=some (partsD it.d)[te.length - 1 - i]:=List.getElem?_eq_getElem lpj
    obtain ⟨u,hu,hdu⟩:=dzA_get dA7 hpj
    rw [hxj] at hu
    cases hu
    have htu:=hte _ _ _ htj hxj
    have htF:H9 te[te.length - 1 - i]=some (.tup [.int ((te.length - 1 - i:Nat):Int),xs[te.length - 1 - i]]):=I9.fh _ _ (x9 _ _ (by rw [frz_in (List.mem_cons_of_mem _ (List.getElem_mem lj))];exact htu))
    have vS9:SqT K H9 va (V.str kk::vxr):=Evl.ex_t ((x38.trans x9).trans I9.fh) vS
    refine ⟨_,_,rfl,Evl.st_of htF,rfl,_,_,rfl,_,_,rfl,rfl,?_⟩
    refine ⟨fun σ' H'=>H'=H9∧σ'=[some (.ref A.p),some v,some (.ref wq),some (.ref va),some (parV it.par),some (.int (it.deep:Int)),some (.int (it.loops:Int)),some (.int (it.blocks:Int)),some (.int ((rows.map fun r=>V.str (kindD r.d)).length:Int)),some (.int ((te.length - 1 - i:Nat):Int)),some xs[te.length - 1 - i],some (.int ((it.blocks:Int) + (if kindD it.d="final"∧te.length - 1 - i=1 then 1 else 0)))],?_,?_⟩
    ·refine ⟨_,rfl,_,rfl,va,_,_,_,rfl,rfl,vS9,at0,rfl,_,rfl,ite_of (fun h5=>?_) (fun h5=>?_)⟩
     ·have e5:kk="final":=V.str.inj (of_decide_eq_true h5)
      refine ⟨_,rfl,rfl,.inr ⟨_,rfl,_,_,rfl,rfl,rfl,?_⟩⟩
      by_cases z:te.length - 1 - i=1
      ·rw [if_pos (show kindD it.d="final"∧te.length - 1 - i=1 from ⟨by rw [ekd,e5],z⟩),if_pos (decide_eq_true (by rw [z]<;>rfl))]<;>rfl
      ·rw [if_neg (show ¬ (kindD it.d="final"∧te.length - 1 - i=1) from fun y=>z y.2),if_neg (fun y=>z (by have:=V.int.inj (of_decide_eq_true y);omega))]<;>rfl
     ·have e5:¬ kk="final":=fun e=>by
       have y:decide (V.str kk=V.str "final")=true:=decide_eq_true (by rw [e])
       rw [y] at h5
       cases h5
      refine .inr ⟨_,rfl,_,_,rfl,rfl,rfl,?_⟩
      rw [if_neg (show ¬ (kindD it.d="final"∧te.length - 1 - i=1) from fun y=>e5 (by rw [← ekd];exact y.1))]<;>rfl
    rintro σ' H' ⟨rfl,rfl⟩
    refine ⟨_,rfl,Or.inl ⟨rfl,_,Evl.sq_of I9.wl⟩,_,rfl,_,rfl,_,rfl,_,_,rfl,rfl,_,rfl,_,rfl,va,_,_,_,rfl,rfl,vS9,at0,rfl,.inr ⟨_,rfl,_,_,rfl,rfl,_,rfl,sz (by simp),fun tn htn=>?_⟩⟩
    obtain ⟨z1,z2,z3,z4⟩:=I9.fresh htn
    refine ⟨wq,_,_,rfl,rfl,(by rw [upd_ne z4.symm];exact I9.wl),szl ?_,?_⟩
    ·rw [List.length_append] at hlen
     rw [List.length_reverse,List.length_map,I9.wi.len,List.length_append,List.length_drop]
     omega
    have I10:=I9.push (it:=newIt it rows.length (te.length - 1 - i) (partsD it.d)[te.length - 1 - i]) (v:=xs[te.length - 1 - i]) htn (dz_ex (x38.trans x9) hdu) ⟨hgi.2 ⟨_,k4⟩ _ (List.getElem_mem lpj),fun j e=>by cases e;rw [addRow_len];omega⟩
    have e6:(newIts it rows.length).drop (te.length - (i + 1))=newIt it rows.length (te.length - 1 - i) (partsD it.d)[te.length - 1 - i]::(newIts it rows.length).drop (te.length - i):=by
     have e7:te.length - (i + 1)=te.length - 1 - i:=by omega
     have l7:te.length - 1 - i<(newIts it rows.length).length:=by rw [newIts_len];exact lpj
     have g7:(newIts it rows.length)[te.length - 1 - i]=newIt it rows.length (te.length - 1 - i) (partsD it.d)[te.length - 1 - i]:=by
      have y:=newIts_get (n:=rows.length) hpj
      rw [List.getElem?_eq_getElem l7] at y
      exact Option.some.inj y
     rw [e7,List.drop_eq_getElem_cons l7,g7]
     congr 2
     omega
    refine ⟨tn::ts'',upd F'' tn (.tup (wV xs[te.length - 1 - i] (newIt it rows.length (te.length - 1 - i) (partsD it.d)[te.length - 1 - i]))),_,_,_,rfl,?_,x9.trans (exu (Evl.Ex.refl _) z2)⟩
    rw [e6,List.cons_append]
    have eH:upd (upd H' tn (.tup (wV xs[te.length - 1 - i] (newIt it rows.length (te.length - 1 - i) (partsD it.d)[te.length - 1 - i])))) wq (.lst (((tn::ts'').map V.ref).reverse)) =
      upd (upd H' tn (.tup [xs[te.length - 1 - i],.int ((rows.map fun r=>V.str (kindD r.d)).length:Int),.int ((it.deep:Int) + 1),.int ((it.loops:Int) + (if decide (V.str kk=V.str "while")=true then 1 else 0)),.int ((it.blocks:Int) + (if kindD it.d="final"∧te.length - 1 - i=1 then 1 else 0))])) wq (.lst ((ts''.map V.ref).reverse++[.ref tn])):=by
     rw [wV_new,ln,ekd,List.map_cons,List.reverse_cons]
    rw [eH] at I10
    exact I10
   ·rintro σ' H9 ⟨ts'',F'',u9,u10,u11,rfl,I9,x9⟩
    rw [List.length_map,Nat.sub_self,List.drop_zero] at I9
    exact ⟨n,Nat.lt_succ_self _,_,_,_,_,_,_,_,_,_,_,_,_,_,_,bd,rfl,I9⟩
  ·have wi:=I3.wi
   cases bd<;>(cases wi;simp at h4)
end
end
end Fc
set_option maxRecDepth 100000
set_option maxHeartbeats 4000000
namespace FcM
inductive Way where
 | nrm
 | ret
 | rai
 | brk (k:Nat)
 | cnt (k:Nat)
 deriving DecidableEq
inductive Node where
 | do_
 | call
 | ret
 | rai
 | brk (k:Nat)
 | cnt (k:Nat)
 | iff (a b:Nat)
 | whl (a:Nat)
 | seq (l:List Nat)
 | tr (a b:Nat)
 | fin (a b:Nat)
def Node.ch:Node→List Nat
 | .iff a b=>[a,b]
 | .whl a=>[a]
 | .seq l=>l
 | .tr a b=>[a,b]
 | .fin a b=>[a,b]
 | _=>[]
structure Tab where
 len:Nat
 nd:Nat→Node
 pr:Nat→Option Nat
structure Tab.WF (t:Tab) (lp:Nat→Nat):Prop where
 ne:0<t.len
 root:t.pr 0=none
 lp0:lp 0=0
 dn:∀ n,n<t.len→∀ c∈(t.nd n).ch,n<c∧c<t.len∧t.pr c=some n∧lp c=lp n + (match t.nd n with | .whl _=>1 | _=>0)
 nd:∀ n,n<t.len→(t.nd n).ch.Nodup
 pu:∀ n p,n<t.len→t.pr n=some p→p<t.len
 sq:∀ n l,n<t.len→t.nd n=.seq l→l≠[]
 bk:∀ n k,n<t.len→t.nd n=.brk k→1≤k∧k≤lp n
 ct:∀ n k,n<t.len→t.nd n=.cnt k→1≤k∧k≤lp n
inductive Ent (t:Tab):Nat→Nat→Nat→Prop
 | here {n:Nat} (h:∀ l,t.nd n≠.seq l) (h2:∀ a b,t.nd n≠.tr a b) (h3:∀ a b,t.nd n≠.fin a b):Ent t 0 n n
 | seq {k n c e:Nat} {l:List Nat} (h:t.nd n=.seq (c::l)) (r:Ent t k c e):Ent t (k + 1) n e
 | tr {k n a b e:Nat} (h:t.nd n=.tr a b) (r:Ent t k a e):Ent t (k + 1) n e
 | fin {k n a b e:Nat} (h:t.nd n=.fin a b) (r:Ent t k a e):Ent t (k + 1) n e
inductive Hg (t:Tab):Nat→Nat→Prop
 | mk {h n:Nat} (r:∀ c∈(t.nd n).ch,Hg t h c):Hg t (h + 1) n
def decW:Way→Way
 | .brk k=>if k=1 then .nrm else .brk (k - 1)
 | .cnt k=>.cnt (k - 1)
 | w=>w
def again (w:Way):Bool:=decide (w=.nrm) || decide (w=.cnt 1)
abbrev Pd:=List (Nat×Way)
inductive Lv (t:Tab):Nat→Way→Pd→Nat ⊕ Way→Pd→Prop
 | top {n:Nat} {w:Way} {P:Pd} (h:t.pr n=none):Lv t n w P (.inr w) P
 | seqN {n p m k e:Nat} {l l1 l2:List Nat} {P:Pd} (h:t.pr n=some p) (hd:t.nd p=.seq l) (hl:l=l1++n::m::l2) (he:Ent t k m e):Lv t n .nrm P (.inl e) P
 | seqU {n p:Nat} {w:Way} {l:List Nat} {P P':Pd} {r:Nat ⊕ Way} (h:t.pr n=some p) (hd:t.nd p=.seq l) (hw:w≠.nrm∨l.getLast?=some n) (up:Lv t p w P r P'):Lv t n w P r P'
 | whlA {n p:Nat} {w:Way} {P:Pd} (h:t.pr n=some p) (hd:t.nd p=.whl n) (hw:again w=true):Lv t n w P (.inl p) P
 | whlU {n p:Nat} {w:Way} {P P':Pd} {r:Nat ⊕ Way} (h:t.pr n=some p) (hd:t.nd p=.whl n) (hw:again w=false) (up:Lv t p (decW w) P r P'):Lv t n w P r P'
 | tryH {n p b k e:Nat} {P:Pd} (h:t.pr n=some p) (hd:t.nd p=.tr n b) (he:Ent t k b e):Lv t n .rai P (.inl e) P
 | tryU {n p a b:Nat} {w:Way} {P P':Pd} {r:Nat ⊕ Way} (h:t.pr n=some p) (hd:t.nd p=.tr a b) (hw:w≠.rai∨n≠a) (up:Lv t p w P r P'):Lv t n w P r P'
 | iffU {n p a b:Nat} {w:Way} {P P':Pd} {r:Nat ⊕ Way} (h:t.pr n=some p) (hd:t.nd p=.iff a b) (up:Lv t p w P r P'):Lv t n w P r P'
 | finB {n p b k e:Nat} {w:Way} {P:Pd} (h:t.pr n=some p) (hd:t.nd p=.fin n b) (he:Ent t k b e):Lv t n w P (.inl e) (P++[(p,w)])
 | finE {n p a:Nat} {P:Pd} (h:t.pr n=some p) (hd:t.nd p=.fin a n) (hn:n≠a):Lv t n .nrm P (.inl p) P
 | finO {n p a:Nat} {w:Way} {P P':Pd} {x:Nat×Way} {r:Nat ⊕ Way} (h:t.pr n=some p) (hd:t.nd p=.fin a n) (hn:n≠a) (hw:w≠.nrm) (up:Lv t p w P r P'):Lv t n w (P++[x]) r P'
structure Cfg where
 at_:Nat ⊕ Way
 pd:Pd
 us:Nat
 vs:List Nat
def asks:Node→Bool
 | .call=>true
 | .iff _ _=>true
 | .whl _=>true
 | _=>false
def wayN:Node→Way
 | .ret=>.ret
 | .rai=>.rai
 | .brk k=>.brk k
 | .cnt k=>.cnt k
 | _=>.nrm
def quiet:Node→Prop
 | .do_=>True
 | .ret=>True
 | .rai=>True
 | .brk _=>True
 | .cnt _=>True
 | _=>False
inductive Dp1 (t:Tab) (s:Nat) (x:Bool):Pd→Nat ⊕ Way→Pd→Prop
 | iff {a b k e:Nat} {P:Pd} (h:t.nd s=.iff a b) (he:Ent t k (if x then b else a) e):Dp1 t s x P (.inl e) P
 | whlT {a k e:Nat} {P:Pd} (h:t.nd s=.whl a) (hx:x=true) (he:Ent t k a e):Dp1 t s x P (.inl e) P
 | whlF {a:Nat} {P P':Pd} {r:Nat ⊕ Way} (h:t.nd s=.whl a) (hx:x=false) (l:Lv t s .nrm P r P'):Dp1 t s x P r P'
 | call {P P':Pd} {r:Nat ⊕ Way} (h:t.nd s=.call) (l:Lv t s (if x then .rai else .nrm) P r P'):Dp1 t s x P r P'
 | fin {a b q:Nat} {w:Way} {P P':Pd} {r:Nat ⊕ Way} (h:t.nd s=.fin a b) (l:Lv t s w P r P'):Dp1 t s x (P++[(q,w)]) r P'
 | quiet {P P':Pd} {r:Nat ⊕ Way} (h:quiet (t.nd s)) (l:Lv t s (wayN (t.nd s)) P r P'):Dp1 t s x P r P'
inductive Step (t:Tab) (bits:List Bool):Cfg→Cfg→Prop
 | ask {s:Nat} {x:Bool} {P P':Pd} {u:Nat} {v:List Nat} {r:Nat ⊕ Way} (h:asks (t.nd s)=true) (hu:bits[u]?=some x) (d:Dp1 t s x P r P'):Step t bits ⟨.inl s,P,u,v⟩ ⟨r,P',u + 1,v++[s]⟩
 | on {s:Nat} {P P':Pd} {u:Nat} {v:List Nat} {r:Nat ⊕ Way} (h:asks (t.nd s)=false) (d:Dp1 t s false P r P'):Step t bits ⟨.inl s,P,u,v⟩ ⟨r,P',u,v++[s]⟩
inductive Stop (t:Tab) (bits:List Bool):Cfg→Prop
 | fin {w:Way} {P:Pd} {u:Nat} {v:List Nat}:Stop t bits ⟨.inr w,P,u,v⟩
 | wait {s:Nat} {P:Pd} {u:Nat} {v:List Nat} (h:asks (t.nd s)=true) (hu:bits[u]?=none):Stop t bits ⟨.inl s,P,u,v⟩
inductive Re (t:Tab) (bits:List Bool) (B:Nat):Nat→Cfg→Cfg→Prop
 | stop {c:Cfg} (h:Stop t bits c) (hb:c.pd.length≤B):Re t bits B 0 c c
 | step {n:Nat} {c d e:Cfg} (h:Step t bits c d) (hb:c.pd.length≤B) (r:Re t bits B n d e):Re t bits B (n + 1) c e
abbrev Wt:=(Nat×Pd) ⊕ Way
abbrev Rs:=Wt×Nat×List Nat
def loopF (bits:List Bool) (n:Nat) (P:Pd) (body:Nat→List Nat→Rs):Nat→Nat→List Nat→Rs
 | 0,u,v=>(.inl (n,P),u,v)
 | f + 1,u,v=>match bits[u]? with
  | none=>(.inl (n,P),u,v)
  | some false=>(.inr .nrm,u + 1,v++[n])
  | some true=>match body (u + 1) (v++[n]) with
   | (.inl x,u',v')=>(.inl x,u',v')
   | (.inr w,u',v')=>if again w=true then loopF bits n P body f u' v' else (.inr (decW w),u',v')
def seqF (go:Nat→Nat→List Nat→Rs):List Nat→Rs→Rs
 | [],r=>r
 | c::cs,(w,u,v)=>if w=.inr .nrm then seqF go cs (go c u v) else seqF go cs (w,u,v)
def finF (n:Nat) (w:Way):Rs→Rs
 | (.inl x,u,v)=>(.inl x,u,v)
 | (.inr w2,u,v)=>if w2=.nrm then (.inr w,u,v++[n]) else (.inr w2,u,v)
def goF (t:Tab) (bits:List Bool):Nat→Nat→Pd→Nat→List Nat→Rs
 | 0,n,P,u,v=>(.inl (n,P),u,v)
 | h + 1,n,P,u,v=>match t.nd n with
  | .whl a=>loopF bits n P (goF t bits h a P) (bits.length + 1) u v
  | .fin a b=>match goF t bits h a P u v with
   | (.inl x,u1,v1)=>(.inl x,u1,v1)
   | (.inr w,u1,v1)=>finF n w (goF t bits h b (P++[(n,w)]) u1 v1)
  | .call=>match bits[u]? with
   | none=>(.inl (n,P),u,v)
   | some x=>(.inr (if x then .rai else .nrm),u + 1,v++[n])
  | .iff a b=>match bits[u]? with
   | none=>(.inl (n,P),u,v)
   | some x=>goF t bits h (if x then b else a) P (u + 1) (v++[n])
  | .seq l=>seqF (fun c=>goF t bits h c P) l (.inr .nrm,u,v)
  | .tr a b=>match goF t bits h a P u v with
   | (.inr .rai,u1,v1)=>goF t bits h b P u1 v1
   | r=>r
  | d=>(.inr (wayN d),u,v++[n])
def WOk (l:Nat):Way→Prop
 | .brk k=>1≤k∧k≤l
 | .cnt k=>1≤k∧k≤l
 | _=>True
section
variable {t:Tab} {lp:Nat→Nat} {bits:List Bool}
def After (t:Tab) (bits:List Bool) (B n:Nat) (w:Way) (P:Pd) (u:Nat) (v:List Nat) (cf:Cfg):Prop:=∃ r P' N,Lv t n w P r P'∧Re t bits B N ⟨r,P',u,v⟩ cf
def From (t:Tab) (bits:List Bool) (B n:Nat) (P:Pd) (u:Nat) (v:List Nat) (cf:Cfg):Prop:=∃ k e N,Ent t k n e∧Re t bits B N ⟨.inl e,P,u,v⟩ cf
def Good (t:Tab) (bits:List Bool) (B:Nat) (lp:Nat→Nat) (n:Nat) (P:Pd) (u:Nat) (v:List Nat):Rs→Prop
 | (.inr w,u',v')=>u≤u'∧u'≤bits.length∧WOk (lp n) w∧∀ cf,After t bits B n w P u' v' cf→From t bits B n P u v cf
 | (.inl x,u',v')=>u≤u'∧u'≤bits.length∧∃ cf,From t bits B n P u v cf∧cf.vs=v'∧cf.us=u'∧cf.at_=.inl x.1∧cf.pd=x.2
end
end FcM
set_option maxRecDepth 100000
set_option maxHeartbeats 4000000
namespace FcM
section
variable {t:Tab} {lp:Nat→Nat} {bits:List Bool} {B:Nat}
theorem bit_lt {u:Nat} {x:Bool} (h:bits[u]?=some x):u + 1≤bits.length:=(List.getElem?_eq_some_iff.mp h).1
theorem from_wait {n:Nat} {P:Pd} {u:Nat} {v:List Nat} (he:Ent t 0 n n) (ha:asks (t.nd n)=true) (hu:bits[u]?=none) (hB:P.length≤B):From t bits B n P u v ⟨.inl n,P,u,v⟩:=⟨0,n,0,he,.stop (.wait ha hu) hB⟩
theorem Ent.self {k n e:Nat} (h:Ent t k n e) (h1:∀ l,t.nd n≠.seq l) (h2:∀ a b,t.nd n≠.tr a b) (h3:∀ a b,t.nd n≠.fin a b):e=n:=by
 cases h with
 | here=>rfl
 | seq h _=>exact absurd h (h1 _)
 | tr h _=>exact absurd h (h2 _ _)
 | fin h _=>exact absurd h (h3 _ _)
theorem seqF_stop {go:Nat→Nat→List Nat→Rs} {w:Wt} {u:Nat} {v:List Nat} (hw:w≠.inr .nrm):∀ cs:List Nat,seqF go cs (w,u,v)=(w,u,v)
 | []=>rfl
 | c::cs=>by
  show (if w=.inr .nrm then _ else seqF go cs (w,u,v))=_
  rw [if_neg hw,seqF_stop hw cs]
theorem dec_ok {l:Nat} {w:Way} (h:WOk (l + 1) w) (ha:again w=false):WOk l (decW w):=by
 cases w with
 | nrm=>trivial
 | ret=>trivial
 | rai=>trivial
 | brk k =>
  show WOk l (if k=1 then .nrm else .brk (k - 1))
  by_cases hk:k=1
  ·rw [if_pos hk];trivial
  ·rw [if_neg hk]
   have h1:1≤k∧k≤l + 1:=h
   show 1≤k - 1∧k - 1≤l
   omega
 | cnt k =>
  have h1:1≤k∧k≤l + 1:=h
  have hk:k≠1:=fun z=>by subst z;simp [again] at ha
  show 1≤k - 1∧k - 1≤l
  omega
theorem loop_good (W:t.WF lp) {n a:Nat} (hn:n<t.len) (hd:t.nd n=.whl a) {body:Nat→List Nat→Rs} {P:Pd} (hB:P.length≤B) (hb:∀ u v,u≤bits.length→Good t bits B lp a P u v (body u v)) :
  ∀ f u v,bits.length - u<f→u≤bits.length→Good t bits B lp n P u v (loopF bits n P body f u v):=by
 have he:Ent t 0 n n:=.here (fun l=>by rw [hd];exact fun z=>nomatch z) (fun a b=>by rw [hd];exact fun z=>nomatch z) (fun a b=>by rw [hd];exact fun z=>nomatch z)
 have ha:asks (t.nd n)=true:=by rw [hd];rfl
 obtain ⟨c1,c2,c3,c4⟩:=W.dn n hn a (by rw [hd];exact List.mem_singleton.mpr rfl)
 rw [hd] at c4
 have c4:lp a=lp n + 1:=c4
 intro f
 induction f with
 | zero=>exact fun u v h=>absurd h (Nat.not_lt_zero _)
 | succ f ih =>
  intro u v hf hu
  cases hx:bits[u]? with
  | none =>
   have e:loopF bits n P body (f + 1) u v=(.inl (n,P),u,v):=by simp only [loopF,hx]
   rw [e]
   exact ⟨Nat.le_refl _,hu,_,from_wait he ha hx hB,rfl,rfl,rfl,rfl⟩
  | some x =>
   have hl:=bit_lt hx
   cases x with
   | false =>
    have e:loopF bits n P body (f + 1) u v=(.inr .nrm,u + 1,v++[n]):=by simp only [loopF,hx]
    rw [e]
    refine ⟨by omega,hl,trivial,fun cf h=>?_⟩
    obtain ⟨r,P',N,l,re⟩:=h
    exact ⟨0,n,N + 1,he,.step (.ask ha hx (.whlF hd rfl l)) hB re⟩
   | true =>
    have g:=hb (u + 1) (v++[n]) hl
    have up:∀ cf,From t bits B a P (u + 1) (v++[n]) cf→From t bits B n P u v cf:=fun cf h=>by
     obtain ⟨k,e,N,en,re⟩:=h
     exact ⟨0,n,N + 1,he,.step (.ask ha hx (.whlT hd rfl en)) hB re⟩
    rcases hr:body (u + 1) (v++[n]) with ⟨w,u',v'⟩
    rw [hr] at g
    cases w with
    | inl x =>
     have e:loopF bits n P body (f + 1) u v=(.inl x,u',v'):=by simp only [loopF,hx,hr]
     rw [e]
     obtain ⟨g1,g2,cf,g3,g4⟩:=g
     exact ⟨by omega,g2,cf,up cf g3,g4⟩
    | inr w =>
     obtain ⟨g1,g2,g3,g4⟩:=g
     by_cases hw:again w=true
     ·have e:loopF bits n P body (f + 1) u v=loopF bits n P body f u' v':=by simp only [loopF,hx,hr,hw,if_true]
      rw [e]
      have g:=ih u' v' (by omega) g2
      have go:∀ cf,From t bits B n P u' v' cf→From t bits B n P u v cf:=fun cf h=>by
       obtain ⟨k,e',N,en,re⟩:=h
       have z:=en.self (fun l=>by rw [hd];exact fun z=>nomatch z) (fun a b=>by rw [hd];exact fun z=>nomatch z) (fun a b=>by rw [hd];exact fun z=>nomatch z)
       subst z
       exact up cf (g4 cf ⟨_,_,_,.whlA c3 hd hw,re⟩)
      rcases hr2:loopF bits n P body f u' v' with ⟨w2,u2,v2⟩
      rw [hr2] at g
      cases w2 with
      | inl x =>
       obtain ⟨k1,k2,cf,k3,k4⟩:=g
       exact ⟨by omega,k2,cf,go cf k3,k4⟩
      | inr w2 =>
       obtain ⟨k1,k2,k3,k4⟩:=g
       exact ⟨by omega,k2,k3,fun cf h=>go cf (k4 cf h)⟩
     ·have hw:again w=false:=by simpa using hw
      have e:loopF bits n P body (f + 1) u v=(.inr (decW w),u',v'):=by simp [loopF,hx,hr,hw]
      rw [e]
      refine ⟨by omega,g2,dec_ok (by rw [c4] at g3;exact g3) hw,fun cf h=>?_⟩
      obtain ⟨r,P',N,l,re⟩:=h
      exact up cf (g4 cf ⟨r,P',N,.whlU c3 hd hw l,re⟩)
theorem seq_good (W:t.WF lp) {n:Nat} {l:List Nat} (hn:n<t.len) (hd:t.nd n=.seq l) {go:Nat→Nat→List Nat→Rs} {P:Pd} (hb:∀ c∈l,∀ u v,u≤bits.length→Good t bits B lp c P u v (go c u v)) :
  ∀ (cs l1:List Nat) (c u:Nat) (v:List Nat),l=l1++c::cs→u≤bits.length→(match seqF go (c::cs) (.inr .nrm,u,v) with
   | (.inr w,u',v')=>u≤u'∧u'≤bits.length∧WOk (lp n) w∧∀ cf,After t bits B n w P u' v' cf→From t bits B c P u v cf
   | (.inl x,u',v')=>u≤u'∧u'≤bits.length∧∃ cf,From t bits B c P u v cf∧cf.vs=v'∧cf.us=u'∧cf.at_=.inl x.1∧cf.pd=x.2):=by
 intro cs
 induction cs with
 | nil =>
  intro l1 c u v hl hu
  have hc:c∈l:=by rw [hl];simp
  obtain ⟨c1,c2,c3,c4⟩:=W.dn n hn c (by rw [hd];exact hc)
  rw [hd] at c4
  have c4:lp c=lp n:=c4
  have g:=hb c hc u v hu
  have e:seqF go [c] (.inr .nrm,u,v)=go c u v:=by simp [seqF]
  rw [e]
  rcases hr:go c u v with ⟨w,u',v'⟩
  rw [hr] at g
  cases w with
  | inl x=>exact g
  | inr w =>
   obtain ⟨g1,g2,g3,g4⟩:=g
   refine ⟨g1,g2,by rw [← c4];exact g3,fun cf h=>?_⟩
   obtain ⟨r,P',N,lv,re⟩:=h
   exact g4 cf ⟨r,P',N,.seqU c3 hd (.inr (by rw [hl];simp)) lv,re⟩
 | cons m cs ih =>
  intro l1 c u v hl hu
  have hc:c∈l:=by rw [hl];simp
  obtain ⟨c1,c2,c3,c4⟩:=W.dn n hn c (by rw [hd];exact hc)
  rw [hd] at c4
  have c4:lp c=lp n:=c4
  have g:=hb c hc u v hu
  have e:seqF go (c::m::cs) (.inr .nrm,u,v)=seqF go (m::cs) (go c u v):=by simp [seqF]
  rw [e]
  rcases hr:go c u v with ⟨w,u',v'⟩
  rw [hr] at g
  cases w with
  | inl x =>
   rw [seqF_stop (w:=.inl x) (fun z=>nomatch z)]
   exact g
  | inr w =>
   obtain ⟨g1,g2,g3,g4⟩:=g
   by_cases hw:w=.nrm
   ·subst hw
    have i:=ih (l1++[c]) m u' v' (by rw [hl];simp) g2
    rcases hr2:seqF go (m::cs) (.inr .nrm,u',v') with ⟨w2,u2,v2⟩
    rw [hr2] at i
    have go':∀ cf,From t bits B m P u' v' cf→From t bits B c P u v cf:=fun cf h=>by
     obtain ⟨k,e',N,en,re⟩:=h
     exact g4 cf ⟨_,_,_,.seqN c3 hd hl en,re⟩
    cases w2 with
    | inl x =>
     obtain ⟨k1,k2,cf,k3,k4⟩:=i
     exact ⟨by omega,k2,cf,go' cf k3,k4⟩
    | inr w2 =>
     obtain ⟨k1,k2,k3,k4⟩:=i
     exact ⟨by omega,k2,k3,fun cf h=>go' cf (k4 cf h)⟩
   ·rw [seqF_stop (fun z=>hw (Sum.inr.inj z))]
    refine ⟨g1,g2,by rw [← c4];exact g3,fun cf h=>?_⟩
    obtain ⟨r,P',N,lv,re⟩:=h
    exact g4 cf ⟨r,P',N,.seqU c3 hd (.inl hw) lv,re⟩
theorem quiet_good (W:t.WF lp) {n:Nat} (hn:n<t.len) (hq:quiet (t.nd n)) {P:Pd} {u:Nat} {v:List Nat} (hB:P.length≤B) (hu:u≤bits.length):Good t bits B lp n P u v (.inr (wayN (t.nd n)),u,v++[n]):=by
 have he:Ent t 0 n n:=.here (fun l e=>by rw [e] at hq;exact hq) (fun a b e=>by rw [e] at hq;exact hq) (fun a b e=>by rw [e] at hq;exact hq)
 have ha:asks (t.nd n)=false:=by
  cases e:t.nd n<;>rw [e] at hq<;>first | rfl | exact hq.elim
 refine ⟨Nat.le_refl _,hu,?_,fun cf h=>?_⟩
 ·cases e:t.nd n with
  | brk k=>exact W.bk n k hn e
  | cnt k=>exact W.ct n k hn e
  | do_=>trivial
  | ret=>trivial
  | rai=>trivial
  | call=>trivial
  | iff a b=>trivial
  | whl a=>trivial
  | seq l=>trivial
  | tr a b=>trivial
  | fin a b=>trivial
 ·obtain ⟨r,P',N,lv,re⟩:=h
  exact ⟨0,n,N + 1,he,.step (.on ha (.quiet hq lv)) hB re⟩
theorem main (W:t.WF lp):∀ h n,Hg t h n→n<t.len→∀ (P:Pd) (u:Nat) (v:List Nat),P.length + h≤B→u≤bits.length→Good t bits B lp n P u v (goF t bits h n P u v):=by
 intro h
 induction h with
 | zero=>exact fun n hg=>nomatch hg
 | succ h ih =>
  intro n hg hn P u v hPB hu
  have hB:P.length≤B:=by omega
  have hP:P.length + h≤B:=by omega
  cases hg with
  | mk hg =>
  have q:∀ d,t.nd n=d→quiet d→goF t bits (h + 1) n P u v=(.inr (wayN d),u,v++[n])→Good t bits B lp n P u v (goF t bits (h + 1) n P u v):=fun d e hq e2=>by
   rw [e2,← e]
   exact quiet_good W hn (by rw [e];exact hq) hB hu
  cases hd:t.nd n with
  | do_=>exact q _ hd trivial (by simp only [goF,hd])
  | ret=>exact q _ hd trivial (by simp only [goF,hd])
  | rai=>exact q _ hd trivial (by simp only [goF,hd])
  | brk k=>exact q _ hd trivial (by simp only [goF,hd])
  | cnt k=>exact q _ hd trivial (by simp only [goF,hd])
  | whl a =>
   have e:goF t bits (h + 1) n P u v=loopF bits n P (goF t bits h a P) (bits.length + 1) u v:=by simp only [goF,hd]
   rw [e]
   have ma:a∈(t.nd n).ch:=by rw [hd];exact List.mem_singleton.mpr rfl
   obtain ⟨c1,c2,c3,c4⟩:=W.dn n hn a ma
   exact loop_good W hn hd hB (fun u v hu=>ih a (hg a ma) c2 P u v hP hu) _ u v (by omega) hu
  | call =>
   have he:Ent t 0 n n:=.here (fun l=>by rw [hd];exact fun z=>nomatch z) (fun a b=>by rw [hd];exact fun z=>nomatch z) (fun a b=>by rw [hd];exact fun z=>nomatch z)
   have ha:asks (t.nd n)=true:=by rw [hd];rfl
   cases hx:bits[u]? with
   | none =>
    have e:goF t bits (h + 1) n P u v=(.inl (n,P),u,v):=by simp only [goF,hd,hx]
    rw [e]
    exact ⟨Nat.le_refl _,hu,_,from_wait he ha hx hB,rfl,rfl,rfl,rfl⟩
   | some x =>
    have e:goF t bits (h + 1) n P u v=(.inr (if x then .rai else .nrm),u + 1,v++[n]):=by simp only [goF,hd,hx]
    rw [e]
    refine ⟨by omega,bit_lt hx,by cases x<;>trivial,fun cf h=>?_⟩
    obtain ⟨r,P',N,lv,re⟩:=h
    exact ⟨0,n,N + 1,he,.step (.ask ha hx (.call hd lv)) hB re⟩
  | iff a b =>
   have he:Ent t 0 n n:=.here (fun l=>by rw [hd];exact fun z=>nomatch z) (fun a b=>by rw [hd];exact fun z=>nomatch z) (fun a b=>by rw [hd];exact fun z=>nomatch z)
   have ha:asks (t.nd n)=true:=by rw [hd];rfl
   cases hx:bits[u]? with
   | none =>
    have e:goF t bits (h + 1) n P u v=(.inl (n,P),u,v):=by simp only [goF,hd,hx]
    rw [e]
    exact ⟨Nat.le_refl _,hu,_,from_wait he ha hx hB,rfl,rfl,rfl,rfl⟩
   | some x =>
    have e:goF t bits (h + 1) n P u v=goF t bits h (if x then b else a) P (u + 1) (v++[n]):=by simp only [goF,hd,hx]
    rw [e]
    have mc:(if x then b else a)∈(t.nd n).ch:=by rw [hd];cases x<;>simp [Node.ch]
    obtain ⟨c1,c2,c3,c4⟩:=W.dn n hn _ mc
    rw [hd] at c4
    have c4:lp (if x then b else a)=lp n:=c4
    have g:=ih _ (hg _ mc) c2 P (u + 1) (v++[n]) hP (bit_lt hx)
    have up:∀ cf,From t bits B (if x then b else a) P (u + 1) (v++[n]) cf→From t bits B n P u v cf:=fun cf h=>by
     obtain ⟨k,e',N,en,re⟩:=h
     exact ⟨0,n,N + 1,he,.step (.ask ha hx (.iff hd en)) hB re⟩
    rcases hr:goF t bits h (if x then b else a) P (u + 1) (v++[n]) with ⟨w,u',v'⟩
    rw [hr] at g
    cases w with
    | inl x =>
     obtain ⟨g1,g2,cf,g3,g4⟩:=g
     exact ⟨by omega,g2,cf,up cf g3,g4⟩
    | inr w =>
     obtain ⟨g1,g2,g3,g4⟩:=g
     refine ⟨by omega,g2,by rw [← c4];exact g3,fun cf h=>?_⟩
     obtain ⟨r,P',N,lv,re⟩:=h
     exact up cf (g4 cf ⟨r,P',N,.iffU c3 hd lv,re⟩)
  | seq l =>
   have e:goF t bits (h + 1) n P u v=seqF (fun c=>goF t bits h c P) l (.inr .nrm,u,v):=by simp only [goF,hd]
   rw [e]
   have hne:=W.sq n l hn hd
   obtain ⟨c,cs,rfl⟩:∃ c cs,l=c::cs:=by
    cases l with
    | nil=>exact absurd rfl hne
    | cons c cs=>exact ⟨c,cs,rfl⟩
   have mem:∀ c'∈c::cs,c'∈(t.nd n).ch:=fun c' hc=>by rw [hd];exact hc
   have g:=seq_good W hn hd (go:=fun c=>goF t bits h c P) (P:=P) (fun c' hc u v hu=>ih c' (hg c' (mem c' hc)) (W.dn n hn c' (mem c' hc)).2.1 P u v hP hu) cs [] c u v rfl hu
   have up:∀ cf,From t bits B c P u v cf→From t bits B n P u v cf:=fun cf h=>by
    obtain ⟨k,e',N,en,re⟩:=h
    exact ⟨k + 1,e',N,.seq hd en,re⟩
   rcases hr:seqF (fun c=>goF t bits h c P) (c::cs) (.inr .nrm,u,v) with ⟨w,u',v'⟩
   rw [hr] at g
   cases w with
   | inl x =>
    obtain ⟨g1,g2,cf,g3,g4⟩:=g
    exact ⟨g1,g2,cf,up cf g3,g4⟩
   | inr w =>
    obtain ⟨g1,g2,g3,g4⟩:=g
    exact ⟨g1,g2,g3,fun cf h=>up cf (g4 cf h)⟩
  | tr a b =>
   have ma:a∈(t.nd n).ch:=by rw [hd];simp [Node.ch]
   have mb:b∈(t.nd n).ch:=by rw [hd];simp [Node.ch]
   obtain ⟨c1,c2,c3,c4⟩:=W.dn n hn a ma
   obtain ⟨b1,b2,b3,b4⟩:=W.dn n hn b mb
   rw [hd] at c4 b4
   have c4:lp a=lp n:=c4
   have b4:lp b=lp n:=b4
   have nab:b≠a:=by
    have z:=W.nd n hn
    rw [hd] at z
    simp [Node.ch] at z
    exact fun y=>z y.symm
   have g:=ih a (hg a ma) c2 P u v hP hu
   have up:∀ cf,From t bits B a P u v cf→From t bits B n P u v cf:=fun cf h=>by
    obtain ⟨k,e',N,en,re⟩:=h
    exact ⟨k + 1,e',N,.tr hd en,re⟩
   rcases hr:goF t bits h a P u v with ⟨w,u',v'⟩
   rw [hr] at g
   cases w with
   | inl x =>
    have e:goF t bits (h + 1) n P u v=(.inl x,u',v'):=by simp only [goF,hd,hr]
    rw [e]
    obtain ⟨g1,g2,cf,g3,g4⟩:=g
    exact ⟨g1,g2,cf,up cf g3,g4⟩
   | inr w =>
    obtain ⟨g1,g2,g3,g4⟩:=g
    by_cases hw:w=.rai
    ·subst hw
     have e:goF t bits (h + 1) n P u v=goF t bits h b P u' v':=by simp only [goF,hd,hr]
     rw [e]
     have i:=ih b (hg b mb) b2 P u' v' hP g2
     have go':∀ cf,From t bits B b P u' v' cf→From t bits B n P u v cf:=fun cf h=>by
      obtain ⟨k,e',N,en,re⟩:=h
      exact up cf (g4 cf ⟨_,_,_,.tryH c3 hd en,re⟩)
     rcases hr2:goF t bits h b P u' v' with ⟨w2,u2,v2⟩
     rw [hr2] at i
     cases w2 with
     | inl x =>
      obtain ⟨k1,k2,cf,k3,k4⟩:=i
      exact ⟨by omega,k2,cf,go' cf k3,k4⟩
     | inr w2 =>
      obtain ⟨k1,k2,k3,k4⟩:=i
      refine ⟨by omega,k2,by rw [← b4];exact k3,fun cf h=>?_⟩
      obtain ⟨r,P',N,lv,re⟩:=h
      exact go' cf (k4 cf ⟨r,P',N,.tryU b3 hd (.inr nab) lv,re⟩)
    ·have e:goF t bits (h + 1) n P u v=(.inr w,u',v'):=by
      simp only [goF,hd,hr]
      cases w<;>first | rfl | exact absurd rfl hw
     rw [e]
     refine ⟨g1,g2,by rw [← c4];exact g3,fun cf h=>?_⟩
     obtain ⟨r,P',N,lv,re⟩:=h
     exact up cf (g4 cf ⟨r,P',N,.tryU c3 hd (.inl hw) lv,re⟩)
  | fin a b =>
   have ma:a∈(t.nd n).ch:=by rw [hd];simp [Node.ch]
   have mb:b∈(t.nd n).ch:=by rw [hd];simp [Node.ch]
   obtain ⟨c1,c2,c3,c4⟩:=W.dn n hn a ma
   obtain ⟨b1,b2,b3,b4⟩:=W.dn n hn b mb
   rw [hd] at c4 b4
   have c4:lp a=lp n:=c4
   have b4:lp b=lp n:=b4
   have nab:b≠a:=by
    have z:=W.nd n hn
    rw [hd] at z
    simp [Node.ch] at z
    exact fun y=>z y.symm
   have g:=ih a (hg a ma) c2 P u v hP hu
   have up:∀ cf,From t bits B a P u v cf→From t bits B n P u v cf:=fun cf h=>by
    obtain ⟨k,e',N,en,re⟩:=h
    exact ⟨k + 1,e',N,.fin hd en,re⟩
   rcases hr:goF t bits h a P u v with ⟨w,u',v'⟩
   rw [hr] at g
   cases w with
   | inl x =>
    have e:goF t bits (h + 1) n P u v=(.inl x,u',v'):=by simp only [goF,hd,hr]
    rw [e]
    obtain ⟨g1,g2,cf,g3,g4⟩:=g
    exact ⟨g1,g2,cf,up cf g3,g4⟩
   | inr w =>
    obtain ⟨g1,g2,g3,g4⟩:=g
    have e:goF t bits (h + 1) n P u v=finF n w (goF t bits h b (P++[(n,w)]) u' v'):=by simp only [goF,hd,hr]
    rw [e]
    have i:=ih b (hg b mb) b2 (P++[(n,w)]) u' v' (by simp;omega) g2
    have go':∀ cf,From t bits B b (P++[(n,w)]) u' v' cf→From t bits B n P u v cf:=fun cf h=>by
     obtain ⟨k,e',N,en,re⟩:=h
     exact up cf (g4 cf ⟨_,_,_,.finB c3 hd en,re⟩)
    rcases hr2:goF t bits h b (P++[(n,w)]) u' v' with ⟨w2,u2,v2⟩
    rw [hr2] at i
    cases w2 with
    | inl x =>
     obtain ⟨k1,k2,cf,k3,k4⟩:=i
     exact ⟨by omega,k2,cf,go' cf k3,k4⟩
    | inr w2 =>
     obtain ⟨k1,k2,k3,k4⟩:=i
     by_cases hw:w2=.nrm
     ·subst hw
      have e2:finF n w (.inr .nrm,u2,v2)=(.inr w,u2,v2++[n]):=by simp [finF]
      rw [e2]
      refine ⟨by omega,k2,by rw [← c4];exact g3,fun cf h=>?_⟩
      obtain ⟨r,P',N,lv,re⟩:=h
      exact go' cf (k4 cf ⟨_,_,_,.finE b3 hd nab,.step (.on (by rw [hd];rfl) (.fin hd lv)) (by simp;omega) re⟩)
     ·have e2:finF n w (.inr w2,u2,v2)=(.inr w2,u2,v2):=by simp [finF,hw]
      rw [e2]
      refine ⟨by omega,k2,by rw [← b4];exact k3,fun cf h=>?_⟩
      obtain ⟨r,P',N,lv,re⟩:=h
      exact go' cf (k4 cf ⟨r,P',N,.finO b3 hd nab hw lv,re⟩)
theorem Re.vs {N:Nat} {c d:Cfg} (h:Re t bits B N c d):c.vs.length≤d.vs.length:=by
 induction h with
 | stop=>exact Nat.le_refl _
 | step h hb r ih =>
  cases h with
  | ask _ _ _=>exact Nat.le_trans (by simp) ih
  | on _ _=>exact Nat.le_trans (by simp) ih
theorem Re.quiet {N s:Nat} {P:Pd} {u:Nat} {v:List Nat} {d:Cfg} (h:Re t bits B N ⟨.inl s,P,u,v⟩ d) (ha:asks (t.nd s)=false):∃ M r P',N=M + 1∧Dp1 t s false P r P'∧Re t bits B M ⟨r,P',u,v++[s]⟩ d:=by
 cases h with
 | stop h =>
  cases h with
  | wait h _=>rw [ha] at h;cases h
 | step h _ r =>
  cases h with
  | ask h _ _=>rw [ha] at h;cases h
  | on _ d=>exact ⟨_,_,_,rfl,d,r⟩
theorem Re.waits {N s:Nat} {P:Pd} {u:Nat} {v:List Nat} {d:Cfg} (h:Re t bits B N ⟨.inl s,P,u,v⟩ d) (ha:asks (t.nd s)=true) (hu:bits[u]?=none):d=⟨.inl s,P,u,v⟩:=by
 cases h with
 | stop h=>rfl
 | step h _ r =>
  cases h with
  | ask _ h d=>rw [hu] at h;cases h
  | on h _=>rw [ha] at h;cases h
end
end FcM
set_option maxRecDepth 100000
set_option maxHeartbeats 4000000
namespace Fc
open PySem PySem.Spec PyProof.Rows L2 FcR
open Evl (Ex)
section
open FcM (Way Node Tab)
inductive SV (l:Int):PyData→Prop
 | do_ (x:Str):SV l (.tuple [.str "do",.str x])
 | call (x:Str):SV l (.tuple [.str "call",.str x])
 | iff (x:Str) (a b:PyData):SV l (.tuple [.str "if",.str x,a,b])
 | whl (x:Str) (a:PyData):SV l (.tuple [.str "while",.str x,a])
 | seq (p:PyData) (ps:List PyData):SV l (.tuple [.str "seq",.tuple (p::ps)])
 | brk (n:Int) (h1:1≤n) (h2:n≤l):SV l (.tuple [.str "break",.int n])
 | cnt (n:Int) (h1:1≤n) (h2:n≤l):SV l (.tuple [.str "continue",.int n])
 | ret:SV l (.tuple [.str "return"])
 | rai:SV l (.tuple [.str "raise"])
 | tr (a b:PyData):SV l (.tuple [.str "try",a,b])
 | fin (a b:PyData):SV l (.tuple [.str "final",a,b])
theorem lk_mem {l:List (Str×Int)} {k:Str} {n:Int} (h:l.lookup k=some n):(k,n)∈l:=by
 induction l with
 | nil=>cases h
 | cons p l ih =>
  obtain ⟨a,b⟩:=p
  by_cases e:k == a
  ·rw [List.lookup,e] at h
   cases h
   have z:k=a:=by simpa using e
   rw [z]
   exact List.mem_cons_self
  ·have e':(k == a)=false:=by simpa using e
   rw [List.lookup,e'] at h
   exact List.mem_cons_of_mem _ (ih h)
theorem isName_str {d:PyData} (h:isName d=true):∃ x,d=.str x:=by
 cases d<;>first | exact ⟨_,rfl⟩ | cases h
theorem isNum_int {d:PyData} {a b:Int} (h:isNum a b d=true):∃ n,d=.int n∧a≤n∧n≤b:=by
 cases d<;>first | (refine ⟨_,rfl,?_⟩;simpa [isNum] using h) | cases h
theorem ne_tup {d:PyData} (h:nonEmptyT d=true):∃ p ps,d=.tuple (p::ps):=by
 cases d with
 | tuple l=>cases l with
  | nil=>cases h
  | cons p ps=>exact ⟨p,ps,rfl⟩
 | _=>cases h
theorem len_of {r:List PyData} {n:Int} {m:Nat} (h:(r.length:Int) + 1=n) (e:n=(m:Int) + 1):r.length=m:=by omega
theorem sv_of {d:PyData} {l:Int} (h:isStm d l=true):SV l d:=by
 obtain ⟨k,r,n,rfl,hk,hl,h⟩:=isStm_shape h
 have hm:=lk_mem hk
 simp only [kSizes,List.mem_cons,List.not_mem_nil,or_false,Prod.mk.injEq] at hm
 rcases hm with ⟨rfl,rfl⟩ | ⟨rfl,rfl⟩ | ⟨rfl,rfl⟩ | ⟨rfl,rfl⟩ | ⟨rfl,rfl⟩ | ⟨rfl,rfl⟩ | ⟨rfl,rfl⟩ | ⟨rfl,rfl⟩ | ⟨rfl,rfl⟩ | ⟨rfl,rfl⟩ | ⟨rfl,rfl⟩
 ·rw [if_pos (by decide)] at h
  match r,len_of (m:=1) hl rfl,h with
  | [a],_,h=>obtain ⟨x,rfl⟩:=isName_str h;exact .do_ x
 ·rw [if_pos (by decide)] at h
  match r,len_of (m:=1) hl rfl,h with
  | [a],_,h=>obtain ⟨x,rfl⟩:=isName_str h;exact .call x
 ·rw [if_pos (by decide)] at h
  match r,len_of (m:=3) hl rfl,h with
  | [a,b,c],_,h=>obtain ⟨x,rfl⟩:=isName_str h;exact .iff x b c
 ·rw [if_pos (by decide)] at h
  match r,len_of (m:=2) hl rfl,h with
  | [a,b],_,h=>obtain ⟨x,rfl⟩:=isName_str h;exact .whl x b
 ·rw [if_neg (by decide),if_neg (by decide),if_neg (by decide)] at h
  match r,len_of (m:=1) hl rfl,h with
  | [a],_,h=>obtain ⟨p,ps,rfl⟩:=ne_tup h;exact .seq p ps
 ·rw [if_neg (by decide),if_pos (by decide)] at h
  match r,len_of (m:=1) hl rfl,h with
  | [a],_,h=>obtain ⟨x,rfl,h1,h2⟩:=isNum_int h;exact .brk x h1 h2
 ·rw [if_neg (by decide),if_pos (by decide)] at h
  match r,len_of (m:=1) hl rfl,h with
  | [a],_,h=>obtain ⟨x,rfl,h1,h2⟩:=isNum_int h;exact .cnt x h1 h2
 ·match r,len_of (m:=0) hl rfl with
  | [],_=>exact .ret
 ·match r,len_of (m:=0) hl rfl with
  | [],_=>exact .rai
 ·match r,len_of (m:=2) hl rfl with
  | [a,b],_=>exact .tr a b
 ·match r,len_of (m:=2) hl rfl with
  | [a,b],_=>exact .fin a b
def wl (d:PyData):Nat:=if kindD d="while" then 1 else 0
structure BI (st:List WIt) (rows:List Row) (ls:List Nat):Prop where
 ll:ls.length=rows.length
 dn:∀ (n:Nat) (r:Row) (l:Nat),rows[n]?=some r→ls[n]?=some l→∀ c∈r.ch,n<c∧∃ r':Row,rows[c]?=some r'∧r'.par=some n∧ls[c]?=some (l + wl r.d)
 as:∀ (n:Nat) (r:Row),rows[n]?=some r→r.ch.Pairwise (·<·)
 pt:∀ (n:Nat) (r:Row),rows[n]?=some r→(r.ch.map fun c=>(rows[c]?.map Row.d).getD .none)++(st.filter fun i=>decide (i.par=some n)).map WIt.d=partsD r.d
 sm:∀ (n:Nat) (r:Row) (l:Nat),rows[n]?=some r→ls[n]?=some l→isStm r.d (l:Int)=true
 it:∀ i∈st,(i.par=none→rows=[]∧i.loops=0∧st.length=1)∧∀ p:Nat,i.par=some p→∃ (r:Row) (l:Nat),rows[p]?=some r∧ls[p]?=some l∧i.loops=l + wl r.d
 up:∀ (n:Nat) (r:Row) (p:Nat),rows[n]?=some r→r.par=some p→p<n∧∃ rp:Row,rows[p]?=some rp∧n∈rp.ch
 rt:∀ r:Row,rows[0]?=some r→r.par=none
 l0:∀ l:Nat,ls[0]?=some l→l=0
theorem addRow_get {rows:List Row} {d:PyData} {par:Option Nat} {n:Nat} {r:Row} (h:(addRow rows d par)[n]?=some r) :
  (n=rows.length∧r=⟨d,par,[]⟩)∨(∃ r0,rows[n]?=some r0∧r.d=r0.d∧r.par=r0.par∧((par=some n∧r.ch=r0.ch++[rows.length])∨(par≠some n∧r=r0))):=by
 obtain ⟨bs,hb,hl,hg⟩:∃ bs:List Row,addRow rows d par=bs++[⟨d,par,[]⟩]∧bs.length=rows.length∧∀ (n:Nat) (r:Row),bs[n]?=some r→∃ r0,rows[n]?=some r0∧r.d=r0.d∧r.par=r0.par∧((par=some n∧r.ch=r0.ch++[rows.length])∨(par≠some n∧r=r0)):=by
  cases par with
  | none=>exact ⟨rows,rfl,rfl,fun n r h=>⟨r,h,rfl,rfl,.inr ⟨(fun z=>nomatch z),rfl⟩⟩⟩
  | some i =>
   refine ⟨addCh rows i rows.length,rfl,addCh_len _ _ _,fun n r h=>?_⟩
   rw [addCh_eq,List.getElem?_modify] at h
   cases e:rows[n]? with
   | none=>rw [e] at h;simp at h
   | some r0 =>
    rw [e] at h
    by_cases z:i=n
    ·subst z
     simp at h
     refine ⟨r0,rfl,?_,?_,.inl ⟨rfl,?_⟩⟩<;>rw [← h]<;>rfl
    ·simp [z] at h
     exact ⟨r0,rfl,by rw [h],by rw [h],.inr ⟨fun y=>z (Option.some.inj y),h.symm⟩⟩
 rw [hb] at h
 rcases Nat.lt_or_ge n rows.length with lt | ge
 ·rw [List.getElem?_append_left (by rw [hl];exact lt)] at h
  exact .inr (hg n r h)
 ·rw [List.getElem?_append_right (by rw [hl];exact ge),hl] at h
  have e:n - rows.length=0:=by
   have:=(List.getElem?_eq_some_iff.mp h).1
   simp at this
   omega
  rw [e] at h
  simp at h
  exact .inl ⟨by omega,h.symm⟩
theorem addRow_old {rows:List Row} {d:PyData} {par:Option Nat} {n:Nat} {r0:Row} (h:rows[n]?=some r0):∃ r,(addRow rows d par)[n]?=some r∧r.d=r0.d∧r.par=r0.par:=by
 have lt:=(List.getElem?_eq_some_iff.mp h).1
 have lt2:n<(addRow rows d par).length:=by rw [addRow_len];omega
 refine ⟨_,List.getElem?_eq_getElem lt2,?_⟩
 rcases addRow_get (List.getElem?_eq_getElem lt2) with ⟨e,_⟩ | ⟨r1,h1,h2,h3,_⟩
 ·omega
 ·rw [h] at h1
  cases h1
  exact ⟨h2,h3⟩
theorem addRow_new {rows:List Row} {d:PyData} {par:Option Nat}:(addRow rows d par)[rows.length]?=some ⟨d,par,[]⟩:=by
 have lt2:rows.length<(addRow rows d par).length:=by rw [addRow_len];omega
 rw [List.getElem?_eq_getElem lt2]
 rcases addRow_get (List.getElem?_eq_getElem lt2) with ⟨_,e⟩ | ⟨r1,h1,_⟩
 ·rw [e]
 ·have:=(List.getElem?_eq_some_iff.mp h1).1
  omega
theorem addRow_d {rows:List Row} {d:PyData} {par:Option Nat} {c:Nat} (hc:c<rows.length):((addRow rows d par)[c]?.map Row.d)=rows[c]?.map Row.d:=by
 obtain ⟨r,h1,h2,_⟩:=addRow_old (d:=d) (par:=par) (List.getElem?_eq_getElem hc)
 rw [h1,List.getElem?_eq_getElem hc,Option.map_some,Option.map_some,h2]
theorem BI.step {it:WIt} {st:List WIt} {rows:List Row} {ls:List Nat} (b:BI (it::st) rows ls) (ok:okIt it rows.length):BI (newIts it rows.length++st) (addRow rows it.d it.par) (ls++[it.loops]):=by
 have lsl:∀ {n l:Nat},ls[n]?=some l→(ls++[it.loops])[n]?=some l:=fun {n l} h=>by
  rw [List.getElem?_append_left (List.getElem?_eq_some_iff.mp h).1]
  exact h
 have lsn:(ls++[it.loops])[rows.length]?=some it.loops:=by rw [List.getElem?_append_right (by rw [b.ll];exact Nat.le_refl _),b.ll,Nat.sub_self]<;>rfl
 have lso:∀ {n l:Nat},n<rows.length→(ls++[it.loops])[n]?=some l→ls[n]?=some l:=fun {n l} hn h=>by
  rw [List.getElem?_append_left (by rw [b.ll];exact hn)] at h
  exact h
 obtain ⟨i1,i2⟩:=b.it it List.mem_cons_self
 have new_par:∀ i∈newIts it rows.length,i.par=some rows.length∧i.loops=it.loops + wl it.d:=fun i hi=>by
  obtain ⟨j,hj,rfl⟩:=List.mem_mapIdx.mp hi
  exact ⟨rfl,rfl⟩
 refine ⟨by rw [List.length_append,addRow_len,b.ll]<;>rfl,fun n r l hr hl c hc=>?_,fun n r hr=>?_,fun n r hr=>?_,fun n r l hr hl=>?_,fun i hi=>?_,fun n r p hr hp=>?_,fun r hr=>?_,fun l hl=>?_⟩
 ·rcases addRow_get hr with ⟨rfl,rfl⟩ | ⟨r0,h0,hd,hp,h⟩
  ·cases hc
  ·have lt:=(List.getElem?_eq_some_iff.mp h0).1
   have hl0:=lso lt hl
   have old:∀ c∈r0.ch,n<c∧∃ r':Row,(addRow rows it.d it.par)[c]?=some r'∧r'.par=some n∧(ls++[it.loops])[c]?=some (l + wl r.d):=fun c hc=>by
    obtain ⟨x1,r',x2,x3,x4⟩:=b.dn n r0 l h0 hl0 c hc
    obtain ⟨r2,y1,y2,y3⟩:=addRow_old (d:=it.d) (par:=it.par) x2
    exact ⟨x1,r2,y1,y3.trans x3,by rw [hd];exact lsl x4⟩
   rcases h with ⟨hp,hch⟩ | ⟨_,e⟩
   ·rw [hch] at hc
    rcases List.mem_append.mp hc with hc | hc
    ·exact old c hc
    ·have e:=List.mem_singleton.mp hc
     subst e
     refine ⟨lt,_,addRow_new,hp,?_⟩
     obtain ⟨r1,l1,z1,z2,z3⟩:=i2 n hp
     rw [h0] at z1
     cases z1
     rw [hl0] at z2
     cases z2
     rw [lsn,z3,hd]
   ·rw [e] at hc
    exact old c hc
 ·rcases addRow_get hr with ⟨rfl,rfl⟩ | ⟨r0,h0,hd,hp,h⟩
  ·exact .nil
  ·rcases h with ⟨hp,hch⟩ | ⟨_,e⟩
   ·rw [hch,List.pairwise_append]
    refine ⟨b.as n r0 h0,List.pairwise_singleton _ _,fun c hc y hy=>?_⟩
    rw [List.mem_singleton.mp hy]
    obtain ⟨l,hl⟩:∃ l,ls[n]?=some l:=⟨_,List.getElem?_eq_getElem (by rw [b.ll];exact (List.getElem?_eq_some_iff.mp h0).1)⟩
    obtain ⟨_,r',x2,_⟩:=b.dn n r0 l h0 hl c hc
    exact (List.getElem?_eq_some_iff.mp x2).1
   ·rw [e]
    exact b.as n r0 h0
 ·rcases addRow_get hr with ⟨rfl,rfl⟩ | ⟨r0,h0,hd,hp,h⟩
  ·show ([]:List Nat).map _++_=_
   rw [List.map_nil,List.nil_append,List.filter_append,List.map_append]
   have e1:(newIts it rows.length).filter (fun i=>decide (i.par=some rows.length))=newIts it rows.length:=List.filter_eq_self.mpr fun i hi=>decide_eq_true (new_par i hi).1
   have e2:st.filter (fun i=>decide (i.par=some rows.length))=[]:=List.filter_eq_nil_iff.mpr fun i hi z=>by
    obtain ⟨r1,l1,z1,_⟩:=(b.it i (List.mem_cons_of_mem _ hi)).2 _ (of_decide_eq_true z)
    have:=(List.getElem?_eq_some_iff.mp z1).1
    omega
   rw [e1,e2,List.map_nil,List.append_nil]
   show (newIts it rows.length).map WIt.d=partsD it.d
   unfold newIts
   apply List.ext_getElem?
   intro j
   rw [List.getElem?_map,List.getElem?_mapIdx]
   cases (partsD it.d)[j]?<;>rfl
  ·have lt:=(List.getElem?_eq_some_iff.mp h0).1
   obtain ⟨l,hl⟩:∃ l,ls[n]?=some l:=⟨_,List.getElem?_eq_getElem (by rw [b.ll];exact lt)⟩
   have p0:=b.pt n r0 h0
   have e1:(newIts it rows.length).filter (fun i=>decide (i.par=some n))=[]:=List.filter_eq_nil_iff.mpr fun i hi z=>by
    have z1:=(new_par i hi).1
    rw [of_decide_eq_true z] at z1
    have:=Option.some.inj z1
    omega
   have e3:(r0.ch.map fun c=>((addRow rows it.d it.par)[c]?.map Row.d).getD .none)=r0.ch.map fun c=>(rows[c]?.map Row.d).getD .none:=List.map_congr_left fun c hc=>by
    obtain ⟨_,r',x2,_⟩:=b.dn n r0 l h0 hl c hc
    rw [addRow_d (List.getElem?_eq_some_iff.mp x2).1]
   rw [List.filter_append,e1,List.nil_append,hd]
   rcases h with ⟨hp,hch⟩ | ⟨hp,e⟩
   ·rw [hch,List.map_append,e3,← p0,List.filter_cons,if_pos (decide_eq_true hp),List.map_cons,List.append_assoc]
    congr 1
    show [(((addRow rows it.d it.par)[rows.length]?).map Row.d).getD .none]++_=_
    rw [addRow_new]<;>rfl
   ·rw [e,e3,← p0,List.filter_cons,if_neg (by simpa using hp)]
 ·rcases addRow_get hr with ⟨rfl,rfl⟩ | ⟨r0,h0,hd,hp,h⟩
  ·rw [lsn] at hl
   cases hl
   exact ok.2.2.2
  ·rw [hd]
   exact b.sm n r0 l h0 (lso (List.getElem?_eq_some_iff.mp h0).1 hl)
 ·rcases List.mem_append.mp hi with hi | hi
  ·obtain ⟨z1,z2⟩:=new_par i hi
   refine ⟨(fun e=>by rw [z1] at e;cases e),fun p hp=>?_⟩
   rw [z1] at hp
   cases hp
   exact ⟨_,_,addRow_new,lsn,z2⟩
  ·obtain ⟨z1,z2⟩:=b.it i (List.mem_cons_of_mem _ hi)
   refine ⟨fun e=>?_,fun p hp=>?_⟩
   ·have z3:=(z1 e).2.2
    have:=List.length_pos_of_mem hi
    rw [List.length_cons] at z3
    omega
   ·obtain ⟨r,l,y1,y2,y3⟩:=z2 p hp
    obtain ⟨r2,x1,x2,_⟩:=addRow_old (d:=it.d) (par:=it.par) y1
    exact ⟨r2,l,x1,lsl y2,by rw [x2];exact y3⟩
 ·have keep:∀ {rp:Row} {x:Nat},rows[p]?=some rp→x∈rp.ch→∃ rp':Row,(addRow rows it.d it.par)[p]?=some rp'∧x∈rp'.ch:=fun {rp x} h1 h2=>by
   obtain ⟨r2,y1,_⟩:=addRow_old (d:=it.d) (par:=it.par) h1
   refine ⟨r2,y1,?_⟩
   rcases addRow_get y1 with ⟨e,_⟩ | ⟨r3,z1,_,_,z4⟩
   ·have:=(List.getElem?_eq_some_iff.mp h1).1
    omega
   ·rw [h1] at z1
    cases z1
    rcases z4 with ⟨_,e⟩ | ⟨_,e⟩
    ·rw [e];exact List.mem_append_left _ h2
    ·rw [e];exact h2
  rcases addRow_get hr with ⟨e,rfl⟩ | ⟨r0,h0,hd,hp2,h⟩
  ·obtain ⟨rp,l,y1,_⟩:=i2 p hp
   have lt:=(List.getElem?_eq_some_iff.mp y1).1
   obtain ⟨r2,y2,_⟩:=addRow_old (d:=it.d) (par:=it.par) y1
   refine ⟨by omega,r2,y2,?_⟩
   rcases addRow_get y2 with ⟨e2,_⟩ | ⟨r3,z1,_,_,z4⟩
   ·omega
   ·rcases z4 with ⟨_,e2⟩ | ⟨e2,_⟩
    ·rw [e2,e];exact List.mem_append_right _ (List.mem_singleton.mpr rfl)
    ·exact absurd hp e2
  ·rw [hp2] at hp
   obtain ⟨y1,rp,y2,y3⟩:=b.up n r0 p h0 hp
   exact ⟨y1,keep y2 y3⟩
 ·rcases addRow_get hr with ⟨e,rfl⟩ | ⟨r0,h0,hd,hp,h⟩
  ·show it.par=none
   cases e2:it.par with
   | none=>rfl
   | some p =>
    obtain ⟨r,l,y1,_⟩:=i2 p e2
    have:=(List.getElem?_eq_some_iff.mp y1).1
    omega
  ·rw [hp]
   exact b.rt r0 h0
 ·by_cases hz:rows.length=0
  ·have e:ls=[]:=List.eq_nil_of_length_eq_zero (by rw [b.ll];exact hz)
   subst e
   simp at hl
   cases e2:it.par with
   | none=>rw [← hl];exact (i1 e2).2.1
   | some p =>
    obtain ⟨r,l,y1,_⟩:=i2 p e2
    have:=(List.getElem?_eq_some_iff.mp y1).1
    omega
  ·exact b.l0 l (lso (by omega) hl)
theorem BI.all:∀ {m:Nat} {st:List WIt} {rows fin:List Row},Builds m st rows fin→∀ {ls:List Nat},BI st rows ls→∃ ls',BI [] fin ls'
 | _,_,_,_,.done _,ls,b=>⟨ls,b⟩
 | _,_,_,_,.step ok h,_,b=>BI.all h (b.step ok)
theorem BI.start (d:PyData):BI [⟨d,none,1,0,0⟩] [] [] :=
 ⟨rfl,fun n r l h=>by simp at h,fun n r h=>by simp at h,fun n r h=>by simp at h,fun n r l h=>by simp at h,fun i hi=>by
  rw [List.mem_singleton.mp hi]
  exact ⟨fun _=>⟨rfl,rfl,rfl⟩,fun p hp=>nomatch hp⟩,fun n r p h=>by simp at h,fun r h=>by simp at h,fun l h=>by simp at h⟩
end
section
inductive OkS:Nat→Nat→Nat→Nat→PyData→Prop
 | mk {loops deep blocks:Nat} {d:PyData} (wt:Nat→Nat) (st:isStm d (loops:Int)=true) (hd:deep≤100) (hb:blocks≤25) (ps:∀ i p,(partsD d)[i]?=some p→OkS (loops + wl d) (deep + 1) (blocks + (if kindD d="final"∧i=1 then 1 else 0)) (wt i) p):OkS loops deep blocks (1 + ((List.range (partsD d).length).map wt).sum) d
inductive OkL:List WIt→Nat→Prop
 | nil:OkL [] 0
 | cons {it:WIt} {st:List WIt} {w n:Nat} (h:OkS it.loops it.deep it.blocks w it.d) (r:OkL st n):OkL (it::st) (w + n)
theorem OkL.app {b:List WIt} {y:Nat} (hb:OkL b y):∀ {a:List WIt} {x:Nat},OkL a x→OkL (a++b) (x + y)
 | _,_,.nil=>by rw [Nat.zero_add];exact hb
 | _,_,.cons h r=>by rw [Nat.add_assoc];exact .cons h (OkL.app hb r)
theorem okL_parts {it:WIt} {n:Nat}:∀ (ps:List PyData) (k:Nat) (wt:Nat→Nat),(∀ i p,ps[i]?=some p→OkS (it.loops + wl it.d) (it.deep + 1) (it.blocks + (if kindD it.d="final"∧k + i=1 then 1 else 0)) (wt i) p)→OkL (ps.mapIdx fun i p=>newIt it n (k + i) p) (((List.range ps.length).map wt).sum)
 | [],_,_,_=>.nil
 | p::ps,k,wt,h=>by
  rw [List.mapIdx_cons,List.length_cons,List.range_succ_eq_map,List.map_cons,List.sum_cons,List.map_map]
  refine .cons (h 0 p rfl) ?_
  have z:=okL_parts (it:=it) (n:=n) ps (k + 1) (fun i=>wt (i + 1)) fun i q hq=>by
   have y:=h (i + 1) q (by simpa using hq)
   have e:k + (i + 1)=k + 1 + i:=by omega
   rw [e] at y
   exact y
  have e2:(ps.mapIdx fun i p=>newIt it n (k + (i + 1)) p)=ps.mapIdx fun i p=>newIt it n (k + 1 + i) p:=by
   congr 1
   funext i p
   rw [show k + (i + 1)=k + 1 + i by omega]
  rw [e2]
  exact z
theorem builds_of:∀ (N:Nat) (st:List WIt) (rows:List Row),OkL st N→rows.length + N≤400→∃ fin,Builds N st rows fin∧fin.length=rows.length + N:=by
 intro N
 induction N with
 | zero =>
  intro st rows h _
  have:st=[]:=by
   generalize e:0=z at h
   cases h with
   | nil=>rfl
   | cons h r=>cases h;omega
  subst this
  exact ⟨rows,.done rows,rfl⟩
 | succ N ih =>
  intro st rows h hl
  generalize e:N + 1=z at h
  cases h with
  | nil=>cases e
  | @cons it st w n h r =>
   obtain ⟨d,par,deep,loops,blocks⟩:=it
   dsimp only at h
   cases h with
   | mk wt s1 s2 s3 s4 =>
    have nw:OkL (newIts ⟨d,par,deep,loops,blocks⟩ rows.length) (((List.range (partsD d).length).map wt).sum):=by
     have z:=okL_parts (it:=⟨d,par,deep,loops,blocks⟩) (n:=rows.length) (partsD d) 0 wt fun i p hp=>by
      rw [Nat.zero_add]
      exact s4 i p hp
     have e2:((partsD d).mapIdx fun i p=>newIt ⟨d,par,deep,loops,blocks⟩ rows.length (0 + i) p)=newIts ⟨d,par,deep,loops,blocks⟩ rows.length:=by
      unfold newIts
      congr 1
      funext i p
      rw [Nat.zero_add]
     rw [e2] at z
     exact z
    have eN:((List.range (partsD d).length).map wt).sum + n=N:=by omega
    have nw2:=OkL.app r nw
    rw [eN] at nw2
    obtain ⟨fin,b,l⟩:=ih _ (addRow rows d par) nw2 (by rw [addRow_len];omega)
    have eZ:1 + ((List.range (partsD d).length).map wt).sum + n=N + 1:=by omega
    rw [eZ]
    exact ⟨fin,.step ⟨by omega,s2,s3,s1⟩ b,by rw [l,addRow_len];omega⟩
end
section
def FailsL (st:List WIt) (n:Nat) (f:Str×Str×Int):Prop:=∀ rows:List Row,rows.length=n→∃ N,Fails N st rows f
theorem fail_now {it:WIt} {st:List WIt} {n:Nat} {f:Str×Str×Int} (h:fault it n=some f):FailsL (it::st) n f:=fun rows e=>⟨0,.now (by rw [e];exact h)⟩
theorem fail_step {it:WIt} {st:List WIt} {n:Nat} {f:Str×Str×Int} (ok:okIt it n) (hl:(newIts it n++st).length≤50000) (h:FailsL (newIts it n++st) (n + 1) f):FailsL (it::st) n f:=fun rows e=>by
 subst e
 obtain ⟨N,z⟩:=h (addRow rows it.d it.par) (addRow_len _ _ _)
 exact ⟨N + 1,.step ok hl z⟩
def BadS (B loops deep blocks n:Nat) (f:Str×Str×Int) (d:PyData):Prop:=∀ (st:List WIt) (par:Option Nat),st.length≤B + n→FailsL (⟨d,par,deep,loops,blocks⟩::st) n f
end
section
inductive GS:PyData→Prop
 | mk {e:PyData} (can:PyData.canLay0 e=true) (sz:szD e) (ps:∀ x∈partsD e,GS x) (ns:∀ x,e=.str x→x.length≤100000):GS e
theorem gs_parts {e:PyData} (h:GS e):PyData.canLay0 e=true∧szD e∧∀ x∈partsD e,GS x:=by
 cases h with
 | mk a b c _=>exact ⟨a,b,c⟩
def Fine (k b lo hi:Nat) (d:PyData):Prop:=∀ loops deep blocks,deep + k≤101→blocks + b≤25→∃ w,lo≤w∧w≤hi∧OkS loops deep blocks w d
theorem Fine.mono {k b lo hi b':Nat} {d:PyData} (h:Fine k b lo hi d) (e:b≤b'):Fine k b' lo hi d:=fun l d' bl h1 h2=>h l d' bl h1 (by omega)
theorem BadS.mono {B B' loops deep blocks n:Nat} {f:Str×Str×Int} {d:PyData} (h:BadS B loops deep blocks n f d) (e:B'≤B):BadS B' loops deep blocks n f d:=fun st par hs=>h st par (by omega)
end
section
def sp_cell (K:PySem.W.Frag):Sp:=fun vs H Q _=>∃ (a:Addr) (ns:List Int) (k:Nat),vs=[.ref a,.int (k:Int)]∧SqL K H a (ns.map V.int)∧Q (.int (ns.getD k 0)) H
def sp_source:Sp:=fun vs H Q _=>∃ c:Int,vs=[.int c]∧∀ (p:Addr) (x y:Int),H p=none→Q (.ref p) (upd H p (.lst [.int x,.int y,.int 0]))
def sp_draw:Sp:=fun vs H Q _=>∃ (p:Addr) (x y z m:Int),vs=[.ref p,.int m]∧H p=some (.lst [.int x,.int y,.int z])∧0<m∧m<1073741824 ∧
 ∀ x' y' z' v:Int,0≤v→v<m→Q (.int v) (upd H p (.lst [.int x',.int y',.int z']))
section
variable {P:Program} {w:World} {h:Heap} {K:PySem.W.Frag} {mg:Str→Option Value} {base:Heap}
abbrev N_law_cell_at:List Str:=["_law_script","_law_k"]
theorem sc_law_cell_at:FnScope N_law_cell_at ["_law_script","_law_k"] (defScope sd_law_cell_at):=⟨rfl,rfl,rfl,by decide +kernel,rfl,by decide +kernel,by decide +kernel⟩
theorem ok_law_cell_at (T:Tx w h K mg):Ok P w K mg base 1 ("_law_cell_at",none) ["_law_script","_law_k"] (sp_cell K):=by
 obtain ⟨fd,F⟩:=F_law_cell_at T
 refine ⟨fd,?_,F.bindsN (fun _ _ _ _ _ _ us hl=>match us,hl with | [_,_],_=>rfl),F.kp⟩
 refine F.ok sc_law_cell_at (fun vs H Q E h=>?_) (fun cdv A outer s H vs Q E hr h=>?_)
 ·obtain ⟨a,ns,k,rfl,hs,q⟩:=h
  rfl
 ·obtain ⟨a,ns,k,rfl,hs,q⟩:=h
  refine ⟨_,PSs.nox (pss_one (ps_ret (pe_ifExp (pt_cmpR op_lt (pv 1) (pe_callB call_len_seq rfl (fr_len T) b_len (pa_cons (pv 0) pa_nil)) (nomark _)) (pe_ix ix_list (pv 0) (pv 1) (fun _ _=>rfl)) pe_int))),?_⟩
  refine ⟨_,rfl,_,rfl,a,_,rfl,.inl hs,_,_,rfl,rfl,_,rfl,ite_of (fun h1=>?_) (fun h1=>?_)⟩
  ·have hk:k<ns.length:=by
    have:=of_decide_eq_true h1
    rw [List.length_map] at this
    omega
   refine ⟨_,rfl,_,rfl,a,_,_,.int (ns.getD k 0),rfl,rfl,hs,atI_nat ?_,q⟩
   rw [List.getElem?_map,List.getD_eq_getElem?_getD,List.getElem?_eq_getElem hk]<;>rfl
  ·have hk:ns.length≤k:=by
    have:=of_decide_eq_false h1
    rw [List.length_map] at this
    omega
   have e:ns.getD k 0=0:=by rw [List.getD_eq_getElem?_getD,List.getElem?_eq_none hk]<;>rfl
   rw [e] at q
   exact q
abbrev N_law_source_of:List Str:=["_law_cell"]
theorem sc_law_source_of:FnScope N_law_source_of ["_law_cell"] (defScope sd_law_source_of):=⟨rfl,rfl,rfl,by decide +kernel,rfl,by decide +kernel,by decide +kernel⟩
theorem ok_law_source_of (T:Tx w h K mg):Ok P w K mg base 1 ("_law_source_of",none) ["_law_cell"] (sp_source):=by
 obtain ⟨fd,F⟩:=F_law_source_of T
 refine ⟨fd,?_,F.bindsN (fun _ _ _ _ _ _ us hl=>match us,hl with | [_],_=>rfl),F.kp⟩
 refine F.ok sc_law_source_of (fun vs H Q E h=>?_) (fun cdv A outer s H vs Q E hr h=>?_)
 ·obtain ⟨c,rfl,q⟩:=h
  rfl
 ·obtain ⟨c,rfl,q⟩:=h
  refine ⟨_,PSs.nox (pss_one (ps_ret (pe_lst (pa_cons (pe_op op_mul (pv 0) (pe_callTy call_int1 rfl (fr_int T) b_int (pa_cons (pe_cmpR op_ge (pv 0) (pe_op op_pow pe_int pe_int) (nomark _)) pa_nil))) (pa_cons (pe_op op_add (pe_op op_mod (pe_callTy call_int1 rfl (fr_int T) b_int (pa_cons (pv 0) pa_nil)) pe_int) pe_int) (pa_cons pe_int pa_nil)))))),?_⟩
  refine ⟨_,rfl,_,rfl,_,_,rfl,rfl,(by unfold CPow;decide),_,_,rfl,rfl,.inr ⟨_,rfl,_,_,rfl,rfl,?_,_,rfl,.inl ⟨_,rfl,_,_,rfl,rfl,(by first | (show (0:Int)<_;decide) | (show (0:Int)<_∧_<(1073741824:Int);decide)),_,_,rfl,rfl,sz (by simp),fun p hp=>q p _ _ hp⟩⟩⟩
  refine .inr ?_
  by_cases h1:decide ((10:Int) ^ (18:Int).toNat≤c)=true
  ·rw [if_pos h1]<;>decide
  ·rw [if_neg h1]<;>decide
abbrev N_law_draw:List Str:=["_law_source","_law_many","_law_found","_law_mixed"]
theorem sc_law_draw:FnScope N_law_draw ["_law_source","_law_many"] (defScope sd_law_draw):=⟨rfl,rfl,rfl,by decide +kernel,rfl,by decide +kernel,by decide +kernel⟩
theorem ok_law_draw (T:Tx w h K mg):Ok P w K mg base 1 ("_law_draw",none) ["_law_source","_law_many"] (sp_draw):=by
 obtain ⟨fd,F⟩:=F_law_draw T
 refine ⟨fd,?_,F.bindsN (fun _ _ _ _ _ _ us hl=>match us,hl with | [_,_],_=>rfl),F.kp⟩
 refine F.ok sc_law_draw (fun vs H Q E h=>?_) (fun cdv A outer s H vs Q E hr h=>?_)
 ·obtain ⟨p,x,y,z,m,rfl,hp,h1,h2,q⟩:=h
  rfl
 ·obtain ⟨p,x,y,z,m,rfl,hp,h1,h2,q⟩:=h
  refine ⟨_,PSs.nox (pss_cons (ps_if (pt_cmpR op_gt (pe_ix ix_list (pv 0) pe_int (fun _ _=>rfl)) pe_int (nomark _)) (pss_cons (ps_set (i:=2) sc_law_draw.nd rfl (Or.inl rfl) (pe_op op_mod (pe_callTy call_int1 rfl (fr_int T) b_int (pa_cons (pe_ix ix_list (pv 0) pe_int (fun _ _=>rfl)) pa_nil)) (pv 1))) (pss_cons (ps_asg (pe_op op_fdiv (pe_ix ix_list (pv 0) pe_int (fun _ _=>rfl)) (pv 1)) (pg_sub (pv 0) pe_int set_list)) (pss_one (ps_ret (pv 2))))) pss_nil) (pss_cons (ps_asg (pe_op op_add (pe_ix ix_list (pv 0) pe_int (fun _ _=>rfl)) pe_int) (pg_sub (pv 0) pe_int set_list)) (pss_cons (ps_set (i:=3) sc_law_draw.nd rfl (Or.inl rfl) (pe_op op_mod (pe_callTy call_int1 rfl (fr_int T) b_int (pa_cons (pe_op op_mul (pe_op op_add (pe_ix ix_list (pv 0) pe_int (fun _ _=>rfl)) (pe_op op_mul pe_int (pe_ix ix_list (pv 0) pe_int (fun _ _=>rfl)))) pe_int) pa_nil)) pe_int)) (pss_cons (ps_set (i:=3) sc_law_draw.nd rfl (Or.inl rfl) (pe_op op_mod (pe_callTy call_int1 rfl (fr_int T) b_int (pa_cons (pe_op op_mul (pv 3) (pe_op op_add (pe_op op_add (pe_op op_fdiv (pv 3) pe_int) pe_int) (pe_ix ix_list (pv 0) pe_int (fun _ _=>rfl)))) pa_nil)) pe_int)) (pss_one (ps_ret (pe_op op_mod (pe_callTy call_int1 rfl (fr_int T) b_int (pa_cons (pe_op op_fdiv (pe_op op_mod (pe_callTy call_int1 rfl (fr_int T) b_int (pa_cons (pe_op op_mul (pv 3) (pe_op op_add (pe_op op_fdiv (pv 3) pe_int) pe_int)) pa_nil)) pe_int) pe_int) pa_nil)) (pv 1)))))))),?_⟩
  have hs:=Evl.sq_of (K:=K) hp
  refine ⟨_,rfl,p,_,_,_,rfl,rfl,hs,rfl,_,_,rfl,rfl,_,rfl,ite_of (fun h3=>?_) (fun h3=>?_)⟩
  ·refine ⟨_,rfl,p,_,_,_,rfl,rfl,hs,rfl,.inl ⟨_,rfl,_,rfl,_,_,rfl,rfl,h1,?_⟩⟩
   refine ⟨_,rfl,p,_,_,_,rfl,rfl,hs,rfl,_,rfl,_,_,rfl,rfl,⟨h1,h2⟩,_,rfl,p,_,_,0,rfl,rfl,hp,rfl,?_⟩
   exact ⟨_,rfl,q _ _ _ _ (Int.emod_nonneg _ (by omega)) (Int.emod_lt_of_pos _ h1)⟩
  ·refine ⟨_,rfl,p,_,_,_,rfl,rfl,hs,rfl,_,_,rfl,rfl,_,rfl,p,_,_,2,rfl,rfl,hp,rfl,?_⟩
   have hs2:=Evl.sq_of (K:=K) (upd_same (H:=H) (a:=p) (o:=.lst [.int x,.int y,.int (z + 1)]))
   refine ⟨_,rfl,p,_,_,_,rfl,rfl,hs2,rfl,_,rfl,p,_,_,_,rfl,rfl,hs2,rfl,_,_,rfl,rfl,.inl (by show (-(2 ^ 64)<(8191:Int)∧(8191:Int)<2 ^ 64);decide),_,_,rfl,rfl,_,_,rfl,rfl,.inr (by show (-(2 ^ 64)<(48271:Int)∧(48271:Int)<2 ^ 64);decide),.inl ⟨_,rfl,_,_,rfl,rfl,(by first | (show (0:Int)<_;decide) | (show (0:Int)<_∧_<(1073741824:Int);decide)),?_⟩⟩
   generalize (y + 8191 * (z + 1)) * 48271=r1
   have b1:=Int.emod_nonneg r1 (show (2147483647:Int)≠0 by decide)
   have b2:=Int.emod_lt_of_pos r1 (show (0:Int)<2147483647 by decide)
   refine ⟨_,rfl,_,rfl,_,_,rfl,rfl,(by first | (show (0:Int)<_;decide) | (show (0:Int)<_∧_<(1073741824:Int);decide)),_,_,rfl,rfl,_,rfl,p,_,_,_,rfl,rfl,hs2,rfl,_,_,rfl,rfl,_,_,rfl,rfl,.inl (by omega),.inl ⟨_,rfl,_,_,rfl,rfl,(by first | (show (0:Int)<_;decide) | (show (0:Int)<_∧_<(1073741824:Int);decide)),?_⟩⟩
   generalize r1 % 2147483647 * (r1 % 2147483647 / 1021 + 69621 + (z + 1))=r2
   have b3:=Int.emod_nonneg r2 (show (2147483587:Int)≠0 by decide)
   have b4:=Int.emod_lt_of_pos r2 (show (0:Int)<2147483587 by decide)
   refine ⟨_,rfl,_,rfl,_,_,rfl,rfl,(by first | (show (0:Int)<_;decide) | (show (0:Int)<_∧_<(1073741824:Int);decide)),_,_,rfl,rfl,_,_,rfl,rfl,.inl (by omega),.inl ⟨_,rfl,_,_,rfl,rfl,(by first | (show (0:Int)<_;decide) | (show (0:Int)<_∧_<(1073741824:Int);decide)),_,_,rfl,rfl,(by first | (show (0:Int)<_;decide) | (show (0:Int)<_∧_<(1073741824:Int);decide)),.inl ⟨_,rfl,_,rfl,_,_,rfl,rfl,h1,?_⟩⟩⟩
   exact q _ _ _ _ (Int.emod_nonneg _ (by omega)) (Int.emod_lt_of_pos _ h1)
end
def Src (H:Hp) (p:Addr):Prop:=∃ x y z:Int,H p=some (.lst [.int x,.int y,.int z])
end
section
def S_Code3 (K:PySem.W.Frag):Sp→Prop:=fun sp=>sp=sp_Code___init__ K∨sp=sp_Code___init__Z K
def sp_said3 (K : PySem.W.Frag) : Sp := fun vs H Q _ => ∃ (F : Hp) (v : V), vs = [v] ∧ Ex F H ∧
  ((∃ (d : PyData) (N : Nat) (fin : List Row), Dp K F v d ∧ GS d ∧ Builds N [⟨d, none, 1, 0, 0⟩] [] fin ∧ ∀ H', Ex H H' → Q (.str "made") H') ∨
   (∃ (d : PyData) (N : Nat) (n : Int) (G : PyData → Prop), Dz K F v d ∧ (∀ e, G e → szD e ∧ ((∃ l, isStm e l = true) → ∀ x ∈ partsD e, G x)) ∧ G d ∧ Fails N [⟨d, none, 1, 0, 0⟩] [] ("InvalidCode", "number", n) ∧ ∀ H', Ex H H' → Q (.int n) H'))
section
variable {P:Program} {w:World} {h:Heap} {K:PySem.W.Frag} {mg:Str→Option Value} {base:Heap}
theorem heldCode3 (T:Tx w h K mg):∀ sp,S_Code3 K sp→FcX.HeldX P w K mg base 6 (He.fAd K ("Code",some "__init__")) sp:=by
 rintro sp (rfl | rfl)
 ·obtain ⟨fd,G,b,k⟩:=ok_Code___init__ (P:=P) (base:=base) T
  exact ⟨fd,_,G,k,b⟩
 ·obtain ⟨fd,G,b,k⟩:=ok_Code___init__Z (P:=P) (base:=base) T
  exact ⟨fd,_,G,k,b⟩
abbrev N_law_said:List Str:=["_law_statement_here","_law_found","e"]
theorem sc_law_said:FnScope N_law_said ["_law_statement_here"] (defScope sd_law_said):=⟨rfl,rfl,rfl,by decide +kernel,rfl,by decide +kernel,by decide +kernel⟩
theorem ok_law_said (T:Tx w h K mg):Ok P w K mg base 8 ("_law_said",none) ["_law_statement_here"] (sp_said3 K):=by
 obtain ⟨fd,F⟩:=F_law_said T
 refine ⟨fd,?_,F.bindsN (fun _ _ _ _ _ _ us hl=>match us,hl with | [_],_=>rfl),F.kp⟩
 refine F.ok sc_law_said (fun vs H Q E h=>?_) (fun cdv A outer s H vs Q E hr h=>?_)
 ·obtain ⟨F,v,rfl,xF,C⟩:=h
  rfl
 ·obtain ⟨F,v,rfl,xF,C⟩:=h
  refine ⟨_,PSs.nox (pss_cons (ps_set (i:=1) sc_law_said.nd rfl (Or.inl rfl) pe_str) (pss_cons (FcX.ps_try_mix rfl rfl sc_law_said.nd takes_none5 (fun W pn xe tk pw=>(pss_one (ps_expr (FcX.pe_makeS (heldCode3 (P:=P) (base:=base) T) (mk_Code T) (hr.mono (by decide)) rfl (g_Code T) tk (pa_cons (pv 0) pa_nil))))) (.as (i:=2) rfl rfl ⟨rfl,by decide,.inl (g_InvalidCode T)⟩ (fun a oe cls d pn hz hf=>(pss_one (ps_set (i:=1) sc_law_said.nd rfl (Or.inl rfl) (pe_xf (FcX.XC.xf (x_InvalidCode T)) (xi_InvalidCode T).no hz hf (pv 2))))) (.cons ⟨rfl,by decide,.inl (g_CopyError T)⟩ (fun a oe cls d pn hz hf=>(pss_one (ps_set (i:=1) sc_law_said.nd rfl (Or.inl rfl) pe_str))) .nil))) (pss_one (ps_ret (pv 1))))),?_⟩
  rcases C with ⟨d,N,fin,dv,gs,bd,Qq⟩ | ⟨d,N,n,G,dv,hG,hGd,bd,Qq⟩
  ·refine ⟨_,rfl,_,.inl rfl,fun p dx np nd ne=>?_⟩
   generalize e1:upd (upd _ dx _) p _=H1
   obtain ⟨x1,hq1⟩:=make_of e1 np nd
   clear e1
   refine ⟨F,p,dx,v,d,GS,N,fin,rfl,hq1,xF.trans x1,ex_none xF np,dv,fun e he=>gs_parts he,gs,bd,fun A F2 H2 eA g2 C2=>⟨rfl,?_⟩⟩
   exact ⟨_,rfl,Qq H2 fun b o hb=>g2.kp b o (x1 _ _ hb) (fun z=>by rw [z,np] at hb;cases hb)⟩
  ·refine ⟨_,rfl,_,.inr rfl,fun p dx np nd ne=>?_⟩
   generalize e1:upd (upd _ dx _) p _=H1
   obtain ⟨x1,hq1⟩:=make_of e1 np nd
   clear e1
   refine ⟨F,p,dx,v,d,G,N,_,rfl,hq1,xF.trans x1,ex_none xF np,dv,hG,hGd,bd,fun H2 dd k2 nd2 hd2=>?_⟩
   have x2:Ex H H2:=fun b o hb=>k2 b o (x1 _ _ hb) (fun z=>by rw [z,np] at hb;cases hb)
   refine ⟨true,FcX.xh_own (xh T) (c:="InvalidCode") (d:="InvalidCode") (by decide) (by decide),fun _ a na=>?_,fun z=>by cases z⟩
   refine ⟨_,rfl,rfl,rfl,dd,_,_,rfl,hd2,rfl,?_⟩
   exact ⟨_,rfl,Qq H2 x2⟩
end
end
section
open FcM (Way Node Tab)
def rebD (d:PyData) (es:List PyData):PyData :=
 match d with
 | .tuple (.str k::r)=>if k="seq" then .tuple [.str k,.tuple es] else if k="if"∨k="while" then .tuple (.str k::r.take 1++es) else if es.isEmpty=true then .tuple (.str k::r) else .tuple (.str k::es)
 | d=>d
theorem reb_sv {l:Int} {d:PyData} (h:isStm d l=true) (hz:szD d) {es:List PyData} (he:es.length=(partsD d).length) (h4:es.length≤401) (hs:∀ x,PyData.str x∈es→x.length≤100000):isStm (rebD d es) l=true∧partsD (rebD d es)=es∧kindD (rebD d es)=kindD d∧szD (rebD d es):=by
 have sv:=sv_of h
 cases sv with
 | do_ x =>
  obtain rfl:es=[]:=List.length_eq_zero_iff.mp he
  exact ⟨h,rfl,rfl,hz⟩
 | call x =>
  obtain rfl:es=[]:=List.length_eq_zero_iff.mp he
  exact ⟨h,rfl,rfl,hz⟩
 | iff x a b =>
  have hn:nameOk x=true:=h
  match es,he with
  | [a',b'],_=>exact ⟨hn,rfl,rfl,fun k y r e=>hz k y [a,b] (by cases e;rfl)⟩
 | whl x a =>
  have hn:nameOk x=true:=h
  match es,he with
  | [a'],_=>exact ⟨hn,rfl,rfl,fun k y r e=>hz k y [a] (by cases e;rfl)⟩
 | seq p ps =>
  have e1:(partsD (.tuple [.str "seq",.tuple (p::ps)])).length=((p::ps).take 401).length:=rfl
  match es,he,h4 with
  | [],he,_=>rw [e1] at he;simp at he
  | e::es,he,h4=>exact ⟨rfl,List.take_of_length_le h4,rfl,fun k y r e=>by cases e⟩
 | brk n h1 h2 =>
  obtain rfl:es=[]:=List.length_eq_zero_iff.mp he
  exact ⟨h,rfl,rfl,hz⟩
 | cnt n h1 h2 =>
  obtain rfl:es=[]:=List.length_eq_zero_iff.mp he
  exact ⟨h,rfl,rfl,hz⟩
 | ret =>
  obtain rfl:es=[]:=List.length_eq_zero_iff.mp he
  exact ⟨h,rfl,rfl,hz⟩
 | rai =>
  obtain rfl:es=[]:=List.length_eq_zero_iff.mp he
  exact ⟨h,rfl,rfl,hz⟩
 | tr a b =>
  match es,he with
  | [a',b'],_=>exact ⟨rfl,rfl,rfl,fun k y r e=>hs y (by cases e;simp)⟩
 | fin a b =>
  match es,he with
  | [a',b'],_=>exact ⟨rfl,rfl,rfl,fun k y r e=>hs y (by cases e;simp)⟩
def bltF (fin:List Row) (bad:Nat→Option PyData):Nat→Nat→PyData
 | 0,_=>.none
 | k + 1,n=>match bad n with
  | some e=>e
  | none=>match fin[n]? with
   | none=>.none
   | some r=>rebD r.d (r.ch.map (bltF fin bad k))
def bltN (fin:List Row) (bad:Nat→Option PyData) (n:Nat):PyData:=bltF fin bad (fin.length - n) n
theorem bi_ch {fin:List Row} {ls:List Nat} (bi:BI [] fin ls) {n:Nat} {r:Row} (hr:fin[n]?=some r):∃ l,ls[n]?=some l∧∀ c∈r.ch,n<c∧∃ r':Row,fin[c]?=some r'∧r'.par=some n∧ls[c]?=some (l + wl r.d):=by
 have hl:n<ls.length:=by rw [bi.ll];exact (List.getElem?_eq_some_iff.mp hr).1
 exact ⟨_,List.getElem?_eq_getElem hl,bi.dn n r _ hr (List.getElem?_eq_getElem hl)⟩
theorem blt_fuel {fin:List Row} {ls:List Nat} (bi:BI [] fin ls) (bad:Nat→Option PyData):∀ (k k' n:Nat),fin.length - n≤k→fin.length - n≤k'→n<fin.length→bltF fin bad k n=bltF fin bad k' n
 | 0,_,n,h,_,hn=>by omega
 | _,0,n,_,h,hn=>by omega
 | k + 1,k' + 1,n,h,h',hn=>by
  unfold bltF
  cases bad n with
  | some e=>rfl
  | none =>
   have hr:fin[n]?=some fin[n]:=List.getElem?_eq_getElem hn
   rw [hr]
   dsimp only
   congr 1
   refine List.map_congr_left fun c hc=>?_
   obtain ⟨_,_,hh⟩:=bi_ch bi hr
   obtain ⟨h1,r',h2,_⟩:=hh c hc
   have hc':=(List.getElem?_eq_some_iff.mp h2).1
   exact blt_fuel bi bad k k' c (by omega) (by omega) hc'
theorem blt_bad {fin:List Row} {bad:Nat→Option PyData} {n:Nat} {e:PyData} (hn:n<fin.length) (h:bad n=some e):bltN fin bad n=e:=by
 unfold bltN
 obtain ⟨k,hk⟩:∃ k,fin.length - n=k + 1:=⟨fin.length - n - 1,by omega⟩
 rw [hk]
 unfold bltF
 rw [h]
theorem blt_go {fin:List Row} {ls:List Nat} (bi:BI [] fin ls) {bad:Nat→Option PyData} {n:Nat} {r:Row} (hr:fin[n]?=some r) (h:bad n=none):bltN fin bad n=rebD r.d (r.ch.map (bltN fin bad)):=by
 have hn:=(List.getElem?_eq_some_iff.mp hr).1
 unfold bltN
 obtain ⟨k,hk⟩:∃ k,fin.length - n=k + 1:=⟨fin.length - n - 1,by omega⟩
 rw [hk]
 conv=>lhs;unfold bltF
 rw [h,hr]
 dsimp only
 congr 1
 refine List.map_congr_left fun c hc=>?_
 obtain ⟨_,_,hh⟩:=bi_ch bi hr
 obtain ⟨h1,r',h2,_⟩:=hh c hc
 have hc':=(List.getElem?_eq_some_iff.mp h2).1
 exact blt_fuel bi bad k _ c (by omega) (Nat.le_refl _) hc'
theorem bi_parts {fin:List Row} {ls:List Nat} (bi:BI [] fin ls) {n:Nat} {r:Row} (hr:fin[n]?=some r):r.ch.map (fun c=>(fin[c]?.map Row.d).getD .none)=partsD r.d:=by
 have:=bi.pt n r hr
 simpa using this
theorem bi_part {fin:List Row} {ls:List Nat} (bi:BI [] fin ls) {n:Nat} {r:Row} (hr:fin[n]?=some r) {i c:Nat} (hc:r.ch[i]?=some c):∃ r':Row,fin[c]?=some r'∧(partsD r.d)[i]?=some r'.d:=by
 obtain ⟨_,_,hh⟩:=bi_ch bi hr
 obtain ⟨_,r',h2,_⟩:=hh c (List.mem_of_getElem? hc)
 refine ⟨r',h2,?_⟩
 rw [← bi_parts bi hr,List.getElem?_map,hc]
 show some ((fin[c]?.map Row.d).getD .none)=_
 rw [h2]<;>rfl
theorem builds_keep {m:Nat} {st:List WIt} {rows fin:List Row} (b:Builds m st rows fin):∀ {n:Nat} {r:Row},rows[n]?=some r→∃ r',fin[n]?=some r'∧r'.d=r.d∧r'.par=r.par:=by
 induction b with
 | done rows=>exact fun h=>⟨_,h,rfl,rfl⟩
 | @step m it st rows fin ok h ih =>
  intro n r hr
  have hn:=(List.getElem?_eq_some_iff.mp hr).1
  have ln:=addRow_len rows it.d it.par
  have h2:(addRow rows it.d it.par)[n]?=some ((addRow rows it.d it.par)[n]'(by omega)):=List.getElem?_eq_getElem (by omega)
  generalize (addRow rows it.d it.par)[n]'(by omega)=r2 at h2
  obtain ⟨r',e1,e2,e3⟩:=ih h2
  rcases addRow_get h2 with ⟨e,_⟩ | ⟨r0,e,d1,p1,_⟩
  ·omega
  ·rw [hr] at e
   cases e
   exact ⟨r',e1,e2.trans d1,e3.trans p1⟩
theorem builds_fin {m:Nat} {st:List WIt} {rows fin:List Row} (b:Builds m st rows fin):fin.length=rows.length + m:=by
 induction b with
 | done=>rfl
 | step ok h ih=>rw [ih,addRow_len];omega
theorem addRow_last (rows:List Row) (d:PyData) (par:Option Nat):∃ r,(addRow rows d par)[rows.length]?=some r∧r.d=d∧r.par=par:=by
 have h:rows.length<(addRow rows d par).length:=by rw [addRow_len];omega
 have e:=List.getElem?_eq_getElem h
 generalize (addRow rows d par)[rows.length]=r at e
 rcases addRow_get e with ⟨_,z⟩ | ⟨r0,z,_⟩
 ·rw [z] at e
  exact ⟨_,e,rfl,rfl⟩
 ·have:=(List.getElem?_eq_some_iff.mp z).1
  omega
theorem asc_sub03:∀ {xs ys:List Nat},xs.Pairwise (·<·)→ys.Pairwise (·<·)→(∀ x∈xs,x∈ys)→ys.length≤xs.length→xs=ys
 | [],ys,_,_,_,h=>(List.length_eq_zero_iff.mp (Nat.le_zero.mp h)).symm
 | x::xs,[],_,_,hm,_=>absurd (hm x List.mem_cons_self) (fun z=>nomatch z)
 | x::xs,y::ys,a,b,hm,hl=>by
  obtain ⟨a1,a2⟩:=List.pairwise_cons.mp a
  obtain ⟨b1,b2⟩:=List.pairwise_cons.mp b
  have hxs:∀ z∈xs,z∈ys:=fun z hz=>by
   rcases List.mem_cons.mp (hm z (List.mem_cons_of_mem _ hz)) with e | e
   ·subst e
    have h1:=a1 z hz
    rcases List.mem_cons.mp (hm x List.mem_cons_self) with e | e
    ·omega
    ·have:=b1 x e
     omega
   ·exact e
  have e:=asc_sub03 a2 b2 hxs (by simp at hl;omega)
  subst e
  rcases List.mem_cons.mp (hm x List.mem_cons_self) with e | e
  ·rw [e]
  ·exact absurd (a1 x e) (Nat.lt_irrefl _)
theorem nums_step {m:Nat} {it:WIt} {st:List WIt} {rows fin:List Row} {ls:List Nat} (ok:okIt it rows.length) (h:Builds m (newIts it rows.length++st) (addRow rows it.d it.par) fin) (bi:BI [] fin ls) {ns:List Nat} (n1:ns.length=(newIts it rows.length++st).length) (n2:ns.Pairwise (·<·)) (n5:∀ (i:Nat) (it':WIt) (n:Nat),(newIts it rows.length++st)[i]?=some it'→ns[i]?=some n→∃ r,fin[n]?=some r∧r.d=it'.d∧r.par=it'.par):∃ r,fin[rows.length]?=some r∧r.d=it.d∧r.ch=ns.take (newIts it rows.length).length:=by
 obtain ⟨r0,e1,e2,_⟩:=addRow_last rows it.d it.par
 obtain ⟨r,f1,f2,_⟩:=builds_keep h e1
 refine ⟨r,f1,f2.trans e2,?_⟩
 have lr:r.ch.length=(newIts it rows.length).length:=by
  have:=congrArg List.length (bi_parts bi f1)
  rw [List.length_map,f2,e2] at this
  rw [this,newIts_len]
 refine (asc_sub03 (List.Pairwise.sublist (List.take_sublist _ _) n2) (bi.as _ r f1) (fun x hx=>?_) ?_).symm
 ·obtain ⟨i,hi⟩:=List.getElem?_of_mem hx
  have li:i<(newIts it rows.length).length:=by
   have:=(List.getElem?_eq_some_iff.mp hi).1
   rw [List.length_take] at this
   omega
  have hi2:ns[i]?=some x:=by
   rw [List.getElem?_take] at hi
   rw [if_pos li] at hi
   exact hi
  have hit:(newIts it rows.length++st)[i]?=some (newIts it rows.length)[i]:=by
   rw [List.getElem?_append_left li]
   exact List.getElem?_eq_getElem li
  obtain ⟨rx,g1,_,g3⟩:=n5 i _ x hit hi2
  have par:((newIts it rows.length)[i]).par=some rows.length:=by
   have hm:=List.getElem_mem li
   generalize (newIts it rows.length)[i]=x at hm
   unfold newIts at hm
   obtain ⟨j,hj,e⟩:=List.mem_mapIdx.mp hm
   rw [← e]<;>rfl
  rw [par] at g3
  obtain ⟨_,rp,hp,hm⟩:=bi.up x rx rows.length g1 g3
  rw [f1] at hp
  cases hp
  exact hm
 ·have:(newIts it rows.length).length≤ns.length:=by rw [n1,List.length_append];omega
  rw [List.length_take,lr,Nat.min_eq_left this]
  exact Nat.le_refl _
theorem pre_snoc {xs ys:List Nat} {x:Nat} (h:xs <+: ys) (e:ys[xs.length]?=some x):xs++[x] <+: ys:=by
 obtain ⟨t,rfl⟩:=h
 rw [List.getElem?_append_right (Nat.le_refl _),Nat.sub_self] at e
 cases t with
 | nil=>simp at e
 | cons y t =>
  simp at e
  subst e
  exact ⟨t,by simp⟩
theorem step_ls {it:WIt} {st:List WIt} {rows fin:List Row} {lk ls:List Nat} (bk:BI (it::st) rows lk) (bi:BI [] fin ls) (hp:lk <+: ls) {r:Row} (hr:fin[rows.length]?=some r) (e2:r.par=it.par) (kp:∀ {n:Nat} {r:Row},rows[n]?=some r→∃ r',fin[n]?=some r'∧r'.d=r.d):ls[rows.length]?=some it.loops:=by
 obtain ⟨i1,i2⟩:=bk.it it List.mem_cons_self
 obtain ⟨t,rfl⟩:=hp
 cases ep:it.par with
 | none =>
  obtain ⟨rfl,l0,_⟩:=i1 ep
  obtain ⟨l,hl,_⟩:=bi_ch bi hr
  have:=bi.l0 l hl
  rw [l0,← this]
  exact hl
 | some p =>
  obtain ⟨rp,l,g1,g2,g3⟩:=i2 p ep
  rw [ep] at e2
  obtain ⟨_,rq,h1,h2⟩:=bi.up rows.length r p hr e2
  obtain ⟨r',k1,k2⟩:=kp g1
  rw [h1] at k1
  cases k1
  have gl:(lk++t)[p]?=some l:=by
   rw [List.getElem?_append_left (List.getElem?_eq_some_iff.mp g2).1]
   exact g2
  obtain ⟨_,r2,_,_,h5⟩:=bi.dn p rq l h1 gl rows.length h2
  rw [h5,g3,k2]
theorem reb_str {l:Int} {d:PyData} {es:List PyData} {x:Str} (sv:SV l d):rebD d es≠.str x:=fun en=>by
 cases sv<;>(simp only [rebD] at en;repeat' (split at en))<;>cases en
theorem fails_sim {fin:List Row} {ls:List Nat} (bi:BI [] fin ls) {bad:Nat→Option PyData} {a:Nat} {e:PyData} (hb:bad a=some e) (hm:∀ j,j<a→bad j=none) (hz:∀ n x,bad n=some (.str x)→x.length≤100000) (hs:∀ (n:Nat) (r:Row),fin[n]?=some r→szD r.d) (ha:a<fin.length) (he:∀ l:Nat,ls[a]?=some l→isStm e (l:Int)=false) (hl:fin.length≤400) {m:Nat} {st:List WIt} {rows:List Row} (b:Builds m st rows fin):∀ {lk:List Nat},BI st rows lk→lk <+: ls→∃ ns:List Nat,(ns.length=st.length∧ns.Pairwise (·<·)∧(∀ n∈ns,rows.length≤n)∧∀ (i:Nat) (it:WIt) (n:Nat),st[i]?=some it→ns[i]?=some n→∃ r,fin[n]?=some r∧r.d=it.d∧r.par=it.par)∧(∀ it st',st=it::st'→ns[0]?=some rows.length) ∧
  ∀ st':List WIt,st'.length=st.length→(∀ (i:Nat) (it it':WIt) (n:Nat),st[i]?=some it→st'[i]?=some it'→ns[i]?=some n→it'.par=it.par∧it'.deep=it.deep∧it'.loops=it.loops∧it'.blocks=it.blocks∧it'.d=bltN fin bad n)→rows.length≤a→FailsL st' rows.length ("InvalidCode","number",(a:Int)):=by
 induction b with
 | done rows=>exact fun _ _=>⟨[],⟨rfl,.nil,(fun n h=>nomatch h),fun i it n h=>by simp at h⟩,(fun it st' h=>by cases h),fun st' _ _ h=>by omega⟩
 | @step m it st rows fin ok h ih =>
  intro lk bk hp
  obtain ⟨r0,y1,y2,y3⟩:=addRow_last rows it.d it.par
  obtain ⟨r,f1,f2,f3⟩:=builds_keep h y1
  have ll:=step_ls bk bi hp f1 (f3.trans y3) (fun {n rr} hr=>by
   have hn:=(List.getElem?_eq_some_iff.mp hr).1
   have ln:=addRow_len rows it.d it.par
   have h2:(addRow rows it.d it.par)[n]?=some ((addRow rows it.d it.par)[n]'(by omega)):=List.getElem?_eq_getElem (by omega)
   generalize (addRow rows it.d it.par)[n]'(by omega)=r2 at h2
   obtain ⟨r',z1,z2,_⟩:=builds_keep h h2
   rcases addRow_get h2 with ⟨e,_⟩ | ⟨r0,e,d1,_⟩
   ·omega
   ·rw [hr] at e
    cases e
    exact ⟨r',z1,z2.trans d1⟩)
  have pl:(lk++[it.loops]) <+: ls:=pre_snoc hp (by rw [bk.ll];exact ll)
  obtain ⟨ns,⟨n1,n2,n3,n5⟩,_,sim⟩:=ih bi hs ha hl (bk.step ok) pl
  have ln:=addRow_len rows it.d it.par
  have lk':(newIts it rows.length).length≤ns.length:=by rw [n1,List.length_append];omega
  refine ⟨rows.length::ns.drop (newIts it rows.length).length,⟨?_,?_,?_,?_⟩,fun _ _ _=>rfl,?_⟩
  ·rw [List.length_cons,List.length_drop,n1,List.length_append,List.length_cons]
   omega
  ·refine List.pairwise_cons.mpr ⟨fun n hn=>?_,List.Pairwise.sublist (List.drop_sublist _ _) n2⟩
   have:=n3 n (List.mem_of_mem_drop hn)
   omega
  ·intro n hn
   rcases List.mem_cons.mp hn with rfl | hn
   ·exact Nat.le_refl _
   ·have:=n3 n (List.mem_of_mem_drop hn)
    omega
  ·intro i it' n hi hn
   cases i with
   | zero =>
    cases hi
    cases hn
    exact ⟨r,f1,f2.trans y2,f3.trans y3⟩
   | succ i =>
    refine n5 ((newIts it rows.length).length + i) it' n ?_ ?_
    ·rw [List.getElem?_append_right (by omega)]
     have:(newIts it rows.length).length + i - (newIts it rows.length).length=i:=by omega
     rw [this]
     simpa using hi
    ·have hn:(ns.drop (newIts it rows.length).length)[i]?=some n:=by simpa using hn
     rw [List.getElem?_drop] at hn
     exact hn
  ·intro st' hlen hst hra
   cases st' with
   | nil=>simp at hlen
   | cons it' st'' =>
   obtain ⟨p1,p2,p3,p4,p5⟩:=hst 0 it it' rows.length rfl rfl rfl
   obtain ⟨k1,k2,k3,k4⟩:=id ok
   have hrl:rows.length<fin.length:=(List.getElem?_eq_some_iff.mp f1).1
   by_cases era:rows.length=a
   ·subst era
    refine fail_now ?_
    unfold fault faultI
    have hd:it'.d=e:=by rw [p5];exact blt_bad hrl hb
    rw [hd,p3,he _ ll,if_neg (by omega),if_neg (by omega),if_neg (by omega),if_neg (by decide)]
   ·have hbn:=hm rows.length (by omega)
    obtain ⟨r2,g1,g2,g3⟩:=nums_step ok h bi n1 n2 n5
    have g4:it'.d=rebD it.d ((ns.take (newIts it rows.length).length).map (bltN fin bad)):=by
     rw [p5,blt_go bi g1 hbn,g2,g3]
    have lt:((ns.take (newIts it rows.length).length).map (bltN fin bad)).length=(partsD it.d).length:=by
     rw [List.length_map,List.length_take,Nat.min_eq_left lk',newIts_len]
    have lp:(partsD it.d).length≤400:=by
     have h1:=Builds.len h
     rw [List.length_append,newIts_len] at h1
     have h2:=builds_fin h
     omega
    have szI:szD it.d:=by have:=hs _ r2 g1;rwa [g2] at this
    have hstr:∀ x,PyData.str x∈(ns.take (newIts it rows.length).length).map (bltN fin bad)→x.length≤100000:=fun x hx=>by
     obtain ⟨n,hn,en⟩:=List.mem_map.mp hx
     obtain ⟨i,hi⟩:=List.getElem?_of_mem (List.mem_of_mem_take hn)
     have li:i<(newIts it rows.length++st).length:=by rw [← n1];exact (List.getElem?_eq_some_iff.mp hi).1
     obtain ⟨rn,q1,_⟩:=n5 i _ n (List.getElem?_eq_getElem li) hi
     have ln':=(List.getElem?_eq_some_iff.mp q1).1
     cases hbd:bad n with
     | some e' =>
      rw [blt_bad ln' hbd] at en
      exact hz n x (by rw [hbd,en])
     | none =>
      rw [blt_go bi q1 hbd] at en
      obtain ⟨l,hl',_⟩:=bi_ch bi q1
      have sv:=sv_of (bi.sm n rn l q1 hl')
      exact absurd en (reb_str sv)
    obtain ⟨z1,z2,z3,z4⟩:=reb_sv k4 szI lt (by omega) hstr
    have ok':okIt it' rows.length:=⟨k1,by omega,by omega,by rw [p3,g4];exact z1⟩
    have ln':(newIts it' rows.length).length=(newIts it rows.length).length:=by
     rw [newIts_len,newIts_len,g4,z2,lt]
    refine fail_step ok' ?_ ?_
    ·have h1:=Builds.len h
     rw [List.length_append] at h1 ⊢
     have h2:=builds_fin h
     simp at hlen
     omega
    ·have hs2:=sim (newIts it' rows.length++st'') (by rw [List.length_append,List.length_append,ln'];simp at hlen;omega) (fun i it2 it2' n hi hi' hn=>?_) (by omega)
     ·rw [ln] at hs2
      exact hs2
     ·by_cases li:i<(newIts it rows.length).length
      ·rw [List.getElem?_append_left li] at hi
       rw [List.getElem?_append_left (by omega)] at hi'
       have lpi:i<(partsD it.d).length:=by rw [← newIts_len it rows.length];exact li
       have hp1:(partsD it.d)[i]?=some (partsD it.d)[i]:=List.getElem?_eq_getElem lpi
       have q1:=newIts_get (n:=rows.length) hp1
       rw [hi] at q1
       cases q1
       have hn':(ns.take (newIts it rows.length).length)[i]?=some n:=by rw [List.getElem?_take,if_pos li];exact hn
       have hp2:(partsD it'.d)[i]?=some (bltN fin bad n):=by rw [g4,z2,List.getElem?_map,hn']<;>rfl
       have q2:=newIts_get (n:=rows.length) hp2
       rw [hi'] at q2
       cases q2
       have kd:kindD it'.d=kindD it.d:=by rw [g4,z3]
       refine ⟨rfl,?_,?_,?_,rfl⟩
       ·show it'.deep + 1=it.deep + 1
        omega
       ·show it'.loops + (if kindD it'.d="while" then 1 else 0)=it.loops + (if kindD it.d="while" then 1 else 0)
        rw [kd,p3]
       ·show it'.blocks + (if kindD it'.d="final"∧i=1 then 1 else 0)=it.blocks + (if kindD it.d="final"∧i=1 then 1 else 0)
        rw [kd,p4]
      ·rw [List.getElem?_append_right (by omega)] at hi
       rw [List.getElem?_append_right (by omega),ln'] at hi'
       refine hst (i - (newIts it rows.length).length + 1) it2 it2' n (by simpa using hi) (by simpa using hi') ?_
       rw [List.getElem?_cons_succ,List.getElem?_drop]
       have:(newIts it rows.length).length + (i - (newIts it rows.length).length)=i:=by omega
       rw [this]
       exact hn
theorem blt_fails {d:PyData} {N:Nat} {fin:List Row} {ls:List Nat} (b:Builds N [⟨d,none,1,0,0⟩] [] fin) (bi:BI [] fin ls) {bad:Nat→Option PyData} {a:Nat} {e:PyData} (hb:bad a=some e) (hm:∀ j,j<a→bad j=none) (hz:∀ n x,bad n=some (.str x)→x.length≤100000) (hs:∀ (n:Nat) (r:Row),fin[n]?=some r→szD r.d) (ha:a<fin.length) (he:∀ l:Nat,ls[a]?=some l→isStm e (l:Int)=false) (hl:fin.length≤400):∃ N',Fails N' [⟨bltN fin bad 0,none,1,0,0⟩] [] ("InvalidCode","number",(a:Int)):=by
 obtain ⟨ns,_,h0,sim⟩:=fails_sim bi hb hm hz hs ha he hl b (BI.start d) (List.nil_prefix)
 have h0:=h0 _ _ rfl
 refine sim [⟨bltN fin bad 0,none,1,0,0⟩] rfl (fun i it it' n hi hi' hn=>?_) (Nat.zero_le _) [] rfl
 cases i with
 | succ i=>simp at hi
 | zero =>
  cases hi
  cases hi'
  rw [h0] at hn
  cases hn
  exact ⟨rfl,rfl,rfl,rfl,rfl⟩
theorem blt_str {fin:List Row} {ls:List Nat} (bi:BI [] fin ls) {bad:Nat→Option PyData} (hz:∀ n x,bad n=some (.str x)→x.length≤100000) {n:Nat} (hn:n<fin.length) {x:Str} (e:bltN fin bad n=.str x):x.length≤100000:=by
 cases hbd:bad n with
 | some e' =>
  rw [blt_bad hn hbd] at e
  exact hz n x (by rw [hbd,e])
 | none =>
  have hr:fin[n]?=some fin[n]:=List.getElem?_eq_getElem hn
  rw [blt_go bi hr hbd] at e
  obtain ⟨l,hl',_⟩:=bi_ch bi hr
  exact absurd e (reb_str (sv_of (bi.sm n _ l hr hl')))
theorem sum_mono03 {f g:Nat→Nat}:∀ {n:Nat},(∀ i,i<n→f i≤g i)→((List.range n).map f).sum≤((List.range n).map g).sum
 | 0,_=>Nat.le_refl _
 | n + 1,h=>by
  rw [List.range_succ,List.map_append,List.map_append,List.sum_append,List.sum_append]
  have h1:=sum_mono03 (n:=n) fun i hi=>h i (by omega)
  have h2:=h n (by omega)
  simp
  omega
theorem ch_len {fin:List Row} {ls:List Nat} (bi:BI [] fin ls) {n:Nat} {r:Row} (hr:fin[n]?=some r):r.ch.length=(partsD r.d).length:=by
 have:=congrArg List.length (bi_parts bi hr)
 rwa [List.length_map] at this
theorem nodup_len03:∀ {l l':List Nat},l.Nodup→(∀ x∈l,x∈l')→l.length≤l'.length
 | [],_,_,_=>Nat.zero_le _
 | x::l,l',h,hs=>by
  obtain ⟨h1,h2⟩:=List.nodup_cons.mp h
  have hx:=hs x List.mem_cons_self
  have:=nodup_len03 (l:=l) (l':=l'.erase x) h2 fun y hy=>(List.mem_erase_of_ne (fun z:y=x=>h1 (by rw [← z];exact hy))).mpr (hs y (List.mem_cons_of_mem _ hy))
  rw [List.length_erase_of_mem hx] at this
  have:=List.length_pos_of_mem hx
  rw [List.length_cons]
  omega
theorem ch_few {fin:List Row} {ls:List Nat} (bi:BI [] fin ls) (hl:fin.length≤400) {n:Nat} {r:Row} (hr:fin[n]?=some r):r.ch.length≤400:=by
 have h:=nodup_len03 (l:=r.ch) (l':=List.range fin.length) ((bi.as n r hr).imp fun h=>Nat.ne_of_lt h) fun x hx=>by
  obtain ⟨_,_,hh⟩:=bi_ch bi hr
  obtain ⟨_,r',h2,_⟩:=hh x hx
  exact List.mem_range.mpr (List.getElem?_eq_some_iff.mp h2).1
 rw [List.length_range] at h
 omega
theorem blt_ok {fin:List Row} {ls:List Nat} (bi:BI [] fin ls) {bad:Nat→Option PyData} {a:Nat} {e:PyData} {la:Nat} (hb:bad a=some e) (ho:∀ j,j≠a→bad j=none) (hla:ls[a]?=some la) (hok:∀ dd b,dd≤100→b≤25→OkS la dd b 1 e) (hz:∀ n x,bad n=some (.str x)→x.length≤100000) (hs:∀ (n:Nat) (r:Row),fin[n]?=some r→szD r.d) (hl:fin.length≤400):∀ (k n:Nat) (r:Row) (l dd b w:Nat),fin.length - n≤k→fin[n]?=some r→ls[n]?=some l→OkS l dd b w r.d→∃ w',w'≤w∧OkS l dd b w' (bltN fin bad n)
 | 0,n,r,l,dd,b,w,hk,hr,_,_=>by have:=(List.getElem?_eq_some_iff.mp hr).1;omega
 | k + 1,n,r,l,dd,b,w,hk,hr,hll,ok=>by
  have hn:=(List.getElem?_eq_some_iff.mp hr).1
  cases ok with
  | mk wt st hd hbl ps =>
  by_cases ea:n=a
  ·subst ea
   rw [hla] at hll
   cases hll
   rw [blt_bad hn hb]
   exact ⟨1,by omega,hok dd b hd hbl⟩
  ·have hbn:=ho n ea
   have hc:=ch_len bi hr
   have hf:=ch_few bi hl hr
   have lt:(r.ch.map (bltN fin bad)).length=(partsD r.d).length:=by rw [List.length_map,hc]
   have clt:∀ c∈r.ch,c<fin.length:=fun c hcm=>by
    obtain ⟨_,_,hh⟩:=bi_ch bi hr
    obtain ⟨_,r',h2,_⟩:=hh c hcm
    exact (List.getElem?_eq_some_iff.mp h2).1
   obtain ⟨z1,z2,z3,_⟩:=reb_sv st (hs n r hr) lt (by rw [List.length_map];omega) fun x hx=>by
    obtain ⟨c,hcm,en⟩:=List.mem_map.mp hx
    exact blt_str bi hz (clt c hcm) en
   have hp:∀ i,∃ w',w'≤wt i∧∀ c,r.ch[i]?=some c→OkS (l + wl r.d) (dd + 1) (b + (if kindD r.d="final"∧i=1 then 1 else 0)) w' (bltN fin bad c):=fun i=>by
    cases hci:r.ch[i]? with
    | none=>exact ⟨0,Nat.zero_le _,fun c h=>by cases h⟩
    | some c =>
     obtain ⟨r',g1,g2⟩:=bi_part bi hr hci
     obtain ⟨h1,r2,h2,_,h4⟩:=bi.dn n r l hr hll c (List.mem_of_getElem? hci)
     obtain ⟨w',u1,u2⟩:=blt_ok bi hb ho hla hok hz hs hl k c r' _ _ _ _ (by omega) g1 h4 (ps i _ g2)
     exact ⟨w',u1,fun c' h=>by cases h;exact u2⟩
   refine ⟨1 + ((List.range (partsD (bltN fin bad n)).length).map fun i=>(hp i).choose).sum,?_,?_⟩
   ·rw [blt_go bi hr hbn,z2,lt]
    have:=sum_mono03 (f:=fun i=>(hp i).choose) (g:=wt) (n:=(partsD r.d).length) fun i _=>(hp i).choose_spec.1
    omega
   ·have e1:bltN fin bad n=rebD r.d (r.ch.map (bltN fin bad)):=blt_go bi hr hbn
    refine .mk _ (by rw [e1];exact z1) hd hbl fun i p hpi=>?_
    rw [e1,z2,List.getElem?_map] at hpi
    obtain ⟨c,hc1,rfl⟩:=Option.map_eq_some_iff.mp hpi
    have:=(hp i).choose_spec.2 c hc1
    have ew:wl (bltN fin bad n)=wl r.d:=by unfold wl;rw [e1,z3]
    have ek:kindD (bltN fin bad n)=kindD r.d:=by rw [e1,z3]
    rw [ew,ek]
    exact this
inductive GZ:PyData→Prop
 | mk {e:PyData} (sz:szD e) (ps:(∃ l,isStm e l=true)→∀ x∈partsD e,GZ x):GZ e
theorem gz_parts {e:PyData} (h:GZ e):szD e∧((∃ l,isStm e l=true)→∀ x∈partsD e,GZ x):=by
 cases h with
 | mk a b=>exact ⟨a,b⟩
theorem reb_can {l:Int} {d:PyData} (sv:SV l d) (h:PyData.canLay0 d=true) {es:List PyData} (he:∀ x∈es,PyData.canLay0 x=true):PyData.canLay0 (rebD d es)=true:=by
 have hes:=canAll he
 have ks:∀ {k:Str} {r:List PyData},PyData.canLay0 (.tuple (.str k::r))=true→PyData.canLay0 (.str k)=true∧PyData.canLayAll0 r=true:=fun {k r} h=>by
  have h:(PyData.canLay0 (.str k) && PyData.canLayAll0 r)=true:=h
  exact Bool.and_eq_true_iff.mp h
 have mk:∀ {k:Str} {r:List PyData},PyData.canLay0 (.str k)=true→PyData.canLayAll0 r=true→PyData.canLay0 (.tuple (.str k::r))=true:=fun {k r} h1 h2=>by
  show (PyData.canLay0 (.str k) && PyData.canLayAll0 r)=true
  rw [h1,h2]<;>rfl
 have cons:∀ {x:PyData} {r:List PyData},PyData.canLay0 x=true→PyData.canLayAll0 r=true→PyData.canLayAll0 (x::r)=true:=fun {x r} h1 h2=>by
  show (PyData.canLay0 x && PyData.canLayAll0 r)=true
  rw [h1,h2]<;>rfl
 have c1:∀ {x:PyData} {r:List PyData},PyData.canLayAll0 (x::r)=true→PyData.canLay0 x=true:=fun {x r} h=>by
  have h:(PyData.canLay0 x && PyData.canLayAll0 r)=true:=h
  exact (Bool.and_eq_true_iff.mp h).1
 have leaf:∀ {k:Str} {r:List PyData},k≠"seq"→¬ (k="if"∨k="while")→PyData.canLay0 (.tuple (.str k::r))=true→PyData.canLay0 (rebD (.tuple (.str k::r)) es)=true:=fun {k r} h1 h2 h=>by
  unfold rebD
  dsimp only
  rw [if_neg h1,if_neg h2]
  split
  ·exact h
  ·exact mk (ks h).1 hes
 cases sv with
 | do_ x=>exact leaf (by decide) (by decide) h
 | call x=>exact leaf (by decide) (by decide) h
 | iff x a b=>exact mk (ks h).1 (cons (c1 (ks h).2) hes)
 | whl x a=>exact mk (ks h).1 (cons (c1 (ks h).2) hes)
 | seq p ps=>exact mk (ks h).1 (cons (show PyData.canLay0 (.tuple es)=true from hes) rfl)
 | brk n h1 h2=>exact leaf (by decide) (by decide) h
 | cnt n h1 h2=>exact leaf (by decide) (by decide) h
 | ret=>exact leaf (by decide) (by decide) h
 | rai=>exact leaf (by decide) (by decide) h
 | tr a b=>exact leaf (by decide) (by decide) h
 | fin a b=>exact leaf (by decide) (by decide) h
theorem gz_blt {fin:List Row} {ls:List Nat} (bi:BI [] fin ls) {bad:Nat→Option PyData} (hb:∀ n e,bad n=some e→szD e∧((∃ l,isStm e l=true)→partsD e=[])) (hz:∀ n x,bad n=some (.str x)→x.length≤100000) (hs:∀ (n:Nat) (r:Row),fin[n]?=some r→szD r.d) (hl:fin.length≤400):∀ (k n:Nat),fin.length - n≤k→n<fin.length→GZ (bltN fin bad n)
 | 0,n,hk,hn=>by omega
 | k + 1,n,hk,hn=>by
  have hr:fin[n]?=some fin[n]:=List.getElem?_eq_getElem hn
  obtain ⟨l,hll,hh⟩:=bi_ch bi hr
  cases hbd:bad n with
  | some e =>
   rw [blt_bad hn hbd]
   obtain ⟨h1,h2⟩:=hb n e hbd
   exact .mk h1 fun h x hx=>by rw [h2 h] at hx;cases hx
  | none =>
   have clt:∀ c∈fin[n].ch,n<c∧c<fin.length:=fun c hcm=>by
    obtain ⟨h1,r',h2,_⟩:=hh c hcm
    exact ⟨h1,(List.getElem?_eq_some_iff.mp h2).1⟩
   have lt:(fin[n].ch.map (bltN fin bad)).length=(partsD fin[n].d).length:=by rw [List.length_map,ch_len bi hr]
   obtain ⟨z1,z2,z3,z4⟩:=reb_sv (bi.sm n _ l hr hll) (hs n _ hr) lt (by rw [List.length_map];have:=ch_few bi hl hr;omega) fun x hx=>by
    obtain ⟨c,hcm,en⟩:=List.mem_map.mp hx
    exact blt_str bi hz (clt c hcm).2 en
   rw [blt_go bi hr hbd]
   refine .mk z4 fun _ x hx=>?_
   rw [z2] at hx
   obtain ⟨c,hcm,rfl⟩:=List.mem_map.mp hx
   obtain ⟨c1,c2⟩:=clt c hcm
   exact gz_blt bi hb hz hs hl k c (by omega) c2
theorem gs_blt {fin:List Row} {ls:List Nat} (bi:BI [] fin ls) {bad:Nat→Option PyData} (hb:∀ n e,bad n=some e→GS e) (hz:∀ n x,bad n=some (.str x)→x.length≤100000) (hs:∀ (n:Nat) (r:Row),fin[n]?=some r→GS r.d) (hl:fin.length≤400):∀ (k n:Nat),fin.length - n≤k→n<fin.length→GS (bltN fin bad n)
 | 0,n,hk,hn=>by omega
 | k + 1,n,hk,hn=>by
  have hr:fin[n]?=some fin[n]:=List.getElem?_eq_getElem hn
  obtain ⟨l,hll,hh⟩:=bi_ch bi hr
  cases hbd:bad n with
  | some e =>
   rw [blt_bad hn hbd]
   exact hb n e hbd
  | none =>
   have clt:∀ c∈fin[n].ch,n<c∧c<fin.length:=fun c hcm=>by
    obtain ⟨h1,r',h2,_⟩:=hh c hcm
    exact ⟨h1,(List.getElem?_eq_some_iff.mp h2).1⟩
   have lt:(fin[n].ch.map (bltN fin bad)).length=(partsD fin[n].d).length:=by rw [List.length_map,ch_len bi hr]
   obtain ⟨g1,g2,_⟩:=gs_parts (hs n _ hr)
   obtain ⟨z1,z2,z3,z4⟩:=reb_sv (bi.sm n _ l hr hll) g2 lt (by rw [List.length_map];have:=ch_few bi hl hr;omega) fun x hx=>by
    obtain ⟨c,hcm,en⟩:=List.mem_map.mp hx
    exact blt_str bi hz (clt c hcm).2 en
   have gc:∀ x∈fin[n].ch.map (bltN fin bad),GS x:=fun x hx=>by
    obtain ⟨c,hcm,rfl⟩:=List.mem_map.mp hx
    obtain ⟨c1,c2⟩:=clt c hcm
    exact gs_blt bi hb hz hs hl k c (by omega) c2
   rw [blt_go bi hr hbd]
   refine .mk (reb_can (sv_of (bi.sm n _ l hr hll)) g1 fun x hx=>(gs_parts (gc x hx)).1) z4 (fun x hx=>?_) fun x e=>absurd e (reb_str (sv_of (bi.sm n _ l hr hll)))
   rw [z2] at hx
   exact gc x hx
end
section
open FcM (Way Node Tab)
theorem in_strs {k:Str} {l:List Str} {b:Bool} (h:decide (k∈l)=b):inV (.str k) (l.map V.str)=b:=by rw [inV_strs];exact h
end
section
inductive SD:Nat→Nat→PyData→Prop
 | mk {deep loops:Nat} {d:PyData} (st:isStm d (loops:Int)=true) (cl:PyData.canLay0 d=true) (sz:szD d) (l3:(partsD d).length≤3) (ps:∀ p∈partsD d,SD deep (loops + wl d) p):SD (deep + 1) loops d
def sp_one (K:PySem.W.Frag):Sp:=fun vs H Q _=>∃ (p a:Addr) (ks:List Str),vs=[.ref p,.ref a]∧Src H p∧H a=some (.lst (ks.map V.str))∧a≠p∧ks≠[]∧ks.length<1000 ∧
 ∀ (H':Hp) (k:Str),k∈ks→Src H' p→(∀ b,b≠p→H' b=H b)→Q (.str k) H'
def sp_leaf (K:PySem.W.Frag):Sp:=fun vs H Q _=>∃ (F:Hp) (p:Addr) (loops:Nat),vs=[.ref p,.int (loops:Int)]∧Ex F H∧F p=none∧Src H p∧loops<1000 ∧
 ∀ (F' H':Hp) (v:V) (d:PyData),Gr (fun b=>b=p) F H F' H'→F' p=none→Src H' p→Dp K F' v d→SD 1 loops d→Q v H'
theorem sd_leaf {loops:Nat} {d:PyData} (st:isStm d (loops:Int)=true) (cl:PyData.canLay0 d=true) (sz:szD d) (e:partsD d=[]):SD 1 loops d :=
 .mk (deep:=0) st cl sz (by rw [e];exact Nat.zero_le _) (fun p hp=>by rw [e] at hp;cases hp)
def lNames:List Str:=["a","b","abcdefgh","z","x","w","i"]
theorem nm_ok:∀ x∈lNames,nameOk x=true∧PyData.canLay0 (.str x)=true∧x.length≤100000:=by decide +kernel
theorem nm_four:∀ x∈(["a","b","abcdefgh","z"]:List Str),x∈lNames:=by decide +kernel
theorem sd_do {loops:Nat} {x:Str} (hx:x∈lNames):SD 1 loops (.tuple [.str "do",.str x]):=by
 obtain ⟨h1,h2,h3⟩:=nm_ok x hx
 refine sd_leaf (show nameOk x=true from h1) ?_ (fun k y r e=>by cases e;exact h3) rfl
 show (PyData.canLay0 (.str "do") && (PyData.canLay0 (.str x) && true))=true
 rw [h2]
 kernel_rfl
theorem sd_call {loops:Nat} {x:Str} (hx:x∈lNames):SD 1 loops (.tuple [.str "call",.str x]):=by
 obtain ⟨h1,h2,h3⟩:=nm_ok x hx
 refine sd_leaf (show nameOk x=true from h1) ?_ (fun k y r e=>by cases e;exact h3) rfl
 show (PyData.canLay0 (.str "call") && (PyData.canLay0 (.str x) && true))=true
 rw [h2]
 kernel_rfl
theorem sd_ret {loops:Nat}:SD 1 loops (.tuple [.str "return"]):=sd_leaf rfl (by kernel_rfl) (fun k y r e=>by cases e) rfl
theorem sd_rai {loops:Nat}:SD 1 loops (.tuple [.str "raise"]):=sd_leaf rfl (by kernel_rfl) (fun k y r e=>by cases e) rfl
theorem sd_brk {loops:Nat} {n:Int} (h1:1≤n) (h2:n≤loops):SD 1 loops (.tuple [.str "break",.int n]):=by
 refine sd_leaf ?_ (by kernel_rfl) (fun k y r e=>by cases e) rfl
 show (decide (1≤n) && decide (n≤(loops:Int)))=true
 rw [decide_eq_true h1,decide_eq_true h2]<;>rfl
theorem sd_cnt {loops:Nat} {n:Int} (h1:1≤n) (h2:n≤loops):SD 1 loops (.tuple [.str "continue",.int n]):=by
 refine sd_leaf ?_ (by kernel_rfl) (fun k y r e=>by cases e) rfl
 show (decide (1≤n) && decide (n≤(loops:Int)))=true
 rw [decide_eq_true h1,decide_eq_true h2]<;>rfl
section
variable {P:Program} {w:World} {h:Heap} {K:PySem.W.Frag} {mg:Str→Option Value} {base:Heap}
abbrev N_law_one:List Str:=["_law_source","_law_some"]
theorem sc_law_one:FnScope N_law_one ["_law_source","_law_some"] (defScope sd_law_one):=⟨rfl,rfl,rfl,by decide +kernel,rfl,by decide +kernel,by decide +kernel⟩
theorem ok_law_one (T:Tx w h K mg):Ok P w K mg base 2 ("_law_one",none) ["_law_source","_law_some"] (sp_one K):=by
 obtain ⟨fd,F⟩:=F_law_one T
 refine ⟨fd,?_,F.bindsN (fun _ _ _ _ _ _ us hl=>match us,hl with | [_,_],_=>rfl),F.kp⟩
 obtain ⟨fd_law_draw,G_law_draw,bi_law_draw,kp_law_draw⟩:=ok_law_draw (P:=P) (base:=base) T
 refine F.ok sc_law_one (fun vs H Q E h=>?_) (fun cdv A outer s H vs Q E hr h=>?_)
 ·obtain ⟨p,a,ks,rfl,⟨x,y,z,hp⟩,ha,hne,hk,hl,q⟩:=h
  rfl
 ·obtain ⟨p,a,ks,rfl,⟨x,y,z,hp⟩,ha,hne,hk,hl,q⟩:=h
  refine ⟨_,PSs.nox (pss_one (ps_ret (pe_ix ix_list (pv 1) (pe_call G_law_draw (hr.mono (by decide)) rfl (g_law_draw T) kp_law_draw bi_law_draw .nil passF (pa_cons (pv 0) (pa_cons (pe_callB call_len_seq rfl (fr_len T) b_len (pa_cons (pv 1) pa_nil)) pa_nil))) (fun _ _=>rfl)))),?_⟩
  have lk:0<ks.length:=List.length_pos_iff.mpr hk
  refine ⟨_,rfl,_,rfl,_,rfl,a,_,rfl,.inl (Evl.sq_of ha),?_⟩
  refine ⟨p,x,y,z,_,rfl,hp,(by rw [List.length_map];omega),(by rw [List.length_map];omega),fun x' y' z' v v0 v1=>?_⟩
  rw [List.length_map] at v1
  generalize e1:upd _ p _=H1
  obtain ⟨s1,o1⟩:=set_of e1
  clear e1
  obtain ⟨j,rfl⟩:∃ j:Nat,v=(j:Int):=⟨v.toNat,by omega⟩
  have hj:j<ks.length:=by omega
  have ha1:H1 a=some (.lst (ks.map V.str)):=by rw [o1 a hne];exact ha
  refine ⟨a,_,_,.str ks[j],rfl,rfl,Evl.sq_of ha1,atI_nat (by rw [List.getElem?_map,List.getElem?_eq_getElem hj]<;>rfl),?_⟩
  exact q H1 _ (List.getElem_mem hj) ⟨x',y',z',s1⟩ o1
abbrev N_law_leaf:List Str:=["_law_source","_law_loops_here","_law_kind"]
theorem sc_law_leaf:FnScope N_law_leaf ["_law_source","_law_loops_here"] (defScope sd_law_leaf):=⟨rfl,rfl,rfl,by decide +kernel,rfl,by decide +kernel,by decide +kernel⟩
theorem ok_law_leaf (T:Tx w h K mg):Ok P w K mg base 3 ("_law_leaf",none) ["_law_source","_law_loops_here"] (sp_leaf K):=by
 obtain ⟨fd,F⟩:=F_law_leaf T
 refine ⟨fd,?_,F.bindsN (fun _ _ _ _ _ _ us hl=>match us,hl with | [_,_],_=>rfl),F.kp⟩
 obtain ⟨fd_law_draw,G_law_draw,bi_law_draw,kp_law_draw⟩:=ok_law_draw (P:=P) (base:=base) T
 obtain ⟨fd_law_one,G_law_one,bi_law_one,kp_law_one⟩:=ok_law_one (P:=P) (base:=base) T
 refine F.ok sc_law_leaf (fun vs H Q E h=>?_) (fun cdv A outer s H vs Q E hr h=>?_)
 ·obtain ⟨F,p,loops,rfl,xF,fp,hp,hlp,q⟩:=h
  rfl
 ·obtain ⟨F,p,loops,rfl,xF,fp,hp,hlp,q⟩:=h
  refine ⟨_,PSs.nox (pss_cons (ps_set (i:=2) sc_law_leaf.nd rfl (Or.inl rfl) (pe_call G_law_one (hr.mono (by decide)) rfl (g_law_one T) kp_law_one bi_law_one .nil passF (pa_cons (pv 0) (pa_cons (pe_lst (pa_cons pe_str (pa_cons pe_str (pa_cons pe_str (pa_cons pe_str (pa_cons pe_str (pa_cons pe_str (pa_cons pe_str (pa_cons pe_str (pa_cons pe_str pa_nil)))))))))) pa_nil)))) (pss_cons (ps_if (pt_cmpR op_in_seq (pv 2) (pe_tup (pa_cons pe_str (pa_cons pe_str pa_nil))) (by rfl)) (pss_one (ps_ret (pe_ifExp (pt_cmpR op_gt (pv 1) pe_int (nomark _)) (pe_tup (pa_cons (pv 2) (pa_cons (pe_op op_add pe_int (pe_call G_law_draw (hr.mono (by decide)) rfl (g_law_draw T) kp_law_draw bi_law_draw .nil passF (pa_cons (pv 0) (pa_cons (pv 1) pa_nil)))) pa_nil))) (pe_tup (pa_cons pe_str (pa_cons pe_str pa_nil)))))) pss_nil) (pss_cons (ps_if (pt_cmpR op_in_seq (pv 2) (pe_tup (pa_cons pe_str (pa_cons pe_str pa_nil))) (by rfl)) (pss_one (ps_ret (pe_tup (pa_cons (pv 2) pa_nil)))) pss_nil) (pss_one (ps_ret (pe_tup (pa_cons (pv 2) (pa_cons (pe_call G_law_one (hr.mono (by decide)) rfl (g_law_one T) kp_law_one bi_law_one .nil passF (pa_cons (pv 0) (pa_cons (pe_lst (pa_cons pe_str (pa_cons pe_str (pa_cons pe_str (pa_cons pe_str pa_nil))))) pa_nil))) pa_nil)))))))),?_⟩
  refine ⟨_,rfl,sz (by simp),?_⟩
  intro p1 n1
  generalize e1:upd _ p1 _=H1
  obtain ⟨x1,s1,o1⟩:=new_of e1 n1
  clear e1
  obtain ⟨x,y,z,hp0⟩:=hp
  refine ⟨p,p1,["do","do","call","call","return","raise","break","continue","break"],rfl,⟨x,y,z,x1 _ _ hp0⟩,s1,(fun e=>by rw [e,hp0] at n1;cases n1),(by simp),(by simp),fun H2 k hk hp2 o2=>?_⟩
  have g2:Gr (fun b=>b=p) F H F H2:=(Gr.new xF x1).trans (Gr.set (xF.trans x1) rfl fp o2)
  refine ⟨_,rfl,sz (by simp),?_⟩
  intro p3 n3
  generalize e3:upd _ p3 _=H3
  obtain ⟨x3,s3,o3⟩:=new_of e3 n3
  clear e3
  refine ⟨p3,_,rfl,.inr (Evl.st_of s3),rfl,flat_strs ["break","continue"],_,rfl,?_⟩
  have g3:Gr (fun b=>b=p) F H F H3:=g2.trans (Gr.new g2.fh x3)
  obtain ⟨a1,a2,a3,hp2⟩:=hp2
  have hp3:=x3 _ _ hp2
  have fin:∀ {Hx H5:Hp} {q5:Addr} {xs:List V} {ds:List PyData},Gr (fun b=>b=p) F H F Hx→Hx q5=none→H5 q5=some (.tup xs)→(∀ b,b≠q5→H5 b=Hx b)→Src Hx p→DpAll K (upd F q5 (.tup xs)) xs ds→SD 1 loops (.tuple ds)→Q (.ref q5) H5:=fun {Hx H5 q5 xs ds} g n5 s5 o5 sp da sd=>by
   have pq:p≠q5:=fun z=>by
    obtain ⟨b1,b2,b3,hb⟩:=sp
    rw [z,n5] at hb
    cases hb
   refine q (upd F q5 (.tup xs)) H5 _ _ (g.trans (Gr.frz g.fh n5 s5 o5)) (by rw [upd_ne pq];exact fp) ?_ (.tup (Evl.st_of upd_same) da) sd
   obtain ⟨b1,b2,b3,hb⟩:=sp
   exact ⟨b1,b2,b3,by rw [o5 p pq];exact hb⟩
  simp only [List.mem_cons,List.not_mem_nil,or_false] at hk
  rcases hk with rfl | rfl | rfl | rfl | rfl | rfl | rfl | rfl | rfl
  ·refine itF (in_strs (l:=["break","continue"]) (by decide +kernel)) ?_
   refine ⟨_,rfl,sz (by simp),?_⟩
   intro p4 n4
   generalize e4:upd _ p4 _=H4
   obtain ⟨x4,s4,o4⟩:=new_of e4 n4
   clear e4
   have g4:Gr (fun b=>b=p) F H F H4:=g3.trans (Gr.new g3.fh x4)
   refine ⟨p4,_,rfl,.inr (Evl.st_of s4),rfl,flat_strs ["return","raise"],_,rfl,?_⟩
   refine itF (in_strs (l:=["return","raise"]) (by decide +kernel)) ?_
   refine ⟨_,rfl,_,rfl,sz (by simp),?_⟩
   intro p6 n6
   generalize e6:upd _ p6 _=H6
   obtain ⟨x6,s6,o6⟩:=new_of e6 n6
   clear e6
   refine ⟨p,p6,["a","b","abcdefgh","z"],rfl,⟨_,_,_,x6 _ _ (x4 _ _ hp3)⟩,s6,(fun e=>by rw [e,x4 _ _ hp3] at n6;cases n6),(by simp),(by simp),fun H7 nm hnm hp7 o7=>?_⟩
   refine ⟨sz (by simp),?_⟩
   intro p8 n8
   generalize e8:upd _ p8 _=H8
   obtain ⟨x8,s8,o8⟩:=new_of e8 n8
   clear e8
   have g6:=g4.trans (Gr.new g4.fh x6)
   have g7:Gr (fun b=>b=p) F H F H7:=g6.trans (Gr.set g6.fh rfl fp o7)
   exact fin g7 n8 s8 o8 hp7 (.cons (.str _) (.cons (.str _) .nil)) (sd_do (nm_four _ hnm))
  ·refine itF (in_strs (l:=["break","continue"]) (by decide +kernel)) ?_
   refine ⟨_,rfl,sz (by simp),?_⟩
   intro p4 n4
   generalize e4:upd _ p4 _=H4
   obtain ⟨x4,s4,o4⟩:=new_of e4 n4
   clear e4
   have g4:Gr (fun b=>b=p) F H F H4:=g3.trans (Gr.new g3.fh x4)
   refine ⟨p4,_,rfl,.inr (Evl.st_of s4),rfl,flat_strs ["return","raise"],_,rfl,?_⟩
   refine itF (in_strs (l:=["return","raise"]) (by decide +kernel)) ?_
   refine ⟨_,rfl,_,rfl,sz (by simp),?_⟩
   intro p6 n6
   generalize e6:upd _ p6 _=H6
   obtain ⟨x6,s6,o6⟩:=new_of e6 n6
   clear e6
   refine ⟨p,p6,["a","b","abcdefgh","z"],rfl,⟨_,_,_,x6 _ _ (x4 _ _ hp3)⟩,s6,(fun e=>by rw [e,x4 _ _ hp3] at n6;cases n6),(by simp),(by simp),fun H7 nm hnm hp7 o7=>?_⟩
   refine ⟨sz (by simp),?_⟩
   intro p8 n8
   generalize e8:upd _ p8 _=H8
   obtain ⟨x8,s8,o8⟩:=new_of e8 n8
   clear e8
   have g6:=g4.trans (Gr.new g4.fh x6)
   have g7:Gr (fun b=>b=p) F H F H7:=g6.trans (Gr.set g6.fh rfl fp o7)
   exact fin g7 n8 s8 o8 hp7 (.cons (.str _) (.cons (.str _) .nil)) (sd_do (nm_four _ hnm))
  ·refine itF (in_strs (l:=["break","continue"]) (by decide +kernel)) ?_
   refine ⟨_,rfl,sz (by simp),?_⟩
   intro p4 n4
   generalize e4:upd _ p4 _=H4
   obtain ⟨x4,s4,o4⟩:=new_of e4 n4
   clear e4
   have g4:Gr (fun b=>b=p) F H F H4:=g3.trans (Gr.new g3.fh x4)
   refine ⟨p4,_,rfl,.inr (Evl.st_of s4),rfl,flat_strs ["return","raise"],_,rfl,?_⟩
   refine itF (in_strs (l:=["return","raise"]) (by decide +kernel)) ?_
   refine ⟨_,rfl,_,rfl,sz (by simp),?_⟩
   intro p6 n6
   generalize e6:upd _ p6 _=H6
   obtain ⟨x6,s6,o6⟩:=new_of e6 n6
   clear e6
   refine ⟨p,p6,["a","b","abcdefgh","z"],rfl,⟨_,_,_,x6 _ _ (x4 _ _ hp3)⟩,s6,(fun e=>by rw [e,x4 _ _ hp3] at n6;cases n6),(by simp),(by simp),fun H7 nm hnm hp7 o7=>?_⟩
   refine ⟨sz (by simp),?_⟩
   intro p8 n8
   generalize e8:upd _ p8 _=H8
   obtain ⟨x8,s8,o8⟩:=new_of e8 n8
   clear e8
   have g6:=g4.trans (Gr.new g4.fh x6)
   have g7:Gr (fun b=>b=p) F H F H7:=g6.trans (Gr.set g6.fh rfl fp o7)
   exact fin g7 n8 s8 o8 hp7 (.cons (.str _) (.cons (.str _) .nil)) (sd_call (nm_four _ hnm))
  ·refine itF (in_strs (l:=["break","continue"]) (by decide +kernel)) ?_
   refine ⟨_,rfl,sz (by simp),?_⟩
   intro p4 n4
   generalize e4:upd _ p4 _=H4
   obtain ⟨x4,s4,o4⟩:=new_of e4 n4
   clear e4
   have g4:Gr (fun b=>b=p) F H F H4:=g3.trans (Gr.new g3.fh x4)
   refine ⟨p4,_,rfl,.inr (Evl.st_of s4),rfl,flat_strs ["return","raise"],_,rfl,?_⟩
   refine itF (in_strs (l:=["return","raise"]) (by decide +kernel)) ?_
   refine ⟨_,rfl,_,rfl,sz (by simp),?_⟩
   intro p6 n6
   generalize e6:upd _ p6 _=H6
   obtain ⟨x6,s6,o6⟩:=new_of e6 n6
   clear e6
   refine ⟨p,p6,["a","b","abcdefgh","z"],rfl,⟨_,_,_,x6 _ _ (x4 _ _ hp3)⟩,s6,(fun e=>by rw [e,x4 _ _ hp3] at n6;cases n6),(by simp),(by simp),fun H7 nm hnm hp7 o7=>?_⟩
   refine ⟨sz (by simp),?_⟩
   intro p8 n8
   generalize e8:upd _ p8 _=H8
   obtain ⟨x8,s8,o8⟩:=new_of e8 n8
   clear e8
   have g6:=g4.trans (Gr.new g4.fh x6)
   have g7:Gr (fun b=>b=p) F H F H7:=g6.trans (Gr.set g6.fh rfl fp o7)
   exact fin g7 n8 s8 o8 hp7 (.cons (.str _) (.cons (.str _) .nil)) (sd_call (nm_four _ hnm))
  ·refine itF (in_strs (l:=["break","continue"]) (by decide +kernel)) ?_
   refine ⟨_,rfl,sz (by simp),?_⟩
   intro p4 n4
   generalize e4:upd _ p4 _=H4
   obtain ⟨x4,s4,o4⟩:=new_of e4 n4
   clear e4
   have g4:Gr (fun b=>b=p) F H F H4:=g3.trans (Gr.new g3.fh x4)
   refine ⟨p4,_,rfl,.inr (Evl.st_of s4),rfl,flat_strs ["return","raise"],_,rfl,?_⟩
   refine itT (in_strs (l:=["return","raise"]) (by decide +kernel)) ?_
   refine ⟨_,rfl,sz (by simp),?_⟩
   intro p5 n5
   generalize e5:upd _ p5 _=H5
   obtain ⟨x5,s5,o5⟩:=new_of e5 n5
   clear e5
   exact fin g4 n5 s5 o5 ⟨_,_,_,x4 _ _ hp3⟩ (.cons (.str _) .nil) sd_ret
  ·refine itF (in_strs (l:=["break","continue"]) (by decide +kernel)) ?_
   refine ⟨_,rfl,sz (by simp),?_⟩
   intro p4 n4
   generalize e4:upd _ p4 _=H4
   obtain ⟨x4,s4,o4⟩:=new_of e4 n4
   clear e4
   have g4:Gr (fun b=>b=p) F H F H4:=g3.trans (Gr.new g3.fh x4)
   refine ⟨p4,_,rfl,.inr (Evl.st_of s4),rfl,flat_strs ["return","raise"],_,rfl,?_⟩
   refine itT (in_strs (l:=["return","raise"]) (by decide +kernel)) ?_
   refine ⟨_,rfl,sz (by simp),?_⟩
   intro p5 n5
   generalize e5:upd _ p5 _=H5
   obtain ⟨x5,s5,o5⟩:=new_of e5 n5
   clear e5
   exact fin g4 n5 s5 o5 ⟨_,_,_,x4 _ _ hp3⟩ (.cons (.str _) .nil) sd_rai
  ·refine itT (in_strs (l:=["break","continue"]) (by decide +kernel)) ?_
   refine ⟨_,rfl,_,_,rfl,rfl,_,rfl,ite_of (fun h0=>?_) (fun h0=>?_)⟩
   ·have hl0:0<loops:=by
     have:=of_decide_eq_true h0
     omega
    refine ⟨_,rfl,_,rfl,_,rfl,p,a1,a2,a3,_,rfl,hp3,(by omega),(by omega),fun x' y' z' v v0 v1=>?_⟩
    generalize e4:upd _ p _=H4
    obtain ⟨s4,o4⟩:=set_of e4
    clear e4
    refine ⟨_,_,rfl,rfl,sz (by simp),?_⟩
    intro p5 n5
    generalize e5:upd _ p5 _=H5
    obtain ⟨x5,s5,o5⟩:=new_of e5 n5
    clear e5
    have g4:Gr (fun b=>b=p) F H F H4:=g3.trans (Gr.set g3.fh rfl fp o4)
    exact fin g4 n5 s5 o5 ⟨_,_,_,s4⟩ (.cons (.str _) (.cons (.int _) .nil)) (sd_brk (by omega) (by omega))
   ·refine ⟨sz (by simp),?_⟩
    intro p5 n5
    generalize e5:upd _ p5 _=H5
    obtain ⟨x5,s5,o5⟩:=new_of e5 n5
    clear e5
    exact fin g3 n5 s5 o5 ⟨_,_,_,hp3⟩ (.cons (.str _) (.cons (.str _) .nil)) (sd_do (by decide))
  ·refine itT (in_strs (l:=["break","continue"]) (by decide +kernel)) ?_
   refine ⟨_,rfl,_,_,rfl,rfl,_,rfl,ite_of (fun h0=>?_) (fun h0=>?_)⟩
   ·have hl0:0<loops:=by
     have:=of_decide_eq_true h0
     omega
    refine ⟨_,rfl,_,rfl,_,rfl,p,a1,a2,a3,_,rfl,hp3,(by omega),(by omega),fun x' y' z' v v0 v1=>?_⟩
    generalize e4:upd _ p _=H4
    obtain ⟨s4,o4⟩:=set_of e4
    clear e4
    refine ⟨_,_,rfl,rfl,sz (by simp),?_⟩
    intro p5 n5
    generalize e5:upd _ p5 _=H5
    obtain ⟨x5,s5,o5⟩:=new_of e5 n5
    clear e5
    have g4:Gr (fun b=>b=p) F H F H4:=g3.trans (Gr.set g3.fh rfl fp o4)
    exact fin g4 n5 s5 o5 ⟨_,_,_,s4⟩ (.cons (.str _) (.cons (.int _) .nil)) (sd_cnt (by omega) (by omega))
   ·refine ⟨sz (by simp),?_⟩
    intro p5 n5
    generalize e5:upd _ p5 _=H5
    obtain ⟨x5,s5,o5⟩:=new_of e5 n5
    clear e5
    exact fin g3 n5 s5 o5 ⟨_,_,_,hp3⟩ (.cons (.str _) (.cons (.str _) .nil)) (sd_do (by decide))
  ·refine itT (in_strs (l:=["break","continue"]) (by decide +kernel)) ?_
   refine ⟨_,rfl,_,_,rfl,rfl,_,rfl,ite_of (fun h0=>?_) (fun h0=>?_)⟩
   ·have hl0:0<loops:=by
     have:=of_decide_eq_true h0
     omega
    refine ⟨_,rfl,_,rfl,_,rfl,p,a1,a2,a3,_,rfl,hp3,(by omega),(by omega),fun x' y' z' v v0 v1=>?_⟩
    generalize e4:upd _ p _=H4
    obtain ⟨s4,o4⟩:=set_of e4
    clear e4
    refine ⟨_,_,rfl,rfl,sz (by simp),?_⟩
    intro p5 n5
    generalize e5:upd _ p5 _=H5
    obtain ⟨x5,s5,o5⟩:=new_of e5 n5
    clear e5
    have g4:Gr (fun b=>b=p) F H F H4:=g3.trans (Gr.set g3.fh rfl fp o4)
    exact fin g4 n5 s5 o5 ⟨_,_,_,s4⟩ (.cons (.str _) (.cons (.int _) .nil)) (sd_brk (by omega) (by omega))
   ·refine ⟨sz (by simp),?_⟩
    intro p5 n5
    generalize e5:upd _ p5 _=H5
    obtain ⟨x5,s5,o5⟩:=new_of e5 n5
    clear e5
    exact fin g3 n5 s5 o5 ⟨_,_,_,hp3⟩ (.cons (.str _) (.cons (.str _) .nil)) (sd_do (by decide))
end
end
section
theorem SD.mono {a b l:Nat} {d:PyData} (h:SD a l d) (e:a≤b):SD b l d:=by
 induction h generalizing b with
 | mk st cl sz l3 ps ih =>
  obtain ⟨b',rfl⟩:∃ b',b=b' + 1:=⟨b - 1,by omega⟩
  exact .mk st cl sz l3 fun p hp=>ih p hp (by omega)
theorem SD.can {a l:Nat} {d:PyData} (h:SD a l d):PyData.canLay0 d=true:=by
 cases h with
 | mk _ cl _ _ _=>exact cl
theorem sd_if {m l:Nat} {a b:PyData} (ha:SD m l a) (hb:SD m l b):SD (m + 1) l (.tuple [.str "if",.str "i",a,b]):=by
 refine .mk (show nameOk "i"=true by decide +kernel) ?_ (fun k x r e=>by cases e;decide +kernel) (show 2≤3 by decide) fun p hp=>?_
 ·show (PyData.canLay0 (.str "if") && (PyData.canLay0 (.str "i") && (PyData.canLay0 a && (PyData.canLay0 b && true))))=true
  rw [ha.can,hb.can]
  kernel_rfl
 ·have hp:p∈[a,b]:=hp
  rcases List.mem_cons.mp hp with rfl | hp
  ·exact ha
  ·rw [List.mem_singleton.mp hp];exact hb
theorem sd_two {m l:Nat} {k:Str} {a b:PyData} (hk:k="try"∨k="final") (ha:SD m l a) (hb:SD m l b):SD (m + 1) l (.tuple [.str k,a,b]):=by
 rcases hk with rfl | rfl
 ·refine .mk rfl ?_ (fun k x r e=>?_) (show 2≤3 by decide) fun p hp=>?_
  ·show (PyData.canLay0 (.str "try") && (PyData.canLay0 a && (PyData.canLay0 b && true)))=true
   rw [ha.can,hb.can]
   kernel_rfl
  ·cases e
   cases ha with
   | mk st=>cases st
  ·have hp:p∈[a,b]:=hp
   rcases List.mem_cons.mp hp with rfl | hp
   ·exact ha
   ·rw [List.mem_singleton.mp hp];exact hb
 ·refine .mk rfl ?_ (fun k x r e=>?_) (show 2≤3 by decide) fun p hp=>?_
  ·show (PyData.canLay0 (.str "final") && (PyData.canLay0 a && (PyData.canLay0 b && true)))=true
   rw [ha.can,hb.can]
   kernel_rfl
  ·cases e
   cases ha with
   | mk st=>cases st
  ·have hp:p∈[a,b]:=hp
   rcases List.mem_cons.mp hp with rfl | hp
   ·exact ha
   ·rw [List.mem_singleton.mp hp];exact hb
theorem sd_whl {m l:Nat} {x:Str} {a:PyData} (hx:x∈lNames) (ha:SD m (l + 1) a):SD (m + 1) l (.tuple [.str "while",.str x,a]):=by
 obtain ⟨h1,h2,h3⟩:=nm_ok x hx
 refine .mk (show nameOk x=true from h1) ?_ (fun k y r e=>by cases e;exact h3) (show 1≤3 by decide) fun p hp=>?_
 ·show (PyData.canLay0 (.str "while") && (PyData.canLay0 (.str x) && (PyData.canLay0 a && true)))=true
  rw [ha.can,h2]
  kernel_rfl
 ·have hp:p∈[a]:=hp
  rw [List.mem_singleton.mp hp]
  exact ha
theorem lay_all {l:List PyData} (h:∀ d∈l,PyData.canLay0 d=true):PyData.canLayAll0 l=true:=canAll h
theorem sd_seq {m l:Nat} {ds:List PyData} (hn:ds≠[]) (h3:ds.length≤3) (h:∀ d∈ds,SD m l d):SD (m + 1) l (.tuple [.str "seq",.tuple ds]):=by
 have hp:partsD (.tuple [.str "seq",.tuple ds])=ds:=List.take_of_length_le (by omega)
 refine .mk ?_ ?_ (fun k x r e=>by cases e) (by rw [hp];exact h3) fun p hq=>?_
 ·cases ds with
  | nil=>exact absurd rfl hn
  | cons a b=>rfl
 ·show (PyData.canLay0 (.str "seq") && (PyData.canLayAll0 ds && true))=true
  rw [lay_all fun d hd=>(h d hd).can]
  kernel_rfl
 ·rw [hp] at hq
  exact h p hq
def sp_stm (K:PySem.W.Frag) (n:Nat):Sp:=fun vs H Q _=>∃ (F:Hp) (p:Addr) (deep loops:Nat),vs=[.ref p,.int (deep:Int),.int (loops:Int)]∧deep≤n∧Ex F H∧F p=none∧Src H p∧loops + deep<900 ∧
 ∀ (F' H':Hp) (v:V) (d:PyData),Gr (fun b=>b=p) F H F' H'→F' p=none→Src H' p→Dp K F' v d→SD (max 1 deep) loops d→Q v H'
section
variable {P:Program} {w:World} {h:Heap} {K:PySem.W.Frag} {mg:Str→Option Value} {base:Heap}
theorem st_pre (n:Nat) (IH:∀ m,m<n→Ok P w K mg base (m + 5) ("_law_statement",none) ["_law_source","_law_deep","_law_loops_here"] (sp_stm K m)) (T:Tx w h K mg) :
  Ok P w K mg base (n + 4) ("_law_statement",none) ["_law_source","_law_deep","_law_loops_here"] (fun vs H Q E=>∃ m,m<n∧sp_stm K m vs H Q E):=by
 cases n with
 | zero =>
  obtain ⟨fd,F⟩:=F_law_statement T
  refine ⟨fd,⟨fun vs H Q E h=>?_,fun A outer s H args us vs Q E _ _ _ _ h=>?_⟩,F.bindsN (fun _ _ _ _ _ _ us hl=>match us,hl with | [_,_,_],_=>rfl),F.kp⟩
  ·obtain ⟨m,h,_⟩:=h
   exact absurd h (Nat.not_lt_zero _)
  ·obtain ⟨m,h,_⟩:=h
   exact absurd h (Nat.not_lt_zero _)
 | succ n =>
  obtain ⟨fd,G,b,kp⟩:=IH n (Nat.lt_succ_self _)
  refine ⟨fd,G.imp fun vs H Q E h=>?_,b,kp⟩
  obtain ⟨m,hm,F,p,deep,loops,e,hd,r⟩:=h
  exact ⟨F,p,deep,loops,e,by omega,r⟩
abbrev N_law_statement:List Str:=["_law_source","_law_deep","_law_loops_here","_law_kind","_law_one_here","_law_other","_law_k"]
theorem sc_law_statement:FnScope N_law_statement ["_law_source","_law_deep","_law_loops_here"] (defScope sd_law_statement):=⟨rfl,rfl,rfl,by decide +kernel,rfl,by decide +kernel,by decide +kernel⟩
theorem ok_law_statement (n:Nat) (IH:∀ m,m<n→Ok P w K mg base (m + 5) ("_law_statement",none) ["_law_source","_law_deep","_law_loops_here"] (sp_stm K m)) (T:Tx w h K mg):Ok P w K mg base (n+5) ("_law_statement",none) ["_law_source","_law_deep","_law_loops_here"] (sp_stm K n):=by
 obtain ⟨fd,F⟩:=F_law_statement T
 refine ⟨fd,?_,F.bindsN (fun _ _ _ _ _ _ us hl=>match us,hl with | [_,_,_],_=>rfl),F.kp⟩
 obtain ⟨fd_law_draw,G_law_draw,bi_law_draw,kp_law_draw⟩:=ok_law_draw (P:=P) (base:=base) T
 obtain ⟨fd_law_leaf,G_law_leaf,bi_law_leaf,kp_law_leaf⟩:=ok_law_leaf (P:=P) (base:=base) T
 obtain ⟨fd_law_one,G_law_one,bi_law_one,kp_law_one⟩:=ok_law_one (P:=P) (base:=base) T
 obtain ⟨fd_law_statement,G_law_statement,bi_law_statement,kp_law_statement⟩:Ok P w K mg base (n + 4) ("_law_statement",none) ["_law_source","_law_deep","_law_loops_here"] (fun vs H Q E=>∃ m,m<n∧sp_stm K m vs H Q E):=st_pre n IH T
 refine F.ok sc_law_statement (fun vs H Q E h=>?_) (fun cdv A outer s H vs Q E hr h=>?_)
 ·obtain ⟨F,p,deep,loops,rfl,hn,xF,fp,hp,hlp,q⟩:=h
  rfl
 ·obtain ⟨F,p,deep,loops,rfl,hn,xF,fp,hp,hlp,q⟩:=h
  refine ⟨_,PSs.nox (pss_cons (ps_if (PW.pt (pw_or (pt_cmpR op_lt (pv 1) pe_int (nomark _)) (pw_or1 (pt_cmpR op_eq (pe_call G_law_draw (hr.mono (by omega)) rfl (g_law_draw T) kp_law_draw bi_law_draw .nil passF (pa_cons (pv 0) (pa_cons pe_int pa_nil))) pe_int (nomark _))))) (pss_one (ps_ret (pe_call G_law_leaf (hr.mono (by omega)) rfl (g_law_leaf T) kp_law_leaf bi_law_leaf .nil passF (pa_cons (pv 0) (pa_cons (pv 2) pa_nil))))) pss_nil) (pss_cons (ps_set (i:=3) sc_law_statement.nd rfl (Or.inl rfl) (pe_call G_law_one (hr.mono (by omega)) rfl (g_law_one T) kp_law_one bi_law_one .nil passF (pa_cons (pv 0) (pa_cons (pe_lst (pa_cons pe_str (pa_cons pe_str (pa_cons pe_str (pa_cons pe_str (pa_cons pe_str (pa_cons pe_str (pa_cons pe_str (pa_cons pe_str pa_nil))))))))) pa_nil)))) (pss_cons (ps_if (pt_cmpR op_eq (pv 3) pe_str (nomark _)) (pss_one (ps_ret (pe_tup (pa_cons (pv 3) (pa_cons (pe_callTy call_tuple_of rfl (fr_tuple T) b_tuple (pa_cons (pe_lc (own:=[("_law_k",6)]) rfl sc_law_statement.nd (pi_range1 rfl (fr_range T) (pa_cons (pe_op op_add pe_int (pe_call G_law_draw (hr.mono (by omega)) rfl (g_law_draw T) kp_law_draw bi_law_draw .nil passF (pa_cons (pv 0) (pa_cons pe_int pa_nil)))) pa_nil)) (blkOk_by (N:=N_law_statement) (sc:=defScope sd_law_statement) (by decide +kernel)) (fun _ _ _ _ _=>(pg_name (i:=6) sc_law_statement.nd rfl (Or.inl rfl))) (fun _ _ _ _ _=>pts_nil) (fun _ _ _ _ _=>(pe_call G_law_statement (hr.mono (by omega)) rfl (g_law_statement T) kp_law_statement bi_law_statement .nil passF (pa_cons (pv 0) (pa_cons (pe_op op_sub (pv 1) pe_int) (pa_cons (pv 2) pa_nil)))))) pa_nil)) pa_nil))))) pss_nil) (pss_cons (ps_if (pt_cmpR op_eq (pv 3) pe_str (nomark _)) (pss_one (ps_ret (pe_tup (pa_cons (pv 3) (pa_cons (pe_call G_law_one (hr.mono (by omega)) rfl (g_law_one T) kp_law_one bi_law_one .nil passF (pa_cons (pv 0) (pa_cons (pe_lst (pa_cons pe_str (pa_cons pe_str pa_nil))) pa_nil))) (pa_cons (pe_call G_law_statement (hr.mono (by omega)) rfl (g_law_statement T) kp_law_statement bi_law_statement .nil passF (pa_cons (pv 0) (pa_cons (pe_op op_sub (pv 1) pe_int) (pa_cons (pe_op op_add (pv 2) pe_int) pa_nil)))) pa_nil)))))) pss_nil) (pss_cons (ps_par rfl sc_law_statement.nd (i:=4) (j:=5) rfl rfl (by decide) rfl rfl (pa_cons (pe_call G_law_statement (hr.mono (by omega)) rfl (g_law_statement T) kp_law_statement bi_law_statement .nil passF (pa_cons (pv 0) (pa_cons (pe_op op_sub (pv 1) pe_int) (pa_cons (pv 2) pa_nil)))) (pa_cons (pe_call G_law_statement (hr.mono (by omega)) rfl (g_law_statement T) kp_law_statement bi_law_statement .nil passF (pa_cons (pv 0) (pa_cons (pe_op op_sub (pv 1) pe_int) (pa_cons (pv 2) pa_nil)))) pa_nil)) (by rfl)) (pss_one (ps_ret (pe_ifExp (pt_cmpR op_eq (pv 3) pe_str (nomark _)) (pe_tup (pa_cons (pv 3) (pa_cons pe_str (pa_cons (pv 4) (pa_cons (pv 5) pa_nil))))) (pe_tup (pa_cons (pv 3) (pa_cons (pv 4) (pa_cons (pv 5) pa_nil)))))))))))),?_⟩
  have leafQ:∀ {H1:Hp},Gr (fun b=>b=p) F H F H1→Src H1 p→sp_leaf K [.ref p,.int (loops:Int)] H1 Q (fun _ _ _=>False):=fun {H1} g hp1=>⟨F,p,loops,rfl,g.fh,fp,hp1,by omega,fun F' H' v d g' f' s' dv sd=>q F' H' v d (g.trans g') f' s' dv (sd.mono (by omega))⟩
  refine ⟨_,rfl,_,_,rfl,rfl,_,rfl,ite_of (fun h1=>?_) (fun h1=>?_)⟩
  ·exact ⟨_,rfl,_,rfl,leafQ (Gr.refl xF) hp⟩
  have hd2:2≤deep:=by
   have:=of_decide_eq_false h1
   omega
  obtain ⟨x,y,z,hp0⟩:=hp
  refine ⟨_,rfl,p,x,y,z,7,rfl,hp0,by decide,by decide,fun x' y' z' v v0 v1=>?_⟩
  generalize e1:upd _ p _=H1
  obtain ⟨s1,o1⟩:=set_of e1
  clear e1
  have g1:Gr (fun b=>b=p) F H F H1:=Gr.set xF rfl fp o1
  refine ⟨rfl,_,rfl,ite_of (fun h2=>?_) (fun h2=>?_)⟩
  ·exact ⟨_,rfl,_,rfl,leafQ g1 ⟨_,_,_,s1⟩⟩
  refine ⟨_,rfl,sz (by simp),?_⟩
  intro p2 n2
  generalize e2:upd _ p2 _=H2
  obtain ⟨x2,s2,o2⟩:=new_of e2 n2
  clear e2
  refine ⟨p,p2,["if","while","seq","seq","try","final","final","final"],rfl,⟨_,_,_,x2 _ _ s1⟩,s2,(fun e=>by rw [e,s1] at n2;cases n2),(by simp),(by simp),fun H3 k hk hp3 o3=>?_⟩
  have g2:=g1.trans (Gr.new g1.fh x2)
  have g3:Gr (fun b=>b=p) F H F H3:=g2.trans (Gr.set g2.fh rfl fp o3)
  have fin:∀ {F4 H4 H5:Hp} {q5:Addr} {xs:List V} {ds:List PyData},Gr (fun b=>b=p) F H F4 H4→F4 p=none→H4 q5=none→H5 q5=some (.tup xs)→(∀ b,b≠q5→H5 b=H4 b)→Src H4 p→DpAll K F4 xs ds→SD deep loops (.tuple ds)→Q (.ref q5) H5:=fun {F4 H4 H5 q5 xs ds} g f4 n5 s5 o5 sp da sd=>by
   have pq:p≠q5:=fun z=>by
    obtain ⟨b1,b2,b3,hb⟩:=sp
    rw [z,n5] at hb
    cases hb
   refine q (upd F4 q5 (.tup xs)) H5 _ _ (g.trans (Gr.frz g.fh n5 s5 o5)) (by rw [upd_ne pq];exact f4) ?_ (.tup (Evl.st_of upd_same) (dpA_ex (exu (Evl.Ex.refl _) (ex_none g.fh n5)) da)) (sd.mono (by omega))
   obtain ⟨b1,b2,b3,hb⟩:=sp
   exact ⟨b1,b2,b3,by rw [o5 p pq];exact hb⟩
  have hdi:((deep:Int) - 1)=((deep - 1:Nat):Int):=by omega
  have hmx:max 1 (deep - 1)=deep - 1:=by omega
  have rec_:∀ {F4 H4:Hp} {lp:Nat} {li:Int} {Q':VK},li=(lp:Int)→Gr (fun b=>b=p) F H F4 H4→F4 p=none→Src H4 p→lp + deep≤900→(∀ (F' H':Hp) (v:V) (d:PyData),Gr (fun b=>b=p) F4 H4 F' H'→F' p=none→Src H' p→Dp K F' v d→SD (deep - 1) lp d→Q' v H') →
    (∃ m,m<n∧sp_stm K m [.ref p,.int ((deep:Int) - 1),.int li] H4 Q' (fun _ _ _=>False)):=fun {F4 H4 lp li Q'} el g f4 s4 hl hq=>by
   rw [hdi,el]
   exact ⟨deep - 1,by omega,F4,p,deep - 1,lp,rfl,Nat.le_refl _,g.fh,f4,s4,by omega,fun F' H' v d g' f' s' dv sd=>hq F' H' v d g' f' s' dv (by rw [hmx] at sd;exact sd)⟩
  simp only [List.mem_cons,List.not_mem_nil,or_false] at hk
  by_cases hks:k="seq"
  ·subst hks
   refine ⟨_,rfl,rfl,_,rfl,itT rfl ?_⟩
   obtain ⟨b1,b2,b3,hb⟩:=hp3
   refine ⟨_,rfl,_,rfl,p,b1,b2,b3,3,rfl,hb,by decide,by decide,fun x' y' z' c c0 c1=>?_⟩
   generalize e4:upd _ p _=H4
   obtain ⟨s4,o4⟩:=set_of e4
   clear e4
   have g4:Gr (fun b=>b=p) F H F H4:=g3.trans (Gr.set g3.fh rfl fp o4)
   refine ⟨_,_,rfl,rfl,_,rfl,(by omega),(by omega),fun D nD=>?_⟩
   obtain ⟨cn,hcn⟩:∃ cn:Nat,((1:Int) + c).toNat=cn:=⟨_,rfl⟩
   rw [hcn]
   have nDH:H D=none:=by
    cases e8:H D with
    | none=>rfl
    | some o =>
     by_cases hDp:D=p
     ·rw [hDp,s4] at nD;cases nD
     ·rw [g4.kp D o e8 hDp] at nD;cases nD
   have hDp:D≠p:=fun e=>by rw [e,s4] at nD;cases nD
   refine lc_it (walk_range (lo:=0) (n:=cn)) (fun i H'=>∃ (F5:Hp) (vs:List V) (ds:List PyData),Gr (fun b=>b=p) F H F5 H'∧F5 p=none∧Src H' p∧F5 D=none∧H' D=some (.lst vs)∧DpAll K F5 vs ds∧vs.length=i∧∀ d∈ds,SD (deep - 1) loops d) ?_ ?_ ?_ ?_
   ·refine ⟨F,[],[],g4.trans (Gr.new g4.fh (exu (Evl.Ex.refl _) nD)),fp,⟨x',y',z',by rw [upd_ne hDp.symm];exact s4⟩,ex_none g4.fh nD,upd_same,.nil,rfl,fun d hd=>by cases hd⟩
   ·exact fun _ _ _ _=>True.intro
   ·rintro i v Ja Jb hi ⟨F5,vs,ds,g5,f5,s5,fD,lD,da,hv,hsd⟩ ⟨rfl,rfl⟩
    refine ⟨rfl,_,rfl,_,rfl,_,_,rfl,rfl,_,rfl,rec_ rfl g5 f5 s5 (by omega) fun F6 H6 va d6 g6 f6 s6 dva sda=>?_⟩
    have l6:=g6.kp D _ lD hDp
    have fD6:F6 D=none:=g6.nw D (by rw [lD];exact fun z=>nomatch z) fD hDp
    have g56:=g5.trans g6
    refine ⟨vs,l6,szl (by omega),F6,vs++[va],ds++[d6],⟨g56.ff,exm g56.fh fD6,g56.nw,fun b o e hb=>by rw [upd_ne (ne_of_none e nDH)];exact g56.kp b o e hb⟩,f6,?_,fD6,upd_same,dpA_app (dpA_ex g6.ff da) (.cons dva .nil),by rw [List.length_append,hv]<;>rfl,fun d hd=>?_⟩
    ·obtain ⟨a1,a2,a3,ha⟩:=s6
     exact ⟨a1,a2,a3,by rw [upd_ne hDp.symm];exact ha⟩
    ·rcases List.mem_append.mp hd with hd | hd
     ·exact hsd d hd
     ·rw [List.mem_singleton.mp hd];exact sda
   rintro H5 ⟨F5,vs,ds,g5,f5,s5,fD,lD,da,hv,hsd⟩
   refine ⟨D,vs,rfl,.inl ⟨Evl.sq_of lD,?_⟩⟩
   intro p8 n8
   generalize e8:upd _ p8 _=H8
   obtain ⟨x8,s8,o8⟩:=new_of e8 n8
   clear e8
   refine ⟨sz (by simp),?_⟩
   intro p9 n9
   generalize e9:upd _ p9 _=H9
   obtain ⟨x9,s9,o9⟩:=new_of e9 n9
   clear e9
   have hdl:ds.length=cn:=by rw [← hv,dpA_len da]
   have p8p:p≠p8:=fun e=>by obtain ⟨a1,a2,a3,ha⟩:=s5;rw [← e,ha] at n8;cases n8
   have g8:=g5.trans (Gr.frz g5.fh n8 s8 o8)
   obtain ⟨dm,rfl⟩:∃ dm,deep=dm + 1:=⟨deep - 1,by omega⟩
   refine fin (ds:=[.str "seq",.tuple ds]) g8 (by rw [upd_ne p8p];exact f5) n9 s9 o9 (by obtain ⟨a1,a2,a3,ha⟩:=s5;exact ⟨a1,a2,a3,x8 _ _ ha⟩) (.cons (.str _) (.cons (.tup (Evl.st_of upd_same) (dpA_ex (exu (Evl.Ex.refl _) (ex_none g5.fh n8)) da)) .nil)) (sd_seq (fun e=>by rw [e] at hdl;simp at hdl;omega) (by omega) hsd)
  refine ⟨_,rfl,rfl,_,rfl,itF (decide_eq_false fun z=>hks (V.str.inj z)) ?_⟩
  by_cases hkw:k="while"
  ·subst hkw
   refine ⟨_,rfl,rfl,_,rfl,itT rfl ?_⟩
   refine ⟨_,rfl,_,rfl,sz (by simp),?_⟩
   intro p4 n4
   generalize e4:upd _ p4 _=H4
   obtain ⟨x4,s4,o4⟩:=new_of e4 n4
   clear e4
   refine ⟨p,p4,["a","w"],rfl,(by obtain ⟨b1,b2,b3,hb⟩:=hp3;exact ⟨b1,b2,b3,x4 _ _ hb⟩),s4,(fun e=>by obtain ⟨b1,b2,b3,hb⟩:=hp3;rw [e,hb] at n4;cases n4),(by simp),(by simp),fun H5 nm hnm hp5 o5=>?_⟩
   have g4:=g3.trans (Gr.new g3.fh x4)
   have g5:Gr (fun b=>b=p) F H F H5:=g4.trans (Gr.set g4.fh rfl fp o5)
   have hli:(loops:Int) + 1=((loops + 1:Nat):Int):=by omega
   obtain ⟨dm,rfl⟩:∃ dm,deep=dm + 1:=⟨deep - 1,by omega⟩
   refine ⟨_,rfl,_,rfl,_,_,rfl,rfl,_,rfl,_,_,rfl,rfl,?_⟩
   refine rec_ hli g5 fp hp5 (by omega) fun F6 H6 va da g6 f6 s6 dva sda=>?_
   refine ⟨sz (by simp),?_⟩
   intro p7 n7
   generalize e7:upd _ p7 _=H7
   obtain ⟨x7,s7,o7⟩:=new_of e7 n7
   clear e7
   exact fin (g5.trans g6) f6 n7 s7 o7 s6 (.cons (.str _) (.cons (.str _) (.cons dva .nil))) (sd_whl (by simp [lNames] at hnm ⊢;rcases hnm with h | h<;>simp [h]) sda)
  refine ⟨_,rfl,rfl,_,rfl,itF (decide_eq_false fun z=>hkw (V.str.inj z)) ?_⟩
  obtain ⟨dm,rfl⟩:∃ dm,deep=dm + 1:=⟨deep - 1,by omega⟩
  refine ⟨_,rfl,_,rfl,_,_,rfl,rfl,_,rfl,rec_ rfl g3 fp hp3 (by omega) fun F4 H4 va da g4 f4 s4 dva sda=>?_⟩
  refine ⟨_,rfl,_,rfl,_,_,rfl,rfl,_,rfl,rec_ rfl (g3.trans g4) f4 s4 (by omega) fun F5 H5 vb db g5 f5 s5 dvb sdb=>⟨_,_,rfl,?_⟩⟩
  have g345:=(g3.trans g4).trans g5
  have dva5:=dp_ex g5.ff dva
  refine ⟨_,rfl,rfl,_,rfl,ite_of (fun h6=>?_) (fun h6=>?_)⟩
  ·obtain rfl:k="if":=V.str.inj (of_decide_eq_true h6)
   refine ⟨_,rfl,_,rfl,_,rfl,sz (by simp),?_⟩
   intro p7 n7
   generalize e7:upd _ p7 _=H7
   obtain ⟨x7,s7,o7⟩:=new_of e7 n7
   clear e7
   exact fin g345 f5 n7 s7 o7 s5 (.cons (.str _) (.cons (.str _) (.cons dva5 (.cons dvb .nil)))) (sd_if sda sdb)
  ·have hki:k≠"if":=fun z=>of_decide_eq_false h6 (by rw [z])
   refine ⟨_,rfl,_,rfl,_,rfl,sz (by simp),?_⟩
   intro p7 n7
   generalize e7:upd _ p7 _=H7
   obtain ⟨x7,s7,o7⟩:=new_of e7 n7
   clear e7
   exact fin g345 f5 n7 s7 o7 s5 (.cons (.str _) (.cons dva5 (.cons dvb .nil))) (sd_two (by
    rcases hk with z | z | z | z | z | z | z | z
    ·exact absurd z hki
    ·exact absurd z hkw
    ·exact absurd z hks
    ·exact absurd z hks
    ·exact .inl z
    ·exact .inr z
    ·exact .inr z
    ·exact .inr z) sda sdb)
theorem ok_stm (T:Tx w h K mg) (n:Nat):Ok P w K mg base (n + 5) ("_law_statement",none) ["_law_source","_law_deep","_law_loops_here"] (sp_stm K n):=by
 induction n using Nat.strongRecOn with
 | ind n ih=>exact ok_law_statement n ih T
end
end
section
def sp_lparts (K:PySem.W.Frag):Sp:=fun vs H Q _=>∃ (F:Hp) (v:V) (d:PyData) (l:Int),vs=[v]∧Ex F H∧Dp K F v d∧SV l d∧(partsD d).length≤400∧∀ (p:Addr) (ys:List V) (H':Hp),H p=none→Ex H H'→H' p=some (.lst ys)→DpAll K F ys (partsD d)→Q (.ref p) H'
section
variable {P:Program} {w:World} {h:Heap} {K:PySem.W.Frag} {mg:Str→Option Value} {base:Heap}
abbrev N_law_parts:List Str:=["_law_value"]
theorem sc_law_parts:FnScope N_law_parts ["_law_value"] (defScope sd_law_parts):=⟨rfl,rfl,rfl,by decide +kernel,rfl,by decide +kernel,by decide +kernel⟩
theorem ok_law_parts (T:Tx w h K mg):Ok P w K mg base 1 ("_law_parts",none) ["_law_value"] (sp_lparts K):=by
 obtain ⟨fd,F⟩:=F_law_parts T
 refine ⟨fd,?_,F.bindsN (fun _ _ _ _ _ _ us hl=>match us,hl with | [_],_=>rfl),F.kp⟩
 refine F.ok sc_law_parts (fun vs H Q E h=>?_) (fun cdv A outer s H vs Q E hr h=>?_)
 ·obtain ⟨F0,v,d,l,rfl,xF,hd,sv,h4,q⟩:=h
  rfl
 ·obtain ⟨F0,v,d,l,rfl,xF,hd,sv,h4,q⟩:=h
  refine ⟨_,PSs.nox (pss_cons (ps_if (pt_cmpR op_eq (pe_ix ix_tup (pv 0) pe_int (fun _ _=>rfl)) pe_str (nomark _)) (pss_one (ps_ret (pe_callTy call_list_of rfl (fr_list T) b_list (pa_cons (pe_ix ix_tup (pv 0) pe_int (fun _ _=>rfl)) pa_nil)))) pss_nil) (pss_cons (ps_if (pt_cmpR op_in_seq (pe_ix ix_tup (pv 0) pe_int (fun _ _=>rfl)) (pe_tup (pa_cons pe_str (pa_cons pe_str pa_nil))) (by rfl)) (pss_one (ps_ret (pe_callTy call_list_of rfl (fr_list T) b_list (pa_cons (pe_slice sl_tupA (pv 0) (po_some pe_int) po_none) pa_nil)))) pss_nil) (pss_one (ps_ret (pe_ifExp (pt_cmpR op_in_seq (pe_ix ix_tup (pv 0) pe_int (fun _ _=>rfl)) (pe_tup (pa_cons pe_str (pa_cons pe_str pa_nil))) (by rfl)) (pe_callTy call_list_of rfl (fr_list T) b_list (pa_cons (pe_slice sl_tupA (pv 0) (po_some pe_int) po_none) pa_nil)) (pe_lst pa_nil)))))),?_⟩
  obtain ⟨k,r,rfl⟩:∃ k r,d=.tuple (.str k::r):=by cases sv<;>exact ⟨_,_,rfl⟩
  obtain ⟨a,xs,rfl,hS,hA⟩:=dp_tup hd
  have hS:=Evl.ex_t xF hS
  cases hA with
  | @cons v0 xr _ _ h0 hA =>
  obtain rfl:=dp_str h0
  cases sv with
  | do_ x =>
   refine ⟨_,rfl,a,_,_,_,rfl,rfl,hS,at0,rfl,_,rfl,itF rfl ?_⟩
   refine ⟨_,rfl,a,_,_,_,rfl,rfl,hS,at0,sz (by simp),?_⟩
   intro p1 n1
   generalize e1:upd _ p1 _=H1
   obtain ⟨x1,s1,o1⟩:=new_of e1 n1
   clear e1
   refine ⟨p1,_,rfl,.inr (Evl.st_of s1),rfl,flat_strs ["if","while"],_,rfl,itF (in_strs (l:=["if","while"]) (by decide +kernel)) ?_⟩
   have hS1:=Evl.ex_t x1 hS
   refine ⟨_,rfl,a,_,_,_,rfl,rfl,hS1,at0,sz (by simp),?_⟩
   intro p2 n2
   generalize e2:upd _ p2 _=H2
   obtain ⟨x2,s2,o2⟩:=new_of e2 n2
   clear e2
   refine ⟨p2,_,rfl,.inr (Evl.st_of s2),rfl,flat_strs ["try","final"],_,rfl,itF (in_strs (l:=["try","final"]) (by decide +kernel)) ?_⟩
   have hS2:=Evl.ex_t x2 hS1
   have x12:=x1.trans x2
   refine ⟨sz (by simp),?_⟩
   intro p3 n3
   generalize e3:upd _ p3 _=H3
   obtain ⟨x3,s3,o3⟩:=new_of e3 n3
   clear e3
   exact q p3 _ H3 (ex_none x12 n3) (x12.trans x3) s3 .nil
  | call x =>
   refine ⟨_,rfl,a,_,_,_,rfl,rfl,hS,at0,rfl,_,rfl,itF rfl ?_⟩
   refine ⟨_,rfl,a,_,_,_,rfl,rfl,hS,at0,sz (by simp),?_⟩
   intro p1 n1
   generalize e1:upd _ p1 _=H1
   obtain ⟨x1,s1,o1⟩:=new_of e1 n1
   clear e1
   refine ⟨p1,_,rfl,.inr (Evl.st_of s1),rfl,flat_strs ["if","while"],_,rfl,itF (in_strs (l:=["if","while"]) (by decide +kernel)) ?_⟩
   have hS1:=Evl.ex_t x1 hS
   refine ⟨_,rfl,a,_,_,_,rfl,rfl,hS1,at0,sz (by simp),?_⟩
   intro p2 n2
   generalize e2:upd _ p2 _=H2
   obtain ⟨x2,s2,o2⟩:=new_of e2 n2
   clear e2
   refine ⟨p2,_,rfl,.inr (Evl.st_of s2),rfl,flat_strs ["try","final"],_,rfl,itF (in_strs (l:=["try","final"]) (by decide +kernel)) ?_⟩
   have hS2:=Evl.ex_t x2 hS1
   have x12:=x1.trans x2
   refine ⟨sz (by simp),?_⟩
   intro p3 n3
   generalize e3:upd _ p3 _=H3
   obtain ⟨x3,s3,o3⟩:=new_of e3 n3
   clear e3
   exact q p3 _ H3 (ex_none x12 n3) (x12.trans x3) s3 .nil
  | ret =>
   refine ⟨_,rfl,a,_,_,_,rfl,rfl,hS,at0,rfl,_,rfl,itF rfl ?_⟩
   refine ⟨_,rfl,a,_,_,_,rfl,rfl,hS,at0,sz (by simp),?_⟩
   intro p1 n1
   generalize e1:upd _ p1 _=H1
   obtain ⟨x1,s1,o1⟩:=new_of e1 n1
   clear e1
   refine ⟨p1,_,rfl,.inr (Evl.st_of s1),rfl,flat_strs ["if","while"],_,rfl,itF (in_strs (l:=["if","while"]) (by decide +kernel)) ?_⟩
   have hS1:=Evl.ex_t x1 hS
   refine ⟨_,rfl,a,_,_,_,rfl,rfl,hS1,at0,sz (by simp),?_⟩
   intro p2 n2
   generalize e2:upd _ p2 _=H2
   obtain ⟨x2,s2,o2⟩:=new_of e2 n2
   clear e2
   refine ⟨p2,_,rfl,.inr (Evl.st_of s2),rfl,flat_strs ["try","final"],_,rfl,itF (in_strs (l:=["try","final"]) (by decide +kernel)) ?_⟩
   have hS2:=Evl.ex_t x2 hS1
   have x12:=x1.trans x2
   refine ⟨sz (by simp),?_⟩
   intro p3 n3
   generalize e3:upd _ p3 _=H3
   obtain ⟨x3,s3,o3⟩:=new_of e3 n3
   clear e3
   exact q p3 _ H3 (ex_none x12 n3) (x12.trans x3) s3 .nil
  | rai =>
   refine ⟨_,rfl,a,_,_,_,rfl,rfl,hS,at0,rfl,_,rfl,itF rfl ?_⟩
   refine ⟨_,rfl,a,_,_,_,rfl,rfl,hS,at0,sz (by simp),?_⟩
   intro p1 n1
   generalize e1:upd _ p1 _=H1
   obtain ⟨x1,s1,o1⟩:=new_of e1 n1
   clear e1
   refine ⟨p1,_,rfl,.inr (Evl.st_of s1),rfl,flat_strs ["if","while"],_,rfl,itF (in_strs (l:=["if","while"]) (by decide +kernel)) ?_⟩
   have hS1:=Evl.ex_t x1 hS
   refine ⟨_,rfl,a,_,_,_,rfl,rfl,hS1,at0,sz (by simp),?_⟩
   intro p2 n2
   generalize e2:upd _ p2 _=H2
   obtain ⟨x2,s2,o2⟩:=new_of e2 n2
   clear e2
   refine ⟨p2,_,rfl,.inr (Evl.st_of s2),rfl,flat_strs ["try","final"],_,rfl,itF (in_strs (l:=["try","final"]) (by decide +kernel)) ?_⟩
   have hS2:=Evl.ex_t x2 hS1
   have x12:=x1.trans x2
   refine ⟨sz (by simp),?_⟩
   intro p3 n3
   generalize e3:upd _ p3 _=H3
   obtain ⟨x3,s3,o3⟩:=new_of e3 n3
   clear e3
   exact q p3 _ H3 (ex_none x12 n3) (x12.trans x3) s3 .nil
  | brk n0 h1 h2 =>
   refine ⟨_,rfl,a,_,_,_,rfl,rfl,hS,at0,rfl,_,rfl,itF rfl ?_⟩
   refine ⟨_,rfl,a,_,_,_,rfl,rfl,hS,at0,sz (by simp),?_⟩
   intro p1 n1
   generalize e1:upd _ p1 _=H1
   obtain ⟨x1,s1,o1⟩:=new_of e1 n1
   clear e1
   refine ⟨p1,_,rfl,.inr (Evl.st_of s1),rfl,flat_strs ["if","while"],_,rfl,itF (in_strs (l:=["if","while"]) (by decide +kernel)) ?_⟩
   have hS1:=Evl.ex_t x1 hS
   refine ⟨_,rfl,a,_,_,_,rfl,rfl,hS1,at0,sz (by simp),?_⟩
   intro p2 n2
   generalize e2:upd _ p2 _=H2
   obtain ⟨x2,s2,o2⟩:=new_of e2 n2
   clear e2
   refine ⟨p2,_,rfl,.inr (Evl.st_of s2),rfl,flat_strs ["try","final"],_,rfl,itF (in_strs (l:=["try","final"]) (by decide +kernel)) ?_⟩
   have hS2:=Evl.ex_t x2 hS1
   have x12:=x1.trans x2
   refine ⟨sz (by simp),?_⟩
   intro p3 n3
   generalize e3:upd _ p3 _=H3
   obtain ⟨x3,s3,o3⟩:=new_of e3 n3
   clear e3
   exact q p3 _ H3 (ex_none x12 n3) (x12.trans x3) s3 .nil
  | cnt n0 h1 h2 =>
   refine ⟨_,rfl,a,_,_,_,rfl,rfl,hS,at0,rfl,_,rfl,itF rfl ?_⟩
   refine ⟨_,rfl,a,_,_,_,rfl,rfl,hS,at0,sz (by simp),?_⟩
   intro p1 n1
   generalize e1:upd _ p1 _=H1
   obtain ⟨x1,s1,o1⟩:=new_of e1 n1
   clear e1
   refine ⟨p1,_,rfl,.inr (Evl.st_of s1),rfl,flat_strs ["if","while"],_,rfl,itF (in_strs (l:=["if","while"]) (by decide +kernel)) ?_⟩
   have hS1:=Evl.ex_t x1 hS
   refine ⟨_,rfl,a,_,_,_,rfl,rfl,hS1,at0,sz (by simp),?_⟩
   intro p2 n2
   generalize e2:upd _ p2 _=H2
   obtain ⟨x2,s2,o2⟩:=new_of e2 n2
   clear e2
   refine ⟨p2,_,rfl,.inr (Evl.st_of s2),rfl,flat_strs ["try","final"],_,rfl,itF (in_strs (l:=["try","final"]) (by decide +kernel)) ?_⟩
   have hS2:=Evl.ex_t x2 hS1
   have x12:=x1.trans x2
   refine ⟨sz (by simp),?_⟩
   intro p3 n3
   generalize e3:upd _ p3 _=H3
   obtain ⟨x3,s3,o3⟩:=new_of e3 n3
   clear e3
   exact q p3 _ H3 (ex_none x12 n3) (x12.trans x3) s3 .nil
  | iff x b1 b2 =>
   refine ⟨_,rfl,a,_,_,_,rfl,rfl,hS,at0,rfl,_,rfl,itF rfl ?_⟩
   refine ⟨_,rfl,a,_,_,_,rfl,rfl,hS,at0,sz (by simp),?_⟩
   intro p1 n1
   generalize e1:upd _ p1 _=H1
   obtain ⟨x1,s1,o1⟩:=new_of e1 n1
   clear e1
   refine ⟨p1,_,rfl,.inr (Evl.st_of s1),rfl,flat_strs ["if","while"],_,rfl,itT (in_strs (l:=["if","while"]) (by decide +kernel)) ?_⟩
   have hS1:=Evl.ex_t x1 hS
   refine ⟨_,rfl,_,rfl,?_⟩
   dsimp only [tNoPart]
   refine sl_any (hi:=none) hS1 fun p5 H5 x5 s5=>?_
   have x15:=x1.trans x5
   refine ⟨p5,_,rfl,.inr s5,fun l hl=>q l _ _ (fresh_up x15 hl) (exu x15 hl) upd_same ?_⟩
   rw [show (2:Int)=((2:Nat):Int) from rfl,cut_from]
   exact dpA_drop 1 hA
  | whl x b1 =>
   refine ⟨_,rfl,a,_,_,_,rfl,rfl,hS,at0,rfl,_,rfl,itF rfl ?_⟩
   refine ⟨_,rfl,a,_,_,_,rfl,rfl,hS,at0,sz (by simp),?_⟩
   intro p1 n1
   generalize e1:upd _ p1 _=H1
   obtain ⟨x1,s1,o1⟩:=new_of e1 n1
   clear e1
   refine ⟨p1,_,rfl,.inr (Evl.st_of s1),rfl,flat_strs ["if","while"],_,rfl,itT (in_strs (l:=["if","while"]) (by decide +kernel)) ?_⟩
   have hS1:=Evl.ex_t x1 hS
   refine ⟨_,rfl,_,rfl,?_⟩
   dsimp only [tNoPart]
   refine sl_any (hi:=none) hS1 fun p5 H5 x5 s5=>?_
   have x15:=x1.trans x5
   refine ⟨p5,_,rfl,.inr s5,fun l hl=>q l _ _ (fresh_up x15 hl) (exu x15 hl) upd_same ?_⟩
   rw [show (2:Int)=((2:Nat):Int) from rfl,cut_from]
   exact dpA_drop 1 hA
  | tr b1 b2 =>
   refine ⟨_,rfl,a,_,_,_,rfl,rfl,hS,at0,rfl,_,rfl,itF rfl ?_⟩
   refine ⟨_,rfl,a,_,_,_,rfl,rfl,hS,at0,sz (by simp),?_⟩
   intro p1 n1
   generalize e1:upd _ p1 _=H1
   obtain ⟨x1,s1,o1⟩:=new_of e1 n1
   clear e1
   refine ⟨p1,_,rfl,.inr (Evl.st_of s1),rfl,flat_strs ["if","while"],_,rfl,itF (in_strs (l:=["if","while"]) (by decide +kernel)) ?_⟩
   have hS1:=Evl.ex_t x1 hS
   refine ⟨_,rfl,a,_,_,_,rfl,rfl,hS1,at0,sz (by simp),?_⟩
   intro p2 n2
   generalize e2:upd _ p2 _=H2
   obtain ⟨x2,s2,o2⟩:=new_of e2 n2
   clear e2
   refine ⟨p2,_,rfl,.inr (Evl.st_of s2),rfl,flat_strs ["try","final"],_,rfl,itT (in_strs (l:=["try","final"]) (by decide +kernel)) ?_⟩
   have hS2:=Evl.ex_t x2 hS1
   have x12:=x1.trans x2
   refine ⟨_,rfl,_,rfl,?_⟩
   dsimp only [tNoPart]
   refine sl_any (hi:=none) hS2 fun p5 H5 x5 s5=>?_
   have x15:=x12.trans x5
   refine ⟨p5,_,rfl,.inr s5,fun l hl=>q l _ _ (fresh_up x15 hl) (exu x15 hl) upd_same ?_⟩
   rw [show (1:Int)=((1:Nat):Int) from rfl,cut_from]
   exact hA
  | fin b1 b2 =>
   refine ⟨_,rfl,a,_,_,_,rfl,rfl,hS,at0,rfl,_,rfl,itF rfl ?_⟩
   refine ⟨_,rfl,a,_,_,_,rfl,rfl,hS,at0,sz (by simp),?_⟩
   intro p1 n1
   generalize e1:upd _ p1 _=H1
   obtain ⟨x1,s1,o1⟩:=new_of e1 n1
   clear e1
   refine ⟨p1,_,rfl,.inr (Evl.st_of s1),rfl,flat_strs ["if","while"],_,rfl,itF (in_strs (l:=["if","while"]) (by decide +kernel)) ?_⟩
   have hS1:=Evl.ex_t x1 hS
   refine ⟨_,rfl,a,_,_,_,rfl,rfl,hS1,at0,sz (by simp),?_⟩
   intro p2 n2
   generalize e2:upd _ p2 _=H2
   obtain ⟨x2,s2,o2⟩:=new_of e2 n2
   clear e2
   refine ⟨p2,_,rfl,.inr (Evl.st_of s2),rfl,flat_strs ["try","final"],_,rfl,itT (in_strs (l:=["try","final"]) (by decide +kernel)) ?_⟩
   have hS2:=Evl.ex_t x2 hS1
   have x12:=x1.trans x2
   refine ⟨_,rfl,_,rfl,?_⟩
   dsimp only [tNoPart]
   refine sl_any (hi:=none) hS2 fun p5 H5 x5 s5=>?_
   have x15:=x12.trans x5
   refine ⟨p5,_,rfl,.inr s5,fun l hl=>q l _ _ (fresh_up x15 hl) (exu x15 hl) upd_same ?_⟩
   rw [show (1:Int)=((1:Nat):Int) from rfl,cut_from]
   exact hA
  | seq p ps =>
   cases hA with
   | @cons v1 xr2 _ _ g1 hA =>
   obtain ⟨b,ys,rfl,gS,gA⟩:=dp_tup g1
   have gS:=Evl.ex_t xF gS
   refine ⟨_,rfl,a,_,_,_,rfl,rfl,hS,at0,rfl,_,rfl,itT rfl ?_⟩
   refine ⟨_,rfl,a,_,_,_,rfl,rfl,hS,at1,b,_,rfl,.inr gS,fun l hl=>q l _ _ hl (exu (Evl.Ex.refl _) hl) upd_same ?_⟩
   have e:partsD (.tuple [.str "seq",.tuple (p::ps)])=p::ps:=by
    show (p::ps).take 401=p::ps
    have h5:((p::ps).take 401).length≤400:=h4
    rw [List.length_take] at h5
    exact List.take_of_length_le (by omega)
   rw [e]
   exact gA
end
end
section
def fD (it:WIt):PyData:=.tuple [it.d,parD it.par]
inductive FAt (K:PySem.W.Frag) (F:Hp):List Addr→List WIt→Prop
 | nil:FAt K F [] []
 | cons {t:Addr} {ts:List Addr} {it:WIt} {st:List WIt} {v:V} (h:F t=some (.tup [v,parV it.par])) (hd:Dp K F v it.d) (r:FAt K F ts st):FAt K F (t::ts) (it::st)
theorem FAt.ex {K:PySem.W.Frag} {F F':Hp} (e:Ex F F'):∀ {ts:List Addr} {st:List WIt},FAt K F ts st→FAt K F' ts st
 | _,_,.nil=>.nil
 | _,_,.cons h hd r=>.cons (e _ _ h) (dp_ex e hd) (FAt.ex e r)
theorem FAt.len {K:PySem.W.Frag} {F:Hp}:∀ {ts:List Addr} {st:List WIt},FAt K F ts st→ts.length=st.length
 | _,_,.nil=>rfl
 | _,_,.cons _ _ r=>congrArg Nat.succ (FAt.len r)
theorem FAt.app {K:PySem.W.Frag} {F:Hp} {ts2:List Addr} {st2:List WIt} (b:FAt K F ts2 st2):∀ {ts:List Addr} {st:List WIt},FAt K F ts st→FAt K F (ts++ts2) (st++st2)
 | _,_,.nil=>b
 | _,_,.cons h hd r=>.cons h hd (FAt.app b r)
theorem FAt.dp {K:PySem.W.Frag} {F:Hp}:∀ {ts:List Addr} {st:List WIt},FAt K F ts st→DpAll K F (ts.map V.ref) (st.map fD)
 | _,_,.nil=>.nil
 | _,_,.cons h hd r=>.cons (.tup (Evl.st_of h) (.cons hd (.cons (dp_par _) .nil))) (FAt.dp r)
theorem can_fD {it:WIt} (h:PyData.canLay0 it.d=true):PyData.canLay0 (fD it)=true:=by
 show (PyData.canLay0 it.d && (PyData.canLay0 (parD it.par) && PyData.canLayAll0 []))=true
 rw [h]
 cases it.par<;>rfl
structure FI (K:PySem.W.Frag) (F R:Hp) (ra wq:Addr) (rs cs ts:List Addr) (st:List WIt) (rows:List Row):Prop where
 rl:R ra=some (.lst (rs.map V.ref))
 wl:R wq=some (.lst (ts.map V.ref).reverse)
 wi:FAt K F ts st
 ls:rs.length=rows.length
 lc:cs.length=rows.length
 rr:∀ (i:Nat) (p c:Addr) (r:Row),rs[i]?=some p→cs[i]?=some c→rows[i]?=some r→∃ v,F p=some (.lst [v,parV r.par,.ref c])∧Dp K F v r.d
 cc:∀ (i:Nat) (c:Addr) (r:Row),cs[i]?=some c→rows[i]?=some r→R c=some (.lst (intsV r.ch))
 nd:cs.Nodup
 nr:ra ∉ cs
 nw:wq ∉ cs
 ne:ra≠wq
def FlatH (K:PySem.W.Frag) (F:Hp) (ra:Addr) (rows:List Row):Prop:=∃ rs cs:List Addr,F ra=some (.lst (rs.map V.ref))∧rs.length=rows.length∧cs.length=rows.length ∧
 ∀ (i:Nat) (p c:Addr) (r:Row),rs[i]?=some p→cs[i]?=some c→rows[i]?=some r→∃ v,F p=some (.lst [v,parV r.par,.ref c])∧Dp K F v r.d∧F c=some (.lst (intsV r.ch))
theorem FlatH.ex {K:PySem.W.Frag} {F F':Hp} {ra:Addr} {rows:List Row} (e:Ex F F') (h:FlatH K F ra rows):FlatH K F' ra rows:=by
 obtain ⟨rs,cs,a,b,c,d⟩:=h
 refine ⟨rs,cs,e _ _ a,b,c,fun i p c r h1 h2 h3=>?_⟩
 obtain ⟨v,k1,k2,k3⟩:=d i p c r h1 h2 h3
 exact ⟨v,e _ _ k1,dp_ex e k2,e _ _ k3⟩
theorem FlatH.at_ {K:PySem.W.Frag} {F:Hp} {ra:Addr} {rows:List Row} (h:FlatH K F ra rows) {i:Nat} {r:Row} (hr:rows[i]?=some r):∃ (rs:List Addr) (p c:Addr) (v:V),F ra=some (.lst (rs.map V.ref))∧(rs.map V.ref)[i]?=some (.ref p)∧F p=some (.lst [v,parV r.par,.ref c])∧Dp K F v r.d∧F c=some (.lst (intsV r.ch)):=by
 obtain ⟨rs,cs,a,b,c,d⟩:=h
 have li:=(List.getElem?_eq_some_iff.mp hr).1
 have h1:rs[i]?=some rs[i]:=List.getElem?_eq_getElem (by omega)
 have h2:cs[i]?=some cs[i]:=List.getElem?_eq_getElem (by omega)
 obtain ⟨v,k1,k2,k3⟩:=d i _ _ r h1 h2 hr
 exact ⟨rs,_,_,v,a,by rw [List.getElem?_map,h1]<;>rfl,k1,k2,k3⟩
section
variable {K:PySem.W.Frag} {F F2 R R2:Hp} {ra wq:Addr} {rs cs ts:List Addr} {st:List WIt} {rows:List Row}
theorem snoc_get {α:Type} {l:List α} {x y:α} {i:Nat} (h:(l++[x])[i]?=some y):l[i]?=some y∨(i=l.length∧y=x):=by
 rcases Nat.lt_trichotomy i l.length with z | z | z
 ·rw [List.getElem?_append_left z] at h;exact .inl h
 ·rw [z,List.getElem?_append_right (Nat.le_refl _)] at h;simp at h;exact .inr ⟨z,h.symm⟩
 ·rw [List.getElem?_eq_none (by simp;omega)] at h;cases h
theorem FI.exF (x:FI K F R ra wq rs cs ts st rows) (e:Ex F F2):FI K F2 R ra wq rs cs ts st rows :=
 ⟨x.rl,x.wl,x.wi.ex e,x.ls,x.lc,fun i p c r h1 h2 h3=>by
  obtain ⟨v,k1,k2⟩:=x.rr i p c r h1 h2 h3
  exact ⟨v,e _ _ k1,dp_ex e k2⟩,x.cc,x.nd,x.nr,x.nw,x.ne⟩
theorem FI.wait (x:FI K F R ra wq rs cs ts st rows) {ts':List Addr} {st':List WIt} (h:FAt K F ts' st'):FI K F (upd R wq (.lst (ts'.map V.ref).reverse)) ra wq rs cs ts' st' rows :=
 ⟨by rw [upd_ne x.ne];exact x.rl,upd_same,h,x.ls,x.lc,x.rr,fun i c r h1 h2=>by rw [upd_ne (fun z=>x.nw (by rw [← z];exact List.mem_of_getElem? h1))];exact x.cc i c r h1 h2,x.nd,x.nr,x.nw,x.ne⟩
theorem FI.add (x:FI K F R ra wq rs cs ts st rows) {p c:Addr} {v:V} {d:PyData} {par:Option Nat} (hp:F p=some (.lst [v,parV par,.ref c])) (hd:Dp K F v d) (n1:R c=none) :
  FI K F (upd (upd R c (.lst [])) ra (.lst (rs.map V.ref++[.ref p]))) ra wq (rs++[p]) (cs++[c]) ts st (rows++[⟨d,par,[]⟩]):=by
 have cr:c≠ra:=fun z=>by rw [z,x.rl] at n1;cases n1
 have cw:c≠wq:=fun z=>by rw [z,x.wl] at n1;cases n1
 have nc:c ∉ cs:=fun z=>by
  obtain ⟨j,hj⟩:=List.mem_iff_getElem?.mp z
  have lj:=(List.getElem?_eq_some_iff.mp hj).1
  rw [x.cc j c _ hj (List.getElem?_eq_getElem (by rw [← x.lc];exact lj))] at n1
  cases n1
 refine ⟨by rw [upd_same,List.map_append]<;>rfl,by rw [upd_ne x.ne.symm,upd_ne cw.symm];exact x.wl,x.wi,by simp [x.ls],by simp [x.lc],fun i p' c' r h1 h2 h3=>?_,fun i c' r h2 h3=>?_,?_,?_,?_,x.ne⟩
 ·rcases snoc_get h1 with a | ⟨a1,rfl⟩
  ·have li:=(List.getElem?_eq_some_iff.mp a).1
   rcases snoc_get h2 with b | ⟨b1,_⟩
   ·rcases snoc_get h3 with d' | ⟨d1,_⟩
    ·exact x.rr i p' c' r a b d'
    ·have:=x.ls;omega
   ·have:=x.ls;have:=x.lc;omega
  ·rcases snoc_get h2 with b | ⟨b1,rfl⟩
   ·have li:=(List.getElem?_eq_some_iff.mp b).1
    have:=x.ls;have:=x.lc;omega
   ·rcases snoc_get h3 with d' | ⟨d1,rfl⟩
    ·have li:=(List.getElem?_eq_some_iff.mp d').1
     have:=x.ls;omega
    ·exact ⟨v,hp,hd⟩
 ·rcases snoc_get h2 with b | ⟨b1,rfl⟩
  ·have li:=(List.getElem?_eq_some_iff.mp b).1
   rcases snoc_get h3 with d' | ⟨d1,_⟩
   ·have m:=List.mem_of_getElem? b
    rw [upd_ne (fun z=>x.nr (by rw [← z];exact m)),upd_ne (fun z=>nc (by rw [← z];exact m))]
    exact x.cc i c' r b d'
   ·have:=x.lc;omega
  ·rcases snoc_get h3 with d' | ⟨d1,rfl⟩
   ·have li:=(List.getElem?_eq_some_iff.mp d').1
    have:=x.lc;omega
   ·rw [upd_ne cr,upd_same]<;>rfl
 ·rw [List.nodup_append]
  exact ⟨x.nd,by simp,fun a ha b hb e=>nc (by rw [← List.mem_singleton.mp hb,← e];exact ha)⟩
 ·simp only [List.mem_append,List.mem_singleton,not_or]
  exact ⟨x.nr,cr.symm⟩
 ·simp only [List.mem_append,List.mem_singleton,not_or]
  exact ⟨x.nw,cw.symm⟩
theorem FI.note (x:FI K F R ra wq rs cs ts st rows) {i n:Nat} {c:Addr} {r:Row} (hc:cs[i]?=some c) (hr:rows[i]?=some r):FI K F (upd R c (.lst (intsV r.ch++[.int (n:Int)]))) ra wq rs cs ts st (addCh rows i n):=by
 have m:=List.mem_of_getElem? hc
 refine ⟨by rw [upd_ne (fun z=>x.nr (by rw [z];exact m))];exact x.rl,by rw [upd_ne (fun z=>x.nw (by rw [z];exact m))];exact x.wl,x.wi,by rw [addCh_len];exact x.ls,by rw [addCh_len];exact x.lc,fun j p c' r' h1 h2 h3=>?_,fun j c' r' h2 h3=>?_,x.nd,x.nr,x.nw,x.ne⟩
 ·rw [addCh_eq,List.getElem?_modify] at h3
  cases e:rows[j]? with
  | none=>rw [e] at h3;simp at h3
  | some r0 =>
   rw [e] at h3
   obtain ⟨v,k1,k2⟩:=x.rr j p c' r0 h1 h2 e
   by_cases z:i=j
   ·simp [z] at h3;rw [← h3];exact ⟨v,k1,k2⟩
   ·simp [z] at h3;rw [← h3];exact ⟨v,k1,k2⟩
 ·rw [addCh_eq,List.getElem?_modify] at h3
  cases e:rows[j]? with
  | none=>rw [e] at h3;simp at h3
  | some r0 =>
   rw [e] at h3
   by_cases z:i=j
   ·subst z
    rw [hr] at e
    cases e
    rw [hc] at h2
    cases h2
    simp at h3
    rw [← h3,upd_same]
    unfold noteCh intsV
    rw [List.map_append]<;>rfl
   ·simp [z] at h3
    rw [← h3,upd_ne (fun y=>z (nd_get x.nd hc (by rw [← y];exact h2)))]
    exact x.cc j c' r0 h2 e
theorem addCh_app (rows:List Row) (r:Row) {i n:Nat} (h:i<rows.length):addCh (rows++[r]) i n=addCh rows i n++[r]:=by
 rw [addCh_eq,addCh_eq]
 apply List.ext_getElem?
 intro j
 rw [List.getElem?_modify]
 rcases Nat.lt_trichotomy j rows.length with z | z | z
 ·rw [List.getElem?_append_left z,List.getElem?_append_left (by simpa using z),List.getElem?_modify]
 ·subst z
  rw [List.getElem?_append_right (Nat.le_refl _),List.getElem?_append_right (by simp)]
  have:¬ i=rows.length:=by omega
  simp [this]
 ·rw [List.getElem?_eq_none (by simp;omega),List.getElem?_eq_none (by simp;omega)]<;>simp
end
def sp_flat (K:PySem.W.Frag):Sp:=fun vs H Q _=>∃ (F:Hp) (v:V) (d:PyData) (G:PyData→Prop) (N:Nat) (fin:List Row),vs=[v]∧Ex F H∧Dp K F v d∧(∀ e,G e→PyData.canLay0 e=true∧szD e∧∀ x∈partsD e,G x)∧G d∧Builds N [⟨d,none,1,0,0⟩] [] fin ∧
 ∀ F' H' ra,Gr (fun _=>False) F H F' H'→FlatH K F' ra fin→Q (.ref ra) H'
section
variable {P:Program} {w:World} {h:Heap} {K:PySem.W.Frag} {mg:Str→Option Value} {base:Heap}
abbrev N_law_flat:List Str:=["_law_statement_here","_law_rows","_law_waiting","_law_value","_law_above","_law_part"]
theorem sc_law_flat:FnScope N_law_flat ["_law_statement_here"] (defScope sd_law_flat):=⟨rfl,rfl,rfl,by decide +kernel,rfl,by decide +kernel,by decide +kernel⟩
theorem ok_law_flat (T:Tx w h K mg):Ok P w K mg base 2 ("_law_flat",none) ["_law_statement_here"] (sp_flat K):=by
 obtain ⟨fd,F⟩:=F_law_flat T
 refine ⟨fd,?_,F.bindsN (fun _ _ _ _ _ _ us hl=>match us,hl with | [_],_=>rfl),F.kp⟩
 obtain ⟨fd_law_parts,G_law_parts,bi_law_parts,kp_law_parts⟩:=ok_law_parts (P:=P) (base:=base) T
 refine F.ok sc_law_flat (fun vs H Q E h=>?_) (fun cdv A outer s H vs Q E hr h=>?_)
 ·obtain ⟨F0,v,d,Gd,N,fin,rfl,xF,hd,hG,hGd,hB,q⟩:=h
  rfl
 ·obtain ⟨F0,v,d,Gd,N,fin,rfl,xF,hd,hG,hGd,hB,q⟩:=h
  refine ⟨_,PSs.nox (pss_cons (ps_asg (pe_tup (pa_cons (pe_lst pa_nil) (pa_cons (pe_lst (pa_cons (pe_tup (pa_cons (pv 0) (pa_cons pe_non pa_nil))) pa_nil)) pa_nil))) (pg_tup rfl (pgs_cons (pg_name (i:=1) sc_law_flat.nd rfl (Or.inr rfl)) (pgs_cons (pg_name (i:=2) sc_law_flat.nd rfl (Or.inl rfl)) pgs_nil)))) (pss_cons (ps_while PassesOwn.never (pt_cmpR (op_neM hr) (pv 2) (pe_lst pa_nil) (nomark _)) (pss_cons (ps_asg (pe_bm0 PySem.F.plainAttrs_list PySem.F.slot_list_pop PySem.F.type_list_pop mt_pop (pv 2)) (pg_tup rfl (pgs_cons (pg_name (i:=3) sc_law_flat.nd rfl (Or.inl rfl)) (pgs_cons (pg_name (i:=4) sc_law_flat.nd rfl (Or.inl rfl)) pgs_nil)))) (pss_cons (ps_expr (pe_bm PySem.F.plainAttrs_list PySem.F.slot_list_append PySem.F.type_list_append mt_append (pv 1) (pa_cons (pe_lst (pa_cons (pv 3) (pa_cons (pv 4) (pa_cons (pe_lst pa_nil) pa_nil)))) pa_nil))) (Evl.pss_cut (ps_if (pt_cmpR op_notN (pv 4) pe_non (nomark _)) (pss_one (ps_expr (pe_bm PySem.F.plainAttrs_list PySem.F.slot_list_append PySem.F.type_list_append mt_append (pe_ix ix_list (pe_ix ix_list (pv 1) (pv 4) (fun _ _=>rfl)) pe_int (fun _ _=>rfl)) (pa_cons (pe_op op_sub (pe_callB call_len_seq rfl (fr_len T) b_len (pa_cons (pv 1) pa_nil)) pe_int) pa_nil)))) pss_nil) (pss_one (ps_expr (pe_bm PySem.F.plainAttrs_list PySem.F.slot_list_extend PySem.F.type_list_extend mt_extend (pv 2) (pa_cons (pe_revL (pe_lc (own:=[("_law_part",5)]) rfl sc_law_flat.nd (pi_list (pe_call G_law_parts (hr.mono (by decide)) rfl (g_law_parts T) kp_law_parts bi_law_parts .nil passF (pa_cons (pv 3) pa_nil))) (blkOk_by (N:=N_law_flat) (sc:=defScope sd_law_flat) (by decide +kernel)) (fun _ _ _ _ _=>(pg_name (i:=5) sc_law_flat.nd rfl (Or.inl rfl))) (fun _ _ _ _ _=>pts_nil) (fun _ _ _ _ _=>(pe_tup (pa_cons (pv 5) (pa_cons (pe_op op_sub (pe_callB (show CallR _ _ (rLenK K) from call_len_seq) rfl (fr_len T) b_len (pa_cons (pv 1) pa_nil)) pe_int) pa_nil)))))) pa_nil)))))))) (pss_one (ps_ret (pv 1))))),?_⟩
  refine ⟨sz (by simp),?_⟩
  intro p1 n1
  generalize e1:upd _ p1 _=H1
  obtain ⟨x1,s1,o1⟩:=new_of e1 n1
  clear e1
  refine ⟨_,rfl,sz (by simp),?_⟩
  intro p2 n2
  generalize e2:upd _ p2 _=H2
  obtain ⟨x2,s2,o2⟩:=new_of e2 n2
  clear e2
  refine ⟨sz (by simp),?_⟩
  intro p3 n3
  generalize e3:upd _ p3 _=H3
  obtain ⟨x3,s3,o3⟩:=new_of e3 n3
  clear e3
  refine ⟨sz (by simp),?_⟩
  intro p4 n4
  generalize e4:upd _ p4 _=H4
  obtain ⟨x4,s4,o4⟩:=new_of e4 n4
  clear e4
  have r0:Rg (fun _=>False) F0 H F0 hp0 H:=Rg.start (Gr.refl xF)
  have r1:=r0.newR id n1 s1 o1
  have r2:=r1.newF n2 s2 o2
  have r3:=(r2.newR id n3 s3 o3).junk x4
  have n31:p3≠p1:=fun z=>by rw [z,x2 _ _ s1] at n3;cases n3
  have f2:F0 p2=none:=(r1.fresh n2).1
  have fi:FI K (upd F0 p2 (.tup [v,.non])) (upd (upd hp0 p1 (.lst [])) p3 (.lst [.ref p2])) p1 p3 [] [] [p2] [⟨d,none,1,0,0⟩] []:=⟨by rw [upd_ne n31.symm,upd_same]<;>rfl,upd_same,.cons upd_same (dp_ex (exu (Evl.Ex.refl _) f2) hd) .nil,rfl,rfl,fun i p c r h1 h2 h3=>by simp at h1,fun i c r h1 h2=>by simp at h1,List.nodup_nil,by simp,by simp,n31.symm⟩
  refine ⟨p4,_,rfl,Evl.st_of s4,rfl,_,_,rfl,_,_,rfl,rfl,?_⟩
  refine ⟨fun m σ' H'=>∃ st rows rs cs ts F' R' o3 o4 o5,Builds m st rows fin∧σ'=[some v,some (.ref p1),some (.ref p3),o3,o4,o5]∧FI K F' R' p1 p3 rs cs ts st rows∧Rg (fun _=>False) F0 H F' R' H'∧(∀ i∈st,Gd i.d∧∀ j,i.par=some j→j<rows.length)∧(∀ r∈rows,r.ch.length≤rows.length),⟨N,_,_,_,_,_,_,_,_,_,_,hB,rfl,fi,r3,fun i hi=>by rw [List.mem_singleton.mp hi];exact ⟨hGd,fun j e=>by cases e⟩,fun r hr=>by cases hr⟩,?_⟩
  rintro m σ' H5 ⟨st,rows,rs,cs,ts,F5,R5,u3,u4,u5,bd,rfl,I5,G5,hit,hch⟩
  have hcan:PyData.canLay0 (.list (st.map fD).reverse)=true:=canAll fun e he=>by
   obtain ⟨i,hi,rfl⟩:=List.mem_map.mp (List.mem_reverse.mp he)
   exact can_fD (hG _ (hit i hi).1).1
  refine ⟨_,rfl,sz (by simp),?_⟩
  intro p6 n6
  generalize e6:upd _ p6 _=H6
  obtain ⟨x6,s6,o6⟩:=new_of e6 n6
  clear e6
  have G6:=G5.junk x6
  have hdl:Dp K H6 (.ref p3) (.list (st.map fD).reverse):=.lst (Evl.sq_of (G6.rh _ _ I5.wl)) (dpA_rev (dpA_ex G6.g.fh I5.wi.dp))
  refine ⟨_,_,hdl,.lst (Evl.sq_of s6) .nil,hcan,rfl,min_lnil _,_,rfl,ite_of (fun h4=>?_) (fun h4=>?_)⟩
  ·have bb:=bd.bd
   have bl:=bd.len
   cases bd with
   | done=>simp [PyData.eqv,PyData.eqvAll] at h4
   | @step n it st' _ _ ok bd =>
   have hI:=I5
   obtain ⟨_,_,wi5,_,_,_,_,_,_,_,_⟩:=hI
   cases wi5 with
   | @cons t ts' _ _ v1 ht hv1 hr =>
   refine ⟨_,fun σ' H' w=>⟨n,Nat.lt_succ_self _,w⟩,?_⟩
   have wl6:H6 p3=some (.lst ((ts'.map V.ref).reverse++[.ref t])):=by
    rw [G6.rh _ _ I5.wl]<;>simp
   refine ⟨_,rfl,Or.inl ⟨rfl,_,Evl.sq_of wl6⟩,p3,_,.ref t,rfl,rfl,wl6,by simp,?_⟩
   rw [List.dropLast_concat]
   generalize e7:upd _ p3 _=H7
   obtain ⟨s7,o7⟩:=set_of e7
   clear e7
   have I7:=I5.wait hr
   have G7:=G6.setR I5.wl s7 o7
   refine ⟨t,[v1,parV it.par],rfl,Evl.st_of (G7.g.fh _ _ ht),rfl,_,_,rfl,_,_,rfl,rfl,?_⟩
   refine ⟨_,rfl,Or.inl ⟨rfl,_,Evl.sq_of (G7.rh _ _ I7.rl)⟩,_,rfl,_,rfl,sz (by simp),?_⟩
   intro p8 n8
   generalize e8:upd _ p8 _=H8
   obtain ⟨x8,s8,o8⟩:=new_of e8 n8
   clear e8
   refine ⟨sz (by simp),?_⟩
   intro p9 n9
   generalize e9:upd _ p9 _=H9
   obtain ⟨x9,s9,o9⟩:=new_of e9 n9
   clear e9
   have c8:=(G7.fresh n8).2.1
   have G8:=G7.newR id n8 s8 o8
   have f9:=(G8.fresh n9).1
   have G9:=G8.newF n9 s9 o9
   have e9:Ex F5 (upd F5 p9 (.lst [v1,parV it.par,.ref p8])):=exu (Evl.Ex.refl _) f9
   have ra9:upd (upd R5 p3 (.lst (ts'.map V.ref).reverse)) p8 (.lst []) p1=some (.lst (rs.map V.ref)):=by
    rw [upd_ne (fun z=>by rw [← z,I7.rl] at c8;cases c8)]
    exact I7.rl
   refine ⟨p1,_,_,rfl,rfl,G9.rh _ _ ra9,szl (by rw [List.length_map,I5.ls];omega),?_⟩
   generalize e10:upd _ p1 _=H10
   obtain ⟨s10,o10⟩:=set_of e10
   clear e10
   have G10:=G9.setR ra9 s10 o10
   have I10:=(I7.exF e9).add (par:=it.par) upd_same (dp_ex e9 hv1) c8
   have lrow:(rows++[(⟨it.d,it.par,[]⟩:Row)]).length=rows.length + 1:=by simp
   have lrs:(rs++[p9]).length=rows.length + 1:=by simp [I5.ls]
   generalize eF10:upd F5 p9 (.lst [v1,parV it.par,.ref p8])=F10 at *
   generalize eR10:upd (upd (upd R5 p3 (.lst (ts'.map V.ref).reverse)) p8 (.lst [])) p1 (.lst (rs.map V.ref++[.ref p9]))=R10 at *
   clear eF10 eR10
   refine ⟨fun σ' H'=>∃ R',σ'=[some v,some (.ref p1),some (.ref p3),some v1,some (parV it.par),u5]∧FI K F10 R' p1 p3 (rs++[p9]) (cs++[p8]) ts' st' (addRow rows it.d it.par)∧Rg (fun _=>False) F0 H F10 R' H',?_,?_⟩
   ·refine ⟨_,rfl,rfl,_,rfl,ite_of (fun h1=>?_) (fun h1=>?_)⟩
    ·cases hpar:it.par with
     | none=>rw [hpar] at h1;cases h1
     | some i =>
     rw [hpar] at I10
     have li:i<rows.length:=(hit it List.mem_cons_self).2 i hpar
     have h1':(rs++[p9])[i]?=some (rs++[p9])[i]:=List.getElem?_eq_getElem (by omega)
     obtain ⟨ci,h2'⟩:∃ ci,(cs++[p8])[i]?=some ci:=⟨_,List.getElem?_eq_getElem (by simp;have:=I5.lc;omega)⟩
     have h3':(rows++[(⟨it.d,some i,[]⟩:Row)])[i]?=some rows[i]:=by rw [List.getElem?_append_left li,List.getElem?_eq_getElem li]
     obtain ⟨w1,k1,k2⟩:=I10.rr i _ _ _ h1' h2' h3'
     have k3:=I10.cc i _ _ h2' h3'
     have b3:=hch rows[i] (List.getElem_mem li)
     refine ⟨_,rfl,_,rfl,p1,_,_,.ref (rs++[p9])[i],rfl,rfl,Evl.sq_of (G10.rh _ _ I10.rl),atI_nat (by rw [List.getElem?_map,h1']<;>rfl),_,_,_,.ref ci,rfl,rfl,Evl.sq_of (G10.g.fh _ _ k1),rfl,?_⟩
     refine ⟨Or.inl ⟨rfl,_,Evl.sq_of (G10.rh _ _ k3)⟩,?_⟩
     refine ⟨_,rfl,p1,_,rfl,.inl (Evl.sq_of (G10.rh _ _ I10.rl)),_,_,rfl,rfl,?_⟩
     refine ⟨_,_,_,rfl,rfl,G10.rh _ _ k3,szl (by rw [intsV,List.length_map];omega),?_⟩
     generalize e11:upd _ ci _=H11
     obtain ⟨s11,o11⟩:=set_of e11
     clear e11
     have eN:((((rs++[p9]).map V.ref).length:Nat):Int) - 1=((rows.length:Nat):Int):=by rw [List.length_map,lrs];omega
     dsimp only at s11
     rw [eN] at s11
     refine ⟨_,rfl,?_,G10.setR k3 s11 o11⟩
     have y:=I10.note (n:=rows.length) h2' h3'
     rw [addCh_app rows _ li] at y
     exact y
    ·cases hpar:it.par with
     | some i=>rw [hpar] at h1;cases h1
     | none =>
      rw [hpar] at I10
      exact ⟨R10,rfl,I10,G10⟩
   rintro σ' H11 ⟨R11,rfl,I11,G11⟩
   have sv:=sv_of ok.2.2.2
   have lp:(partsD it.d).length≤400:=by
    have b1:=bd.len
    have b2:=bd.bd
    rw [List.length_append,newIts_len] at b1
    omega
   refine ⟨_,rfl,Or.inl ⟨rfl,_,Evl.sq_of (G11.rh _ _ I11.wl)⟩,_,rfl,F10,v1,it.d,_,rfl,G11.g.fh,dp_ex e9 hv1,sv,lp,fun pp ys H12 npp x12 hl12 dA12=>?_⟩
   have G12:=G11.junk x12
   refine ⟨pp,rfl,⟨_,Evl.sq_of hl12⟩,fun D nD=>?_⟩
   have fD':=G12.fresh nD
   have lys:ys.length=(partsD it.d).length:=dpA_len dA12
   refine lc_it (walk_list (xs:=ys)) (fun i H'=>∃ F' tn,Ex F10 F'∧FAt K F' tn ((newIts it rows.length).take i)∧Rg (fun _=>False) F0 H F' (upd R11 D (.lst (tn.map V.ref))) H'∧H' pp=some (.lst ys)) ?_ ?_ ?_ ?_
   ·refine ⟨F10,[],Evl.Ex.refl _,.nil,G12.newR id nD upd_same (fun b hb=>upd_ne hb),?_⟩
    rw [upd_ne (ne_of_none hl12 nD)]
    exact hl12
   ·exact fun i H' _ ⟨_,_,_,_,_,e⟩=>Evl.sq_of e
   ·rintro i x Ja Jb hi ⟨F13,tn,e13,a13,G13,l13⟩ ⟨rfl,hx⟩
    have lpi:i<(partsD it.d).length:=by rw [← lys];exact hi
    have hpi:(partsD it.d)[i]?=some (partsD it.d)[i]:=List.getElem?_eq_getElem lpi
    obtain ⟨u,hu,hdu⟩:=dpA_get dA12 hpi
    rw [hx] at hu
    cases hu
    have rl13:upd R11 D (.lst (tn.map V.ref)) p1=some (.lst ((rs++[p9]).map V.ref)):=by
     rw [upd_ne (ne_of_none I11.rl fD'.2.1)]
     exact I11.rl
    refine ⟨rfl,_,rfl,_,rfl,p1,_,rfl,.inl (Evl.sq_of (G13.rh _ _ rl13)),_,_,rfl,rfl,sz (by simp),?_⟩
    intro p14 n14
    generalize e14:upd _ p14 _=H14
    obtain ⟨x14,s14,o14⟩:=new_of e14 n14
    clear e14
    have G14:=G13.newF n14 s14 o14
    have f14:=(G13.fresh n14).1
    have eN:((((rs++[p9]).map V.ref).length:Nat):Int) - 1=((rows.length:Nat):Int):=by rw [List.length_map,lrs];omega
    refine ⟨_,G14.rh _ _ upd_same,szl (by rw [List.length_map,a13.len,List.length_take];omega),?_⟩
    generalize e15:upd _ D _=H15
    obtain ⟨s15,o15⟩:=set_of e15
    clear e15
    have G15:=G14.setR upd_same s15 o15
    have e14:Ex F13 (upd F13 p14 (.tup [x,.int (rows.length:Int)])):=exu (Evl.Ex.refl _) f14
    dsimp only at G15
    rw [eN] at G15
    refine ⟨_,tn++[p14],e13.trans e14,?_,?_,?_⟩
    ·rw [take_one (newIts_get hpi)]
     exact (FAt.cons (it:=newIt it rows.length i (partsD it.d)[i]) upd_same (dp_ex (e13.trans e14) hdu) .nil).app (a13.ex e14)
    ·have eU:upd (upd R11 D (.lst (tn.map V.ref))) D (.lst (tn.map V.ref++[.ref p14]))=upd R11 D (.lst ((tn++[p14]).map V.ref)):=by
      rw [List.map_append]
      funext b
      by_cases z:b=D
      ·rw [z,upd_same,upd_same]<;>rfl
      ·rw [upd_ne z,upd_ne z,upd_ne z]
     rw [eU] at G15
     exact G15
    ·rw [o15 pp (ne_of_none hl12 nD)]
     exact x14 _ _ l13
   rintro H13 ⟨F13,tn,e13,a13,G13,l13⟩
   rw [List.take_of_length_le (by rw [newIts_len,lys];exact Nat.le_refl _)] at a13
   refine ⟨D,_,rfl,Evl.sq_of (G13.rh _ _ upd_same),?_⟩
   intro p14 n14
   generalize e14:upd _ p14 _=H14
   obtain ⟨x14,s14,o14⟩:=new_of e14 n14
   clear e14
   have G14:=G13.junk x14
   have I13:=I11.exF e13
   have G14':=G14.only (R':=R11) (exu (Evl.Ex.refl _) fD'.2.1)
   have bl2:=bd.len
   refine ⟨p3,p14,_,_,rfl,rfl,G14'.rh _ _ I13.wl,s14,sz (by simp;have:=I13.wi.len;have:=a13.len;rw [List.length_append] at bl2;omega),?_⟩
   generalize e15:upd _ p3 _=H15
   obtain ⟨s15,o15⟩:=set_of e15
   clear e15
   have I15:=I13.wait (I13.wi.app a13)
   have G15:=G14'.setR I13.wl s15 o15
   have eR:((ts'.map V.ref).reverse++(tn.map V.ref).reverse)=((tn++ts').map V.ref).reverse:=by simp
   rw [eR] at G15
   refine ⟨_,_,_,_,_,_,_,_,_,_,bd,rfl,I15,G15,fun i hi=>?_,addRow_ch hch⟩
   rcases List.mem_append.mp hi with hi | hi
   ·obtain ⟨j,hj⟩:=List.mem_iff_getElem?.mp hi
    have lj:=(List.getElem?_eq_some_iff.mp hj).1
    rw [newIts_len] at lj
    have hpj:(partsD it.d)[j]?=some (partsD it.d)[j]:=List.getElem?_eq_getElem lj
    rw [newIts_get hpj] at hj
    cases hj
    exact ⟨(hG _ (hit it List.mem_cons_self).1).2.2 _ (List.getElem_mem lj),fun k e=>by cases e;rw [addRow_len];omega⟩
   ·obtain ⟨k1,k2⟩:=hit i (List.mem_cons_of_mem _ hi)
    exact ⟨k1,fun j e=>by rw [addRow_len];have:=k2 j e;omega⟩
  ·rw [eqv_lnil] at h4
   cases bd with
   | step ok bd=>simp at h4
   | done =>
   refine ⟨_,rfl,q (joinH F5 R5) H6 p1 G6.done ⟨rs,cs,joinH_r I5.rl,I5.ls,I5.lc,fun i p c r h1 h2 h3=>?_⟩⟩
   obtain ⟨v',k1,k2⟩:=I5.rr i p c r h1 h2 h3
   exact ⟨v',joinH_f G5.dj _ _ k1,dp_ex (joinH_f G5.dj) k2,joinH_r (I5.cc i c r h2 h3)⟩
end
end
section
open FcM (Way Node Tab)
theorem par_none {m:Nat} {st:List WIt} {rows fin:List Row} (b:Builds m st rows fin):∀ {lk:List Nat},BI st rows lk→(∀ n r,rows[n]?=some r→r.par=none→n=0)→∀ n r,fin[n]?=some r→r.par=none→n=0:=by
 induction b with
 | done rows=>exact fun _ h=>h
 | @step m it st rows fin ok h ih =>
  intro lk bk hr
  refine ih (bk.step ok) fun n r hn hp=>?_
  rcases addRow_get hn with ⟨e,rfl⟩ | ⟨r0,e0,_,p0,_⟩
  ·have:=((bk.it it List.mem_cons_self).1 hp).1
   rw [e,this]<;>rfl
  ·exact hr n r0 e0 (by rw [← p0];exact hp)
structure Fx (fin:List Row) (ls:List Nat):Prop where
 bi:BI [] fin ls
 pn:∀ n r,fin[n]?=some r→r.par=none→n=0
 l:fin.length≤400
 ne:0<fin.length
 gs:∀ (n:Nat) (r:Row),fin[n]?=some r→GS r.d
theorem Fx.sz {fin:List Row} {ls:List Nat} (x:Fx fin ls):∀ (n:Nat) (r:Row),fin[n]?=some r→szD r.d:=fun n r h=>(gs_parts (x.gs n r h)).2.1
theorem flat_at03 {K:PySem.W.Frag} {F:Hp} {ra:Addr} {fin:List Row} {ls:List Nat} (FH:FlatH K F ra fin) (X:Fx fin ls) {n:Nat} {r:Row} (hr:fin[n]?=some r):∃ (rs:List Addr) (rp rc va:Addr) (xr:List V) (dr:List PyData),F ra=some (.lst (rs.map V.ref))∧(rs.map V.ref)[n]?=some (.ref rp)∧F rp=some (.lst [.ref va,parV r.par,.ref rc])∧SqT K F va (.str (kindD r.d)::xr)∧DpAll K F (.str (kindD r.d)::xr) (.str (kindD r.d)::dr)∧r.d=.tuple (.str (kindD r.d)::dr)∧F rc=some (.lst (intsV r.ch)):=by
 obtain ⟨rs,rp,rc,v,h1,h2,h3,h4,h5⟩:=FH.at_ hr
 obtain ⟨l,hl,_⟩:=bi_ch X.bi hr
 obtain ⟨k,dr,_,e,_⟩:=isStm_shape (X.bi.sm n r l hr hl)
 rw [e] at h4
 obtain ⟨va,xs,rfl,vS,vA⟩:=dp_tup h4
 cases vA with
 | @cons v0 xr _ _ g0 gA =>
 obtain rfl:=dp_str g0
 have ek:kindD r.d=k:=by rw [e]<;>rfl
 rw [ek]
 exact ⟨rs,rp,rc,va,xr,dr,h1,h2,h3,vS,.cons (.str _) gA,e,h5⟩
def sp_loops03 (K:PySem.W.Frag):Sp:=fun vs H Q _=>∃ (F:Hp) (ra:Addr) (fin:List Row) (ls:List Nat) (n l:Nat),vs=[.ref ra,.int (n:Int)]∧FlatH K F ra fin∧Ex F H∧Fx fin ls∧n<fin.length∧ls[n]?=some l∧∀ H',Ex H H'→Q (.int (l:Int)) H'
section
variable {P:Program} {w:World} {h:Heap} {K:PySem.W.Frag} {mg:Str→Option Value} {base:Heap}
abbrev N_law_loops:List Str:=["_law_rows","_law_number","_law_found","_law_above"]
theorem sc_law_loops:FnScope N_law_loops ["_law_rows","_law_number"] (defScope sd_law_loops):=⟨rfl,rfl,rfl,by decide +kernel,rfl,by decide +kernel,by decide +kernel⟩
theorem ok_law_loops (T:Tx w h K mg):Ok P w K mg base 1 ("_law_loops",none) ["_law_rows","_law_number"] (sp_loops03 K):=by
 obtain ⟨fd,F⟩:=F_law_loops T
 refine ⟨fd,?_,F.bindsN (fun _ _ _ _ _ _ us hl=>match us,hl with | [_,_],_=>rfl),F.kp⟩
 refine F.ok sc_law_loops (fun vs H Q E h=>?_) (fun cdv A outer s H vs Q E hr h=>?_)
 ·obtain ⟨F,ra,fin,ls,n,l,rfl,FH,xF,X,hn,hll,q⟩:=h
  rfl
 ·obtain ⟨F,ra,fin,ls,n,l,rfl,FH,xF,X,hn,hll,q⟩:=h
  refine ⟨_,PSs.nox (pss_cons (ps_par rfl sc_law_loops.nd (i:=2) (j:=3) rfl rfl (by decide) rfl rfl (pa_cons pe_int (pa_cons (pe_ix ix_list (pe_ix ix_list (pv 0) (pv 1) (fun _ _=>rfl)) pe_int (fun _ _=>rfl)) pa_nil)) (by rfl)) (pss_cons (ps_while PassesOwn.never (pt_cmpR op_notN (pv 3) pe_non (nomark _)) (pss_one (ps_par rfl sc_law_loops.nd (i:=2) (j:=3) rfl rfl (by decide) rfl rfl (pa_cons (pe_op op_add (pv 2) (pe_callTy call_int1 rfl (fr_int T) b_int (pa_cons (pe_cmpR op_eq (pe_ix ix_tup (pe_ix ix_list (pe_ix ix_list (pv 0) (pv 3) (fun _ _=>rfl)) pe_int (fun _ _=>rfl)) pe_int (fun _ _=>rfl)) pe_str (nomark _)) pa_nil))) (pa_cons (pe_ix ix_list (pe_ix ix_list (pv 0) (pv 3) (fun _ _=>rfl)) pe_int (fun _ _=>rfl)) pa_nil)) (by rfl)))) (pss_one (ps_ret (pv 2))))),?_⟩
  have hx:∀ {H':Hp},Ex H H'→∀ {b:Addr} {xs:List V},F b=some (.lst xs)→SqL K H' b xs:=fun {H2} e {b xs} h=>Evl.ex_l (xF.trans e) (Evl.sq_of h)
  have hx0:=@hx H (Evl.Ex.refl _)
  have hr:fin[n]?=some fin[n]:=List.getElem?_eq_getElem hn
  obtain ⟨rs,rp,rc,va,xr,dr,k1,k2,k3,k4,_,_,_⟩:=flat_at03 FH X hr
  refine ⟨_,rfl,_,rfl,ra,_,_,.ref rp,rfl,rfl,hx0 k1,atI_nat k2,rp,_,_,_,rfl,rfl,hx0 k3,at1,_,_,rfl,?_⟩
  refine ⟨fun m σ' H'=>∃ (r':Row) (f l':Nat),fin[m]?=some r'∧ls[m]?=some l'∧f + l'=l∧H'=H∧σ'=[some (.ref ra),some (.int (n:Int)),some (.int (f:Int)),some (parV r'.par)],⟨n,_,0,l,hr,hll,by omega,rfl,rfl⟩,?_⟩
  rintro m σ' H2 ⟨r',f,l',hr',hl',hf,rfl,rfl⟩
  refine ⟨_,rfl,rfl,_,rfl,?_⟩
  cases hpar:r'.par with
  | none =>
   refine itF rfl ⟨_,rfl,?_⟩
   have:=X.pn m r' hr' hpar
   subst this
   have:=X.bi.l0 l' hl'
   subst this
   obtain rfl:f=l:=by omega
   exact q _ (Evl.Ex.refl _)
  | some p =>
   obtain ⟨plt,rq,h1,h2⟩:=X.bi.up m r' p hr' hpar
   obtain ⟨lq,hlq,hh⟩:=bi_ch X.bi h1
   obtain ⟨_,r2,_,_,h5⟩:=hh m h2
   rw [hl'] at h5
   cases h5
   obtain ⟨rs,rp,rc,va,xr,dr,j1,j2,j3,j4,_,_,_⟩:=flat_at03 FH X h1
   refine itT rfl ⟨_,fun σ' H' w=>⟨p,plt,w⟩,?_⟩
   refine ⟨_,rfl,_,rfl,_,rfl,ra,_,_,.ref rp,rfl,rfl,hx0 j1,atI_nat j2,rp,_,_,_,rfl,rfl,hx0 j3,at0,va,_,_,_,rfl,rfl,Evl.ex_t xF j4,at0,rfl,.inr ⟨_,rfl,_,_,rfl,rfl,?_⟩⟩
   refine ⟨_,rfl,_,rfl,ra,_,_,.ref rp,rfl,rfl,hx0 j1,atI_nat j2,rp,_,_,_,rfl,rfl,hx0 j3,at1,?_⟩
   refine ⟨_,_,rfl,rq,f + wl rq.d,lq,h1,hlq,by omega,rfl,?_⟩
   have ew:(V.int ((f:Int) + (if decide (V.str (kindD rq.d)=V.str "while")=true then 1 else 0)))=V.int ((f + wl rq.d:Nat):Int):=by
    have:wl rq.d=if kindD rq.d="while" then 1 else 0:=rfl
    rw [this]
    by_cases z:kindD rq.d="while"
    ·rw [if_pos z,if_pos (decide_eq_true (by rw [z]))]<;>rfl
    ·rw [if_neg z,if_neg (fun y=>z (V.str.inj (of_decide_eq_true y)))]<;>simp
   show [some (V.ref ra),some (V.int ↑n),some (V.int _),some (parV rq.par)]=_
   rw [ew]<;>rfl
end
end
section
open FcM (Way Node Tab)
theorem depth_le3:∀ {l:List PyData} {x:PyData},x∈l→x.depth≤PyData.depthAll l
 | [],_,h=>nomatch h
 | y::l,x,h=>by
  show _≤max _ _
  rcases List.mem_cons.mp h with rfl | h
  ·omega
  ·have:=depth_le3 h;omega
theorem slA_hd3 {K:PySem.W.Frag} {F H:Hp} {a:Addr} {xs ys:List V} {n:Int} {Q:VK} (xF:Ex F H) (h:SqT K F a (xs++ys)) (hn:n=(xs.length:Int)) (q:∀ F' H' p,Gr (fun _=>False) F H F' H'→SqT K F' p xs→Q (.ref p) H'):rSlA K (.ref a) none (some n) H Q:=by
 subst hn
 refine ⟨a,xs++ys,rfl,Evl.ex_t xF h,fun hf=>?_,fun _ p n=>?_⟩
 ·have e:ys=[]:=by
   have h2:=hf.2
   rw [HT.sIx_nat] at h2
   have h2:min xs.length (xs++ys).length=(xs++ys).length:=h2
   rw [List.length_append] at h2
   exact List.length_eq_zero_iff.mp (by omega)
  subst e
  rw [List.append_nil] at h
  exact q F H a (Gr.refl xF) h
 ·rw [cut_to,List.take_left]
  exact q _ _ p (Gr.frz (M:=fun _=>False) xF n upd_same (fun b hb=>upd_ne hb)) (Evl.st_of upd_same)
theorem catT_any3 {K:PySem.W.Frag} {F H:Hp} {a b:Addr} {xs ys:List V} {Q:VK} (xF:Ex F H) (h:SqT K F a xs) (h1:1≤xs.length) (hl:xs.length≤10) (k:SqT K F b ys) (hs:ys.length≤1000) (q:∀ F' H' p,Gr (fun _=>False) F H F' H'→SqT K F' p (xs++ys)→Q (.ref p) H'):rCatT K (.ref a) (.ref b) H Q:=by
 refine ⟨a,b,xs,ys,rfl,rfl,Evl.ex_t xF h,Evl.ex_t xF k,(fun z=>by rw [z] at h1;cases h1),Nat.le_of_lt (szl (by omega)),fun e=>?_,fun _ p n=>?_⟩
 ·subst e
  rw [List.append_nil] at q
  exact q F H a (Gr.refl xF) h
 ·exact q _ _ p (Gr.frz (M:=fun _=>False) xF n upd_same (fun b hb=>upd_ne hb)) (Evl.st_of upd_same)
inductive HdB (d:PyData):Prop
 | seq (ps:List PyData) (e:d=.tuple [.str "seq",.tuple ps]) (r:∀ es,rebD d es=.tuple [.str "seq",.tuple es])
 | nm (k:Str) (x:PyData) (hk:k="if"∨k="while") (e:d=.tuple (.str k::x::partsD d)) (r:∀ es,es.length=(partsD d).length→rebD d es=.tuple (.str k::x::es))
 | two (k:Str) (hk:k≠"seq"∧k≠"if"∧k≠"while") (e:d=.tuple (.str k::partsD d)) (ne:partsD d≠[]) (r:∀ es,es.length=(partsD d).length→rebD d es=.tuple (.str k::es))
 | leaf (k:Str) (r:List PyData) (hk:k≠"seq"∧k≠"if"∧k≠"while") (e:d=.tuple (.str k::r)) (z:partsD d=[]) (r:rebD d []=d)
theorem hd_reb {l:Int} {d:PyData} (sv:SV l d):HdB d:=by
 cases sv with
 | do_ x=>exact .leaf "do" [.str x] (by decide) rfl rfl rfl
 | call x=>exact .leaf "call" [.str x] (by decide) rfl rfl rfl
 | iff x a b=>exact .nm "if" (.str x) (.inl rfl) rfl (fun es h=>rfl)
 | whl x a=>exact .nm "while" (.str x) (.inr rfl) rfl (fun es h=>rfl)
 | seq p ps=>exact .seq (p::ps) rfl (fun es=>rfl)
 | brk n h1 h2=>exact .leaf "break" [.int n] (by decide) rfl rfl rfl
 | cnt n h1 h2=>exact .leaf "continue" [.int n] (by decide) rfl rfl rfl
 | ret=>exact .leaf "return" [] (by decide) rfl rfl rfl
 | rai=>exact .leaf "raise" [] (by decide) rfl rfl rfl
 | tr a b=>exact .two "try" (by decide) rfl (fun h=>nomatch h) (fun es h=>match es,h with | [_,_],_=>rfl)
 | fin a b=>exact .two "final" (by decide) rfl (fun h=>nomatch h) (fun es h=>match es,h with | [_,_],_=>rfl)
theorem parts_lt3 {l:Int} {d:PyData} (sv:SV l d):∀ x∈partsD d,x.depth<d.depth:=by
 intro x hx
 cases hd_reb sv with
 | seq ps e r =>
  subst e
  have hx:x∈ps:=List.mem_of_mem_take hx
  have h3:=depth_le3 (l:=[.str "seq",.tuple ps]) (x:=.tuple ps) (by simp)
  have h4:=depth_le3 hx
  simp only [PyData.depth] at h3 ⊢
  omega
 | nm k y hk e r =>
  have h3:=depth_le3 (l:=.str k::y::partsD d) (x:=x) (List.mem_cons_of_mem _ (List.mem_cons_of_mem _ hx))
  rw [e]
  simp only [PyData.depth]
  omega
 | two k hk e ne r =>
  have h3:=depth_le3 (l:=.str k::partsD d) (x:=x) (List.mem_cons_of_mem _ hx)
  rw [e]
  simp only [PyData.depth]
  omega
 | leaf k r hk e z _ =>
  rw [z] at hx
  exact nomatch hx
structure BadT (K:PySem.W.Frag) (F:Hp) (kvs:List (Key×V)) (bad:Nat→Option PyData):Prop where
 t:∀ n e,bad n=some e→∃ v,valV kvs (.inl (n:Int))=some v∧Dz K F v e
 n:∀ n,bad n=none→valV kvs (.inl (n:Int))=none
theorem BadT.ex {K:PySem.W.Frag} {F F':Hp} {kvs:List (Key×V)} {bad:Nat→Option PyData} (e:Ex F F') (h:BadT K F kvs bad):BadT K F' kvs bad :=
 ⟨fun n x hx=>(h.t n x hx).imp fun v z=>⟨z.1,dz_ex e z.2⟩,h.n⟩
def sp_blt (K:PySem.W.Frag) (n:Nat):Sp:=fun vs H Q _=>∃ (F:Hp) (ra:Addr) (fin:List Row) (ls:List Nat) (i:Nat) (bd:Addr) (kvs:List (Key×V)) (bad:Nat→Option PyData) (r:Row),vs=[.ref ra,.int (i:Int),.ref bd]∧FlatH K F ra fin∧Fx fin ls∧Ex F H∧F bd=some (.dK kvs)∧BadT K F kvs bad∧fin[i]?=some r∧r.d.depth≤n ∧
 ∀ (F' H':Hp) (v':V),Gr (fun _=>False) F H F' H'→Dz K F' v' (bltN fin bad i)→Q v' H'
theorem asc_lo03:∀ {xs:List Nat} {lo b:Nat},xs.Pairwise (·<·)→(∀ x∈xs,lo≤x∧x<b)→xs.length≤b - lo
 | [],_,_,_,_=>Nat.zero_le _
 | x::xs,lo,b,h,hb=>by
  obtain ⟨h1,h2⟩:=List.pairwise_cons.mp h
  have:=asc_lo03 (lo:=x + 1) (b:=b) h2 fun y hy=>⟨h1 y hy,(hb y (List.mem_cons_of_mem _ hy)).2⟩
  have:=hb x List.mem_cons_self
  rw [List.length_cons]
  omega
theorem asc_le03 {xs:List Nat} {b:Nat} (h:xs.Pairwise (·<·)) (hb:∀ x∈xs,x<b):xs.length≤b:=asc_lo03 (lo:=0) h fun x hx=>⟨Nat.zero_le _,hb x hx⟩
theorem intsV_len3 {l:List Nat}:(intsV l).length=l.length:=by unfold intsV;exact List.length_map ..
section
variable {P:Program} {w:World} {h:Heap} {K:PySem.W.Frag} {mg:Str→Option Value} {base:Heap}
theorem blt_pre (n:Nat) (IH:∀ m,m<n→Ok P w K mg base (m + 2) ("_law_built",none) ["_law_rows","_law_number","_law_bad"] (sp_blt K m)) (T:Tx w h K mg) :
  Ok P w K mg base (n + 1) ("_law_built",none) ["_law_rows","_law_number","_law_bad"] (fun vs H Q E=>∃ m,m<n∧sp_blt K m vs H Q E):=by
 cases n with
 | zero =>
  obtain ⟨fd,F⟩:=F_law_built T
  refine ⟨fd,⟨fun vs H Q E h=>?_,fun A outer s H args us vs Q E _ _ _ _ h=>?_⟩,F.bindsN (fun _ _ _ _ _ _ us hl=>match us,hl with | [_,_,_],_=>rfl),F.kp⟩
  ·obtain ⟨m,h,_⟩:=h
   exact absurd h (Nat.not_lt_zero _)
  ·obtain ⟨m,h,_⟩:=h
   exact absurd h (Nat.not_lt_zero _)
 | succ n =>
  obtain ⟨fd,G,b,kp⟩:=IH n (Nat.lt_succ_self _)
  refine ⟨fd,G.imp fun vs H Q E h=>?_,b,kp⟩
  obtain ⟨m,hm,F,ra,fin,ls,i,bd,kvs,bad,r,e1,e2,e3,e4,e5,e6,e7,e8,q⟩:=h
  exact ⟨F,ra,fin,ls,i,bd,kvs,bad,r,e1,e2,e3,e4,e5,e6,e7,by omega,q⟩
abbrev N_law_built:List Str:=["_law_rows","_law_number","_law_bad","_law_value","_law_parts_here","_law_part"]
theorem sc_law_built:FnScope N_law_built ["_law_rows","_law_number","_law_bad"] (defScope sd_law_built):=⟨rfl,rfl,rfl,by decide +kernel,rfl,by decide +kernel,by decide +kernel⟩
theorem ok_law_built (n:Nat) (IH:∀ m,m<n→Ok P w K mg base (m + 2) ("_law_built",none) ["_law_rows","_law_number","_law_bad"] (sp_blt K m)) (T:Tx w h K mg):Ok P w K mg base (n+2) ("_law_built",none) ["_law_rows","_law_number","_law_bad"] (sp_blt K n):=by
 obtain ⟨fd,F⟩:=F_law_built T
 refine ⟨fd,?_,F.bindsN (fun _ _ _ _ _ _ us hl=>match us,hl with | [_,_,_],_=>rfl),F.kp⟩
 obtain ⟨fd_law_built,G_law_built,bi_law_built,kp_law_built⟩:Ok P w K mg base (n + 1) ("_law_built",none) ["_law_rows","_law_number","_law_bad"] (fun vs H Q E=>∃ m,m<n∧sp_blt K m vs H Q E):=blt_pre n IH T
 refine F.ok sc_law_built (fun vs H Q E h=>?_) (fun cdv A outer s H vs Q E hr h=>?_)
 ·obtain ⟨F,ra,fin,ls,i,bd,kvs,bad,r,rfl,FH,X,xF,fb,hbT,hr_,hdp,q⟩:=h
  rfl
 ·obtain ⟨F,ra,fin,ls,i,bd,kvs,bad,r,rfl,FH,X,xF,fb,hbT,hr_,hdp,q⟩:=h
  refine ⟨_,PSs.nox (pss_cons (ps_if (pt_cmp (pc_din (hu_of hr) (pv 1) (pv 2))) (pss_one (ps_ret (pe_dget (hu_of hr) (pv 2) (pv 1) (fun _ _=>rfl)))) pss_nil) (pss_cons (ps_set (i:=3) sc_law_built.nd rfl (Or.inl rfl) (pe_ix ix_list (pe_ix ix_list (pv 0) (pv 1) (fun _ _=>rfl)) pe_int (fun _ _=>rfl))) (pss_cons (ps_set (i:=4) sc_law_built.nd rfl (Or.inl rfl) (pe_callTy call_tuple_of rfl (fr_tuple T) b_tuple (pa_cons (pe_lc (own:=[("_law_part",5)]) rfl sc_law_built.nd (pi_list (pe_ix ix_list (pe_ix ix_list (pv 0) (pv 1) (fun _ _=>rfl)) pe_int (fun _ _=>rfl))) (blkOk_by (N:=N_law_built) (sc:=defScope sd_law_built) (by decide +kernel)) (fun _ _ _ _ _=>(pg_name (i:=5) sc_law_built.nd rfl (Or.inl rfl))) (fun _ _ _ _ _=>pts_nil) (fun _ _ _ _ _=>(pe_call G_law_built (hr.mono (by omega)) rfl (g_law_built T) kp_law_built bi_law_built .nil passF (pa_cons (pv 0) (pa_cons (pv 5) (pa_cons (pv 2) pa_nil)))))) pa_nil))) (pss_cons (ps_if (pt_cmpR op_eq (pe_ix ix_tup (pv 3) pe_int (fun _ _=>rfl)) pe_str (nomark _)) (pss_one (ps_ret (pe_tup (pa_cons (pe_ix ix_tup (pv 3) pe_int (fun _ _=>rfl)) (pa_cons (pv 4) pa_nil))))) pss_nil) (pss_one (ps_ret (pe_ifExp (pt_cmpR op_in_seq (pe_ix ix_tup (pv 3) pe_int (fun _ _=>rfl)) (pe_tup (pa_cons pe_str (pa_cons pe_str pa_nil))) (by rfl)) (pe_op op_catT (pe_slice sl_tupA (pv 3) po_none (po_some pe_int)) (pv 4)) (pe_ifExp (pt_cmpR (FcW.op_neNil hr) (pv 4) (pe_tup pa_nil) (nomark _)) (pe_op op_catT (pe_slice sl_tupA (pv 3) po_none (po_some pe_int)) (pv 4)) (pv 3))))))))),?_⟩
  have hi:=(List.getElem?_eq_some_iff.mp hr_).1
  refine ⟨_,rfl,_,rfl,bd,valV kvs (.inl (i:Int)),rfl,DGet.k (k:=Sum.inl (i:Int)) (xF _ _ fb),?_⟩
  cases hbi:bad i with
  | some e =>
   obtain ⟨v,h1,h2⟩:=hbT.t i e hbi
   rw [h1]
   refine ⟨_,rfl,itT rfl ?_⟩
   refine ⟨_,rfl,_,rfl,bd,v,rfl,?_,?_⟩
   ·rw [← h1]
    exact DGet.k (k:=Sum.inl (i:Int)) (xF _ _ fb)
   ·refine q F H v (Gr.refl xF) ?_
    rw [blt_bad hi hbi]
    exact h2
  | none =>
   rw [hbT.n i hbi]
   refine ⟨_,rfl,itF rfl ?_⟩
   obtain ⟨rs,rp,rc,va,xr,dr,k1,k2,k3,vS,vA,ed,k5⟩:=flat_at03 FH X hr_
   have hx:∀ {H':Hp},Ex F H'→∀ {b:Addr} {xs:List V},F b=some (.lst xs)→SqL K H' b xs:=fun {H2} e {b xs} h=>Evl.ex_l e (Evl.sq_of h)
   have hx0:=@hx H xF
   refine ⟨_,rfl,_,rfl,ra,_,_,.ref rp,rfl,rfl,hx0 k1,atI_nat k2,rp,_,_,_,rfl,rfl,hx0 k3,at0,?_⟩
   refine ⟨_,rfl,_,rfl,ra,_,_,.ref rp,rfl,rfl,hx0 k1,atI_nat k2,rp,_,_,_,rfl,rfl,hx0 k3,at2,?_⟩
   obtain ⟨l,hll,hch⟩:=bi_ch X.bi hr_
   have sv:=sv_of (X.bi.sm i r l hr_ hll)
   have hlt:=parts_lt3 sv
   refine ⟨rc,rfl,⟨_,hx0 k5⟩,fun D2 nD2=>?_⟩
   have xD:Ex H (upd H D2 (.lst [])):=exu (Evl.Ex.refl _) nD2
   have gD:Gr (fun _=>False) F H F (upd H D2 (.lst [])):=Gr.new xF xD
   have fD:F D2=none:=ex_none xF nD2
   have hcl:r.ch.length≤400:=by
    have:=X.l
    have h1:=asc_le03 (X.bi.as i r hr_) (b:=fin.length) fun c hc=>by
     obtain ⟨_,r',h2,_⟩:=hch c hc
     exact (List.getElem?_eq_some_iff.mp h2).1
    omega
   refine lc_it (walk_list (xs:=intsV r.ch)) (fun j H'=>∃ (F':Hp) (ws:List V),H' D2=some (.lst ws)∧Gr (fun b=>b=D2) F (upd H D2 (.lst [])) F' H'∧F' D2=none∧DzAll K F' ws ((r.ch.take j).map (bltN fin bad))) ?_ ?_ ?_ ?_
   ·exact ⟨F,[],upd_same,Gr.refl gD.fh,fD,.nil⟩
   ·exact fun j H' _ ⟨_,_,_,g,_⟩=>hx (g.ff.trans g.fh) k5
   ·rintro j z Ja Jb hj ⟨F',ws,l2,g,fD',hw⟩ ⟨rfl,hz⟩
    rw [intsV_len3] at hj
    obtain ⟨c,hc⟩:∃ c,r.ch[j]?=some c:=⟨_,List.getElem?_eq_getElem hj⟩
    have hz2:(intsV r.ch)[j]?=some (.int (c:Int)):=by unfold intsV;rw [List.getElem?_map,hc]<;>rfl
    rw [hz2] at hz
    cases hz
    obtain ⟨_,r',hr',_⟩:=hch c (List.mem_of_getElem? hc)
    obtain ⟨r2,e1,e2⟩:=bi_part X.bi hr_ hc
    rw [hr'] at e1
    cases e1
    have hd':=hlt _ (List.mem_of_getElem? e2)
    have wl:=dzA_len hw
    rw [List.length_map,List.length_take] at wl
    refine ⟨rfl,_,rfl,_,rfl,_,rfl,r'.d.depth,by omega,F',ra,fin,ls,c,bd,kvs,bad,r',rfl,FH.ex g.ff,X,g.fh,g.ff _ _ fb,hbT.ex g.ff,hr',Nat.le_refl _,fun F3 H3 v3 g3 dv3=>?_⟩
    have l3:H3 D2=some (.lst ws):=g3.kp _ _ l2 id
    have f3:F3 D2=none:=g3.nw _ (by rw [l2];exact fun z=>nomatch z) fD' id
    refine ⟨_,l3,szl (by omega),F3,ws++[v3],upd_same,(g.trans (g3.mono fun _ z=>z.elim)).trans (Gr.set g3.fh rfl f3 (fun b n=>upd_ne n)),f3,?_⟩
    rw [take_one hc,List.map_append]
    exact dzA_app (dzA_ex g3.ff hw) (.cons dv3 .nil)
   rintro H3 ⟨F3,ws,l3,g3,fD3,hw⟩
   have gE:=g3.ff
   have g3:=gD.hide g3 fun x hx=>.inl (hx ▸ nD2)
   rw [intsV_len3,List.take_length] at hw
   have wl:=dzA_len hw
   rw [List.length_map] at wl
   have rb:bltN fin bad i=rebD r.d (r.ch.map (bltN fin bad)):=blt_go X.bi hr_ hbi
   have lch:(r.ch.map (bltN fin bad)).length=(partsD r.d).length:=by
    rw [List.length_map]
    have:=congrArg List.length (bi_parts X.bi hr_)
    rw [List.length_map] at this
    exact this
   refine ⟨D2,ws,rfl,.inl ⟨Evl.sq_of l3,fun p4 n4=>?_⟩⟩
   generalize e4:upd _ p4 _=H4
   obtain ⟨x4,s4,o4⟩:=new_of e4 n4
   clear e4
   have g4:=g3.trans (Gr.frz g3.fh n4 s4 o4)
   have f34:=exu (o:=.tup ws) (Evl.Ex.refl F3) (ex_none g3.fh n4)
   have vS4:=Evl.ex_t (gE.trans (f34.trans g4.fh)) vS
   have dW:DzAll K (upd F3 p4 (.tup ws)) ws (r.ch.map (bltN fin bad)):=dzA_ex f34 hw
   have sW:SqT K (upd F3 p4 (.tup ws)) p4 ws:=Evl.st_of upd_same
   generalize upd F3 p4 (.tup ws)=F4 at *
   have gE4:=gE.trans f34
   have dv:Dp K F (.ref va) r.d:=by rw [ed];exact .tup vS vA
   have lnw:ws.length=(partsD r.d).length:=by rw [← lch,List.length_map];exact wl
   cases hd_reb sv with
   | seq ps e rr =>
    have hk:kindD r.d="seq":=by rw [e]<;>rfl
    rw [hk] at vS4
    refine ⟨_,rfl,va,_,_,_,rfl,rfl,vS4,at0,rfl,_,rfl,itT (decide_eq_true rfl) ?_⟩
    refine ⟨_,rfl,va,_,_,_,rfl,rfl,vS4,at0,_,rfl,sz (by simp),?_⟩
    intro p5 n5
    generalize e5:upd _ p5 _=H5
    obtain ⟨x5,s5,o5⟩:=new_of e5 n5
    clear e5
    have f45:=exu (o:=.tup [V.str "seq",.ref p4]) (Evl.Ex.refl F4) (ex_none g4.fh n5)
    refine q _ H5 _ (g4.trans (Gr.frz g4.fh n5 s5 o5)) ?_
    rw [rb,rr]
    exact .tup (Evl.st_of upd_same) (.cons (.of (.str _)) (.cons (.tup (Evl.ex_t f45 sW) (dzA_ex f45 dW)) .nil))
   | nm k x hk e rr =>
    have ek:kindD r.d=k:=by rw [e]<;>rfl
    rw [ek] at vS4 vA ed
    have hne:k≠"seq":=by rcases hk with rfl | rfl<;>decide
    obtain rfl:dr=x::partsD r.d:=by
     rw [e] at ed
     injection ed with ed
     injection ed with _ ed
     exact ed.symm
    cases vA with
    | cons _ vA =>
    cases vA with
    | @cons vx xp _ _ dx dp =>
    refine ⟨_,rfl,va,_,_,_,rfl,rfl,vS4,at0,rfl,_,rfl,itF (decide_eq_false fun z=>hne (V.str.inj z)) ?_⟩
    refine ⟨_,rfl,va,_,_,_,rfl,rfl,vS4,at0,sz (by simp),?_⟩
    intro p5 n5
    generalize e5:upd _ p5 _=H5
    obtain ⟨x5,s5,o5⟩:=new_of e5 n5
    clear e5
    have g5:=g4.trans (Gr.new g4.fh x5)
    refine ⟨p5,_,rfl,.inr (Evl.st_of s5),rfl,flat_strs ["if","while"],_,rfl,itT (in_strs (l:=["if","while"]) (by rcases hk with rfl | rfl<;>decide)) ?_⟩
    refine ⟨_,rfl,?_⟩
    unfold tNoPart
    have vSF:=Evl.ex_t gE4 vS
    rw [ek] at vSF
    refine ⟨_,rfl,slA_hd3 (xs:=[.str k,vx]) g5.fh vSF (by simp) fun F7 H7 ph g7 sh=>?_⟩
    refine ⟨_,rfl,catT_any3 g7.fh sh (by simp) (by simp) (Evl.ex_t g7.ff sW) (by omega) fun F8 H8 p8 g8 s8=>?_⟩
    refine q F8 H8 _ ((g5.trans g7).trans g8) ?_
    rw [rb,rr _ lch]
    exact .tup s8 (.cons (.of (.str _)) (.cons (.of (dp_ex ((gE4.trans g7.ff).trans g8.ff) dx)) (dzA_ex (g7.ff.trans g8.ff) dW)))
   | two k hk e ne rr =>
    have ek:kindD r.d=k:=by rw [e]<;>rfl
    rw [ek] at vS4 vA ed
    obtain rfl:dr=partsD r.d:=by
     rw [e] at ed
     injection ed with ed
     injection ed with _ ed
     exact ed.symm
    refine ⟨_,rfl,va,_,_,_,rfl,rfl,vS4,at0,rfl,_,rfl,itF (decide_eq_false fun z=>hk.1 (V.str.inj z)) ?_⟩
    refine ⟨_,rfl,va,_,_,_,rfl,rfl,vS4,at0,sz (by simp),?_⟩
    intro p5 n5
    generalize e5:upd _ p5 _=H5
    obtain ⟨x5,s5,o5⟩:=new_of e5 n5
    clear e5
    have g5:=g4.trans (Gr.new g4.fh x5)
    refine ⟨p5,_,rfl,.inr (Evl.st_of s5),rfl,flat_strs ["if","while"],_,rfl,itF (by rw [show ([V.str "if",V.str "while"]:List V)=(["if","while"]:List Str).map V.str from rfl,inV_strs];simp [hk]) ?_⟩
    refine ⟨_,rfl,sz (by simp),?_⟩
    intro p6 n6
    generalize e6:upd _ p6 _=H6
    obtain ⟨x6,s6,o6⟩:=new_of e6 n6
    clear e6
    have g6:=g5.trans (Gr.new g5.fh x6)
    refine ⟨p4,p6,ws,rfl,rfl,Evl.ex_t g6.fh sW,Evl.st_of s6,_,rfl,itT ?_ ?_⟩
    ·cases ws with
     | nil=>exact absurd (List.length_eq_zero_iff.mp lnw.symm) ne
     | cons a b=>rfl
    refine ⟨_,rfl,?_⟩
    unfold tNoPart
    have vSF:=Evl.ex_t gE4 vS
    rw [ek] at vSF
    refine ⟨_,rfl,slA_hd3 (xs:=[.str k]) g6.fh vSF (by simp) fun F7 H7 ph g7 sh=>?_⟩
    refine ⟨_,rfl,catT_any3 g7.fh sh (by simp) (by simp) (Evl.ex_t g7.ff sW) (by omega) fun F8 H8 p8 g8 s8=>?_⟩
    refine q F8 H8 _ ((g6.trans g7).trans g8) ?_
    rw [rb,rr _ lch]
    exact .tup s8 (.cons (.of (.str _)) (dzA_ex (g7.ff.trans g8.ff) dW))
   | leaf k r' hk e z rr =>
    have ek:kindD r.d=k:=by rw [e]<;>rfl
    rw [ek] at vS4 vA ed
    refine ⟨_,rfl,va,_,_,_,rfl,rfl,vS4,at0,rfl,_,rfl,itF (decide_eq_false fun z=>hk.1 (V.str.inj z)) ?_⟩
    refine ⟨_,rfl,va,_,_,_,rfl,rfl,vS4,at0,sz (by simp),?_⟩
    intro p5 n5
    generalize e5:upd _ p5 _=H5
    obtain ⟨x5,s5,o5⟩:=new_of e5 n5
    clear e5
    have g5:=g4.trans (Gr.new g4.fh x5)
    refine ⟨p5,_,rfl,.inr (Evl.st_of s5),rfl,flat_strs ["if","while"],_,rfl,itF (by rw [show ([V.str "if",V.str "while"]:List V)=(["if","while"]:List Str).map V.str from rfl,inV_strs];simp [hk]) ?_⟩
    refine ⟨_,rfl,sz (by simp),?_⟩
    intro p6 n6
    generalize e6:upd _ p6 _=H6
    obtain ⟨x6,s6,o6⟩:=new_of e6 n6
    clear e6
    have g6:=g5.trans (Gr.new g5.fh x6)
    rw [z] at lnw lch
    obtain rfl:=List.length_eq_zero_iff.mp lnw
    refine ⟨p4,p6,[],rfl,rfl,Evl.ex_t g6.fh sW,Evl.st_of s6,_,rfl,itF rfl ?_⟩
    refine ⟨_,rfl,q _ H6 _ g6 ?_⟩
    rw [rb,List.length_eq_zero_iff.mp lch,rr]
    exact .of (dp_ex gE4 dv)
theorem ok_blt (T:Tx w h K mg) (n:Nat):Ok P w K mg base (n + 2) ("_law_built",none) ["_law_rows","_law_number","_law_bad"] (sp_blt K n):=by
 induction n using Nat.strongRecOn with
 | ind n ih=>exact ok_law_built n ih T
end
end
section
structure OddP (loops:Nat) (d:PyData):Prop where
 no:isStm d (loops:Int)=false
 sz:szD d
 pt:(∃ l,isStm d l=true)→partsD d=[]
 st:∀ x,d=.str x→x.length≤100000
def szB:PyData→Bool
 | .str x=>decide (x.length≤100000)
 | .tuple (_::.str x::_)=>decide (x.length≤100000)
 | _=>true
def jmpB (loops:Nat):PyData→Bool
 | .tuple [.str k,.int n]=>!(decide (k="break") || decide (k="continue")) || decide (n<1) || decide ((loops:Int)<n)
 | _=>true
theorem szB_ok {d:PyData} (h:szB d=true):szD d∧∀ x,d=.str x→x.length≤100000:=by
 refine ⟨fun k x r e=>?_,fun x e=>?_⟩
 ·subst e
  exact of_decide_eq_true h
 ·subst e
  exact of_decide_eq_true h
theorem stm_0 {l:Int} {d:PyData} (h:isStm d l=true):isStm d 0=true∨∃ k n,d=.tuple [.str k,.int n]∧(k="break"∨k="continue")∧1≤n∧n≤l∧partsD d=[]:=by
 have sv:=sv_of h
 cases sv with
 | do_ x=>exact .inl h
 | call x=>exact .inl h
 | iff x a b=>exact .inl h
 | whl x a=>exact .inl h
 | seq p ps=>exact .inl h
 | brk n h1 h2=>exact .inr ⟨_,n,rfl,.inl rfl,h1,h2,rfl⟩
 | cnt n h1 h2=>exact .inr ⟨_,n,rfl,.inr rfl,h1,h2,rfl⟩
 | ret=>exact .inl h
 | rai=>exact .inl h
 | tr a b=>exact .inl h
 | fin a b=>exact .inl h
theorem odd_of {loops:Nat} {d:PyData} (h0:isStm d 0=false) (hs:szB d=true) (hj:jmpB loops d=true):OddP loops d:=by
 obtain ⟨s1,s2⟩:=szB_ok hs
 refine ⟨?_,s1,fun ⟨l,h⟩=>?_,s2⟩
 ·cases e:isStm d (loops:Int) with
  | false=>rfl
  | true =>
   rcases stm_0 e with z | ⟨k,n,rfl,hk,h1,h2,_⟩
   ·rw [h0] at z;cases z
   ·have hj:(!(decide (k="break") || decide (k="continue")) || decide (n<1) || decide ((loops:Int)<n))=true:=hj
    rcases hk with rfl | rfl
    ·simp at hj
     omega
    ·simp at hj
     omega
 ·rcases stm_0 h with z | ⟨_,_,_,_,_,_,z⟩
  ·rw [h0] at z;cases z
  ·exact z
def goodD:PyData:=.tuple [.str "do",.str "x"]
def oddC (d:PyData):Bool:=!(isStm d 0) && szB d && jmpB 0 d && (match d with | .tuple [.str k,.int _]=>!(decide (k="break") || decide (k="continue")) | _=>true)
theorem odd_c {d:PyData} (h:oddC d=true) (l:Nat):OddP l d:=by
 unfold oddC at h
 rw [Bool.and_eq_true_iff,Bool.and_eq_true_iff,Bool.and_eq_true_iff] at h
 obtain ⟨⟨⟨h1,h2⟩,h3⟩,h4⟩:=h
 refine odd_of (by simpa using h1) h2 ?_
 unfold jmpB
 split
 ·rename_i k n
  have h4:(!(decide (k="break") || decide (k="continue")))=true:=h4
  rw [h4]<;>rfl
 ·rfl
def cN (k:Str):Nat:=if k="if" then 2 else if k="while" then 1 else 0
def nmK:List Str:=["do","call","if","while"]
theorem nm_pat {k:Str} (h:k∈nmK):k="do"∨k="call"∨k="if"∨k="while":=by simpa [nmK] using h
theorem odd_nm {k:Str} (h:k∈nmK) {bd:PyData} (hb:isName bd=false) (hs:∀ x,bd=.str x→x.length≤100000) (l:Nat):OddP l (.tuple (.str k::bd::List.replicate (cN k) goodD)):=by
 have a:∀ r,szD (.tuple (.str k::bd::r)):=fun r k' x r' e=>by cases e;exact hs x rfl
 rcases nm_pat h with rfl | rfl | rfl | rfl
 ·exact ⟨hb,a _,fun ⟨l,z⟩=>absurd (show isName bd=true from z) (by rw [hb];decide),fun x e=>by cases e⟩
 ·exact ⟨hb,a _,fun ⟨l,z⟩=>absurd (show isName bd=true from z) (by rw [hb];decide),fun x e=>by cases e⟩
 ·exact ⟨hb,a _,fun ⟨l,z⟩=>absurd (show isName bd=true from z) (by rw [hb];decide),fun x e=>by cases e⟩
 ·exact ⟨hb,a _,fun ⟨l,z⟩=>absurd (show isName bd=true from z) (by rw [hb];decide),fun x e=>by cases e⟩
theorem odd_len {k nm:Str} (h:k∈nmK) (hn:nm∈(["x","abcdefgh"]:List Str)) (l:Nat):∀ d∈[PyData.tuple ((.str k::.str nm::List.replicate (cN k) goodD).take (cN k + 1)),.tuple ((.str k::.str nm::List.replicate (cN k) goodD)++[goodD]),.tuple ([.str k]++List.replicate (cN k) goodD),.tuple ((.str k::.str nm::List.replicate (cN k) goodD)++[.str "x"])],OddP l d:=by
 have hn:nm="x"∨nm="abcdefgh":=by simpa using hn
 intro d hd
 simp only [List.mem_cons,List.not_mem_nil,or_false] at hd
 rcases nm_pat h with rfl | rfl | rfl | rfl<;>rcases hn with rfl | rfl<;>rcases hd with rfl | rfl | rfl | rfl<;>exact odd_c (by kernel_rfl) l
end
end Fc
set_option maxRecDepth 100000
set_option maxHeartbeats 4000000
namespace FcW
open PySem PySem.Spec PyProof.Rows L2
theorem tuple_mul1 (l:Addr) (items:Array Value) (n:Nat) (dd:Option Addr) (sl:Array (Option Value)) (u:Tok) :
  Meets (Builtin.«tuple.__mul__» ⟨[.ref l,.int 1 u],[]⟩) (fun _ R s=>s.heap.get? l=some { cls:=.type "tuple",dict:=dd,data:=.seq items n,slots:=sl } ∧
   R (.ok (.ret (Value.ref l))) s) :=
 .of_wp fun prog w A R s h=>by
  obtain ⟨hp,g,d,tk,os⟩:=s
  obtain ⟨hl,h⟩:=h
  have f1:=AutoSeq1.idx_int
  wp_walk using wpAny_loadPart' hl
  repeat (first
   | (refine wpAny_ite_false (by decide) ?_;wp_walk using wpAny_loadPart' hl)
   | (refine wpAny_ite_true (by simp) ?_;wp_walk using wpAny_loadPart' hl))
  exact ⟨_,rfl,h⟩
theorem tuple_mul0 (l:Addr) (items:Array Value) (n:Nat) (dd:Option Addr) (sl:Array (Option Value)) (u:Tok) (hi:items.isEmpty=false) :
  Meets (Builtin.«tuple.__mul__» ⟨[.ref l,.int 0 u],[]⟩) (fun _ R s=>s.heap.get? l=some { cls:=.type "tuple",dict:=dd,data:=.seq items n,slots:=sl } ∧
   R (.ok (.ret (Value.ref s.heap.objs.size))) { s with heap:=s.heap.push { cls:=Value.type "tuple",data:=Data.seq #[] },toks:=s.toks }) :=
 .of_wp fun prog w A R s h=>by
  obtain ⟨hp,g,d,tk,os⟩:=s
  obtain ⟨hl,h⟩:=h
  have f1:=AutoSeq1.idx_int
  wp_walk using wpAny_loadPart' hl
  repeat (first
   | (refine wpAny_ite_false (by decide) ?_;wp_walk using wpAny_loadPart' hl)
   | (refine wpAny_ite_false (by rw [hi];decide) ?_;wp_walk using wpAny_loadPart' hl)
   | (refine wpAny_ite_true (by rfl) ?_;wp_walk using wpAny_loadPart' hl))
  exact ⟨_,rfl,h⟩
def rRepN (K:PySem.W.Frag):R2:=fun x y H Q=>∃ (l:Addr) (k:Nat) (xs:List V),x=.ref l∧y=.int (k:Int)∧SqT K H l xs∧xs≠[]∧k≤1000∧xs.length≤1000∧(k=1→Q (.ref l) H)∧(k≠1→∀ p,H p=none→Q (.ref p) (upd H p (.tup (List.replicate k xs).flatten)))
section
variable {X:Cx}
theorem op_repN:OpR X (binaryOp .Mult) (rRepN X.K):=by
 intro pins s σ H x y v u Q I rx ry h
 obtain ⟨l,k,xs,rfl,rfl,hT,hne,h2,hz,q1,q2⟩:=h
 by_cases hk:2≤k
 ·exact op_repT pins s σ H _ _ v u Q I rx ry ⟨l,k,xs,rfl,rfl,hT,hne,by omega,by omega,hz,fun p n=>by rw [Int.toNat_natCast];exact q2 (by omega) p n⟩
 cases rx
 obtain ⟨t,rfl⟩:=ry
 obtain ⟨its,r,⟨⟨cls,dd,data,sl⟩,ho,hc,n,hd⟩,hs⟩:=I.tuple hT
 simp only at hc hd
 subst hc hd
 have hle:its.length=xs.length:=r.length.symm
 have hn:its≠[]:=fun e=>hne (by
  rw [e] at hle
  exact List.eq_nil_of_length_eq_zero hle.symm)
 have hi:its.toArray.isEmpty=false:=by
  cases its with
  | nil=>exact absurd rfl hn
  | cons a b=>rfl
 have hk:k=0∨k=1:=by omega
 rcases hk with rfl | rfl
 ·refine wpAny_binaryOp_repeat_ref (T:="tuple") (U:="int") (by decide) ⟨_,ho,rfl⟩ (fun s'=>typeIs_int s' _ t) noFill_tuple_mul F.fills_int_mul F.slot_int_rmul repeat_tuple F.slot_int_index.lookup
   (call_meets F.slot_int_rmul (typeIs_int s _ t) F.entry_int_rmul (F.args_int_rmul_2 _ _) (int_rmul_tuple _ t l its.toArray n dd sl)
    ⟨ho,rfl,⟨_,ho,rfl⟩,call_meets F.slot_tuple_mul ⟨_,ho,rfl⟩ F.entry_tuple_mul (F.args_tuple_mul_2 _ _) (tuple_mul0 l its.toArray n dd sl t hi) ⟨ho,?_⟩⟩)
  refine ⟨.ref s.heap.objs.size,_,I.laid (t':=s.toks) (o:=.tup []) (fun b ob q=>Heap.get?_push_of_some _ q) (Nat.le_refl _) ?_,rfl,q2 (by decide) _ (I.hok.fresh (Nat.le_refl _))⟩
  exact ⟨by rw [sizeLine_eq];decide,[],.nil,IsTup.new _ _⟩
 ·refine wpAny_binaryOp_repeat_ref (T:="tuple") (U:="int") (by decide) ⟨_,ho,rfl⟩ (fun s'=>typeIs_int s' _ t) noFill_tuple_mul F.fills_int_mul F.slot_int_rmul repeat_tuple F.slot_int_index.lookup
   (call_meets F.slot_int_rmul (typeIs_int s _ t) F.entry_int_rmul (F.args_int_rmul_2 _ _) (int_rmul_tuple _ t l its.toArray n dd sl)
    ⟨ho,rfl,⟨_,ho,rfl⟩,call_meets F.slot_tuple_mul ⟨_,ho,rfl⟩ F.entry_tuple_mul (F.args_tuple_mul_2 _ _) (tuple_mul1 l its.toArray n dd sl t) ⟨ho,?_⟩⟩)
  exact ⟨.ref l,H,I,rfl,q1 rfl⟩
end
end FcW
set_option maxRecDepth 100000
set_option maxHeartbeats 4000000
namespace Fc
open PySem PySem.Spec PyProof.Rows L2 FcR
open Evl (Ex)
section
def sp_oneV (K:PySem.W.Frag):Sp:=fun vs H Q _=>∃ (p a:Addr) (xs:List V),vs=[.ref p,.ref a]∧Src H p∧H a=some (.lst xs)∧a≠p∧xs≠[]∧xs.length<1000 ∧
 ∀ (H':Hp) (x:V),x∈xs→Src H' p→(∀ b,b≠p→H' b=H b)→Q x H'
def sp_law (K:PySem.W.Frag):Sp:=fun vs H Q _=>∃ (a:Addr) (ns:List Int),vs=[.ref a]∧ns.length≤63∧SqL K H a (ns.map V.int)∧∀ H',Q (.bl true) H'
theorem cut_mem {xs:List V} {lo hi:Option Int} {x:V} (h:x∈cutV xs lo hi):x∈xs:=by
 unfold cutV at h
 exact List.mem_of_mem_drop (List.mem_of_mem_take h)
section
variable {P:Program} {w:World} {h:Heap} {K:PySem.W.Frag} {mg:Str→Option Value} {base:Heap}
theorem ok_law_oneV (T:Tx w h K mg):Ok P w K mg base 2 ("_law_one",none) ["_law_source","_law_some"] (sp_oneV K):=by
 obtain ⟨fd,F⟩:=F_law_one T
 refine ⟨fd,?_,F.bindsN (fun _ _ _ _ _ _ us hl=>match us,hl with | [_,_],_=>rfl),F.kp⟩
 obtain ⟨fd_law_draw,G_law_draw,bi_law_draw,kp_law_draw⟩:=ok_law_draw (P:=P) (base:=base) T
 refine F.ok sc_law_one (fun vs H Q E h=>?_) (fun cdv A outer s H vs Q E hr h=>?_)
 ·obtain ⟨p,a,xs,rfl,⟨x,y,z,hp⟩,ha,hne,hk,hl,q⟩:=h
  rfl
 ·obtain ⟨p,a,xs,rfl,⟨x,y,z,hp⟩,ha,hne,hk,hl,q⟩:=h
  refine ⟨_,PSs.nox (pss_one (ps_ret (pe_ix ix_list (pv 1) (pe_call G_law_draw (hr.mono (by decide)) rfl (g_law_draw T) kp_law_draw bi_law_draw .nil passF (pa_cons (pv 0) (pa_cons (pe_callB call_len_seq rfl (fr_len T) b_len (pa_cons (pv 1) pa_nil)) pa_nil))) (fun _ _=>rfl)))),?_⟩
  have lk:0<xs.length:=List.length_pos_iff.mpr hk
  refine ⟨_,rfl,_,rfl,_,rfl,a,_,rfl,.inl (Evl.sq_of ha),?_⟩
  refine ⟨p,x,y,z,_,rfl,hp,(by omega),(by omega),fun x' y' z' v v0 v1=>?_⟩
  generalize e1:upd _ p _=H1
  obtain ⟨s1,o1⟩:=set_of e1
  clear e1
  obtain ⟨j,rfl⟩:∃ j:Nat,v=(j:Int):=⟨v.toNat,by omega⟩
  have hj:j<xs.length:=by omega
  have ha1:H1 a=some (.lst xs):=by rw [o1 a hne];exact ha
  refine ⟨a,_,_,xs[j],rfl,rfl,Evl.sq_of ha1,atI_nat (List.getElem?_eq_getElem hj),?_⟩
  exact q H1 _ (List.getElem_mem hj) ⟨x',y',z',s1⟩ o1
end
end
section
open FcM (Way Node Tab)
theorem slA_any {K:PySem.W.Frag} {F H:Hp} {a:Addr} {xs:List V} {lo hi:Option Int} {Q:VK} (xF:Ex F H) (h:SqT K F a xs) (q:∀ F' H' p,Gr (fun _=>False) F H F' H'→SqT K F' p (cutV xs lo hi)→Q (.ref p) H'):rSlA K (.ref a) lo hi H Q:=by
 refine ⟨a,xs,rfl,Evl.ex_t xF h,fun hf=>?_,fun _ p n=>?_⟩
 ·have e:cutV xs lo hi=xs:=by
   unfold cutV
   rw [hf.1,hf.2]
   simp
  exact q F H a (Gr.refl xF) (by rw [e];exact h)
 ·exact q _ _ p (Gr.frz (M:=fun _=>False) xF n upd_same (fun b hb=>upd_ne hb)) (Evl.st_of upd_same)
theorem catA_any {K:PySem.W.Frag} {F H:Hp} {a b:Addr} {xs ys:List V} {Q:VK} (xF:Ex F H) (h:SqT K F a xs) (k:SqT K F b ys) (hs:xs.length + ys.length≤1000) (q:∀ F' H' p,Gr (fun _=>False) F H F' H'→SqT K F' p (xs++ys)→Q (.ref p) H'):rCatA K (.ref a) (.ref b) H Q:=by
 refine ⟨a,b,xs,ys,rfl,rfl,Evl.ex_t xF h,Evl.ex_t xF k,Nat.le_of_lt (szl (by omega)),fun e=>?_,fun _ e=>?_,fun _ _ p n=>?_⟩
 ·subst e
  exact q F H b (Gr.refl xF) k
 ·subst e
  rw [List.append_nil] at q
  exact q F H a (Gr.refl xF) h
 ·exact q _ _ p (Gr.frz (M:=fun _=>False) xF n upd_same (fun b hb=>upd_ne hb)) (Evl.st_of upd_same)
theorem repN_any {K:PySem.W.Frag} {F H:Hp} {a:Addr} {xs:List V} {n:Nat} {Q:VK} (xF:Ex F H) (h:SqT K F a xs) (hne:xs≠[]) (hn:n≤1000) (hs:xs.length≤1000) (q:∀ F' H' p,Gr (fun _=>False) F H F' H'→SqT K F' p (List.replicate n xs).flatten→Q (.ref p) H'):FcW.rRepN K (.ref a) (.int (n:Int)) H Q:=by
 refine ⟨a,n,xs,rfl,rfl,Evl.ex_t xF h,hne,hn,hs,fun e=>?_,fun _ p np=>?_⟩
 ·subst e
  refine q F H a (Gr.refl xF) ?_
  simp
  exact h
 ·exact q _ _ p (Gr.frz (M:=fun _=>False) xF np upd_same (fun b hb=>upd_ne hb)) (Evl.st_of upd_same)
theorem cut_neg1 (xs:List V) (h:1≤xs.length):cutV xs none (some (-1))=xs.take (xs.length - 1):=by
 unfold cutV
 have:HT.sIx xs.length 0 none=0:=rfl
 rw [this]
 have h2:HT.sIx xs.length xs.length (some (-1))=xs.length - 1:=by
  show (if (-1:Int)<0 then ((-1:Int) + (xs.length:Int)).toNat else min (-1:Int).toNat xs.length)=_
  rw [if_pos (by decide)]
  omega
 rw [h2]
 simp
theorem cN_le (k:Str):cN k≤2:=by
 unfold cN
 repeat' split
 all_goals omega
theorem flat_one {α:Type} (x:α):∀ n,(List.replicate n [x]).flatten=List.replicate n x
 | 0=>rfl
 | n + 1=>by
  rw [List.replicate_succ,List.flatten_cons,flat_one x n]
  rfl
structure Sg (p:Addr) (F0 H0 F H:Hp):Prop where
 g:Gr (fun b=>b=p) F0 H0 F H
 f:F p=none
 s:Src H p
theorem Sg.start {p:Addr} {F H:Hp} (x:Ex F H) (f:F p=none) (s:Src H p):Sg p F H F H:=⟨Gr.refl x,f,s⟩
theorem Sg.ne {p:Addr} {F0 H0 F H:Hp} (S:Sg p F0 H0 F H) {a:Addr} (n:H a=none):p≠a:=fun e=>by
 obtain ⟨x,y,z,h⟩:=S.s
 rw [e,n] at h
 cases h
theorem Sg.new {p:Addr} {F0 H0 F H H':Hp} (S:Sg p F0 H0 F H) {a:Addr} {o:HO} (n:H a=none) (s:H' a=some o) (k:∀ b,b≠a→H' b=H b):∃ F',Ex F F'∧F' a=some o∧Sg p F0 H0 F' H':=by
 refine ⟨upd F a o,exu (Evl.Ex.refl _) (ex_none S.g.fh n),upd_same,S.g.trans (Gr.frz S.g.fh n s k),?_,?_⟩
 ·rw [upd_ne (S.ne n)]
  exact S.f
 ·obtain ⟨x,y,z,h⟩:=S.s
  exact ⟨x,y,z,by rw [k p (S.ne n)];exact h⟩
theorem Sg.sub {p:Addr} {F0 H0 F H F' H':Hp} (S:Sg p F0 H0 F H) (g:Gr (fun _=>False) F H F' H'):Sg p F0 H0 F' H':=by
 obtain ⟨x,y,z,h⟩:=S.s
 exact ⟨S.g.trans (g.mono fun _ w=>w.elim),g.nw p (by rw [h];exact fun w=>nomatch w) S.f id,x,y,z,g.kp _ _ h id⟩
theorem Sg.one {p:Addr} {F0 H0 F H H':Hp} (S:Sg p F0 H0 F H) (k:∀ b,b≠p→H' b=H b) (s:Src H' p):Sg p F0 H0 F H':=⟨S.g.trans (Gr.set S.g.fh rfl S.f k),S.f,s⟩
def sp_oddN (K:PySem.W.Frag):Sp:=fun vs H Q _=>∃ (F:Hp) (p:Addr),vs=[.ref p]∧Ex F H∧F p=none∧Src H p ∧
 ∀ (F' H':Hp) (v:V) (d:PyData),Sg p F H F' H'→Dz K F' v d→(∀ l,OddP l d)→Q v H'
theorem dsOf3 {k:Str} (h:k∈nmK):valV [((Sum.inr "do":Key),V.int 0),(Sum.inr "call",.int 0),(Sum.inr "while",.int 1),(Sum.inr "if",.int 2)] (.inr k)=some (.int (cN k:Int)):=by
 rcases nm_pat h with rfl | rfl | rfl | rfl<;>kernel_rfl
theorem dzA_rep {K:PySem.W.Frag} {F:Hp} {v:V} {d:PyData} (h:Dz K F v d):∀ n,DzAll K F (List.replicate n v) (List.replicate n d)
 | 0=>.nil
 | n + 1=>.cons h (dzA_rep h n)
section
variable {P:Program} {w:World} {h:Heap} {K:PySem.W.Frag} {mg:Str→Option Value} {base:Heap}
abbrev N_law_odd_named:List Str:=["_law_source","_law_good","_law_parts_here","_law_kind","_law_fine","_law_names","_law_bad","_law_odd_here"]
theorem sc_law_odd_named:FnScope N_law_odd_named ["_law_source"] (defScope sd_law_odd_named):=⟨rfl,rfl,rfl,by decide +kernel,rfl,by decide +kernel,by decide +kernel⟩
theorem ok_law_odd_named (T:Tx w h K mg):Ok P w K mg base 3 ("_law_odd_named",none) ["_law_source"] (sp_oddN K):=by
 obtain ⟨fd,F⟩:=F_law_odd_named T
 refine ⟨fd,?_,F.bindsN (fun _ _ _ _ _ _ us hl=>match us,hl with | [_],_=>rfl),F.kp⟩
 obtain ⟨fd_law_one,G_law_one,bi_law_one,kp_law_one⟩:=ok_law_oneV (P:=P) (base:=base) T
 refine F.ok sc_law_odd_named (fun vs H Q E h=>?_) (fun cdv A outer s H vs Q E hr h=>?_)
 ·obtain ⟨F,p,rfl,xF,fp,hp,q⟩:=h
  rfl
 ·obtain ⟨F,p,rfl,xF,fp,hp,q⟩:=h
  refine ⟨_,PSs.nox (pss_cons (ps_par rfl sc_law_odd_named.nd (i:=1) (j:=2) rfl rfl (by decide) rfl rfl (pa_cons (pe_tup (pa_cons pe_str (pa_cons pe_str pa_nil))) (pa_cons (pe_disp (pps_cons pe_str pe_int (pps_cons pe_str pe_int (pps_cons pe_str pe_int (pps_cons pe_str pe_int pps_nil)))) (by rfl) (by rfl) (fun z=>by cases z) (by decide)) pa_nil)) (by rfl)) (pss_cons (ps_set (i:=3) sc_law_odd_named.nd rfl (Or.inl rfl) (pe_call G_law_one (hr.mono (by decide)) rfl (g_law_one T) kp_law_one bi_law_one .nil passF (pa_cons (pv 0) (pa_cons (pe_lst (pa_cons pe_str (pa_cons pe_str (pa_cons pe_str (pa_cons pe_str (pa_cons pe_str pa_nil)))))) pa_nil)))) (pss_cons (ps_set (i:=4) sc_law_odd_named.nd rfl (Or.inl rfl) (pe_op op_catA (pe_tup (pa_cons (pv 3) (pa_cons (pe_call G_law_one (hr.mono (by decide)) rfl (g_law_one T) kp_law_one bi_law_one .nil passF (pa_cons (pv 0) (pa_cons (pe_lst (pa_cons pe_str (pa_cons pe_str pa_nil))) pa_nil))) pa_nil))) (pe_op FcW.op_repN (pe_tup (pa_cons (pv 1) pa_nil)) (pe_dget (hu_of hr) (pv 2) (pv 3) (fun _ _=>rfl))))) (pss_cons (ps_set (i:=5) sc_law_odd_named.nd rfl (Or.inl rfl) (pe_lst (pa_cons pe_str (pa_cons pe_str (pa_cons pe_str (pa_cons pe_str (pa_cons pe_str (pa_cons pe_str (pa_cons pe_str (pa_cons pe_str (pa_cons pe_str (pa_cons pe_str (pa_cons pe_str (pa_cons pe_int (pa_cons pe_non (pa_cons pe_bl (pa_cons (pe_lst (pa_cons pe_str pa_nil)) (pa_cons (pe_tup (pa_cons pe_str pa_nil)) pa_nil)))))))))))))))))) (pss_cons (ps_set (i:=6) sc_law_odd_named.nd rfl (Or.inl rfl) (pe_call G_law_one (hr.mono (by decide)) rfl (g_law_one T) kp_law_one bi_law_one .nil passF (pa_cons (pv 0) (pa_cons (pe_op op_cat (pv 5) (pe_lst (pa_cons (pv 1) (pa_cons pe_dnewK (pa_cons pe_str pa_nil))))) pa_nil)))) (pss_cons (ps_set (i:=7) sc_law_odd_named.nd rfl (Or.inl rfl) (pe_lst (pa_cons (pe_slice sl_tupA (pv 4) po_none (po_some (pe_un un_neg pe_int))) (pa_cons (pe_op op_catA (pv 4) (pe_tup (pa_cons (pv 1) pa_nil))) (pa_cons (pe_op op_catA (pe_slice sl_tupA (pv 4) po_none (po_some pe_int)) (pe_slice sl_tupA (pv 4) (po_some pe_int) po_none)) (pa_cons (pe_op op_catA (pv 4) (pe_tup (pa_cons pe_str pa_nil))) pa_nil)))))) (pss_one (ps_ret (pe_call G_law_one (hr.mono (by decide)) rfl (g_law_one T) kp_law_one bi_law_one .nil passF (pa_cons (pv 0) (pa_cons (pe_op op_cat (pe_op op_rep (pe_lst (pa_cons (pe_op op_catA (pe_tup (pa_cons (pv 3) (pa_cons (pv 6) pa_nil))) (pe_slice sl_tupA (pv 4) (po_some pe_int) po_none)) pa_nil)) pe_int) (pv 7)) pa_nil))))))))))),?_⟩
  have S0:=Sg.start xF fp hp
  refine ⟨sz (by simp),?_⟩
  intro p1 n1
  generalize e1:upd _ p1 _=H1
  obtain ⟨x1,s1,o1⟩:=new_of e1 n1
  clear e1
  obtain ⟨F1,e1,k1,S1⟩:=S0.new n1 s1 o1
  intro p2 n2
  refine ⟨upd_same,[(Sum.inr "do",.int 0),(Sum.inr "call",.int 0),(Sum.inr "while",.int 1),(Sum.inr "if",.int 2)],rfl,by decide,?_⟩
  generalize e2:upd (upd H1 p2 (.dK [])) p2 _=H2
  have s2:H2 p2=some (.dK [(Sum.inr "do",.int 0),(Sum.inr "call",.int 0),(Sum.inr "while",.int 1),(Sum.inr "if",.int 2)]):=by rw [← e2,upd_same]<;>rfl
  have o2:∀ b,b≠p2→H2 b=H1 b:=fun b hb=>by rw [← e2,upd_ne hb,upd_ne hb]
  clear e2
  obtain ⟨F2,e2,k2,S2⟩:=S1.new n2 s2 o2
  refine ⟨_,_,rfl,?_⟩
  refine ⟨_,rfl,sz (by simp),?_⟩
  intro p3 n3
  generalize e3:upd _ p3 _=H3
  obtain ⟨x3,s3,o3⟩:=new_of e3 n3
  clear e3
  obtain ⟨F3,e3,k3,S3⟩:=S2.new n3 s3 o3
  refine ⟨p,p3,_,rfl,S3.s,s3,(S2.ne n3).symm,by simp,by simp,fun H4 vk hk0 hp4 o4=>?_⟩
  have S4:=S3.one o4 hp4
  obtain ⟨k,rfl,hk⟩:∃ k:Str,vk=.str k∧k∈nmK:=by
   simp only [List.mem_cons,List.not_mem_nil,or_false] at hk0
   rcases hk0 with rfl | rfl | rfl | rfl | rfl<;>exact ⟨_,rfl,by decide⟩
  refine ⟨_,rfl,_,rfl,sz (by simp),?_⟩
  intro p5 n5
  generalize e5:upd _ p5 _=H5
  obtain ⟨x5,s5,o5⟩:=new_of e5 n5
  clear e5
  obtain ⟨F5,e5,k5,S5⟩:=S4.new n5 s5 o5
  refine ⟨p,p5,_,rfl,S5.s,s5,(S4.ne n5).symm,by simp,by simp,fun H6 vn hn0 hp6 o6=>?_⟩
  have S6:=S5.one o6 hp6
  obtain ⟨nm,rfl,hn⟩:∃ k:Str,vn=.str k∧k∈(["x","abcdefgh"]:List Str):=by
   simp only [List.mem_cons,List.not_mem_nil,or_false] at hn0
   rcases hn0 with rfl | rfl<;>exact ⟨_,rfl,by decide⟩
  refine ⟨sz (by simp),?_⟩
  intro p7 n7
  generalize e7:upd _ p7 _=H7
  obtain ⟨x7,s7,o7⟩:=new_of e7 n7
  clear e7
  obtain ⟨F7,e7,k7,S7⟩:=S6.new n7 s7 o7
  refine ⟨_,rfl,sz (by simp),?_⟩
  intro p8 n8
  generalize e8:upd _ p8 _=H8
  obtain ⟨x8,s8,o8⟩:=new_of e8 n8
  clear e8
  obtain ⟨F8,e8,k8,S8⟩:=S7.new n8 s8 o8
  have e28:=((e3.trans e5).trans e7).trans e8
  refine ⟨_,rfl,_,rfl,p2,.int (cN k:Int),rfl,?_,?_⟩
  ·rw [← dsOf3 hk]
   exact DGet.k (k:=Sum.inr k) (S8.g.fh _ _ (e28 _ _ k2))
  refine repN_any S8.g.fh (Evl.st_of k8) (by simp) (Nat.le_trans (cN_le k) (by decide)) (by simp) fun F9 H9 p9 g9 s9=>?_
  have S9:=S8.sub g9
  have c3:=cN_le k
  have e9:(List.replicate (cN k) [V.ref p1]).flatten=List.replicate (cN k) (V.ref p1):=flat_one ..
  rw [e9] at s9
  refine catA_any S9.g.fh (Evl.st_of (g9.ff _ _ (e8 _ _ k7))) s9 (by simp;omega) fun F10 H10 pf g10 sf=>?_
  have S10:=S9.sub g10
  have e1_10:=(((e2.trans e28).trans g9.ff).trans g10.ff)
  have dGood:Dz K F10 (.ref p1) goodD:=.tup (Evl.st_of (e1_10 _ _ k1)) (.cons (.of (.str _)) (.cons (.of (.str _)) .nil))
  have dF:DzAll K F10 ([.str k,.str nm]++List.replicate (cN k) (.ref p1)) (.str k::.str nm::List.replicate (cN k) goodD):=.cons (.of (.str _)) (.cons (.of (.str _)) (dzA_rep dGood _))
  refine ⟨sz (by simp),?_⟩
  intro p11 n11
  generalize e11:upd _ p11 _=H11
  obtain ⟨x11,s11,o11⟩:=new_of e11 n11
  clear e11
  obtain ⟨F11,e11,k11,S11⟩:=S10.new n11 s11 o11
  refine ⟨sz (by simp),?_⟩
  intro p12 n12
  generalize e12:upd _ p12 _=H12
  obtain ⟨x12,s12,o12⟩:=new_of e12 n12
  clear e12
  obtain ⟨F12,e12,k12,S12⟩:=S11.new n12 s12 o12
  refine ⟨sz (by simp),?_⟩
  intro p13 n13
  generalize e13:upd _ p13 _=H13
  obtain ⟨x13,s13,o13⟩:=new_of e13 n13
  clear e13
  obtain ⟨F13,e13,k13,S13⟩:=S12.new n13 s13 o13
  refine ⟨_,rfl,_,rfl,_,rfl,?_⟩
  intro p14 n14
  generalize e14:upd _ p14 _=H14
  obtain ⟨x14,s14,o14⟩:=new_of e14 n14
  clear e14
  obtain ⟨F14,e14,k14,S14⟩:=S13.new n14 s14 o14
  refine ⟨sz (by simp),?_⟩
  intro p15 n15
  generalize e15:upd _ p15 _=H15
  obtain ⟨x15,s15,o15⟩:=new_of e15 n15
  clear e15
  obtain ⟨F15,e15,k15,S15⟩:=S14.new n15 s15 o15
  have l13:H15 p13=some (.lst _):=S15.g.fh _ _ ((e14.trans e15) _ _ k13)
  refine ⟨p13,p15,_,_,rfl,rfl,l13,s15,sz (by simp),?_⟩
  intro p16 n16
  generalize e16:upd _ p16 _=H16
  obtain ⟨x16,s16,o16⟩:=new_of e16 n16
  clear e16
  obtain ⟨F16,e16,k16,S16⟩:=S15.new n16 s16 o16
  refine ⟨p,p16,_,rfl,S16.s,s16,(S15.ne n16).symm,by simp,by simp,fun H17 vb hvb hp17 o17=>?_⟩
  have S17:=S16.one o17 hp17
  have e10_16:=(((((e11.trans e12).trans e13).trans e14).trans e15).trans e16)
  obtain ⟨bd,dB,ib,sb⟩:∃ bd:PyData,Dz K F16 vb bd∧isName bd=false∧∀ x,bd=.str x→x.length≤100000:=by
   simp only [List.mem_append,List.mem_cons,List.not_mem_nil,or_false] at hvb
   have st:∀ x:Str,nameOk x=false→x.length≤100000→∃ bd:PyData,Dz K F16 (.str x) bd∧isName bd=false∧∀ y,bd=.str y→y.length≤100000:=fun x h1 h2=>⟨.str x,.of (.str _),h1,fun y e=>by cases e;exact h2⟩
   rcases hvb with ((rfl | rfl | rfl | rfl | rfl | rfl | rfl | rfl | rfl | rfl | rfl | rfl | rfl | rfl | rfl | rfl)) | (rfl | rfl | rfl)
   all_goals first
    | exact st _ (by kernel_rfl) (by decide +kernel)
    | exact ⟨.int 5,.of (.int _),rfl,fun y e=>by cases e⟩
    | exact ⟨.none,.of .non,rfl,fun y e=>by cases e⟩
    | exact ⟨.bool true,.of (.bl _),rfl,fun y e=>by cases e⟩
    | exact ⟨_,dz_ex e10_16 dGood,rfl,fun y e=>by cases e⟩
    | exact ⟨_,.dct ((e15.trans e16) _ _ k14),rfl,fun y e=>by cases e⟩
    | exact ⟨.list [.str "x"],.of (.lst (Evl.sq_of (((((e12.trans e13).trans e14).trans e15).trans e16) _ _ k11)) (.cons (.str _) .nil)),rfl,fun y e=>by cases e⟩
    | exact ⟨.tuple [.str "x"],.of (.tup (Evl.st_of ((((e13.trans e14).trans e15).trans e16) _ _ k12)) (.cons (.str _) .nil)),rfl,fun y e=>by cases e⟩
  have e10_16:Ex F10 F16:=e10_16
  have sf16:=Evl.ex_t e10_16 sf
  have dF16:=dzA_ex e10_16 dF
  have gd16:=dz_ex e10_16 dGood
  have g16:=e1_10.trans e10_16
  have c1:∀ xs:List V,cutV xs none (some 1)=xs.take 1:=fun xs=>cut_to xs 1
  have c2:∀ xs:List V,cutV xs (some 2) none=xs.drop 2:=fun xs=>cut_from xs 2
  refine ⟨_,rfl,?_⟩
  unfold tNoPart
  refine ⟨_,rfl,_,rfl,slA_any S17.g.fh sf16 fun F18 H18 q18 g18 s18=>?_⟩
  have S18:=S17.sub g18
  refine ⟨_,rfl,_,rfl,sz (by simp),?_⟩
  intro p19 n19
  generalize e19:upd _ p19 _=H19
  obtain ⟨x19,s19,o19⟩:=new_of e19 n19
  clear e19
  obtain ⟨F19,e19,k19,S19⟩:=S18.new n19 s19 o19
  refine catA_any S19.g.fh (Evl.ex_t (g18.ff.trans e19) sf16) (Evl.st_of k19) (by simp;omega) fun F20 H20 q20 g20 s20=>?_
  have S20:=S19.sub g20
  have e16_20:=((g18.ff.trans e19).trans g20.ff)
  refine ⟨_,rfl,?_⟩
  refine ⟨_,rfl,slA_any S20.g.fh (Evl.ex_t e16_20 sf16) fun F21 H21 q21 g21 s21=>?_⟩
  have S21:=S20.sub g21
  have e16_21:=e16_20.trans g21.ff
  refine ⟨_,rfl,_,rfl,slA_any S21.g.fh (Evl.ex_t e16_21 sf16) fun F22 H22 q22 g22 s22=>?_⟩
  have S22:=S21.sub g22
  have e16_22:=e16_21.trans g22.ff
  refine catA_any S22.g.fh (Evl.ex_t g22.ff s21) s22 ?_ fun F23 H23 q23 g23 s23=>?_
  ·rw [c1,c2,List.length_take,List.length_drop,List.length_append,List.length_replicate]
   simp
   omega
  have S23:=S22.sub g23
  have e16_23:=e16_22.trans g23.ff
  refine ⟨_,rfl,sz (by simp),?_⟩
  intro p24 n24
  generalize e24:upd _ p24 _=H24
  obtain ⟨x24,s24,o24⟩:=new_of e24 n24
  clear e24
  obtain ⟨F24,e24,k24,S24⟩:=S23.new n24 s24 o24
  refine catA_any S24.g.fh (Evl.ex_t (e16_23.trans e24) sf16) (Evl.st_of k24) (by simp;omega) fun F25 H25 q25 g25 s25=>?_
  have S25:=S24.sub g25
  have e16_25:=(e16_23.trans e24).trans g25.ff
  refine ⟨sz (by simp),?_⟩
  intro p26 n26
  generalize e26:upd _ p26 _=H26
  obtain ⟨x26,s26,o26⟩:=new_of e26 n26
  clear e26
  obtain ⟨F26,e26,k26,S26⟩:=S25.new n26 s26 o26
  rw [cut_neg1 _ (by simp)] at s18
  rw [c1,c2] at s23
  refine ⟨_,rfl,?_⟩
  refine ⟨_,rfl,_,rfl,sz (by simp),?_⟩
  intro p27 n27
  generalize e27:upd _ p27 _=H27
  obtain ⟨x27,s27,o27⟩:=new_of e27 n27
  clear e27
  obtain ⟨F27,e27,k27,S27⟩:=S26.new n27 s27 o27
  have e16_27:=(e16_25.trans e26).trans e27
  refine ⟨_,rfl,_,rfl,slA_any S27.g.fh (Evl.ex_t e16_27 sf16) fun F28 H28 q28 g28 s28=>?_⟩
  have S28:=S27.sub g28
  rw [c2] at s28
  refine catA_any S28.g.fh (Evl.st_of (g28.ff _ _ k27)) s28 (by simp;omega) fun F29 H29 q29 g29 s29=>?_
  have S29:=S28.sub g29
  refine ⟨sz (by simp),?_⟩
  intro p30 n30
  generalize e30:upd _ p30 _=H30
  obtain ⟨x30,s30,o30⟩:=new_of e30 n30
  clear e30
  obtain ⟨F30,e30,k30,S30⟩:=S29.new n30 s30 o30
  refine ⟨p30,4,_,rfl,rfl,s30,by decide,by decide,sz (by simp),?_⟩
  intro p31 n31
  generalize e31:upd _ p31 _=H31
  obtain ⟨x31,s31,o31⟩:=new_of e31 n31
  clear e31
  obtain ⟨F31,e31,k31,S31⟩:=S30.new n31 s31 o31
  have e26_31:=((((e27.trans g28.ff).trans g29.ff).trans e30).trans e31)
  refine ⟨_,rfl,p31,p26,_,_,rfl,rfl,s31,S31.g.fh _ _ (e26_31 _ _ k26),sz (by simp),?_⟩
  intro p32 n32
  generalize e32:upd _ p32 _=H32
  obtain ⟨x32,s32,o32⟩:=new_of e32 n32
  clear e32
  obtain ⟨F32,e32,k32,S32⟩:=S31.new n32 s32 o32
  refine ⟨p,p32,_,rfl,S32.s,s32,(S31.ne n32).symm,by simp,by simp,fun H33 v hv hp33 o33=>?_⟩
  have S33:=S32.one o33 hp33
  have e29_32:=((e30.trans e31).trans e32)
  have e16_32:=((e16_27.trans g28.ff).trans g29.ff).trans e29_32
  have e26_32:=e26_31.trans e32
  simp only [List.mem_append,List.mem_cons,List.not_mem_nil,or_false] at hv
  have hv:v=.ref q29∨v=.ref q18∨v=.ref q20∨v=.ref q23∨v=.ref q25:=by
   rcases hv with hv | hv
   ·refine .inl ?_
    simpa [List.replicate] using hv
   ·exact .inr hv
  have lF:([V.str k,.str nm]++List.replicate (cN k) (V.ref p1)).length - 1=cN k + 1:=by simp
  rw [lF] at s18
  have dF28:=dzA_ex (e16_27.trans g28.ff) dF16
  have gd20:=dz_ex e16_20 gd16
  have od:=odd_len hk hn
  rcases hv with rfl | rfl | rfl | rfl | rfl
  ·refine q F32 H33 _ _ S33 (.tup (Evl.ex_t e29_32 s29) ?_) (odd_nm hk ib sb)
   exact .cons (.of (.str _)) (.cons (dz_ex e16_32 dB) (dzA_ex (g29.ff.trans e29_32) (dzA_drop 2 dF28)))
  ·refine q F32 H33 _ _ S33 (.tup (Evl.ex_t ((((((e19.trans g20.ff).trans g21.ff).trans g22.ff).trans g23.ff).trans ((e24.trans g25.ff).trans e26)).trans e26_32) s18) (dzA_ex e16_32 (dzA_take (cN k + 1) dF16))) (fun l=>od l _ (by simp))
  ·refine q F32 H33 _ _ S33 (.tup (Evl.ex_t ((((g21.ff.trans g22.ff).trans g23.ff).trans ((e24.trans g25.ff).trans e26)).trans e26_32) s20) (dzA_ex e16_32 (dzA_app dF16 (.cons gd16 .nil)))) (fun l=>od l _ (by simp))
  ·refine q F32 H33 _ _ S33 (.tup (Evl.ex_t ((((e24.trans g25.ff).trans e26)).trans e26_32) s23) (dzA_ex e16_32 (dzA_app (dzA_take 1 dF16) (dzA_drop 2 dF16)))) (fun l=>od l _ (by simp))
  ·refine q F32 H33 _ _ S33 (.tup (Evl.ex_t (e26.trans e26_32) s25) (dzA_ex e16_32 (dzA_app dF16 (.cons (.of (.str _)) .nil)))) (fun l=>od l _ (by simp))
end
end
section
open FcM (Way Node Tab)
def OVs (K:PySem.W.Frag) (F:Hp) (l:Nat) (us:List V):Prop:=∀ v∈us,∃ d,Dz K F v d∧OddP l d
theorem ovs_one {K:PySem.W.Frag} {F:Hp} {l:Nat} {v:V} {d:PyData} (h:Dz K F v d) (o:OddP l d):OVs K F l [v]:=fun u hu=>by
 rw [List.mem_singleton.mp hu]
 exact ⟨d,h,o⟩
theorem ovs_cons {K:PySem.W.Frag} {F:Hp} {l:Nat} {v:V} {d:PyData} {us:List V} (h:Dz K F v d) (o:OddP l d) (t:OVs K F l us):OVs K F l (v::us):=fun u hu=>by
 rcases List.mem_cons.mp hu with rfl | hu
 ·exact ⟨d,h,o⟩
 ·exact t u hu
theorem ovs_ex {K:PySem.W.Frag} {F F':Hp} {l:Nat} {us:List V} (e:Ex F F') (t:OVs K F l us):OVs K F' l us:=fun u hu=>(t u hu).imp fun d z=>⟨dz_ex e z.1,z.2⟩
theorem Sg.n0 {p:Addr} {F0 H0 F H:Hp} (S:Sg p F0 H0 F H) {a:Addr} (n:H a=none):H0 a=none:=by
 cases e:H0 a with
 | none=>rfl
 | some o =>
  have:=S.g.kp a o e (fun z=>S.ne n z.symm)
  rw [n] at this
  cases this
theorem Sg.keep {p:Addr} {F0 H0 F H H':Hp} (S:Sg p F0 H0 F H) {a:Addr} {o:HO} (n:H a=none) (s:H' a=some o) (k:∀ b,b≠a→H' b=H b):Sg p F0 H0 F H':=by
 obtain ⟨x,y,z,h⟩:=S.s
 exact ⟨S.g.trans (Gr.new S.g.fh fun b o hb=>by rw [k b (ne_of_none hb n)];exact hb),S.f,x,y,z,by rw [k p (S.ne n)];exact h⟩
theorem Sg.newF {p:Addr} {F0 H0 F H H':Hp} (S:Sg p F0 H0 F H) {a:Addr} {o:HO} (n:H a=none) (s:H' a=some o) (k:∀ b,b≠a→H' b=H b):∃ F',Ex F F'∧F' a=some o∧Sg p F0 H0 F' H'∧∀ b,b≠a→F' b=F b:=by
 refine ⟨upd F a o,exu (Evl.Ex.refl _) (ex_none S.g.fh n),upd_same,⟨S.g.trans (Gr.frz S.g.fh n s k),?_,?_⟩,fun b hb=>upd_ne hb⟩
 ·rw [upd_ne (S.ne n)]
  exact S.f
 ·obtain ⟨x,y,z,h⟩:=S.s
  exact ⟨x,y,z,by rw [k p (S.ne n)];exact h⟩
theorem Sg.mut {p:Addr} {F0 H0 F H H':Hp} (S:Sg p F0 H0 F H) {a:Addr} (n:H0 a=none) (f:F a=none) (ne:p≠a) (k:∀ b,b≠a→H' b=H b):Sg p F0 H0 F H':=by
 obtain ⟨x,y,z,h⟩:=S.s
 refine ⟨⟨S.g.ff,fun b o hb=>?_,S.g.nw,fun b o hb nb=>?_⟩,S.f,x,y,z,by rw [k p ne];exact h⟩
 ·rw [k b (ne_of_none hb f)]
  exact S.g.fh b o hb
 ·rw [k b (ne_of_none hb n)]
  exact S.g.kp b o hb nb
theorem odd_jmp {k:Str} (hk:k="break"∨k="continue") {loops:Nat} (hl:loops≤1000):OddP loops (.tuple [.str k])∧OddP loops (.tuple [.str k,.int 0])∧OddP loops (.tuple [.str k,.int (-1)])∧OddP loops (.tuple [.str k,.int ((loops:Int) + 1)])∧OddP loops (.tuple [.str k,.bool true])∧OddP loops (.tuple [.str k,.str "1"])∧OddP loops (.tuple [.str k,.list [.int 1]])∧OddP loops (.tuple [.str k,.none])∧OddP loops (.tuple [.str k,.int 1,.int 1])∧OddP loops (.tuple [.str k,.int (10 ^ (30:Int).toNat)]):=by
 have a:∀ n:Int,n≤0∨(loops:Int)<n→0<n∨n<1→OddP loops (.tuple [.str k,.int n]):=fun n h _=>by
  refine odd_of ?_ rfl ?_
  ·have:isNum 1 0 (.int n)=false:=by
    show (decide (1≤n) && decide (n≤0))=false
    rw [Bool.and_eq_false_iff]
    by_cases z:1≤n
    ·exact .inr (decide_eq_false (by omega))
    ·exact .inl (decide_eq_false z)
   rcases hk with rfl | rfl<;>exact this
  ·show (!(decide (k="break") || decide (k="continue")) || decide (n<1) || decide ((loops:Int)<n))=true
   rw [Bool.or_eq_true_iff,Bool.or_eq_true_iff]
   rcases h with h | h
   ·exact .inl (.inr (decide_eq_true (by omega)))
   ·exact .inr (decide_eq_true h)
 have e30:((10:Int) ^ (30:Int).toNat)=10 ^ 30:=by decide
 refine ⟨?_,a _ (by omega) (by omega),a _ (by omega) (by omega),a _ (by omega) (by omega),?_,?_,?_,?_,?_,a _ (.inr (by rw [e30];omega)) (.inl (by rw [e30];decide))⟩
 all_goals rcases hk with rfl | rfl<;>exact odd_c (by kernel_rfl) _
def sp_odd3 (K:PySem.W.Frag):Sp:=fun vs H Q _=>∃ (F:Hp) (p:Addr) (loops:Nat),vs=[.ref p,.int (loops:Int)]∧loops≤1000∧Ex F H∧F p=none∧Src H p ∧
 ∀ (F' H':Hp) (v:V) (d:PyData),Sg p F H F' H'→Dz K F' v d→OddP loops d→Q v H'
section
variable {P:Program} {w:World} {h:Heap} {K:PySem.W.Frag} {mg:Str→Option Value} {base:Heap}
abbrev N_law_odd:List Str:=["_law_source","_law_loops_here","_law_good","_law_odd_here","_law_kind"]
theorem sc_law_odd:FnScope N_law_odd ["_law_source","_law_loops_here"] (defScope sd_law_odd):=⟨rfl,rfl,rfl,by decide +kernel,rfl,by decide +kernel,by decide +kernel⟩
theorem ok_law_odd (T:Tx w h K mg):Ok P w K mg base 4 ("_law_odd",none) ["_law_source","_law_loops_here"] (sp_odd3 K):=by
 obtain ⟨fd,F⟩:=F_law_odd T
 refine ⟨fd,?_,F.bindsN (fun _ _ _ _ _ _ us hl=>match us,hl with | [_,_],_=>rfl),F.kp⟩
 obtain ⟨fd_law_draw,G_law_draw,bi_law_draw,kp_law_draw⟩:=ok_law_draw (P:=P) (base:=base) T
 obtain ⟨fd_law_odd_named,G_law_odd_named,bi_law_odd_named,kp_law_odd_named⟩:=ok_law_odd_named (P:=P) (base:=base) T
 obtain ⟨fd_law_one,G_law_one,bi_law_one,kp_law_one⟩:=ok_law_oneV (P:=P) (base:=base) T
 refine F.ok sc_law_odd (fun vs H Q E h=>?_) (fun cdv A outer s H vs Q E hr h=>?_)
 ·obtain ⟨F,p,loops,rfl,hlp,xF,fp,hp,q⟩:=h
  rfl
 ·obtain ⟨F,p,loops,rfl,hlp,xF,fp,hp,q⟩:=h
  refine ⟨_,PSs.nox (pss_cons (ps_if (pt_cmpR op_eq (pe_call G_law_draw (hr.mono (by decide)) rfl (g_law_draw T) kp_law_draw bi_law_draw .nil passF (pa_cons (pv 0) (pa_cons pe_int pa_nil))) pe_int (nomark _)) (pss_one (ps_ret (pe_call G_law_odd_named (hr.mono (by decide)) rfl (g_law_odd_named T) kp_law_odd_named bi_law_odd_named .nil passF (pa_cons (pv 0) pa_nil)))) pss_nil) (pss_cons (ps_set (i:=2) sc_law_odd.nd rfl (Or.inl rfl) (pe_tup (pa_cons pe_str (pa_cons pe_str pa_nil)))) (pss_cons (ps_set (i:=3) sc_law_odd.nd rfl (Or.inl rfl) (pe_lst (pa_cons pe_non (pa_cons pe_int (pa_cons pe_str (pa_cons (pe_lst pa_nil) (pa_cons (pe_tup pa_nil) (pa_cons (pe_lst (pa_cons pe_str (pa_cons pe_str pa_nil))) (pa_cons pe_dnewK (pa_cons (pe_tup (pa_cons pe_str pa_nil)) (pa_cons (pe_tup (pa_cons pe_str (pa_cons pe_str (pa_cons pe_str pa_nil)))) (pa_cons (pe_tup (pa_cons pe_str (pa_cons pe_str pa_nil))) (pa_cons (pe_tup (pa_cons (pe_lst (pa_cons pe_str pa_nil)) (pa_cons pe_str pa_nil))) (pa_cons (pe_tup (pa_cons pe_str (pa_cons pe_str pa_nil))) pa_nil)))))))))))))) (pss_cons (ps_set (i:=3) sc_law_odd.nd rfl (Or.inl rfl) (pe_op op_cat (pv 3) (pe_lst (pa_cons (pe_tup (pa_cons pe_str (pa_cons pe_str pa_nil))) (pa_cons (pe_tup (pa_cons pe_str (pa_cons pe_str pa_nil))) (pa_cons (pe_tup (pa_cons pe_str (pa_cons pe_str pa_nil))) (pa_cons (pe_tup (pa_cons pe_str (pa_cons pe_int pa_nil))) (pa_cons (pe_tup (pa_cons pe_str (pa_cons (pe_lst (pa_cons pe_str pa_nil)) pa_nil))) (pa_cons (pe_tup (pa_cons pe_str (pa_cons pe_str (pa_cons (pv 2) pa_nil)))) pa_nil))))))))) (pss_cons (ps_set (i:=3) sc_law_odd.nd rfl (Or.inl rfl) (pe_op op_cat (pv 3) (pe_lst (pa_cons (pe_tup (pa_cons pe_str (pa_cons (pv 2) pa_nil))) (pa_cons (pe_tup (pa_cons pe_str (pa_cons pe_str (pa_cons (pv 2) pa_nil)))) (pa_cons (pe_tup (pa_cons pe_str (pa_cons (pe_tup pa_nil) pa_nil))) (pa_cons (pe_tup (pa_cons pe_str (pa_cons (pe_lst (pa_cons (pv 2) pa_nil)) pa_nil))) (pa_cons (pe_tup (pa_cons pe_str (pa_cons (pv 2) (pa_cons (pv 2) pa_nil)))) pa_nil)))))))) (pss_cons (ps_expr (pe_bm PySem.F.plainAttrs_list PySem.F.slot_list_append PySem.F.type_list_append mt_append (pv 3) (pa_cons (pe_tup (pa_cons pe_str (pa_cons pe_str pa_nil))) pa_nil))) (pss_cons (ps_set (i:=3) sc_law_odd.nd rfl (Or.inl rfl) (pe_op op_cat (pv 3) (pe_lst (pa_cons (pe_tup (pa_cons pe_str (pa_cons pe_int pa_nil))) (pa_cons (pe_tup (pa_cons pe_str (pa_cons pe_str pa_nil))) (pa_cons (pe_tup (pa_cons pe_str (pa_cons (pv 2) pa_nil))) (pa_cons (pe_tup (pa_cons pe_str (pa_cons (pv 2) (pa_cons (pv 2) (pa_cons (pv 2) pa_nil))))) (pa_cons (pe_tup (pa_cons pe_non pa_nil)) (pa_cons (pe_tup (pa_cons pe_bl (pa_cons pe_str pa_nil))) pa_nil))))))))) (pss_cons (ps_for PassesOwn.never rfl (pi_tup (pe_tup (pa_cons pe_str (pa_cons pe_str pa_nil)))) (pg_name (i:=4) sc_law_odd.nd rfl (Or.inl rfl)) (pss_cons (ps_set (i:=3) sc_law_odd.nd rfl (Or.inl rfl) (pe_op op_cat (pv 3) (pe_lst (pa_cons (pe_tup (pa_cons (pv 4) pa_nil)) (pa_cons (pe_tup (pa_cons (pv 4) (pa_cons pe_int pa_nil))) (pa_cons (pe_tup (pa_cons (pv 4) (pa_cons (pe_un un_neg pe_int) pa_nil))) (pa_cons (pe_tup (pa_cons (pv 4) (pa_cons (pe_op op_add (pv 1) pe_int) pa_nil))) (pa_cons (pe_tup (pa_cons (pv 4) (pa_cons pe_bl pa_nil))) (pa_cons (pe_tup (pa_cons (pv 4) (pa_cons pe_str pa_nil))) (pa_cons (pe_tup (pa_cons (pv 4) (pa_cons (pe_lst (pa_cons pe_int pa_nil)) pa_nil))) pa_nil)))))))))) (pss_one (ps_set (i:=3) sc_law_odd.nd rfl (Or.inl rfl) (pe_op op_cat (pv 3) (pe_lst (pa_cons (pe_tup (pa_cons (pv 4) (pa_cons pe_non pa_nil))) (pa_cons (pe_tup (pa_cons (pv 4) (pa_cons pe_int (pa_cons pe_int pa_nil)))) (pa_cons (pe_tup (pa_cons (pv 4) (pa_cons (pe_op op_pow pe_int pe_int) pa_nil))) pa_nil))))))))) (pss_one (ps_ret (pe_call G_law_one (hr.mono (by decide)) rfl (g_law_one T) kp_law_one bi_law_one .nil passF (pa_cons (pv 0) (pa_cons (pv 3) pa_nil))))))))))))),?_⟩
  have S0:=Sg.start xF fp hp
  obtain ⟨sx,sy,sz',hp0⟩:=hp
  refine ⟨_,rfl,p,sx,sy,sz',2,rfl,hp0,by decide,by decide,fun x' y' z' v v0 v1=>?_⟩
  generalize e1:upd _ p _=H1
  obtain ⟨s1,o1⟩:=set_of e1
  clear e1
  have S1:=S0.one o1 ⟨_,_,_,s1⟩
  refine ⟨rfl,_,rfl,ite_of (fun h2=>?_) (fun h2=>?_)⟩
  ·refine ⟨_,rfl,F,p,rfl,S1.g.fh,fp,S1.s,fun F' H' v d S dz od=>q F' H' v d ⟨S1.g.trans S.g,S.f,S.s⟩ dz (od loops)⟩
  generalize hF1:F=F1 at S1
  refine ⟨sz (by simp),?_⟩
  intro p2 n2
  generalize e2:upd _ p2 _=H2
  obtain ⟨x2,s2,o2⟩:=new_of e2 n2
  clear e2
  obtain ⟨F2,e2,k2,S2⟩:=S1.new n2 s2 o2
  have dG:Dz K F2 (.ref p2) goodD:=.tup (Evl.st_of k2) (.cons (.of (.str _)) (.cons (.of (.str _)) .nil))
  have dGp:Dp K F2 (.ref p2) goodD:=.tup (Evl.st_of k2) (.cons (.str _) (.cons (.str _) .nil))
  have A:OVs K F2 loops [.non]:=ovs_one (.of .non) (odd_c (by kernel_rfl) _)
  have A:=ovs_cons (v:=.int 5) (.of (.int _)) (odd_c (by kernel_rfl) _) A
  have A:=ovs_cons (v:=.str "do") (.of (.str _)) (odd_c (by kernel_rfl) _) A
  refine ⟨sz (by simp),?_⟩
  intro p3 n3
  generalize e3:upd _ p3 _=H3
  obtain ⟨x3,s3,o3⟩:=new_of e3 n3
  clear e3
  obtain ⟨F3,e3,k3,S3⟩:=S2.new n3 s3 o3
  have A:=ovs_ex e3 A
  have dGp:=dp_ex e3 dGp
  have dG:=dz_ex e3 dG
  have d3:Dz K F3 (.ref p3) (.list []):=.of (.lst (Evl.sq_of k3) (.nil))
  have A:=ovs_cons (v:=.ref p3) (d3) (odd_c (by kernel_rfl) _) A
  refine ⟨sz (by simp),?_⟩
  intro p4 n4
  generalize e4:upd _ p4 _=H4
  obtain ⟨x4,s4,o4⟩:=new_of e4 n4
  clear e4
  obtain ⟨F4,e4,k4,S4⟩:=S3.new n4 s4 o4
  have A:=ovs_ex e4 A
  have dGp:=dp_ex e4 dGp
  have dG:=dz_ex e4 dG
  have d4:Dz K F4 (.ref p4) (.tuple []):=.tup (Evl.st_of k4) (.nil)
  have A:=ovs_cons (v:=.ref p4) (d4) (odd_c (by kernel_rfl) _) A
  refine ⟨sz (by simp),?_⟩
  intro p5 n5
  generalize e5:upd _ p5 _=H5
  obtain ⟨x5,s5,o5⟩:=new_of e5 n5
  clear e5
  obtain ⟨F5,e5,k5,S5⟩:=S4.new n5 s5 o5
  have A:=ovs_ex e5 A
  have dGp:=dp_ex e5 dGp
  have dG:=dz_ex e5 dG
  have d5:Dz K F5 (.ref p5) (.list [.str "do",.str "x"]):=.of (.lst (Evl.sq_of k5) (.cons ((.str _)) (.cons ((.str _)) (.nil))))
  have A:=ovs_cons (v:=.ref p5) (d5) (odd_c (by kernel_rfl) _) A
  intro p6 n6
  generalize e6:upd _ p6 _=H6
  obtain ⟨x6,s6,o6⟩:=new_of e6 n6
  clear e6
  obtain ⟨F6,e6,k6,S6⟩:=S5.new n6 s6 o6
  have A:=ovs_ex e6 A
  have dGp:=dp_ex e6 dGp
  have dG:=dz_ex e6 dG
  have d6:Dz K F6 (.ref p6) (.dict []):=.dct k6
  have A:=ovs_cons (v:=.ref p6) (d6) (odd_c (by kernel_rfl) _) A
  refine ⟨sz (by simp),?_⟩
  intro p7 n7
  generalize e7:upd _ p7 _=H7
  obtain ⟨x7,s7,o7⟩:=new_of e7 n7
  clear e7
  obtain ⟨F7,e7,k7,S7⟩:=S6.new n7 s7 o7
  have A:=ovs_ex e7 A
  have dGp:=dp_ex e7 dGp
  have dG:=dz_ex e7 dG
  have d7:Dz K F7 (.ref p7) (.tuple [.str "do"]):=.tup (Evl.st_of k7) (.cons (.of (.str _)) (.nil))
  have A:=ovs_cons (v:=.ref p7) (d7) (odd_c (by kernel_rfl) _) A
  refine ⟨sz (by simp),?_⟩
  intro p8 n8
  generalize e8:upd _ p8 _=H8
  obtain ⟨x8,s8,o8⟩:=new_of e8 n8
  clear e8
  obtain ⟨F8,e8,k8,S8⟩:=S7.new n8 s8 o8
  have A:=ovs_ex e8 A
  have dGp:=dp_ex e8 dGp
  have dG:=dz_ex e8 dG
  have d8:Dz K F8 (.ref p8) (.tuple [.str "do",.str "x",.str "y"]):=.tup (Evl.st_of k8) (.cons (.of (.str _)) (.cons (.of (.str _)) (.cons (.of (.str _)) (.nil))))
  have A:=ovs_cons (v:=.ref p8) (d8) (odd_c (by kernel_rfl) _) A
  refine ⟨sz (by simp),?_⟩
  intro p9 n9
  generalize e9:upd _ p9 _=H9
  obtain ⟨x9,s9,o9⟩:=new_of e9 n9
  clear e9
  obtain ⟨F9,e9,k9,S9⟩:=S8.new n9 s9 o9
  have A:=ovs_ex e9 A
  have dGp:=dp_ex e9 dGp
  have dG:=dz_ex e9 dG
  have d9:Dz K F9 (.ref p9) (.tuple [.str "go",.str "x"]):=.tup (Evl.st_of k9) (.cons (.of (.str _)) (.cons (.of (.str _)) (.nil)))
  have A:=ovs_cons (v:=.ref p9) (d9) (odd_c (by kernel_rfl) _) A
  refine ⟨sz (by simp),?_⟩
  intro p10 n10
  generalize e10:upd _ p10 _=H10
  obtain ⟨x10,s10,o10⟩:=new_of e10 n10
  clear e10
  obtain ⟨F10,e10,k10,S10⟩:=S9.new n10 s10 o10
  have A:=ovs_ex e10 A
  have dGp:=dp_ex e10 dGp
  have dG:=dz_ex e10 dG
  have d10:Dz K F10 (.ref p10) (.list [.str "do"]):=.of (.lst (Evl.sq_of k10) (.cons ((.str _)) (.nil)))
  refine ⟨sz (by simp),?_⟩
  intro p11 n11
  generalize e11:upd _ p11 _=H11
  obtain ⟨x11,s11,o11⟩:=new_of e11 n11
  clear e11
  obtain ⟨F11,e11,k11,S11⟩:=S10.new n11 s11 o11
  have A:=ovs_ex e11 A
  have dGp:=dp_ex e11 dGp
  have d10:=dz_ex e11 d10
  have dG:=dz_ex e11 dG
  have d11:Dz K F11 (.ref p11) (.tuple [.list [.str "do"],.str "x"]):=.tup (Evl.st_of k11) (.cons (d10) (.cons (.of (.str _)) (.nil)))
  have A:=ovs_cons (v:=.ref p11) (d11) (odd_c (by kernel_rfl) _) A
  refine ⟨sz (by simp),?_⟩
  intro p12 n12
  generalize e12:upd _ p12 _=H12
  obtain ⟨x12,s12,o12⟩:=new_of e12 n12
  clear e12
  obtain ⟨F12,e12,k12,S12⟩:=S11.new n12 s12 o12
  have A:=ovs_ex e12 A
  have dGp:=dp_ex e12 dGp
  have dG:=dz_ex e12 dG
  have d12:Dz K F12 (.ref p12) (.tuple [.str "do",.str ""]):=.tup (Evl.st_of k12) (.cons (.of (.str _)) (.cons (.of (.str _)) (.nil)))
  have A:=ovs_cons (v:=.ref p12) (d12) (odd_c (by kernel_rfl) _) A
  refine ⟨sz (by simp),?_⟩
  intro p13 n13
  generalize e13:upd _ p13 _=H13
  obtain ⟨x13,s13,o13⟩:=new_of e13 n13
  clear e13
  have S13:=S12.keep n13 s13 o13
  generalize hF13:F12=F13 at *
  have hL:=s13
  refine ⟨_,rfl,?_⟩
  refine ⟨sz (by simp),?_⟩
  intro p14 n14
  generalize e14:upd _ p14 _=H14
  obtain ⟨x14,s14,o14⟩:=new_of e14 n14
  clear e14
  obtain ⟨F14,e14,k14,S14⟩:=S13.new n14 s14 o14
  have hL:=x14 _ _ hL
  have A:=ovs_ex e14 A
  have dGp:=dp_ex e14 dGp
  have dG:=dz_ex e14 dG
  have d14:Dz K F14 (.ref p14) (.tuple [.str "do",.str "abcdefghi"]):=.tup (Evl.st_of k14) (.cons (.of (.str _)) (.cons (.of (.str _)) (.nil)))
  have A:=ovs_cons (v:=.ref p14) (d14) (odd_c (by kernel_rfl) _) A
  refine ⟨sz (by simp),?_⟩
  intro p15 n15
  generalize e15:upd _ p15 _=H15
  obtain ⟨x15,s15,o15⟩:=new_of e15 n15
  clear e15
  obtain ⟨F15,e15,k15,S15⟩:=S14.new n15 s15 o15
  have hL:=x15 _ _ hL
  have A:=ovs_ex e15 A
  have dGp:=dp_ex e15 dGp
  have dG:=dz_ex e15 dG
  have d15:Dz K F15 (.ref p15) (.tuple [.str "call",.str "A"]):=.tup (Evl.st_of k15) (.cons (.of (.str _)) (.cons (.of (.str _)) (.nil)))
  have A:=ovs_cons (v:=.ref p15) (d15) (odd_c (by kernel_rfl) _) A
  refine ⟨sz (by simp),?_⟩
  intro p16 n16
  generalize e16:upd _ p16 _=H16
  obtain ⟨x16,s16,o16⟩:=new_of e16 n16
  clear e16
  obtain ⟨F16,e16,k16,S16⟩:=S15.new n16 s16 o16
  have hL:=x16 _ _ hL
  have A:=ovs_ex e16 A
  have dGp:=dp_ex e16 dGp
  have dG:=dz_ex e16 dG
  have d16:Dz K F16 (.ref p16) (.tuple [.str "call",.str "a1"]):=.tup (Evl.st_of k16) (.cons (.of (.str _)) (.cons (.of (.str _)) (.nil)))
  have A:=ovs_cons (v:=.ref p16) (d16) (odd_c (by kernel_rfl) _) A
  refine ⟨sz (by simp),?_⟩
  intro p17 n17
  generalize e17:upd _ p17 _=H17
  obtain ⟨x17,s17,o17⟩:=new_of e17 n17
  clear e17
  obtain ⟨F17,e17,k17,S17⟩:=S16.new n17 s17 o17
  have hL:=x17 _ _ hL
  have A:=ovs_ex e17 A
  have dGp:=dp_ex e17 dGp
  have dG:=dz_ex e17 dG
  have d17:Dz K F17 (.ref p17) (.tuple [.str "do",.int 5]):=.tup (Evl.st_of k17) (.cons (.of (.str _)) (.cons (.of (.int _)) (.nil)))
  have A:=ovs_cons (v:=.ref p17) (d17) (odd_c (by kernel_rfl) _) A
  refine ⟨sz (by simp),?_⟩
  intro p18 n18
  generalize e18:upd _ p18 _=H18
  obtain ⟨x18,s18,o18⟩:=new_of e18 n18
  clear e18
  obtain ⟨F18,e18,k18,S18⟩:=S17.new n18 s18 o18
  have hL:=x18 _ _ hL
  have A:=ovs_ex e18 A
  have dGp:=dp_ex e18 dGp
  have dG:=dz_ex e18 dG
  have d18:Dz K F18 (.ref p18) (.list [.str "x"]):=.of (.lst (Evl.sq_of k18) (.cons ((.str _)) (.nil)))
  refine ⟨sz (by simp),?_⟩
  intro p19 n19
  generalize e19:upd _ p19 _=H19
  obtain ⟨x19,s19,o19⟩:=new_of e19 n19
  clear e19
  obtain ⟨F19,e19,k19,S19⟩:=S18.new n19 s19 o19
  have hL:=x19 _ _ hL
  have A:=ovs_ex e19 A
  have dGp:=dp_ex e19 dGp
  have d18:=dz_ex e19 d18
  have dG:=dz_ex e19 dG
  have d19:Dz K F19 (.ref p19) (.tuple [.str "do",.list [.str "x"]]):=.tup (Evl.st_of k19) (.cons (.of (.str _)) (.cons (d18) (.nil)))
  have A:=ovs_cons (v:=.ref p19) (d19) (odd_c (by kernel_rfl) _) A
  refine ⟨_,rfl,?_⟩
  refine ⟨sz (by simp),?_⟩
  intro p20 n20
  generalize e20:upd _ p20 _=H20
  obtain ⟨x20,s20,o20⟩:=new_of e20 n20
  clear e20
  obtain ⟨F20,e20,k20,S20⟩:=S19.new n20 s20 o20
  have hL:=x20 _ _ hL
  have A:=ovs_ex e20 A
  have dGp:=dp_ex e20 dGp
  have dG:=dz_ex e20 dG
  have d20:Dz K F20 (.ref p20) (.tuple [.str "if",.str "x",goodD]):=.tup (Evl.st_of k20) (.cons (.of (.str _)) (.cons (.of (.str _)) (.cons (dG) (.nil))))
  have A:=ovs_cons (v:=.ref p20) (d20) (odd_c (by kernel_rfl) _) A
  refine ⟨sz (by simp),?_⟩
  intro p21 n21
  generalize e21:upd _ p21 _=H21
  obtain ⟨x21,s21,o21⟩:=new_of e21 n21
  clear e21
  have S21:=S20.keep n21 s21 o21
  generalize hF21:F20=F21 at *
  have hL:=x21 _ _ hL
  refine ⟨p13,p21,_,_,rfl,rfl,hL,s21,sz (by simp),?_⟩
  intro p22 n22
  generalize e22:upd _ p22 _=H22
  obtain ⟨x22,s22,o22⟩:=new_of e22 n22
  clear e22
  have S22:=S21.keep n22 s22 o22
  generalize hF22:F21=F22 at *
  have hL:=s22
  refine ⟨_,rfl,?_⟩
  refine ⟨_,rfl,?_⟩
  refine ⟨sz (by simp),?_⟩
  intro p23 n23
  generalize e23:upd _ p23 _=H23
  obtain ⟨x23,s23,o23⟩:=new_of e23 n23
  clear e23
  obtain ⟨F23,e23,k23,S23⟩:=S22.new n23 s23 o23
  have hL:=x23 _ _ hL
  have A:=ovs_ex e23 A
  have dGp:=dp_ex e23 dGp
  have dG:=dz_ex e23 dG
  have d23:Dz K F23 (.ref p23) (.tuple [.str "while",goodD]):=.tup (Evl.st_of k23) (.cons (.of (.str _)) (.cons (dG) (.nil)))
  have A:=ovs_cons (v:=.ref p23) (d23) (odd_c (by kernel_rfl) _) A
  refine ⟨_,rfl,?_⟩
  refine ⟨sz (by simp),?_⟩
  intro p24 n24
  generalize e24:upd _ p24 _=H24
  obtain ⟨x24,s24,o24⟩:=new_of e24 n24
  clear e24
  obtain ⟨F24,e24,k24,S24⟩:=S23.new n24 s24 o24
  have hL:=x24 _ _ hL
  have A:=ovs_ex e24 A
  have dGp:=dp_ex e24 dGp
  have dG:=dz_ex e24 dG
  have d24:Dz K F24 (.ref p24) (.tuple [.str "while",.str "x y",goodD]):=.tup (Evl.st_of k24) (.cons (.of (.str _)) (.cons (.of (.str _)) (.cons (dG) (.nil))))
  have A:=ovs_cons (v:=.ref p24) (d24) (odd_c (by kernel_rfl) _) A
  refine ⟨sz (by simp),?_⟩
  intro p25 n25
  generalize e25:upd _ p25 _=H25
  obtain ⟨x25,s25,o25⟩:=new_of e25 n25
  clear e25
  obtain ⟨F25,e25,k25,S25⟩:=S24.new n25 s25 o25
  have hL:=x25 _ _ hL
  have A:=ovs_ex e25 A
  have dGp:=dp_ex e25 dGp
  have dG:=dz_ex e25 dG
  have d25:Dz K F25 (.ref p25) (.tuple []):=.tup (Evl.st_of k25) (.nil)
  refine ⟨sz (by simp),?_⟩
  intro p26 n26
  generalize e26:upd _ p26 _=H26
  obtain ⟨x26,s26,o26⟩:=new_of e26 n26
  clear e26
  obtain ⟨F26,e26,k26,S26⟩:=S25.new n26 s26 o26
  have hL:=x26 _ _ hL
  have A:=ovs_ex e26 A
  have dGp:=dp_ex e26 dGp
  have d25:=dz_ex e26 d25
  have dG:=dz_ex e26 dG
  have d26:Dz K F26 (.ref p26) (.tuple [.str "seq",.tuple []]):=.tup (Evl.st_of k26) (.cons (.of (.str _)) (.cons (d25) (.nil)))
  have A:=ovs_cons (v:=.ref p26) (d26) (odd_c (by kernel_rfl) _) A
  refine ⟨_,rfl,?_⟩
  refine ⟨sz (by simp),?_⟩
  intro p27 n27
  generalize e27:upd _ p27 _=H27
  obtain ⟨x27,s27,o27⟩:=new_of e27 n27
  clear e27
  obtain ⟨F27,e27,k27,S27⟩:=S26.new n27 s27 o27
  have hL:=x27 _ _ hL
  have A:=ovs_ex e27 A
  have dGp:=dp_ex e27 dGp
  have dG:=dz_ex e27 dG
  have d27:Dz K F27 (.ref p27) (.list [goodD]):=.of (.lst (Evl.sq_of k27) (.cons (dGp) (.nil)))
  refine ⟨sz (by simp),?_⟩
  intro p28 n28
  generalize e28:upd _ p28 _=H28
  obtain ⟨x28,s28,o28⟩:=new_of e28 n28
  clear e28
  obtain ⟨F28,e28,k28,S28⟩:=S27.new n28 s28 o28
  have hL:=x28 _ _ hL
  have A:=ovs_ex e28 A
  have dGp:=dp_ex e28 dGp
  have d27:=dz_ex e28 d27
  have dG:=dz_ex e28 dG
  have d28:Dz K F28 (.ref p28) (.tuple [.str "seq",.list [goodD]]):=.tup (Evl.st_of k28) (.cons (.of (.str _)) (.cons (d27) (.nil)))
  have A:=ovs_cons (v:=.ref p28) (d28) (odd_c (by kernel_rfl) _) A
  refine ⟨_,rfl,?_⟩
  refine ⟨_,rfl,?_⟩
  refine ⟨sz (by simp),?_⟩
  intro p29 n29
  generalize e29:upd _ p29 _=H29
  obtain ⟨x29,s29,o29⟩:=new_of e29 n29
  clear e29
  obtain ⟨F29,e29,k29,S29⟩:=S28.new n29 s29 o29
  have hL:=x29 _ _ hL
  have A:=ovs_ex e29 A
  have dGp:=dp_ex e29 dGp
  have dG:=dz_ex e29 dG
  have d29:Dz K F29 (.ref p29) (.tuple [.str "seq",goodD,goodD]):=.tup (Evl.st_of k29) (.cons (.of (.str _)) (.cons (dG) (.cons (dG) (.nil))))
  have A:=ovs_cons (v:=.ref p29) (d29) (odd_c (by kernel_rfl) _) A
  refine ⟨sz (by simp),?_⟩
  intro p30 n30
  generalize e30:upd _ p30 _=H30
  obtain ⟨x30,s30,o30⟩:=new_of e30 n30
  clear e30
  have S30:=S29.keep n30 s30 o30
  generalize hF30:F29=F30 at *
  have hL:=x30 _ _ hL
  refine ⟨p22,p30,_,_,rfl,rfl,hL,s30,sz (by simp),?_⟩
  intro p31 n31
  generalize e31:upd _ p31 _=H31
  obtain ⟨x31,s31,o31⟩:=new_of e31 n31
  clear e31
  have S31:=S30.keep n31 s31 o31
  generalize hF31:F30=F31 at *
  have hL:=s31
  have hn0:=S30.n0 n31
  have hf0:=ex_none S30.g.fh n31
  have hne0:=S30.ne n31
  refine ⟨_,rfl,.inl ⟨rfl,_,Evl.sq_of hL⟩,?_⟩
  have hL0:=hL
  refine ⟨sz (by simp),?_⟩
  intro p32 n32
  generalize e32:upd _ p32 _=H32
  obtain ⟨x32,s32,o32⟩:=new_of e32 n32
  clear e32
  obtain ⟨F32,e32,k32,S32,ff32⟩:=S31.newF n32 s32 o32
  have hL:=x32 _ _ hL
  have A:=ovs_ex e32 A
  have dGp:=dp_ex e32 dGp
  have dG:=dz_ex e32 dG
  have d32:Dz K F32 (.ref p32) (.tuple [.str "seq",.str "ab"]):=.tup (Evl.st_of k32) (.cons (.of (.str _)) (.cons (.of (.str _)) (.nil)))
  have A:=ovs_cons (v:=.ref p32) (d32) (odd_c (by kernel_rfl) _) A
  have hf1:F32 p31=none:=by rw [ff32 _ (fun z=>by rw [z,n32] at hL0;cases hL0)];exact hf0
  refine ⟨p31,_,_,rfl,rfl,hL,szl (by simp),?_⟩
  generalize e33:upd H32 p31 _=H33
  have o33:∀ b,b≠p31→H33 b=H32 b:=fun b hb=>by rw [← e33,upd_ne hb]
  have hL:=(show H33 p31=_ by rw [← e33,upd_same])
  clear e33
  have S33:=S32.mut hn0 hf1 hne0 o33
  generalize hF33:F32=F33 at *
  refine ⟨_,rfl,?_⟩
  refine ⟨sz (by simp),?_⟩
  intro p34 n34
  generalize e34:upd _ p34 _=H34
  obtain ⟨x34,s34,o34⟩:=new_of e34 n34
  clear e34
  obtain ⟨F34,e34,k34,S34⟩:=S33.new n34 s34 o34
  have hL:=x34 _ _ hL
  have A:=ovs_ex e34 A
  have dGp:=dp_ex e34 dGp
  have dG:=dz_ex e34 dG
  have d34:Dz K F34 (.ref p34) (.tuple [.str "return",.int 1]):=.tup (Evl.st_of k34) (.cons (.of (.str _)) (.cons (.of (.int _)) (.nil)))
  have A:=ovs_cons (v:=.ref p34) (d34) (odd_c (by kernel_rfl) _) A
  refine ⟨sz (by simp),?_⟩
  intro p35 n35
  generalize e35:upd _ p35 _=H35
  obtain ⟨x35,s35,o35⟩:=new_of e35 n35
  clear e35
  obtain ⟨F35,e35,k35,S35⟩:=S34.new n35 s35 o35
  have hL:=x35 _ _ hL
  have A:=ovs_ex e35 A
  have dGp:=dp_ex e35 dGp
  have dG:=dz_ex e35 dG
  have d35:Dz K F35 (.ref p35) (.tuple [.str "raise",.str "x"]):=.tup (Evl.st_of k35) (.cons (.of (.str _)) (.cons (.of (.str _)) (.nil)))
  have A:=ovs_cons (v:=.ref p35) (d35) (odd_c (by kernel_rfl) _) A
  refine ⟨_,rfl,?_⟩
  refine ⟨sz (by simp),?_⟩
  intro p36 n36
  generalize e36:upd _ p36 _=H36
  obtain ⟨x36,s36,o36⟩:=new_of e36 n36
  clear e36
  obtain ⟨F36,e36,k36,S36⟩:=S35.new n36 s36 o36
  have hL:=x36 _ _ hL
  have A:=ovs_ex e36 A
  have dGp:=dp_ex e36 dGp
  have dG:=dz_ex e36 dG
  have d36:Dz K F36 (.ref p36) (.tuple [.str "try",goodD]):=.tup (Evl.st_of k36) (.cons (.of (.str _)) (.cons (dG) (.nil)))
  have A:=ovs_cons (v:=.ref p36) (d36) (odd_c (by kernel_rfl) _) A
  refine ⟨_,rfl,?_⟩
  refine ⟨_,rfl,?_⟩
  refine ⟨_,rfl,?_⟩
  refine ⟨sz (by simp),?_⟩
  intro p37 n37
  generalize e37:upd _ p37 _=H37
  obtain ⟨x37,s37,o37⟩:=new_of e37 n37
  clear e37
  obtain ⟨F37,e37,k37,S37⟩:=S36.new n37 s37 o37
  have hL:=x37 _ _ hL
  have A:=ovs_ex e37 A
  have dGp:=dp_ex e37 dGp
  have dG:=dz_ex e37 dG
  have d37:Dz K F37 (.ref p37) (.tuple [.str "final",goodD,goodD,goodD]):=.tup (Evl.st_of k37) (.cons (.of (.str _)) (.cons (dG) (.cons (dG) (.cons (dG) (.nil)))))
  have A:=ovs_cons (v:=.ref p37) (d37) (odd_c (by kernel_rfl) _) A
  refine ⟨sz (by simp),?_⟩
  intro p38 n38
  generalize e38:upd _ p38 _=H38
  obtain ⟨x38,s38,o38⟩:=new_of e38 n38
  clear e38
  obtain ⟨F38,e38,k38,S38⟩:=S37.new n38 s38 o38
  have hL:=x38 _ _ hL
  have A:=ovs_ex e38 A
  have dGp:=dp_ex e38 dGp
  have dG:=dz_ex e38 dG
  have d38:Dz K F38 (.ref p38) (.tuple [.none]):=.tup (Evl.st_of k38) (.cons (.of .non) (.nil))
  have A:=ovs_cons (v:=.ref p38) (d38) (odd_c (by kernel_rfl) _) A
  refine ⟨sz (by simp),?_⟩
  intro p39 n39
  generalize e39:upd _ p39 _=H39
  obtain ⟨x39,s39,o39⟩:=new_of e39 n39
  clear e39
  obtain ⟨F39,e39,k39,S39⟩:=S38.new n39 s39 o39
  have hL:=x39 _ _ hL
  have A:=ovs_ex e39 A
  have dGp:=dp_ex e39 dGp
  have dG:=dz_ex e39 dG
  have d39:Dz K F39 (.ref p39) (.tuple [.bool true,.str "x"]):=.tup (Evl.st_of k39) (.cons (.of (.bl _)) (.cons (.of (.str _)) (.nil)))
  have A:=ovs_cons (v:=.ref p39) (d39) (odd_c (by kernel_rfl) _) A
  refine ⟨sz (by simp),?_⟩
  intro p40 n40
  generalize e40:upd _ p40 _=H40
  obtain ⟨x40,s40,o40⟩:=new_of e40 n40
  clear e40
  have S40:=S39.keep n40 s40 o40
  generalize hF40:F39=F40 at *
  have hL:=x40 _ _ hL
  refine ⟨p31,p40,_,_,rfl,rfl,hL,s40,sz (by simp),?_⟩
  intro p41 n41
  generalize e41:upd _ p41 _=H41
  obtain ⟨x41,s41,o41⟩:=new_of e41 n41
  clear e41
  have S41:=S40.keep n41 s41 o41
  generalize hF41:F40=F41 at *
  have hL:=s41
  have A:OVs K F41 loops _:=fun v hv=>A v (List.mem_reverse.mp (show v∈List.reverse _ from hv))
  refine ⟨sz (by simp),?_⟩
  intro p42 n42
  generalize e42:upd _ p42 _=H42
  obtain ⟨x42,s42,o42⟩:=new_of e42 n42
  clear e42
  obtain ⟨F42,e42,k42,S42⟩:=S41.new n42 s42 o42
  have hL:=x42 _ _ hL
  have A:=ovs_ex e42 A
  have dGp:=dp_ex e42 dGp
  have dG:=dz_ex e42 dG
  refine ⟨p42,rfl,⟨_,Evl.st_of s42⟩,?_⟩
  refine for_it (walk_tup (xs:=[V.str "break",.str "continue"])) (fun j σ' H'=>∃ (F':Hp) (a:Addr) (us:List V) (o4:Option V),σ'=[some (.ref p),some (.int (loops:Int)),some (.ref p2),some (.ref a),o4]∧Sg p F1 H F' H'∧H' a=some (.lst us)∧OVs K F' loops us∧us≠[]∧us.length≤40 + 10 * j∧Ex F42 F'∧a≠p) ?_ ?_ ?_ ?_
  ·exact ⟨F42,p41,_,_,rfl,S42,hL,A,by simp,by simp,Evl.Ex.refl _,(S40.ne n41).symm⟩
  ·exact fun j σ' H' _ ⟨F',_,_,_,_,S,_,_,_,_,e,_⟩=>Evl.ex_t (e.trans S.g.fh) (Evl.st_of k42)
  ·rintro j x σ' H50 Jb hj ⟨F50,p50,us,o4,rfl,S50,hL,A,une,hul,eF,nap⟩ ⟨rfl,hx⟩
   obtain ⟨k,rfl,hk⟩:∃ k:Str,x=.str k∧(k="break"∨k="continue"):=by
    match j,hj with
    | 0,_=>cases hx;exact ⟨_,rfl,.inl rfl⟩
    | 1,_=>cases hx;exact ⟨_,rfl,.inr rfl⟩
   obtain ⟨oj1,oj2,oj3,oj4,oj5,oj6,oj7,oj8,oj9,oj10⟩:=odd_jmp hk hlp
   have hj:j<2:=hj
   refine ⟨_,rfl,?_⟩
   refine ⟨_,rfl,?_⟩
   refine ⟨sz (by simp),?_⟩
   intro p51 n51
   generalize e51:upd _ p51 _=H51
   obtain ⟨x51,s51,o51⟩:=new_of e51 n51
   clear e51
   obtain ⟨F51,e51,k51,S51⟩:=S50.new n51 s51 o51
   have hL:=x51 _ _ hL
   have A:=ovs_ex e51 A
   have d51:Dz K F51 (.ref p51) (.tuple [.str k]):=.tup (Evl.st_of k51) (.cons (.of (.str _)) (.nil))
   have A:=ovs_cons (v:=.ref p51) (d51) (oj1) A
   refine ⟨_,rfl,?_⟩
   refine ⟨sz (by simp),?_⟩
   intro p52 n52
   generalize e52:upd _ p52 _=H52
   obtain ⟨x52,s52,o52⟩:=new_of e52 n52
   clear e52
   obtain ⟨F52,e52,k52,S52⟩:=S51.new n52 s52 o52
   have hL:=x52 _ _ hL
   have A:=ovs_ex e52 A
   have d52:Dz K F52 (.ref p52) (.tuple [.str k,.int 0]):=.tup (Evl.st_of k52) (.cons (.of (.str _)) (.cons (.of (.int _)) (.nil)))
   have A:=ovs_cons (v:=.ref p52) (d52) (oj2) A
   refine ⟨_,rfl,?_⟩
   refine ⟨_,rfl,?_⟩
   refine ⟨sz (by simp),?_⟩
   intro p53 n53
   generalize e53:upd _ p53 _=H53
   obtain ⟨x53,s53,o53⟩:=new_of e53 n53
   clear e53
   obtain ⟨F53,e53,k53,S53⟩:=S52.new n53 s53 o53
   have hL:=x53 _ _ hL
   have A:=ovs_ex e53 A
   have d53:Dz K F53 (.ref p53) (.tuple [.str k,.int (-1)]):=.tup (Evl.st_of k53) (.cons (.of (.str _)) (.cons (.of (.int _)) (.nil)))
   have A:=ovs_cons (v:=.ref p53) (d53) (oj3) A
   refine ⟨_,rfl,?_⟩
   refine ⟨_,rfl,_,_,rfl,rfl,?_⟩
   refine ⟨sz (by simp),?_⟩
   intro p54 n54
   generalize e54:upd _ p54 _=H54
   obtain ⟨x54,s54,o54⟩:=new_of e54 n54
   clear e54
   obtain ⟨F54,e54,k54,S54⟩:=S53.new n54 s54 o54
   have hL:=x54 _ _ hL
   have A:=ovs_ex e54 A
   have d54:Dz K F54 (.ref p54) (.tuple [.str k,.int ((loops:Int) + 1)]):=.tup (Evl.st_of k54) (.cons (.of (.str _)) (.cons (.of (.int _)) (.nil)))
   have A:=ovs_cons (v:=.ref p54) (d54) (oj4) A
   refine ⟨_,rfl,?_⟩
   refine ⟨sz (by simp),?_⟩
   intro p55 n55
   generalize e55:upd _ p55 _=H55
   obtain ⟨x55,s55,o55⟩:=new_of e55 n55
   clear e55
   obtain ⟨F55,e55,k55,S55⟩:=S54.new n55 s55 o55
   have hL:=x55 _ _ hL
   have A:=ovs_ex e55 A
   have d55:Dz K F55 (.ref p55) (.tuple [.str k,.bool true]):=.tup (Evl.st_of k55) (.cons (.of (.str _)) (.cons (.of (.bl _)) (.nil)))
   have A:=ovs_cons (v:=.ref p55) (d55) (oj5) A
   refine ⟨_,rfl,?_⟩
   refine ⟨sz (by simp),?_⟩
   intro p56 n56
   generalize e56:upd _ p56 _=H56
   obtain ⟨x56,s56,o56⟩:=new_of e56 n56
   clear e56
   obtain ⟨F56,e56,k56,S56⟩:=S55.new n56 s56 o56
   have hL:=x56 _ _ hL
   have A:=ovs_ex e56 A
   have d56:Dz K F56 (.ref p56) (.tuple [.str k,.str "1"]):=.tup (Evl.st_of k56) (.cons (.of (.str _)) (.cons (.of (.str _)) (.nil)))
   have A:=ovs_cons (v:=.ref p56) (d56) (oj6) A
   refine ⟨_,rfl,?_⟩
   refine ⟨sz (by simp),?_⟩
   intro p57 n57
   generalize e57:upd _ p57 _=H57
   obtain ⟨x57,s57,o57⟩:=new_of e57 n57
   clear e57
   obtain ⟨F57,e57,k57,S57⟩:=S56.new n57 s57 o57
   have hL:=x57 _ _ hL
   have A:=ovs_ex e57 A
   have d57:Dz K F57 (.ref p57) (.list [.int 1]):=.of (.lst (Evl.sq_of k57) (.cons ((.int _)) (.nil)))
   refine ⟨sz (by simp),?_⟩
   intro p58 n58
   generalize e58:upd _ p58 _=H58
   obtain ⟨x58,s58,o58⟩:=new_of e58 n58
   clear e58
   obtain ⟨F58,e58,k58,S58⟩:=S57.new n58 s58 o58
   have hL:=x58 _ _ hL
   have A:=ovs_ex e58 A
   have d57:=dz_ex e58 d57
   have d58:Dz K F58 (.ref p58) (.tuple [.str k,.list [.int 1]]):=.tup (Evl.st_of k58) (.cons (.of (.str _)) (.cons (d57) (.nil)))
   have A:=ovs_cons (v:=.ref p58) (d58) (oj7) A
   refine ⟨sz (by simp),?_⟩
   intro p59 n59
   generalize e59:upd _ p59 _=H59
   obtain ⟨x59,s59,o59⟩:=new_of e59 n59
   clear e59
   have S59:=S58.keep n59 s59 o59
   generalize hF59:F58=F59 at *
   have hL:=x59 _ _ hL
   refine ⟨p50,p59,_,_,rfl,rfl,hL,s59,sz (by simp;omega),?_⟩
   intro p60 n60
   generalize e60:upd _ p60 _=H60
   obtain ⟨x60,s60,o60⟩:=new_of e60 n60
   clear e60
   have S60:=S59.keep n60 s60 o60
   generalize hF60:F59=F60 at *
   have hL:=s60
   refine ⟨_,rfl,?_⟩
   refine ⟨_,rfl,?_⟩
   refine ⟨sz (by simp),?_⟩
   intro p61 n61
   generalize e61:upd _ p61 _=H61
   obtain ⟨x61,s61,o61⟩:=new_of e61 n61
   clear e61
   obtain ⟨F61,e61,k61,S61⟩:=S60.new n61 s61 o61
   have hL:=x61 _ _ hL
   have A:=ovs_ex e61 A
   have d61:Dz K F61 (.ref p61) (.tuple [.str k,.none]):=.tup (Evl.st_of k61) (.cons (.of (.str _)) (.cons (.of .non) (.nil)))
   have A:=ovs_cons (v:=.ref p61) (d61) (oj8) A
   refine ⟨_,rfl,?_⟩
   refine ⟨sz (by simp),?_⟩
   intro p62 n62
   generalize e62:upd _ p62 _=H62
   obtain ⟨x62,s62,o62⟩:=new_of e62 n62
   clear e62
   obtain ⟨F62,e62,k62,S62⟩:=S61.new n62 s62 o62
   have hL:=x62 _ _ hL
   have A:=ovs_ex e62 A
   have d62:Dz K F62 (.ref p62) (.tuple [.str k,.int 1,.int 1]):=.tup (Evl.st_of k62) (.cons (.of (.str _)) (.cons (.of (.int _)) (.cons (.of (.int _)) (.nil))))
   have A:=ovs_cons (v:=.ref p62) (d62) (oj9) A
   refine ⟨_,rfl,?_⟩
   refine ⟨_,_,rfl,rfl,⟨by decide,by decide,by decide⟩,?_⟩
   refine ⟨sz (by simp),?_⟩
   intro p63 n63
   generalize e63:upd _ p63 _=H63
   obtain ⟨x63,s63,o63⟩:=new_of e63 n63
   clear e63
   obtain ⟨F63,e63,k63,S63⟩:=S62.new n63 s63 o63
   have hL:=x63 _ _ hL
   have A:=ovs_ex e63 A
   have d63:Dz K F63 (.ref p63) (.tuple [.str k,.int (10 ^ (30:Int).toNat)]):=.tup (Evl.st_of k63) (.cons (.of (.str _)) (.cons (.of (.int _)) (.nil)))
   have A:=ovs_cons (v:=.ref p63) (d63) (oj10) A
   refine ⟨sz (by simp),?_⟩
   intro p64 n64
   generalize e64:upd _ p64 _=H64
   obtain ⟨x64,s64,o64⟩:=new_of e64 n64
   clear e64
   have S64:=S63.keep n64 s64 o64
   generalize hF64:F63=F64 at *
   have hL:=x64 _ _ hL
   refine ⟨p60,p64,_,_,rfl,rfl,hL,s64,sz (by simp;omega),?_⟩
   intro p65 n65
   generalize e65:upd _ p65 _=H65
   obtain ⟨x65,s65,o65⟩:=new_of e65 n65
   clear e65
   have S65:=S64.keep n65 s65 o65
   generalize hF65:F64=F65 at *
   have hL:=s65
   refine ⟨F65,p65,_,_,rfl,S65,hL,?_,by simp,by simp;omega,(((((((((((eF.trans e51).trans e52).trans e53).trans e54).trans e55).trans e56).trans e57).trans e58).trans e61).trans e62).trans e63),(S64.ne n65).symm⟩
   exact fun v hv=>A v (by simp only [List.mem_append,List.mem_cons,List.not_mem_nil,or_false,false_or,or_assoc,or_comm,or_left_comm] at hv ⊢;exact hv)
  ·rintro σ' H60 ⟨F60,p60,us,o4,rfl,S60,hL,A,une,hul,eF,nap⟩
   refine ⟨_,rfl,_,rfl,p,p60,us,rfl,S60.s,hL,nap,une,by simp at hul;omega,fun H61 v hv hp61 o61=>?_⟩
   obtain ⟨d,dd,od⟩:=A v hv
   subst hF1
   exact q F60 H61 v d (S60.one o61 hp61) dd od
end
end
end Fc
set_option maxRecDepth 100000
set_option maxHeartbeats 4000000
namespace FcM
section
variable {t:Tab} {bits:List Bool}
def Bd (w u:Nat) (v:List Nat) (r:Rs):Prop:=u≤r.2.1∧r.2.2.length≤v.length + w * (r.2.1 - u + 1)
theorem Bd.mono {w w' u:Nat} {v:List Nat} {r:Rs} (h:Bd w u v r) (e:w≤w'):Bd w' u v r:=⟨h.1,Nat.le_trans h.2 (Nat.add_le_add_left (Nat.mul_le_mul_right _ e) _)⟩
theorem Bd.seq {w1 w2 u u1 u2:Nat} {v v1 v2:List Nat} {x y:Wt} (a:Bd w1 u v (x,u1,v1)) (b:Bd w2 u1 v1 (y,u2,v2)):Bd (w1 + w2) u v (y,u2,v2):=by
 obtain ⟨a1,a2⟩:=a
 obtain ⟨b1,b2⟩:=b
 dsimp only at a1 a2 b1 b2
 refine ⟨Nat.le_trans a1 b1,?_⟩
 dsimp only
 have e1:w1 * (u1 - u + 1)≤w1 * (u2 - u + 1):=Nat.mul_le_mul_left _ (by omega)
 have e2:w2 * (u2 - u1 + 1)≤w2 * (u2 - u + 1):=Nat.mul_le_mul_left _ (by omega)
 rw [Nat.add_mul]
 omega
end
end FcM
set_option maxRecDepth 100000
set_option maxHeartbeats 4000000
namespace Fc
open PySem PySem.Spec PyProof.Rows L2 FcR
open Evl (Ex)
section
open FcM (Way Node Tab)
theorem Builds.keeps:∀ {m:Nat} {st:List WIt} {rows fin:List Row},Builds m st rows fin→∀ c,c<rows.length→fin[c]?.map Row.d=rows[c]?.map Row.d
 | _,_,_,_,.done _,_,_=>rfl
 | _,_,_,_,.step ok h,c,hc=>by rw [Builds.keeps h c (by rw [addRow_len];omega),addRow_d hc]
theorem Builds.first {m:Nat} {it:WIt} {fin:List Row} (b:Builds m [it] [] fin) {r:Row} (hr:fin[0]?=some r):r.d=it.d:=by
 cases b with
 | step ok h =>
  have z:=Builds.keeps h 0 (by rw [addRow_len];exact Nat.zero_lt_succ _)
  have y:(addRow [] it.d it.par)[0]?=some ⟨it.d,it.par,[]⟩:=addRow_new (rows:=[])
  rw [hr,y] at z
  exact Option.some.inj z
end
section
def wMax:Nat→Nat
 | 0=>0
 | k + 1=>1 + 3 * wMax k
theorem sum_le {f:Nat→Nat} {m:Nat}:∀ (l:List Nat),(∀ i∈l,f i≤m)→(l.map f).sum≤l.length * m
 | [],_=>Nat.zero_le _
 | a::l,h=>by
  rw [List.map_cons,List.sum_cons,List.length_cons,Nat.succ_mul]
  have:=h a List.mem_cons_self
  have:=sum_le l fun i hi=>h i (List.mem_cons_of_mem _ hi)
  omega
theorem okS_sd {k loops:Nat} {d:PyData} (h:SD k loops d):∀ {deep blocks:Nat},deep + k≤101→blocks + k≤26→∃ w,w≤wMax k∧OkS loops deep blocks w d:=by
 induction h with
 | @mk k loops d st cl sz l3 ps ih =>
  intro deep blocks h1 h2
  have hx:∀ i,∃ w,∀ p,(partsD d)[i]?=some p→w≤wMax k∧OkS (loops + wl d) (deep + 1) (blocks + (if kindD d="final"∧i=1 then 1 else 0)) w p:=fun i=>by
   cases e:(partsD d)[i]? with
   | none=>exact ⟨0,fun p hp=>by cases hp⟩
   | some p =>
    have hm:=List.mem_of_getElem? e
    obtain ⟨w,a,b⟩:=ih p hm (deep:=deep + 1) (blocks:=blocks + (if kindD d="final"∧i=1 then 1 else 0)) (by omega) (by split<;>omega)
    exact ⟨w,fun q hq=>by cases hq;exact ⟨a,b⟩⟩
  refine ⟨_,?_,.mk (fun i=>Classical.choose (hx i)) st (by omega) (by omega) fun i p hp=>(Classical.choose_spec (hx i) p hp).2⟩
  have z:=sum_le (f:=fun i=>Classical.choose (hx i)) (m:=wMax k) (List.range (partsD d).length) fun i hi=>by
   have li:i<(partsD d).length:=List.mem_range.mp hi
   exact (Classical.choose_spec (hx i) _ (List.getElem?_eq_getElem li)).1
  rw [List.length_range] at z
  have e3:(partsD d).length * wMax k≤3 * wMax k:=Nat.mul_le_mul_right _ l3
  show 1 + _≤1 + 3 * wMax k
  omega
end
section
theorem depthAll_le {n:Nat}:∀ {l:List PyData},(∀ x∈l,x.depth≤n)→PyData.depthAll l≤n
 | [],_=>Nat.zero_le _
 | y::l,h=>by
  show max _ _≤n
  have h1:=h y List.mem_cons_self
  have h2:=depthAll_le (l:=l) fun x hx=>h x (List.mem_cons_of_mem _ hx)
  omega
theorem take_all {α:Type} {l:List α} {n m:Nat} (h:(l.take n).length≤m) (hm:m<n):l.take n=l:=by
 rw [List.length_take] at h
 exact List.take_of_length_le (by omega)
theorem sd_depth {k loops:Nat} {d:PyData} (h:SD k loops d):d.depth≤2 * k + 2:=by
 induction h with
 | @mk k loops d st cl sz l3 ps ih =>
  have sv:=sv_of st
  have at_:∀ x∈partsD d,x.depth≤2 * k + 2:=ih
  cases sv with
  | do_ x=>simp only [PyData.depth,PyData.depthAll];omega
  | call x=>simp only [PyData.depth,PyData.depthAll];omega
  | iff x a b =>
   have h1:=at_ a (show a∈[a,b] by simp)
   have h2:=at_ b (show b∈[a,b] by simp)
   simp only [PyData.depth,PyData.depthAll];omega
  | whl x a =>
   have h1:=at_ a (show a∈[a] by simp)
   simp only [PyData.depth,PyData.depthAll];omega
  | seq p qs =>
   have e:partsD (.tuple [.str "seq",.tuple (p::qs)])=(p::qs).take 401:=rfl
   rw [e] at at_ l3
   rw [take_all l3 (by omega)] at at_
   have:=depthAll_le at_
   simp only [PyData.depth,PyData.depthAll] at this ⊢;omega
  | brk n h1 h2=>simp only [PyData.depth,PyData.depthAll];omega
  | cnt n h1 h2=>simp only [PyData.depth,PyData.depthAll];omega
  | ret=>simp only [PyData.depth,PyData.depthAll];omega
  | rai=>simp only [PyData.depth,PyData.depthAll];omega
  | tr a b =>
   have h1:=at_ a (show a∈[a,b] by simp)
   have h2:=at_ b (show b∈[a,b] by simp)
   simp only [PyData.depth,PyData.depthAll];omega
  | fin a b =>
   have h1:=at_ a (show a∈[a,b] by simp)
   have h2:=at_ b (show b∈[a,b] by simp)
   simp only [PyData.depth,PyData.depthAll];omega
inductive NoD:PyData→Prop
 | tup {ds:List PyData} (h:∀ x∈ds,NoD x):NoD (.tuple ds)
 | str (x:Str):NoD (.str x)
 | int (x:Int):NoD (.int x)
mutual
theorem dz_dp {K:PySem.W.Frag} {H:Hp}:∀ {v:V} {d:PyData},Dz K H v d→NoD d→Dp K H v d
 | _,_,.of h,_=>h
 | _,_,.dct _,n=>nomatch n
 | _,_,.tup s t,n=>.tup s (dzA_dp t (match n with | .tup h=>h))
theorem dzA_dp {K:PySem.W.Frag} {H:Hp}:∀ {vs:List V} {ds:List PyData},DzAll K H vs ds→(∀ x∈ds,NoD x)→DpAll K H vs ds
 | _,_,.nil,_=>.nil
 | _,_,.cons h t,n=>.cons (dz_dp h (n _ List.mem_cons_self)) (dzA_dp t fun x hx=>n x (List.mem_cons_of_mem _ hx))
end
theorem sv_nod {l:Int} {d:PyData} (sv:SV l d) (hp:(partsD d).length≤400) (h:∀ x∈partsD d,NoD x):NoD d:=by
 have two:∀ {k:Str} {r:List PyData},(∀ x∈r,NoD x)→NoD (.tuple (.str k::r)):=fun {k r} h=>.tup fun x hx=>by
  rcases List.mem_cons.mp hx with rfl | hx
  ·exact .str _
  ·exact h x hx
 cases sv with
 | do_ x=>exact two fun y hy=>by rw [List.mem_singleton.mp hy];exact .str _
 | call x=>exact two fun y hy=>by rw [List.mem_singleton.mp hy];exact .str _
 | iff x a b =>
  exact two fun y hy=>by
   rcases List.mem_cons.mp hy with rfl | hy
   ·exact .str _
   ·exact h y hy
 | whl x a =>
  exact two fun y hy=>by
   rcases List.mem_cons.mp hy with rfl | hy
   ·exact .str _
   ·exact h y hy
 | seq p qs =>
  have e:partsD (.tuple [.str "seq",.tuple (p::qs)])=(p::qs).take 401:=rfl
  rw [e] at h hp
  rw [take_all hp (by omega)] at h
  exact two fun y hy=>by rw [List.mem_singleton.mp hy];exact .tup h
 | brk n h1 h2=>exact two fun y hy=>by rw [List.mem_singleton.mp hy];exact .int _
 | cnt n h1 h2=>exact two fun y hy=>by rw [List.mem_singleton.mp hy];exact .int _
 | ret=>exact two fun y hy=>nomatch hy
 | rai=>exact two fun y hy=>nomatch hy
 | tr a b=>exact two h
 | fin a b=>exact two h
theorem mem_sumT3:∀ {l:List Nat} {x:Nat},x∈l→x≤l.sum
 | [],_,h=>nomatch h
 | y::l,x,h=>by
  rw [List.sum_cons]
  rcases List.mem_cons.mp h with rfl | h
  ·omega
  ·have:=mem_sumT3 h;omega
theorem okS_pos3 {l d b w:Nat} {e:PyData} (h:OkS l d b w e):1≤w:=by
 cases h
 omega
theorem sum_atT3 {f:Nat→Nat} {n i:Nat} (hi:i<n):f i≤((List.range n).map f).sum:=by
 have:f i∈(List.range n).map f:=List.mem_map.mpr ⟨i,List.mem_range.mpr hi,rfl⟩
 exact mem_sumT3 this
theorem sum_geT3 {f:Nat→Nat}:∀ {n:Nat},(∀ i,i<n→1≤f i)→n≤((List.range n).map f).sum
 | 0,_=>Nat.zero_le _
 | n + 1,h=>by
  rw [List.range_succ,List.map_append,List.sum_append]
  have:=sum_geT3 (n:=n) fun i hi=>h i (by omega)
  have:=h n (by omega)
  simp
  omega
theorem okS_nod {l dp b w:Nat} {d:PyData} (h:OkS l dp b w d):w≤400→NoD d:=by
 induction h with
 | @mk l dp b d wt st hd hb ps ih =>
  intro hw
  refine sv_nod (sv_of st) ?_ fun x hx=>?_
  ·have:=sum_geT3 (f:=wt) (n:=(partsD d).length) fun i hi=>okS_pos3 (ps i _ (List.getElem?_eq_getElem hi))
   omega
  ·obtain ⟨i,hi⟩:=List.getElem?_of_mem hx
   have:=sum_atT3 (f:=wt) (List.getElem?_eq_some_iff.mp hi).1
   exact ih i x hi (by omega)
theorem reb_self {l:Int} {d:PyData} (sv:SV l d) (hp:(partsD d).length≤400):rebD d (partsD d)=d:=by
 cases sv with
 | seq p qs =>
  have e:partsD (.tuple [.str "seq",.tuple (p::qs)])=(p::qs).take 401:=rfl
  rw [e] at hp ⊢
  rw [take_all hp (by omega)]
  rfl
 | _=>rfl
theorem blt_none {fin:List Row} {ls:List Nat} (bi:BI [] fin ls) (hl:fin.length≤400) {bad:Nat→Option PyData} (hb:∀ n,bad n=none):∀ (k n:Nat) (r:Row),fin.length - n≤k→fin[n]?=some r→bltN fin bad n=r.d
 | 0,n,r,hk,hr=>by have:=(List.getElem?_eq_some_iff.mp hr).1;omega
 | k + 1,n,r,hk,hr=>by
  obtain ⟨l,hll,hch⟩:=bi_ch bi hr
  have sv:=sv_of (bi.sm n r l hr hll)
  rw [blt_go bi hr (hb n)]
  have:r.ch.map (bltN fin bad)=partsD r.d:=by
   rw [← bi_parts bi hr]
   refine List.map_congr_left fun c hc=>?_
   obtain ⟨h1,r',h2,_⟩:=hch c hc
   rw [blt_none bi hl hb k c r' (by have:=(List.getElem?_eq_some_iff.mp hr).1;omega) h2,h2]
   rfl
  rw [this]
  refine reb_self sv ?_
  have:=ch_few bi hl hr
  rw [ch_len bi hr] at this
  exact this
theorem rows_in {fin:List Row} {ls:List Nat} (bi:BI [] fin ls) (pn:∀ n r,fin[n]?=some r→r.par=none→n=0) {G:PyData→Prop} (hG:∀ e,G e→∀ x∈partsD e,G x) {d:PyData} (hd:G d) (h0:∀ r,fin[0]?=some r→r.d=d):∀ (n:Nat) (r:Row),fin[n]?=some r→G r.d:=by
 intro n
 induction n using Nat.strongRecOn with
 | ind n ih =>
  intro r hr
  cases hp:r.par with
  | none =>
   have:=pn n r hr hp
   subst this
   rw [h0 r hr]
   exact hd
  | some p =>
   obtain ⟨plt,rp,h1,h2⟩:=bi.up n r p hr hp
   refine hG _ (ih p plt rp h1) _ ?_
   rw [← bi_parts bi h1]
   refine List.mem_map.mpr ⟨n,h2,?_⟩
   rw [hr]<;>rfl
structure DK (d:PyData) (N:Nat) (fin:List Row) (ls:List Nat) (w:Nat):Prop where
 b:Builds N [⟨d,none,1,0,0⟩] [] fin
 bi:BI [] fin ls
 pn:∀ n r,fin[n]?=some r→r.par=none→n=0
 l:fin.length≤400
 ne:0<fin.length
 gs:∀ (n:Nat) (r:Row),fin[n]?=some r→GS r.d
 ok:OkS 0 1 0 w d
 w4:w≤400
 r0:∃ r,fin[0]?=some r∧r.d=d
 dp:d.depth≤12
 gd:GS d
 lw:∀ (n l:Nat),ls[n]?=some l→l≤400
theorem ls_le {fin:List Row} {ls:List Nat} (bi:BI [] fin ls) (pn:∀ n r,fin[n]?=some r→r.par=none→n=0):∀ (n l:Nat),ls[n]?=some l→l≤n:=by
 intro n
 induction n using Nat.strongRecOn with
 | ind n ih =>
  intro l hl
  have hn:n<fin.length:=by rw [← bi.ll];exact (List.getElem?_eq_some_iff.mp hl).1
  have hr:fin[n]?=some fin[n]:=List.getElem?_eq_getElem hn
  cases hp:fin[n].par with
  | none =>
   have:=pn n _ hr hp
   subst this
   rw [bi.l0 l hl]
   exact Nat.zero_le _
  | some p =>
   obtain ⟨plt,rp,h1,h2⟩:=bi.up n _ p hr hp
   obtain ⟨lp,h3,h4⟩:=bi_ch bi h1
   obtain ⟨_,_,_,_,h5⟩:=h4 n h2
   rw [hl] at h5
   have:=ih p plt lp h3
   have e:l=lp + wl rp.d:=Option.some.inj h5
   have:wl rp.d≤1:=by unfold wl;split<;>omega
   omega
theorem sd_gs {k loops:Nat} {d:PyData} (h:SD k loops d):GS d:=by
 induction h with
 | @mk k loops d st cl sz l3 ps ih =>
  exact .mk cl sz ih fun x e=>by
   subst e
   exact absurd st (by show ¬ (false=true);decide)
theorem dk_of {d:PyData} (h:SD 5 0 d):∃ N fin ls w,DK d N fin ls w:=by
 obtain ⟨w,hw,ok⟩:=okS_sd h (deep:=1) (blocks:=0) (by omega) (by omega)
 have h6:wMax 5≤364:=by decide
 obtain ⟨fin,b,l⟩:=builds_of w [⟨d,none,1,0,0⟩] [] (by have:=OkL.cons (it:=⟨d,none,1,0,0⟩) ok .nil;simpa using this) (by simp;omega)
 have hne:0<fin.length:=by
  rw [l]
  have:=okS_pos3 ok
  simp
  omega
 have hl:fin.length≤400:=by rw [l];simp;omega
 have pn0:∀ (n:Nat) (r:Row),([]:List Row)[n]?=some r→r.par=none→n=0:=fun n r z=>by simp at z
 obtain ⟨ls,bi⟩:=BI.all b (BI.start d)
 have pn:=par_none b (BI.start d) pn0
 have r0:fin[0]?=some fin[0]:=List.getElem?_eq_getElem hne
 have gd:=sd_gs h
 refine ⟨w,fin,ls,w,b,bi,pn,hl,hne,rows_in bi pn (fun e he=>(gs_parts he).2.2) gd (fun r hr=>Builds.first b hr),ok,by omega,⟨_,r0,Builds.first b r0⟩,sd_depth h,gd,fun n l hl'=>?_⟩
 have:=ls_le bi pn n l hl'
 have h2:=(List.getElem?_eq_some_iff.mp hl').1
 rw [bi.ll] at h2
 omega
end
section
structure FineP (l:Nat) (e:PyData):Prop where
 ok:∀ dd b,dd≤100→b≤25→OkS l dd b 1 e
 gs:GS e
theorem fine_lf {l:Nat} {e:PyData} (st:isStm e (l:Int)=true) (np:partsD e=[]) (cl:PyData.canLay0 e=true) (sz:szD e) (ns:∀ x,e≠.str x):FineP l e:=by
 refine ⟨fun dd b h1 h2=>?_,.mk cl sz (fun x hx=>by rw [np] at hx;exact nomatch hx) (fun x z=>absurd z (ns x))⟩
 have:=OkS.mk (loops:=l) (deep:=dd) (blocks:=b) (d:=e) (fun _=>0) st h1 h2 fun i p hp=>by rw [np] at hp;simp at hp
 rw [np] at this
 exact this
theorem fine_do (l:Nat):FineP l (.tuple [.str "do",.str "a"]):=fine_lf (by kernel_rfl) rfl (by kernel_rfl) (fun k x r e=>by cases e;decide +kernel) (fun x e=>by cases e)
theorem fine_call (l:Nat):FineP l (.tuple [.str "call",.str "zzzzzzzz"]):=fine_lf (by kernel_rfl) rfl (by kernel_rfl) (fun k x r e=>by cases e;decide +kernel) (fun x e=>by cases e)
theorem fine_rai (l:Nat):FineP l (.tuple [.str "raise"]):=fine_lf (by kernel_rfl) rfl (by kernel_rfl) (fun k x r e=>by cases e) (fun x e=>by cases e)
theorem fine_jmp {k:Str} (hk:k="break"∨k="continue") {l:Nat} (hl:1≤l):FineP l (.tuple [.str k,.int (l:Int)]):=by
 have a:isNum 1 (l:Int) (.int (l:Int))=true:=by
  show (decide ((1:Int)≤l) && decide ((l:Int)≤l))=true
  rw [decide_eq_true (by omega),decide_eq_true (by omega)]<;>rfl
 rcases hk with rfl | rfl
 ·exact fine_lf a rfl (by kernel_rfl) (fun k x r e=>by cases e) (fun x e=>by cases e)
 ·exact fine_lf a rfl (by kernel_rfl) (fun k x r e=>by cases e) (fun x e=>by cases e)
theorem DK.szs {d:PyData} {N:Nat} {fin:List Row} {ls:List Nat} {w:Nat} (X:DK d N fin ls w):∀ (n:Nat) (r:Row),fin[n]?=some r→szD r.d:=fun n r h=>(gs_parts (X.gs n r h)).2.1
theorem DK.ls0 {d:PyData} {N:Nat} {fin:List Row} {ls:List Nat} {w:Nat} (X:DK d N fin ls w):ls[0]?=some 0:=by
 have h:0<ls.length:=by rw [X.bi.ll];exact X.ne
 have e:=List.getElem?_eq_getElem h
 rw [e,X.bi.l0 _ e]
theorem DK.same {d:PyData} {N:Nat} {fin:List Row} {ls:List Nat} {w:Nat} (X:DK d N fin ls w) {bad:Nat→Option PyData} (hb:∀ n,bad n=none):bltN fin bad 0=d:=by
 obtain ⟨r,h1,h2⟩:=X.r0
 rw [blt_none X.bi X.l hb _ 0 r (Nat.le_refl _) h1,h2]
theorem gs_str {e:PyData} (h:GS e):∀ x,e=.str x→x.length≤100000:=by
 cases h with
 | mk a b c d=>exact d
theorem DK.fine {d:PyData} {N:Nat} {fin:List Row} {ls:List Nat} {w:Nat} (X:DK d N fin ls w) {a la:Nat} {e:PyData} (ha:ls[a]?=some la) (f:FineP la e) {bad:Nat→Option PyData} (hb:bad a=some e) (ho:∀ j,j≠a→bad j=none) :
  ∃ N' fin',GS (bltN fin bad 0)∧Builds N' [⟨bltN fin bad 0,none,1,0,0⟩] [] fin'∧NoD (bltN fin bad 0):=by
 obtain ⟨r,h1,h2⟩:=X.r0
 have hbs:∀ n e',bad n=some e'→e'=e:=fun n e' h=>by
  by_cases z:n=a
  ·rw [z,hb] at h;exact (Option.some.inj h).symm
  ·rw [ho n z] at h;cases h
 have hz:∀ n x,bad n=some (.str x)→x.length≤100000:=fun n x h=>gs_str f.gs x (hbs n _ h).symm
 have ok:=X.ok
 rw [← h2] at ok
 obtain ⟨w',hw,ok'⟩:=blt_ok X.bi hb ho ha f.ok hz X.szs X.l _ 0 r 0 1 0 w (Nat.le_refl _) h1 X.ls0 ok
 have w4:=X.w4
 obtain ⟨fin',b,_⟩:=builds_of w' [⟨bltN fin bad 0,none,1,0,0⟩] [] (by have:=OkL.cons (it:=⟨bltN fin bad 0,none,1,0,0⟩) ok' .nil;simpa using this) (by simp;omega)
 exact ⟨w',fin',gs_blt X.bi (fun n e' h=>by rw [hbs n e' h];exact f.gs) hz X.gs X.l _ 0 (Nat.le_refl _) X.ne,b,okS_nod ok' (by omega)⟩
theorem DK.odd {d:PyData} {N:Nat} {fin:List Row} {ls:List Nat} {w:Nat} (X:DK d N fin ls w) {bad:Nat→Option PyData} {a la:Nat} {e:PyData} (ha:ls[a]?=some la) (hb:bad a=some e) (hm:∀ j,j<a→bad j=none) (od:∀ n e,bad n=some e→∃ l,OddP l e) (oe:OddP la e) :
  ∃ N',GZ (bltN fin bad 0)∧Fails N' [⟨bltN fin bad 0,none,1,0,0⟩] [] ("InvalidCode","number",(a:Int)):=by
 have hz:∀ n x,bad n=some (.str x)→x.length≤100000:=fun n x h=>by
  obtain ⟨l,o⟩:=od n _ h
  exact o.st x rfl
 have al:a<fin.length:=by rw [← X.bi.ll];exact (List.getElem?_eq_some_iff.mp ha).1
 obtain ⟨N',f⟩:=blt_fails X.b X.bi hb hm hz X.szs al (fun l hl=>by rw [ha] at hl;cases hl;exact oe.no) X.l
 exact ⟨N',gz_blt X.bi (fun n e h=>by obtain ⟨l,o⟩:=od n e h;exact ⟨o.sz,o.pt⟩) hz X.szs X.l _ 0 (Nat.le_refl _) X.ne,f⟩
end
section
open FcM (Way Node Tab Pd Rs Wt)
theorem BadT.nil {K:PySem.W.Frag} {F:Hp}:BadT K F [] (fun _=>none):=⟨fun n e z=>(by cases z),fun n _=>rfl⟩
theorem BadT.put {K:PySem.W.Frag} {F:Hp} {kvs:List (Key×V)} {bad:Nat→Option PyData} (h:BadT K F kvs bad) {n:Nat} {v:V} {e:PyData} (dz:Dz K F v e):BadT K F (putK kvs (.inl (n:Int)) v) (fun j=>if j=n then some e else bad j):=by
 refine ⟨fun j x hx=>?_,fun j hx=>?_⟩
 ·rw [valV_put]
  by_cases z:j=n
  ·subst z
   have hx:(if j=j then some e else bad j)=some x:=hx
   rw [if_pos rfl] at hx
   cases hx
   exact ⟨v,if_pos rfl,dz⟩
  ·have hx:(if j=n then some e else bad j)=some x:=hx
   rw [if_neg z] at hx
   rw [if_neg (fun y=>z (by have:=Sum.inl.inj y;omega))]
   exact h.t j x hx
 ·rw [valV_put]
  have hx:(if j=n then some e else bad j)=none:=hx
  by_cases z:j=n
  ·rw [if_pos z] at hx
   cases hx
  ·rw [if_neg z] at hx
   rw [if_neg (fun y=>z (by have:=Sum.inl.inj y;omega))]
   exact h.n j hx
theorem Sg.frz {p:Addr} {F0 H0 F H:Hp} (S:Sg p F0 H0 F H) {a:Addr} {o:HO} (n:H0 a=none) (s:H a=some o) (f:F a=none) (ne:p≠a):Ex F (upd F a o)∧Sg p F0 H0 (upd F a o) H :=
 ⟨exu (Evl.Ex.refl _) f,S.g.frzAt n s f,by rw [upd_ne ne];exact S.f,S.s⟩
theorem Sg.un {p:Addr} {F H F' H':Hp} (S:Sg p F H F' H') {a:Addr} {o:HO} (h:H a=some o) (f:F a=none) (ne:p≠a):F' a=none∧H' a=some o :=
 ⟨S.g.nw a (by rw [h];exact fun z=>nomatch z) f (fun z=>ne z.symm),S.g.kp a o h (fun z=>ne z.symm)⟩
theorem Sg.then_ {p:Addr} {F0 H0 F H F' H':Hp} (S:Sg p F0 H0 F H) (T:Sg p F H F' H'):Sg p F0 H0 F' H':=⟨S.g.trans T.g,T.f,T.s⟩
section
variable {P:Program} {w:World} {h:Heap} {K:PySem.W.Frag} {mg:Str→Option Value} {base:Heap}
abbrev N_law:List Str:=["_law_script","_law_cell","_law_source","_law_statement_here","_law_rows","_law_turn","_law_at","_law_later","_law_bad","_law_number","_law_value","_law_above","_law_parts_here","_law_loops_here","_law_fine"]
theorem sc_law:FnScope N_law ["_law_script"] (defScope sd_law):=⟨rfl,rfl,rfl,by decide +kernel,rfl,by decide +kernel,by decide +kernel⟩
theorem okF_law (T:Tx w h K mg):∃ fd,FnOk P w K mg base (CX P w) 20 (He.fAd K ("law",none)) fd ["_law_script"] (sp_law K)∧Binds K fd ["_law_script"] []∧PySem.W.keepIn K (.ref (He.fAd K ("law",none)))=true∧FunD K "law" "law" (defArgs sd_law) (defBody sd_law) (defScope sd_law) [] [] (He.fAd K ("law",none)) fd:=by
 obtain ⟨fd,F⟩:=F_law T
 refine ⟨fd,?_,F.bindsN (fun _ _ _ _ _ _ us hl=>match us,hl with | [_],_=>rfl),F.kp,F⟩
 obtain ⟨fd_law_cell_at,G_law_cell_at,bi_law_cell_at,kp_law_cell_at⟩:=ok_law_cell_at (P:=P) (base:=base) T
 obtain ⟨fd_law_draw,G_law_draw,bi_law_draw,kp_law_draw⟩:=ok_law_draw (P:=P) (base:=base) T
 obtain ⟨fd_law_flat,G_law_flat,bi_law_flat,kp_law_flat⟩:=ok_law_flat (P:=P) (base:=base) T
 obtain ⟨fd_law_loops,G_law_loops,bi_law_loops,kp_law_loops⟩:=ok_law_loops (P:=P) (base:=base) T
 obtain ⟨fd_law_odd,G_law_odd,bi_law_odd,kp_law_odd⟩:=ok_law_odd (P:=P) (base:=base) T
 obtain ⟨fd_law_one,G_law_one,bi_law_one,kp_law_one⟩:=ok_law_oneV (P:=P) (base:=base) T
 obtain ⟨fd_law_said,G_law_said,bi_law_said,kp_law_said⟩:=ok_law_said (P:=P) (base:=base) T
 obtain ⟨fd_law_source_of,G_law_source_of,bi_law_source_of,kp_law_source_of⟩:=ok_law_source_of (P:=P) (base:=base) T
 obtain ⟨fd_law_statement,G_law_statement,bi_law_statement,kp_law_statement⟩:=ok_stm (P:=P) (base:=base) T 5
 obtain ⟨fd_law_built,G_law_built,bi_law_built,kp_law_built⟩:=ok_blt (P:=P) (base:=base) T 12
 refine F.ok sc_law (fun vs H Q E h=>?_) (fun cdv A outer s H vs Q E hr h=>?_)
 ·obtain ⟨a,ns,rfl,hl,hs,q⟩:=h
  rfl
 ·obtain ⟨a,ns,rfl,hl,hs,q⟩:=h
  refine ⟨_,PSs.nox (pss_cons (ps_for PassesOwn.never rfl (pi_list (pe_op op_cat (pe_lst (pa_cons (pe_call G_law_cell_at (hr.mono (by decide)) rfl (g_law_cell_at T) kp_law_cell_at bi_law_cell_at .nil passF (pa_cons (pv 0) (pa_cons pe_int pa_nil))) pa_nil)) (pe_slice sl_list (pv 0) (po_some pe_int) (po_some pe_int)))) (pg_name (i:=1) sc_law.nd rfl (Or.inl rfl)) (pss_cons (ps_set (i:=2) sc_law.nd rfl (Or.inl rfl) (pe_call G_law_source_of (hr.mono (by decide)) rfl (g_law_source_of T) kp_law_source_of bi_law_source_of .nil passF (pa_cons (pv 1) pa_nil))) (pss_cons (ps_set (i:=3) sc_law.nd rfl (Or.inl rfl) (pe_call G_law_statement (hr.mono (by decide)) rfl (g_law_statement T) kp_law_statement bi_law_statement .nil passF (pa_cons (pv 2) (pa_cons (pe_op op_add pe_int (pe_call G_law_draw (hr.mono (by decide)) rfl (g_law_draw T) kp_law_draw bi_law_draw .nil passF (pa_cons (pv 2) (pa_cons pe_int pa_nil)))) (pa_cons pe_int pa_nil))))) (pss_cons (ps_set (i:=4) sc_law.nd rfl (Or.inl rfl) (pe_call G_law_flat (hr.mono (by decide)) rfl (g_law_flat T) kp_law_flat bi_law_flat .nil passF (pa_cons (pv 3) pa_nil))) (pss_cons (ps_if (PW.pt (pw_or (pt_cmpR (op_neM hr) (pe_call G_law_built (hr.mono (by decide)) rfl (g_law_built T) kp_law_built bi_law_built .nil passF (pa_cons (pv 4) (pa_cons pe_int (pa_cons pe_dnewK pa_nil)))) (pv 3) (nomark _)) (pw_or1 (pt_cmpR op_ne (pe_call G_law_said (hr.mono (by decide)) rfl (g_law_said T) kp_law_said bi_law_said .nil passF (pa_cons (pv 3) pa_nil)) pe_str (nomark _))))) (pss_one (ps_ret pe_bl)) pss_nil) (pss_cons (ps_for PassesOwn.never rfl (pi_range1 rfl (fr_range T) (pa_cons pe_int pa_nil)) (pg_name (i:=5) sc_law.nd rfl (Or.inl rfl)) (pss_cons (ps_par rfl sc_law.nd (i:=6) (j:=7) rfl rfl (by decide) rfl rfl (pa_cons (pe_call G_law_draw (hr.mono (by decide)) rfl (g_law_draw T) kp_law_draw bi_law_draw .nil passF (pa_cons (pv 2) (pa_cons (pe_callB call_len_seq rfl (fr_len T) b_len (pa_cons (pv 4) pa_nil)) pa_nil))) (pa_cons (pe_call G_law_draw (hr.mono (by decide)) rfl (g_law_draw T) kp_law_draw bi_law_draw .nil passF (pa_cons (pv 2) (pa_cons (pe_callB call_len_seq rfl (fr_len T) b_len (pa_cons (pv 4) pa_nil)) pa_nil))) pa_nil)) (by rfl)) (pss_cons (ps_set (i:=8) sc_law.nd rfl (Or.inl rfl) (pe_disp (pps_cons (pv 6) (pe_call G_law_odd (hr.mono (by decide)) rfl (g_law_odd T) kp_law_odd bi_law_odd .nil passF (pa_cons (pv 2) (pa_cons (pe_call G_law_loops (hr.mono (by decide)) rfl (g_law_loops T) kp_law_loops bi_law_loops .nil passF (pa_cons (pv 4) (pa_cons (pv 6) pa_nil))) pa_nil))) pps_nil) (by rfl) (by rfl) (fun z=>by cases z) (by decide))) (Evl.pss_cut (ps_if (PW.pt (pw_and (pt_cmpR op_gt (pv 7) (pv 6) (nomark _)) (pw_and1 (pt_cmpR op_eq (pe_call G_law_draw (hr.mono (by decide)) rfl (g_law_draw T) kp_law_draw bi_law_draw .nil passF (pa_cons (pv 2) (pa_cons pe_int pa_nil))) pe_int (nomark _))))) (pss_one (ps_asg (pe_call G_law_odd (hr.mono (by decide)) rfl (g_law_odd T) kp_law_odd bi_law_odd .nil passF (pa_cons (pv 2) (pa_cons (pe_call G_law_loops (hr.mono (by decide)) rfl (g_law_loops T) kp_law_loops bi_law_loops .nil passF (pa_cons (pv 4) (pa_cons (pv 7) pa_nil))) pa_nil))) (pg_sub (pv 8) (pv 7) (set_dict (hu_of hr))))) pss_nil) (pss_one (ps_if (pt_cmpR op_ne (pe_call G_law_said (hr.mono (by decide)) rfl (g_law_said T) kp_law_said bi_law_said .nil passF (pa_cons (pe_call G_law_built (hr.mono (by decide)) rfl (g_law_built T) kp_law_built bi_law_built .nil passF (pa_cons (pv 4) (pa_cons pe_int (pa_cons (pv 8) pa_nil)))) pa_nil)) (pv 6) (nomark _)) (pss_one (ps_ret pe_bl)) pss_nil)))))) (pss_one (ps_for PassesOwn.never rfl (pi_enum rfl (fr_enumerate T) (pa_cons (pv 4) pa_nil)) (pg_tup rfl (pgs_cons (pg_name (i:=9) sc_law.nd rfl (Or.inl rfl)) (pgs_cons (pg_lst rfl (pgs_cons (pg_name (i:=10) sc_law.nd rfl (Or.inl rfl)) (pgs_cons (pg_name (i:=11) sc_law.nd rfl (Or.inl rfl)) (pgs_cons (pg_name (i:=12) sc_law.nd rfl (Or.inl rfl)) pgs_nil)))) pgs_nil))) (pss_cons (ps_set (i:=13) sc_law.nd rfl (Or.inl rfl) (pe_call G_law_loops (hr.mono (by decide)) rfl (g_law_loops T) kp_law_loops bi_law_loops .nil passF (pa_cons (pv 4) (pa_cons (pv 9) pa_nil)))) (pss_cons (ps_set (i:=14) sc_law.nd rfl (Or.inl rfl) (pe_call G_law_one (hr.mono (by decide)) rfl (g_law_one T) kp_law_one bi_law_one .nil passF (pa_cons (pv 2) (pa_cons (pe_lst (pa_cons (pe_tup (pa_cons pe_str (pa_cons pe_str pa_nil))) (pa_cons (pe_tup (pa_cons pe_str (pa_cons pe_str pa_nil))) (pa_cons (pe_tup (pa_cons pe_str (pa_cons (pv 13) pa_nil))) (pa_cons (pe_tup (pa_cons pe_str (pa_cons (pv 13) pa_nil))) pa_nil))))) pa_nil)))) (Evl.pss_cut (ps_set (i:=14) sc_law.nd rfl (Or.inl rfl) (pe_ifExp (PW.pt (pw_or (pt_cmpR op_gt (pv 13) pe_int (nomark _)) (pw_or1 (pt_cmpR op_in_seq (pe_ix ix_tup (pv 14) pe_int (fun _ _=>rfl)) (pe_tup (pa_cons pe_str (pa_cons pe_str pa_nil))) (by rfl))))) (pv 14) (pe_tup (pa_cons pe_str pa_nil)))) (pss_one (ps_if (pt_cmpR op_ne (pe_call G_law_said (hr.mono (by decide)) rfl (g_law_said T) kp_law_said bi_law_said .nil passF (pa_cons (pe_call G_law_built (hr.mono (by decide)) rfl (g_law_built T) kp_law_built bi_law_built .nil passF (pa_cons (pv 4) (pa_cons pe_int (pa_cons (pe_disp (pps_cons (pv 9) (pv 14) pps_nil) (by rfl) (by rfl) (fun z=>by cases z) (by decide)) pa_nil)))) pa_nil)) pe_str (nomark _)) (pss_one (ps_ret pe_bl)) pss_nil))))))))))))) (pss_one (ps_ret pe_bl))),?_⟩
  refine ⟨_,rfl,a,ns,0,rfl,hs,sz (by simp),?_⟩
  intro p1 n1
  generalize e1:upd _ p1 _=H1
  obtain ⟨x1,s1,o1⟩:=new_of e1 n1
  clear e1
  have hs1:=Evl.ex_l x1 hs
  refine ⟨_,rfl,1,rfl,6,rfl,a,_,rfl,hs1,?_⟩
  intro p2 n2
  generalize e2:upd _ p2 _=H2
  obtain ⟨x2,s2,o2⟩:=new_of e2 n2
  clear e2
  have hc2:(cutV (ns.map V.int) (some 1) (some 6)).length≤63:=Nat.le_trans (cutV_length ..) (by rw [List.length_map];exact hl)
  refine ⟨p1,p2,_,_,rfl,rfl,x2 _ _ s1,s2,sz (by simp;omega),?_⟩
  intro p3 n3
  generalize e3:upd _ p3 _=H3
  obtain ⟨x3,s3,o3⟩:=new_of e3 n3
  clear e3
  have isI:∀ (i:Nat) (x:V),([V.int (ns.getD 0 0)]++cutV (ns.map V.int) (some 1) (some 6))[i]?=some x→∃ c,x=.int c:=fun i x hx=>by
   have hm:=List.mem_of_getElem? hx
   rcases List.mem_append.mp hm with h1 | h1
   ·exact ⟨_,List.mem_singleton.mp h1⟩
   ·obtain ⟨c,_,e⟩:=List.mem_map.mp (cut_mem h1)
    exact ⟨c,e.symm⟩
  generalize [V.int (ns.getD 0 0)]++cutV (ns.map V.int) (some 1) (some 6)=cs at s3 isI
  refine ⟨p3,rfl,⟨_,Evl.sq_of s3⟩,?_⟩
  refine for_it (walk_list (xs:=cs)) (fun i σ' H'=>Ex H3 H'∧∃ u1 u2 u3 u4 u5 u6 u7 u8 u9 u10 u11 u12 u13 u14,σ'=[some (.ref a),u1,u2,u3,u4,u5,u6,u7,u8,u9,u10,u11,u12,u13,u14]) ?_ ?_ ?_ ?_
  ·exact ⟨Evl.Ex.refl _,_,_,_,_,_,_,_,_,_,_,_,_,_,_,rfl⟩
  ·exact fun i σ' H' _ ⟨e,_⟩=>Evl.sq_of (e _ _ s3)
  rotate_left
  ·rintro σ' H' _
   exact q H'
  rintro i v σ' Ha Hb hi ⟨e,u1,u2,u3,u4,u5,u6,u7,u8,u9,u10,u11,u12,u13,u14,rfl⟩ ⟨rfl,hv⟩
  obtain ⟨c,rfl⟩:=isI i v hv
  refine ⟨_,rfl,c,rfl,fun p4 sx sy n4=>?_⟩
  generalize e4:upd _ p4 _=H4
  obtain ⟨x4,s4,o4⟩:=new_of e4 n4
  clear e4
  have S4:Sg p4 hp0 H4 hp0 H4:=Sg.start (fun b o z=>by cases z) rfl ⟨_,_,_,s4⟩
  refine ⟨_,rfl,_,rfl,p4,sx,sy,0,4,rfl,s4,(by decide),(by decide),fun sx' sy' sz' v v0 v1=>?_⟩
  generalize e5:upd _ p4 _=H5
  obtain ⟨s5,o5⟩:=set_of e5
  clear e5
  obtain ⟨n,rfl⟩:∃ n:Nat,v=(n:Int):=⟨v.toNat,by omega⟩
  have en:(2:Int) + (n:Int)=((2 + n:Nat):Int):=by omega
  have S5:=S4.one o5 ⟨_,_,_,s5⟩
  refine ⟨_,_,rfl,rfl,hp0,p4,2 + n,0,(by show [V.ref p4,V.int (2 + (n:Int)),V.int 0]=_;rw [en]<;>rfl),by omega,S5.g.fh,rfl,S5.s,by omega,fun F6 H6 vd d g6 f6 s6 dvd sd=>?_⟩
  have sd5:SD 5 0 d:=sd.mono (by omega)
  obtain ⟨N,fin,ls,w,X⟩:=dk_of sd5
  have S6:Sg p4 hp0 H4 F6 H6:=⟨S5.g.trans g6,f6,s6⟩
  refine ⟨_,rfl,F6,vd,d,GS,N,fin,rfl,S6.g.fh,dvd,(fun e he=>gs_parts he),X.gd,X.b,fun F9 H9 ra g9 fl=>?_⟩
  have S9:=S6.sub g9
  have dvd9:=dp_ex g9.ff dvd
  have Xx:Fx fin ls:=⟨X.bi,X.pn,X.l,X.ne,X.gs⟩
  obtain ⟨r0,hr0,ed0⟩:=X.r0
  have dp0:r0.d.depth≤12:=by rw [ed0];exact X.dp
  refine ⟨_,rfl,?_⟩
  intro p10 n10
  generalize e10:upd _ p10 _=H10
  obtain ⟨x10,s10,o10⟩:=new_of e10 n10
  clear e10
  obtain ⟨F10,e10,k10,S10⟩:=S9.new n10 s10 o10
  refine ⟨F10,ra,fin,ls,0,p10,[],(fun _=>none),r0,rfl,fl.ex e10,Xx,S10.g.fh,k10,⟨fun n e z=>(by cases z),fun n _=>rfl⟩,hr0,dp0,fun F11 H11 v11 g11 dz11=>?_⟩
  rw [X.same fun _=>rfl] at dz11
  have S11:=S10.sub g11
  have dv11:=dz_dp dz11 (okS_nod X.ok X.w4)
  have dvd11:=dp_ex (e10.trans g11.ff) dvd9
  have cl:=(gs_parts X.gd).1
  refine ⟨_,rfl,d,d,dp_ex S11.g.fh dv11,dp_ex S11.g.fh dvd11,cl,cl,?_,?_⟩
  ·have:=X.dp
   omega
  refine ⟨_,rfl,itF (by rw [PySem.SeqAt.eqv_refl _ cl]<;>rfl) ?_⟩
  refine ⟨_,rfl,F11,vd,rfl,S11.g.fh,.inl ⟨d,N,fin,dvd11,X.gd,X.b,fun H12 x12=>?_⟩⟩
  refine ⟨rfl,_,rfl,itF rfl ?_⟩
  have fl11:=fl.ex (e10.trans g11.ff)
  have S12:Sg p4 hp0 H4 F11 H12:=S11.sub (Gr.new S11.g.fh x12)
  obtain ⟨rs,rcs,hrs,hrl,_⟩:=fl11
  have fl11:=fl.ex (e10.trans g11.ff)
  have hrl:(rs.map V.ref).length=fin.length:=by rw [List.length_map];exact hrl
  refine ⟨12,rfl,by decide,by decide,?_⟩
  refine for_it (walk_range (lo:=0) (n:=12)) (fun j σ' H'=>∃ (F':Hp) (t5 t6 t7 t8 t9 t10 t11 t12 t13 t14:Option V),σ'=[some (.ref a),some (.int c),some (.ref p4),some vd,some (.ref ra),t5,t6,t7,t8,t9,t10,t11,t12,t13,t14]∧Sg p4 hp0 H4 F' H'∧Ex F11 F') ?_ ?_ ?_ ?_
  ·exact ⟨F11,_,_,_,_,_,_,_,_,_,_,rfl,S12,Evl.Ex.refl _⟩
  ·exact fun _ _ _ _ _=>True.intro
  ·rintro j vj σ' Hc H13 hj ⟨F13,t5,t6,t7,t8,t9,t10,t11,t12,t13,t14,rfl,S13,e13⟩ ⟨rfl,rfl⟩
   obtain ⟨y1,y2,y3,hy⟩:=S13.s
   refine ⟨_,rfl,_,rfl,ra,_,rfl,.inl (Evl.sq_of (S13.g.fh _ _ (e13 _ _ hrs))),?_⟩
   refine ⟨p4,y1,y2,y3,_,rfl,hy,(by rw [hrl];have:=X.ne;omega),(by rw [hrl];have:=X.l;omega),fun x' y' z' v v0 v1=>?_⟩
   generalize e14:upd _ p4 _=H14
   obtain ⟨s14,o14⟩:=set_of e14
   clear e14
   obtain ⟨m,rfl⟩:∃ n:Nat,v=(n:Int):=⟨v.toNat,by omega⟩
   have S14:=S13.one o14 ⟨_,_,_,s14⟩
   refine ⟨_,rfl,_,rfl,ra,_,rfl,.inl (Evl.sq_of (S14.g.fh _ _ (e13 _ _ hrs))),?_⟩
   refine ⟨p4,_,_,_,_,rfl,s14,(by rw [hrl];have:=X.ne;omega),(by rw [hrl];have:=X.l;omega),fun x2' y2' z2' v2 w0 w1=>?_⟩
   generalize e15:upd _ p4 _=H15
   obtain ⟨s15,o15⟩:=set_of e15
   clear e15
   obtain ⟨l,rfl⟩:∃ n:Nat,v2=(n:Int):=⟨v2.toNat,by omega⟩
   have S15:=S14.one o15 ⟨_,_,_,s15⟩
   refine ⟨_,_,rfl,?_⟩
   have hm:m<fin.length:=by rw [← hrl];omega
   have hlt:l<fin.length:=by rw [← hrl];omega
   have fl13:=fl11.ex e13
   have lsm:∀ k,k<fin.length→∃ lk,ls[k]?=some lk:=fun k hk=>⟨_,List.getElem?_eq_getElem (by rw [X.bi.ll];exact hk)⟩
   obtain ⟨lm,hlm⟩:=lsm m hm
   obtain ⟨ll,hll⟩:=lsm l hlt
   intro p20 n20
   have n20H:=S15.n0 n20
   have f20:=ex_none S15.g.fh n20
   have ne20:=S15.ne n20
   have S20:=S15.keep (H':=upd H15 p20 (.dK [])) n20 upd_same (fun b hb=>upd_ne hb)
   have l20:upd H15 p20 (.dK []) p20=some (.dK []):=upd_same
   generalize upd H15 p20 (.dK [])=H20 at *
   refine ⟨_,rfl,_,rfl,_,rfl,_,rfl,F13,ra,fin,ls,m,lm,rfl,fl13,S20.g.fh,Xx,hm,hlm,fun H21 x21=>?_⟩
   have S21:Sg p4 hp0 H4 F13 H21:=S20.sub (Gr.new S20.g.fh x21)
   have l21:=x21 _ _ l20
   refine ⟨F13,p4,lm,rfl,by have:=X.lw m lm hlm;omega,S21.g.fh,S21.f,S21.s,fun F22 H22 v22 d22 S22 dz22 od22=>?_⟩
   obtain ⟨f22,l22⟩:=S22.un l21 f20 ne20
   have S22:=S21.then_ S22
   have e22:Ex F13 F22:=‹Sg p4 F13 H21 F22 H22›.g.ff
   refine ⟨l22,[(Sum.inl (m:Int),v22)],rfl,(by show 1≤15;decide),?_⟩
   generalize e23:upd H22 p20 _=H23
   have l23:H23 p20=some (.dK (putK [] (.inl (m:Int)) v22)):=by rw [← e23,upd_same]<;>rfl
   have o23:∀ b,b≠p20→H23 b=H22 b:=fun b hb=>by rw [← e23,upd_ne hb]
   clear e23
   have S23:=S22.mut n20H f22 ne20 o23
   have b23:BadT K F22 (putK [] (.inl (m:Int)) v22) (fun j=>if j=m then some d22 else none):=BadT.nil.put dz22
   refine ⟨fun σ' H'=>∃ (F':Hp) (kvs:List (Key×V)) (bad:Nat→Option PyData) (u5:Option V),σ'=[some (.ref a),some (.int c),some (.ref p4),some vd,some (.ref ra),u5,some (.int (m:Int)),some (.int (l:Int)),some (.ref p20),t9,t10,t11,t12,t13,t14]∧Sg p4 hp0 H4 F' H'∧Ex F13 F'∧F' p20=none∧H' p20=some (.dK kvs)∧BadT K F' kvs bad∧bad m=some d22∧(∀ j,j<m→bad j=none)∧∀ n e,bad n=some e→∃ l,OddP l e,?_,?_⟩
   ·have od1:∀ n e,(if n=m then some d22 else none)=some e→∃ l,OddP l e:=fun n e z=>by
     by_cases y:n=m
     ·rw [if_pos y] at z;cases z;exact ⟨_,od22⟩
     ·rw [if_neg y] at z;cases z
    refine ⟨_,rfl,_,rfl,_,_,rfl,rfl,_,rfl,ite_of (fun c1=>?_) (fun c1=>?_)⟩
    ·have hml:m<l:=by have:=of_decide_eq_true c1;omega
     obtain ⟨z1,z2,z3,hz⟩:=S23.s
     refine ⟨_,rfl,p4,z1,z2,z3,2,rfl,hz,by decide,by decide,fun x3 y3 z3' v3 _ _=>?_⟩
     generalize e24:upd _ p4 _=H24
     obtain ⟨s24,o24⟩:=set_of e24
     clear e24
     have S24:=S23.one o24 ⟨_,_,_,s24⟩
     have l24:H24 p20=some (.dK (putK [] (.inl (m:Int)) v22)):=by rw [o24 _ ne20.symm];exact l23
     refine ⟨rfl,_,rfl,ite_of (fun c2=>?_) (fun c2=>?_)⟩
     ·refine ⟨_,rfl,_,rfl,_,rfl,F22,ra,fin,ls,l,ll,rfl,fl13.ex e22,S24.g.fh,Xx,hlt,hll,fun H25 x25=>?_⟩
      have S25:Sg p4 hp0 H4 F22 H25:=S24.sub (Gr.new S24.g.fh x25)
      refine ⟨F22,p4,ll,rfl,by have:=X.lw l ll hll;omega,S25.g.fh,S25.f,S25.s,fun F26 H26 v26 d26 T26 dz26 od26=>?_⟩
      obtain ⟨f26,l26⟩:=T26.un (x25 _ _ l24) f22 ne20
      have S26:=S25.then_ T26
      refine ⟨_,rfl,_,rfl,p20,_,rfl,DPut.k (k:=Sum.inl (l:Int)) l26 (szl (by show 1<100000;decide)),?_⟩
      generalize e27:upd H26 p20 _=H27
      have l27:H27 p20=some (.dK (putK (putK [] (.inl (m:Int)) v22) (.inl (l:Int)) v26)):=by rw [← e27,upd_same]
      have o27:∀ b,b≠p20→H27 b=H26 b:=fun b hb=>by rw [← e27,upd_ne hb]
      clear e27
      have S27:=S26.mut n20H f26 ne20 o27
      refine ⟨F26,_,_,_,rfl,S27,e22.trans T26.g.ff,f26,l27,(b23.ex T26.g.ff).put dz26,?_,fun j hj=>?_,fun n e z=>?_⟩
      ·show (if m=l then some d26 else if m=m then some d22 else none)=some d22
       rw [if_neg (by omega),if_pos rfl]
      ·show (if j=l then some d26 else if j=m then some d22 else none)=none
       rw [if_neg (by omega),if_neg (by omega)]
      ·have z:(if n=l then some d26 else if n=m then some d22 else none)=some e:=z
       by_cases y:n=l
       ·rw [if_pos y] at z;cases z;exact ⟨_,od26⟩
       ·rw [if_neg y] at z;exact od1 n e z
     ·exact ⟨F22,_,_,_,rfl,S24,e22,f22,l24,b23,if_pos rfl,fun j hj=>if_neg (by omega),od1⟩
    ·refine itF rfl ?_
     exact ⟨F22,_,_,_,rfl,S23,e22,f22,l23,b23,if_pos rfl,fun j hj=>if_neg (by omega),od1⟩
   rintro σ' H30 ⟨F30,kvs,bad,u5,rfl,S30,e30,f30,l30,b30,bm30,bl30,bo30⟩
   obtain ⟨e31,S31⟩:=S30.frz n20H l30 f30 ne20
   generalize hF31:upd F30 p20 (.dK kvs)=F31 at *
   have k31:F31 p20=some (.dK kvs):=by rw [← hF31,upd_same]
   clear hF31
   obtain ⟨N',gz,fails⟩:=X.odd hlm bm30 bl30 bo30 od22
   refine ⟨_,rfl,_,rfl,F31,ra,fin,ls,0,p20,kvs,bad,r0,rfl,fl13.ex (e30.trans e31),Xx,S31.g.fh,k31,b30.ex e31,hr0,dp0,fun F32 H32 v32 g32 dz32=>?_⟩
   have S32:=S31.sub g32
   refine ⟨F32,v32,rfl,S32.g.fh,.inr ⟨_,N',(m:Int),GZ,dz32,fun e he=>gz_parts he,gz,fails,fun H33 x33=>?_⟩⟩
   refine ⟨_,rfl,rfl,_,rfl,itF (by simp) ?_⟩
   exact ⟨F32,_,_,_,_,_,_,_,_,_,_,rfl,S32.sub (Gr.new S32.g.fh x33),((e13.trans e30).trans e31).trans g32.ff⟩
  rintro σ' H60 ⟨F60,t5,t6,t7,t8,t9,t10,t11,t12,t13,t14,rfl,S60,e60⟩
  refine ⟨_,rfl,ra,_,rfl,Evl.sq_of (S60.g.fh _ _ (e60 _ _ hrs)),?_⟩
  refine for_it (walk_enum (xs:=rs.map V.ref)) (fun i σ' H'=>∃ (F':Hp) (t5 t6 t7 t8 t9 t10 t11 t12 t13 t14:Option V),σ'=[some (.ref a),some (.int c),some (.ref p4),some vd,some (.ref ra),t5,t6,t7,t8,t9,t10,t11,t12,t13,t14]∧Sg p4 hp0 H4 F' H'∧Ex F11 F') ?_ ?_ ?_ ?_
  ·exact ⟨F60,_,_,_,_,_,_,_,_,_,_,rfl,S60,e60⟩
  ·exact fun i σ' H' _ ⟨F',_,_,_,_,_,_,_,_,_,_,_,S,e⟩=>Evl.sq_of (S.g.fh _ _ (e _ _ hrs))
  rotate_left
  ·rintro σ' H' ⟨F',t5,t6,t7,t8,t9,t10,t11,t12,t13,t14,rfl,S,_⟩
   exact ⟨fun b o hb=>S.g.kp b o (x4 _ _ (e _ _ hb)) (ne_of_none (e b o hb) n4),_,_,_,_,_,_,_,_,_,_,_,_,_,_,rfl⟩
  rintro k v2 σ' Ja Jb hk ⟨F61,t5,t6,t7,t8,t9,t10,t11,t12,t13,t14,rfl,S61,e61⟩ ⟨tp,u1,u2,rfl,n2,rfl,z1,z2⟩
  cases z1
  have hkl:k<fin.length:=by rw [← hrl];exact hk
  have hr:fin[k]?=some fin[k]:=List.getElem?_eq_getElem hkl
  have fl61:=fl11.ex e61
  obtain ⟨rs',rp,rc,va,xr,dr,k1,k2,k3,vS,_,_,_⟩:=flat_at03 fl61 Xx hr
  have ers:rs'.map V.ref=rs.map V.ref:=by
   have h1:=e61 _ _ hrs
   rw [h1] at k1
   injection k1 with k1
   injection k1 with k1
   exact k1.symm
  have z2:(rs.map V.ref)[k]?=some u2:=z2
  rw [ers,z2] at k2
  cases k2
  obtain ⟨li,hli⟩:∃ li,ls[k]?=some li:=⟨_,List.getElem?_eq_getElem (by rw [X.bi.ll];exact hkl)⟩
  have S62:=S61.keep (H':=upd Ja tp (.tup [.int (k:Int),.ref rp])) n2 upd_same (fun b hb=>upd_ne hb)
  refine ⟨tp,_,rfl,Evl.st_of upd_same,rfl,?_⟩
  refine ⟨_,_,rfl,?_⟩
  generalize upd Ja tp (.tup [.int (k:Int),.ref rp])=H62 at *
  refine ⟨_,_,rfl,?_⟩
  refine ⟨rp,_,rfl,Evl.sq_of (S62.g.fh _ _ k3),rfl,?_⟩
  refine ⟨_,_,rfl,?_⟩
  refine ⟨_,_,rfl,?_⟩
  refine ⟨_,_,rfl,?_⟩
  refine ⟨rfl,rfl,?_⟩
  refine ⟨_,rfl,_,rfl,F61,ra,fin,ls,k,li,rfl,fl61,S62.g.fh,Xx,hkl,hli,fun H63 x63=>?_⟩
  have S63:Sg p4 hp0 H4 F61 H63:=S62.sub (Gr.new S62.g.fh x63)
  refine ⟨_,rfl,sz (by simp),?_⟩
  intro p64 n64
  generalize e64:upd _ p64 _=H64
  obtain ⟨x64,s64,o64⟩:=new_of e64 n64
  clear e64
  obtain ⟨F64,e64,k64,S64⟩:=S63.new n64 s64 o64
  refine ⟨sz (by simp),?_⟩
  intro p65 n65
  generalize e65:upd _ p65 _=H65
  obtain ⟨x65,s65,o65⟩:=new_of e65 n65
  clear e65
  obtain ⟨F65,e65,k65,S65⟩:=S64.new n65 s65 o65
  refine ⟨_,rfl,sz (by simp),?_⟩
  intro p66 n66
  generalize e66:upd _ p66 _=H66
  obtain ⟨x66,s66,o66⟩:=new_of e66 n66
  clear e66
  obtain ⟨F66,e66,k66,S66⟩:=S65.new n66 s66 o66
  refine ⟨_,rfl,sz (by simp),?_⟩
  intro p67 n67
  generalize e67:upd _ p67 _=H67
  obtain ⟨x67,s67,o67⟩:=new_of e67 n67
  clear e67
  obtain ⟨F67,e67,k67,S67⟩:=S66.new n67 s67 o67
  refine ⟨sz (by simp),?_⟩
  intro p68 n68
  generalize e68:upd _ p68 _=H68
  obtain ⟨x68,s68,o68⟩:=new_of e68 n68
  clear e68
  have S68:=S67.keep n68 s68 o68
  refine ⟨p4,p68,_,rfl,S68.s,s68,(S67.ne n68).symm,by simp,by simp,fun H69 v hv hp69 o69=>?_⟩
  have S69:=S68.one o69 hp69
  obtain ⟨pe,ee,kk,xs,rfl,hpe,dpe,fine⟩:∃ (pe:Addr) (ee:PyData) (kk:Str) (xs:List V),v=.ref pe∧SqT K F67 pe (.str kk::xs)∧Dz K F67 (.ref pe) ee∧((kk∈(["do","call"]:List Str)∧FineP li ee)∨(kk ∉ (["do","call"]:List Str)∧(1≤li→FineP li ee))):=by
   simp only [List.mem_cons,List.not_mem_nil,or_false] at hv
   rcases hv with rfl | rfl | rfl | rfl
   ·have h:=Evl.st_of (K:=K) ((e65.trans (e66.trans e67)) _ _ k64)
    exact ⟨_,_,_,_,rfl,h,.tup h (.cons (.of (.str _)) (.cons (.of (.str _)) .nil)),.inl ⟨by decide,fine_do li⟩⟩
   ·have h:=Evl.st_of (K:=K) ((e66.trans e67) _ _ k65)
    exact ⟨_,_,_,_,rfl,h,.tup h (.cons (.of (.str _)) (.cons (.of (.str _)) .nil)),.inl ⟨by decide,fine_call li⟩⟩
   ·have h:=Evl.st_of (K:=K) (e67 _ _ k66)
    exact ⟨_,_,_,_,rfl,h,.tup h (.cons (.of (.str _)) (.cons (.of (.int _)) .nil)),.inr ⟨by decide,fine_jmp (.inl rfl)⟩⟩
   ·have h:=Evl.st_of (K:=K) k67
    exact ⟨_,_,_,_,rfl,h,.tup h (.cons (.of (.str _)) (.cons (.of (.int _)) .nil)),.inr ⟨by decide,fine_jmp (.inr rfl)⟩⟩
  refine ⟨fun σ' H'=>∃ (F':Hp) (e':PyData) (v':V),σ'=[some (.ref a),some (.int c),some (.ref p4),some vd,some (.ref ra),t5,t6,t7,t8,some (.int (k:Int)),some (.ref va),some (parV fin[k].par),some (.ref rc),some (.int (li:Int)),some v']∧Sg p4 hp0 H4 F' H'∧Ex F67 F'∧Dz K F' v' e'∧FineP li e',?_,?_⟩
  ·refine ⟨_,rfl,_,_,rfl,rfl,_,rfl,ite_of (fun c1=>?_) (fun c1=>?_)⟩
   ·have hli1:1≤li:=by have:=of_decide_eq_true c1;omega
    refine itT rfl ?_
    refine ⟨_,rfl,F67,ee,_,rfl,S69,Evl.Ex.refl _,dpe,?_⟩
    rcases fine with ⟨_,f⟩ | ⟨_,f⟩
    ·exact f
    ·exact f hli1
   ·refine ⟨_,rfl,pe,_,_,_,rfl,rfl,Evl.ex_t S69.g.fh hpe,at0,sz (by simp),?_⟩
    intro p71 n71
    generalize e71:upd _ p71 _=H71
    obtain ⟨x71,s71,o71⟩:=new_of e71 n71
    clear e71
    obtain ⟨F71,e71,k71,S71⟩:=S69.new n71 s71 o71
    refine ⟨p71,_,rfl,.inr (Evl.st_of s71),rfl,flat_strs ["do","call"],_,rfl,?_⟩
    rcases fine with ⟨hin,f⟩ | ⟨hin,f⟩
    ·refine itT (in_strs (l:=["do","call"]) (decide_eq_true hin)) ?_
     exact ⟨_,rfl,F71,ee,_,rfl,S71,e71,dz_ex e71 dpe,f⟩
    ·refine itF (by rw [show ([V.str "do",V.str "call"]:List V)=(["do","call"]:List Str).map V.str from rfl,inV_strs];exact decide_eq_false hin) ?_
     refine ⟨sz (by simp),?_⟩
     intro p72 n72
     generalize e72:upd _ p72 _=H72
     obtain ⟨x72,s72,o72⟩:=new_of e72 n72
     clear e72
     obtain ⟨F72,e72,k72,S72⟩:=S71.new n72 s72 o72
     exact ⟨F72,_,_,rfl,S72,e71.trans e72,.tup (Evl.st_of k72) (.cons (.of (.str _)) .nil),fine_rai li⟩
  rintro σ' H70 ⟨F70,e70,v70,rfl,S70,x70,dz70,f70⟩
  refine ⟨_,rfl,?_⟩
  intro p73 n73
  refine ⟨_,rfl,_,rfl,upd_same,[(Sum.inl (k:Int),v70)],rfl,(by show 1≤15;decide),?_⟩
  generalize e73:upd (upd H70 p73 _) p73 _=H73
  have l73:H73 p73=some (.dK (putK [] (.inl (k:Int)) v70)):=by rw [← e73,upd_same]<;>rfl
  have o73:∀ b,b≠p73→H73 b=H70 b:=fun b hb=>by rw [← e73,upd_ne hb,upd_ne hb]
  clear e73
  obtain ⟨F73,x73,k73,S73⟩:=S70.new n73 l73 o73
  have b73:BadT K F73 (putK [] (.inl (k:Int)) v70) (fun j=>if j=k then some e70 else none):=BadT.nil.put (dz_ex x73 dz70)
  have ex73:Ex F61 F73:=((((e64.trans e65).trans e66).trans e67).trans x70).trans x73
  obtain ⟨N',fin',gs',bd',nd'⟩:=X.fine hli f70 (bad:=fun j=>if j=k then some e70 else none) (if_pos rfl) fun j hj=>if_neg hj
  refine ⟨F73,ra,fin,ls,0,p73,_,_,r0,rfl,fl61.ex ex73,Xx,S73.g.fh,k73,b73,hr0,dp0,fun F74 H74 v74 g74 dz74=>?_⟩
  have S74:=S73.sub g74
  refine ⟨F74,v74,rfl,S74.g.fh,.inl ⟨_,N',fin',dz_dp dz74 nd',gs',bd',fun H75 x75=>?_⟩⟩
  refine ⟨rfl,_,rfl,itF rfl ?_⟩
  exact ⟨F74,_,_,_,_,_,_,_,_,_,_,rfl,S74.sub (Gr.new S74.g.fh x75),(e61.trans ex73).trans g74.ff⟩
end
end
end Fc
namespace Fc
open PySem PySem.Spec PyProof.Rows L2
theorem calm_fn {P:Program} {w:World} {K:PySem.W.Frag} {mg:Str→Option Value} {base:Heap} {k:Nat} {f:Addr} {fd:FuncData} {ps:List Str} {sp:Sp} (G:FnOk P w K mg base (L2.CX P w) k f fd ps sp) (hsp:∀ vs H Q E,sp vs H Q E→sp vs H Q (fun _ _ _=>False)):FnOk P w K mg base CX0 k f fd ps sp :=
 ⟨G.len,fun A outer s H args us vs Q E hr e b r h=>codeAny_mono (G.run A outer s H args us vs Q (fun _ _ _=>False) hr e b r (hsp _ _ _ _ h)) fun r s' hq=>by
  cases r with
  | error e =>
   obtain ⟨_,_,_,_,_,_,_,_,_,_,_,_,z⟩:=hq
   exact z.elim
  | ok fl=>cases fl<;>exact hq⟩
end Fc
open PySem PySem.W PyProof.Rows in
set_option maxRecDepth 100000 in
set_option maxHeartbeats 0 in
theorem PySem.Challenge.cw_finallycopies_k03_invalid_statements_holds : PySem.Challenge.rw_finallycopies_k03_invalid_statements.Holds := by
 w_on;o_law
 refine HandSHeadRun.head_any (r:=Fc.R) (q:=view Fc.R.prog [36]) (H:=Fc.hk) (ob:=Fc.ob) (M:=20000) (loose:=Fc.looseL) (d:=HandSHeadRun.topDef Fc.R.prog 36) (kwd:=[]) Fc.ob_eq
  (by kernel_rfl) (fun s=>by kernel_rfl) Fc.run (by kernel_rfl) (by kernel_rfl) (by kernel_rfl) (by rfl) (by first | assumption | decide +kernel) (by decide +kernel) ⟨rfl,rfl,rfl,rfl,rfl,by decide +kernel⟩ ?hw ?hc
 case hw=>w_witness2
 case hc =>
  refine L2.walk_ofE (l:=PySem.Challenge.rw_finallycopies_k03_invalid_statements) (n:=63) (k:=20) (x:="_law_script") (CX:=L2.CX0) rfl (by decide) (by kernel_rfl) ⟨rfl,by decide,by decide⟩ ?F (fun _ _ _ _ z=>z)
  intro w mg fa h Y G hmg0
  obtain ⟨K,KX,c⟩:=Y
  have hmg:mg ("law":PySem.Str)=some (.ref fa):=by
   have e:(HandSHeadRun.topDef Fc.R.prog 36).name=("law":PySem.Str):=by kernel_rfl
   rw [← e]
   exact hmg0
  have T:Fc.Tx w h K mg:=⟨KX,G,c⟩
  obtain rfl:fa=He.ga K "law":=Value.ref.inj (Option.some.inj (hmg.symm.trans (Fc.g_law T)))
  obtain ⟨fd,F⟩:=Fc.F_law T
  have b:=L2.FunD.bindsA (ps:=["_law_script"]) F fun _ _ _ _ _ _ us hl=>match us,hl with | [_],_=>rfl
  refine ⟨K,fd,Fc.sp_law K,KX,fun s v=>b s [v] rfl,fun H a ns hl _ hS=>⟨a,ns,rfl,hl,hS,fun _=>rfl⟩,fun base _ _=>?_⟩
  obtain ⟨fd',G',_,_,F'⟩:=Fc.okF_law (P:=(PySem.Challenge.rw_finallycopies_k03_invalid_statements).prog) (base:=base) T
  obtain rfl:fd=fd':=by
   obtain ⟨_,_,_,_,_,_,_,_,_,_,_,l1,_⟩:=F.ex
   obtain ⟨_,_,_,_,_,_,_,_,_,_,_,l2,_⟩:=F'.ex
   have z:=l1.symm.trans l2
   cases z
   rfl
  exact Fc.calm_fn G' (fun _ _ _ _ z=>z)
