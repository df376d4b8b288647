import PyProof.Rows.All
import Wide.All
import OpenK.AllK
import Wide.FinOn
import HandS.Base
import HandS.Call
import HandS.Exc
import HandS.Head2
import HandS.HeadHook1
import HandS.Words
import HandS.ForMost
import KE.KDictKeyed
import HandS.Lambda
import HandS.Star
import HandS.Defaults
import HandS.Property
import HandS.Strs
import HandS.Set
import HandS.SetFor
import HandS.SetBool
import PyProof.Rows.SortShellAny
import KE.KDictLaws
import HandS.DictComp
import HandS.Wide
import HandS.TupAny
import HandS.IsInst
import HandS.Style
import HandS.Conv
import PyProof.Rows.SumAny
import PyProof.ReprRoads
import HandS.Ends
import KE.SortData
import HandS.More
import HandS.Small
import HandS.Zip
import HandS.MakeKwOnly
import HandS.Deep
import HandS.RevTup
import PyProof.NeKinds
import HandS.ExcSuper
import HandS.ExcOwn
import HandS.ExcField
import HandS.ExcIs
import KE.KExcInit
import KE.KSuper
import KE.KExcIs
import HandS.SetKeys
import KE.GoesEnumKw
import PyProof.Rows.CallKwBuiltin
import KE.KCallOwn
import HandS.TupSets
import PyProof.IsRules
import KE.GoesEnum
import KE.KeyNested
import PyProof.WalksMore
import PyProof.FactsAll.subtypes_4
import PyProof.ListNew
import HandS.MethStar
import KE.KOpsOwn
import HandS.SlotsOwn
import HandS.Text
import HandS.TupMul
import HandS.ClsMeth
import KE.DataMinMax
import PyProof.Rows.RuleN_abs
import PyProof.SumWalk
import PyProof.ListOps
import HandS.ExcValue
import KE.KDictZip
import KE.KDictWalk
import HandS.DictSubView
import PyProof.Rows.IntBool
import KE.DataCmp
import HandS.TupLe
import PyProof.StrOps2
import HandS.TryOnly
import PyProof.RangeFor
import KE.KEqNest
import HandS.ListItems
import KE.GoesMore
import KE.GoesZip
import KE.KEqDict
import KE.KUnpackStar
import KE.KDictCopyH
import HandS.FStr
import HandS.StrMore
import HandS.CallLocal
import KE.IntTextLaws
import PySem.Challenge.RW_whichrow_k04_texts_of_stores
open PySem renaming wpAny_bind→jbb,wpAny_pure→jbc,mainGlobals→jbd,wpAny_field→jbe,wpAny_holding→jbf,foldedSetIterable→jbg,assignEach→jbh,keywordEach→jbi
open PySem.W renaming Frag→JFr
open List renaming getElem?_cons_zero→Q0a,getElem?_cons_succ→Q0b,length_cons→Q0d,map_cons→Q0e,length_map→Q0f,mem_cons_self→Q0g,mem_cons_of_mem→Q0h,append_nil→Q0i,set_cons_zero→Q0j,mem_append→Q0k,mem_append_right→Q0l,set_cons_succ→Q0m,length_nil→Q0o,replicate→Q0p,mem_append_left→Q0q,getElem?_eq_some_iff→Q0r,mem_cons→Q0s,mem_singleton→Q0t,nil_append→Q0u,map_nil→Q0w,cons_append→Q0x,mem_map→Q0y,length_append→Q0A,append_assoc→Q0C,map_append→Q0D,nodup_append→Q0E,getElem?_eq_getElem→Q0G,getElem?_set_ne→Q0I,mem_map_of_mem→Q0J,zip_cons_cons→Q0L,getElem?_set_self→Q0M,mem_of_getElem?→Q0N,getElem?_map→Q0O,nodup_cons→Q0P,map_map→Q0R,getD_cons_succ→Q0X,getD_cons_zero→Q0Y,getElem?_append_right→Q1d,range→Q1e,length_take→Q1f,all_eq_true→Q1h,length_filter_le→Q1i,getElem?_append_left→Q1j,all_cons→Q1k,length_set→Q1m,all_nil→Q1n,findIdx?_cons→Q1p,length_singleton→Q1r,mem_filter→Q1s,not_mem_nil→Q1t,mem_of_mem_take→Q1x,take_of_length_le→Q1A,nodup_nil→Q1B,length_range→Q1D,pairwise_cons→Q1F,ext_getElem?→Q1G,pairwise_map→Q1I,drop_eq_getElem_cons→Q1K,eq_nil_of_length_eq_zero→Q1N,length_drop→Q1O,map_congr_left→Q1P,length→Q1Q,find?_cons_of_pos→Q1R,getD_eq_getElem?_getD→Q1S,find?_eq_none→Q1U,map_take→Q1X,take_append_drop→Q1Y,filterMap_cons_some→Q2d,take_succ_cons→Q2i,drop_succ_cons→Q2j,drop_zero→Q2m,find?_cons_of_neg→Q2n,length_zipIdx→Q2q,getElem?_eq_none→Q2r,find?_cons→Q2s,mem_iff_getElem?→Q2u,map_drop→Q2w,mem_of_mem_drop→Q2y,getElem?_eq_none_iff→Q2z,take_zero→Q2B,perm_middle→Q2C,pairwise_singleton→Q2D,filter_cons_of_pos→Q2E,map→Q2G,size_toArray→Q2J,mem_range→Q2N,set_getElem_self→Q2S,lookup_cons→Q2V,any_eq_true→Q2W,getElem?_zipIdx→Q3b,dropLast_concat_getLast→Q3e,length_zip→Q3f,length_reverse→Q3g,mergeSort_perm→Q3j,length_pos_iff→Q3k,filter_append→Q3l,all_map→Q3n,append_of_mem→Q3o,mem_of_find?_eq_some→Q3r,take_succ→Q3s,findIdx?_eq_none_iff→Q3u,sublist_append_left→Q3v,find?_append→Q3x,mapM_toArray→Q3y,filter_cons_of_neg→Q3A,range'→Q3D,pairwise_mergeSort→Q3F,drop_length→Q3H,take_length→Q3I,getElem_mem→Q3K,foldl_cons→Q3S,any_cons→Q4j
open Bool renaming false_eq_true→Q0c,true_eq_false→Q0v,not_eq_true'→Q0K,not_eq_false'→Q0Q,and_true→Q1b,and_eq_true→Q1l,not_true→Q1v,false_ne_true→Q1z,eq_iff_iff→Q1L,and_eq_true_iff→Q3a,false_and→Q3Z,not_false→Q4b
open Option renaming map_some→Q0n,bind_some→Q0U,map_eq_some_iff→Q0V,some→Q1o,map_eq_none_iff→Q2o,bind→Q4e
open Nat renaming reduceAdd→Q0z,reduceLeDiff→Q0H,le_trans→Q0S,le_refl→Q0W,lt_of_lt_of_le→Q1y,zero_le→Q1H,lt_of_le_of_lt→Q1M,pow_succ→Q1W,ne_of_lt→Q2f,lt_succ_iff→Q2t,mul_left_comm→Q2v,mul_assoc→Q2F,le_of_eq→Q2O,mul_comm→Q2Q,mod_eq_of_lt→Q2X,succ→Q3c,mul_add→Q3h,lt_trichotomy→Q3w,mul_mod→Q3C,lt_succ_self→Q3G,le_add_right→Q3J,min_self→Q3P,sub_self→Q3R,min_le_left→Q3T,le_succ→Q4d,add_mod→Q4f,mod_lt→Q4l
open L2 renaming defScope→Q0B,nobehind→Q0F,defBody→Q1q,call_tuple_of→Q1u,defArgs→Q1C,kit_of→Q1Z,mt_append→Q2g,wipe→Q2h,pts_one→Q2M,op_mod→Q2T,op_mul→Q2U,start→Q3z,op_le→Q4k,atI→Q4n
open PySem.F renaming plainAttrs_list→Q0T,slot_list_append→Q0Z,type_list_append→Q1a,plainAttrs_dict→Q3B,slot_list_pop→Q3U,type_list_pop→Q3V
open Array renaming length_toList→Q1c,getD_eq_getD_getElem?→Q1g,getElem?_toList→Q1E,getElem?_eq_getElem→Q2b,all_eq_true_iff_forall_mem→Q2I,replicate→Q3i
open Int renaming reduceNeg→Q1w,natAbs_natCast→Q2a,toNat_natCast→Q2e,mul_le_mul_of_nonneg_left→Q2Z,natCast_nonneg→Q3m,cast_ofNat_Int→Q3p,reduceLT→Q3W
open PySem.W renaming keepIn→Q1J,fnOf→Q1T,keyToksAll→Q1V,alikeAll→Q2k,codeIn→Q2l,callWith_K→Q2p,alike→Q2H,methodCall_KW→Q2P,notFirst→Q2Y,findIn→Q3q,dataLt→Q3t,findCls→Q3N,keyToks→Q3Q,kitOne→Q3Y,typeIn→Q4a,recIn→Q4g,clsIn→Q4i,view→Q4m
open PyProof.Rows renaming itemOrd→Q2c,sortedS→Q2x,slot_tuple_getitem→Q2K,toString_length_le→Q2L,boot_isinstance→Q3d,sortedHeap→Q3E,lex_trans→Q3L,lex_total→Q3M,risingS→Q3X,envOfC→Q4c
open PySem renaming intText?→Q2A
open Classical renaming em→Q2R,choose_spec→Q3O
open Prod renaming ext→Q4h
set_option Elab.async false
set_option linter.all false
set_option maxRecDepth 100000
set_option maxHeartbeats 4000000
namespace DLE
open PySem PySem.Spec PyProof.Rows L2
structure FnH where
 at_:JFr→Addr
 name:Str
 qual:Str
 params:Arguments
 body:List Stmt
 scope:Scope
 dfl:Bool
 cl:List Str:=[]
abbrev x8o:Type:=Option (Str × Str × Arguments × FuncBody × Scope × Addr × List Str × Addr)
def z1q (K:JFr) (a:Addr):x8o:=match K.lookup a with
 | some ⟨_,_,.func fd,_⟩=>some (fd.name,fd.qualname,fd.params,fd.body,fd.scope,fd.globals,fd.closure.map (·.1),fd.builtins)
 | _=>none
def FnH.val (d:FnH):x8o:=some (d.name,d.qual,d.params,.stmts d.body,d.scope,jbd,d.cl,builtinsNs)
def x2C (b:Bool) (v:Value):Bool:=match b,v with
 | false,.none=>true
 | true,.ref _=>true
 | _,_=>false
def FnH.ok (K:JFr) (d:FnH):Bool:=match K.lookup (d.at_ K) with
 | some ⟨_,_,.func fd,_⟩=>Q2l K fd.code d.qual && x2C d.dfl fd.defaults
 | _=>false
def dtR (K:JFr) (a:Addr):Addr:=match K.lookup a with
 | some ⟨_,_,.func fd,_⟩=>(match fd.defaults with
  | .ref x=>x
  | _=>0)
 | _=>0
def dvH (K:JFr) (a:Addr):Bool→Value
 | true=>.ref (dtR K a)
 | false=>.none
theorem z8W {K:JFr} {a:Addr} {oc od sl fd} (q:K.lookup a = some ⟨oc,od,.func fd,sl⟩) {b:Bool} (h:x2C b fd.defaults = true):fd.defaults = dvH K a b:=by
 cases b with
 | false=>
  show fd.defaults = .none
  revert h
  cases fd.defaults <;> intro h <;> first | rfl | cases h
 | true=>
  show fd.defaults = .ref (dtR K a)
  unfold dtR
  rw [q]
  show fd.defaults = .ref (match fd.defaults with
   | .ref x=>x
   | _=>0)
  revert h
  cases fd.defaults <;> intro h <;> first | rfl | cases h
theorem x5i {K:JFr} {d:FnH} (e:z1q K (d.at_ K) = d.val) (c:d.ok K = true) (hcl:d.cl = []) :
  ∃ oc od osl kV doc pm an cdv ct,K.lookup (d.at_ K) = some ⟨oc,od,.func (Q1T d.name d.qual d.params d.body d.scope (dvH K (d.at_ K) d.dfl) kV doc pm an cdv ct),osl⟩∧Q2l K cdv d.qual = true:=by
 unfold z1q at e
 unfold FnH.ok at c
 cases q:K.lookup (d.at_ K) with
 | none=>
  rw [q] at c
  cases c
 | some o=>
  obtain ⟨oc,od,dt,osl⟩:=o
  rw [q] at c e
  cases dt with
  | func fd=>
   have c2:=He.ba (show (Q2l K fd.code d.qual && x2C d.dfl fd.defaults) = true from c)
   have dv:=z8W q c2.2
   obtain ⟨n1,n2,n3,n4,n5,n6,n7,n8,n9,n10,n11,n12,n13,n14,n15⟩:=fd
   have dv2:n8 = dvH K (d.at_ K) d.dfl:=dv
   have e2:(some (n1,n2,n3,n4,n5,n6,n7.map (·.1),n15):x8o) = some (d.name,d.qual,d.params,.stmts d.body,d.scope,jbd,d.cl,builtinsNs):=e
   simp only [Q1o.injEq,Prod.mk.injEq] at e2
   obtain ⟨h1,h2,h3,h4,h5,h6,h7,h9⟩:=e2
   have h7:=List.map_eq_nil_iff.mp (h7.trans hcl)
   subst h1 h2 h3 h4 h5 h6 h7 h9
   rw [dv2]
   exact ⟨oc,od,osl,n9,n10,n11,n12,n13,n14,rfl,c2.1⟩
  | _=>cases c
abbrev AlH:Type:=Bool × List x8o
def x8p (fb:List (JFr→Bool)) (fn:List FnH) (K:JFr):AlH:=((fb.all fun f=>f K) && fn.all fun d=>d.ok K,fn.map fun d=>z1q K (d.at_ K))
def x8q (fn:List FnH):AlH:=(true,fn.map FnH.val)
def SaysH (fb:List (JFr→Bool)) (fn:List FnH) (K:JFr):Prop:=x8p fb fn K = x8q fn
def x8J (o:Obj):List Addr:=He.refsO o ++ (match o.dict with
 | some d=>[d]
 | none=>[]) ++ (match o.data with
 | .func fd=>He.refV fd.kwdefaults ++ fd.closure.map (·.2)
 | .cell (some v)=>He.refV v
 | _=>[])
def ddH {β:Type}:List Addr→Nat→List Addr→(Nat→List Addr→β)→β
 | [],m,acc,k=>k m acc
 | a :: r,m,acc,k=>HandSHeadRun.frNat a fun a=>match Nat.beq (Nat.land (Nat.shiftRight m a) 1) 1 with
  | true=>ddH r m acc k
  | false=>HandSHeadRun.frNat (Nat.lor m (Nat.shiftLeft 1 a)) fun m=>ddH r m (a :: acc) k
def bfH (g:Addr→Option Obj):Nat→Nat→List Addr→List Addr→List Addr
 | 0,_,_,out=>out
 | n + 1,m,fr,out=>ddH (fr.flatMap fun a=>match g a with
  | some o=>x8J o
  | none=>[]) m [] fun m new=>bfH g n m new (new ++ out)
def x8K (a:Addr) (o:Obj):List Addr:=match o with
 | ⟨c,d,dt,_⟩=>(match dt with
  | .seq its _=>its.toList.flatMap He.refV
  | .dict es _=>es.toList.flatMap fun e=>He.refV e.val
  | .func fd=>He.refV fd.code ++ (He.refV fd.defaults ++ (He.refV fd.kwdefaults ++ fd.closure.map (·.2)))
  | .cls cd=>cd.ns :: cd.mro.flatMap fun v=>match v with
   | .ref b=>(match Nat.beq a b with
    | true=>[]
    | false=>[b])
   | _=>[]
  | .fields vs=>(match c with
   | .type "property"=>vs.toList.flatMap He.refV
   | _=>[])
  | .cell (some v)=>He.refV v
  | _=>[])
def x1y (g:Addr→Option Obj):Nat→Addr→List Addr
 | 0,a=>[a]
 | n + 1,a=>a :: (match g a with
  | some o=>(x8K a o).flatMap (x1y g n)
  | none=>[])
def x5j (g:Addr→Option Obj) (ix:List Nat):List Addr:=match g jbd with
 | some ⟨_,_,.dict es _,_⟩=>ix.flatMap fun i=>match es.toList[i]? with
  | some e=>(He.refV e.val).flatMap (x1y g 4)
  | none=>[]
 | _=>[]
abbrev HN:Type:=Nat × List Nat
def asH (g:Addr→Option Obj) (n:HN):List Addr:=jbd :: cStatics :: (x5j g n.2 ++ bfH g n.1 (Nat.shiftLeft 1 jbd) [jbd] [])
def x2D (n:HN) (fb:List (JFr→Bool)) (fn:List FnH) (g:Addr→Option Obj):AlH:=x8p fb fn (He.frG g (asH g n))
def x2E (n:HN) (fb:List (JFr→Bool)) (fn:List FnH):PySem.W.Hook where
 α:=AlH
 obs:=fun s=>x2D n fb fn s.heap.get?
 val:=fun _=>x8q fn
 says:=fun _ h=>∃ K:JFr,K.In h∧SaysH fb fn K
 of:=fun _ _ e=>⟨_,He.frG_in,e⟩
 keeps:=fun _ _ _ ⟨K,hK,c⟩ k=>⟨K,PySem.W.Frag.In.keeps hK k,c⟩
section
variable {fb:List (JFr→Bool)} {fn:List FnH} {K:JFr}
theorem SaysH.fact (c:SaysH fb fn K) (i:Nat) {f:JFr→Bool} (h:fb[i]? = some f:=by rfl):f K = true:=by
 have c1:=(He.ba (show ((fb.all fun f=>f K) && fn.all fun d=>d.ok K) = true from congrArg (fun z:AlH=>z.1) c)).1
 exact Q1h.mp c1 f (Q0N h)
theorem SaysH.def_ (c:SaysH fb fn K) (i:Nat) {d:FnH} (h:fn[i]? = some d:=by rfl) (hcl:d.cl = []:=by rfl) :
  ∃ oc od osl kV doc pm an cdv ct,K.lookup (d.at_ K) = some ⟨oc,od,.func (Q1T d.name d.qual d.params d.body d.scope (dvH K (d.at_ K) d.dfl) kV doc pm an cdv ct),osl⟩∧Q2l K cdv d.qual = true:=by
 have c2:=(He.ba (show ((fb.all fun f=>f K) && fn.all fun d=>d.ok K) = true from congrArg (fun z:AlH=>z.1) c)).2
 have e:fn.map (fun d=>z1q K (d.at_ K)) = fn.map FnH.val:=congrArg (fun z:AlH=>z.2) c
 have e2:(fn.map fun d=>z1q K (d.at_ K))[i]? = (fn.map FnH.val)[i]?:=by rw [e]
 rw [Q0O,Q0O,h] at e2
 exact x5i (Q1o.inj e2) (Q1h.mp c2 d (Q0N h)) hcl
end
def z8X (K:JFr) (p:Addr) (T:String):Addr:=match Q4g K p T with
 | some (.ref a :: _)=>a
 | _=>0
def x5k (K:JFr) (p:Addr) (T:String):Bool:=match Q4g K p T with
 | some (.ref _ :: _)=>true
 | _=>false
theorem z2J {K:JFr} {p:Addr} {T:String} (h:x5k K p T = true):∃ rest,Q4g K p T = some (.ref (z8X K p T) :: rest):=by
 unfold x5k at h
 split at h
 ·rename_i a r q
  exact ⟨r,by unfold z8X; rw [q]⟩
 ·cases h
def z0k (K:JFr) (a:Addr) (rs:List Addr):Bool:=match K.lookup a with
 | some ⟨.type "tuple",_,.seq its _,_⟩=>decide (its.toList = rs.map Value.ref)
 | _=>false
def x8L (K:JFr) (a:Addr) (i:Nat):Addr:=match K.lookup a with
 | some ⟨_,_,.seq its _,_⟩=>(match its.toList[i]? with
  | some (.ref x)=>x
  | _=>0)
 | _=>0
theorem q9C {K:JFr} {a:Addr} {rs:List Addr} (h:z0k K a rs = true):∃ d n sl,K.lookup a = some ⟨.type "tuple",d,.seq (rs.map Value.ref).toArray n,sl⟩:=by
 unfold z0k at h
 split at h
 ·rename_i d its n sl q
  have e:=of_decide_eq_true h
  refine ⟨d,n,sl,?_⟩
  rw [q,← e,Array.toArray_toList]
 ·cases h
def x5l (v:Option (Option Value)) (z:Str):Bool:=match v with
 | some (some (.str y _))=>decide (y = z)
 | _=>false
theorem z2K {v:Option (Option Value)} {z:Str} (h:x5l v z = true):∃ t,v = some (some (.str z t)):=by
 unfold x5l at h
 split at h
 ·exact ⟨_,by rw [of_decide_eq_true h]⟩
 ·cases h
def x5m (v:Option (Option Value)) (z:Int):Bool:=match v with
 | some (some (.int y _))=>decide (y = z)
 | _=>false
theorem z2L {v:Option (Option Value)} {z:Int} (h:x5m v z = true):∃ t,v = some (some (.int z t)):=by
 unfold x5m at h
 split at h
 ·exact ⟨_,by rw [of_decide_eq_true h]⟩
 ·cases h
def hvB (K:JFr) (g:Str):Bool:=decide (PySem.W.nsIn K jbd g = some (some (.ref (He.ga K g)))) && Q1J K (.ref (He.ga K g))
def hmB (K:JFr) (C:Addr) (m:Str):Bool:=decide (Q3q K (.ref C) m = some (some (.ref (He.ma K C m)))) && PySem.W.isFn K (.ref (He.ma K C m)) && Q1J K (.ref (He.ma K C m))
def gF (g nm:Str) (s:Stmt):FnH:=⟨fun K=>He.ga K g,nm,nm,Q1C s,Q1q s,Q0B s,false,[]⟩
def mF (at_:JFr→Addr) (nm q:Str) (s:Stmt):FnH:=⟨fun K=>He.ma K (at_ K) nm,nm,q,Q1C s,Q1q s,Q0B s,false,[]⟩
end DLE

set_option maxHeartbeats 4000000
namespace DLE
open PySem PySem.Spec PySem.W
end DLE

namespace DLE
open PySem PySem.Spec PySem.W PyProof.Rows L2
abbrev q7M:Type:=List (JFr→Bool) × List FnH
def x9L (n:HN) (ps:List q7M) (g:Addr→Option Obj):List AlH:=ps.map fun p=>x2D n p.1 p.2 g
def x8r (ps:List q7M):List AlH:=ps.map fun p=>x8q p.2
theorem x8M {ps:List q7M} {K:JFr} (e:(ps.map fun p=>x8p p.1 p.2 K) = x8r ps):∀ p ∈ ps,SaysH p.1 p.2 K:=by
 intro p hp
 obtain ⟨i,hi,rfl⟩:=List.mem_iff_getElem.mp hp
 have e2:(ps.map fun p=>x8p p.1 p.2 K)[i]? = (x8r ps)[i]?:=by rw [e]
 rw [x8r,Q0O,Q0O,Q0G hi] at e2
 exact Q1o.inj e2
def x2F (n:HN) (ps:List q7M):PySem.W.Hook where
 α:=List AlH
 obs:=fun s=>x9L n ps s.heap.get?
 val:=fun _=>x8r ps
 says:=fun _ h=>∃ K:JFr,K.In h∧∀ p ∈ ps,SaysH p.1 p.2 K
 of:=fun _ s e=>⟨He.frG s.heap.get? (asH s.heap.get? n),He.frG_in,x8M e⟩
 keeps:=fun _ _ _ ⟨K,hK,c⟩ k=>⟨K,PySem.W.Frag.In.keeps hK k,c⟩
def obL (n:HN) (ps:List q7M) (s:SharedT):List AlH:=x9L n ps (HandSHeadRun.getT s)
theorem x5n {n:HN} {ps:List q7M} (s:SharedT):obL n ps s = (x2F n ps).obs s.abs:=by
 have e:HandSHeadRun.getT s = s.abs.heap.get?:=funext (HandSHeadRun.getT_eq s)
 unfold obL
 rw [e] <;> rfl
def obP (n:HN) (p:q7M) (s:SharedT):AlH:=x2D n p.1 p.2 (HandSHeadRun.getT s)
theorem z3Q {r:OpenRow} {q:Program} {n:HN} {M:Nat} {loose:List PySem.Str} {w:World} {p0:q7M} {ps:List q7M}
  (h:∀ p ∈ p0 :: ps,HandSHeadRun.RunEq r q (x2E n p.1 p.2) (obP n p) M loose w):HandSHeadRun.RunEq r q (x2F n (p0 :: ps)) (obL n (p0 :: ps)) M loose w:=by
 intro os
 have h0:=h p0 (Q0g ..) os
 obtain ⟨s,hs,e0⟩:=Q0V.mp h0
 rw [hs]
 have e1:=Prod.mk.inj e0
 have e2:=Prod.mk.inj e1.2
 refine congrArg some (Q4h e1.1 (Q4h e2.1 ?_))
 show ((p0 :: ps).map fun p=>obP n p s) = (p0 :: ps).map fun p=>x8q p.2
 refine Q1P fun p hp=>?_
 obtain ⟨s',hs',e3⟩:=Q0V.mp (h p hp os)
 cases Q1o.inj (hs.symm.trans hs')
 exact (Prod.mk.inj (Prod.mk.inj e3).2).2
end DLE

namespace DLE
open PySem PySem.Spec PySem.W PyProof.Rows L2
def cmR (K:JFr) (C:Addr) (nm:Str):Addr:=match Q3N K (.ref C) (.type "type") nm with
 | some (.get (.builtin _) (.ref p) .none (.ref _))=>p
 | _=>0
def cmB (K:JFr) (C:Addr) (nm:Str):Bool:=match Q3N K (.ref C) (.type "type") nm with
 | some (.get (.builtin b) (.ref _) .none (.ref d))=>decide (b = "classmethod.__get__") && decide (d = C)
 | _=>false
theorem x5o {K:JFr} {C:Addr} {nm:Str} (h:cmB K C nm = true):Q3N K (.ref C) (.type "type") nm = some (.get (.builtin "classmethod.__get__") (.ref (cmR K C nm)) .none (.ref C)):=by
 unfold cmB at h
 split at h
 ·rename_i b p d q
  obtain ⟨h1,h2⟩:=Q3a.mp h
  have h1:=of_decide_eq_true h1
  have h2:=of_decide_eq_true h2
  subst h1 h2
  unfold cmR
  rw [q]
 ·cases h
end DLE

namespace K04
open PySem PySem.Spec PySem.W DLE
open L2 (inClass)
def top (i:Nat):Stmt:=PySem.Challenge.pw_whichrow_k04_texts_of_stores.main.body.getD i (.Pass ⟨0,0,0,0⟩)
abbrev q3o:Stmt:=(top 12)
abbrev q5u:Stmt:=(top 13)
abbrev q1h:Stmt:=(top 14)
abbrev q4F:Stmt:=(top 15)
abbrev q4G:Stmt:=(top 16)
abbrev q3T:Stmt:=(top 17)
abbrev q5v:Stmt:=(top 18)
abbrev q2E:Stmt:=(top 19)
abbrev q5w:Stmt:=(top 20)
abbrev q4H:Stmt:=(top 21)
abbrev q4I:Stmt:=(top 22)
abbrev q3p:Stmt:=(top 26)
abbrev q4J:Stmt:=(top 27)
abbrev q4K:Stmt:=(top 28)
abbrev q6s:Stmt:=(top 29)
abbrev q3q:Stmt:=(top 31)
abbrev q4L:Stmt:=(top 32)
abbrev q5x:Stmt:=(top 33)
abbrev q2k:Stmt:=(top 34)
abbrev q3r:Stmt:=(top 35)
abbrev q1V:Stmt:=(top 37)
abbrev q0R:Stmt:=(inClass (top 38) 1)
abbrev q1I:Stmt:=(inClass (top 38) 2)
abbrev q1S:Stmt:=(inClass (top 38) 5)
abbrev q1W:Stmt:=(inClass (top 38) 7)
abbrev q4M:Stmt:=(inClass (top 38) 8)
abbrev q1Y:Stmt:=(inClass (top 38) 9)
abbrev q1Z:Stmt:=(inClass (top 38) 10)
abbrev q2F:Stmt:=(inClass (top 38) 14)
abbrev q1k:Stmt:=(inClass (top 38) 15)
abbrev q1r:Stmt:=(inClass (top 38) 16)
abbrev q2l:Stmt:=(inClass (top 38) 17)
abbrev q3s:Stmt:=(inClass (top 38) 18)
abbrev q1T:Stmt:=(inClass (top 38) 19)
abbrev q3U:Stmt:=(top 40)
abbrev q4N:Stmt:=(top 41)
abbrev q5y:Stmt:=(top 42)
abbrev q3V:Stmt:=(top 43)
abbrev q3t:Stmt:=(top 44)
abbrev q2Y:Stmt:=(top 45)
abbrev q3W:Stmt:=(top 46)
abbrev q2Z:Stmt:=(top 47)
abbrev q4O:Stmt:=(top 48)
abbrev q3Y:Stmt:=(top 49)
abbrev z5k:Stmt:=(top 50)
def B0 (K:JFr):Bool:=decide (nsIn K jbd "Store" = some (some (.ref (He.ga K "Store"))))
def B1 (K:JFr):Bool:=decide (findIn K (.ref (He.ga K "Store")) "__class__" = some (some (.builtin "object.__class__")))
def B2 (K:JFr):Bool:=decide (mroIn K (He.ga K "Store") (.type "object") = some true)
def B3 (K:JFr):Bool:=isClsIn K (He.ga K "Store")
def B4 (K:JFr):Bool:=decide (typeIn K (.ref (He.ga K "Store")) = some (.type "type"))
def B5 (K:JFr):Bool:=selfFirst K (He.ga K "Store")
def B6 (K:JFr):Bool:=decide (findIn K (.ref (He.ga K "Store")) "__ne__" = some (some (.builtin "object.__ne__")))
def B7 (K:JFr):Bool:=decide (specialIn K (.builtin "object.__class__") "__get__" = some (some (.builtin "getset_descriptor.__get__")))
def B8 (K:JFr):Bool:=decide (takesIn K (.builtin "object.__class__") = some true)
def B9 (K:JFr):Bool:=hvB K "is_integer"
def B10 (K:JFr):Bool:=hvB K "is_name"
def B11 (K:JFr):Bool:=hvB K "is_number_of_columns"
def B12 (K:JFr):Bool:=hvB K "is_table"
def B13 (K:JFr):Bool:=hvB K "has_size"
def B14 (K:JFr):Bool:=hvB K "bad_parts"
def B15 (K:JFr):Bool:=hvB K "columns"
def B16 (K:JFr):Bool:=hvB K "are_integers"
def B17 (K:JFr):Bool:=hvB K "is_fact"
def B18 (K:JFr):Bool:=hvB K "is_block"
def B19 (K:JFr):Bool:=hvB K "block_in"
def B20 (K:JFr):Bool:=hvB K "integer_in"
def B21 (K:JFr):Bool:=hvB K "lines_of"
def B22 (K:JFr):Bool:=hvB K "show_row"
def B23 (K:JFr):Bool:=hvB K "row_in"
def B24 (K:JFr):Bool:=hvB K "show_store"
def B25 (K:JFr):Bool:=hvB K "table_in"
def B26 (K:JFr):Bool:=hvB K "fact_in"
def B27 (K:JFr):Bool:=hvB K "is_next_table"
def B28 (K:JFr):Bool:=hvB K "read_store"
def B29 (K:JFr):Bool:=hvB K "facts_by_block"
def B30 (K:JFr):Bool:=decide (findIn K (.ref (He.ga K "Store")) "__init__" = some (some (.ref (He.ma K (He.ga K "Store") "__init__"))))
def B31 (K:JFr):Bool:=isFn K (.ref (He.ma K (He.ga K "Store") "__init__"))
def B32 (K:JFr):Bool:=keepIn K (.ref (He.ma K (He.ga K "Store") "__init__"))
def B33 (K:JFr):Bool:=z0k K (dtR K (He.ma K (He.ga K "Store") "__init__")) [(x8L K (dtR K (He.ma K (He.ga K "Store") "__init__")) 0)]
def B34 (K:JFr):Bool:=z0k K (x8L K (dtR K (He.ma K (He.ga K "Store") "__init__")) 0) []
def B35 (K:JFr):Bool:=decide (findIn K (.ref (He.ga K "Store")) "facts" = some (some (.ref (He.ma K (He.ga K "Store") "facts"))))
def B36 (K:JFr):Bool:=decide (specialIn K (.ref (He.ma K (He.ga K "Store") "facts")) "__get__" = some (some (.builtin "property.__get__")))
def B37 (K:JFr):Bool:=decide (takesIn K (.ref (He.ma K (He.ga K "Store") "facts")) = some true)
def B38 (K:JFr):Bool:=x5k K (He.ma K (He.ga K "Store") "facts") "property"
def B39 (K:JFr):Bool:=keepIn K (.ref (z8X K (He.ma K (He.ga K "Store") "facts") "property"))
def B40 (K:JFr):Bool:=decide (findIn K (.ref (He.ga K "Store")) "text" = some (some (.ref (He.ma K (He.ga K "Store") "text"))))
def B41 (K:JFr):Bool:=decide (specialIn K (.ref (He.ma K (He.ga K "Store") "text")) "__get__" = some (some (.builtin "property.__get__")))
def B42 (K:JFr):Bool:=decide (takesIn K (.ref (He.ma K (He.ga K "Store") "text")) = some true)
def B43 (K:JFr):Bool:=x5k K (He.ma K (He.ga K "Store") "text") "property"
def B44 (K:JFr):Bool:=keepIn K (.ref (z8X K (He.ma K (He.ga K "Store") "text") "property"))
def B45 (K:JFr):Bool:=hmB K (He.ga K "Store") "__contains__"
def B46 (K:JFr):Bool:=hmB K (He.ga K "Store") "__eq__"
def B47 (K:JFr):Bool:=hmB K (He.ga K "Store") "block_of"
def B48 (K:JFr):Bool:=hmB K (He.ga K "Store") "facts_of"
def B49 (K:JFr):Bool:=hmB K (He.ga K "Store") "joined"
def B50 (K:JFr):Bool:=decide (findIn K (.ref (He.ga K "Store")) "without" = some (some (.ref (He.ma K (He.ga K "Store") "without"))))
def B51 (K:JFr):Bool:=isFn K (.ref (He.ma K (He.ga K "Store") "without"))
def B52 (K:JFr):Bool:=decide (specialIn K (.ref (He.ma K (He.ga K "Store") "without")) "__get__" = some (some (.builtin "function.__get__")))
def B53 (K:JFr):Bool:=decide (takesIn K (.ref (He.ma K (He.ga K "Store") "without")) = some false)
def B54 (K:JFr):Bool:=fnIn K (He.ma K (He.ga K "Store") "without")
def B55 (K:JFr):Bool:=keepIn K (.ref (He.ma K (He.ga K "Store") "without"))
def B56 (K:JFr):Bool:=hmB K (He.ga K "Store") "settled_once"
def B57 (K:JFr):Bool:=hmB K (He.ga K "Store") "settled"
def B58 (K:JFr):Bool:=hmB K (He.ga K "Store") "part"
def B59 (K:JFr):Bool:=readsIn K (He.ga K "Store") (.type "type")
def B60 (K:JFr):Bool:=decide (specialIn K (.ref (He.ga K "Store")) "__getattribute__" = some (some (.builtin "type.__getattribute__")))
def B61 (K:JFr):Bool:=cmB K (He.ga K "Store") "read"
def B62 (K:JFr):Bool:=x5k K (cmR K (He.ga K "Store") "read") "classmethod"
def B63 (K:JFr):Bool:=fnIn K (z8X K (cmR K (He.ga K "Store") "read") "classmethod")
def B64 (K:JFr):Bool:=keepIn K (.ref (z8X K (cmR K (He.ga K "Store") "read") "classmethod"))
def B65 (K:JFr):Bool:=hvB K "_law_purse"
def B66 (K:JFr):Bool:=hvB K "_law_take"
def B67 (K:JFr):Bool:=hvB K "_law_one"
def B68 (K:JFr):Bool:=hvB K "_law_names"
def B69 (K:JFr):Bool:=hvB K "_law_schema"
def B70 (K:JFr):Bool:=hvB K "_law_integer"
def B71 (K:JFr):Bool:=hvB K "_law_facts"
def B72 (K:JFr):Bool:=hvB K "_law_written"
def B73 (K:JFr):Bool:=hvB K "_law_text"
def B74 (K:JFr):Bool:=hvB K "_law_right"
def B75 (K:JFr):Bool:=hvB K "law"
def B76 (K:JFr):Bool:=plainGet K (He.ga K "Store") Str.empty
def B77 (K:JFr):Bool:=hasDictIn K (He.ga K "Store")
def B78 (K:JFr):Bool:=plainOver K (He.ga K "Store")
def B79 (K:JFr):Bool:=decide (findIn K (.ref (He.ga K "Store")) "__setattr__" = some (some (.builtin "object.__setattr__")))
def B80 (K:JFr):Bool:=makesIn K (He.ga K "Store")
def B81 (K:JFr):Bool:=keepIn K (.ref (He.ga K "Store"))
def B82 (K:JFr):Bool:=decide (findIn K (.ref (He.ga K "Store")) "schema" = some none)
def B83 (K:JFr):Bool:=decide (findIn K (.ref (He.ga K "Store")) "all_facts" = some none)
def B84 (K:JFr):Bool:=decide (findIn K (.ref (He.ga K "Store")) "by_block" = some none)
def B85 (K:JFr):Bool:=decide (nsIn K jbd "abs" = some none)
def B86 (K:JFr):Bool:=decide (nsIn K jbd "all" = some none)
def B87 (K:JFr):Bool:=decide (nsIn K jbd "bool" = some none)
def B88 (K:JFr):Bool:=decide (nsIn K jbd "enumerate" = some none)
def B89 (K:JFr):Bool:=decide (nsIn K jbd "int" = some none)
def B90 (K:JFr):Bool:=decide (nsIn K jbd "isinstance" = some none)
def B91 (K:JFr):Bool:=decide (nsIn K jbd "len" = some none)
def B92 (K:JFr):Bool:=decide (nsIn K jbd "list" = some none)
def B93 (K:JFr):Bool:=decide (nsIn K jbd "range" = some none)
def B94 (K:JFr):Bool:=decide (nsIn K jbd "repr" = some none)
def B95 (K:JFr):Bool:=decide (nsIn K jbd "set" = some none)
def B96 (K:JFr):Bool:=decide (nsIn K jbd "sorted" = some none)
def B97 (K:JFr):Bool:=decide (nsIn K jbd "str" = some none)
def B98 (K:JFr):Bool:=decide (nsIn K jbd "tuple" = some none)
def B99 (K:JFr):Bool:=x5l (nsIn K jbd "BAR") "|"
def x9M (K:JFr):Bool:=x5l (nsIn K jbd "DIGITS") "0123456789"
def x9N (K:JFr):Bool:=x5l (nsIn K jbd "LETTERS") "abcdefghijklmnopqrstuvwxyz"
def x9O (K:JFr):Bool:=x5m (nsIn K jbd "LONGEST_NAME") 8
def x9P (K:JFr):Bool:=x5m (nsIn K jbd "MOST_COLUMNS") 4
def x9Q (K:JFr):Bool:=x5m (nsIn K jbd "MOST_TABLES") 6
def q7s:FnH:=⟨fun K=>(He.ma K (He.ga K "Store") "__init__"),"__init__","Store.__init__",Q1C q0R,Q1q q0R,Q0B q0R,true,[]⟩
def q6t:FnH:=⟨fun K=>(z8X K (He.ma K (He.ga K "Store") "facts") "property"),"facts","Store.facts",Q1C q1I,Q1q q1I,Q0B q1I,false,[]⟩
def q7t:FnH:=⟨fun K=>(z8X K (He.ma K (He.ga K "Store") "text") "property"),"text","Store.text",Q1C q1S,Q1q q1S,Q0B q1S,false,[]⟩
def q5z:FnH:=⟨fun K=>(He.ma K (He.ga K "Store") "without"),"without","Store.without",Q1C q1k,Q1q q1k,Q0B q1k,false,[]⟩
def q7u:FnH:=⟨fun K=>(z8X K (cmR K (He.ga K "Store") "read") "classmethod"),"read","Store.read",Q1C q1T,Q1q q1T,Q0B q1T,false,[]⟩
def x5p:List (JFr→Bool):=[B0,B1,B2,B3,B4,B5,B6,B7,B8,B9,B10,B11,B12,B13,B14]
def x5q:List (JFr→Bool):=[B15,B16,B17,B18,B19,B20,B21,B22,B23,B24,B25,B26,B27,B28,B29]
def x5r:List (JFr→Bool):=[B30,B31,B32,B33,B34,B35,B36,B37,B38,B39,B40,B41,B42,B43,B44]
def x5s:List (JFr→Bool):=[B45,B46,B47,B48,B49,B50,B51,B52]
def x9R:List (JFr→Bool):=x5p ++ x5q ++ x5r ++ x5s
def x5t:List FnH:=[gF "is_integer" "is_integer" q3o,gF "is_name" "is_name" q5u,gF "is_number_of_columns" "is_number_of_columns" q1h,gF "is_table" "is_table" q4F,gF "has_size" "has_size" q4G,gF "bad_parts" "bad_parts" q3T,gF "columns" "columns" q5v,gF "are_integers" "are_integers" q2E,gF "is_fact" "is_fact" q5w,gF "is_block" "is_block" q4H,gF "block_in" "block_in" q4I,gF "integer_in" "integer_in" q3p,gF "lines_of" "lines_of" q4J,gF "show_row" "show_row" q4K,gF "row_in" "row_in" q6s]
def x5u:List FnH:=[gF "show_store" "show_store" q3q,gF "table_in" "table_in" q4L,gF "fact_in" "fact_in" q5x,gF "is_next_table" "is_next_table" q2k,gF "read_store" "read_store" q3r,gF "facts_by_block" "facts_by_block" q1V,q7s,q6t]
def x9S:List FnH:=x5t ++ x5u
abbrev P0:q7M:=(x9R,x9S)
def x5v:List (JFr→Bool):=[B53,B54,B55,B56,B57,B58,B59,B60,B61,B62,B63,B64,B65,B66,B67]
def x5w:List (JFr→Bool):=[B68,B69,B70,B71,B72,B73,B74,B75,B76,B77,B78,B79,B80,B81,B82]
def x5x:List (JFr→Bool):=[B83,B84,B85,B86,B87,B88,B89,B90,B91,B92,B93,B94,B95,B96,B97]
def x5y:List (JFr→Bool):=[B98,B99,x9M,x9N,x9O,x9P,x9Q]
def x9T:List (JFr→Bool):=x5v ++ x5w ++ x5x ++ x5y
def x5z:List FnH:=[q7t,mF (fun K=>(He.ga K "Store")) "__contains__" "Store.__contains__" q1W,mF (fun K=>(He.ga K "Store")) "__eq__" "Store.__eq__" q4M,mF (fun K=>(He.ga K "Store")) "block_of" "Store.block_of" q1Y,mF (fun K=>(He.ga K "Store")) "facts_of" "Store.facts_of" q1Z,mF (fun K=>(He.ga K "Store")) "joined" "Store.joined" q2F,q5z,mF (fun K=>(He.ga K "Store")) "settled_once" "Store.settled_once" q1r,mF (fun K=>(He.ga K "Store")) "settled" "Store.settled" q2l,mF (fun K=>(He.ga K "Store")) "part" "Store.part" q3s,q7u,gF "_law_purse" "_law_purse" q3U,gF "_law_take" "_law_take" q4N,gF "_law_one" "_law_one" q5y,gF "_law_names" "_law_names" q3V]
def x5A:List FnH:=[gF "_law_schema" "_law_schema" q3t,gF "_law_integer" "_law_integer" q2Y,gF "_law_facts" "_law_facts" q3W,gF "_law_written" "_law_written" q2Z,gF "_law_text" "_law_text" q4O,gF "_law_right" "_law_right" q3Y,gF "law" "law" z5k]
def x9U:List FnH:=x5z ++ x5A
abbrev P1:q7M:=(x9T,x9U)
abbrev psl:List q7M:=[P0,P1]
def j0m:List PySem.Str:=["_wall","__name__","RowError","BadSchema","BadFact","BadText","NoFact","LETTERS","LONGEST_NAME","MOST_TABLES","MOST_COLUMNS","is_integer","is_name","is_number_of_columns","is_table"]
def j0n:List PySem.Str:=["has_size","bad_parts","columns","are_integers","is_fact","is_block","block_in","BAR","DIGITS","integer_in","lines_of","show_row","row_in","show_store","table_in"]
def j0o:List PySem.Str:=["fact_in","is_next_table","read_store","facts_by_block","Store","_law_purse","_law_take","_law_one","_law_names","_law_schema","_law_integer","_law_facts","_law_written","_law_text","_law_right"]
def hn:HN:=(6,[42,19,20,21,22,23,24,25,26,27,28,29,32,33,34,35,36,37,38,39,40,41,43,44,45,46,47,48,49,50,51,52,53,30,31,15,16,18,17])
def nms:List PySem.Str:=j0m ++ j0n ++ j0o
abbrev Rw:PySem.W.OpenRow:=PySem.W.OpenLaw.row PySem.Challenge.rw_whichrow_k04_texts_of_stores
abbrev hk:PySem.W.Hook:=x2F hn psl
def ob (s:PySem.W.SharedT):List AlH:=obL hn psl s
theorem x8N (s:PySem.W.SharedT):ob s = hk.obs s.abs:=x5n s
theorem x8O (w:World):HandSHeadRun.RunEq Rw (Q4m Rw.prog [50]) (x2E hn P0.1 P0.2) (obP hn P0) 30000 nms w:=by
 intro os
 kernel_rfl
theorem x8P (w:World):HandSHeadRun.RunEq Rw (Q4m Rw.prog [50]) (x2E hn P1.1 P1.2) (obP hn P1) 30000 nms w:=by
 intro os
 kernel_rfl
theorem run (w:World):HandSHeadRun.RunEq Rw (Q4m Rw.prog [50]) hk ob 30000 nms w:=z3Q fun p hp=>by
 simp only [Q0s,Q1t,or_false] at hp
 rcases hp with rfl | rfl
 ·exact x8O w
 ·exact x8P w
section
open PySem PySem.W PySem.Calls PyProof.Rows HandSHeadRun
abbrev Pv:Program:=view (OpenLaw.row PySem.Challenge.rw_whichrow_k04_texts_of_stores).prog [50]
abbrev dL:DefRec:=topDef (OpenLaw.row PySem.Challenge.rw_whichrow_k04_texts_of_stores).prog 50
theorem h_b:(OpenLaw.row PySem.Challenge.rw_whichrow_k04_texts_of_stores).prog.bare:=⟨rfl,rfl,rfl,rfl,rfl,by decide +kernel⟩
theorem j0p:dL.params.defaults = []:=by kernel_rfl
theorem j0q:importsNone Pv = true:=by kernel_rfl
theorem j0r:dL.name = ("law":PySem.Str):=by kernel_rfl
theorem x8Q (hc:WalkO Pv nms (XL Pv []) hk.says (OpenLaw.row PySem.Challenge.rw_whichrow_k04_texts_of_stores).toRowW dL [] fun f vs=>PySem.call f vs):OpenLaw.Holds PySem.Challenge.rw_whichrow_k04_texts_of_stores:=by
 w_on; o_law
 refine HandSHeadRun.head_any (r:=OpenLaw.row PySem.Challenge.rw_whichrow_k04_texts_of_stores) (q:=Pv) (H:=hk) (ob:=ob) (M:=30000) (loose:=nms) (d:=dL) (kwd:=[]) x8N
  (by kernel_rfl) (fun s=>by kernel_rfl) run (by kernel_rfl) (by kernel_rfl) (by kernel_rfl) (by rfl) (by first | assumption | decide +kernel) (by decide +kernel) h_b ?hw hc
 case hw=>w_witness2
end
end K04

namespace DL
open PySem PySem.Spec L2
abbrev q3O:=NestedKey × Addr × V
abbrev q9s:=NestedKey × Addr × Value
abbrev KX:List q3O→List q9s→Prop:=Paired fun p q=>p.1 = q.1∧p.2.1 = q.2.1∧RelV p.2.2 q.2.2
def KDo (P:Program) (w:World) (a:Addr) (xs:List q3O) (h:Heap):Prop:=
 xs.length ≤ sizeLine∧(a == sysModules) = false∧(xs.map (·.1)).Nodup∧∃ us:List q9s,KX xs us∧∃ o es ep,h.get? a = some o∧o.ExactDict∧o.data = .dict es ep∧es.toList = us.map (entryOfKey (nestedKind P w))
def KD (P:Program) (w:World) (a:Addr) (xs:List q3O):HO:=.ext (KDo P w a xs)
theorem z6b {xs:List q3O} {us:List q9s} (h:KX xs us):us.map (·.1) = xs.map (·.1):=by
 induction h with
 | nil=>rfl
 | cons h _ ih=>rw [Q0e,Q0e,ih,h.1]
theorem z8Y {xs:List q3O} {us:List q9s} (h:KX xs us):us.map (fun u=>(u.1,u.2.1)) = xs.map (fun u=>(u.1,u.2.1)):=by
 induction h with
 | nil=>rfl
 | cons h _ ih=>rw [Q0e,Q0e,ih,h.1,h.2.1]
theorem z8Z {P:Program} {w:World} {H:Hp} {h:Heap} {a:Addr} {xs:List q3O} (q:KDo P w a xs h):ObjOk P w H h a (KD P w a xs):=by
 refine ⟨q,?_,fun h1 h2 q k=>?_⟩
 ·obtain ⟨_,_,_,us,_,o,_,_,e,_⟩:=q
  exact ⟨o,e⟩
 ·obtain ⟨z,y,n,us,r,o,es,ep,e,c⟩:=q
  exact ⟨z,y,n,us,r,o,es,ep,k o e,c⟩
theorem z9a {P:Program} {w:World} {H:Hp} {h:Heap} {a:Addr} {xs:List q3O} (ok:HOk P w H h) (e:Rd H a (KD P w a xs)):KDo P w a xs h:=(show ObjOk P w H h a (KD P w a xs) from e.ok ok).1
theorem x2G {P:Program} {w:World} {h:Heap} {a:Addr} {xs:List q3O} (q:KDo P w a xs h) (hk:∀ x ∈ xs,(nestedKind P w).is h x.1 x.2.1):∃ us,KX xs us∧h.DictOfH (nestedKind P w) a us:=by
 obtain ⟨_,_,n,us,r,o,es,ep,h1,h2,h3,h4⟩:=q
 refine ⟨us,r,o,es,ep,h1,h2,h3,h4,fun x hx=>?_,by rw [z6b r]; exact n⟩
 have hm:(x.1,x.2.1) ∈ xs.map (fun u=>(u.1,u.2.1)):=by
  rw [← z8Y r]; exact Q0J (f:=fun u:q9s=>(u.1,u.2.1)) hx
 obtain ⟨y,hy,ey⟩:=Q0y.mp hm
 have e1:y.1 = x.1:=congrArg Prod.fst ey
 have e2:y.2.1 = x.2.1:=congrArg Prod.snd ey
 rw [← e1,← e2]
 exact hk y hy
theorem z6c {P:Program} {w:World} {h:Heap} {a:Addr} {xs:List q3O} {us:List q9s} (r:KX xs us) (l:xs.length ≤ sizeLine) (y:(a == sysModules) = false) (d:h.DictOfH (nestedKind P w) a us):KDo P w a xs h:=by
 obtain ⟨o,es,ep,h1,h2,h3,h4,h5,h6⟩:=d
 exact ⟨l,y,by rw [← z6b r]; exact h6,us,r,o,es,ep,h1,h2,h3,h4⟩
def q7U (xs:List q3O) (k:NestedKey):Option V:=(xs.find? fun x=>decide (x.1 = k)).map (·.2.2)
def z0l (xs:List q3O) (k:NestedKey) (b:Addr) (v:V):List q3O:=
 if (xs.any fun x=>decide (x.1 = k)) then xs.map (fun x=>if x.1 = k then (x.1,x.2.1,v) else x) else xs ++ [(k,b,v)]
theorem z6d {xs:List q3O} {us:List q9s} (r:KX xs us) (k:NestedKey):RelO (q7U xs k) ((atKey us k).map (·.2)):=by
 induction r with
 | nil=>exact trivial
 | @cons x u xs us h t ih=>
  unfold q7U at ih ⊢
  by_cases e:x.1 = k
  ·have e':u.1 = k:=by rw [← h.1]; exact e
   rw [Q1R (by simpa using e)]
   have e2:atKey (u :: us) k = some u.2:=by simp [atKey,e']
   rw [e2]
   exact h.2.2
  ·have e':¬ u.1 = k:=by rw [← h.1]; exact e
   rw [Q2n (by simpa using e)]
   simpa [atKey,e'] using ih
theorem x5B {xs:List q3O} {us:List q9s} (r:KX xs us) (k:NestedKey):(xs.any fun x=>decide (x.1 = k)) = (atKey us k).isSome:=by
 induction r with
 | nil=>rfl
 | @cons x u xs us h t ih=>
  by_cases e:x.1 = k
  ·have e':u.1 = k:=by rw [← h.1]; exact e
   simp [atKey,e,e']
  ·have e':¬ u.1 = k:=by rw [← h.1]; exact e
   simpa [atKey,e,e'] using ih
theorem x1z {xs:List q3O} {us:List q9s} (r:KX xs us) {k:NestedKey} {b:Addr} {v:V} {u:Value} (rv:RelV v u):KX (z0l xs k b v) (storedH us k b u):=by
 unfold z0l storedH
 rw [x5B r]
 by_cases q:(atKey us k).isSome = true
 ·rw [if_pos q,if_pos q]
  clear q
  induction r with
  | nil=>exact .nil
  | @cons x y xs us h t ih=>
   rw [Q0e,Q0e]
   refine .cons ?_ ih
   by_cases e:x.1 = k
   ·have e':y.1 = k:=by rw [← h.1]; exact e
    simp [putAt,e,e',h.2.1,rv]
   ·have e':¬ y.1 = k:=by rw [← h.1]; exact e
    simpa [putAt,e,e'] using h
 ·rw [if_neg q,if_neg q]
  clear q
  induction r with
  | nil=>exact .cons ⟨rfl,rfl,rv⟩ .nil
  | cons h t ih=>exact .cons h ih
end DL

namespace DL
open PySem PySem.Spec L2

inductive Dat where
 | non | bl (b:Bool) | int (i:Int) | str (x:Str)
 | tup (ds:List Dat) | lst (ds:List Dat) | fro (ds:List Dat)
 | dic (ks:List Key) (ds:List Dat)
 | ins (c:Str) (fs:List Str) (ds:List Dat)
 | dix (ks ds:List Dat)
 | opq (o:Option Str)

class NT (o:HO):Prop where
 no:∀ ps,o ≠ .tbl ps
instance {xs:List V}:NT (.lst xs):=⟨fun _ z=>nomatch z⟩
instance {xs:List V}:NT (.tup xs):=⟨fun _ z=>nomatch z⟩
instance {xs:List (Key × V)}:NT (.dK xs):=⟨fun _ z=>nomatch z⟩
instance {xs:List (List Key × V)}:NT (.dT xs):=⟨fun _ z=>nomatch z⟩
instance {S:Int→Bool} {n:Nat}:NT (.set S n):=⟨fun _ z=>nomatch z⟩
instance {C dx:Addr} {fs:List (Str × V)}:NT (.ins C dx fs):=⟨fun _ z=>nomatch z⟩
instance {x:Addr}:NT (.own x):=⟨fun _ z=>nomatch z⟩
instance {fs:List (Str × V)}:NT (.xd fs):=⟨fun _ z=>nomatch z⟩
instance {f x:Addr}:NT (.met f x):=⟨fun _ z=>nomatch z⟩
instance {a b:Int}:NT (.rng a b):=⟨fun _ z=>nomatch z⟩
instance {o:Obj} {u:HO}:NT (.frz o u):=⟨fun _ z=>nomatch z⟩
instance {φ:Heap→Prop}:NT (.ext φ):=⟨fun _ z=>nomatch z⟩
instance {P:Program} {w:World} {a:Addr} {xs:List q3O}:NT (KD P w a xs):=⟨fun _ z=>nomatch z⟩
class NC (a:Addr) (o:HO):Prop where
 no:∀ q,o ≠ LamX.CodeO a q
instance {a:Addr} {xs:List V}:NC a (.lst xs):=⟨fun _ z=>nomatch z⟩
instance {a:Addr} {xs:List (Key × V)}:NC a (.dK xs):=⟨fun _ z=>nomatch z⟩
instance {a C dx:Addr} {fs:List (Str × V)}:NC a (.ins C dx fs):=⟨fun _ z=>nomatch z⟩
instance {a:Addr} {o:Obj} {u:HO}:NC a (.frz o u):=⟨fun _ z=>nomatch z⟩
instance {a:Addr} {xs:List V}:NC a (.tup xs):=⟨fun _ z=>nomatch z⟩
theorem q4Y {a:Addr} {φ:Heap→Prop} (h:∀ h,φ h→∃ o,h.get? a = some o∧∀ vs,o.data ≠ .fields vs) {q:Str}:HO.ext φ ≠ LamX.CodeO a q:=fun z=>by
 unfold LamX.CodeO at z
 have z:=HO.ext.inj z
 let ob:Obj:={ cls:=.none,data:=.fields #[.none,.str q 0] }
 let h0:Heap:={ objs:=(Q0p (a + 1) ob).toArray }
 have e0:h0.get? a = some ob:=by
  unfold Heap.get?
  have:h0.objs[a]? = some ob:=by
   show (Q0p (a + 1) ob).toArray[a]? = some ob
   rw [List.getElem?_toArray,List.getElem?_replicate,if_pos (Q3G a)]
  rw [this]
 have h1:=congrFun z h0
 have h2:φ h0:=by
  rw [h1]
  exact ⟨ob,_,_,e0,rfl,rfl⟩
 obtain ⟨o,e1,e3⟩:=h h0 h2
 rw [e0] at e1
 cases e1
 exact e3 _ rfl
theorem q9D {P:Program} {w:World} {a:Addr} {xs:List q3O} {q:Str}:KD P w a xs ≠ LamX.CodeO a q:=q4Y fun h k=>by
 obtain ⟨_,_,_,_,_,o,es,ep,e1,_,e3,_⟩:=k
 exact ⟨o,e1,fun vs z=>by rw [e3] at z; cases z⟩
instance {P:Program} {w:World} {a:Addr} {xs:List q3O}:NC a (KD P w a xs):=⟨fun _=>q9D⟩
mutual
/-- data as the key of a dict -/
def nkD:Dat→Option NestedKey
 | .int i=>some (.num i)
 | .str x=>some (.text x)
 | .tup ds=>match q6u ds with
  | some ks=>some (.tup ks)
  | none=>none
 | .non=>some .none
 | .bl _ | .lst _ | .fro _ | .dic _ _ | .ins _ _ _ | .dix _ _ | .opq _=>none
def q6u:List Dat→Option (List NestedKey)
 | []=>some []
 | d :: ds=>match nkD d,q6u ds with
  | some k,some ks=>some (k :: ks)
  | _,_=>none
end
def kyD (d:Dat):Option NestedKey:=match nkD d with
 | some (.tup ks)=>if (NestedKey.tup ks).depth ≤ 8 then some (.tup ks) else none
 | _=>none
def q6b:List Dat→Option (List NestedKey)
 | []=>some []
 | d :: ds=>match kyD d,q6b ds with
  | some k,some ks=>some (k :: ks)
  | _,_=>none
structure Ct where
 P:Program
 w:World
 K:JFr
 mg:Str→Option Value
abbrev ct (X:Cx):Ct:=⟨X.prog,X.w,X.K,X.mg⟩

mutual
inductive Rep (c:Ct) (S:Hp):V→Dat→Prop
 | non:Rep c S .non .non
 | bl (b:Bool):Rep c S (.bl b) (.bl b)
 | int (i:Int):Rep c S (.int i) (.int i)
 | str (x:Str):Rep c S (.str x) (.str x)
 | tup {a:Addr} {xs:List V} {ds:List Dat}:SqT c.K S a xs→Reps c S xs ds→Rep c S (.ref a) (.tup ds)
 | lst {a:Addr} {xs:List V} {ds:List Dat}:Rd S a (.lst xs)→Reps c S xs ds→Rep c S (.ref a) (.lst ds)
 | fro {a:Addr} {xs:List V} {ds:List Dat}:SqL c.K S a xs→Reps c S xs ds→Rep c S (.ref a) (.fro ds)
 | dic {a:Addr} {ks:List Key} {xs:List V} {ds:List Dat}:Rd S a (.dK (ks.zip xs))→ks.length = xs.length→Reps c S xs ds→Rep c S (.ref a) (.dic ks ds)
 | ins {a C dx:Addr} {nm:Str} {fs:List Str} {xs:List V} {ds:List Dat}:c.mg nm = some (.ref C)→S a = some (.ins C dx (fs.zip xs))→fs.length = xs.length→Reps c S xs ds→Rep c S (.ref a) (.ins nm fs ds)
 | dix {a:Addr} {xs:List q3O} {ks ds:List Dat}:Rd S a (KD c.P c.w a xs)→Reps c S (xs.map fun x=>V.ref x.2.1) ks→q6b ks = some (xs.map (·.1))→Reps c S (xs.map (·.2.2)) ds→Rep c S (.ref a) (.dix ks ds)
 | opq {v:V} {o:Option Str} (h:∀ nm,o = some nm→∃ f:Addr,v = .ref f∧c.mg nm = some (.ref f)):Rep c S v (.opq o)
inductive Reps (c:Ct) (S:Hp):List V→List Dat→Prop
 | nil:Reps c S [] []
 | cons {v:V} {vs:List V} {d:Dat} {ds:List Dat}:Rep c S v d→Reps c S vs ds→Reps c S (v :: vs) (d :: ds)
end

theorem q0S {K:JFr} {H H':Hp} {a:Addr} {xs:List V} (e:Same H H') (h:SqT K H a xs):SqT K H' a xs:=by
 rcases h with (h | ⟨o,h⟩) | h
 ·exact .inl (.inl (e _ _ h))
 ·exact .inl (.inr ⟨o,e _ _ h⟩)
 ·exact .inr h
theorem q0G {H H':Hp} {a:Addr} {u:HO} (e:Same H H') (h:Rd H a u):Rd H' a u:=by
 rcases h with h | ⟨o,h⟩
 ·exact .inl (e _ _ h)
 ·exact .inr ⟨o,e _ _ h⟩

section
variable {c:Ct} {S S':Hp}
mutual
theorem Rep.mono (e:Same S S') {v:V} {d:Dat} (h:Rep c S v d):Rep c S' v d:=by
 match h with
 | .non=>exact .non
 | .bl b=>exact .bl b
 | .int i=>exact .int i
 | .str x=>exact .str x
 | .tup h1 h2=>exact .tup (q0S e h1) (Reps.mono e h2)
 | .lst h1 h2=>exact .lst (q0G e h1) (Reps.mono e h2)
 | .fro h1 h2=>exact .fro (e.seq h1) (Reps.mono e h2)
 | .dic h1 h2 h3=>exact .dic (q0G e h1) h2 (Reps.mono e h3)
 | .ins h0 h1 h2 h3=>exact .ins h0 (e _ _ h1) h2 (Reps.mono e h3)
 | .dix h1 h2 h3 h4=>exact .dix (q0G e h1) (Reps.mono e h2) h3 (Reps.mono e h4)
 | .opq h=>exact .opq h
theorem Reps.mono (e:Same S S') {vs:List V} {ds:List Dat} (h:Reps c S vs ds):Reps c S' vs ds:=by
 match h with
 | .nil=>exact .nil
 | .cons h1 h2=>exact .cons (Rep.mono e h1) (Reps.mono e h2)
end
theorem Reps.length {vs:List V} {ds:List Dat} (h:Reps c S vs ds):vs.length = ds.length:=by
 induction ds generalizing vs with
 | nil=>cases h; rfl
 | cons d ds ih=>
  cases h with
  | cons _ h2=>rw [Q0d,Q0d,ih h2]
theorem Reps.get {vs:List V} {ds:List Dat} (h:Reps c S vs ds) {i:Nat} {d:Dat} (e:ds[i]? = some d):∃ v,vs[i]? = some v∧Rep c S v d:=by
 induction ds generalizing vs i with
 | nil=>simp at e
 | cons x ds ih=>
  cases h with
  | cons h1 h2=>
   cases i with
   | zero=>simp at e; subst e; exact ⟨_,rfl,h1⟩
   | succ i=>obtain ⟨v,e1,e2⟩:=ih h2 (i:=i) (by simpa using e); exact ⟨v,by simpa using e1,e2⟩
theorem Reps.app {vs ws:List V} {ds es:List Dat} (h:Reps c S vs ds) (k:Reps c S ws es):Reps c S (vs ++ ws) (ds ++ es):=by
 induction ds generalizing vs with
 | nil=>cases h; exact k
 | cons d ds ih=>
  cases h with
  | cons h1 h2=>exact .cons h1 (ih h2)
theorem Reps.take {vs:List V} {ds:List Dat} (h:Reps c S vs ds) (n:Nat):Reps c S (vs.take n) (ds.take n):=by
 induction n generalizing vs ds with
 | zero=>exact .nil
 | succ n ih=>
  cases h with
  | nil=>exact .nil
  | cons h1 h2=>exact .cons h1 (ih h2)
theorem Reps.drop {vs:List V} {ds:List Dat} (h:Reps c S vs ds) (n:Nat):Reps c S (vs.drop n) (ds.drop n):=by
 induction n generalizing vs ds with
 | zero=>exact h
 | succ n ih=>
  cases h with
  | nil=>exact .nil
  | cons h1 h2=>exact ih h2
theorem Reps.rev {vs:List V} {ds:List Dat} (h:Reps c S vs ds):Reps c S vs.reverse ds.reverse:=by
 induction ds generalizing vs with
 | nil=>cases h; exact .nil
 | cons d ds ih=>
  cases h with
  | cons h1 h2=>
   rw [List.reverse_cons,List.reverse_cons]
   exact (ih h2).app (.cons h1 .nil)
theorem Reps.strs {vs:List V} {ns:List Str} (h:Reps c S vs (ns.map Dat.str)):vs = ns.map V.str:=by
 induction ns generalizing vs with
 | nil=>cases h; rfl
 | cons n ns ih=>
  cases h with
  | cons h1 h2=>cases h1; rw [ih h2]; rfl
theorem Reps.of_ints:∀ ns:List Int,Reps c S (ns.map V.int) (ns.map Dat.int)
 | []=>.nil
 | n :: ns=>.cons (.int n) (Reps.of_ints ns)
theorem Reps.of_strs:∀ ns:List Str,Reps c S (ns.map V.str) (ns.map Dat.str)
 | []=>.nil
 | n :: ns=>.cons (.str n) (Reps.of_strs ns)
end

inductive Atom where
 | im (d:Dat) | ol (ds:List Dat) | od (ks:List Key) (ds:List Dat) | ok (ks ds:List Dat)
inductive Cell where
 | atm (a:Atom) | li (as:List Atom) | di (ks:List Key) (as:List Atom) | oi (c:Str) (fs:List Str) (as:List Atom) | dk (ks:List Dat) (as:List Atom)
abbrev Cell.im (d:Dat):Cell:=.atm (.im d)
abbrev Cell.ol (ds:List Dat):Cell:=.atm (.ol ds)
abbrev Cell.od (ks:List Key) (ds:List Dat):Cell:=.atm (.od ks ds)
structure Slot where
 pin:Bool
 cell:Cell
abbrev Rho:=List (Option Slot)

section
variable (c:Ct) (S H:Hp)
inductive RepA:V→Atom→List Addr→Prop
 | im {v:V} {d:Dat}:Rep c S v d→RepA v (.im d) []
 | ol {p:Addr} {xs:List V} {ds:List Dat}:H p = some (.lst xs)→Reps c S xs ds→RepA (.ref p) (.ol ds) [p]
 | od {p:Addr} {ks:List Key} {xs:List V} {ds:List Dat}:H p = some (.dK (ks.zip xs))→ks.length = xs.length→Reps c S xs ds→RepA (.ref p) (.od ks ds) [p]
 | ok {p:Addr} {rs:List q3O} {ks ds:List Dat}:H p = some (KD c.P c.w p rs)→Reps c S (rs.map fun x=>V.ref x.2.1) ks→q6b ks = some (rs.map (·.1))→Reps c S (rs.map (·.2.2)) ds→RepA (.ref p) (.ok ks ds) [p]
inductive RepAs:List V→List Atom→List Addr→Prop
 | nil:RepAs [] [] []
 | cons {v:V} {vs:List V} {a:Atom} {as:List Atom} {fp fps:List Addr}:RepA c S H v a fp→RepAs vs as fps→RepAs (v :: vs) (a :: as) (fp ++ fps)
inductive RepC:V→Cell→List Addr→Prop
 | atm {v:V} {a:Atom} {fp:List Addr}:RepA c S H v a fp→RepC v (.atm a) fp
 | li {p:Addr} {xs:List V} {as:List Atom} {fps:List Addr}:H p = some (.lst xs)→RepAs c S H xs as fps→RepC (.ref p) (.li as) (p :: fps)
 | di {p:Addr} {ks:List Key} {xs:List V} {as:List Atom} {fps:List Addr}:H p = some (.dK (ks.zip xs))→ks.length = xs.length→RepAs c S H xs as fps→RepC (.ref p) (.di ks as) (p :: fps)
 | oi {p C dx:Addr} {nm:Str} {fs:List Str} {xs:List V} {as:List Atom} {fps:List Addr}:c.mg nm = some (.ref C)→H p = some (.ins C dx (fs.zip xs))→fs.length = xs.length→RepAs c S H xs as fps→RepC (.ref p) (.oi nm fs as) (p :: fps)
 | dk {p:Addr} {rs:List q3O} {ks:List Dat} {as:List Atom} {fps:List Addr}:H p = some (KD c.P c.w p rs)→Reps c S (rs.map fun x=>V.ref x.2.1) ks→q6b ks = some (rs.map (·.1))→RepAs c S H (rs.map (·.2.2)) as fps→RepC (.ref p) (.dk ks as) (p :: fps)
inductive RepS:St→Rho→List Addr→Prop
 | nil:RepS [] [] []
 | non {v:Option V} {σ:St} {ρ:Rho} {fps:List Addr}:RepS σ ρ fps→RepS (v :: σ) (none :: ρ) fps
 | con {v:V} {b:Bool} {k:Cell} {σ:St} {ρ:Rho} {fp fps:List Addr}:RepC c S H v k fp→RepS σ ρ fps→RepS (some v :: σ) (some ⟨b,k⟩ :: ρ) (fp ++ fps)
end

section
variable {c:Ct} {S S' H H':Hp}
theorem RepA.keep (e:Same S S') {v:V} {a:Atom} {fp:List Addr} (h:RepA c S H v a fp) (k:∀ x ∈ fp,H' x = H x):RepA c S' H' v a fp:=by
 cases h with
 | im h=>exact .im (h.mono e)
 | ol h1 h2=>exact .ol ((k _ (Q0t.mpr rfl)).trans h1) (h2.mono e)
 | od h1 h2 h3=>exact .od ((k _ (Q0t.mpr rfl)).trans h1) h2 (h3.mono e)
 | ok h1 h2 h3 h4=>exact .ok ((k _ (Q0t.mpr rfl)).trans h1) (h2.mono e) h3 (h4.mono e)
theorem RepAs.keep (e:Same S S') {vs:List V} {as:List Atom} {fp:List Addr} (h:RepAs c S H vs as fp):(∀ x ∈ fp,H' x = H x)→RepAs c S' H' vs as fp:=by
 induction h with
 | nil=>exact fun _=>.nil
 | cons h1 _ ih=>exact fun k=>.cons (h1.keep e fun x hx=>k x (Q0q _ hx)) (ih fun x hx=>k x (Q0l _ hx))
theorem RepC.keep (e:Same S S') {v:V} {a:Cell} {fp:List Addr} (h:RepC c S H v a fp) (k:∀ x ∈ fp,H' x = H x):RepC c S' H' v a fp:=by
 cases h with
 | atm h=>exact .atm (h.keep e k)
 | li h1 h2=>exact .li ((k _ Q0g).trans h1) (h2.keep e fun x hx=>k x (Q0h _ hx))
 | di h1 h2 h3=>exact .di ((k _ Q0g).trans h1) h2 (h3.keep e fun x hx=>k x (Q0h _ hx))
 | oi h0 h1 h2 h3=>exact .oi h0 ((k _ Q0g).trans h1) h2 (h3.keep e fun x hx=>k x (Q0h _ hx))
 | dk h1 h2 h3 h4=>exact .dk ((k _ Q0g).trans h1) (h2.mono e) h3 (h4.keep e fun x hx=>k x (Q0h _ hx))
theorem RepS.keep (e:Same S S') {σ:St} {ρ:Rho} {fp:List Addr} (h:RepS c S H σ ρ fp):(∀ x ∈ fp,H' x = H x)→RepS c S' H' σ ρ fp:=by
 induction h with
 | nil=>exact fun _=>.nil
 | non _ ih=>exact fun k=>.non (ih k)
 | con h1 _ ih=>exact fun k=>.con (h1.keep e fun x hx=>k x (Q0q _ hx)) (ih fun x hx=>k x (Q0l _ hx))
theorem RepA.there {v:V} {a:Atom} {fp:List Addr} (h:RepA c S H v a fp):∀ x ∈ fp,H x ≠ none:=by
 cases h with
 | im h=>exact fun x hx=>nomatch hx
 | ol h1 h2=>intro x hx; rw [Q0t.mp hx,h1]; exact fun z=>nomatch z
 | od h1 h2 h3=>intro x hx; rw [Q0t.mp hx,h1]; exact fun z=>nomatch z
 | ok h1 h2 h3 h4=>intro x hx; rw [Q0t.mp hx,h1]; exact fun z=>nomatch z
theorem RepAs.there {vs:List V} {as:List Atom} {fp:List Addr} (h:RepAs c S H vs as fp):∀ x ∈ fp,H x ≠ none:=by
 induction h with
 | nil=>exact fun x hx=>nomatch hx
 | cons h1 _ ih=>exact fun x hx=>(Q0k.mp hx).elim (h1.there x) (ih x)
theorem RepC.there {v:V} {a:Cell} {fp:List Addr} (h:RepC c S H v a fp):∀ x ∈ fp,H x ≠ none:=by
 cases h with
 | atm h=>exact h.there
 | li h1 h2=>intro x hx; rcases Q0s.mp hx with e | hx; (rw [e,h1]; exact fun z=>nomatch z); exact h2.there x hx
 | di h1 h2 h3=>intro x hx; rcases Q0s.mp hx with e | hx; (rw [e,h1]; exact fun z=>nomatch z); exact h3.there x hx
 | oi h0 h1 h2 h3=>intro x hx; rcases Q0s.mp hx with e | hx; (rw [e,h1]; exact fun z=>nomatch z); exact h3.there x hx
 | dk h1 h2 h3 h4=>intro x hx; rcases Q0s.mp hx with e | hx; (rw [e,h1]; exact fun z=>nomatch z); exact h4.there x hx
theorem RepS.there {σ:St} {ρ:Rho} {fp:List Addr} (h:RepS c S H σ ρ fp):∀ x ∈ fp,H x ≠ none:=by
 induction h with
 | nil=>exact fun x hx=>nomatch hx
 | non _ ih=>exact ih
 | con h1 _ ih=>exact fun x hx=>(Q0k.mp hx).elim (h1.there x) (ih x)
theorem RepA.nt {v:V} {a:Atom} {fp:List Addr} (h:RepA c S H v a fp):∀ x ∈ fp,∀ o,H x = some o→NT o∧NC x o:=by
 cases h with
 | im h=>exact fun x hx=>nomatch hx
 | ol h1 h2=>intro x hx; rw [Q0t.mp hx,h1]; intro o z; cases z; exact ⟨inferInstance,inferInstance⟩
 | od h1 h2 h3=>intro x hx; rw [Q0t.mp hx,h1]; intro o z; cases z; exact ⟨inferInstance,inferInstance⟩
 | ok h1 h2 h3 h4=>intro x hx; rw [Q0t.mp hx,h1]; intro o z; cases z; exact ⟨inferInstance,inferInstance⟩
theorem RepAs.nt {vs:List V} {as:List Atom} {fp:List Addr} (h:RepAs c S H vs as fp):∀ x ∈ fp,∀ o,H x = some o→NT o∧NC x o:=by
 induction h with
 | nil=>exact fun x hx=>nomatch hx
 | cons h1 _ ih=>exact fun x hx=>(Q0k.mp hx).elim (h1.nt x) (ih x)
theorem RepC.nt {v:V} {a:Cell} {fp:List Addr} (h:RepC c S H v a fp):∀ x ∈ fp,∀ o,H x = some o→NT o∧NC x o:=by
 cases h with
 | atm h=>exact h.nt
 | li h1 h2=>intro x hx; rcases Q0s.mp hx with e | hx; (rw [e,h1]; intro o z; cases z; exact ⟨inferInstance,inferInstance⟩); exact h2.nt x hx
 | di h1 h2 h3=>intro x hx; rcases Q0s.mp hx with e | hx; (rw [e,h1]; intro o z; cases z; exact ⟨inferInstance,inferInstance⟩); exact h3.nt x hx
 | oi h0 h1 h2 h3=>intro x hx; rcases Q0s.mp hx with e | hx; (rw [e,h1]; intro o z; cases z; exact ⟨inferInstance,inferInstance⟩); exact h3.nt x hx
 | dk h1 h2 h3 h4=>intro x hx; rcases Q0s.mp hx with e | hx; (rw [e,h1]; intro o z; cases z; exact ⟨inferInstance,inferInstance⟩); exact h4.nt x hx
theorem RepS.nt {σ:St} {ρ:Rho} {fp:List Addr} (h:RepS c S H σ ρ fp):∀ x ∈ fp,∀ o,H x = some o→NT o∧NC x o:=by
 induction h with
 | nil=>exact fun x hx=>nomatch hx
 | non _ ih=>exact ih
 | con h1 _ ih=>exact fun x hx=>(Q0k.mp hx).elim (h1.nt x) (ih x)
theorem RepS.length {σ:St} {ρ:Rho} {fp:List Addr} (h:RepS c S H σ ρ fp):σ.length = ρ.length:=by
 induction h with
 | nil=>rfl
 | non _ ih=>rw [Q0d,Q0d,ih]
 | con _ _ ih=>rw [Q0d,Q0d,ih]
theorem RepS.at {σ:St} {ρ:Rho} {fps:List Addr} (h:RepS c S H σ ρ fps):∀ {i:Nat} {s:Slot},ρ[i]? = some (some s) →
  ∃ v l fp r,σ[i]? = some (some v)∧fps = l ++ (fp ++ r)∧RepC c S H v s.cell fp ∧
   ∀ (S' H':Hp) (b:Bool) (k:Cell) (u:V) (fp':List Addr),Same S S'→(∀ x ∈ l ++ r,H' x = H x)→RepC c S' H' u k fp'→RepS c S' H' (σ.set i (some u)) (ρ.set i (some ⟨b,k⟩)) (l ++ (fp' ++ r)):=by
 induction h with
 | nil=>intro i s e; simp at e
 | @non v σ ρ fps h ih=>
  intro i s e
  cases i with
  | zero=>simp at e
  | succ i=>
   obtain ⟨w,l,fp,r,e1,e2,e3,q⟩:=ih (i:=i) (s:=s) (by simpa using e)
   exact ⟨w,l,fp,r,by simpa using e1,e2,e3,fun S' H' b k u fp' a1 a2 a3=>.non (q S' H' b k u fp' a1 a2 a3)⟩
 | @con v b k σ ρ fp fps h1 h ih=>
  intro i s e
  cases i with
  | zero=>
   simp at e; subst e
   exact ⟨v,[],fp,fps,rfl,rfl,h1,fun S' H' b k u fp' a1 a2 a3=>by rw [Q0u]; exact .con a3 (h.keep a1 a2)⟩
  | succ i=>
   obtain ⟨w,l,fp2,r,e1,e2,e3,q⟩:=ih (i:=i) (s:=s) (by simpa using e)
   refine ⟨w,fp ++ l,fp2,r,by simpa using e1,by rw [e2,Q0C],e3,fun S' H' b' k' u fp' a1 a2 a3=>?_⟩
   rw [Q0C]
   exact .con (h1.keep a1 fun x hx=>a2 x (by rw [Q0C]; exact Q0q _ hx)) (q S' H' b' k' u fp' a1 (fun x hx=>a2 x (by rw [Q0C]; exact Q0l _ hx)) a3)
theorem RepS.put {σ:St} {ρ:Rho} {fps:List Addr} (h:RepS c S H σ ρ fps):∀ {i:Nat},i < ρ.length→∃ l m r,fps = l ++ (m ++ r) ∧
   ∀ (S' H':Hp) (b:Bool) (k:Cell) (u:V) (fp':List Addr),Same S S'→(∀ x ∈ l ++ r,H' x = H x)→RepC c S' H' u k fp'→RepS c S' H' (σ.set i (some u)) (ρ.set i (some ⟨b,k⟩)) (l ++ (fp' ++ r)):=by
 induction h with
 | nil=>intro i e; simp at e
 | @non v σ ρ fps h ih=>
  intro i e
  cases i with
  | zero=>exact ⟨[],[],fps,rfl,fun S' H' b k u fp' a1 a2 a3=>by rw [Q0u]; exact .con a3 (h.keep a1 a2)⟩
  | succ i=>
   obtain ⟨l,fp,r,e2,q⟩:=ih (i:=i) (by simpa using e)
   exact ⟨l,fp,r,e2,fun S' H' b k u fp' a1 a2 a3=>.non (q S' H' b k u fp' a1 a2 a3)⟩
 | @con v b k σ ρ fp fps h1 h ih=>
  intro i e
  cases i with
  | zero=>exact ⟨[],fp,fps,rfl,fun S' H' b k u fp' a1 a2 a3=>by rw [Q0u]; exact .con a3 (h.keep a1 a2)⟩
  | succ i=>
   obtain ⟨l,fp2,r,e2,q⟩:=ih (i:=i) (by simpa using e)
   refine ⟨fp ++ l,fp2,r,by rw [e2,Q0C],fun S' H' b' k' u fp' a1 a2 a3=>?_⟩
   rw [Q0C]
   exact .con (h1.keep a1 fun x hx=>a2 x (by rw [Q0C]; exact Q0q _ hx)) (q S' H' b' k' u fp' a1 (fun x hx=>a2 x (by rw [Q0C]; exact Q0l _ hx)) a3)
end

class Tbls where
 T:List (Addr × Str)
def Tbs [Tbls] (S H:Hp):Prop:=∀ p ∈ Tbls.T,LamX.TabS H p.1 p.2∧S p.1 = none
variable [Tbls]
theorem q4q {S H S' H':Hp} {fps:List Addr} (t:Tbs S H) (nt:∀ a ∈ fps,∀ o,H a = some o→NT o∧NC a o) (k:∀ a o,H a = some o→a ∉ fps→H' a = some o) (ns:∀ a,S' a ≠ none→S a ≠ none∨a ∈ fps∨H a = none):Tbs S' H':=fun p hp=>by
 obtain ⟨⟨ps,h1,h2,h3⟩,h4⟩:=t p hp
 have hn:H p.1 ≠ none:=by rw [h1]; exact fun z=>nomatch z
 have h5:p.1 ∉ fps:=fun z=>(nt _ z _ h1).1.no _ rfl
 refine ⟨⟨ps,k _ _ h1 h5,h2,fun pos cv hc=>?_⟩,?_⟩
 ·obtain ⟨c,e,hcH⟩:=h3 pos cv hc
  exact ⟨c,e,k _ _ hcH fun z=>(nt _ z _ hcH).2.no _ rfl⟩
 ·cases q:S' p.1 with
  | none=>rfl
  | some o=>
   rcases ns p.1 (by rw [q]; exact fun z=>nomatch z) with z | z | z
   ·exact absurd h4 z
   ·exact absurd z h5
   ·exact absurd z hn
theorem z2M {S H H':Hp} (t:Tbs S H) (k:Same H H'):Tbs S H':=q4q (fps:=[]) t (fun a h=>(nomatch h)) (fun a o h _=>k a o h) fun a q=>.inl q
theorem z6e {S H:Hp} {D:Addr} {o o':HO} (t:Tbs S H) (hD:H D = some o') [i1:NT o'] [i2:NC D o']:Tbs S (upd H D o):=q4q (fps:=[D]) t (fun a ha x e=>by
 rw [Q0t.mp ha] at e ⊢
 rw [hD] at e
 cases e
 exact ⟨i1,i2⟩) (fun a x e n=>by rw [upd_ne fun z=>n (Q0t.mpr z)]; exact e) fun a q=>.inl q
theorem Tbs.sub {S S' H:Hp} (t:Tbs S' H) (h:∀ a,S a ≠ none→S' a ≠ none):Tbs S H:=fun p hp=>⟨(t p hp).1,by
 cases q:S p.1 with
 | none=>rfl
 | some o=>exact absurd (t p hp).2 (h _ (by rw [q]; exact fun z=>nomatch z))⟩
theorem q7V {S H:Hp} {d:Addr} {o o':HO} (t:Tbs S H) (ex:Same S H) (hd:S d = some o') [NT o'] [NC d o']:Tbs (upd S d o) (upd H d o):=fun p hp=>by
 refine ⟨(z6e (o:=o) t (ex _ _ hd) p hp).1,?_⟩
 have h:=(t p hp).2
 rw [upd_ne fun e=>by rw [e,hd] at h; cases h]
 exact h
theorem x2H {A B:Hp} (e:Same A B):∀ a,A a ≠ none→B a ≠ none:=fun a h z=>h (e.free z)
structure Good (c:Ct) (S H:Hp) (σ:St) (ρ:Rho) (fps:List Addr):Prop where
 ex:Same S H
 rep:RepS c S H σ ρ fps
 nd:fps.Nodup
 out:∀ a ∈ fps,S a = none
 tb:Tbs S H
def PinR (ρ ρ':Rho):Prop:=ρ.length = ρ'.length∧∀ (i:Nat) s,ρ[i]? = some (some s)→s.pin = true→∃ s',ρ'[i]? = some (some s')∧s'.pin = true
theorem PinR.refl (ρ:Rho):PinR ρ ρ:=⟨rfl,fun _ s h e=>⟨s,h,e⟩⟩
theorem PinR.trans {ρ ρ1 ρ2:Rho} (a:PinR ρ ρ1) (b:PinR ρ1 ρ2):PinR ρ ρ2:=⟨a.1.trans b.1,fun i s h e=>by
 obtain ⟨s1,h1,e1⟩:=a.2 i s h e
 exact b.2 i s1 h1 e1⟩
structure Stp (S H:Hp) (fps:List Addr) (S' H':Hp) (fps':List Addr):Prop where
 ss:Same S S'
 fr:∀ a o,H a = some o→a ∉ fps→[NT o]→H' a = some o
 dom:∀ a,H a ≠ none→H' a ≠ none
 nf:∀ a ∈ fps',a ∈ fps∨H a = none
 ns:∀ a,S' a ≠ none→S a ≠ none∨a ∈ fps∨H a = none
theorem Stp.refl (S H:Hp) (fps:List Addr):Stp S H fps S H fps:=⟨Same.refl S,fun _ _ h _=>h,fun _ h=>h,fun _ h=>.inl h,fun _ h=>.inl h⟩
theorem Stp.trans {S H S1 H1 S2 H2:Hp} {f f1 f2:List Addr} (a:Stp S H f S1 H1 f1) (b:Stp S1 H1 f1 S2 H2 f2):Stp S H f S2 H2 f2 where
 ss:=a.ss.trans b.ss
 fr:=fun x o h n=>b.fr x o (a.fr x o h n) fun z=>(a.nf x z).elim n fun e=>by rw [e] at h; cases h
 dom:=fun x h=>b.dom x (a.dom x h)
 nf:=fun x h=>(b.nf x h).elim (a.nf x) fun e=>.inr (by
  cases q:H x with
  | none=>rfl
  | some o=>exact absurd e (a.dom x (by rw [q]; exact fun z=>nomatch z)))
 ns:=fun x h=>by
  rcases b.ns x h with h | h | h
  ·exact a.ns x h
  ·exact .inr (a.nf x h)
  ·refine .inr (.inr ?_)
   cases q:H x with
   | none=>rfl
   | some o=>exact absurd h (a.dom x (by rw [q]; exact fun z=>nomatch z))
structure Fre (S H S' H':Hp):Prop where
 hh:Same H H'
 ss:Same S S'
 sh:Same S' H'
 ns:∀ a,S' a ≠ none→S a ≠ none∨H a = none
theorem Fre.refl {S H:Hp} (e:Same S H):Fre S H S H:=⟨Same.refl H,Same.refl S,e,fun _ h=>.inl h⟩
theorem Fre.trans {S H S1 H1 S2 H2:Hp} (a:Fre S H S1 H1) (b:Fre S1 H1 S2 H2):Fre S H S2 H2 where
 hh:=a.hh.trans b.hh
 ss:=a.ss.trans b.ss
 sh:=b.sh
 ns:=fun x h=>(b.ns x h).elim (a.ns x) fun e=>.inr (a.hh.free e)
theorem q2i {H:Hp} {p:Addr} {o:HO} (h:H p = none):Same H (upd H p o):=fun b x e=>by
 rw [upd_ne (ne_of_none e h)]
 exact e
theorem Fre.new {S H:Hp} {p:Addr} {o:HO} (e:Same S H) (h:H p = none):Fre S H (upd S p o) (upd H p o) where
 hh:=q2i h
 ss:=q2i (e.free h)
 sh:=fun b x q=>by
  by_cases z:b = p
  ·subst z; rw [upd_same] at q ⊢; exact q
  ·rw [upd_ne z] at q ⊢; exact e _ _ q
 ns:=fun a q=>by
  by_cases z:a = p
  ·subst z; exact .inr h
  ·rw [upd_ne z] at q; exact .inl q
theorem Fre.more {S H H':Hp} (e:Same S H) (h:Same H H'):Fre S H S H':=⟨h,Same.refl S,e.trans h,fun _ q=>.inl q⟩
theorem x2I {S H S' H':Hp} (t:Tbs S H) (f:Fre S H S' H'):Tbs S' H':=q4q (fps:=[]) t (fun a h=>(nomatch h)) (fun a o h _=>f.hh a o h) fun a h=>(f.ns a h).elim .inl fun e=>.inr (.inr e)
section
variable {c:Ct} {S H S' H':Hp} {σ:St} {ρ:Rho} {fps:List Addr}
theorem Good.there (G:Good c S H σ ρ fps) {a:Addr} (h:a ∈ fps):H a ≠ none:=G.rep.there a h
theorem Good.nt (G:Good c S H σ ρ fps) {a:Addr} (h:a ∈ fps) {o:HO} (e:H a = some o):NT o:=(G.rep.nt a h o e).1
theorem Good.tbs (G:Good c S H σ ρ fps) (k:∀ a o,H a = some o→a ∉ fps→H' a = some o) (ns:∀ a,S' a ≠ none→S a ≠ none∨a ∈ fps∨H a = none):Tbs S' H':=q4q G.tb G.rep.nt k ns
theorem Good.tb_upd (G:Good c S H σ ρ fps) {p:Addr} (hp:p ∈ fps) {o:HO}:Tbs S (upd H p o):=G.tbs (fun a o' h n=>by
 rw [upd_ne fun e=>n (by rw [e]; exact hp)]
 exact h) fun a q=>.inl q
theorem Good.fre (G:Good c S H σ ρ fps) (f:Fre S H S' H'):Good c S' H' σ ρ fps∧Stp S H fps S' H' fps:=by
 refine ⟨⟨f.sh,G.rep.keep f.ss fun x hx=>?_,G.nd,fun a ha=>?_,G.tbs (fun a o h _=>f.hh a o h) fun a h=>(f.ns a h).elim .inl fun e=>.inr (.inr e)⟩,⟨f.ss,fun a o h _=>f.hh a o h,fun a h z=>h (f.hh.free z),fun a h=>.inl h,fun a h=>(f.ns a h).elim .inl fun e=>.inr (.inr e)⟩⟩
 ·cases q:H x with
  | none=>exact absurd q (G.there hx)
  | some o=>exact f.hh x o q
 ·cases q:S' a with
  | none=>rfl
  | some o=>
   rcases f.ns a (by rw [q]; exact fun z=>nomatch z) with z | z
   ·exact absurd (G.out a ha) z
   ·exact absurd z (G.there ha)
end
theorem z2N {S H:Hp} {D:Addr} {o o':HO} (t:Tbs S H) (hD:H D = some o') (h:NT o'∧NC D o'):Tbs S (upd H D o):=
 haveI:=h.1
 haveI:=h.2
 z6e t hD
end DL

namespace DL
variable [DL.Tbls]
open PySem PySem.Spec L2

abbrev EM (α:Type):=Rho→Option (α × Rho)
def q2M {α:Type} (a:α):EM α:=fun ρ=>some (a,ρ)
def eNo {α:Type}:EM α:=fun _=>none
def q0J {α β:Type} (f:EM α) (g:α→EM β):EM β:=fun ρ=>match f ρ with
 | some (a,ρ1)=>g a ρ1
 | none=>none
def q3a {α:Type} (o:Option α):EM α:=fun ρ=>match o with
 | some a=>some (a,ρ)
 | none=>none
theorem q0z {α β:Type} {f:EM α} {g:α→EM β} {ρ:Rho} {r:β × Rho} (h:q0J f g ρ = some r):∃ a ρ1,f ρ = some (a,ρ1)∧g a ρ1 = some r:=by
 unfold q0J at h
 split at h
 ·exact ⟨_,_,by assumption,h⟩
 ·cases h
theorem q1e {α:Type} {o:Option α} {ρ:Rho} {a:α} {ρ':Rho} (h:q3a o ρ = some (a,ρ')):o = some a∧ρ' = ρ:=by
 unfold q3a at h
 split at h
 ·cases h; exact ⟨rfl,rfl⟩
 ·cases h

def Go {α:Type} (c:Ct) (f:EM α) (σ:St) (S H:Hp) (post:α→Hp→Hp→Prop):Prop:=
 ∃ ρ fps a ρ',Good c S H σ ρ fps∧f ρ = some (a,ρ')∧∀ S' H' fps',Stp S H fps S' H' fps'→PinR ρ ρ'→Good c S' H' σ ρ' fps'→post a S' H'
section
variable {c:Ct} {σ:St} {S H:Hp} {α β:Type} {f:EM α}
theorem Go.mono {post post':α→Hp→Hp→Prop} (h:Go c f σ S H post) (k:∀ a S' H',Same S S'→post a S' H'→post' a S' H'):Go c f σ S H post':=by
 obtain ⟨ρ,fps,a,ρ',G,e,q⟩:=h
 exact ⟨ρ,fps,a,ρ',G,e,fun S' H' fps' st p G'=>k a S' H' st.ss (q S' H' fps' st p G')⟩
theorem Go.bind {g:α→EM β} {post:β→Hp→Hp→Prop} (h:Go c (q0J f g) σ S H post) :
  Go c f σ S H fun a S1 H1=>Go c (g a) σ S1 H1 fun b S2 H2=>Same S1 S2∧post b S2 H2:=by
 obtain ⟨ρ,fps,b,ρ2,G,e,q⟩:=h
 obtain ⟨a,ρ1,e1,e2⟩:=q0z e
 exact ⟨ρ,fps,a,ρ1,G,e1,fun S1 H1 fps1 st pin G1=>⟨ρ1,fps1,b,ρ2,G1,e2,fun S2 H2 fps2 st2 pin2 G2=>⟨st2.ss,q S2 H2 fps2 (st.trans st2) (pin.trans pin2) G2⟩⟩⟩
theorem Go.lift {o:Option α} {post:α→Hp→Hp→Prop} (h:Go c (q3a o) σ S H post):∃ a,o = some a∧Same S H∧∀ S' H',Fre S H S' H'→post a S' H':=by
 obtain ⟨ρ,fps,a,ρ',G,e,q⟩:=h
 obtain ⟨e1,e2⟩:=q1e e
 subst e2
 exact ⟨a,e1,G.ex,fun S' H' f=>q S' H' fps (G.fre f).2 (PinR.refl _) (G.fre f).1⟩
theorem Go.ret {a:α} {post:α→Hp→Hp→Prop} (h:Go c (q2M a) σ S H post):Same S H∧∀ S' H',Fre S H S' H'→post a S' H':=by
 obtain ⟨ρ,fps,a',ρ',G,e,q⟩:=h
 cases e
 exact ⟨G.ex,fun S' H' f=>q S' H' fps (G.fre f).2 (PinR.refl _) (G.fre f).1⟩
theorem Go.no {post:α→Hp→Hp→Prop} (h:Go c (eNo:EM α) σ S H post):False:=by
 obtain ⟨ρ,fps,a',ρ',G,e,q⟩:=h
 cases e
theorem Go.ex {post:α→Hp→Hp→Prop} (h:Go c f σ S H post):Same S H:=by
 obtain ⟨ρ,fps,a',ρ',G,e,q⟩:=h
 exact G.ex
end

def tD (c:Ct) (f:EM Dat):TE:=fun σ H Q=>∃ S,Go c f σ S H fun d S' H'=>∀ v,Rep c S' v d→Q v H'
def tT (c:Ct) (f:EM Bool):TT:=fun σ H Q=>∃ S,Go c f σ S H fun b _ H'=>Q b H'
def tA (c:Ct) (f:EM (List Dat)):TA:=fun σ H Q=>∃ S,Go c f σ S H fun ds S' H'=>∀ vs,Reps c S' vs ds→Q vs H'
def tC (c:Ct) (f:EM Cell):TE:=fun σ H Q=>∃ S ρ fps k ρ',Good c S H σ ρ fps∧f ρ = some (k,ρ') ∧
 ∀ v S' H' fps',Stp S H fps S' H' fps'→PinR ρ ρ'→Good c S' H' (some v :: σ) (some ⟨false,k⟩ :: ρ') fps'→Q v H'
abbrev XE (X:Cx) (e:Expr) (f:EM Dat):Prop:=PE X e (tD (ct X) f)
abbrev XT (X:Cx) (e:Expr) (f:EM Bool):Prop:=PT X e (tT (ct X) f)
abbrev XW (X:Cx) (e:Expr) (f:EM Bool):Prop:=PW X e (tT (ct X) f)
abbrev XA (X:Cx) (es:List Expr) (f:EM (List Dat)):Prop:=PA X es (tA (ct X) f)
abbrev XC (X:Cx) (e:Expr) (f:EM Cell):Prop:=PE X e (tC (ct X) f)

theorem _root_.L2.PE.imp {X:Cx} {e:Expr} {t t':TE} (h:PE X e t) (k:∀ σ H Q,t' σ H Q→t σ H Q):PE X e t':=⟨fun pins s σ H Q I q=>h.run pins s σ H Q I (k σ H Q q)⟩
theorem _root_.L2.PT.imp {X:Cx} {e:Expr} {t t':TT} (h:PT X e t) (k:∀ σ H Q,t' σ H Q→t σ H Q):PT X e t':=⟨fun pins s σ H Q I q=>h.run pins s σ H Q I (k σ H Q q)⟩
theorem _root_.L2.PW.imp {X:Cx} {e:Expr} {t t':TT} (h:PW X e t) (k:∀ σ H Q,t' σ H Q→t σ H Q):PW X e t':=⟨fun wh pins s σ H Q I q=>h.run wh pins s σ H Q I (k σ H Q q)⟩
theorem _root_.L2.PA.imp {X:Cx} {e:List Expr} {t t':TA} (h:PA X e t) (k:∀ σ H Q,t' σ H Q→t σ H Q):PA X e t':=⟨fun pos pins s σ H Q I q=>h.run pos pins s σ H Q I (k σ H Q q)⟩
theorem _root_.L2.PS.imp {X:Cx} {e:Stmt} {t t':TS} (h:PS X e t) (k:∀ D σ H,t' D σ H→t D σ H):PS X e t':=⟨fun pins s σ H D I q=>h.run pins s σ H D I (k D σ H q)⟩
theorem _root_.L2.PSs.imp {X:Cx} {e:List Stmt} {t t':TS} (h:PSs X e t) (k:∀ D σ H,t' D σ H→t D σ H):PSs X e t':=⟨fun pins s σ H D I q=>h.run pins s σ H D I (k D σ H q)⟩

section
variable {c:Ct} {σ:St} {H:Hp}
theorem tD.mono {f:EM Dat} {Q Q':VK} (h:tD c f σ H Q) (k:∀ v H',Q v H'→Q' v H'):tD c f σ H Q':=by
 obtain ⟨S,h⟩:=h
 exact ⟨S,h.mono fun d S' H' _ q v r=>k v H' (q v r)⟩

def q0i (i:Nat):EM Dat:=fun ρ=>match ρ[i]? with
 | some (some ⟨_,.atm (.im d)⟩)=>some (d,ρ)
 | _=>none
theorem x5C {i:Nat} {Q:VK} (h:tD c (q0i i) σ H Q):tVar i σ H Q:=by
 obtain ⟨S,ρ,fps,d,ρ',G,e,q⟩:=h
 unfold q0i at e
 split at e
 ·cases e
  rename_i b hi
  obtain ⟨v,l,fp,r,e1,e2,e3,_⟩:=G.rep.at hi
  refine ⟨v,e1,q S H fps (Stp.refl S H fps) (PinR.refl _) G v ?_⟩
  cases e3 with
  | atm h=>cases h with | im h=>exact h
 ·cases e
def eC (d:Dat):EM Dat:=q2M d
theorem x4U {v:V} {d:Dat} {Q:VK} (hr:∀ S,Rep c S v d) (h:tD c (eC d) σ H Q):L2.tC v σ H Q:=by
 obtain ⟨S,h⟩:=h
 obtain ⟨e,q⟩:=h.ret
 exact q S H (Fre.refl e) v (hr S)

def e1 (r:Dat→Option Dat) (f:EM Dat):EM Dat:=q0J f fun x=>q3a (r x)
def e2 (r:Dat→Dat→Option Dat) (f g:EM Dat):EM Dat:=q0J f fun x=>q0J g fun y=>q3a (r x y)
def evs:List (EM Dat)→EM (List Dat)
 | []=>q2M []
 | f :: fs=>q0J f fun d=>q0J (evs fs) fun ds=>q2M (d :: ds)
def eA (r:List Dat→Option Dat) (f:EM (List Dat)):EM Dat:=q0J f fun ds=>q3a (r ds)
theorem q8o {f:EM Dat} {r:Dat→Option Dat} {Q:VK} (h:tD c (e1 r f) σ H Q):tD c f σ H fun v H1=>∃ S x z,Same S H1∧Rep c S v x∧r x = some z∧∀ w S' H',Fre S H1 S' H'→Rep c S' w z→Q w H':=by
 obtain ⟨S,h⟩:=h
 refine ⟨S,h.bind.mono fun x S1 H1 _ q v rv=>?_⟩
 obtain ⟨z,e,ex,q⟩:=q.lift
 exact ⟨S1,x,z,ex,rv,e,fun w S' H' f r=>(q S' H' f).2 w r⟩
theorem z1r {f g:EM Dat} {r:Dat→Dat→Option Dat} {Q:VK} (h:tD c (e2 r f g) σ H Q) :
  tD c f σ H fun v H1=>tD c g σ H1 fun u H2=>∃ S x y z,Same S H2∧Rep c S v x∧Rep c S u y∧r x y = some z∧∀ w S' H',Fre S H2 S' H'→Rep c S' w z→Q w H':=by
 obtain ⟨S,h⟩:=h
 refine ⟨S,h.bind.mono fun x S1 H1 _ q v rv=>⟨S1,q.bind.mono fun y S2 H2 s2 q u ru=>?_⟩⟩
 obtain ⟨z,e,ex,q⟩:=q.lift
 exact ⟨S2,x,y,z,ex,rv.mono s2,ru,e,fun w S' H' f r=>(q S' H' f).2.2 w r⟩
theorem z6f {f:EM (List Dat)} {r:List Dat→Option Dat} {Q:VK} (h:tD c (eA r f) σ H Q):tA c f σ H fun vs H1=>∃ S ds z,Same S H1∧Reps c S vs ds∧r ds = some z∧∀ w S' H',Fre S H1 S' H'→Rep c S' w z→Q w H':=by
 obtain ⟨S,h⟩:=h
 refine ⟨S,h.bind.mono fun ds S1 H1 _ q vs rv=>?_⟩
 obtain ⟨z,e,ex,q⟩:=q.lift
 exact ⟨S1,ds,z,ex,rv,e,fun w S' H' f r=>(q S' H' f).2 w r⟩
end
def x5D (c:Ct) (r0:V→Hp→VK→Prop) (r:Dat→Option Dat):Prop:=∀ (S H:Hp) (v:V) (x z:Dat) (Q:VK),Same S H→Rep c S v x→r x = some z→(∀ w S' H',Fre S H S' H'→Rep c S' w z→Q w H')→r0 v H Q
def q2B (c:Ct) (r0:R2) (r:Dat→Dat→Option Dat):Prop:=∀ (S H:Hp) (v u:V) (x y z:Dat) (Q:VK),Same S H→Rep c S v x→Rep c S u y→r x y = some z→(∀ w S' H',Fre S H S' H'→Rep c S' w z→Q w H')→r0 v u H Q
def x2J (c:Ct) (r0:List V→Hp→VK→Prop) (r:List Dat→Option Dat):Prop:=∀ (S H:Hp) (vs:List V) (ds:List Dat) (z:Dat) (Q:VK),Same S H→Reps c S vs ds→r ds = some z→(∀ w S' H',Fre S H S' H'→Rep c S' w z→Q w H')→r0 vs H Q
section
variable {X:Cx} {a b e:Expr} {es:List Expr} {f g:EM Dat} {pos:Pos}
theorem q0a (i:Nat) {x:Str} (hN:X.N[i]? = some x:=by rfl) (hv:Vis X.env.scope x:=by first | exact Or.inl rfl | exact Or.inr (Or.inl rfl) | exact Or.inr (Or.inr rfl)) (hd:(x == ("__debug__":Str)) = false:=by decide)
  (hcd:(x == ("__classdict__":Str)) = false:=by decide):XE X (.Name x pos) (q0i i):=(pe_var (i:=i) hN hv hd hcd).imp fun _ _ _=>x5C
theorem q0k {i:Int} {j:Nat}:XE X (.Constant (.int i) j pos) (eC (.int i)):=pe_int.imp fun _ _ _=>x4U fun _=>.int i
theorem q0P {x:Str} {j:Nat}:XE X (.Constant (.str x) j pos) (eC (.str x)):=pe_str.imp fun _ _ _=>x4U fun _=>.str x
theorem q7N {x:Bool} {j:Nat}:XE X (.Constant (.bool x) j pos) (eC (.bl x)):=pe_bl.imp fun _ _ _=>x4U fun _=>.bl x
theorem q3h {j:Nat}:XE X (.Constant .none j pos) (eC .non):=pe_non.imp fun _ _ _=>x4U fun _=>.non
theorem q5A {x:Str} {v:V} {d:Dat} (hr:∀ S,Rep (ct X) S v d) (h:PE X (.Name x pos) (L2.tC v)):XE X (.Name x pos) (eC d):=h.imp fun _ _ _=>x4U hr
theorem q1f {op:Operator} {r0:R2} {r:Dat→Dat→Option Dat} (ho:OpR X (binaryOp op) r0) (hp:q2B (ct X) r0 r) (ha:XE X a f) (hb:XE X b g):XE X (.BinOp a op b pos) (e2 r f g):=
 (pe_op ho ha hb).imp fun _ _ _ h=>(z1r h).mono fun _ _ h=>h.mono fun _ _ ⟨S,x,y,z,ex,rx,ry,e,q⟩=>hp S _ _ _ x y z _ ex rx ry e q
theorem z9b {op:UnaryOp} {r0:V→Hp→VK→Prop} {r:Dat→Option Dat} (ho:UnR X (unaryOp op) r0) (hp:x5D (ct X) r0 r) (ha:XE X a f):XE X (.UnaryOp op a pos) (e1 r f):=
 (pe_un ho ha).imp fun _ _ _ h=>(q8o h).mono fun _ _ ⟨S,x,z,ex,rx,e,q⟩=>hp S _ _ x z _ ex rx e q
theorem q5B {op:CmpOp} {r0:R2} {r:Dat→Dat→Option Dat} (ho:OpR X (compareOp op) r0) (hp:q2B (ct X) r0 r) (ha:XE X a f) (hb:XE X b g) (hm:behindInMarks op b = false):XE X (.Compare a [op] [b] pos) (e2 r f g):=
 (pe_cmpR ho ha hb hm).imp fun _ _ _ h=>(z1r h).mono fun _ _ h=>h.mono fun _ _ ⟨S,x,y,z,ex,rx,ry,e,q⟩=>hp S _ _ _ x y z _ ex rx ry e q
theorem q1D {r0:R2} {r:Dat→Dat→Option Dat} (hi:IxR X r0) (hp:q2B (ct X) r0 r) (ha:XE X a f) (hb:XE X b g) (hs:PlainIx b:=by exact fun _ _=>rfl):XE X (.Subscript a b pos) (e2 r f g):=
 (pe_ix hi ha hb hs).imp fun _ _ _ h=>(z1r h).mono fun _ _ h=>h.mono fun _ _ ⟨S,x,y,z,ex,rx,ry,e,q⟩=>hp S _ _ _ x y z _ ex rx ry e q

theorem q0c:XA X [] (evs []):=pa_nil.imp fun σ H Q ⟨S,h⟩=>by
 obtain ⟨e,q⟩:=h.ret
 exact q S H (Fre.refl e) [] .nil
theorem tA.mono {c:Ct} {σ:St} {H:Hp} {f:EM (List Dat)} {Q Q':List V→Hp→Prop} (h:tA c f σ H Q) (k:∀ v H',Q v H'→Q' v H'):tA c f σ H Q':=by
 obtain ⟨S,h⟩:=h
 exact ⟨S,h.mono fun d S' H' _ q v r=>k v H' (q v r)⟩
def z5l (f:EM Dat) (t:EM (List Dat)):EM (List Dat):=q0J f fun d=>q0J t fun ds=>q2M (d :: ds)
theorem q7W {t:EM (List Dat)} (ha:XE X e f) (hr:XA X es t) (hs:starEach (e :: es) X.env = (false,eval e X.env) :: starEach es X.env:=by rfl):XA X (e :: es) (z5l f t):=
 (pa_cons ha hr hs).imp fun σ H Q ⟨S,h⟩=>⟨S,h.bind.mono fun x S1 H1 _ q v rv=>⟨S1,q.bind.mono fun ds S2 H2 s2 q vs rvs=>by
  obtain ⟨ex,q⟩:=q.ret
  exact (q S2 H2 (Fre.refl ex)).2.2 _ (.cons (rv.mono s2) rvs)⟩⟩
theorem q0b {fs:List (EM Dat)} (ha:XE X e f) (hr:XA X es (evs fs)) (hs:starEach (e :: es) X.env = (false,eval e X.env) :: starEach es X.env:=by rfl):XA X (e :: es) (evs (f :: fs)):=q7W ha hr hs
theorem q1p {x:Str} {p:Pos} {id:String} {r0:List V→Hp→VK→Prop} {r:List Dat→Option Dat} {t:EM (List Dat)} (hc:CallR X (.builtin id) r0) (hp:x2J (ct X) r0 r) (hg:Gl X x) (hm:X.mg x = none) (hv:bootBuiltins x = some (.builtin id)) (ha:XA X (e :: es) t) (hn:x ≠ "__name__":=by decide) (hdb:(x == ("__debug__":Str)) = false:=by decide)
  (he:starEach (e :: es) X.env = (false,eval e X.env) :: starEach es X.env:=by rfl) (hpl:(backTo pos (starEach es X.env)).any (·.1) = false:=by rfl):XE X (.Call (.Name x p) (e :: es) [] pos) (eA r t):=
 (pe_callB hc hg hm hv ha hn hdb he hpl).imp fun _ _ _ h=>(z6f h).mono fun _ _ ⟨S,ds,z,ex,rx,e,q⟩=>hp S _ _ ds z _ ex rx e q
theorem q1i {x:Str} {p:Pos} {T:String} {r0:List V→Hp→VK→Prop} {r:List Dat→Option Dat} {t:EM (List Dat)} (hc:CallR X (.type T) r0) (hp:x2J (ct X) r0 r) (hg:Gl X x) (hm:X.mg x = none) (hv:bootBuiltins x = some (.type T)) (ha:XA X (e :: es) t) (hn:x ≠ "__name__":=by decide) (hdb:(x == ("__debug__":Str)) = false:=by decide)
  (he:starEach (e :: es) X.env = (false,eval e X.env) :: starEach es X.env:=by rfl) (hpl:(backTo pos (starEach es X.env)).any (·.1) = false:=by rfl):XE X (.Call (.Name x p) (e :: es) [] pos) (eA r t):=
 (pe_callTy hc hg hm hv ha hn hdb he hpl).imp fun _ _ _ h=>(z6f h).mono fun _ _ ⟨S,ds,z,ex,rx,e,q⟩=>hp S _ _ ds z _ ex rx e q

def eBl:Dat→Option Bool
 | .bl b=>some b
 | _=>none
def eT (f:EM Dat):EM Bool:=q0J f fun d=>q3a (eBl d)
theorem z6g {c:Ct} {σ:St} {H:Hp} {Q:Bool→Hp→Prop} (h:tT c (eT f) σ H Q):tD c f σ H fun x H'=>∃ k,x = .bl k∧Q k H':=by
 obtain ⟨S,h⟩:=h
 refine ⟨S,h.bind.mono fun d S1 H1 _ q v rv=>?_⟩
 obtain ⟨k,e,ex,q2⟩:=q.lift
 cases d with
 | bl b=>
  cases e
  cases rv
  exact ⟨_,rfl,(q2 S1 H1 (Fre.refl ex)).2⟩
 | _=>cases e
theorem q2S (h:XE X e f) (he:∀ whole,isTrue e X.env whole = (do let v ← whole; standAt e.pos; holding [v] (truthy v)):=by intro _; rfl):XT X e (eT f):=(pt_val h he).imp fun _ _ _ h=>z6g h
theorem q0L {op:CmpOp} {r0:R2} {r:Dat→Dat→Option Dat} (ho:OpR X (compareOp op) r0) (hp:q2B (ct X) r0 r) (ha:XE X a f) (hb:XE X b g) (hm:behindInMarks op b = false):XT X (.Compare a [op] [b] pos) (eT (e2 r f g)):=
 (pt_cmpR ho ha hb hm).imp fun _ _ _ h=>(z1r (z6g h)).mono fun _ _ h=>h.mono fun _ _ ⟨S,x,y,z,ex,rx,ry,e,q⟩=>hp S _ _ _ x y z _ ex rx ry e q
variable {rest:List Expr} {s t:EM Bool}
def z0m (s t:EM Bool):EM Bool:=q0J s fun b=>if b = true then t else q2M false
def q9t (s t:EM Bool):EM Bool:=q0J s fun b=>if b = true then q2M true else t
def q4P (s:EM Bool):EM Bool:=q0J s fun b=>q2M (!b)
theorem q8p (ha:XT X a s):XW X (.BoolOp .And [a] pos) s:=pw_and1 ha
theorem q4r (ha:XT X a s):XW X (.BoolOp .Or [a] pos) s:=pw_or1 ha
theorem q9E (ha:XT X a s) (hb:XW X (.BoolOp .And (b :: rest) pos) t):XW X (.BoolOp .And (a :: b :: rest) pos) (z0m s t):=
 (pw_and ha hb).imp fun σ H Q ⟨S,h⟩=>⟨S,h.bind.mono fun k S1 H1 _ q=>by
  cases k with
  | true=>
   show tT (ct X) t σ H1 Q
   exact ⟨S1,(show Go (ct X) t σ S1 H1 _ from q).mono fun _ _ _ _ z=>z.2⟩
  | false=>
   show Q false H1
   obtain ⟨ex,q⟩:=(show Go (ct X) (q2M false) σ S1 H1 _ from q).ret
   exact (q S1 H1 (Fre.refl ex)).2⟩
theorem q5s (ha:XT X a s) (hb:XW X (.BoolOp .Or (b :: rest) pos) t):XW X (.BoolOp .Or (a :: b :: rest) pos) (q9t s t):=
 (pw_or ha hb).imp fun σ H Q ⟨S,h⟩=>⟨S,h.bind.mono fun k S1 H1 _ q=>by
  cases k with
  | false=>
   show tT (ct X) t σ H1 Q
   exact ⟨S1,(show Go (ct X) t σ S1 H1 _ from q).mono fun _ _ _ _ z=>z.2⟩
  | true=>
   show Q true H1
   obtain ⟨ex,q⟩:=(show Go (ct X) (q2M true) σ S1 H1 _ from q).ret
   exact (q S1 H1 (Fre.refl ex)).2⟩
theorem q3u (ha:XT X a s):XT X (.UnaryOp .Not a pos) (q4P s):=
 (pt_not ha).imp fun σ H Q ⟨S,h⟩=>⟨S,h.bind.mono fun k S1 H1 _ q=>by
  obtain ⟨ex,q⟩:=q.ret
  exact (q S1 H1 (Fre.refl ex)).2⟩
def z3R (f g:EM Dat):EM Dat:=q0J f fun d=>match d with
 | .bl true=>g
 | .bl false=>q2M (.bl false)
 | _=>eNo
def eOr (f g:EM Dat):EM Dat:=q0J f fun d=>match d with
 | .bl false=>g
 | .bl true=>q2M (.bl true)
 | _=>eNo
def x8s (f:EM Dat):EM Dat:=e1 (fun d=>match d with | .bl b=>some (.bl (!b)) | _=>none) f
theorem q6c {op:BoolOp} (h:XE X a f):XE X (.BoolOp op [a] pos) f:=pe_one h
theorem q5C (ha:XE X a f) (hb:XE X (.BoolOp .And (b :: rest) pos) g):XE X (.BoolOp .And (a :: b :: rest) pos) (z3R f g):=
 (pe_and ha hb).imp fun σ H Q ⟨S,h⟩=>⟨S,h.bind.mono fun d S1 H1 _ q v rv=>by
  cases d with
  | bl k=>
   cases rv
   cases k with
   | true=>exact ⟨true,rfl,S1,(show Go (ct X) g σ S1 H1 _ from q).mono fun _ _ _ _ z=>z.2⟩
   | false=>
    obtain ⟨ex,q⟩:=(show Go (ct X) (q2M (Dat.bl false)) σ S1 H1 _ from q).ret
    exact ⟨false,rfl,(q S1 H1 (Fre.refl ex)).2 _ (.bl false)⟩
  | _=>exact (Go.no q).elim⟩
theorem x8R (ha:XE X a f) (hb:XE X (.BoolOp .Or (b :: rest) pos) g):XE X (.BoolOp .Or (a :: b :: rest) pos) (eOr f g):=
 (pe_or ha hb).imp fun σ H Q ⟨S,h⟩=>⟨S,h.bind.mono fun d S1 H1 _ q v rv=>by
  cases d with
  | bl k=>
   cases rv
   cases k with
   | false=>exact ⟨false,rfl,S1,(show Go (ct X) g σ S1 H1 _ from q).mono fun _ _ _ _ z=>z.2⟩
   | true=>
    obtain ⟨ex,q⟩:=(show Go (ct X) (q2M (Dat.bl true)) σ S1 H1 _ from q).ret
    exact ⟨true,rfl,(q S1 H1 (Fre.refl ex)).2 _ (.bl true)⟩
  | _=>exact (Go.no q).elim⟩
theorem x5E (ha:XE X a f):XE X (.UnaryOp .Not a pos) (x8s f):=
 (pe_not ha).imp fun _ _ _ h=>(q8o h).mono fun v H1 ⟨S,x,z,ex,rx,e,q⟩=>by
  cases x with
  | bl b=>cases rx; cases e; exact ⟨b,rfl,q _ S H1 (Fre.refl ex) (.bl _)⟩
  | _=>cases e
def eIf (s:EM Bool) (f g:EM Dat):EM Dat:=q0J s fun b=>if b = true then f else g
theorem z0n {q:Expr} (hc:XT X q s) (ha:XE X a f) (hb:XE X b g):XE X (.IfExp q a b pos) (eIf s f g):=
 (pe_ifExp hc ha hb).imp fun σ H Q ⟨S,h⟩=>⟨S,h.bind.mono fun k S1 H1 _ q=>by
  cases k with
  | true=>exact ⟨S1,(show Go (ct X) f σ S1 H1 _ from q).mono fun _ _ _ _ z=>z.2⟩
  | false=>exact ⟨S1,(show Go (ct X) g σ S1 H1 _ from q).mono fun _ _ _ _ z=>z.2⟩⟩
def q7v (r r':Dat→Dat→Option Dat) (f g h:EM Dat):EM Dat:=q0J f fun x=>q0J g fun y=>q0J (q3a (r x y)) fun z=>match z with
 | .bl true=>q0J h fun w=>q3a (r' y w)
 | .bl false=>q2M (.bl false)
 | _=>eNo
end
end DL

namespace DL
variable [DL.Tbls]
open PySem PySem.Spec L2

def Atom.frz:Atom→Dat
 | .im d=>d
 | .ol ds=>.lst ds
 | .od ks ds=>.dic ks ds
 | .ok ks ds=>.dix ks ds
def Cell.frz:Cell→Dat
 | .atm a=>a.frz
 | .li as=>.lst (as.map Atom.frz)
 | .di ks as=>.dic ks (as.map Atom.frz)
 | .oi c fs as=>.ins c fs (as.map Atom.frz)
 | .dk ks as=>.dix ks (as.map Atom.frz)
def ovl (S H:Hp) (fp:List Addr):Hp:=fun a=>if a ∈ fp then H a else S a
theorem z1s {S H:Hp} {fp:List Addr} {a:Addr} (h:a ∈ fp):ovl S H fp a = H a:=if_pos h
theorem q4Z {S H:Hp} {fp:List Addr} {a:Addr} (h:a ∉ fp):ovl S H fp a = S a:=if_neg h
section
variable {c:Ct} {S H:Hp}
theorem q4s {fp:List Addr} (o:∀ a ∈ fp,S a = none):Same S (ovl S H fp):=fun b x e=>by
 rw [q4Z fun h=>by rw [o b h] at e; cases e]
 exact e
theorem q7X {fp:List Addr} (e:Same S H):Same (ovl S H fp) H:=fun b x q=>by
 by_cases h:b ∈ fp
 ·rw [z1s h] at q; exact q
 ·rw [q4Z h] at q; exact e b x q
theorem RepA.frz {S2:Hp} (e:Same S S2) {v:V} {a:Atom} {fp:List Addr} (h:RepA c S H v a fp) (k:∀ x ∈ fp,S2 x = H x):Rep c S2 v a.frz:=by
 cases h with
 | im h=>exact h.mono e
 | ol h1 h2=>exact .lst (.inl ((k _ (Q0t.mpr rfl)).trans h1)) (h2.mono e)
 | od h1 h2 h3=>exact .dic (.inl ((k _ (Q0t.mpr rfl)).trans h1)) h2 (h3.mono e)
 | ok h1 h2 h3 h4=>exact .dix (.inl ((k _ (Q0t.mpr rfl)).trans h1)) (h2.mono e) h3 (h4.mono e)
theorem RepAs.frz {S2:Hp} (e:Same S S2) {vs:List V} {as:List Atom} {fp:List Addr} (h:RepAs c S H vs as fp):(∀ x ∈ fp,S2 x = H x)→Reps c S2 vs (as.map Atom.frz):=by
 induction h with
 | nil=>exact fun _=>.nil
 | cons h1 _ ih=>exact fun k=>.cons (h1.frz e fun x hx=>k x (Q0q _ hx)) (ih fun x hx=>k x (Q0l _ hx))
theorem RepC.frz {S2:Hp} (e:Same S S2) {v:V} {a:Cell} {fp:List Addr} (h:RepC c S H v a fp) (k:∀ x ∈ fp,S2 x = H x):Rep c S2 v a.frz:=by
 cases h with
 | atm h=>exact h.frz e k
 | li h1 h2=>exact .lst (.inl ((k _ Q0g).trans h1)) (h2.frz e fun x hx=>k x (Q0h _ hx))
 | di h1 h2 h3=>exact .dic (.inl ((k _ Q0g).trans h1)) h2 (h3.frz e fun x hx=>k x (Q0h _ hx))
 | oi h0 h1 h2 h3=>exact .ins h0 ((k _ Q0g).trans h1) h2 (h3.frz e fun x hx=>k x (Q0h _ hx))
 | dk h1 h2 h3 h4=>exact .dix (.inl ((k _ Q0g).trans h1)) (h2.mono e) h3 (h4.frz e fun x hx=>k x (Q0h _ hx))
def Slot.frz (s:Slot):Slot:=⟨s.pin,.atm (.im s.cell.frz)⟩
def z8S (ρ:Rho):Rho:=ρ.map fun o=>o.map Slot.frz
theorem RepS.frz {S2:Hp} (e:Same S S2) {σ:St} {ρ:Rho} {fp:List Addr} (h:RepS c S H σ ρ fp):(∀ x ∈ fp,S2 x = H x)→RepS c S2 H σ (z8S ρ) []:=by
 induction h with
 | nil=>exact fun _=>.nil
 | non _ ih=>exact fun k=>.non (ih k)
 | con h1 _ ih=>exact fun k=>.con (fp:=[]) (.atm (.im (h1.frz e fun x hx=>k x (Q0q _ hx)))) (ih fun x hx=>k x (Q0l _ hx))
end

theorem x5F {f l m r:List Addr} (h:(f ++ (l ++ (m ++ r))).Nodup):(l ++ (f ++ r)).Nodup:=by
 simp only [Q0E,Q0k] at h ⊢
 grind
section
variable {c:Ct} {S H:Hp} {σ:St} {ρ:Rho} {fps:List Addr}
theorem Good.frz1 {v:V} {b:Bool} {k:Cell} (G:Good c S H (some v :: σ) (some ⟨b,k⟩ :: ρ) fps):∃ S' fps',Rep c S' v k.frz∧Good c S' H σ ρ fps'∧Stp S H fps S' H fps':=by
 have nt:=G.rep.nt
 obtain ⟨ex,rep,nd,out,tb⟩:=G
 cases rep with
 | @con v b k σ ρ fp f2 h1 h2=>
  have o1:∀ a ∈ fp,S a = none:=fun a ha=>out a (Q0q _ ha)
  have n2:=Q0E.mp nd
  refine ⟨ovl S H fp,f2,h1.frz (q4s o1) fun x hx=>z1s hx,⟨q7X ex,h2.keep (q4s o1) fun _ _=>rfl,n2.2.1,fun a ha=>?_,q4q tb nt (fun a o h _=>h) fun a h=>by
   by_cases z:a ∈ fp
   ·exact .inr (.inl (Q0q _ z))
   ·rw [q4Z z] at h; exact .inl h⟩,⟨q4s o1,fun a o h _=>h,fun a h=>h,fun a h=>.inl (Q0l _ h),fun a h=>?_⟩⟩
  ·rw [q4Z fun z=>n2.2.2 a z a ha rfl]
   exact out a (Q0l _ ha)
  ·by_cases z:a ∈ fp
   ·exact .inr (.inl (Q0q _ z))
   ·rw [q4Z z] at h; exact .inl h
theorem Good.push {v:V} {s:Slot} (G:Good c S H (some v :: σ) (some s :: ρ) fps):∃ fp f2,fps = fp ++ f2∧Good c S H σ ρ f2 ∧
  ∀ (S2 H2:Hp) (σ2:St) (ρ2:Rho) (f3:List Addr),Stp S H f2 S2 H2 f3→Good c S2 H2 σ2 ρ2 f3→Good c S2 H2 (some v :: σ2) (some s :: ρ2) (fp ++ f3)∧Stp S H fps S2 H2 (fp ++ f3):=by
 have nt:=G.rep.nt
 obtain ⟨ex,rep,nd,out,tb⟩:=G
 cases rep with
 | @con v b k σ ρ fp f2 h1 h2=>
  have n2:=Q0E.mp nd
  have th:=h1.there
  refine ⟨fp,f2,rfl,⟨ex,h2,n2.2.1,fun a ha=>out a (Q0l _ ha),tb⟩,fun S2 H2 σ2 ρ2 f3 st G2=>⟨⟨G2.ex,.con (h1.keep st.ss fun x hx=>?_) G2.rep,?_,fun a ha=>?_,G2.tb⟩,⟨st.ss,fun a o h n=>st.fr a o h fun z=>n (Q0l _ z),st.dom,fun a ha=>?_,fun a h=>?_⟩⟩⟩
  ·cases q:H x with
   | none=>exact absurd q (th x hx)
   | some o=>
    haveI:=(nt x (Q0q _ hx) o q).1
    exact st.fr x o q fun z=>n2.2.2 x hx x z rfl
  ·refine Q0E.mpr ⟨n2.1,G2.nd,fun a ha b hb e=>?_⟩
   subst e
   rcases st.nf a hb with z | z
   ·exact n2.2.2 a ha a z rfl
   ·exact th a ha z
  ·rcases Q0k.mp ha with ha | ha
   ·cases q:S2 a with
    | none=>rfl
    | some o=>
     rcases st.ns a (by rw [q]; exact fun z=>nomatch z) with z | z | z
     ·exact absurd (out a (Q0q _ ha)) z
     ·exact absurd rfl (n2.2.2 a ha a z)
     ·exact absurd z (th a ha)
   ·exact G2.out a ha
  ·rcases Q0k.mp ha with ha | ha
   ·exact .inl (Q0q _ ha)
   ·exact (st.nf a ha).elim (fun z=>.inl (Q0l _ z)) .inr
  ·rcases st.ns a h with z | z | z
   ·exact .inl z
   ·exact .inr (.inl (Q0l _ z))
   ·exact .inr (.inr z)
theorem Good.alloc (G:Good c S H σ ρ fps) {p:Addr} {o:HO} (h:H p = none) {k:Cell} (r:RepC c S (upd H p o) (.ref p) k [p]) :
  Good c S (upd H p o) (some (.ref p) :: σ) (some ⟨false,k⟩ :: ρ) ([p] ++ fps)∧Stp S H fps S (upd H p o) ([p] ++ fps):=by
 have ne:∀ x ∈ fps,x ≠ p:=fun x hx e=>by subst e; exact G.there hx h
 refine ⟨⟨G.ex.trans (q2i h),.con r (G.rep.keep (Same.refl S) fun x hx=>upd_ne (ne x hx)),?_,fun a ha=>?_,G.tbs (fun a o' q _=>q2i h a o' q) fun a q=>.inl q⟩,⟨Same.refl S,fun a o' q _=>q2i h a o' q,fun a q z=>q ((q2i h).free z),fun a ha=>?_,fun a q=>.inl q⟩⟩
 ·exact Q0P.mpr ⟨fun z=>ne p z rfl,G.nd⟩
 ·rcases Q0k.mp ha with ha | ha
  ·rw [Q0t.mp ha]; exact G.ex.free h
  ·exact G.out a ha
 ·rcases Q0k.mp ha with ha | ha
  ·rw [Q0t.mp ha]; exact .inr h
  ·exact .inl ha
theorem z2O (G:Good c S H σ ρ fps):Tbs (ovl S H fps) H:=G.tbs (fun a o h _=>h) fun a h=>by
 by_cases z:a ∈ fps
 ·exact .inr (.inl z)
 ·rw [q4Z z] at h; exact .inl h
theorem Good.under {S1 S' H':Hp} {σ1:St} {ρ1:Rho} {f':List Addr} (G:Good c S H σ ρ fps) (ov:Same S S1) (st:Stp S1 H [] S' H' f') (G':Good c S' H' σ1 ρ1 f'):Good c S H' σ ρ fps∧Stp S H fps S H' fps:=by
 have ss:Same S S':=ov.trans st.ss
 refine ⟨⟨ss.trans G'.ex,G.rep.keep (Same.refl S) fun x hx=>?_,G.nd,G.out,G'.tb.sub (x2H ss)⟩,⟨Same.refl S,fun a o h _=>st.fr a o h (fun z=>(nomatch z)),st.dom,fun a h=>.inl h,fun a h=>.inl h⟩⟩
 cases q:H x with
 | none=>exact absurd q (G.there hx)
 | some o=>
  haveI:=G.nt hx q
  exact st.fr x o q fun z=>nomatch z
theorem Good.put0 (G:Good c S H σ ρ fps) {v:V} {d:Dat} (r:Rep c S v d):Good c S H (some v :: σ) (some ⟨false,.im d⟩ :: ρ) fps:=
 ⟨G.ex,.con (fp:=[]) (.atm (.im r)) G.rep,G.nd,G.out,G.tb⟩
end

def eIm (f:EM Dat):EM Cell:=q0J f fun d=>q2M (.im d)
def q1d (f:EM Cell):EM Dat:=q0J f fun k=>q2M k.frz
section
variable {c:Ct} {σ:St} {H:Hp}
theorem tC.mono {f:EM Cell} {Q Q':VK} (h:tC c f σ H Q) (k:∀ v H',Q v H'→Q' v H'):tC c f σ H Q':=by
 obtain ⟨S,ρ,fps,a,ρ',G,e,q⟩:=h
 exact ⟨S,ρ,fps,a,ρ',G,e,fun v S' H' fps' st pin G'=>k v H' (q v S' H' fps' st pin G')⟩
theorem x2K {f:EM Dat} {Q:VK} (h:tC c (eIm f) σ H Q):tD c f σ H Q:=by
 obtain ⟨S,ρ,fps,k,ρ',G,e,q⟩:=h
 obtain ⟨d,ρ1,e1,e2⟩:=q0z e
 cases e2
 exact ⟨S,ρ,fps,d,ρ',G,e1,fun S' H' fps' st pin G' v r=>q v S' H' fps' st pin (G'.put0 r)⟩
theorem z6h {f:EM Cell} {Q:VK} (h:tD c (q1d f) σ H Q):tC c f σ H Q:=by
 obtain ⟨S,ρ,fps,d,ρ',G,e,q⟩:=h
 obtain ⟨k,ρ1,e1,e2⟩:=q0z e
 cases e2
 refine ⟨S,ρ,fps,k,ρ',G,e1,fun v S' H' fps' st pin G'=>?_⟩
 obtain ⟨S2,f2,r,G2,st2⟩:=G'.frz1
 exact q S2 H' f2 (st.trans st2) pin G2 v r
def Dat.flat:Dat→Bool
 | .non | .bl _ | .int _ | .str _=>true
 | _=>false
def q8q (f:EM Dat):EM Dat:=fun ρ=>match f (z8S ρ) with
 | some (d,_)=>if d.flat = true then some (d,ρ) else none
 | none=>none
theorem z9c {S S':Hp} {v:V} {d:Dat} (h:Rep c S v d) (hf:d.flat = true):Rep c S' v d:=by
 cases h with
 | non=>exact .non
 | bl b=>exact .bl b
 | int i=>exact .int i
 | str x=>exact .str x
 | _=>exact absurd hf (by intro z; cases z)
theorem x2L {f:EM Dat} {Q:VK} (h:tD c (q8q f) σ H Q):tD c f σ H Q:=by
 obtain ⟨S,ρ,fps,d,ρ',G,e,q⟩:=h
 unfold q8q at e
 split at e
 ·rename_i d' ρv hf
  split at e
  ·rename_i hfl
   cases e
   have ov:=q4s (H:=H) (S:=S) (fp:=fps) G.out
   refine ⟨ovl S H fps,z8S ρ,[],_,ρv,⟨q7X G.ex,G.rep.frz ov fun x hx=>z1s hx,Q1B,fun a ha=>(nomatch ha),z2O G⟩,hf,fun S' H' fps' st pin G' v r=>?_⟩
   have G2:=G.under ov st G'
   exact q S H' fps G2.2 (PinR.refl _) G2.1 v (z9c r hfl)
  ·cases e
 ·cases e
def q6v (f:EM Bool):EM Bool:=fun ρ=>match f (z8S ρ) with
 | some (b,_)=>some (b,ρ)
 | none=>none
theorem x2M {f:EM Bool} {Q:Bool→Hp→Prop} (h:tT c (q6v f) σ H Q):tT c f σ H Q:=by
 obtain ⟨S,ρ,fps,d,ρ',G,e,q⟩:=h
 unfold q6v at e
 split at e
 ·rename_i d' ρv hf
  cases e
  have ov:=q4s (H:=H) (S:=S) (fp:=fps) G.out
  refine ⟨ovl S H fps,z8S ρ,[],_,ρv,⟨q7X G.ex,G.rep.frz ov fun x hx=>z1s hx,Q1B,fun a ha=>(nomatch ha),z2O G⟩,hf,fun S' H' fps' st pin G'=>?_⟩
  have G2:=G.under ov st G'
  exact q S H' fps G2.2 (PinR.refl _) G2.1
 ·cases e
end
section
variable {X:Cx} {e:Expr} {es:List Expr} {pos:Pos}
theorem q0v {f:EM Dat} (h:XE X e f):XC X e (eIm f):=h.imp fun _ _ _=>x2K
theorem q0m {f:EM Cell} (h:XC X e f):XE X e (q1d f):=h.imp fun _ _ _=>z6h
theorem q6S {f:EM Dat} (h:XE X e f):XE X e (q8q f):=h.imp fun _ _ _=>x2L
theorem z0o {f:EM Bool} (h:XT X e f):XT X e (q6v f):=h.imp fun _ _ _=>x2M
def eOl (t:EM (List Dat)):EM Cell:=q0J t fun ds=>if ds.length ≤ 100000 then q2M (.ol ds) else eNo
theorem q8r {n:Nat} (h:n ≤ 100000):n ≤ sizeLine:=Q0S h (by decide)
theorem q9F {n:Nat} (h:n < 100000):n < sizeLine:=Q1y h (by decide)
theorem z1t {c:Ct} {σ:St} {H:Hp} {t:EM (List Dat)} {g:List Dat→EM Cell} {Q:VK} (h:tC c (q0J t g) σ H Q):tA c t σ H fun vs H1=>∃ S ds ρ fps k ρ',Good c S H1 σ ρ fps∧Reps c S vs ds∧g ds ρ = some (k,ρ') ∧
  ∀ v S' H' fps',Stp S H1 fps S' H' fps'→PinR ρ ρ'→Good c S' H' (some v :: σ) (some ⟨false,k⟩ :: ρ') fps'→Q v H':=by
 obtain ⟨S,ρ,fps,k,ρ',G,e,q⟩:=h
 obtain ⟨ds,ρ1,e1,e2⟩:=q0z e
 exact ⟨S,ρ,fps,ds,ρ1,G,e1,fun S1 H1 fps1 st pin G1 vs r=>⟨S1,ds,ρ1,fps1,k,ρ',G1,r,e2,fun v S' H' fps' st2 pin2 G2=>q v S' H' fps' (st.trans st2) (pin.trans pin2) G2⟩⟩
theorem x1A {c:Ct} {σ:St} {H:Hp} {t:EM Dat} {g:Dat→EM Cell} {Q:VK} (h:tC c (q0J t g) σ H Q):tD c t σ H fun v0 H1=>∃ S d ρ fps k ρ',Good c S H1 σ ρ fps∧Rep c S v0 d∧g d ρ = some (k,ρ') ∧
  ∀ v S' H' fps',Stp S H1 fps S' H' fps'→PinR ρ ρ'→Good c S' H' (some v :: σ) (some ⟨false,k⟩ :: ρ') fps'→Q v H':=by
 obtain ⟨S,ρ,fps,k,ρ',G,e,q⟩:=h
 obtain ⟨ds,ρ1,e1,e2⟩:=q0z e
 exact ⟨S,ρ,fps,ds,ρ1,G,e1,fun S1 H1 fps1 st pin G1 vs r=>⟨S1,ds,ρ1,fps1,k,ρ',G1,r,e2,fun v S' H' fps' st2 pin2 G2=>q v S' H' fps' (st.trans st2) (pin.trans pin2) G2⟩⟩
theorem q2T {t:EM (List Dat)} (h:XA X es t):XC X (.List es pos) (eOl t):=
 (pe_lst h).imp fun σ H Q q=>(z1t q).mono fun vs H1 ⟨S,ds,ρ,fps,k,ρ',G,r,e,q⟩=>by
  split at e
  ·rename_i hl
   cases e
   refine ⟨by rw [r.length]; exact q8r hl,fun p hp=>?_⟩
   obtain ⟨G2,st2⟩:=G.alloc hp (.atm (.ol upd_same r))
   exact q _ _ _ _ st2 (PinR.refl _) G2
  ·cases e
def z1n (t:EM (List Dat)):EM Dat:=eA (fun ds=>if ds.length ≤ 100000 then some (.tup ds) else none) t
theorem q3Z {x1:Nat} {t:EM (List Dat)} (h:XA X es t):XE X (.Tuple es x1 pos) (z1n t):=
 (pe_tup h).imp fun σ H Q q=>(z6f q).mono fun vs H1 ⟨S,ds,z,ex,r,e,q⟩=>by
  split at e
  ·rename_i hl
   cases e
   refine ⟨by rw [r.length]; exact q8r hl,fun p hp=>?_⟩
   have f:=Fre.new (o:=.tup vs) ex hp
   exact q _ _ _ f (.tup (SqT.of upd_same) (r.mono f.ss))
  ·cases e
end

inductive Flw where
 | nx (ρ:Rho) | rt (k:Cell) (ρ:Rho) | bk (ρ:Rho) | ct (ρ:Rho)
abbrev SD:=Rho→Option Flw
def Pins (ρ:Rho) (σ:St) (ρ':Rho) (σ':St):Prop:=PinR ρ ρ'∧∀ (i:Nat) s,ρ[i]? = some (some s)→s.pin = true→σ'[i]? = σ[i]?
theorem Pins.refl (ρ:Rho) (σ:St):Pins ρ σ ρ σ:=⟨.refl ρ,fun _ _ _ _=>rfl⟩
theorem Pins.of {ρ ρ':Rho} (σ:St) (h:PinR ρ ρ'):Pins ρ σ ρ' σ:=⟨h,fun _ _ _ _=>rfl⟩
theorem Pins.trans {ρ ρ1 ρ2:Rho} {σ σ1 σ2:St} (a:Pins ρ σ ρ1 σ1) (b:Pins ρ1 σ1 ρ2 σ2):Pins ρ σ ρ2 σ2:=⟨a.1.trans b.1,fun i s h e=>by
 obtain ⟨s1,h1,e1⟩:=a.1.2 i s h e
 exact (b.2 i s1 h1 e1).trans (a.2 i s h e)⟩
def Fin (c:Ct) (S H:Hp) (σ:St) (ρ:Rho) (fps:List Addr):Flw→Ends→Prop
 | .nx ρ',D=>∀ σ' S' H' fps',Stp S H fps S' H' fps'→Pins ρ σ ρ' σ'→Good c S' H' σ' ρ' fps'→D.nx σ' H'
 | .rt k ρ',D=>∀ v σ' S' H' fps',Stp S H fps S' H' fps'→Pins ρ σ ρ' σ'→Good c S' H' (some v :: σ') (some ⟨false,k⟩ :: ρ') fps'→D.rt v H'
 | .bk ρ',D=>∀ σ' S' H' fps',Stp S H fps S' H' fps'→Pins ρ σ ρ' σ'→Good c S' H' σ' ρ' fps'→D.bk σ' H'
 | .ct ρ',D=>∀ σ' S' H' fps',Stp S H fps S' H' fps'→Pins ρ σ ρ' σ'→Good c S' H' σ' ρ' fps'→D.ct σ' H'
theorem Fin.after {c:Ct} {S H S1 H1:Hp} {σ σ1:St} {ρ ρ1:Rho} {fps f1:List Addr} {fl:Flw} {D:Ends} (st:Stp S H fps S1 H1 f1) (p:Pins ρ σ ρ1 σ1) (h:Fin c S H σ ρ fps fl D):Fin c S1 H1 σ1 ρ1 f1 fl D:=by
 cases fl with
 | nx ρ'=>exact fun σ' S' H' fps' st' p' G=>h σ' S' H' fps' (st.trans st') (p.trans p') G
 | rt k ρ'=>exact fun v σ' S' H' fps' st' p' G=>h v σ' S' H' fps' (st.trans st') (p.trans p') G
 | bk ρ'=>exact fun σ' S' H' fps' st' p' G=>h σ' S' H' fps' (st.trans st') (p.trans p') G
 | ct ρ'=>exact fun σ' S' H' fps' st' p' G=>h σ' S' H' fps' (st.trans st') (p.trans p') G
def tS (c:Ct) (s:SD):TS:=fun D σ H=>∃ S ρ fps fl,Good c S H σ ρ fps∧s ρ = some fl∧Fin c S H σ ρ fps fl D
abbrev XS (X:Cx) (st:Stmt) (s:SD):Prop:=PS X st (tS (ct X) s)
abbrev XSs (X:Cx) (st:List Stmt) (s:SD):Prop:=PSs X st (tS (ct X) s)
def q2V:SD:=fun ρ=>some (.nx ρ)
def q1E (s t:SD):SD:=fun ρ=>match s ρ with
 | some (.nx ρ')=>t ρ'
 | r=>r
def sNo:SD:=fun _=>none
section
variable {X:Cx} {st:Stmt} {rest:List Stmt} {s t:SD} {e:Expr} {pos:Pos}
theorem q1g:XSs X [] q2V:=pss_nil.imp fun D σ H ⟨S,ρ,fps,fl,G,e,q⟩=>by
 cases e
 exact q σ S H fps (Stp.refl S H fps) (Pins.refl ρ σ) G
theorem q0e (h1:XS X st s) (h2:XSs X rest t):XSs X (st :: rest) (q1E s t):=(pss_cons h1 h2).imp fun D σ H ⟨S,ρ,fps,fl,G,e,q⟩=>by
 unfold q1E at e
 cases hs:s ρ with
 | none=>rw [hs] at e; cases e
 | some f=>
  rw [hs] at e
  refine ⟨S,ρ,fps,f,G,hs,?_⟩
  cases f with
  | nx ρ1=>exact fun σ1 S1 H1 f1 st1 p1 G1=>⟨S1,ρ1,f1,fl,G1,e,q.after st1 p1⟩
  | rt k ρ1=>cases e; exact q
  | bk ρ1=>cases e; exact q
  | ct ρ1=>cases e; exact q
theorem q0h (h1:XS X st s):XSs X [st] s:=(pss_one h1)
theorem q3P:XS X st sNo:=ps_never.imp fun D σ H ⟨S,ρ,fps,fl,G,e,q⟩=>by cases e
def q2D (f:EM Cell):SD:=fun ρ=>match f ρ with
 | some (k,ρ')=>some (.rt k ρ')
 | none=>none
theorem q0A {f:EM Cell} (h:XC X e f):XS X (.Return (some e) pos) (q2D f):=(ps_ret h).imp fun D σ H ⟨S,ρ,fps,fl,G,e,q⟩=>by
 unfold q2D at e
 split at e
 ·cases e
  rename_i k ρ' hf
  exact ⟨S,ρ,fps,k,ρ',G,hf,fun v S' H' fps' st pin G'=>q v σ S' H' fps' st (.of σ pin) G'⟩
 ·cases e
def sIf (f:EM Bool) (s t:SD):SD:=fun ρ=>match f ρ with
 | some (b,ρ')=>if b = true then s ρ' else t ρ'
 | none=>none
theorem q2W {q:Expr} {a b:List Stmt} {f:EM Bool} (hc:XT X q f) (ha:XSs X a s) (hb:XSs X b t):XS X (.If q a b pos) (sIf f s t):=(ps_if hc ha hb).imp fun D σ H ⟨S,ρ,fps,fl,G,e,q⟩=>by
 unfold sIf at e
 split at e
 ·rename_i k ρ' hf
  refine ⟨S,ρ,fps,k,ρ',G,hf,fun S' H' fps' st pin G'=>?_⟩
  cases k with
  | true=>exact ⟨S',ρ',fps',fl,G',e,q.after st (.of σ pin)⟩
  | false=>exact ⟨S',ρ',fps',fl,G',e,q.after st (.of σ pin)⟩
 ·cases e
def q6w (f:EM Cell):SD:=fun ρ=>match f ρ with
 | some (_,ρ')=>some (.nx ρ')
 | none=>none
theorem q4v {f:EM Cell} (h:XC X e f) (hs:swapsWith e none pos.line X.env = pure false:=by rfl):XS X (.Expr e pos) (q6w f):=(ps_expr h hs).imp fun D σ H ⟨S,ρ,fps,fl,G,e,q⟩=>by
 unfold q6w at e
 split at e
 ·cases e
  rename_i k ρ' hf
  refine ⟨S,ρ,fps,k,ρ',G,hf,fun v S' H' fps' st pin G'=>?_⟩
  obtain ⟨S2,f2,r,G2,st2⟩:=G'.frz1
  exact q σ S2 H' f2 (st.trans st2) (.of σ pin) G2
 ·cases e
def setS (i:Nat) (k:Cell) (ρ:Rho):Option Rho:=match ρ[i]? with
 | some (some s)=>if s.pin = true then none else some (ρ.set i (some ⟨false,k⟩))
 | some none=>some (ρ.set i (some ⟨false,k⟩))
 | none=>none
theorem z1u {i:Nat} {k:Cell} {ρ ρ':Rho} (h:setS i k ρ = some ρ'):i < ρ.length∧ρ' = ρ.set i (some ⟨false,k⟩)∧∀ s,ρ[i]? = some (some s)→s.pin = false:=by
 unfold setS at h
 split at h
 ·rename_i s hs
  split at h
  ·cases h
  ·rename_i hp
   cases h
   exact ⟨(Q0r.mp hs).1,rfl,fun s' e=>by rw [hs] at e; cases e; cases q:s.pin with | true=>exact absurd q hp | false=>rfl⟩
 ·rename_i hs
  cases h
  exact ⟨(Q0r.mp hs).1,rfl,fun s' e=>by rw [hs] at e; cases e⟩
 ·cases h
theorem q5D {i:Nat} {k:Cell} {ρ ρ':Rho} (σ:St) (v:V) (h:setS i k ρ = some ρ'):Pins ρ σ ρ' (σ.set i (some v)):=by
 obtain ⟨hi,rfl,hp⟩:=z1u h
 have ne:∀ (j:Nat) s,ρ[j]? = some (some s)→s.pin = true→i ≠ j:=fun j s hs hsp e=>by
  subst e
  rw [hp s hs] at hsp
  cases hsp
 refine ⟨⟨by rw [Q1m],fun j s hs hsp=>⟨s,?_,hsp⟩⟩,fun j s hs hsp=>?_⟩
 ·rw [Q0I (ne j s hs hsp)]; exact hs
 ·rw [Q0I (ne j s hs hsp)]
theorem Good.setS {c:Ct} {S H:Hp} {σ:St} {ρ ρ':Rho} {fps:List Addr} {v:V} {b:Bool} {k:Cell} {i:Nat} (G:Good c S H (some v :: σ) (some ⟨b,k⟩ :: ρ) fps) (h:DL.setS i k ρ = some ρ') :
  ∃ fps',Good c S H (σ.set i (some v)) ρ' fps'∧Stp S H fps S H fps':=by
 obtain ⟨hi,rfl,hp⟩:=z1u h
 obtain ⟨ex,rep,nd,out,tb⟩:=G
 cases rep with
 | @con v b k σ ρ fp f2 h1 h2=>
  obtain ⟨l,m,r,e,put⟩:=h2.put hi
  subst e
  have sub:∀ a,a ∈ l ++ (fp ++ r)→a ∈ fp ++ (l ++ (m ++ r)):=fun a ha=>by
   simp only [Q0k] at ha ⊢
   grind
  exact ⟨l ++ (fp ++ r),⟨ex,put S H false k v fp (Same.refl S) (fun _ _=>rfl) h1,x5F nd,fun a ha=>out a (sub a ha),tb⟩,⟨Same.refl S,fun a o q _=>q,fun a q=>q,fun a ha=>.inl (sub a ha),fun a q=>.inl q⟩⟩
def q4a (i:Nat) (f:EM Cell):SD:=fun ρ=>match f ρ with
 | some (k,ρ1)=>match setS i k ρ1 with
  | some ρ2=>some (.nx ρ2)
  | none=>none
 | none=>none
theorem q1s (i:Nat) {x:Str} {f:EM Cell} {pos':Pos} (hN:X.N.Nodup) (he:XC X e f) (hi:X.N[i]? = some x:=by rfl) (hx:Loc X.env.scope x:=by first | exact Or.inl rfl | exact Or.inr rfl) (hs:swapsWith e (some (.Name x pos')) pos.line X.env = pure false:=by rfl) (hf:X.fn x = true∨X.env.scope.names.lookup x = some .local:=by first | exact .inl rfl | exact .inr rfl) :
  XS X (.Assign [.Name x pos'] e pos) (q4a i f):=(ps_set hN hi hx he hs hf).imp fun D σ H ⟨S,ρ,fps,fl,G,e,q⟩=>by
 unfold q4a at e
 split at e
 ·rename_i k ρ1 hf
  split at e
  ·cases e
   rename_i ρ2 h2
   refine ⟨S,ρ,fps,k,ρ1,G,hf,fun v S' H' fps' st pin G'=>?_⟩
   obtain ⟨f3,G3,st3⟩:=G'.setS h2
   exact q _ S' H' f3 (st.trans st3) ((Pins.of σ pin).trans (q5D σ v h2)) G3
  ·cases e
 ·cases e
def frzS (i:Nat) (ρ:Rho):Rho:=match ρ[i]? with
 | some (some s)=>if s.pin = true then ρ else ρ.set i (some ⟨false,.im s.cell.frz⟩)
 | _=>ρ
def z6i (i:Nat) (s:SD):SD:=fun ρ=>s (frzS i ρ)
theorem Good.frzS {c:Ct} {S H:Hp} {σ:St} {ρ:Rho} {fps:List Addr} (G:Good c S H σ ρ fps) (i:Nat):∃ S' fps',Good c S' H σ (DL.frzS i ρ) fps'∧Stp S H fps S' H fps'∧Pins ρ σ (DL.frzS i ρ) σ:=by
 unfold DL.frzS
 split
 ·rename_i s hs
  split
  ·exact ⟨S,fps,G,Stp.refl S H fps,Pins.refl ρ σ⟩
  ·rename_i hp
   obtain ⟨v,l,fp,r,e1,e2,h1,put⟩:=G.rep.at hs
   subst e2
   have o1:∀ a ∈ fp,S a = none:=fun a ha=>G.out a (by simp only [Q0k]; exact .inr (.inl ha))
   have nd:=G.nd
   have dis:∀ a,a ∈ l ++ r→a ∉ fp:=fun a ha hb=>by
    simp only [Q0E,Q0k] at nd ha
    grind
   have z:=put (ovl S H fp) H false (.im s.cell.frz) v [] (q4s o1) (fun _ _=>rfl) (.atm (.im (h1.frz (q4s o1) fun x hx=>z1s hx)))
   rw [show σ.set i (some v) = σ from by
    apply Q1G
    intro j
    by_cases hj:i = j
    ·subst hj
     rw [Q0M (Q0r.mp e1).1,e1]
    ·rw [Q0I hj]] at z
   have tbF:Tbs (ovl S H fp) H:=G.tbs (fun a o h _=>h) fun a q=>by
    by_cases w:a ∈ fp
    ·refine .inr (.inl ?_)
     simp only [Q0k]
     exact .inr (.inl w)
    ·rw [q4Z w] at q; exact .inl q
   refine ⟨ovl S H fp,l ++ r,⟨q7X G.ex,z,?_,fun a ha=>?_,tbF⟩,⟨q4s o1,fun a o q _=>q,fun a q=>q,fun a ha=>.inl ?_,fun a q=>?_⟩,⟨by rw [Q1m],fun j s' hs' hp'=>?_⟩,fun _ _ _ _=>rfl⟩
   ·simp only [Q0E,Q0k] at nd ⊢
    grind
   ·rw [q4Z (dis a ha)]
    refine G.out a ?_
    simp only [Q0k] at ha ⊢
    grind
   ·simp only [Q0k] at ha ⊢
    grind
   ·by_cases w:a ∈ fp
    ·refine .inr (.inl ?_)
     simp only [Q0k]
     exact .inr (.inl w)
    ·rw [q4Z w] at q; exact .inl q
   ·have ne:i ≠ j:=fun e=>by subst e; rw [hs] at hs'; cases hs'; exact hp hp'
    exact ⟨s',by rw [Q0I ne]; exact hs',hp'⟩
 ·exact ⟨S,fps,G,Stp.refl S H fps,Pins.refl ρ σ⟩
theorem q6x (i:Nat) (h:XS X st s):XS X st (z6i i s):=h.imp fun D σ H ⟨S,ρ,fps,fl,G,e,q⟩=>by
 obtain ⟨S',f',G',st',p'⟩:=G.frzS i
 exact ⟨S',_,f',fl,G',e,q.after st' p'⟩
end
end DL

namespace DL
variable [DL.Tbls]
open PySem PySem.Spec L2

theorem _root_.L2.PI.imp {X:Cx} {tg e:Expr} {t t':TI} (h:PI X tg e t) (k:∀ σ H R,t' σ H R→t σ H R):PI X tg e t':=⟨fun pins s σ H R I q=>h.run pins s σ H R I (k σ H R q)⟩

inductive Tg where
 | nm (i:Nat) | tp (l:List Tg)
mutual
def Tg.slots:Tg→List Nat
 | .nm i=>[i]
 | .tp l=>Tg.slotss l
def Tg.slotss:List Tg→List Nat
 | []=>[]
 | t :: ts=>t.slots ++ Tg.slotss ts
end
mutual
def bdT:Tg→Dat→Rho→Option Rho
 | .nm i,d,ρ=>setS i (.im d) ρ
 | .tp l,.tup ds,ρ=>z1o l ds ρ
 | .tp _,_,_=>none
def z1o:List Tg→List Dat→Rho→Option Rho
 | [],[],ρ=>some ρ
 | t :: ts,d :: ds,ρ=>match bdT t d ρ with
  | some ρ'=>z1o ts ds ρ'
  | none=>none
 | _,_,_=>none
end
def Wip (l:List Nat) (σ σ':St):Prop:=σ'.length = σ.length∧∀ j,j ∉ l→σ'[j]? = σ[j]?
def gT (c:Ct) (t:Tg):TG:=fun v σ H Q=>∃ S ρ fps d ρ',Good c S H σ ρ fps∧Rep c S v d∧bdT t d ρ = some ρ' ∧
 ∀ σ' fps',Stp S H fps S H fps'→Pins ρ σ ρ' σ'→Wip t.slots σ σ'→Good c S H σ' ρ' fps'→Q σ' H
def gTs (c:Ct) (ts:List Tg):TGs:=fun vs σ H Q=>∃ S ρ fps ds ρ',Good c S H σ ρ fps∧Reps c S vs ds∧z1o ts ds ρ = some ρ' ∧
 ∀ σ' fps',Stp S H fps S H fps'→Pins ρ σ ρ' σ'→Wip (Tg.slotss ts) σ σ'→Good c S H σ' ρ' fps'→Q σ' H
theorem _root_.L2.PG.imp {X:Cx} {e:Expr} {t t':TG} (h:PG X e t) (k:∀ v σ H Q,t' v σ H Q→t v σ H Q):PG X e t':=⟨fun pins s σ H v u Q I r q=>h.run pins s σ H v u Q I r (k v σ H Q q)⟩
theorem _root_.L2.PGs.imp {X:Cx} {e:List Expr} {t t':TGs} (h:PGs X e t) (k:∀ v σ H Q,t' v σ H Q→t v σ H Q):PGs X e t':=⟨fun pins s σ H v u Q I r q=>h.run pins s σ H v u Q I r (k v σ H Q q)⟩
section
variable {X:Cx} {pos:Pos} {e:Expr} {es:List Expr} {t:Tg} {ts:List Tg}
theorem q0t (i:Nat) {x:Str} (hN:X.N.Nodup) (hi:X.N[i]? = some x:=by rfl) (hx:Loc X.env.scope x:=by first | exact Or.inl rfl | exact Or.inr rfl) (hf:X.fn x = true∨X.env.scope.names.lookup x = some .local:=by first | exact .inl rfl | exact .inr rfl):PG X (.Name x pos) (gT (ct X) (.nm i)):=
 (pg_name hN hi hx hf).imp fun v σ H Q ⟨S,ρ,fps,d,ρ',G,r,e,q⟩=>by
  have e':setS i (.im d) ρ = some ρ':=by unfold bdT at e; exact e
  obtain ⟨f',G',st⟩:=(G.put0 r).setS e'
  exact q _ f' st (q5D σ v e') ⟨Q1m,fun j hj=>by rw [Q0I fun z=>hj (by rw [← z]; exact Q0t.mpr rfl)]⟩ G'
theorem q4w:PGs X [] (gTs (ct X) []):=pgs_nil.imp fun vs σ H Q ⟨S,ρ,fps,ds,ρ',G,r,e,q⟩=>by
 cases r with
 | nil=>
  unfold z1o at e
  cases e
  exact ⟨rfl,q σ fps (Stp.refl S H fps) (Pins.refl ρ σ) ⟨rfl,fun _ _=>rfl⟩ G⟩
 | cons _ _=>unfold z1o at e; cases e
theorem q1b (h1:PG X e (gT (ct X) t)) (h2:PGs X es (gTs (ct X) ts)) (hs:(jbh (e :: es) X.env).map (·.2) = assign e X.env :: (jbh es X.env).map (·.2):=by rfl):PGs X (e :: es) (gTs (ct X) (t :: ts)):=
 (pgs_cons h1 h2 hs).imp fun vs σ H Q ⟨S,ρ,fps,ds,ρ',G,r,e,q⟩=>by
  cases r with
  | nil=>unfold z1o at e; cases e
  | @cons v vs d ds r1 r2=>
   unfold z1o at e
   split at e
   ·rename_i ρ1 e1
    refine ⟨v,vs,rfl,S,ρ,fps,d,ρ1,G,r1,e1,fun σ1 f1 st1 p1 w1 G1=>⟨S,ρ1,f1,ds,ρ',G1,r2,e,fun σ2 f2 st2 p2 w2 G2=>q σ2 f2 (st1.trans st2) (p1.trans p2) ⟨w2.1.trans w1.1,fun j hj=>?_⟩ G2⟩⟩
    have hj':j ∉ t.slots∧j ∉ Tg.slotss ts:=by unfold Tg.slotss at hj; exact not_or.mp fun z=>hj (Q0k.mpr z)
    exact (w2.2 j hj'.2).trans (w1.2 j hj'.1)
   ·cases e
theorem q6d {k:Nat} (hc:X.calm = true) {n:Nat} (h:PGs X es (gTs (ct X) ts)) (hl:ts.length = n:=by rfl) (hn:(jbh es X.env).length = n:=by rfl) (hst:(jbh es X.env).findIdx? (·.1) = none:=by rfl):PG X (.Tuple es k pos) (gT (ct X) (.tp ts)):=
 (pg_tup hc h hn hst).imp fun v σ H Q ⟨S,ρ,fps,d,ρ',G,r,e,q⟩=>by
  cases r with
  | @tup a xs ds h1 h2=>
   unfold bdT at e
   have len:∀ (ts:List Tg) (ds:List Dat) (ρ ρ':Rho),z1o ts ds ρ = some ρ'→ts.length = ds.length:=by
    intro ts
    induction ts with
    | nil=>intro ds ρ ρ' z; cases ds with | nil=>rfl | cons _ _=>unfold z1o at z; cases z
    | cons t ts ih=>
     intro ds ρ ρ' z
     cases ds with
     | nil=>unfold z1o at z; cases z
     | cons d ds=>
      unfold z1o at z
      split at z
      ·rw [Q0d,Q0d,ih ds _ _ z]
      ·cases z
   refine ⟨a,xs,rfl,q0S G.ex h1,?_,S,ρ,fps,ds,ρ',G,h2,e,fun σ' f' st p w G'=>q σ' f' st p ?_ G'⟩
   ·rw [h2.length,← len _ _ _ _ e,hl]
   ·unfold Tg.slots; exact w
  | _=>unfold bdT at e; cases e
end

structure ItD (c:Ct) (S:Hp) (J:It) (ds:List Dat):Prop where
 go:∀ (i:Nat) (H:Hp),i < ds.length→Same S H→J.go i H
 stop:∀ (i:Nat) (H:Hp),i = ds.length→Same S H→J.stop i H
 yld:∀ (i:Nat) (d:Dat) (S2 H:Hp) (x:V) (H':Hp),ds[i]? = some d→Same S S2→Same S2 H→J.yld i H x H'→∃ S',Fre S2 H S' H'∧Rep c S' x d
def tI (c:Ct) (f:EM (List Dat)):TI:=fun σ H R=>∃ S,Go c f σ S H fun ds S1 H1=>∀ J,ItD c S1 J ds→R J H1
abbrev XI (X:Cx) (tg it:Expr) (f:EM (List Dat)):Prop:=PI X tg it (tI (ct X) f)
def x9V (f:EM Dat):EM (List Dat):=q0J f fun d=>match d with
 | .lst ds=>q2M ds
 | _=>eNo
def x9W (f:EM Dat):EM (List Dat):=q0J f fun d=>match d with
 | .tup ds=>q2M ds
 | _=>eNo
def q6r (f:EM Dat):EM (List Dat):=q0J f fun d=>match d with
 | .lst ds=>q2M ds
 | .tup ds=>q2M ds
 | _=>eNo
theorem Reps.at {c:Ct} {S:Hp} {xs:List V} {ds:List Dat} (h:Reps c S xs ds) {i:Nat} (hi:i < ds.length):∃ x,xs[i]? = some x:=by
 obtain ⟨v,e,_⟩:=h.get (Q0G hi)
 exact ⟨v,e⟩
theorem z9d {c:Ct} {S:Hp} {a:Addr} {xs:List V} {ds:List Dat} (h1:SqL c.K S a xs) (h2:Reps c S xs ds):ItD c S (Itl c.K a) ds where
 go:=fun i H hi e=>by obtain ⟨x,hx⟩:=h2.at hi; exact ⟨xs,x,e.seq h1,hx⟩
 stop:=fun i H hi e=>⟨xs,e.seq h1,by rw [h2.length,hi]; exact Q0W _⟩
 yld:=fun i d S2 H x H' hd e e2 ⟨q1,q2⟩=>by
  subst q1
  obtain ⟨v,hv,r⟩:=h2.get hd
  have:=q2 xs ((e.trans e2).seq h1)
  rw [hv] at this
  cases this
  exact ⟨S2,Fre.refl e2,r.mono e⟩
theorem x2N {c:Ct} {S:Hp} {a:Addr} {xs:List V} {ds:List Dat} (h1:SqT c.K S a xs) (h2:Reps c S xs ds):ItD c S (Itt c.K a) ds where
 go:=fun i H hi e=>by obtain ⟨x,hx⟩:=h2.at hi; exact ⟨xs,x,q0S e h1,hx⟩
 stop:=fun i H hi e=>⟨xs,q0S e h1,by rw [h2.length,hi]; exact Q0W _⟩
 yld:=fun i d S2 H x H' hd e e2 ⟨q1,q2⟩=>by
  subst q1
  obtain ⟨v,hv,r⟩:=h2.get hd
  have:=q2 xs (q0S (e.trans e2) h1)
  rw [hv] at this
  cases this
  exact ⟨S2,Fre.refl e2,r.mono e⟩
theorem x2O {c:Ct} {S:Hp} (lo:Int) (n:Nat):ItD c S (Itr lo n) ((Q1e n).map fun k:Nat=>Dat.int (lo + (k:Int))) where
 go:=fun i H hi e=>by rw [Q0f,Q1D] at hi; exact hi
 stop:=fun i H hi e=>by rw [Q0f,Q1D] at hi; exact Q2O hi.symm
 yld:=fun i d S2 H x H' hd e e2 ⟨q1,q2⟩=>by
  subst q1; subst q2
  rw [Q0O] at hd
  cases hr:(Q1e n)[i]? with
  | none=>rw [hr] at hd; cases hd
  | some k=>
   rw [hr] at hd
   cases hd
   have hk:k = i:=by
    have:=Q0r.mp hr
    obtain ⟨h1,h2⟩:=this
    rw [List.getElem_range] at h2
    exact h2.symm
   subst hk
   exact ⟨S2,Fre.refl e2,.int _⟩
theorem z9e {c:Ct} {S:Hp} (n:Nat):ItD c S (Itr 0 n) ((Q1e n).map fun k:Nat=>Dat.int (k:Int)):=by
 have h:=x2O (c:=c) (S:=S) 0 n
 simpa only [Int.zero_add] using h
section
variable {X:Cx} {tg l:Expr} {f:EM Dat} {pos:Pos}
theorem x2P (h:XE X l f):XI X tg l (x9V f):=(pi_list h).imp fun σ H R ⟨S,q⟩=>⟨S,q.bind.mono fun d S1 H1 _ q v r=>by
 cases r with
 | lst h1 h2=>
  obtain ⟨ex,q⟩:=q.ret
  exact ⟨_,rfl,⟨_,ex.seq (.inl h1)⟩,(q S1 H1 (Fre.refl ex)).2 _ (z9d (.inl h1) h2)⟩
 | _=>exact (Go.no q).elim⟩
theorem x5G (h:XE X l f):XI X tg l (x9W f):=(pi_tup h).imp fun σ H R ⟨S,q⟩=>⟨S,q.bind.mono fun d S1 H1 _ q v r=>by
 cases r with
 | tup h1 h2=>
  obtain ⟨ex,q⟩:=q.ret
  exact ⟨_,rfl,⟨_,q0S ex h1⟩,(q S1 H1 (Fre.refl ex)).2 _ (x2N h1 h2)⟩
 | _=>exact (Go.no q).elim⟩
theorem q1O (h:XE X l f):XI X tg l (q6r f):=⟨fun pins s σ H R I ⟨S,ρ,fps,ds,ρ',G,e,q⟩=>by
 obtain ⟨d,ρ1,e1,e2⟩:=q0z e
 cases d with
 | lst es=>exact (x2P h).run pins s σ H R I ⟨S,ρ,fps,ds,ρ',G,by unfold x9V q0J; rw [e1]; exact e2,q⟩
 | tup es=>exact (x5G h).run pins s σ H R I ⟨S,ρ,fps,ds,ρ',G,by unfold x9W q0J; rw [e1]; exact e2,q⟩
 | _=>cases e2⟩
def z2P (t:EM (List Dat)):EM (List Dat):=q0J t fun ds=>match ds with
 | [.int n]=>if -1000000 ≤ n∧n ≤ 1000000 then q2M ((Q1e n.toNat).map fun k:Nat=>Dat.int (k:Int)) else eNo
 | _=>eNo
theorem z6j {c:Ct} {σ:St} {H:Hp} {t:EM (List Dat)} {g:List Dat→EM (List Dat)} {R:It→Hp→Prop} (h:tI c (q0J t g) σ H R) :
  tA c t σ H fun vs H1=>∃ S ds,Reps c S vs ds∧Go c (g ds) σ S H1 fun es S1 H1=>∀ J,ItD c S1 J es→R J H1:=by
 obtain ⟨S,q⟩:=h
 exact ⟨S,q.bind.mono fun ds S1 H1 _ q vs r=>⟨S1,ds,r,q.mono fun _ _ _ _ z=>z.2⟩⟩
theorem z0p {a:Expr} {t:EM (List Dat)} {p:Pos} (hg:Gl X "range") (hm:X.mg "range" = none) (ha:XA X [a] t) (hs:starEach [a] X.env = [(false,eval a X.env)]:=by rfl):XI X tg (.Call (.Name "range" p) [a] [] pos) (z2P t):=
 (pi_range1 hg hm ha hs).imp fun σ H R q=>(z6j q).mono fun vs H1 ⟨S,ds,r,q⟩=>by
  split at q
  ·rename_i n
   split at q
   ·rename_i hb
    cases r with
    | cons r1 r2=>
     cases r1
     cases r2
     obtain ⟨ex,q⟩:=q.ret
     exact ⟨n,rfl,by omega,by omega,q S H1 (Fre.refl ex) _ (z9e n.toNat)⟩
   ·exact (Go.no q).elim
  ·exact (Go.no q).elim
end

def q5Y (tg:Tg) (s:SD):List Dat→SD
 | [],ρ=>some (.nx ρ)
 | d :: ds,ρ=>match bdT tg d ρ with
  | some ρ1=>match s ρ1 with
   | some (.nx ρ2)=>q5Y tg s ds ρ2
   | some (.ct ρ2)=>q5Y tg s ds ρ2
   | some (.bk ρ2)=>some (.nx ρ2)
   | some (.rt k ρ2)=>some (.rt k ρ2)
   | none=>none
  | none=>none
def q9u (src:EM (List Dat)) (tg:Tg) (s:SD):SD:=fun ρ=>match src ρ with
 | some (ds,ρ1)=>q5Y tg s ds ρ1
 | none=>none
section
variable {X:Cx} {tge it:Expr} {src:EM (List Dat)} {tg:Tg} {s:SD} {body:List Stmt} {pos:Pos}
theorem q3v (hp:PassesOwn (model X.prog X.w) X.A X.env X.xe) (hc:X.calm = true) (hi:XI X tge it src) (hg:PG X tge (gT (ct X) tg)) (hb:XSs X body s) (hs:∀ x,jbg it X.env x = pure x:=by intro _; rfl):XS X (.For tge it body [] pos) (q9u src tg s):=
 (ps_for hp hc hi hg hb hs).imp fun D σ H ⟨S,ρ,fps,fl,G,e,q⟩=>by
  unfold q9u at e
  split at e
  ·rename_i ds ρ1 e1
   refine ⟨S,ρ,fps,ds,ρ1,G,e1,fun S1 H1 f1 st1 pin1 G1 J itd=>?_⟩
   refine ⟨fun i m σi Hi=>m = ds.length - i∧i ≤ ds.length∧∃ Si ρi fi,Same S1 Si∧Good (ct X) Si Hi σi ρi fi∧q5Y tg s (ds.drop i) ρi = some fl∧Fin (ct X) Si Hi σi ρi fi fl D,
    ⟨_,rfl,Q1H _,S1,ρ1,f1,Same.refl S1,G1,e,q.after st1 (.of σ pin1)⟩,?_⟩
   rintro i m σi Hi ⟨rfl,hle,Si,ρi,fi,ss,Gi,el,qi⟩
   by_cases hlt:i < ds.length
   ·obtain ⟨d,hd⟩:∃ d,ds[i]? = some d:=⟨ds[i],Q0G hlt⟩
    have hdr:ds.drop i = d :: ds.drop (i + 1):=by
     rw [Q1K hlt]
     rw [Q0G hlt] at hd
     cases hd
     rfl
    rw [hdr] at el
    unfold q5Y at el
    refine .inr ⟨itd.go i Hi hlt (ss.trans Gi.ex),fun σ' H'=>(ds.length - (i + 1) = ds.length - (i + 1)∧i + 1 ≤ ds.length∧∃ Si ρi fi,Same S1 Si∧Good (ct X) Si H' σ' ρi fi∧q5Y tg s (ds.drop (i + 1)) ρi = some fl∧Fin (ct X) Si H' σ' ρi fi fl D),
     fun σ' H' h=>⟨_,by omega,h⟩,fun x H' hy=>?_⟩
    obtain ⟨S2,fr,rep⟩:=itd.yld i d Si Hi x H' hd ss Gi.ex hy
    obtain ⟨G2,st2⟩:=Gi.fre fr
    split at el
    ·rename_i ρ2 hbd
     refine ⟨S2,ρi,fi,d,ρ2,G2,rep,hbd,fun σ3 f3 st3 p3 w3 G3=>?_⟩
     cases hsb:s ρ2 with
     | none=>rw [hsb] at el; cases el
     | some fl1=>
      rw [hsb] at el
      refine ⟨S2,ρ2,f3,fl1,G3,hsb,?_⟩
      have qq:=(qi.after st2 (Pins.refl ρi σi)).after st3 p3
      cases fl1 with
      | nx ρ4=>exact fun σ' S' H' f' st' p' G'=>⟨rfl,hlt,S',ρ4,f',(ss.trans fr.ss).trans st'.ss,G',el,qq.after st' p'⟩
      | ct ρ4=>exact fun σ' S' H' f' st' p' G'=>⟨rfl,hlt,S',ρ4,f',(ss.trans fr.ss).trans st'.ss,G',el,qq.after st' p'⟩
      | bk ρ4=>cases el; exact qq
      | rt k ρ4=>cases el; exact qq
    ·cases el
   ·have he:i = ds.length:=by omega
    subst he
    rw [Q3H] at el
    unfold q5Y at el
    cases el
    exact .inl ⟨itd.stop _ Hi rfl (ss.trans Gi.ex),qi σi Si Hi fi (Stp.refl Si Hi fi) (Pins.refl ρi σi) Gi⟩
  ·cases e

def q2A (t:EM Bool) (s:SD):Nat→SD
 | 0,_=>none
 | n + 1,ρ=>match t ρ with
  | some (true,ρ1)=>match s ρ1 with
   | some (.nx ρ2)=>q2A t s n ρ2
   | some (.ct ρ2)=>q2A t s n ρ2
   | some (.bk ρ2)=>some (.nx ρ2)
   | some (.rt k ρ2)=>some (.rt k ρ2)
   | none=>none
  | some (false,ρ1)=>some (.nx ρ1)
  | none=>none
theorem q6j {t:EM Bool} {s:SD}:∀ (n:Nat) (ρ:Rho) (r:Flw),q2A t s n ρ = some r→q2A t s (n + 1) ρ = some r
 | 0,ρ,r,h=>by unfold q2A at h; cases h
 | n + 1,ρ,r,h=>by
  unfold q2A at h ⊢
  split at h
  ·rename_i ρ1 h1
   split at h
   ·exact q6j n _ r h
   ·exact q6j n _ r h
   ·exact h
   ·exact h
   ·cases h
  ·exact h
  ·cases h
theorem z1v {t:EM Bool} {s:SD} {n m:Nat} (h:n ≤ m) {ρ:Rho} {r:Flw} (e:q2A t s n ρ = some r):q2A t s m ρ = some r:=by
 induction h with
 | refl=>exact e
 | step _ ih=>exact q6j _ _ _ ih
open Classical in
noncomputable def q8s (t:EM Bool) (s:SD):SD:=fun ρ=>if h:∃ p:Nat × Flw,q2A t s p.1 ρ = some p.2 then some (choose h).2 else none
theorem z6k {t:EM Bool} {s:SD} {n:Nat} {ρ:Rho} {r:Flw} (e:q2A t s n ρ = some r):q8s t s ρ = some r:=by
 have h:∃ p:Nat × Flw,q2A t s p.1 ρ = some p.2:=⟨(n,r),e⟩
 unfold q8s
 rw [dif_pos h]
 have c:=Q3O h
 have c1:=z1v (Nat.le_max_left (Classical.choose h).1 n) c
 have c2:=z1v (Nat.le_max_right (Classical.choose h).1 n) e
 rw [c1] at c2
 exact c2
theorem z2Q {t:EM Bool} {s:SD} {ρ:Rho} {r:Flw} (e:q8s t s ρ = some r):∃ n,q2A t s n ρ = some r:=by
 unfold q8s at e
 split at e
 ·rename_i h
  have c:=Q3O h
  cases e
  exact ⟨_,c⟩
 ·cases e
theorem z9f {q:Expr} {t:EM Bool} (hp:PassesOwn (model X.prog X.w) X.A X.env X.xe) (hc:XT X q t) (hb:XSs X body s):XS X (.While q body [] pos) (q8s t s):=
 (ps_while hp hc hb).imp fun D σ H ⟨S,ρ,fps,fl,G,e,q⟩=>by
  obtain ⟨n,e⟩:=z2Q e
  refine ⟨fun m σi Hi=>∃ Si ρi fi,Good (ct X) Si Hi σi ρi fi∧q2A t s m ρi = some fl∧Fin (ct X) Si Hi σi ρi fi fl D,⟨n,S,ρ,fps,G,e,q⟩,?_⟩
  rintro m σi Hi ⟨Si,ρi,fi,Gi,el,qi⟩
  cases m with
  | zero=>unfold q2A at el; cases el
  | succ m=>
   unfold q2A at el
   cases ht:t ρi with
   | none=>rw [ht] at el; cases el
   | some p=>
    obtain ⟨b,ρ1⟩:=p
    rw [ht] at el
    refine ⟨Si,ρi,fi,b,ρ1,Gi,ht,fun S1 H1 f1 st1 pin1 G1=>?_⟩
    have q1:=qi.after st1 (.of σi pin1)
    cases b with
    | false=>
     cases el
     exact q1 σi S1 H1 f1 (Stp.refl S1 H1 f1) (Pins.refl ρ1 σi) G1
    | true=>
     refine ⟨fun σ' H'=>∃ Si ρi fi,Good (ct X) Si H' σ' ρi fi∧q2A t s m ρi = some fl∧Fin (ct X) Si H' σ' ρi fi fl D,fun σ' H' h=>⟨m,Q3G m,h⟩,?_⟩
     dsimp only at el
     cases hsb:s ρ1 with
     | none=>rw [hsb] at el; cases el
     | some fl1=>
      rw [hsb] at el
      refine ⟨S1,ρ1,f1,fl1,G1,hsb,?_⟩
      cases fl1 with
      | nx ρ4=>exact fun σ' S' H' f' st' p' G'=>⟨S',ρ4,f',G',el,q1.after st' p'⟩
      | ct ρ4=>exact fun σ' S' H' f' st' p' G'=>⟨S',ρ4,f',G',el,q1.after st' p'⟩
      | bk ρ4=>cases el; exact q1
      | rt k ρ4=>cases el; exact q1
end

def q0B (ρ:Rho):List Nat→Rho
 | []=>ρ
 | v :: vs=>(q0B ρ vs).set v none
def z5m (ρ:Rho) (j:Nat):Bool:=match ρ[j]? with
 | some (some ⟨_,.atm (.im _)⟩)=>true
 | some none=>true
 | _=>false
def q2h (ρ0 ρ:Rho):List Nat→Rho
 | []=>ρ
 | v :: vs=>(q2h ρ0 ρ vs).set v (ρ0.getD v none)
def q3H (tg:Tg) (t:EM Bool) (e:EM Dat) (vs:List Nat):List Dat→Rho→Option (List Dat × Rho)
 | [],ρ=>some ([],ρ)
 | d :: ds,ρ=>match bdT tg d ρ with
  | some ρ1=>match t ρ1 with
   | some (true,ρ2)=>match e ρ2 with
    | some (y,ρ3)=>match q3H tg t e vs ds (q0B ρ3 vs) with
     | some (ys,ρ4)=>some (y :: ys,ρ4)
     | none=>none
    | none=>none
   | some (false,ρ2)=>q3H tg t e vs ds (q0B ρ2 vs)
   | none=>none
  | none=>none
def q3Q (src:EM (List Dat)) (tg:Tg) (t:EM Bool) (e:EM Dat) (vs:List Nat):EM Cell:=fun ρ=>match src ρ with
 | some (ds,ρ1)=>if vs.all (z5m ρ1) = true then match q3H tg t e vs ds (q0B ρ1 vs) with
   | some (ys,ρ2)=>if ys.length ≤ 100000 then some (.ol ys,q2h ρ1 (q0B ρ2 vs) vs) else none
   | none=>none
  else none
 | none=>none

section
variable {c:Ct} {S H:Hp}
theorem RepS.any {σ:St} {ρ:Rho} {fps:List Addr} (h:RepS c S H σ ρ fps):∀ {j:Nat} (x:Option V),ρ[j]? = some none→RepS c S H (σ.set j x) ρ fps:=by
 induction h with
 | nil=>intro j x e; simp at e
 | non h ih=>
  intro j x e
  cases j with
  | zero=>exact .non h
  | succ j=>exact .non (ih (j:=j) x (by simpa using e))
 | con h1 h ih=>
  intro j x e
  cases j with
  | zero=>simp at e
  | succ j=>exact .con h1 (ih (j:=j) x (by simpa using e))
theorem RepS.fill {σ:St} {ρ:Rho} {fps:List Addr} (h:RepS c S H σ ρ fps):∀ {j:Nat} {v:V} {b:Bool} {d:Dat},ρ[j]? = some none→σ[j]? = some (some v)→Rep c S v d→RepS c S H σ (ρ.set j (some ⟨b,.im d⟩)) fps:=by
 induction h with
 | nil=>intro j v b d e; simp at e
 | non h ih=>
  intro j v b d e es r
  cases j with
  | zero=>simp at es; subst es; exact .con (fp:=[]) (.atm (.im r)) h
  | succ j=>exact .non (ih (j:=j) (by simpa using e) (by simpa using es) r)
 | con h1 h ih=>
  intro j v b d e es r
  cases j with
  | zero=>simp at e
  | succ j=>exact .con h1 (ih (j:=j) (by simpa using e) (by simpa using es) r)
theorem RepS.drop1 {σ:St} {ρ:Rho} {fps:List Addr} (h:RepS c S H σ ρ fps):∀ (j:Nat),∃ fps',RepS c S H σ (ρ.set j none) fps'∧fps'.Sublist fps:=by
 induction h with
 | nil=>exact fun j=>⟨[],.nil,.slnil⟩
 | non h ih=>
  intro j
  cases j with
  | zero=>exact ⟨_,.non h,List.Sublist.refl _⟩
  | succ j=>obtain ⟨f,r,s⟩:=ih j; exact ⟨f,.non r,s⟩
 | @con v b k σ ρ fp fps h1 h ih=>
  intro j
  cases j with
  | zero=>exact ⟨fps,.non h,List.sublist_append_right _ _⟩
  | succ j=>obtain ⟨f,r,s⟩:=ih j; exact ⟨fp ++ f,.con h1 r,List.Sublist.append (List.Sublist.refl _) s⟩
theorem q2m (ρ:Rho):∀ vs,(q0B ρ vs).length = ρ.length
 | []=>rfl
 | v :: vs=>by unfold q0B; rw [Q1m,q2m ρ vs]
theorem z3S {ρ:Rho}:∀ {vs:List Nat} {j:Nat},j ∈ vs→j < ρ.length→(q0B ρ vs)[j]? = some none
 | v :: vs,j,h,hl=>by
  unfold q0B
  by_cases e:v = j
  ·subst e; rw [Q0M (by rw [q2m]; exact hl)]
  ·rw [Q0I e]
   exact z3S ((Q0s.mp h).resolve_left fun z=>e z.symm) hl
theorem q8t {ρ:Rho}:∀ {vs:List Nat} {j:Nat},j ∉ vs→(q0B ρ vs)[j]? = ρ[j]?
 | [],_,_=>rfl
 | v :: vs,j,h=>by
  unfold q0B
  have h':=not_or.mp fun z=>h (Q0s.mpr z)
  rw [Q0I fun e=>h'.1 e.symm,q8t h'.2]
theorem RepS.wipe {σ:St} {ρ:Rho} {fps:List Addr} (h:RepS c S H σ ρ fps):∀ (vs:List Nat),∃ fps',RepS c S H (wipe σ vs) (q0B ρ vs) fps'∧fps'.Sublist fps
 | []=>⟨fps,h,List.Sublist.refl _⟩
 | v :: vs=>by
  obtain ⟨f,r,s⟩:=RepS.wipe h vs
  obtain ⟨f2,r2,s2⟩:=r.drop1 v
  unfold Q2h q0B
  refine ⟨f2,?_,s2.trans s⟩
  by_cases hv:v < (q0B ρ vs).length
  ·exact r2.any none (by rw [Q0M hv])
  ·rw [List.set_eq_of_length_le (by rw [r.length]; omega)]
   exact r2
theorem Good.sub {σ σ':St} {ρ ρ':Rho} {fps fps':List Addr} (G:Good c S H σ ρ fps) (r:RepS c S H σ' ρ' fps') (s:fps'.Sublist fps):Good c S H σ' ρ' fps'∧Stp S H fps S H fps':=
 ⟨⟨G.ex,r,G.nd.sublist s,fun a ha=>G.out a (s.subset ha),G.tb⟩,⟨Same.refl S,fun _ _ q _=>q,fun _ q=>q,fun a ha=>.inl (s.subset ha),fun _ q=>.inl q⟩⟩
theorem q8u {σ:St}:∀ {vs:List Nat} {j:Nat},j ∉ vs→(wipe σ vs)[j]? = σ[j]?
 | [],_,_=>rfl
 | v :: vs,j,h=>by
  unfold Q2h
  have h':=not_or.mp fun z=>h (Q0s.mpr z)
  rw [Q0I fun e=>h'.1 e.symm,q8u h'.2]
theorem z2R {σ:St}:∀ {vs:List Nat} {j:Nat},j ∈ vs→j < σ.length→(wipe σ vs)[j]? = some none
 | v :: vs,j,h,hl=>by
  unfold Q2h
  by_cases e:v = j
  ·subst e; rw [Q0M (by rw [wipe_length]; exact hl)]
  ·rw [Q0I e]
   exact z2R ((Q0s.mp h).resolve_left fun z=>e z.symm) hl
theorem z0q {l vs:List Nat} {σ σ':St} (w:Wip l (wipe σ vs) σ') (h:∀ j ∈ l,j ∈ vs):wipe σ' vs = wipe σ vs:=by
 apply Q1G
 intro j
 by_cases hj:j ∈ vs
 ·by_cases hl:j < σ.length
  ·rw [z2R hj (by rw [w.1,wipe_length]; exact hl),z2R hj hl]
  ·rw [Q2r (by rw [wipe_length,w.1,wipe_length]; omega),Q2r (by rw [wipe_length]; omega)]
 ·rw [q8u hj,q8u hj]
  exact (w.2 j fun z=>hj (h j z)).trans (q8u hj)
theorem q3w (ρ0 ρ:Rho):∀ vs,(q2h ρ0 ρ vs).length = ρ.length
 | []=>rfl
 | v :: vs=>by unfold q2h; rw [Q1m,q3w ρ0 ρ vs]
theorem RepS.rest {S0 H0:Hp} {σ:St} {ρ0:Rho} {f0:List Addr} (h0:RepS c S0 H0 σ ρ0 f0) (ss:Same S0 S):∀ (vs:List Nat) {ρ:Rho} {fps:List Addr},(∀ j ∈ vs,z5m ρ0 j = true)→ρ0.length = ρ.length→RepS c S H (Q2h σ vs) (q0B ρ vs) fps→RepS c S H σ (q2h ρ0 (q0B ρ vs) vs) fps:=by
 -- from any names that are told but for some
 have key:∀ (vs:List Nat) (τ:St) (ρ:Rho) (fps:List Addr),(∀ j ∈ vs,z5m ρ0 j = true)→ρ0.length = ρ.length→τ.length = σ.length→(∀ j:Nat,j ∉ vs→τ[j]? = σ[j]?)→(∀ j ∈ vs,ρ[j]? = some none)→RepS c S H τ ρ fps →
   ∃ τ':St,τ'.length = σ.length∧(∀ j:Nat,τ'[j]? = σ[j]?)∧RepS c S H τ' (q2h ρ0 ρ vs) fps:=by
  intro vs
  induction vs with
  | nil=>exact fun τ ρ fps _ _ hl ho _ r=>⟨τ,hl,fun j=>ho j (by simp),r⟩
  | cons v vs ih=>
   intro τ ρ fps him hlen hl ho hn r
   have hvl:v < ρ.length:=(Q0r.mp (hn v Q0g)).1
   have hvσ:v < σ.length:=by rw [h0.length,hlen]; exact hvl
   -- put the value of v back into the slots
   have r1:=r.any (σ[v]'hvσ) (hn v Q0g)
   have e1:∀ j:Nat,j ∉ vs→(τ.set v (σ[v]'hvσ))[j]? = σ[j]?:=fun j hj=>by
    by_cases e:v = j
    ·subst e; rw [Q0M (by rw [hl]; exact hvσ),Q0G hvσ]
    ·rw [Q0I e]
     exact ho j fun z=>(Q0s.mp z).elim (fun q=>e q.symm) hj
   obtain ⟨τ',l',e',r'⟩:=ih (τ.set v (σ[v]'hvσ)) ρ fps (fun j hj=>him j (Q0h _ hj)) hlen (by rw [Q1m]; exact hl) e1 (fun j hj=>hn j (Q0h _ hj)) r1
   refine ⟨τ',l',e',?_⟩
   unfold q2h
   have iv:=him v Q0g
   unfold z5m at iv
   have rl:=q3w ρ0 ρ vs
   by_cases hin:v ∈ vs
   ·-- it has been put back already
    have at_v:∀ ws:List Nat,v ∈ ws→(q2h ρ0 ρ ws)[v]? = some (ρ0.getD v none):=by
     intro ws
     induction ws with
     | nil=>exact fun z=>nomatch z
     | cons w ws ih2=>
      intro hw
      have rl2:=q3w ρ0 ρ ws
      unfold q2h
      by_cases e:w = v
      ·subst e; rw [Q0M (by rw [rl2]; exact hvl)]
      ·rw [Q0I e]
       exact ih2 ((Q0s.mp hw).resolve_left fun z=>e z.symm)
    have e2:(q2h ρ0 ρ vs).set v (ρ0.getD v none) = q2h ρ0 ρ vs:=by
     apply Q1G
     intro j
     by_cases e:v = j
     ·subst e; rw [Q0M (by rw [rl]; exact hvl),at_v vs hin]
     ·rw [Q0I e]
    rw [e2]
    exact r'
   ·have at_v:∀ ws:List Nat,v ∉ ws→(q2h ρ0 ρ ws)[v]? = ρ[v]?:=by
     intro ws
     induction ws with
     | nil=>exact fun _=>rfl
     | cons w ws ih2=>
      intro hw
      unfold q2h
      rw [Q0I fun e=>hw (by rw [e]; exact Q0g)]
      exact ih2 fun z=>hw (Q0h _ z)
    have hnv:(q2h ρ0 ρ vs)[v]? = some none:=(at_v vs hin).trans (hn v Q0g)
    cases q:ρ0[v]? with
    | none=>exact absurd (Q2z.mp q) (by omega)
    | some o=>
     rw [Q1S,q]
     cases o with
     | none=>
      have e2:(q2h ρ0 ρ vs).set v none = q2h ρ0 ρ vs:=by
       apply Q1G
       intro j
       by_cases e:v = j
       ·subst e; rw [Q0M (by rw [rl]; exact hvl),hnv]
       ·rw [Q0I e]
      show RepS c S H τ' ((q2h ρ0 ρ vs).set v none) fps
      rw [e2]
      exact r'
     | some s=>
      rw [q] at iv
      obtain ⟨b,k⟩:=s
      cases k with
      | atm a=>
       cases a with
       | im d=>
        obtain ⟨u,l,fp,rr,eu,_,hu,_⟩:=h0.at q
        cases hu with
        | atm hu=>
         cases hu with
         | im hu=>exact r'.fill hnv ((e' v).trans eu) (hu.mono ss)
       | _=>exact absurd iv (by simp)
      | _=>exact absurd iv (by simp)
 intro vs ρ fps him hlen r
 obtain ⟨τ',l',e',r'⟩:=key vs (Q2h σ vs) (q0B ρ vs) fps him (by rw [q2m]; exact hlen) (wipe_length _ _) (fun j hj=>q8u hj) (fun j hj=>z3S hj (by
  have:=him j hj
  unfold z5m at this
  cases q:ρ0[j]? with
  | none=>rw [q] at this; exact absurd this (by simp)
  | some o=>rw [← hlen]; exact (Q0r.mp q).1)) r
 rw [← show τ' = σ from Q1G e']
 exact r'
end

def PinV (vs:List Nat) (ρ ρ':Rho):Prop:=ρ.length = ρ'.length∧∀ (j:Nat) s,j ∉ vs→ρ[j]? = some (some s)→s.pin = true→∃ s',ρ'[j]? = some (some s')∧s'.pin = true
theorem PinV.refl (vs:List Nat) (ρ:Rho):PinV vs ρ ρ:=⟨rfl,fun _ s _ h e=>⟨s,h,e⟩⟩
theorem PinV.of {vs:List Nat} {ρ ρ':Rho} (h:PinR ρ ρ'):PinV vs ρ ρ':=⟨h.1,fun j s _ e p=>h.2 j s e p⟩
theorem PinV.trans {vs:List Nat} {ρ ρ1 ρ2:Rho} (a:PinV vs ρ ρ1) (b:PinV vs ρ1 ρ2):PinV vs ρ ρ2:=⟨a.1.trans b.1,fun j s n h e=>by
 obtain ⟨s1,h1,e1⟩:=a.2 j s n h e
 exact b.2 j s1 n h1 e1⟩
theorem PinV.wipe (vs:List Nat) (ρ:Rho):PinV vs ρ (q0B ρ vs):=⟨(q2m ρ vs).symm,fun j s n h e=>⟨s,by rw [q8t n]; exact h,e⟩⟩
theorem z1w {ρ0 ρ:Rho}:∀ {vs:List Nat} {j:Nat},j ∉ vs→(q2h ρ0 ρ vs)[j]? = ρ[j]?
 | [],_,_=>rfl
 | v :: vs,j,h=>by
  unfold q2h
  have h':=not_or.mp fun z=>h (Q0s.mpr z)
  rw [Q0I fun e=>h'.1 e.symm,z1w h'.2]
theorem z3T {ρ0 ρ:Rho}:∀ {vs:List Nat} {j:Nat},j ∈ vs→j < ρ.length→(q2h ρ0 ρ vs)[j]? = some (ρ0.getD j none)
 | v :: vs,j,h,hl=>by
  unfold q2h
  by_cases e:v = j
  ·subst e; rw [Q0M (by rw [q3w]; exact hl)]
  ·rw [Q0I e]
   exact z3T ((Q0s.mp h).resolve_left fun z=>e z.symm) hl
theorem PinV.rest {vs:List Nat} {ρ1 ρ2:Rho} (h:PinV vs ρ1 ρ2):PinR ρ1 (q2h ρ1 (q0B ρ2 vs) vs):=⟨by rw [q3w,q2m]; exact h.1,fun j s e p=>by
 have hl:j < ρ1.length:=(Q0r.mp e).1
 by_cases hj:j ∈ vs
 ·exact ⟨s,by rw [z3T hj (by rw [q2m,← h.1]; exact hl),Q1S,e] <;> rfl,p⟩
 ·rw [z1w hj,q8t hj]
  exact h.2 j s hj e p⟩
theorem z1x (σ:St) (vs:List Nat):Q2h (Q2h σ vs) vs = Q2h σ vs:=z0q (l:=[]) ⟨rfl,fun _ _=>rfl⟩ (fun _ h=>nomatch h)
section
variable {c:Ct} {S H:Hp} {σ:St} {ρ:Rho} {fps:List Addr}
theorem Good.upd0 {p:Addr} {b:Bool} {ds ds':List Dat} {xs':List V} (G:Good c S H (some (.ref p) :: σ) (some ⟨b,.ol ds⟩ :: ρ) fps) (r:Reps c S xs' ds') :
  Good c S (upd H p (.lst xs')) (some (.ref p) :: σ) (some ⟨b,.ol ds'⟩ :: ρ) fps∧Stp S H fps S (upd H p (.lst xs')) fps:=by
 have G0:=G
 obtain ⟨ex,rep,nd,out,tb⟩:=G
 cases rep with
 | @con v b k σ ρ fp f2 h1 h2=>
  cases h1 with
  | atm h1=>
   cases h1 with
   | ol a1 a2=>
    have hp:∀ x ∈ f2,x ≠ p:=fun x hx e=>(Q0P.mp nd).1 (e ▸ hx)
    refine ⟨⟨fun a o q=>?_,.con (.atm (.ol upd_same r)) (h2.keep (Same.refl S) fun x hx=>upd_ne (hp x hx)),nd,out,G0.tb_upd (by simp)⟩,⟨Same.refl S,fun a o q n=>?_,fun a q=>?_,fun a ha=>.inl ha,fun a q=>.inl q⟩⟩
    ·have ne:a ≠ p:=fun e=>by subst e; rw [out a Q0g] at q; cases q
     rw [upd_ne ne]; exact ex a o q
    ·rw [upd_ne fun e=>n (by rw [e]; exact Q0g)]; exact q
    ·by_cases e:a = p
     ·rw [e,upd_same]; exact fun z=>nomatch z
     ·rw [upd_ne e]; exact q
theorem Good.list0 {p:Addr} {b:Bool} {ds:List Dat} {v:V} (G:Good c S H (some v :: σ) (some ⟨b,.ol ds⟩ :: ρ) fps):∃ p xs,v = .ref p∧H p = some (.lst xs)∧Reps c S xs ds:=by
 cases G.rep with
 | con h1 h2=>
  cases h1 with
  | atm h1=>cases h1 with | ol a1 a2=>exact ⟨_,_,rfl,a1,a2⟩
theorem Good.wipe0 {x:V} {s:Slot} (G:Good c S H (some x :: σ) (some s :: ρ) fps) (vs:List Nat):∃ fps',Good c S H (some x :: Q2h σ vs) (some s :: q0B ρ vs) fps'∧Stp S H fps S H fps':=by
 cases G.rep with
 | @con v b k σ ρ fp f2 h1 h2=>
  obtain ⟨f3,r,sb⟩:=h2.wipe vs
  exact ⟨fp ++ f3,G.sub (.con h1 r) (List.Sublist.append (List.Sublist.refl _) sb)⟩
theorem z6l {src:EM (List Dat)} {tg:Tg} {t:EM Bool} {e:EM Dat} {vs:List Nat} (hv:∀ j ∈ tg.slots,j ∈ vs) {Q:VK} (h:tC c (q3Q src tg t e vs) σ H Q):tLc (tI c src) (gT c tg) (tT c t) (tD c e) vs σ H Q:=by
 obtain ⟨S,ρ,fps,k,ρ',G,e0,q⟩:=h
 unfold q3Q at e0
 split at e0
 ·rename_i ds ρ1 e1
  split at e0
  ·rename_i him
   split at e0
   ·rename_i ys ρ2 e2
    split at e0
    ·rename_i hlen
     cases e0
     refine ⟨S,ρ,fps,ds,ρ1,G,e1,fun S1 H1 f1 st1 pin1 G1 J itd D hD=>?_⟩
     obtain ⟨fw,rw,sw⟩:=G1.rep.wipe vs
     obtain ⟨Gw,stw⟩:=G1.sub rw sw
     obtain ⟨Ga,sta⟩:=Gw.alloc (o:=.lst []) hD (k:=.ol []) (.atm (.ol upd_same .nil))
     refine ⟨fun i m Hi=>m = ds.length - i∧i ≤ ds.length∧∃ Si ρi fi acc rest,Stp S H fps Si Hi fi∧PinV vs ρ1 ρi∧Same S1 Si∧Good c Si Hi (some (.ref D) :: Q2h σ vs) (some ⟨false,.ol acc⟩ :: ρi) fi∧q3H tg t e vs (ds.drop i) ρi = some (rest,ρ2)∧acc ++ rest = ys,
      ⟨_,rfl,Q1H _,S1,q0B ρ1 vs,_,[],ys,(st1.trans stw).trans sta,PinV.wipe vs ρ1,Same.refl S1,Ga,e2,rfl⟩,?_⟩
     rintro i m Hi ⟨rfl,hle,Si,ρi,fi,acc,rest,sti,pvi,ssi,Gi,el,ea⟩
     by_cases hlt:i < ds.length
     ·obtain ⟨d,hd⟩:∃ d,ds[i]? = some d:=⟨ds[i],Q0G hlt⟩
      have hdr:ds.drop i = d :: ds.drop (i + 1):=by
       rw [Q1K hlt]
       rw [Q0G hlt] at hd
       cases hd
       rfl
      rw [hdr] at el
      unfold q3H at el
      refine .inr ⟨itd.go i Hi hlt (ssi.trans Gi.ex),fun H'=>ds.length - (i + 1) = ds.length - (i + 1)∧i + 1 ≤ ds.length∧∃ Si ρi fi acc rest,Stp S H fps Si H' fi∧PinV vs ρ1 ρi∧Same S1 Si∧Good c Si H' (some (.ref D) :: Q2h σ vs) (some ⟨false,.ol acc⟩ :: ρi) fi∧q3H tg t e vs (ds.drop (i + 1)) ρi = some (rest,ρ2)∧acc ++ rest = ys,
       fun H' h=>⟨_,by omega,h⟩,fun x H' hy=>?_⟩
      obtain ⟨S2,fr,rep⟩:=itd.yld i d Si Hi x H' hd ssi Gi.ex hy
      obtain ⟨G2,st2⟩:=Gi.fre fr
      obtain ⟨fD,f2,ef,Gp,back⟩:=G2.push
      split at el
      ·rename_i ρa hbd
       refine ⟨S2,ρi,f2,d,ρa,Gp,rep,hbd,fun σ2 f3 st3 p3 w3 G3=>?_⟩
       have ew:Q2h σ2 vs = Q2h σ vs:=(z0q w3 hv)
       refine ⟨ew,?_⟩
       cases ht:t ρa with
       | none=>rw [ht] at el; cases el
       | some p=>
        obtain ⟨bb,ρb⟩:=p
        rw [ht] at el
        refine ⟨S2,ρa,f3,bb,ρb,G3,ht,fun S4 H4 f4 st4 pin4 G4=>?_⟩
        cases bb with
        | false=>
         dsimp only at el
         show _∧_∧_
         obtain ⟨Gb,stb⟩:=back S4 H4 σ2 ρb f4 (st3.trans st4) G4
         obtain ⟨f5,Gc,stc⟩:=Gb.wipe0 vs
         rw [ew] at Gc
         exact ⟨rfl,hlt,S4,q0B ρb vs,f5,acc,rest,((sti.trans st2).trans stb).trans stc,(pvi.trans ((PinV.of (p3.1.trans pin4)))).trans (PinV.wipe vs ρb),(ssi.trans fr.ss).trans (st3.trans st4).ss,Gc,el,ea⟩
        | true=>
         dsimp only at el
         cases he:e ρb with
         | none=>rw [he] at el; cases el
         | some p=>
          obtain ⟨yd,ρc⟩:=p
          rw [he] at el
          dsimp only at el
          show tD c e σ2 H4 _
          refine ⟨S4,ρb,f4,yd,ρc,G4,he,fun S5 H5 f5 st5 pin5 G5 v rv=>?_⟩
          obtain ⟨Gb,stb⟩:=back S5 H5 σ2 ρc f5 ((st3.trans st4).trans st5) G5
          cases ec:q3H tg t e vs (ds.drop (i + 1)) (q0B ρc vs) with
          | none=>rw [ec] at el; cases el
          | some p=>
           obtain ⟨rest',ρd⟩:=p
           rw [ec] at el
           cases el
           obtain ⟨p',xs,ep,hx,rx⟩:=Gb.list0 (p:=D)
           cases ep
           have hl:acc.length + 1 ≤ 100000:=by
            refine Q0S ?_ hlen
            rw [← ea,Q0A,Q0d]
            omega
           refine ⟨xs,hx,by rw [rx.length]; exact q9F hl,?_⟩
           obtain ⟨Gu,stu⟩:=Gb.upd0 (ds':=acc ++ [yd]) (rx.app (.cons rv .nil))
           obtain ⟨f6,Gc,stc⟩:=Gu.wipe0 vs
           rw [ew] at Gc
           exact ⟨rfl,hlt,S5,q0B ρc vs,f6,acc ++ [yd],rest',(((sti.trans st2).trans stb).trans stu).trans stc,(pvi.trans (PinV.of ((p3.1.trans pin4).trans pin5))).trans (PinV.wipe vs ρc),(ssi.trans fr.ss).trans ((st3.trans st4).trans st5).ss,Gc,ec,by rw [← ea,Q0C] <;> rfl⟩
      ·cases el
     ·have he:i = ds.length:=by omega
      subst he
      rw [Q3H] at el
      unfold q3H at el
      cases el
      rw [Q0i] at ea
      subst ea
      refine .inl ⟨itd.stop _ Hi rfl (ssi.trans Gi.ex),?_⟩
      obtain ⟨f5,Gc,stc⟩:=Gi.wipe0 vs
      rw [z1x] at Gc
      cases hr:Gc.rep with
      | @con v b k σ' ρ' fp f6 h1 h2=>
       have hrest:=RepS.rest (c:=c) (S:=Si) (H:=Hi) G1.rep ssi vs (fun j hj=>Q1h.mp him j hj) pvi.1 h2
       obtain ⟨Gz,stz⟩:=Gc.sub (.con h1 hrest) (List.Sublist.refl _)
       exact q _ _ _ _ ((sti.trans stc).trans stz) (pin1.trans pvi.rest) Gz
    ·cases e0
   ·cases e0
  ·cases e0
 ·cases e0
end
theorem _root_.L2.PTs.imp {X:Cx} {ifs:List Expr} {t t':TT} (h:PTs X ifs t) (k:∀ σ H Q,t' σ H Q→t σ H Q):PTs X ifs t':=⟨fun pins s σ H Q I q=>h.run pins s σ H Q I (k σ H Q q)⟩
def z1y:EM Bool:=q2M true
theorem q4b {X:Cx}:PTs X [] (tT (ct X) z1y):=pts_nil.imp fun σ H Q ⟨S,h⟩=>by
 obtain ⟨ex,q⟩:=h.ret
 exact q S H (Fre.refl ex)
section
variable {X:Cx} {elt tge iter:Expr} {ifs:List Expr} {scope:Scope} {own:List (Str × Nat)} {pos:Pos} {src:EM (List Dat)} {tg:Tg} {t:EM Bool} {e:EM Dat}
theorem q9v (own:List (Str × Nat)) (hc:X.calm = true) (hN:X.N.Nodup) (hi:XI X tge iter src) (ok:BlkOk X.N X.env.scope scope own)
  (hg:∀ (s:Shared) (H:Hp) (C:Addr) (cl:List (Str × Addr)) (fp:List Addr),PG (X.blk s H scope (compEnvC scope cl C X.env) fp) tge (gT (ct X) tg)) (ht:∀ (s:Shared) (H:Hp) (C:Addr) (cl:List (Str × Addr)) (fp:List Addr),PTs (X.blk s H scope (compEnvC scope cl C X.env) fp) ifs (tT (ct X) t))
  (he:∀ (s:Shared) (H:Hp) (C:Addr) (cl:List (Str × Addr)) (fp:List Addr),PE (X.blk s H scope (compEnvC scope cl C X.env) fp) elt (tD (ct X) e)) (hv:∀ j ∈ tg.slots,j ∈ own.map (·.2):=by decide) (hs:∀ x,jbg iter X.env x = pure x:=by intro _; rfl) :
  XC X (.ListComp elt [⟨tge,iter,ifs,0⟩] scope pos) (q3Q src tg t e (own.map (·.2))):=
 (pe_lc hc hN hi ok hg ht he hs).imp fun _ _ _ h=>z6l hv h
theorem q4t (i:Nat) (own:List (Str × Nat)) {y:Str} {py spos:Pos} {f:EM Cell} (hf:∀ σ H Q,tC (ct X) f σ H Q→tC (ct X) (q3Q src tg t e (own.map (·.2))) σ H Q) (hc:X.calm = true) (hN:X.N.Nodup) (hi:XI X tge iter src) (ok:BlkOk X.N X.env.scope scope own)
  (hg:∀ (s:Shared) (H:Hp) (C:Addr) (cl:List (Str × Addr)) (fp:List Addr),PG (X.blk s H scope (compEnvC scope cl C X.env) fp) tge (gT (ct X) tg)) (ht:∀ (s:Shared) (H:Hp) (C:Addr) (cl:List (Str × Addr)) (fp:List Addr),PTs (X.blk s H scope (compEnvC scope cl C X.env) fp) ifs (tT (ct X) t))
  (he:∀ (s:Shared) (H:Hp) (C:Addr) (cl:List (Str × Addr)) (fp:List Addr),PE (X.blk s H scope (compEnvC scope cl C X.env) fp) elt (tD (ct X) e)) (hv:∀ j ∈ tg.slots,j ∈ own.map (·.2):=by decide)
  (hy:X.N[i]? = some y:=by rfl) (hyl:X.env.scope.names.lookup y = some .local:=by rfl) (hsw:swapsWith (.ListComp elt [⟨tge,iter,ifs,0⟩] scope pos) (some (.Name y py)) spos.line X.env = pure true:=by exact _root_.L2.sw_true rfl rfl rfl (by decide +kernel)) (hs:∀ x,jbg iter X.env x = pure x:=by intro _; rfl) :
  XS X (.Assign [.Name y py] (.ListComp elt [⟨tge,iter,ifs,0⟩] scope pos) spos) (q4a i f):=
 (ps_setLc hc hN hy hyl hsw hi ok hg ht he hs).imp fun D σ H ⟨S,ρ,fps,fl,G,e0,q⟩=>by
  refine z6l hv (hf _ _ _ ?_)
  unfold q4a at e0
  split at e0
  ·rename_i k ρ1 hf
   split at e0
   ·cases e0
    rename_i ρ2 h2
    refine ⟨S,ρ,fps,k,ρ1,G,hf,fun v S' H' fps' st pin G'=>?_⟩
    obtain ⟨f3,G3,st3⟩:=G'.setS h2
    exact q _ S' H' f3 (st.trans st3) ((Pins.of σ pin).trans (q5D σ v h2)) G3
   ·cases e0
  ·cases e0
theorem x5H (f:EM Cell) {X:Cx}:∀ σ H Q,tC (ct X) f σ H Q→tC (ct X) f σ H Q:=fun _ _ _ h=>h
theorem made (f:EM Cell) {X:Cx}:∀ σ H Q,tC (ct X) (eIm (q1d f)) σ H Q→tC (ct X) f σ H Q:=fun _ _ _ h=>z6h (x2K h)
end
end DL

namespace DL
variable [DL.Tbls]
open PySem PySem.Spec L2

abbrev SpQ:=List V→Hp→VK→Prop
structure FG (c:Ct) (base:Heap) (k:Nat) (f:Addr) (fd:FuncData) (ps:List Str) (sp:SpQ):Prop where
 len:∀ vs H Q,sp vs H Q→vs.length = ps.length
 run:∀ (A:Around) (outer:List Env) (s:Shared) (H:Hp) (args:Args) (us:List Value) (vs:List V) (Q:VK),Room k A→A.guards = some []→Env0 c.P c.w c.K c.mg base A outer s H →
  BindsTo s fd args (ps.zip us)→Vals vs us→sp vs H Q→codeAny (model c.P c.w) A (.call (.ref f) args) (CR CX0 outer c.P c.w H s Q E0) s
def Cl (c:Ct) (base:Heap) (k:Nat) (f:Addr) (ks:List Str) (sp:List V→SpQ):Prop:=
 ∀ (A:Around) (outer:List Env) (s:Shared) (H:Hp) (us ws:List Value) (vs zs:List V) (Q:VK),Room k A→A.guards = some []→Env0 c.P c.w c.K c.mg base A outer s H→Vals vs us→Vals zs ws→zs.length = ks.length→sp vs zs H Q →
  codeAny (model c.P c.w) A (.call (.ref f) ⟨us,ks.zip ws⟩) (CR CX0 outer c.P c.w H s Q E0) s
theorem Cl.mono {c:Ct} {base:Heap} {j k:Nat} {f:Addr} {ks:List Str} {sp:List V→SpQ} (h:Cl c base j f ks sp) (e:j ≤ k):Cl c base k f ks sp:=
 fun A outer s H us ws vs zs Q hr=>h A outer s H us ws vs zs Q (hr.mono e)

section
variable {c:Ct} {base:Heap} {k:Nat} {f:Addr} {name qual:Str} {params:Arguments} {body:List Stmt} {scope:Scope} {dV kV doc pm cdv ct' oc:Value} {an od:Option Addr} {osl:Array (Option Value)} {N ps:List Str} {sp:SpQ}
theorem x5I (lk:c.K.lookup f = some ⟨oc,od,.func (Q1T name qual params body scope dV kV doc pm an cdv ct'),osl⟩) (hcd:Q2l c.K cdv qual = true) (S:FnScope N ps scope) (len:∀ vs H Q,sp vs H Q→vs.length = ps.length)
  (hb:∀ (A:Around) (outer:List Env) (s:Shared) (H:Hp) (vs:List V) (Q:VK),Room k (A.deeper (Q4c qual scope s.heap.objs.size f cdv))→A.guards = some []→sp vs H Q →
   ∃ t,PSs (cxOf CX0 c.P c.w c.K c.mg base N qual scope f cdv A outer s H E0).nox body t∧t { nx:=fun _ H'=>Q .non H',rt:=Q } (Q3z N vs) H) :
  FG c base (k + 1) f (Q1T name qual params body scope dV kV doc pm an cdv ct') ps sp:=
 ⟨len,fun A outer s H args us vs Q hr hg e0 hbd r hsp=>StX.run_bnd (CX:=CX0) (E:=E0) (G:=fun xs H2=>xs = vs∧H2 = H) lk hcd S hr e0
  (fun A' Ex Q' h=>hbd _ A' Ex Q' (h s H vs us e0 Un.refl rfl (fun _ _ z=>z) r (len vs H Q hsp) ⟨rfl,rfl⟩))
  fun s2 H2 xs ⟨e1,e2⟩ hr'=>by
   subst e1 e2
   obtain ⟨t,h,q⟩:=hb A outer s2 _ _ Q hr' hg hsp
   exact ⟨t,h.nox,q⟩⟩
theorem x2Q {pv:Str} (lk:c.K.lookup f = some ⟨oc,od,.func (Q1T name qual params body scope dV kV doc pm an cdv ct'),osl⟩) (hcd:Q2l c.K cdv qual = true) (S:FnScope N (ps ++ [pv]) scope)
  (hbn:∀ us rest:List Value,us.length = ps.length→bindArgs (Q1T name qual params body scope dV kV doc pm an cdv ct') ⟨us ++ rest,[]⟩ = (newTuple rest >>= fun t=>pure (ps.zip us ++ [(pv,t)])))
  (hb:∀ (A:Around) (outer:List Env) (s:Shared) (H:Hp) (vs:List V) (Q:VK),Room k (A.deeper (Q4c qual scope s.heap.objs.size f cdv))→A.guards = some []→sp vs H Q →
   ∃ t,PSs (cxOf CX0 c.P c.w c.K c.mg base N qual scope f cdv A outer s H E0).nox body t∧t { nx:=fun _ H'=>Q .non H',rt:=Q } (Q3z N vs) H) :
  Cl c base (k + 1) f [] (fun vs _ H Q=>∃ ws rest,vs = ws ++ rest∧ws.length = ps.length∧rest.length ≤ sizeLine∧∀ p,H p = none→sp (ws ++ [V.ref p]) (upd H p (.tup rest)) Q):=by
 intro A outer s H us0 ws0 vs zs Q hr hg e0 r rz hz hsp
 obtain ⟨ws,rest,ev,hl,hzl,hq⟩:=hsp
 subst ev
 cases zs with
 | cons _ _=>cases hz
 | nil=>
 cases rz
 obtain ⟨u1,u2,eu,r1,r2⟩:=StX.vals_split r
 subst eu
 have hn:H s.heap.objs.size = none:=e0.hok.fresh (Q0W _)
 have hl1:u1.length = ps.length:=by rw [← r1.length]; exact hl
 have hl2:u2.length ≤ sizeLine:=by rw [← r2.length]; exact hzl
 refine StX.run_bnd (CX:=CX0) (E:=E0) lk hcd S hr e0 (G:=fun xs H2=>∃ p,H p = none∧xs = ws ++ [V.ref p]∧H2 = upd H p (.tup rest))
  (fun A' Ex Q' h=>?_) (fun s2 H2 xs ⟨p,hp,ex,eH⟩ hr'=>?_)
 ·rw [show (⟨u1 ++ u2,([]:List Str).zip []⟩:Args) = ⟨u1 ++ u2,[]⟩ from rfl,hbn u1 u2 hl1]
  have new:ObjOk c.P c.w (upd H s.heap.objs.size (.tup rest)) (s.heap.push ({ cls:=.type "tuple",data:=.seq u2.toArray }:Obj)) s.heap.objs.size (.tup rest):=
   ⟨hzl,u2,r2,⟨_,Heap.get?_push_size _ rfl,rfl,_,rfl⟩⟩
  have z:=h _ _ (ws ++ [V.ref s.heap.objs.size]) (u1 ++ [Value.ref s.heap.objs.size]) (StX.env0_laid e0 new) (StX.un_laid hn) rfl (fun _ _ z=>z) (r1.append (.cons rfl .nil))
   (by rw [Q0A,Q0A,hl] <;> rfl) ⟨_,hn,rfl,rfl⟩
  rw [List.zip_append hl1.symm] at z
  exact jbb (wpAny_newTuple (jbc z) hl2)
 ·subst ex eH
  obtain ⟨t,h,q⟩:=hb A outer s2 _ _ Q hr' hg (hq p hp)
  exact ⟨t,h.nox,q⟩
theorem FG.cl {fd:FuncData} (F:FG c base k f fd ps sp) {dvs:List V} {ds:List Value} (hb:Binds c.K fd ps ds) (hd:Vals dvs ds):Cl c base k f [] (fun vs _ H Q=>sp (vs ++ dvs) H Q):=by
 intro A outer s H us ws vs zs Q hr hg e0 r rz hz hsp
 have r2:Vals (vs ++ dvs) (us ++ ds):=r.append hd
 have hl:(us ++ ds).length = ps.length:=by rw [← r2.length]; exact F.len _ _ _ hsp
 have KX:c.K.In s.heap:=e0.mod.kin.keeps fun b o e=>(e0.bs b o e).1
 exact F.run A outer s H ⟨us,[]⟩ (us ++ ds) (vs ++ dvs) Q hr hg e0 (hb s us KX hl) r2 hsp
theorem FG.cl0 {fd:FuncData} (F:FG c base k f fd ps sp) (hb:Binds c.K fd ps []):Cl c base k f [] (fun vs _ H Q=>sp vs H Q):=by
 have h:=F.cl hb (dvs:=[]) .nil
 simpa only [Q0i] using h
theorem FG.clk {fd:FuncData} (F:FG c base k f fd ps sp) {n:Nat} {ks:List Str} {g:List Value→List Value→List Value} {gV:List V→List V→List V} (hb:KBn c.K fd ps n ks g gV) :
  Cl c base k f ks (fun vs zs H Q=>vs.length = n∧sp (gV vs zs) H Q):=by
 intro A outer s H us ws vs zs Q hr hg e0 r rz hz hsp
 obtain ⟨hn,hsp⟩:=hsp
 have KX:c.K.In s.heap:=e0.mod.kin.keeps fun b o e=>(e0.bs b o e).1
 exact F.run A outer s H ⟨us,ks.zip ws⟩ (g us ws) (gV vs zs) Q hr hg e0 (hb.to s us ws KX (r.length.symm.trans hn) (rz.length.symm.trans hz)) (hb.rel r rz) hsp
end

def spP (c:Ct) (n:Nat) (F:List Dat→Option Cell):SpQ:=fun vs H Q=>vs.length = n∧∃ S ds r,Same S H∧Tbs S H∧Reps c S vs ds∧F ds = some r ∧
 ∀ v S' H' fp',Stp S H [] S' H' fp'→Good c S' H' [some v] [some ⟨false,r⟩] fp'→Q v H'
def spO (c:Ct) (n:Nat) (F:Cell→List Dat→Option (Cell × Cell)):SpQ:=fun vs H Q=>∃ v0 ws,vs = v0 :: ws∧ws.length = n∧∃ S o fp ds r o',Good c S H [some v0] [some ⟨true,o⟩] fp∧Reps c S ws ds∧F o ds = some (r,o') ∧
 ∀ v S' H' fp',Stp S H fp S' H' fp'→Good c S' H' [some v,some v0] [some ⟨false,r⟩,some ⟨true,o'⟩] fp'→Q v H'
def imS (d:Dat):Option Slot:=some ⟨false,.im d⟩
def x5J (nl:Nat) (s:SD):List Dat→Option Cell:=fun ds=>match s (ds.map imS ++ Q0p nl none) with
 | some (.rt k _)=>some k
 | some (.nx _)=>some (.im .non)
 | _=>none
def x5K (nl:Nat) (s:SD):Cell→List Dat→Option (Cell × Cell):=fun o ds=>match s (some ⟨true,o⟩ :: (ds.map imS ++ Q0p nl none)) with
 | some (.rt k (some s :: _))=>some (k,s.cell)
 | some (.nx (some s :: _))=>some (.im .non,s.cell)
 | _=>none
section
variable {c:Ct} {S H:Hp}
theorem RepS.non_all:∀ n:Nat,RepS c S H (Q0p n none) (Q0p n none) []
 | 0=>.nil
 | n + 1=>.non (RepS.non_all n)
theorem RepS.of_reps:∀ {vs:List V} {ds:List Dat} (n:Nat),Reps c S vs ds→RepS c S H (vs.map some ++ Q0p n none) (ds.map imS ++ Q0p n none) []
 | _,_,n,.nil=>RepS.non_all n
 | _,_,n,.cons r t=>.con (fp:=[]) (.atm (.im r)) (RepS.of_reps n t)
theorem RepS.head {v:V} {s:Slot} {σ:St} {ρ:Rho} {fps:List Addr} (h:RepS c S H (some v :: σ) (some s :: ρ) fps):∃ fp r,fps = fp ++ r∧RepC c S H v s.cell fp∧RepS c S H σ ρ r:=by
 cases h with
 | con h1 h2=>exact ⟨_,_,rfl,h1,h2⟩
theorem Good.head {v:V} {s:Slot} {σ:St} {ρ:Rho} {fps:List Addr} (G:Good c S H (some v :: σ) (some s :: ρ) fps):∃ fp',Good c S H [some v] [some s] fp'∧Stp S H fps S H fp':=by
 obtain ⟨fp,r,e,h1,h2⟩:=G.rep.head
 subst e
 obtain ⟨b,k⟩:=s
 have z:=G.sub (σ':=[some v]) (ρ':=[some ⟨b,k⟩]) (fps':=fp ++ []) (.con h1 .nil) (by rw [Q0i]; exact Q3v _ _)
 exact ⟨fp ++ [],z⟩
theorem x1B {X:Cx} {body:List Stmt} {s:SD} {n:Nat} {vs:List V} {Q:VK} (hb:XSs X body s) (nl:Nat) (hN:X.N.length = n + nl) (h:spP (ct X) n (x5J nl s) vs H Q):PSs X body (tS (ct X) s)∧tS (ct X) s { nx:=fun _ H'=>Q .non H',rt:=Q } (Q3z X.N vs) H:=by
 refine ⟨hb,?_⟩
 obtain ⟨hl,S,ds,r,ex,tb,rp,e,q⟩:=h
 unfold x5J at e
 have est:Q3z X.N vs = vs.map some ++ Q0p nl none:=by unfold Q3z; rw [hN,hl,Nat.add_sub_cancel_left]
 rw [est]
 have G:Good (ct X) S H (vs.map some ++ Q0p nl none) (ds.map imS ++ Q0p nl none) []:=⟨ex,RepS.of_reps nl rp,Q1B,fun a ha=>(nomatch ha),tb⟩
 split at e
 ·rename_i k ρ' hs
  cases e
  refine ⟨S,_,[],_,G,hs,fun v σ' S' H' f' st p G'=>?_⟩
  obtain ⟨f2,G2,st2⟩:=G'.head
  exact q v S' H' f2 (st.trans st2) G2
 ·rename_i ρ' hs
  cases e
  refine ⟨S,_,[],_,G,hs,fun σ' S' H' f' st p G'=>?_⟩
  obtain ⟨f2,G2,st2⟩:=(G'.put0 (.non)).head
  exact q .non S' H' f2 (st.trans st2) G2
 ·cases e
theorem Good.head2 {v v0:V} {s s0:Slot} {σ:St} {ρ:Rho} {fps:List Addr} (G:Good c S H (some v :: some v0 :: σ) (some s :: some s0 :: ρ) fps):∃ fp',Good c S H [some v,some v0] [some s,some s0] fp'∧Stp S H fps S H fp':=by
 obtain ⟨fp,r,e,h1,h2⟩:=G.rep.head
 obtain ⟨fp2,r2,e2,h3,h4⟩:=h2.head
 subst e e2
 obtain ⟨b,k⟩:=s
 obtain ⟨b0,k0⟩:=s0
 have z:=G.sub (σ':=[some v,some v0]) (ρ':=[some ⟨b,k⟩,some ⟨b0,k0⟩]) (fps':=fp ++ (fp2 ++ [])) (.con h1 (.con h3 .nil)) (by
  rw [Q0i]
  exact List.Sublist.append (List.Sublist.refl _) (Q3v _ _))
 exact ⟨_,z⟩
theorem x5L {X:Cx} {body:List Stmt} {s:SD} {n:Nat} {vs:List V} {Q:VK} (hb:XSs X body s) (nl:Nat) (hN:X.N.length = n + 1 + nl) (h:spO (ct X) n (x5K nl s) vs H Q):PSs X body (tS (ct X) s)∧tS (ct X) s { nx:=fun _ H'=>Q .non H',rt:=Q } (Q3z X.N vs) H:=by
 refine ⟨hb,?_⟩
 obtain ⟨v0,ws,rfl,hl,S,o,fp,ds,r,o',G0,rp,e,q⟩:=h
 unfold x5K at e
 have est:Q3z X.N (v0 :: ws) = some v0 :: (ws.map some ++ Q0p nl none):=by
  unfold Q3z
  rw [hN,Q0d,hl,Nat.add_sub_cancel_left]
  rfl
 rw [est]
 have G:Good (ct X) S H (some v0 :: (ws.map some ++ Q0p nl none)) (some ⟨true,o⟩ :: (ds.map imS ++ Q0p nl none)) fp:=by
  obtain ⟨f1,r1,e1,h1,h2⟩:=G0.rep.head
  cases h2
  rw [Q0i] at e1
  subst e1
  have z:=RepS.con (b:=true) h1 (RepS.of_reps (H:=H) nl rp)
  rw [Q0i] at z
  exact ⟨G0.ex,z,G0.nd,G0.out,G0.tb⟩
 split at e
 ·rename_i k s' ρ' hs
  cases e
  refine ⟨S,_,fp,_,G,hs,fun v σ' S' H' f' st p G'=>?_⟩
  have e0:=p.2 0 ⟨true,o⟩ rfl rfl
  cases σ' with
  | nil=>cases e0
  | cons x σ'=>
   cases e0
   obtain ⟨s2,hs2,hp2⟩:=p.1.2 0 ⟨true,o⟩ rfl rfl
   cases hs2
   obtain ⟨f2,G2,st2⟩:=G'.head2
   obtain ⟨b',k'⟩:=s'
   cases hp2
   exact q v S' H' f2 (st.trans st2) G2
 ·rename_i s' ρ' hs
  cases e
  refine ⟨S,_,fp,_,G,hs,fun σ' S' H' f' st p G'=>?_⟩
  have e0:=p.2 0 ⟨true,o⟩ rfl rfl
  cases σ' with
  | nil=>cases e0
  | cons x σ'=>
   cases e0
   obtain ⟨s2,hs2,hp2⟩:=p.1.2 0 ⟨true,o⟩ rfl rfl
   cases hs2
   obtain ⟨f2,G2,st2⟩:=(G'.put0 (.non)).head2
   obtain ⟨b',k'⟩:=s'
   cases hp2
   exact q .non S' H' f2 (st.trans st2) G2
 ·cases e
end

section
variable {c:Ct} {S1 H1:Hp} {σ:St} {ρ:Rho} {f1:List Addr}
theorem Good.beside (G:Good c S1 H1 σ ρ f1) {S' H':Hp} {f0 f':List Addr} {τ:St} {π:Rho} (st:Stp S1 H1 f0 S' H' f') (dj:∀ a ∈ f1,a ∉ f0) (G':Good c S' H' τ π f') :
  RepS c S' H' σ ρ f1∧(f' ++ f1).Nodup∧∀ a ∈ f1,S' a = none:=by
 refine ⟨G.rep.keep st.ss fun x hx=>?_,Q0E.mpr ⟨G'.nd,G.nd,fun a ha b hb e=>?_⟩,fun a ha=>?_⟩
 ·cases q:H1 x with
  | none=>exact absurd q (G.there hx)
  | some o=>
   haveI:=G.nt hx q
   exact st.fr x o q (dj x hx)
 ·subst e
  rcases st.nf a ha with z | z
  ·exact dj a hb z
  ·exact G.there hb z
 ·cases q:S' a with
  | none=>rfl
  | some o=>
   rcases st.ns a (by rw [q]; exact fun z=>nomatch z) with z | z | z
   ·exact absurd (G.out a ha) z
   ·exact absurd z (dj a ha)
   ·exact absurd z (G.there ha)
end
def q1l (F:List Dat→Option Cell) (dfl:List Dat) (t:EM (List Dat)):EM Cell:=q0J t fun ds=>q3a (F (ds ++ dfl))
def z2S (F:Cell→List Dat→Option (Cell × Cell)) (i:Nat) (ds:List Dat):EM Cell:=fun ρ=>match ρ[i]? with
 | some (some s)=>match F s.cell ds with
  | some (r,o')=>some (r,ρ.set i (some ⟨s.pin,o'⟩))
  | none=>none
 | _=>none
def q2n (F:Cell→List Dat→Option (Cell × Cell)) (dfl:List Dat) (i:Nat) (t:EM (List Dat)):EM Cell:=fun ρ=>match ρ[i]? with
 | some (some _)=>q0J t (fun ds=>z2S F i (ds ++ dfl)) ρ
 | _=>none
section
variable {c:Ct} {σ:St} {S H:Hp} {ρ ρ':Rho} {fps:List Addr} {Q:VK}
theorem q8v {F:List Dat→Option Cell} {n:Nat} {vs:List V} {ds:List Dat} {r:Cell} (G:Good c S H σ ρ fps) (hr:Reps c S vs ds) (hn:vs.length = n) (e:F ds = some r)
  (q:∀ v S' H' fps',Stp S H fps S' H' fps'→Good c S' H' (some v :: σ) (some ⟨false,r⟩ :: ρ) fps'→Q v H'):spP c n F vs H Q:=by
 refine ⟨hn,S,_,r,G.ex,G.tb,hr,e,fun v S' H' fp' st G'=>?_⟩
 obtain ⟨r1,nd,out⟩:=G.beside st (fun _ _ z=>nomatch z) G'
 obtain ⟨fp,r0,ef,h1,h2⟩:=G'.rep.head
 cases h2
 rw [Q0i] at ef
 subst ef
 refine q v S' H' (fp' ++ fps) ⟨st.ss,fun a o z n=>st.fr a o z fun w=>(nomatch w),st.dom,fun a ha=>?_,fun a ha=>?_⟩ ⟨G'.ex,.con h1 r1,nd,fun a ha=>(Q0k.mp ha).elim (G'.out a) (out a),G'.tb⟩
 ·rcases Q0k.mp ha with ha | ha
  ·exact (st.nf a ha).elim (fun z=>nomatch z) .inr
  ·exact .inl ha
 ·rcases st.ns a ha with z | z | z
  ·exact .inl z
  ·exact nomatch z
  ·exact .inr (.inr z)
theorem z6m {F:Cell→List Dat→Option (Cell × Cell)} {n i:Nat} {v0:V} {vs:List V} {ds:List Dat} {r o':Cell} {s:Slot} (G:Good c S H σ ρ fps) (hs:ρ[i]? = some (some s)) (hv:σ[i]? = some (some v0)) (hr:Reps c S vs ds) (hn:vs.length = n) (e:F s.cell ds = some (r,o'))
  (q:∀ v S' H' fps',Stp S H fps S' H' fps'→PinR ρ (ρ.set i (some ⟨s.pin,o'⟩))→Good c S' H' (some v :: σ) (some ⟨false,r⟩ :: ρ.set i (some ⟨s.pin,o'⟩)) fps'→Q v H'):spO c n F (v0 :: vs) H Q:=by
 obtain ⟨w,l,fp,rr,ew,ef,h1,put⟩:=G.rep.at hs
 rw [hv] at ew
 cases ew
 subst ef
 have nd:=G.nd
 have dis:∀ a,a ∈ l ++ rr→a ∉ fp:=fun a ha hb=>by
  simp only [Q0E,Q0k] at nd ha
  grind
 have nfp:fp.Nodup:=by
  simp only [Q0E] at nd
  exact nd.2.1.1
 refine ⟨v0,vs,rfl,hn,S,s.cell,fp,ds,r,o',⟨G.ex,?_,nfp,fun a ha=>G.out a (by simp only [Q0k]; exact .inr (.inl ha)),G.tb⟩,hr,e,fun v S' H' fp' st G'=>?_⟩
 ·have z:=RepS.con (b:=true) h1 (RepS.nil (c:=c) (S:=S) (H:=H))
  rw [Q0i] at z
  exact z
 obtain ⟨f2,r2,e2,k1,k2⟩:=G'.rep.head
 obtain ⟨f3,r3,e3,k3,k4⟩:=k2.head
 cases k4
 rw [Q0i] at e3
 subst e3 e2
 have same:∀ x ∈ l ++ rr,H' x = H x:=fun x hx=>by
  cases qx:H x with
  | none=>exact absurd qx (G.there (by simp only [Q0k] at hx ⊢; grind))
  | some o=>
   haveI:=G.nt (a:=x) (by simp only [Q0k] at hx ⊢; grind) qx
   exact st.fr x o qx (dis x hx)
 have nS:∀ x ∈ l ++ rr,S' x = none:=fun x hx=>by
  have hx':x ∈ l ++ (fp ++ rr):=by simp only [Q0k] at hx ⊢; grind
  cases qx:S' x with
  | none=>rfl
  | some o=>
   rcases st.ns x (by rw [qx]; exact fun z=>nomatch z) with z | z | z
   ·exact absurd (G.out x hx') z
   ·exact absurd z (dis x hx)
   ·exact absurd z (G.there hx')
 have newd:∀ x ∈ f2 ++ r2,x ∉ l∧x ∉ rr:=fun x hx=>by
  rcases st.nf x hx with z | z
  ·exact ⟨fun w=>dis x (Q0q _ w) z,fun w=>dis x (Q0l _ w) z⟩
  ·exact ⟨fun w=>G.there (Q0q _ w) z,fun w=>G.there (Q0l _ (Q0l _ w)) z⟩
 have hset:σ.set i (some v0) = σ:=by
  apply Q1G
  intro j
  by_cases hj:i = j
  ·subst hj
   rw [Q0M (Q0r.mp hv).1,hv]
  ·rw [Q0I hj]
 have rep':=put S' H' s.pin o' v0 r2 st.ss same k3
 rw [hset] at rep'
 have nd2:=G'.nd
 refine q v S' H' (f2 ++ (l ++ (r2 ++ rr))) ⟨st.ss,fun a o z n=>st.fr a o z fun w=>n (Q0l _ (Q0q _ w)),st.dom,fun a ha=>?_,fun a ha=>?_⟩
  ⟨by rw [Q1m],fun j s' hj hp=>?_⟩ ⟨G'.ex,.con k1 rep',?_,fun a ha=>?_,G'.tb⟩
 ·simp only [Q0k] at ha ⊢
  rcases ha with ha | ha | ha | ha
  ·exact (st.nf a (Q0q _ ha)).elim (fun z=>.inl (.inr (.inl z))) .inr
  ·exact .inl (.inl ha)
  ·exact (st.nf a (Q0l _ ha)).elim (fun z=>.inl (.inr (.inl z))) .inr
  ·exact .inl (.inr (.inr ha))
 ·rcases st.ns a ha with z | z | z
  ·exact .inl z
  ·exact .inr (.inl (Q0l _ (Q0q _ z)))
  ·exact .inr (.inr z)
 ·by_cases hij:i = j
  ·subst hij
   rw [hs] at hj
   cases hj
   exact ⟨⟨s.pin,o'⟩,by rw [Q0M (Q0r.mp hs).1],hp⟩
  ·exact ⟨s',by rw [Q0I hij]; exact hj,hp⟩
 ·simp only [Q0E,Q0k] at nd nd2 newd ⊢
  grind
 ·simp only [Q0k] at ha nS
  rcases ha with ha | ha | ha | ha
  ·exact G'.out a (Q0q _ ha)
  ·exact nS a (.inl ha)
  ·exact G'.out a (Q0l _ ha)
  ·exact nS a (.inr ha)
end
end DL

namespace DL
variable [DL.Tbls]
open PySem PySem.Spec L2

structure Rm (A:Around) (k:Nat):Prop where
 hr:Room k A
 hg:A.guards = some []
theorem Rm.mono {A:Around} {j k:Nat} (r:Rm A k) (h:j ≤ k):Rm A j:=⟨r.hr.mono h,r.hg⟩
theorem Rm.in1 {A:Around} {k:Nat} (r:Rm A (k + 1)):Rm A.in1 k:=⟨r.hr.in1,r.hg⟩
theorem Rm.make {A:Around} {k:Nat} (r:Rm A (k + 1)) (C:Addr) (us:List Value) (kw:List (Str × Value)):Rm (A.under (.builtin "type.__call__" ⟨.ref C :: us,kw⟩)) k:=
 ⟨r.hr.make C us kw,by
  have h:=r.hg
  simpa [Around.under,Code.isGuard,Code.guards,guardsOf,pushGuards,guardIds] using h⟩

section
variable {X:Cx} {k:Nat} {f C:Addr} {ks:List Str} {sp:List V→SpQ} {pins:List (Addr × Obj)} {σ:L2.St} {H:Hp} {s:Shared} {Q:VK} {us ws:List Value} {vs zs:List V}
theorem x5M (F:Cl (ct X) X.base k f ks sp) (hr:Rm X.A k) (I:Inv X pins σ H s) (r:Vals vs us) (rz:Vals zs ws) (hz:zs.length = ks.length) (h:sp vs zs H Q):wpAny (model X.prog X.w) X.A (call (.ref f) us (ks.zip ws)) (EP X pins σ Q) X.xe s:=by
 refine wpAny_call (codeAny_mono (F X.A X.stack s H us ws vs zs Q hr.hr hr.hg I.env0 r rz hz h) fun r s' hq=>?_)
 cases r with
 | error e=>exact False.elim hq
 | ok fl=>
  cases fl with
  | ret u=>exact I.after hq
  | next=>exact False.elim hq
  | brk=>exact False.elim hq
  | cont=>exact False.elim hq
theorem q8w (F:Cl (ct X) X.base k f [] sp) (hr:Rm X.A k) (I:Inv X pins σ H s) (r:Vals vs us) (h:sp vs [] H Q):wpAny (model X.prog X.w) X.A (call (.ref f) us) (EP X pins σ Q) X.xe s:=
 x5M (ws:=[]) F hr I r .nil rfl h
theorem x1C (M:Mk X.K C f) (F:Cl (ct X) X.base k f [] sp) (hr:Rm X.A (k + 1)) (I:Inv X pins σ H s) (r:Vals vs us)
  (h:∀ x dx,H x = none→H dx = none→dx ≠ x→sp (.ref x :: vs) [] (upd (upd H dx (.own x)) x (.ins C dx [])) (fun v H2=>v = .non∧Q (.ref x) H2)) :
  wpAny (model X.prog X.w) X.A (call (.ref C) us) (EP X pins σ Q) X.xe s:=by
 have hq:=h (s.heap.objs.size + 1) s.heap.objs.size (I.hok.fresh (Q4d _)) (I.hok.fresh (Q0W _)) (Q2f (Q3G _))
 have I2:=Inv.made (C:=C) I
 have r2:Vals (V.ref (s.heap.objs.size + 1) :: vs) (Value.ref (s.heap.objs.size + 1) :: us):=.cons rfl r
 have hm:=hr.make C us []
 refine wpAny_call (make_map (f:=f) I.kIn M.makes M.init (beq_iff_eq.mp M.fn) (codeAny_mono (F _ X.stack _ _ (Value.ref (s.heap.objs.size + 1) :: us) [] _ [] _ hm.hr hm.hg (I2.env0.make C us []) r2 .nil rfl hq) fun r s' hq'=>?_))
 cases r with
 | error e=>exact False.elim hq'
 | ok fl=>
  cases fl with
  | ret u=>
   obtain ⟨v,H',I3,rv,ev,q3⟩:=I2.after hq'
   subst ev
   exact ⟨rv,⟨V.ref (s.heap.objs.size + 1),H',I3,rfl,q3⟩⟩
  | next=>exact False.elim hq'
  | brk=>exact False.elim hq'
  | cont=>exact False.elim hq'
end

structure Cal (c:Ct) (base:Heap) (k:Nat) (x:Str) (ks:List Str) (sp:List V→SpQ):Prop where
 ex:∃ f,c.mg x = some (.ref f)∧Q1J c.K (.ref f) = true∧Cl c base k f ks sp
section
variable {X:Cx} {k j:Nat} {ks:List Str} {sp:List V→SpQ} {x m:Str} {p pos apos:Pos} {e o:Expr} {es:List Expr} {kws:List Keyword} {ta:TE} {t tk:TA}
theorem x2R (F:Cal (ct X) X.base k x [] sp) (R:Rm X.A j) (hj:k ≤ j) (hg:Gl X x) (ha:PA X (e :: es) t) (hdb:(x == ("__debug__":Str)) = false:=by decide)
  (he:starEach (e :: es) X.env = (false,eval e X.env) :: starEach es X.env:=by rfl) (hpl:(backTo pos (starEach es X.env)).any (·.1) = false:=by rfl) :
  PE X (.Call (.Name x p) (e :: es) [] pos) (fun σ H Q=>t σ H fun vs H1=>sp vs [] H1 Q):=by
 obtain ⟨f,hm,hk,F⟩:=F.ex
 refine ⟨fun pins s σ H Q I h=>?_⟩
 refine wpAny_Call_Name_kw (ld_glob I hg hm ?_ hdb)
 refine Q2p (h₀:=X.base) I.ok.mod.kin hk (thn (ha.run pos pins s σ H _ I h) fun us s1 ⟨vs,H1,I1,r,q⟩=>⟨I1.kIn,?_⟩) he hpl
 exact q8w F (R.mono hj) I1 r q
theorem x5N {C f:Addr} (M:Mk X.K C f) (F:Cl (ct X) X.base k f [] sp) (R:Rm X.A j) (hj:k + 1 ≤ j) (hg:Gl X x) (hm:X.mg x = some (.ref C)) (ha:PA X (e :: es) t) (hdb:(x == ("__debug__":Str)) = false:=by decide)
  (he:starEach (e :: es) X.env = (false,eval e X.env) :: starEach es X.env:=by rfl) (hpl:(backTo pos (starEach es X.env)).any (·.1) = false:=by rfl) :
  PE X (.Call (.Name x p) (e :: es) [] pos) (fun σ H Q=>t σ H fun vs H1=>∀ x dx,H1 x = none→H1 dx = none→dx ≠ x→sp (.ref x :: vs) [] (upd (upd H1 dx (.own x)) x (.ins C dx [])) (fun v H2=>v = .non∧Q (.ref x) H2)):=by
 refine ⟨fun pins s σ H Q I h=>?_⟩
 refine wpAny_Call_Name_kw (ld_glob I hg hm ?_ hdb)
 refine Q2p (h₀:=X.base) I.ok.mod.kin M.kp (thn (ha.run pos pins s σ H _ I h) fun us s1 ⟨vs,H1,I1,r,q⟩=>⟨I1.kIn,?_⟩) he hpl
 exact x1C M F (R.mono hj) I1 r q
theorem x5O {C g:Addr} {pl:Sem Bool} (he:PE X o ta) (c:Cls X.K C) (hm:Meth X.K C m g) (F:Cl (ct X) X.base k g [] sp) (R:Rm X.A j) (hj:k ≤ j) (ha:PA X (e :: es) t)
  (hst:starEach (e :: es) X.env = (false,eval e X.env) :: starEach es X.env:=by rfl) (hpl:(backTo pos (starEach es X.env)).any (·.1) = false:=by rfl)
  (ht:eval (.Call (.Attribute o m apos) (e :: es) [] pos) X.env = (do
   let ov ← eval o X.env
   standAt apos.atName
   let (f,first) ← holding [ov] (getMethod ov m pl)
   callWith pos f first (backTo pos (starEach (e :: es) X.env)) (backToKw pos (jbi [] X.env))):=by rfl) :
  PE X (.Call (.Attribute o m apos) (e :: es) [] pos) (fun σ H Q=>ta σ H fun x H1=>∃ a dx fs,x = .ref a∧H1 a = some (.ins C dx fs)∧fs.lookup m = none∧t σ H1 fun vs H2=>sp (x :: vs) [] H2 Q):=by
 refine ⟨fun pins s σ H Q I h=>?_⟩
 refine Q2P (pl:=pl) (thn (he.run pins s σ H _ I h) fun u s1 ⟨x,H1,I1,rx,a,dx,fs,ex,ea,l,q⟩=>?_) ht
 subst ex
 obtain rfl:u = Value.ref a:=rx
 refine getmeth_ok I1 ea c hm l ?_
 refine Q2p (first:=[.ref a]) (h₀:=X.base) I.ok.mod.kin hm.kp (thn (ha.run pos pins s1 σ H1 _ I1 q) fun us s2 ⟨vs,H2,I2,r,q2⟩=>⟨I2.kIn,?_⟩) hst hpl
 exact q8w (us:=.ref a :: us) (vs:=.ref a :: vs) F (R.mono hj) I2 (.cons rfl r) q2
theorem x5P {C pa g:Addr} (he:PE X e ta) (c:Cls X.K C) (hp:PropOf X.K C m pa g) (F:Cl (ct X) X.base k g [] sp) (R:Rm X.A j) (hj:k + 1 ≤ j) (hab:attributeBase e m X.env (eval e X.env) = eval e X.env:=by rfl) :
  PE X (.Attribute e m pos) (fun σ H Q=>ta σ H fun x H1=>∃ a dx fs,x = .ref a∧H1 a = some (.ins C dx fs)∧sp [x] [] H1 Q):=by
 refine ⟨fun pins s σ H Q I h=>?_⟩
 refine attr_of hab (thn (he.run pins s σ H _ I h) fun u s1 ⟨x,H1,I1,rx,a,dx,fs,ex,ea,q⟩=>?_)
 subst ex
 obtain rfl:u = Value.ref a:=rx
 obtain ⟨mA,O,_,_,_,_⟩:=ins_get I1.hok ea
 obtain ⟨od,J,_⟩:=O.look
 obtain ⟨rest,hrec⟩:=hp.rec_
 have I2:=I1.tok (s1.toks + 1)
 have hc:(Q4i X.K C).isSome = true:=by
  obtain ⟨cd,hc,_⟩:=PySem.W.any_some c.hd
  rw [hc]
  rfl
 refine PySem.W.get_bind I1.kIn J (PySem.W.plainGet_of (c.get m)).1 (PySem.W.findObj_data hc hp.at_ hp.get hp.tak) (PySem.W.plainGet_of (c.get m)).2 (wpAny_call (PySem.W.prop_get (s:={ s1 with toks:=s1.toks + 1 }) I1.kIn hrec ?_))
 have R1:=(R.mono hj).in1
 refine codeAny_mono (F X.A.in1 X.stack { s1 with toks:=s1.toks + 1 } H1 [.ref a] [] [.ref a] [] Q R1.hr R1.hg I2.env0.in1 (.cons rfl .nil) .nil rfl q) fun r s' hq=>?_
 cases r with
 | error er=>exact False.elim hq
 | ok fl=>
  cases fl with
  | ret u=>
   obtain ⟨v,H',I3,rv,q3⟩:=I2.after hq
   show wpAny _ _ (handedOut u) _ _ _
   rw [PySem.W.handedOut_of (handed_of rv)]
   exact jbc ⟨v,H',I3,rv,q3⟩
  | next=>exact False.elim hq
  | brk=>exact False.elim hq
  | cont=>exact False.elim hq
end
end DL

namespace DL
variable [DL.Tbls]
open PySem PySem.Spec L2

def spA (c:Ct) (F:List Dat→Option Cell):SpQ:=fun vs H Q=>spP c vs.length F vs H Q
def spB (c:Ct) (F:Cell→List Dat→Option (Cell × Cell)):SpQ:=fun vs H Q=>spO c (vs.length - 1) F vs H Q
theorem q6k {c:Ct} {F:List Dat→Option Cell} {n:Nat} (hn:∀ ds,(F ds).isSome = true→ds.length = n) {vs:List V} {H:Hp} {Q:VK} (h:spA c F vs H Q):spP c n F vs H Q:=by
 obtain ⟨_,S,ds,r,ex,tb,rp,e,q⟩:=h
 exact ⟨by rw [rp.length]; exact hn ds (by rw [e] <;> rfl),S,ds,r,ex,tb,rp,e,q⟩
theorem z2T {c:Ct} {F:Cell→List Dat→Option (Cell × Cell)} {n:Nat} (hn:∀ o ds,(F o ds).isSome = true→ds.length = n) {vs:List V} {H:Hp} {Q:VK} (h:spB c F vs H Q):spO c n F vs H Q:=by
 obtain ⟨v0,ws,ev,_,S,o,fp,ds,r,o',G,rp,e,q⟩:=h
 exact ⟨v0,ws,ev,by rw [rp.length]; exact hn o ds (by rw [e] <;> rfl),S,o,fp,ds,r,o',G,rp,e,q⟩
def fnP (n nl:Nat) (s:SD):List Dat→Option Cell:=fun ds=>if ds.length = n then x5J nl s ds else none
def fnO (n nl:Nat) (s:SD):Cell→List Dat→Option (Cell × Cell):=fun o ds=>if ds.length = n then x5K nl s o ds else none
theorem q0Q {n nl:Nat} {s:SD} (ds:List Dat) (h:(fnP n nl s ds).isSome = true):ds.length = n:=by
 unfold fnP at h
 split at h
 ·assumption
 ·cases h
theorem q5a {n nl:Nat} {s:SD} (o:Cell) (ds:List Dat) (h:(fnO n nl s o ds).isSome = true):ds.length = n:=by
 unfold fnO at h
 split at h
 ·assumption
 ·cases h
theorem x1D {c:Ct} {n nl:Nat} {s:SD} {vs:List V} {H:Hp} {Q:VK} (h:spP c n (fnP n nl s) vs H Q):spP c n (x5J nl s) vs H Q:=by
 obtain ⟨hl,S,ds,r,ex,tb,rp,e,q⟩:=h
 unfold fnP at e
 rw [if_pos (rp.length.symm.trans hl)] at e
 exact ⟨hl,S,ds,r,ex,tb,rp,e,q⟩
theorem x5Q {c:Ct} {n nl:Nat} {s:SD} {vs:List V} {H:Hp} {Q:VK} (h:spO c n (fnO n nl s) vs H Q):spO c n (x5K nl s) vs H Q:=by
 obtain ⟨v0,ws,ev,hl,S,o,fp,ds,r,o',G,rp,e,q⟩:=h
 unfold fnO at e
 rw [if_pos (rp.length.symm.trans hl)] at e
 exact ⟨v0,ws,ev,hl,S,o,fp,ds,r,o',G,rp,e,q⟩

structure DefP (c:Ct) (base:Heap) (k:Nat) (x:Str) (dfl:List Dat) (F:List Dat→Option Cell):Prop where
 ex:∃ dvs,(∀ S,Reps c S dvs dfl)∧Cal c base k x [] (fun vs _ H Q=>spA c F (vs ++ dvs) H Q)
structure DefO (c:Ct) (base:Heap) (k:Nat) (x:Str) (F:Cell→List Dat→Option (Cell × Cell)):Prop where
 cal:Cal c base k x [] (fun vs _ H Q=>spB c F vs H Q)
structure DefK (c:Ct) (base:Heap) (k:Nat) (x:Str) (n:Nat) (ks:List Str) (g:List Dat→List Dat→List Dat) (F:List Dat→Option Cell):Prop where
 ex:∃ gV:List V→List V→List V,(∀ S vs zs ds es,Reps c S vs ds→Reps c S zs es→Reps c S (gV vs zs) (g ds es))∧Cal c base k x ks (fun vs zs H Q=>vs.length = n∧spA c F (gV vs zs) H Q)
theorem Cl.imp {c:Ct} {base:Heap} {k:Nat} {f:Addr} {ks:List Str} {sp sp':List V→SpQ} (F:Cl c base k f ks sp) (h:∀ vs zs H Q,zs.length = ks.length→sp' vs zs H Q→sp vs zs H Q):Cl c base k f ks sp':=
 fun A outer s H us ws vs zs Q hr hg e0 r rz hz q=>F A outer s H us ws vs zs Q hr hg e0 r rz hz (h vs zs H Q hz q)
section
variable {c:Ct} {base:Heap} {k:Nat} {f:Addr} {fd:FuncData} {ps:List Str} {x:Str} {n:Nat}
theorem DefP.mk0 {F:List Dat→Option Cell} (g:FG c base k f fd ps (spP c n F)) (hb:Binds c.K fd ps []) (hn:∀ ds,(F ds).isSome = true→ds.length = n) (hm:c.mg x = some (.ref f)) (hk:Q1J c.K (.ref f) = true):DefP c base k x [] F:=
 ⟨[],fun _=>.nil,f,hm,hk,(g.cl0 hb).imp fun vs zs H Q _ h=>by rw [Q0i] at h; exact q6k hn h⟩
theorem DefO.mk0 {F:Cell→List Dat→Option (Cell × Cell)} (g:FG c base k f fd ps (spO c n F)) (hb:Binds c.K fd ps []) (hn:∀ o ds,(F o ds).isSome = true→ds.length = n) (hm:c.mg x = some (.ref f)) (hk:Q1J c.K (.ref f) = true):DefO c base k x F:=
 ⟨f,hm,hk,(g.cl0 hb).imp fun vs zs H Q _ h=>z2T hn h⟩
theorem DefK.of {F:List Dat→Option Cell} {m:Nat} {ks:List Str} {g:List Dat→List Dat→List Dat} {gv:List Value→List Value→List Value} {gV:List V→List V→List V} (G:FG c base k f fd ps (spP c n F)) (hb:KBn c.K fd ps m ks gv gV)
  (hr:∀ S vs zs ds es,Reps c S vs ds→Reps c S zs es→Reps c S (gV vs zs) (g ds es)) (hn:∀ ds,(F ds).isSome = true→ds.length = n) (hm:c.mg x = some (.ref f)) (hk:Q1J c.K (.ref f) = true):DefK c base k x m ks g F:=
 ⟨gV,hr,f,hm,hk,(G.clk hb).imp fun vs zs H Q _ ⟨h1,h2⟩=>⟨h1,q6k hn h2⟩⟩
end

structure q9r (c:Ct) (base:Heap) (k:Nat) (nm m:Str) (F:List Dat→Option Cell):Prop where
 ex:∀ C,c.mg nm = some (.ref C)→Cls c.K C∧∃ g,Meth c.K C m g∧Cl c base k g [] (fun vs _ H Q=>spA c F vs H Q)
structure x5R (c:Ct) (base:Heap) (k:Nat) (nm m:Str) (F:List Dat→Option Cell):Prop where
 ex:∀ C,c.mg nm = some (.ref C)→Cls c.K C∧∃ p g,PropOf c.K C m p g∧Cl c base k g [] (fun vs _ H Q=>spA c F vs H Q)
structure z8T (c:Ct) (base:Heap) (k:Nat) (nm:Str) (F:Cell→List Dat→Option (Cell × Cell)):Prop where
 ex:∃ C f,c.mg nm = some (.ref C)∧Mk c.K C f∧Cl c base k f [] (fun vs _ H Q=>spB c F vs H Q)
def Fd (c:Ct) (nm f:Str):Prop:=∀ C,c.mg nm = some (.ref C)→Cls c.K C∧NoAttr c.K C f

section
variable {c:Ct} {σ:L2.St} {H:Hp} {Q:VK}
theorem z3U {F:List Dat→Option Cell} {dfl:List Dat} {dvs:List V} {t:EM (List Dat)} (hd:∀ S,Reps c S dvs dfl) (h:tC c (q1l F dfl t) σ H Q):tA c t σ H fun vs H1=>spA c F (vs ++ dvs) H1 Q:=
 (z1t h).mono fun vs H1 ⟨S,ds,ρ,fps,k,ρ',G,r,e,q⟩=>by
  obtain ⟨e1,e2⟩:=q1e e
  subst e2
  have rr:=r.app (hd S)
  exact q8v G rr rfl e1 fun v S' H' f' st G'=>q v S' H' f' st (PinR.refl _) G'
theorem z9g {F:Cell→List Dat→Option (Cell × Cell)} {i:Nat} {t:EM (List Dat)} (h:tC c (q2n F [] i t) σ H Q) :
  ∃ v0,σ[i]? = some (some v0)∧tA c t σ H fun vs H1=>spB c F (v0 :: vs) H1 Q:=by
 obtain ⟨S,ρ,fps,k,ρ',G,e,q⟩:=h
 unfold q2n at e
 split at e
 ·rename_i s0 hs0
  obtain ⟨v0,_,_,_,ev,_⟩:=G.rep.at hs0
  refine ⟨v0,ev,(z1t (g:=fun ds=>z2S F i (ds ++ [])) ⟨S,ρ,fps,k,ρ',G,e,q⟩).mono fun vs H1 ⟨S1,ds,ρ1,f1,k1,ρ2,G1,r,e1,q1⟩=>?_⟩
  rw [Q0i] at e1
  unfold z2S at e1
  split at e1
  ·rename_i s hs
   split at e1
   ·rename_i r' o' hF
    cases e1
    exact z6m G1 hs ev r rfl hF fun v S' H' f' st p G'=>q1 v S' H' f' st p G'
   ·cases e1
  ·cases e1
 ·cases e
def q8x (F:Cell→List Dat→Option (Cell × Cell)) (i:Nat):EM Cell:=z2S F i []
theorem z6n {F:Cell→List Dat→Option (Cell × Cell)} {i:Nat} (h:tC c (q8x F i) σ H Q):∃ v0,σ[i]? = some (some v0)∧spB c F [v0] H Q:=by
 obtain ⟨S,ρ,fps,k,ρ',G,e,q⟩:=h
 unfold q8x z2S at e
 split at e
 ·rename_i s hs
  obtain ⟨v0,_,_,_,ev,_⟩:=G.rep.at hs
  split at e
  ·rename_i r' o' hF
   cases e
   exact ⟨v0,ev,z6m G hs ev .nil rfl hF fun v S' H' f' st p G'=>q v S' H' f' st p G'⟩
  ·cases e
 ·cases e
def mkK:Option (Cell × Cell)→Option Cell
 | some (.atm (.im .non),o)=>some o
 | _=>none
theorem z9h {r:Option (Cell × Cell)} {o:Cell} (h:mkK r = some o):r = some (.atm (.im .non),o):=by
 unfold mkK at h
 split at h
 ·cases h; rfl
 ·cases h
def q8y (nm:Str) (F:Cell→List Dat→Option (Cell × Cell)) (t:EM (List Dat)):EM Cell:=q0J t fun ds=>q3a (mkK (F (.oi nm [] []) ds))
theorem z6o {nm:Str} {C:Addr} {F:Cell→List Dat→Option (Cell × Cell)} {t:EM (List Dat)} (hC:c.mg nm = some (.ref C)) (h:tC c (q8y nm F t) σ H Q) :
  tA c t σ H fun vs H1=>∀ x dx,H1 x = none→H1 dx = none→dx ≠ x→spB c F (.ref x :: vs) (upd (upd H1 dx (.own x)) x (.ins C dx [])) (fun v H2=>v = .non∧Q (.ref x) H2):=(z1t h).mono fun vs H1 ⟨S,ds,ρ,fps,k,ρ',G,r,e,q⟩ x dx hx hdx hne=>by
 ·obtain ⟨e1,e2⟩:=q1e e
  subst ρ'
  have hF:=z9h e1
  have f1:Fre S H1 S (upd H1 dx (.own x)):=Fre.more G.ex (q2i hdx)
  obtain ⟨G1,st1⟩:=G.fre f1
  have hx1:upd H1 dx (.own x) x = none:=by rw [upd_ne hne.symm]; exact hx
  obtain ⟨G2,st2⟩:=G1.alloc (o:=.ins C dx []) hx1 (k:=.oi nm [] []) (.oi (fs:=[]) (xs:=[]) hC upd_same rfl .nil)
  refine z6m (i:=0) G2 rfl rfl r rfl hF fun v S' H' f' st p G'=>?_
  obtain ⟨v1,fv,f3,ef,h1,h2⟩:∃ v1 fv f3,f' = fv ++ f3∧RepC c S' H' v1 (.atm (.im .non)) fv∧v1 = v:=by
   cases G'.rep with
   | con h1 h2=>exact ⟨_,_,_,rfl,h1,rfl⟩
  subst h2
  cases h1 with
  | atm h1=>
   cases h1 with
   | im h1=>
    cases h1
    refine ⟨rfl,?_⟩
    have G3:Good c S' H' (some (.ref x) :: σ) (some ⟨false,k⟩ :: ρ) f':=by
     obtain ⟨ex,rep,nd,out,tb⟩:=G'
     cases rep with
     | con a1 a2=>
      cases a1 with
      | atm a1=>
       cases a1 with
       | im a1=>exact ⟨ex,a2,nd,out,tb⟩
    exact q _ S' H' f' ((st1.trans st2).trans st) (PinR.refl _) G3
end
section
variable {X:Cx} {k j:Nat} {x m:Str} {p pos apos:Pos} {e o:Expr} {es:List Expr} {t:EM (List Dat)}
theorem q0H {dfl:List Dat} {F:List Dat→Option Cell} (D:DefP (ct X) X.base k x dfl F) (R:Rm X.A j) (ha:XA X (e :: es) t) (hj:k ≤ j:=by decide) (hg:Gl X x:=by rfl) (hdb:(x == ("__debug__":Str)) = false:=by decide)
  (he:starEach (e :: es) X.env = (false,eval e X.env) :: starEach es X.env:=by rfl) (hpl:(backTo pos (starEach es X.env)).any (·.1) = false:=by rfl) :
  XC X (.Call (.Name x p) (e :: es) [] pos) (q1l F dfl t):=by
 obtain ⟨dvs,hd,C⟩:=D.ex
 exact (x2R C R hj hg ha hdb he hpl).imp fun _ _ _ h=>z3U hd h
theorem q1B {y:Str} {py:Pos} {F:Cell→List Dat→Option (Cell × Cell)} (D:DefO (ct X) X.base k x F) (R:Rm X.A j) (i:Nat) (ha:XA X (e :: es) t) (hj:k ≤ j:=by decide) (hg:Gl X x:=by rfl) (hdb:(x == ("__debug__":Str)) = false:=by decide)
  (hN:X.N[i]? = some y:=by rfl) (hv:Vis X.env.scope y:=by first | exact Or.inl rfl | exact Or.inr (Or.inl rfl) | exact Or.inr (Or.inr rfl)) (hyd:(y == ("__debug__":Str)) = false:=by decide) (hyc:(y == ("__classdict__":Str)) = false:=by decide)
  (h1:starEach (.Name y py :: e :: es) X.env = (false,eval (.Name y py) X.env) :: starEach (e :: es) X.env:=by rfl) (he:(backTo pos (starEach (e :: es) X.env)).any (·.1) = false:=by rfl) :
  XC X (.Call (.Name x p) (.Name y py :: e :: es) [] pos) (q2n F [] i t):=
 (x2R D.cal R hj hg (pa_cons (pe_var hN hv hyd hyc) ha h1) hdb h1 he).imp fun _ _ _ h=>by
  obtain ⟨v0,e0,h⟩:=z9g h
  exact ⟨v0,e0,h⟩
theorem z6p {y:Str} {py:Pos} {F:Cell→List Dat→Option (Cell × Cell)} (D:DefO (ct X) X.base k x F) (R:Rm X.A j) (i:Nat) (hj:k ≤ j:=by decide) (hg:Gl X x:=by rfl) (hdb:(x == ("__debug__":Str)) = false:=by decide)
  (hN:X.N[i]? = some y:=by rfl) (hv:Vis X.env.scope y:=by first | exact Or.inl rfl | exact Or.inr (Or.inl rfl) | exact Or.inr (Or.inr rfl)) (hyd:(y == ("__debug__":Str)) = false:=by decide) (hyc:(y == ("__classdict__":Str)) = false:=by decide)
  (h1:starEach [.Name y py] X.env = (false,eval (.Name y py) X.env) :: starEach [] X.env:=by rfl) (he:(backTo pos (starEach [] X.env)).any (·.1) = false:=by rfl) :
  XC X (.Call (.Name x p) [.Name y py] [] pos) (q8x F i):=
 (x2R D.cal R hj hg (pa_cons (pe_var hN hv hyd hyc) pa_nil h1) hdb h1 he).imp fun _ _ _ h=>by
  obtain ⟨v0,e0,h⟩:=z6n h
  exact ⟨v0,e0,h⟩
theorem q8z {F:Cell→List Dat→Option (Cell × Cell)} (D:z8T (ct X) X.base k x F) (R:Rm X.A j) (ha:XA X (e :: es) t) (hj:k + 1 ≤ j:=by decide) (hg:Gl X x:=by rfl) (hdb:(x == ("__debug__":Str)) = false:=by decide)
  (he:starEach (e :: es) X.env = (false,eval e X.env) :: starEach es X.env:=by rfl) (hpl:(backTo pos (starEach es X.env)).any (·.1) = false:=by rfl) :
  XC X (.Call (.Name x p) (e :: es) [] pos) (q8y x F t):=by
 obtain ⟨C,f,hC,M,cl⟩:=D.ex
 exact (x5N M cl R hj hg hC ha hdb he hpl).imp fun _ _ _ h=>z6o hC h
abbrev XK (X:Cx) (kws:List Keyword) (t:EM (List Dat)):Prop:=PK X kws (tA (ct X) t)
theorem x5S:XK X [] (evs []):=⟨fun pos pins s σ H Q I ⟨S,h⟩=>by
 obtain ⟨ex,q⟩:=h.ret
 exact pk_nil.run pos pins s σ H Q I (q S H (Fre.refl ex) [] .nil)⟩
theorem x2S {nm:Option Str} {kpos:Pos} {kws:List Keyword} {f:EM Dat} {fs:List (EM Dat)} (ha:XE X e f) (hr:XK X kws (evs fs)):XK X (⟨nm,e,kpos⟩ :: kws) (evs (f :: fs)):=⟨fun pos pins s σ H Q I ⟨S,h⟩=>
 (pk_cons ha hr).run pos pins s σ H Q I ⟨S,(show Go (ct X) (q0J f fun d=>q0J (evs fs) fun ds=>q2M (d :: ds)) σ S H _ from h).bind.mono fun x S1 H1 _ q v rv=>⟨S1,q.bind.mono fun ds S2 H2 s2 q vs rvs=>by
  obtain ⟨ex,q⟩:=q.ret
  exact (q S2 H2 (Fre.refl ex)).2.2 _ (.cons (rv.mono s2) rvs)⟩⟩⟩
theorem q9G {c:Ct} {S:Hp} {f:Str} {d:Dat}:∀ {fs:List Str} {xs:List V} {ds:List Dat},Reps c S xs ds→(fs.zip ds).lookup f = some d→∃ v,(fs.zip xs).lookup f = some v∧Rep c S v d
 | [],_,_,_,e=>by cases e
 | g :: fs,_,_,.nil,e=>by cases e
 | g :: fs,_,_,.cons (v:=v) (d:=d') r rs,e=>by
  rw [Q0L,Q2V] at e ⊢
  split at e
  ·cases e; exact ⟨v,by simp_all,r⟩
  ·obtain ⟨w,e1,e2⟩:=q9G rs e
   exact ⟨w,by simp_all,e2⟩
theorem q4c {α β:Type} {f:Str}:∀ {fs:List Str} {xs:List α} {ds:List β},xs.length = ds.length→(fs.zip ds).lookup f = none→(fs.zip xs).lookup f = none
 | [],_,_,_,_=>rfl
 | _ :: _,[],[],_,_=>rfl
 | g :: fs,x :: xs,d :: ds,hl,e=>by
  rw [Q0L,Q2V] at e ⊢
  split at e
  ·cases e
  ·exact q4c (Q3c.inj hl) e
def q6y (nm f:Str):Dat→Option Dat
 | .ins c fs ds=>if c = nm then (fs.zip ds).lookup f else none
 | _=>none
theorem q2o {nm:Str} {g:EM Dat} (hF:Fd (ct X) nm m) (h:XE X e g) (hb:attributeBase e m X.env (eval e X.env) = eval e X.env:=by rfl):XE X (.Attribute e m pos) (e1 (q6y nm m) g):=
 (pe_fld h hb).imp fun _ _ _ h=>(q8o h).mono fun v H1 ⟨S,y,z,ex,rv,e,q⟩=>by
  cases rv with
  | @ins a C dx nm' fs xs ds h0 h1 h2 h3=>
   dsimp only [q6y] at e
   split at e
   ·rename_i he
    subst he
    obtain ⟨u,e1,ru⟩:=q9G h3 e
    obtain ⟨cl,na⟩:=hF C h0
    exact ⟨a,C,dx,_,u,rfl,ex _ _ h1,cl,na,e1,q u S H1 (Fre.refl ex) ru⟩
   ·cases e
  | _=>cases e
def q7O (nm m:Str) (F:List Dat→Option Cell) (g:EM Dat) (t:EM (List Dat)):EM Cell:=q0J g fun d=>match d with
 | .ins c fs ds=>if c = nm∧((fs.zip ds).lookup m).isNone = true then q0J t fun es=>q3a (F (.ins c fs ds :: es)) else eNo
 | _=>eNo
theorem q9H {α:Type} {o:Option α} (h:o.isNone = true):o = none:=by cases o with | none=>rfl | some _=>cases h
theorem q5b {nm:Str} {pl:Sem Bool} {g:EM Dat} {F:List Dat→Option Cell} (D:q9r (ct X) X.base k nm m F) (C:Addr) (hC:X.mg nm = some (.ref C)) (R:Rm X.A j) (he:XE X o g) (ha:XA X (e :: es) t) (hj:k ≤ j:=by decide)
  (hst:starEach (e :: es) X.env = (false,eval e X.env) :: starEach es X.env:=by rfl) (hpl:(backTo pos (starEach es X.env)).any (·.1) = false:=by rfl)
  (ht:eval (.Call (.Attribute o m apos) (e :: es) [] pos) X.env = (do
   let ov ← eval o X.env
   standAt apos.atName
   let (f,first) ← holding [ov] (getMethod ov m pl)
   callWith pos f first (backTo pos (starEach (e :: es) X.env)) (backToKw pos (jbi [] X.env))):=by rfl):XC X (.Call (.Attribute o m apos) (e :: es) [] pos) (q7O nm m F g t):=by
 obtain ⟨cl,mt,hm,F⟩:=D.ex C hC
 refine (x5O (pl:=pl) he cl hm F R hj ha hst hpl ht).imp fun σ H Q h=>?_
 obtain ⟨S,ρ,fps,k,ρ',G,e,q⟩:=h
 obtain ⟨d,ρ1,e1,e2⟩:=q0z e
 refine ⟨S,ρ,fps,d,ρ1,G,e1,fun S1 H1 fps1 st pin G1 v r=>?_⟩
 cases r with
 | @ins a C' dx nm' fs xs ds h0 h1 h2 h3=>
  dsimp only at e2
  split at e2
  ·rename_i hc
   obtain ⟨rfl,hno⟩:=hc
   obtain rfl:C' = C:=by have:=h0.symm.trans hC; cases this; rfl
   refine ⟨a,dx,_,rfl,G1.ex _ _ h1,q4c h3.length (q9H hno),?_⟩
   obtain ⟨zs,ρ2,e3,e4⟩:=q0z e2
   refine ⟨S1,ρ1,fps1,zs,ρ2,G1,e3,fun S2 H2 fps2 st2 pin2 G2 vs rv=>?_⟩
   obtain ⟨e5,e6⟩:=q1e e4
   subst e6
   exact q8v G2 (.cons (Rep.mono st2.ss (.ins h0 h1 h2 h3)) rv) rfl e5 fun v S' H' f' st3 G'=>q v S' H' f' ((st.trans st2).trans st3) (pin.trans pin2) G'
  ·cases e2
 | _=>cases e2
def q9w (nm:Str) (F:List Dat→Option Cell) (g:EM Dat):EM Cell:=q0J g fun d=>match d with
 | .ins c fs ds=>if c = nm then q3a (F [.ins c fs ds]) else eNo
 | _=>eNo
theorem q6l {nm:Str} {g:EM Dat} {F:List Dat→Option Cell} (D:x5R (ct X) X.base k nm m F) (C:Addr) (hC:X.mg nm = some (.ref C)) (R:Rm X.A j) (he:XE X e g) (hj:k + 1 ≤ j:=by decide) (hab:attributeBase e m X.env (eval e X.env) = eval e X.env:=by rfl):XC X (.Attribute e m pos) (q9w nm F g):=by
 obtain ⟨cl,pa,mt,hm,F⟩:=D.ex C hC
 refine (x5P he cl hm F R hj hab).imp fun σ H Q h=>(x1A h).mono fun v H1 ⟨S,d,ρ,fps,k,ρ',G,r,e,q⟩=>?_
 cases r with
 | @ins a C' dx nm' fs xs ds h0 h1 h2 h3=>
  dsimp only at e
  split at e
  ·rename_i hc
   subst hc
   obtain rfl:C' = C:=by have:=h0.symm.trans hC; cases this; rfl
   refine ⟨a,dx,_,rfl,G.ex _ _ h1,?_⟩
   obtain ⟨e5,e6⟩:=q1e e
   subst e6
   exact q8v G (.cons (.ins h0 h1 h2 h3) .nil) rfl e5 fun v S' H' f' st3 G'=>q v S' H' f' st3 (PinR.refl _) G'
  ·cases e
 | _=>cases e
end
end DL

namespace DL
variable [DL.Tbls]
open PySem PySem.Spec L2

inductive Pl where
  | here | at (j:Nat) | fld (nm f:Str) | key (k:Key)
def x5T (f:Str) (a:Atom):List Str→List Atom→List Atom
  | g :: fs,b :: as=>match f == g with
    | true=>a :: as
    | false=>b :: x5T f a fs as
  | _,as=>as
def setKy (k:Key) (a:Atom):List Key→List Atom→List Atom
  | g :: ks,b :: as=>if g = k then a :: as else b :: setKy k a ks as
  | _,as=>as
def x2T:Pl→Cell→Option Atom
  | .here,.atm a=>some a
  | .at j,.li as=>as[j]?
  | .fld nm f,.oi c fs as=>if c = nm then (fs.zip as).lookup f else none
  | .key k,.di ks as=>((ks.zip as).find? fun kv=>decide (kv.1 = k)).map (·.2)
  | _,_=>none
def x4V:Pl→Atom→Cell→Cell
  | .here,a,.atm _=>.atm a
  | .at j,a,.li as=>.li (as.set j a)
  | .fld _ f,a,.oi c fs as=>.oi c fs (x5T f a fs as)
  | .key k,a,.di ks as=>.di ks (setKy k a ks as)
  | _,_,k=>k
def PlV (c:Ct) (H:Hp) (v:V):Pl→V→Prop
  | .here,u=>u = v
  | .at j,u=>∃ p xs,v = .ref p∧H p = some (.lst xs)∧xs[j]? = some u
  | .fld nm f,u=>∃ p C dx fs,v = .ref p∧c.mg nm = some (.ref C)∧H p = some (.ins C dx fs)∧fs.lookup f = some u
  | .key k,u=>∃ p kvs,v = .ref p∧H p = some (.dK kvs)∧(kvs.find? fun kv=>decide (kv.1 = k)).map (·.2) = some u
def Atom.own:Atom→Bool
  | .im _=>false
  | _=>true
section
variable {c:Ct} {S H:Hp}
theorem RepA.one {v:V} {a:Atom} {fp:List Addr} (h:RepA c S H v a fp) (o:a.own = true):∃ p,v = .ref p∧fp = [p]:=by
  cases h with
  | im _=>cases o
  | ol _ _=>exact ⟨_,rfl,rfl⟩
  | od _ _ _=>exact ⟨_,rfl,rfl⟩
  | ok _ _ _ _=>exact ⟨_,rfl,rfl⟩
theorem RepAs.pick {vs:List V} {as:List Atom} {fps:List Addr} (h:RepAs c S H vs as fps):∀ {j:Nat} {a:Atom},fps.Nodup→as[j]? = some a→a.own = true →
    ∃ p,vs[j]? = some (.ref p)∧p ∈ fps∧∀ S' H',Same S S'→(∀ x ∈ fps,H' x = H x)→RepA c S' H' (.ref p) a [p]∧∀ o a',RepA c S' (upd H' p o) (.ref p) a' [p]→RepAs c S' (upd H' p o) vs (as.set j a') fps:=by
  induction h with
  | nil=>intro j a _ e; simp at e
  | @cons v vs b bs fp fps h1 h ih=>
    intro j a nd e ow
    have n2:=Q0E.mp nd
    cases j with
    | zero=>
      simp at e
      subst e
      obtain ⟨p,rfl,rfl⟩:=h1.one ow
      refine ⟨p,rfl,Q0g,fun S' H' ss ag=>⟨h1.keep ss fun x hx=>ag x (Q0q _ hx),fun o a' r=>.cons r (h.keep ss fun x hx=>?_)⟩⟩
      rw [upd_ne fun e=>n2.2.2 p Q0g x hx e.symm]
      exact ag x (Q0l _ hx)
    | succ j=>
      obtain ⟨p,e1,e2,q⟩:=ih (j:=j) n2.2.1 (by simpa using e) ow
      refine ⟨p,by simpa using e1,Q0l _ e2,fun S' H' ss ag=>?_⟩
      obtain ⟨q1,q2⟩:=q S' H' ss fun x hx=>ag x (Q0l _ hx)
      refine ⟨q1,fun o a' r=>.cons (h1.keep ss fun x hx=>?_) (q2 o a' r)⟩
      rw [upd_ne fun e=>n2.2.2 x hx p e2 e]
      exact ag x (Q0q _ hx)
theorem RepAs.pickF {f:Str} {vs:List V} {as:List Atom} {fps:List Addr} (h:RepAs c S H vs as fps):∀ {fs:List Str} {a:Atom},fps.Nodup→(fs.zip as).lookup f = some a→a.own = true →
    ∃ p,(fs.zip vs).lookup f = some (.ref p)∧p ∈ fps∧∀ S' H',Same S S'→(∀ x ∈ fps,H' x = H x)→RepA c S' H' (.ref p) a [p]∧∀ o a',RepA c S' (upd H' p o) (.ref p) a' [p]→RepAs c S' (upd H' p o) vs (x5T f a' fs as) fps:=by
  induction h with
  | nil=>intro fs a _ e; cases fs <;> cases e
  | @cons v vs b bs fp fps h1 h ih=>
    intro fs a nd e ow
    have n2:=Q0E.mp nd
    cases fs with
    | nil=>cases e
    | cons g fs=>
      rw [Q0L,Q2V] at e ⊢
      cases hg:f == g with
      | true=>
        rw [hg] at e
        cases e
        obtain ⟨p,rfl,rfl⟩:=h1.one ow
        refine ⟨p,rfl,Q0g,fun S' H' ss ag=>⟨h1.keep ss fun x hx=>ag x (Q0q _ hx),fun o a' r=>?_⟩⟩
        unfold x5T
        rw [hg]
        refine .cons r (h.keep ss fun x hx=>?_)
        rw [upd_ne fun e=>n2.2.2 p Q0g x hx e.symm]
        exact ag x (Q0l _ hx)
      | false=>
        rw [hg] at e
        obtain ⟨p,e1,e2,q⟩:=ih n2.2.1 e ow
        refine ⟨p,e1,Q0l _ e2,fun S' H' ss ag=>?_⟩
        obtain ⟨q1,q2⟩:=q S' H' ss fun x hx=>ag x (Q0l _ hx)
        refine ⟨q1,fun o a' r=>?_⟩
        unfold x5T
        rw [hg]
        refine .cons (h1.keep ss fun x hx=>?_) (q2 o a' r)
        rw [upd_ne fun e=>n2.2.2 x hx p e2 e]
        exact ag x (Q0q _ hx)
theorem RepAs.pickK {k:Key} {vs:List V} {as:List Atom} {fps:List Addr} (h:RepAs c S H vs as fps):∀ {ks:List Key} {a:Atom},fps.Nodup→((ks.zip as).find? fun kv=>decide (kv.1 = k)).map (·.2) = some a→a.own = true →
    ∃ p,((ks.zip vs).find? fun kv=>decide (kv.1 = k)).map (·.2) = some (.ref p)∧p ∈ fps∧∀ S' H',Same S S'→(∀ x ∈ fps,H' x = H x)→RepA c S' H' (.ref p) a [p]∧∀ o a',RepA c S' (upd H' p o) (.ref p) a' [p]→RepAs c S' (upd H' p o) vs (setKy k a' ks as) fps:=by
  induction h with
  | nil=>intro ks a _ e; cases ks <;> cases e
  | @cons v vs b bs fp fps h1 h ih=>
    intro ks a nd e ow
    have n2:=Q0E.mp nd
    cases ks with
    | nil=>cases e
    | cons g ks=>
      rw [Q0L,Q2s] at e ⊢
      by_cases hg:g = k
      · simp only [hg,decide_true,Q0n,Q1o.injEq] at e ⊢
        subst e
        obtain ⟨p,rfl,rfl⟩:=h1.one ow
        refine ⟨p,rfl,Q0g,fun S' H' ss ag=>⟨h1.keep ss fun x hx=>ag x (Q0q _ hx),fun o a' r=>?_⟩⟩
        unfold setKy
        rw [if_pos rfl]
        refine .cons r (h.keep ss fun x hx=>?_)
        rw [upd_ne fun e=>n2.2.2 p Q0g x hx e.symm]
        exact ag x (Q0l _ hx)
      · simp only [hg,decide_false] at e ⊢
        obtain ⟨p,e1,e2,q⟩:=ih n2.2.1 e ow
        refine ⟨p,e1,Q0l _ e2,fun S' H' ss ag=>?_⟩
        obtain ⟨q1,q2⟩:=q S' H' ss fun x hx=>ag x (Q0l _ hx)
        refine ⟨q1,fun o a' r=>?_⟩
        unfold setKy
        rw [if_neg hg]
        refine .cons (h1.keep ss fun x hx=>?_) (q2 o a' r)
        rw [upd_ne fun e=>n2.2.2 x hx p e2 e]
        exact ag x (Q0q _ hx)
theorem RepC.pick {v:V} {k:Cell} {fp:List Addr} (h:RepC c S H v k fp) (nd:fp.Nodup) {π:Pl} {a:Atom} (e:x2T π k = some a) (ow:a.own = true) :
    ∃ p,PlV c H v π (.ref p)∧p ∈ fp∧∀ S' H',Same S S'→(∀ x ∈ fp,H' x = H x)→RepA c S' H' (.ref p) a [p]∧∀ o a',RepA c S' (upd H' p o) (.ref p) a' [p]→RepC c S' (upd H' p o) v (x4V π a' k) fp:=by
  cases π with
  | here=>
    cases h with
    | atm h=>
      cases e
      obtain ⟨p,rfl,rfl⟩:=h.one ow
      exact ⟨p,rfl,Q0g,fun S' H' ss ag=>⟨h.keep ss ag,fun o a' r=>.atm r⟩⟩
    | _=>cases e
  | «at» j=>
    cases h with
    | @li p0 xs as fps h1 h2=>
      have n2:=Q0P.mp nd
      obtain ⟨p,e1,e2,q⟩:=h2.pick n2.2 e ow
      have ne:p0 ≠ p:=fun z=>n2.1 (z ▸ e2)
      refine ⟨p,⟨p0,xs,rfl,h1,e1⟩,Q0h _ e2,fun S' H' ss ag=>?_⟩
      obtain ⟨q1,q2⟩:=q S' H' ss fun x hx=>ag x (Q0h _ hx)
      exact ⟨q1,fun o a' r=>.li (by rw [upd_ne ne]; exact (ag p0 Q0g).trans h1) (q2 o a' r)⟩
    | _=>cases e
  | fld nm f=>
    cases h with
    | @oi p0 C dx nm' fs xs as fps h0 h1 hl h2=>
      dsimp only [x2T] at e
      split at e
      · rename_i he
        subst he
        have n2:=Q0P.mp nd
        obtain ⟨p,e1,e2,q⟩:=h2.pickF n2.2 e ow
        have ne:p0 ≠ p:=fun z=>n2.1 (z ▸ e2)
        refine ⟨p,⟨p0,C,dx,_,rfl,h0,h1,e1⟩,Q0h _ e2,fun S' H' ss ag=>?_⟩
        obtain ⟨q1,q2⟩:=q S' H' ss fun x hx=>ag x (Q0h _ hx)
        exact ⟨q1,fun o a' r=>.oi h0 (by rw [upd_ne ne]; exact (ag p0 Q0g).trans h1) hl (q2 o a' r)⟩
      · cases e
    | _=>cases e
  | key k=>
    cases h with
    | @di p0 ks xs as fps h1 hl h2=>
      have n2:=Q0P.mp nd
      obtain ⟨p,e1,e2,q⟩:=h2.pickK n2.2 e ow
      have ne:p0 ≠ p:=fun z=>n2.1 (z ▸ e2)
      refine ⟨p,⟨p0,_,rfl,h1,e1⟩,Q0h _ e2,fun S' H' ss ag=>?_⟩
      obtain ⟨q1,q2⟩:=q S' H' ss fun x hx=>ag x (Q0h _ hx)
      exact ⟨q1,fun o a' r=>.di (by rw [upd_ne ne]; exact (ag p0 Q0g).trans h1) hl (q2 o a' r)⟩
    | _=>cases e
end

section
variable {c:Ct} {S H:Hp} {σ:L2.St} {ρ:Rho} {fps:List Addr}
theorem RepS.cut (h:RepS c S H σ ρ fps):∀ {i:Nat} {s:Slot},ρ[i]? = some (some s)→∃ v l fp r,σ[i]? = some (some v)∧fps = l ++ (fp ++ r)∧RepC c S H v s.cell fp∧RepS c S H σ (ρ.set i none) (l ++ r):=by
  induction h with
  | nil=>intro i s e; simp at e
  | @non v σ ρ fps h ih=>
    intro i s e
    cases i with
    | zero=>simp at e
    | succ i=>
      obtain ⟨w,l,fp,r,e1,e2,e3,q⟩:=ih (i:=i) (s:=s) (by simpa using e)
      exact ⟨w,l,fp,r,by simpa using e1,e2,e3,.non q⟩
  | @con v b k σ ρ fp fps h1 h ih=>
    intro i s e
    cases i with
    | zero=>
      simp at e
      subst e
      exact ⟨v,[],fp,fps,rfl,rfl,h1,.non h⟩
    | succ i=>
      obtain ⟨w,l,fp2,r,e1,e2,e3,q⟩:=ih (i:=i) (s:=s) (by simpa using e)
      exact ⟨w,fp ++ l,fp2,r,by simpa using e1,by rw [e2,Q0C],e3,by rw [Q0C]; exact .con h1 q⟩
theorem RepS.putC (h:RepS c S H σ ρ fps):∀ {i:Nat} {v:V},ρ[i]? = some none→σ[i]? = some (some v)→∃ l r,fps = l ++ r ∧
    ∀ (S' H':Hp) (b:Bool) (k:Cell) (fp':List Addr),Same S S'→(∀ x ∈ fps,H' x = H x)→RepC c S' H' v k fp'→RepS c S' H' σ (ρ.set i (some ⟨b,k⟩)) (l ++ (fp' ++ r)):=by
  induction h with
  | nil=>intro i v e; simp at e
  | @non w σ ρ fps h ih=>
    intro i v e es
    cases i with
    | zero=>
      simp at es
      subst es
      exact ⟨[],fps,rfl,fun S' H' b k fp' a1 a2 a3=>by rw [Q0u]; exact .con a3 (h.keep a1 a2)⟩
    | succ i=>
      obtain ⟨l,r,e2,q⟩:=ih (i:=i) (v:=v) (by simpa using e) (by simpa using es)
      exact ⟨l,r,e2,fun S' H' b k fp' a1 a2 a3=>.non (q S' H' b k fp' a1 a2 a3)⟩
  | @con w b k σ ρ fp fps h1 h ih=>
    intro i v e es
    cases i with
    | zero=>simp at e
    | succ i=>
      obtain ⟨l,r,e2,q⟩:=ih (i:=i) (v:=v) (by simpa using e) (by simpa using es)
      refine ⟨fp ++ l,r,by rw [e2,Q0C],fun S' H' b k fp' a1 a2 a3=>?_⟩
      rw [Q0C]
      exact .con (h1.keep a1 fun x hx=>a2 x (Q0q _ hx)) (q S' H' b k fp' a1 (fun x hx=>a2 x (Q0l _ hx)) a3)
theorem Good.back (G:Good c S H σ ρ fps) {i:Nat} {s:Slot} (hs:ρ[i]? = some (some s)):∃ v fp f0,σ[i]? = some (some v)∧RepC c S H v s.cell fp∧fp.Nodup∧Good c S H σ (ρ.set i none) f0 ∧
    ∀ S2 H2 ρ2 f2,Stp S H f0 S2 H2 f2→Good c S2 H2 σ ρ2 f2→ρ2[i]? = some none→(∀ a ∈ fp,H2 a = H a)∧(∀ a ∈ fp,S2 a = none) ∧
      ∀ H3 b k,(∀ a,a ∉ fp→H3 a = H2 a)→(∀ a ∈ fp,H3 a ≠ none)→RepC c S2 H3 v k fp→∃ f3,Good c S2 H3 σ (ρ2.set i (some ⟨b,k⟩)) f3∧Stp S H fps S2 H3 f3:=by
  obtain ⟨v,l,fp,r,e1,e2,h1,h2⟩:=G.rep.cut hs
  subst e2
  have nd:=G.nd
  have nfp:fp.Nodup:=by
    simp only [Q0E] at nd
    exact nd.2.1.1
  have dis:∀ a,a ∈ l ++ r→a ∉ fp:=fun a ha hb=>by
    simp only [Q0E,Q0k] at nd ha
    grind
  have nlr:(l ++ r).Nodup:=by
    simp only [Q0E,Q0k] at nd ⊢
    grind
  have inl:∀ a,a ∈ fp→a ∈ l ++ (fp ++ r):=fun a ha=>Q0l _ (Q0q _ ha)
  have inr:∀ a,a ∈ l ++ r→a ∈ l ++ (fp ++ r):=fun a ha=>by simp only [Q0k] at ha ⊢; grind
  refine ⟨v,fp,l ++ r,e1,h1,nfp,⟨G.ex,h2,nlr,fun a ha=>G.out a (inr a ha),G.tb⟩,fun S2 H2 ρ2 f2 st G2 hn=>?_⟩
  have kp:∀ a ∈ fp,H2 a = H a:=fun a ha=>by
    cases q:H a with
    | none=>exact absurd q (h1.there a ha)
    | some o=>
      haveI:=(h1.nt a ha o q).1
      exact st.fr a o q fun z=>dis a z ha
  have nS:∀ a ∈ fp,S2 a = none:=fun a ha=>by
    cases q:S2 a with
    | none=>rfl
    | some o=>
      rcases st.ns a (by rw [q]; exact fun z=>nomatch z) with z | z | z
      · exact absurd (G.out a (inl a ha)) z
      · exact absurd ha (dis a z)
      · exact absurd z (h1.there a ha)
  have dj:∀ a ∈ f2,a ∉ fp:=fun a ha hb=>by
    rcases st.nf a ha with z | z
    · exact dis a z hb
    · exact h1.there a hb z
  refine ⟨kp,nS,fun H3 b k h3 h4 rk=>?_⟩
  obtain ⟨l2,r2,e3,put⟩:=G2.rep.putC hn e1
  subst e3
  have z:=put S2 H3 b k fp (Same.refl S2) (fun x hx=>h3 x (dj x hx)) rk
  have nd2:=G2.nd
  refine ⟨_,⟨fun a o q=>?_,z,?_,fun a ha=>?_,q4q G2.tb (fun a ha o e=>h1.nt a ha o (by rw [← kp a ha]; exact e)) (fun a o e n=>by rw [h3 a n]; exact e) fun a q=>.inl q⟩,⟨st.ss,fun a o q n=>?_,fun a q=>?_,fun a ha=>?_,fun a q=>?_⟩⟩
  · by_cases w:a ∈ fp
    · rw [nS a w] at q; cases q
    · rw [h3 a w]; exact G2.ex a o q
  · simp only [Q0E,Q0k] at nd2 dj ⊢
    grind
  · simp only [Q0k] at ha
    rcases ha with ha | ha | ha
    · exact G2.out a (Q0q _ ha)
    · exact nS a ha
    · exact G2.out a (Q0l _ ha)
  · rw [h3 a fun w=>n (inl a w)]
    exact st.fr a o q fun w=>n (inr a w)
  · by_cases w:a ∈ fp
    · exact h4 a w
    · rw [h3 a w]; exact st.dom a q
  · simp only [Q0k] at ha
    rcases ha with ha | ha | ha
    · exact (st.nf a (Q0q _ ha)).elim (fun w=>.inl (inr a w)) .inr
    · exact .inl (inl a ha)
    · exact (st.nf a (Q0l _ ha)).elim (fun w=>.inl (inr a w)) .inr
  · rcases st.ns a q with w | w | w
    · exact .inl w
    · exact .inr (.inl (inr a w))
    · exact .inr (.inr w)
theorem PinR.back {i:Nat} {s:Slot} {k:Cell} {ρ ρ2:Rho} (hs:ρ[i]? = some (some s)) (p:PinR (ρ.set i none) ρ2):PinR ρ (ρ2.set i (some ⟨s.pin,k⟩)):=by
  have hl:ρ.length = ρ2.length:=by have:=p.1; rw [Q1m] at this; exact this
  refine ⟨by rw [Q1m]; exact hl,fun j s' hj hp=>?_⟩
  by_cases e:i = j
  · subst e
    rw [hs] at hj
    cases hj
    exact ⟨⟨s.pin,k⟩,by rw [Q0M (by rw [← hl]; exact (Q0r.mp hs).1)],hp⟩
  · obtain ⟨s2,h2,e2⟩:=p.2 j s' (by rw [Q0I e]; exact hj) hp
    exact ⟨s2,by rw [Q0I e]; exact h2,e2⟩
end

def z2H (i:Nat) (π:Pl) (t:EM (List Dat)) (g:Atom→List Dat→Option (Atom × Dat)):EM Dat:=fun ρ=>match ρ[i]? with
  | some (some s)=>match x2T π s.cell with
    | some a=>if a.own = true then match t (ρ.set i none) with
        | some (ds,ρ2)=>match ρ2[i]? with
          | some none=>match g a ds with
            | some (a',d)=>some (d,ρ2.set i (some ⟨s.pin,x4V π a' s.cell⟩))
            | none=>none
          | _=>none
        | none=>none
      else none
    | none=>none
  | _=>none
def tyA (T:String):Atom→Prop
  | .ol _=>T = "list"
  | .od _ _=>T = "dict"
  | .ok _ _=>False
  | .im _=>False
def x1E (c:Ct) (r:V→List V→Hp→VK→Prop) (g:Atom→List Dat→Option (Atom × Dat)):Prop:=∀ (S H:Hp) (p:Addr) (a:Atom) (xs:List V) (ds:List Dat) (a':Atom) (d:Dat) (Q:VK),Same S H→S p = none→RepA c S H (.ref p) a [p]→Reps c S xs ds→g a ds = some (a',d) →
  (∀ o v,RepA c S (upd H p o) (.ref p) a' [p]→Rep c S v d→Q v (upd H p o))→r (.ref p) xs H Q
theorem x1F {c:Ct} {σ:L2.St} {H:Hp} {Q:VK} {i:Nat} {π:Pl} {t:EM (List Dat)} {T:String} {g:Atom→List Dat→Option (Atom × Dat)} {r:V→List V→Hp→VK→Prop} (hr:x1E c r g) (ht:∀ a ds x,g a ds = some x→tyA T a) (h:tD c (z2H i π t g) σ H Q) :
    ∃ v u,σ[i]? = some (some v)∧PlV c H v π u∧L2.tyV c.K T u H∧tA c t σ H fun xs H2=>r u xs H2 Q:=by
  obtain ⟨S,ρ,fps,d,ρ',G,e,q⟩:=h
  unfold z2H at e
  split at e
  · rename_i s hs
    split at e
    · rename_i a ha
      split at e
      · rename_i ow
        split at e
        · rename_i ds ρ2 htt
          split at e
          · rename_i hn
            split at e
            · rename_i a' d' hg
              cases e
              obtain ⟨v,fp,f0,ev,hc,nd,G0,bk⟩:=G.back hs
              obtain ⟨p,pv,pin,put⟩:=hc.pick nd ha ow
              refine ⟨v,.ref p,ev,pv,?_,S,_,f0,ds,ρ2,G0,htt,fun S2 H2 f2 st pn G2 xs rx=>?_⟩
              · have ty:=ht a ds _ hg
                have ra:=(put S H (Same.refl S) fun _ _=>rfl).1
                cases ra with
                | ol h1 h2=>exact .inl ⟨ty,_,SqL.of h1⟩
                | od h1 h2 h3=>exact .inr (.inr (.inl ⟨ty,.inl ⟨_,h1⟩⟩))
                | ok h1 h2 h3 h4=>exact ty.elim
              · obtain ⟨kp,nS,bk2⟩:=bk S2 H2 ρ2 f2 st G2 hn
                obtain ⟨ra2,put2⟩:=put S2 H2 st.ss kp
                refine hr S2 H2 p a xs ds a' d Q G2.ex (nS p pin) ra2 rx hg fun o w ro rw'=>?_
                obtain ⟨f3,G3,st3⟩:=bk2 (upd H2 p o) s.pin _ (fun b hna=>upd_ne fun z=>hna (z ▸ pin)) (fun b hb=>by
                  by_cases z:b = p
                  · rw [z,upd_same]; exact fun z=>nomatch z
                  · rw [upd_ne z,kp b hb]; exact hc.there b hb) (put2 o a' ro)
                exact q S2 _ f3 st3 (PinR.back hs pn) G3 w rw'
            · cases e
          · cases e
        · cases e
      · cases e
    · cases e
  · cases e
abbrev XP (X:Cx) (o:Expr) (i:Nat) (π:Pl):Prop:=PE X o (fun σ H Q=>∃ v u,σ[i]? = some (some v)∧PlV (ct X) H v π u∧Q u H)
section
variable {X:Cx} {o e:Expr} {es:List Expr} {i:Nat} {π:Pl} {pos apos:Pos} {t:EM (List Dat)}
theorem q5c (i:Nat) {x:Str} (hN:X.N[i]? = some x:=by rfl) (hv:Vis X.env.scope x:=by first | exact Or.inl rfl | exact Or.inr (Or.inl rfl) | exact Or.inr (Or.inr rfl)) (hd:(x == ("__debug__":Str)) = false:=by decide)
    (hcd:(x == ("__classdict__":Str)) = false:=by decide):XP X (.Name x pos) i .here:=(pe_var (i:=i) hN hv hd hcd).imp fun σ H Q ⟨v,u,e,pv,q⟩=>by
  cases pv
  exact ⟨v,e,q⟩
theorem q6z {T id:String} {name:Str} {r:V→List V→Hp→VK→Prop} {g:Atom→List Dat→Option (Atom × Dat)} (hr:x1E (ct X) r g) (ht:∀ a ds x,g a ds = some x→tyA T a) (pa:PlainAttrs T) (slot:PySem.Slot T name id) (hty:typeOf (.builtin id) = pure (.type "method_descriptor")) (hm:MtR X id r)
    (ho:XP X o i π) (ha:XA X (e :: es) t) (hbase:attributeBase o name X.env (eval o X.env) = eval o X.env:=by rfl)
    (hfew:((backTo pos (starEach (e :: es) X.env)).all (fun x=>!x.1) && (backToKw pos (jbi [] X.env)).all (fun x=>x.1.isSome)
      && decide ((e :: es).length + ([]:List Keyword).length + (if ([]:List Keyword).isEmpty then 0 else 1) < 30)) = true:=by rfl)
    (hline:(apos.endLine == pos.line) = true:=by rfl) (hs:starEach (e :: es) X.env = (false,eval e X.env) :: starEach es X.env:=by rfl) (hplain:(backTo pos (starEach es X.env)).any (·.1) = false:=by rfl) :
    XE X (.Call (.Attribute o name apos) (e :: es) [] pos) (z2H i π t g):=(pe_bm pa slot hty hm ho ha hbase hfew hline hs hplain).imp fun σ H Q h=>by
  obtain ⟨v,u,e,pv,ty,q⟩:=x1F hr ht h
  exact ⟨v,u,e,pv,ty,q⟩
theorem x2U {T id:String} {name:Str} {r:V→List V→Hp→VK→Prop} {g:Atom→List Dat→Option (Atom × Dat)} (hr:x1E (ct X) r g) (ht:∀ a ds x,g a ds = some x→tyA T a) (pa:PlainAttrs T) (slot:PySem.Slot T name id) (hty:typeOf (.builtin id) = pure (.type "method_descriptor")) (hm:MtR X id r)
    (ho:XP X o i π) (hbase:attributeBase o name X.env (eval o X.env) = eval o X.env:=by rfl) (hline:(apos.endLine == pos.line) = true:=by rfl) :
    XE X (.Call (.Attribute o name apos) [] [] pos) (z2H i π (evs []) g):=(pe_bm0 pa slot hty hm ho hbase hline).imp fun σ H Q h=>by
  obtain ⟨v,u,e,pv,ty,q⟩:=x1F hr ht h
  obtain ⟨S,h⟩:=q
  obtain ⟨ex,q⟩:=h.ret
  exact ⟨v,u,e,pv,ty,q S H (Fre.refl ex) [] .nil⟩
end
def q3b:Atom→List Dat→Option (Atom × Dat)
  | .ol es,[d]=>if es.length < 100000 then some (.ol (es ++ [d]),.non) else none
  | _,_=>none
def x2V:Atom→List Dat→Option (Atom × Dat)
  | .ol es,[]=>match es.getLast? with
    | some d=>some (.ol es.dropLast,d)
    | none=>none
  | _,_=>none
def q9I:Atom→List Dat→Option (Atom × Dat)
  | .ol es,[.int i]=>if 0 ≤ i∧i < 100000 then match es[i.toNat]? with
    | some d=>some (.ol (es.eraseIdx i.toNat),d)
    | none=>none
    else none
  | _,_=>none
theorem q2t (a:Atom) (ds:List Dat) (x:Atom × Dat) (h:q3b a ds = some x):tyA "list" a:=by
  unfold q3b at h
  split at h
  · rfl
  · cases h
theorem x2W (a:Atom) (ds:List Dat) (x:Atom × Dat) (h:x2V a ds = some x):tyA "list" a:=by
  unfold x2V at h
  split at h
  · rfl
  · cases h
theorem z6q (a:Atom) (ds:List Dat) (x:Atom × Dat) (h:q9I a ds = some x):tyA "list" a:=by
  unfold q9I at h
  split at h
  · rfl
  · cases h
section
variable {c:Ct} {S:Hp}
theorem Reps.last {vs:List V} {ds:List Dat} (h:Reps c S vs ds) {d:Dat} (e:ds.getLast? = some d):∃ v,vs[vs.length - 1]? = some v∧Rep c S v d:=by
  rw [List.getLast?_eq_getElem?] at e
  obtain ⟨v,e1,r⟩:=h.get e
  exact ⟨v,by rw [h.length]; exact e1,r⟩
theorem Reps.dropLast {vs:List V} {ds:List Dat} (h:Reps c S vs ds):Reps c S vs.dropLast ds.dropLast:=by
  rw [List.dropLast_eq_take,List.dropLast_eq_take,h.length]
  exact h.take _
theorem Reps.erase {vs:List V} {ds:List Dat} (h:Reps c S vs ds) (j:Nat):Reps c S (vs.eraseIdx j) (ds.eraseIdx j):=by
  induction j generalizing vs ds with
  | zero=>
    cases h with
    | nil=>exact .nil
    | cons h1 h2=>exact h2
  | succ j ih=>
    cases h with
    | nil=>exact .nil
    | cons h1 h2=>exact .cons h1 (ih h2)
end
section
variable {c:Ct}
theorem q2u:x1E c rAppend q3b:=fun S H p a xs ds a' d Q ex _ ra rx hg q=>by
  unfold q3b at hg
  split at hg
  · split at hg
    · rename_i hl
      cases hg
      cases ra with
      | ol h1 h2=>
        cases rx with
        | cons r1 r2=>
          cases r2
          exact ⟨p,_,_,rfl,rfl,h1,by rw [h2.length]; exact q9F hl,q _ .non (.ol upd_same (h2.app (.cons r1 .nil))) .non⟩
    · cases hg
  · cases hg
theorem x2X:x1E c rPop x2V:=fun S H p a xs ds a' d Q ex _ ra rx hg q=>by
  unfold x2V at hg
  split at hg
  · split at hg
    · rename_i hl
      cases hg
      cases ra with
      | ol h1 h2=>
        cases rx
        obtain ⟨v,e1,r⟩:=h2.last hl
        exact ⟨p,_,v,rfl,rfl,h1,e1,q _ v (.ol upd_same h2.dropLast) r⟩
    · cases hg
  · cases hg
theorem z6r:x1E c rPopAt q9I:=fun S H p a xs ds a' d Q ex _ ra rx hg q=>by
  unfold q9I at hg
  split at hg
  · rename_i es i
    split at hg
    · rename_i hb
      split at hg
      · rename_i hl
        cases hg
        cases ra with
        | ol h1 h2=>
          cases rx with
          | cons r1 r2=>
            cases r1
            cases r2
            obtain ⟨v,e1,r⟩:=h2.get hl
            have hlt:i.toNat < _:=(Q0r.mp e1).1
            exact ⟨p,_,i,i.toNat,v,rfl,rfl,h1,by omega,by omega,seqIndex_of hb.1 (by omega),e1,q _ v (.ol upd_same (h2.erase _)) r⟩
      · cases hg
    · cases hg
  · cases hg
end

section
variable {c:Ct} {S H:Hp}
theorem Reps.set {vs:List V} {ds:List Dat} (h:Reps c S vs ds) (j:Nat) {v:V} {d:Dat} (r:Rep c S v d):Reps c S (vs.set j v) (ds.set j d):=by
  induction j generalizing vs ds with
  | zero=>
    cases h with
    | nil=>exact .nil
    | cons h1 h2=>exact .cons r h2
  | succ j ih=>
    cases h with
    | nil=>exact .nil
    | cons h1 h2=>exact .cons h1 (ih h2)
theorem RepAs.setIm {vs:List V} {as:List Atom} {fps:List Addr} (h:RepAs c S H vs as fps):∀ {j:Nat} {d0 d:Dat} {v:V},as[j]? = some (.im d0)→Rep c S v d→RepAs c S H (vs.set j v) (as.set j (.im d)) fps:=by
  induction h with
  | nil=>intro j d0 d v e; simp at e
  | cons h1 h ih=>
    intro j d0 d v e r
    cases j with
    | zero=>
      simp at e
      subst e
      cases h1 with
      | im h1=>exact .cons (fp:=[]) (.im r) h
    | succ j=>exact .cons h1 (ih (j:=j) (by simpa using e) r)
theorem RepAs.length {vs:List V} {as:List Atom} {fps:List Addr} (h:RepAs c S H vs as fps):vs.length = as.length:=by
  induction h with
  | nil=>rfl
  | cons _ _ ih=>rw [Q0d,Q0d,ih]
theorem PinR.put {i:Nat} {s:Slot} {k:Cell} {ρ:Rho} (hs:ρ[i]? = some (some s)):PinR ρ (ρ.set i (some ⟨s.pin,k⟩)):=by
  have h:=PinR.back (k:=k) hs (PinR.refl _)
  rw [List.set_set] at h
  exact h
end
section
variable {X:Cx} {e b:Expr} {pos p1 p2:Pos} {f g:EM Dat}
end
end DL

namespace DLS
open PySem PySem.Spec PyProof.Rows L2

def txV:Value→Str
 | .str x _=>x
 | _=>Str.empty
def GdS (w:World) (e:Int × Value):Prop:=∃ x tk,e.2 = Value.str x tk∧e.1 = hashStr w x
def SeS (w:World) (h:Heap) (a:Addr) (L:List Str):Prop:=
 ∃ o es ep t,h.get? a = some o∧o.ExactSet∧o.data = .set es ep t∧(∀ e ∈ es.toList,GdS w e)∧(es.toList.map fun e=>txV e.2).Perm L∧L.Nodup∧es.size < scanBound∧t.fits es.size = true∧Ris t.place.toList∧(w.params.followText "set-order" = true∨t.led = true)
abbrev z9i (w:World):Obj:={ cls:=.type "set",dict:=none,data:=.set #[] 0 (.fresh 0 0 (!w.params.followText "set-order")) }
section
variable {P:Program} {w:World} {h h':Heap} {a:Addr} {L:List Str}
theorem SeS.keep (R:SeS w h a L) (k:∀ o,h.get? a = some o→h'.get? a = some o):SeS w h' a L:=by
 obtain ⟨o,es,ep,t,ho,q⟩:=R
 exact ⟨o,es,ep,t,k o ho,q⟩
theorem SeS.ob (R:SeS w h a L):∃ o,h.get? a = some o:=by
 obtain ⟨o,_,_,_,ho,_⟩:=R
 exact ⟨o,ho⟩
theorem SeS.fresh (ho:h.get? a = some (z9i w)):SeS w h a []:=by
 refine ⟨_,#[],0,_,ho,⟨rfl,rfl,rfl⟩,rfl,fun e he=>absurd he (by simp),.nil,.nil,by decide,rfl,List.Pairwise.nil,?_⟩
 show _∨(!w.params.followText "set-order") = true
 cases w.params.followText "set-order" with
 | false=>exact .inr rfl
 | true=>exact .inl rfl
end
section
variable {P:Program} {w:World} {A:Around} {E:Value→Shared→Prop} {s:Shared} {a:Addr} {L:List Str}
end
section
variable {P:Program} {w:World} {A:Around} {E:Value→Shared→Prop} {s:Shared}
end
end DLS

namespace DLS
open PySem PySem.Spec PyProof.Rows L2

section
variable {P:Program} {w:World} {A:Around} {E:Value→Shared→Prop} {s:Shared} {a:Addr} {L:List Str}
end

def x5U (w:World) (a:Addr) (L:List Str):HO:=.ext fun h=>SeS w h a L
section
variable {X:Cx}
end
end DLS

namespace DLS
open PySem PySem.Spec PyProof.Rows L2

abbrev BW:=Shared→(Shared→Prop)→(Value→Shared→Prop)→Prop
section
variable (M:Model) (A:Around) (env:Env)
abbrev Er (R:Result→Shared→Prop):Value→Shared→Prop:=notedBy M A env fun e s1=>R (.error e) s1
def x5V (node:Expr) (k:Nat) (it acc:Value) (t0:Expr) (ifs:List Expr) (bw:BW):Prop:=∀ (R:Result→Shared→Prop) (I:Nat→Shared→Prop),
 (∀ n s,I n s→wpAny M A (pyNext it) (fun r s1=>match r with
  | none=>R (.ok .next) s1
  | some v=>wpAny M A (letOwnedTupleGo t0 it v) (fun _ s2=>wpAny M A (assign t0 env v) (fun _ s3=>wpAny M A (forIn ifs true fun c r=>if r = true then do let ok ← isTrue c env (eval c env); pure (ForInStep.yield ok) else pure (ForInStep.yield r))
    (fun ok s4=>if ok = true then bw s4 (fun s5=>∃ m,m < n∧I m s5) (Er M A env R) else ∃ m,m < n∧I m s4) (Er M A env R) s3) (Er M A env R) s2) (Er M A env R) s1) (Er M A env R) s) →
 ∀ n s,I n s→codeAny M A (.compLoop node k it acc env) R s
end
section
variable {prog:Program} {w:World} {A:Around} {env:Env} {elt t0 i0 t1 i1:Expr} {ifs0 ifs1:List Expr} {scope:Scope} {pos:Pos} {it acc:Value}
end
section
variable {X:Cx} {s0:Shared} {H0:Hp} {scope:Scope} {ce:Env} {fx:List Addr}
theorem z5n (hc:X.calm = true) {node tg:Expr} {ifs:List Expr} {k:Nat} {it:Addr} {acc:Value} {bw:BW} (LR:x5V (model X.prog X.w) X.A ce node k (.ref it) acc tg ifs bw) {J:It} {fp:List Addr} {tn:Nat→Heap→Prop} (T:Turn X.prog X.w X.K tg J fp it tn)
  {g:TG} {tt:TT} {tb:L2.St→Hp→(Hp→Prop)→Prop} {vs:List Nat} (pg:PG (X.blk s0 H0 scope ce fx) tg g) (pt:PTs (X.blk s0 H0 scope ce fx) ifs tt)
  (pb:∀ (pins:List (Addr × Obj)) (s:Shared) (σ:L2.St) (H:Hp) (Nx:Hp→Prop) (Q:Shared→Prop) (Er:Value→Shared→Prop),Inv (X.blk s0 H0 scope ce fx) pins σ H s→tb σ H Nx→(∀ s1 σ1 H1,Inv (X.blk s0 H0 scope ce fx) pins σ1 H1 s1→(wipe σ vs).length = σ1.length→(∀ (j:Nat) v,(wipe σ vs)[j]? = some (some v)→σ1[j]? = some (some v))→Nx H1→Q s1)→bw s Q Er)
  {pins:List (Addr × Obj)} {σ:L2.St} {H:Hp} {s:Shared} {R:Result→Shared→Prop} {Qs:Hp→Prop} (I:Inv (X.blk s0 H0 scope ce fx) pins (wipe σ vs) H s) (st:tn 0 s.heap) (f0:∀ b ∈ fp,FpOk (X.blk s0 H0 scope ce fx) pins H b) {W:Nat→Nat→Hp→Prop} {m0:Nat} (w0:W 0 m0 H)
  (z4f:∀ i m H,W i m H→(J.stop i H∧Qs H)∨(J.go i H∧∃ Nx:Hp→Prop,(∀ H1,Nx H1→∃ m1,m1 < m∧W (i + 1) m1 H1)∧∀ x H1,J.yld i H x H1→g x (wipe σ vs) H1 fun σ2 H2=>wipe σ2 vs = wipe σ vs∧tt σ2 H2 fun b H3=>if b = true then tb σ2 H3 Nx else Nx H3))
  (fin:∀ s1 H1,Inv (X.blk s0 H0 scope ce fx) pins (wipe σ vs) H1 s1→Qs H1→R (.ok .next) s1):codeAny (model X.prog X.w) X.A (.compLoop node k (.ref it) acc ce) R s:=by
 have still:∀ {H1:Hp},(∀ b ∈ fp,H1 b = none)→∀ b ∈ fp,FpOk (X.blk s0 H0 scope ce fx) pins H1 b:=fun hn b hb=>⟨hn b hb,(f0 b hb).2⟩
 refine LR R (fun n s1=>∃ i H1,Inv (X.blk s0 H0 scope ce fx) pins (wipe σ vs) H1 s1∧tn i s1.heap∧(∀ b ∈ fp,H1 b = none)∧W i n H1) ?_ m0 s ⟨0,H,I,st,fun b hb=>(f0 b hb).1,w0⟩
 rintro n s1 ⟨i,H1,I1,st1,n1,w1⟩
 rcases z4f i n H1 w1 with ⟨stop,qq⟩ | ⟨go,Nx,hNx,step⟩
 ·refine thnF (T.done (X.blk s0 H0 scope ce fx) rfl rfl rfl hc i pins s1 _ H1 (fun _ _=>False) I1 (still n1) st1 stop) fun r s2 ⟨hr,I2⟩=>?_
  cases hr
  exact fin s2 H1 I2 qq
 ·refine thnF (T.item (X.blk s0 H0 scope ce fx) rfl rfl rfl hc i pins s1 _ H1 (fun _ _=>False) I1 (still n1) st1 go) fun r s2 ⟨u,hr,h2⟩=>?_
  cases hr
  refine thnF h2 fun _ s3 ⟨x,H3,I3,r3,y3,st3,n3⟩=>?_
  have I3p:=I3.pinned (still n3) (T.obj _ _ st3)
  refine thnF (pg.run _ s3 _ H3 x u _ I3p r3 (step x H3 y3)) fun _ s4 ⟨σ4,H4,I4,hw4,q4⟩=>?_
  refine thnF (pt.run _ s4 σ4 H4 _ I4 q4) fun b s5 ⟨H5,I5,q5⟩=>?_
  have next:∀ {σ6:L2.St} {s6:Shared} {H6:Hp},Inv (X.blk s0 H0 scope ce fx) (pins ++ pinsAt fp s3.heap) σ6 H6 s6→(wipe σ vs).length = σ6.length→(∀ (j:Nat) v,(wipe σ vs)[j]? = some (some v)→σ6[j]? = some (some v))→Nx H6 →
    ∃ m,m < n∧∃ i H1,Inv (X.blk s0 H0 scope ce fx) pins (wipe σ vs) H1 s6∧tn i s6.heap∧(∀ b ∈ fp,H1 b = none)∧W i m H1:=fun {σ6 s6 H6} I6 hl hk nx=>by
   obtain ⟨m1,lt,w6⟩:=hNx H6 nx
   have x5H:∀ b ∈ fp,∀ o,s3.heap.get? b = some o→s6.heap.get? b = some o∧H6 b = none:=fun b hb o e=>by
    have z:=I6.pin (b,o) (Q0l _ (Q0l _ (mem_pinsAt hb e)))
    exact ⟨z.1,z.2.1⟩
   refine ⟨m1,lt,i + 1,H6,I6.unpinned.weak hl hk,T.keep _ _ _ st3 fun b hb o e=>(x5H b hb o e).1,fun b hb=>?_,w6⟩
   obtain ⟨o,e,_⟩:=T.obj _ _ st3 b hb
   exact (x5H b hb o e).2
  have len4:(wipe σ vs).length = σ4.length:=by rw [← hw4,wipe_length]
  cases b with
  | false=>
   rw [if_neg Q1z] at q5 ⊢
   refine next I5 len4 (fun j v e=>?_) q5
   rw [← hw4] at e
   exact (wipe_some e).1
  | true=>
   rw [if_pos rfl] at q5 ⊢
   refine pb _ s5 σ4 H5 Nx _ _ I5 q5 fun s6 σ6 H6 I6 l6 k6 nx=>?_
   rw [hw4] at l6 k6
   exact next I6 l6 k6 nx
end
section
variable {X:Cx} {pins:List (Addr × Obj)} {σ:L2.St} {H:Hp} {s:Shared}
end
section
variable {X:Cx}
def x2Y (J:It) (g:TG) (tt:TT) (tb:L2.St→Hp→(Hp→Prop)→Prop) (vs:List Nat) (σ:L2.St) (H:Hp) (Qs:Hp→Prop):Prop:=∃ W:Nat→Nat→Hp→Prop,(∃ m,W 0 m H)∧∀ i m H,W i m H →
 (J.stop i H∧Qs H)∨(J.go i H∧∃ Nx:Hp→Prop,(∀ H1,Nx H1→∃ m1,m1 < m∧W (i + 1) m1 H1)∧∀ x H1,J.yld i H x H1→g x (wipe σ vs) H1 fun σ2 H2=>wipe σ2 vs = wipe σ vs∧tt σ2 H2 fun b H3=>if b = true then tb σ2 H3 Nx else Nx H3)
end
end DLS

namespace DL
variable [DL.Tbls]
open PySem PySem.Spec L2

def leS (a b:Str):Prop:=¬ b.cps.toList < a.cps.toList
instance (a b:Str):Decidable (leS a b):=by unfold leS; exact inferInstance
theorem leS_le {a b:Str}:leS a b ↔ a.cps.toList ≤ b.cps.toList:=List.not_lt
theorem z1z {a b c:Str} (h:leS a b) (k:leS b c):leS a c:=leS_le.mpr (List.le_trans (leS_le.mp h) (leS_le.mp k))
theorem z6s (a b:Str):leS a b∨leS b a:=(List.le_total a.cps.toList b.cps.toList).imp leS_le.mpr leS_le.mpr
theorem z9j {a b:Str} (h:leS a b) (k:leS b a):a = b:=by
 have e:=List.le_antisymm (leS_le.mp h) (leS_le.mp k)
 obtain ⟨⟨x⟩⟩:=a
 obtain ⟨⟨y⟩⟩:=b
 cases (show x = y from e)
 rfl
def x2Z (x:Str):List Str→List Str
 | []=>[x]
 | y :: ys=>if leS x y then x :: y :: ys else y :: x2Z x ys
def srt (l:List Str):List Str:=l.foldr x2Z []
theorem q8A (x:Str):∀ l:List Str,(x2Z x l).Perm (x :: l)
 | []=>.refl _
 | y :: ys=>by
  unfold x2Z
  split
  ·exact .refl _
  ·exact (List.Perm.cons y (q8A x ys)).trans (.swap x y ys)
theorem z9k {x z:Str} {l:List Str} (h:z ∈ x2Z x l):z = x∨z ∈ l:=Q0s.mp ((q8A x l).mem_iff.mp h)
theorem z6t (x:Str):∀ l:List Str,l.Pairwise leS→(x2Z x l).Pairwise leS
 | [],_=>Q2D _ _
 | y :: ys,h=>by
  unfold x2Z
  obtain ⟨h1,h2⟩:=Q1F.mp h
  split
  ·rename_i q
   refine Q1F.mpr ⟨fun z hz=>?_,h⟩
   rcases Q0s.mp hz with e | hz
   ·exact e ▸ q
   ·exact z1z q (h1 z hz)
  ·rename_i q
   refine Q1F.mpr ⟨fun z hz=>?_,z6t x ys h2⟩
   rcases z9k hz with e | hz
   ·exact e ▸ (z6s x y).resolve_left q
   ·exact h1 z hz
theorem z0r:∀ l:List Str,(srt l).Perm l
 | []=>.refl _
 | x :: l=>(q8A x _).trans (.cons x (z0r l))
theorem z6u:∀ l:List Str,(srt l).Pairwise leS
 | []=>.nil
 | x :: l=>z6t x _ (z6u l)
theorem z1A:∀ (p:Str) (l:List Str),Q3X p l = true→(p :: l).Pairwise leS
 | p,[],_=>Q2D _ _
 | p,x :: r,h=>by
  have h':(!ltCps x.cps.toList p.cps.toList && Q3X x r) = true:=h
  obtain ⟨h1,h2⟩:=(Q1l _ _ ▸ h':_∧_)
  have ih:=z1A x r h2
  have px:leS p x:=by
   unfold leS
   rw [PyProof.Rows.ltCps_eq] at h1
   simpa using h1
  refine Q1F.mpr ⟨fun z hz=>?_,ih⟩
  rcases Q0s.mp hz with e | hz
  ·exact e ▸ px
  ·exact z1z px ((Q1F.mp ih).1 z hz)
theorem z6v (l:List Str) (h:Q2x l = true):l.Pairwise leS:=by
 cases l with
 | nil=>exact .nil
 | cons p l=>exact z1A p l h
theorem q9J {ys l:List Str} (p:ys.Perm l) (h:Q2x ys = true):ys = srt l:=
 List.Perm.eq_of_pairwise (fun _ _ _ _=>z9j) (z6v ys h) (z6u l) (p.trans (z0r l).symm)
def z0s:List Dat→Option (List Str)
 | []=>some []
 | .str x :: ds=>(z0s ds).map (x :: ·)
 | _ :: _=>none
theorem q9K:∀ {ds:List Dat} {xs:List Str},z0s ds = some xs→ds = xs.map Dat.str
 | [],xs,h=>by cases h; rfl
 | .str x :: ds,xs,h=>by
  unfold z0s at h
  cases e:z0s ds with
  | none=>rw [e] at h; cases h
  | some ys=>
   rw [e] at h
   cases h
   rw [q9K e]
   rfl
 | .non :: _,_,h=>by cases h
 | .bl _ :: _,_,h=>by cases h
 | .int _ :: _,_,h=>by cases h
 | .tup _ :: _,_,h=>by cases h
 | .lst _ :: _,_,h=>by cases h
 | .fro _ :: _,_,h=>by cases h
 | .dic _ _ :: _,_,h=>by cases h
 | .ins _ _ _ :: _,_,h=>by cases h
 | .opq _ :: _,_,h=>by cases h
theorem z1B:∀ xs:List Str,z0s (xs.map Dat.str) = some xs
 | []=>rfl
 | x :: xs=>by
  show (z0s (xs.map Dat.str)).map (x :: ·) = _
  rw [z1B xs]
  rfl
section
variable {X:Cx} {pos p:Pos} {e:Expr}
end
end DL

namespace DL
variable [DL.Tbls]
open PySem PySem.Spec L2

section
variable {c:Ct} {S H S1 H1:Hp} {f f1:List Addr} {D:Addr}
theorem Stp.beside (st:Stp S H f S1 H1 f1) (D:Addr):Stp S H (D :: f) S1 H1 (D :: f1):=⟨st.ss,fun a o h n=>st.fr a o h fun z=>n (Q0h _ z),st.dom,fun a ha=>by
  rcases Q0s.mp ha with e | ha
  ·exact .inl (by rw [e]; exact Q0g)
  ·exact (st.nf a ha).imp (Q0h _) id,fun a ha=>(st.ns a ha).imp id (Or.imp (Q0h _) id)⟩
instance {w:World} {a:Addr} {L:List Str}:NT (DLS.x5U w a L):=⟨fun _ z=>nomatch z⟩
instance {w:World} {a:Addr} {L:List Str}:NC a (DLS.x5U w a L):=⟨fun _=>q4Y fun h k=>by
 obtain ⟨o,es,ep,t,e1,_,e3,_⟩:=k
 exact ⟨o,e1,fun vs z=>by rw [e3] at z; cases z⟩⟩
theorem Stp.quiet (st:Stp S H f S1 H1 f1) {o:HO} [NT o] (hD:H D = some o) (nf:D ∉ f) (nS:S D = none):H1 D = some o∧D ∉ f1∧S1 D = none:=by
 refine ⟨st.fr D o hD nf,fun z=>?_,?_⟩
 ·rcases st.nf D z with z | z
  ·exact nf z
  ·rw [hD] at z; cases z
 ·cases q:S1 D with
  | none=>rfl
  | some x=>
   rcases st.ns D (by rw [q]; exact fun z=>nomatch z) with z | z | z
   ·exact absurd nS z
   ·exact absurd z nf
   ·rw [hD] at z; cases z
theorem Good.other {σ:L2.St} {ρ:Rho} (G:Good c S H σ ρ f) {o o':HO} [NT o'] [NC D o'] (hD:H D = some o') (nf:D ∉ f) (nS:S D = none):Good c S (upd H D o) σ ρ f∧Stp S H (D :: f) S (upd H D o) (D :: f):=by
 refine ⟨⟨fun a x q=>?_,G.rep.keep (Same.refl S) fun x hx=>upd_ne fun e=>nf (e ▸ hx),G.nd,G.out,z6e G.tb hD⟩,⟨Same.refl S,fun a x q n=>?_,fun a q=>?_,fun a q=>.inl q,fun a q=>.inl q⟩⟩
 ·rw [upd_ne (show a ≠ D from fun e=>by rw [e,nS] at q; cases q)]
  exact G.ex a x q
 ·rw [upd_ne (show a ≠ D from fun e=>n (by rw [e]; exact Q0g))]
  exact q
 ·by_cases e:a = D
  ·rw [e,upd_same]; exact fun z=>nomatch z
  ·rw [upd_ne e]; exact q
theorem PinV.mono {vs vs1:List Nat} {ρ ρ1:Rho} (h:PinV vs1 ρ ρ1) (k:∀ j ∈ vs1,j ∈ vs):PinV vs ρ ρ1:=⟨h.1,fun j s n e p=>h.2 j s (fun z=>n (k j z)) e p⟩
end

section
variable {c:Ct} {D:Addr}
end
section
variable {X:Cx} {elt tge iter tge1 iter1:Expr} {ifs ifs1:List Expr} {scope:Scope} {pos:Pos} {src src1:EM (List Dat)} {tg tg1:Tg} {t t1:EM Bool} {e:EM Dat}
end
end DL

namespace DLS
open PySem PySem.Spec PyProof.Rows L2
section
variable {prog:Program} {w:World} {A:Around} {E:Value→Shared→Prop} {s:Shared} {d o:Addr} {kvs more:List (Key × Value)}
end
section
variable {X:Cx} {pins:List (Addr × Obj)} {σ:L2.St} {H:Hp} {s:Shared} {d o:Addr} {kvs more:List (Key × V)}
end
end DLS

namespace DL
variable [DL.Tbls]
open PySem PySem.Spec L2

def x9X (m:List (Key × Dat)) (k:Key) (d:Dat):List (Key × Dat):=if (m.any fun kv=>decide (kv.1 = k)) = true then m.map (fun kv=>if kv.1 = k then (kv.1,d) else kv) else m ++ [(k,d)]
def z5o (m:List (Key × Dat)) (k:Key):Option Dat:=(m.find? fun kv=>decide (kv.1 = k)).map (·.2)
def odP (m:List (Key × Dat)):Atom:=.od (m.map (·.1)) (m.map (·.2))
inductive PR (c:Ct) (S:Hp):List (Key × V)→List (Key × Dat)→Prop
 | nil:PR c S [] []
 | cons {k:Key} {v:V} {d:Dat} {kvs:List (Key × V)} {m:List (Key × Dat)}:Rep c S v d→PR c S kvs m→PR c S ((k,v) :: kvs) ((k,d) :: m)
section
variable {c:Ct} {S S':Hp} {kvs:List (Key × V)} {m:List (Key × Dat)}
theorem PR.mono (e:Same S S') (h:PR c S kvs m):PR c S' kvs m:=by
 induction h with
 | nil=>exact .nil
 | cons r _ ih=>exact .cons (r.mono e) ih
theorem PR.length (h:PR c S kvs m):kvs.length = m.length:=by
 induction h with
 | nil=>rfl
 | cons _ _ ih=>rw [Q0d,Q0d,ih]
theorem PR.keys (h:PR c S kvs m):kvs.map (·.1) = m.map (·.1):=by
 induction h with
 | nil=>rfl
 | cons _ _ ih=>rw [Q0e,Q0e,ih]
theorem PR.vals (h:PR c S kvs m):Reps c S (kvs.map (·.2)) (m.map (·.2)):=by
 induction h with
 | nil=>exact .nil
 | cons r _ ih=>exact .cons r ih
theorem PR.app {kvs':List (Key × V)} {m':List (Key × Dat)} (h:PR c S kvs m) (k:PR c S kvs' m'):PR c S (kvs ++ kvs') (m ++ m'):=by
 induction h with
 | nil=>exact k
 | cons r _ ih=>exact .cons r ih
theorem PR.any (h:PR c S kvs m) (k:Key):(kvs.any fun kv=>decide (kv.1 = k)) = (m.any fun kv=>decide (kv.1 = k)):=by
 induction h with
 | nil=>rfl
 | cons _ _ ih=>rw [Q4j,Q4j,ih]
theorem PR.repl {v:V} {d:Dat} (k:Key) (r:Rep c S v d) (h:PR c S kvs m):PR c S (kvs.map fun kv=>if kv.1 = k then (kv.1,v) else kv) (m.map fun kv=>if kv.1 = k then (kv.1,d) else kv):=by
 induction h with
 | nil=>exact .nil
 | cons r0 _ ih=>
  rw [Q0e,Q0e]
  dsimp only
  split
  ·exact .cons r ih
  ·exact .cons r0 ih
theorem PR.put {v:V} {d:Dat} (k:Key) (h:PR c S kvs m) (r:Rep c S v d):PR c S (putK kvs k v) (x9X m k d):=by
 unfold putK x9X
 rw [h.any k]
 split
 ·exact h.repl k r
 ·exact h.app (.cons r .nil)
theorem PR.val (h:PR c S kvs m) (k:Key):(∀ d,z5o m k = some d→∃ v,valV kvs k = some v∧Rep c S v d)∧(z5o m k = none→valV kvs k = none):=by
 induction h with
 | nil=>exact ⟨fun d e=>(nomatch e),fun _=>rfl⟩
 | @cons k0 v d kvs m r _ ih=>
  by_cases e:k0 = k
  ·rw [valV_pos (p:=(k0,v)) e]
   have e2:z5o ((k0,d) :: m) k = some d:=by simp [z5o,Q2s,e]
   rw [e2]
   exact ⟨fun x q=>by cases q; exact ⟨v,rfl,r⟩,fun q=>nomatch q⟩
  ·rw [valV_neg (p:=(k0,v)) e]
   have e2:z5o ((k0,d) :: m) k = z5o m k:=by simp [z5o,Q2s,e]
   rw [e2]
   exact ih
theorem PR.of:∀ {ks:List Key} {xs:List V} {ds:List Dat},ks.length = xs.length→Reps c S xs ds→PR c S (ks.zip xs) (ks.zip ds)
 | [],[],_,_,.nil=>.nil
 | _ :: ks,_ :: xs,_,e,.cons r rs=>.cons r (PR.of (Q3c.inj e) rs)
theorem z9l (kvs:List (Key × V)):(kvs.map (·.1)).zip (kvs.map (·.2)) = kvs:=by
 induction kvs with
 | nil=>rfl
 | cons p kvs ih=>rw [Q0e,Q0e,Q0L,ih]
theorem PR.od {H:Hp} {p:Addr} (h:PR c S kvs m) (r:H p = some (.dK kvs)):RepA c S H (.ref p) (odP m) [p]:=by
 refine .od (xs:=kvs.map (·.2)) ?_ (by simp [h.length]) h.vals
 rw [← h.keys,z9l]
 exact r
end
def z5W:Dat→Option Key
 | .int i=>some (.inl i)
 | .str x=>some (.inr x)
 | _=>none
theorem q6A {c:Ct} {S:Hp} {v:V} {d:Dat} {k:Key} (h:Rep c S v d) (e:z5W d = some k):v = kV k:=by
 cases h with
 | int i=>cases e; rfl
 | str x=>cases e; rfl
 | _=>cases e

def q4x {β:Type} (tg:Tg) (t:EM Bool) (b:EM (List β)) (vs:List Nat):List Dat→Rho→Option (List β × Rho)
 | [],ρ=>some ([],ρ)
 | d :: ds,ρ=>match bdT tg d ρ with
  | some ρ1=>match t ρ1 with
   | some (true,ρ2)=>match b ρ2 with
    | some (ys,ρ3)=>match q4x tg t b vs ds (q0B ρ3 vs) with
     | some (zs,ρ4)=>some (ys ++ zs,ρ4)
     | none=>none
    | none=>none
   | some (false,ρ2)=>q4x tg t b vs ds (q0B ρ2 vs)
   | none=>none
  | none=>none
abbrev x5W (β:Type):=Hp→List β→HO→Prop
structure AccOk {β:Type} (Ac:x5W β):Prop where
 mo:∀ S S' l o,Same S S'→Ac S l o→Ac S' l o
 nt:∀ S l o,Ac S l o→NT o
instance {β:Type} {Ac:x5W β}:CoeFun (AccOk Ac) (fun _=>∀ S S' l o,Same S S'→Ac S l o→Ac S' l o):=⟨AccOk.mo⟩
def BdB {β:Type} (c:Ct) (D:Addr) (Ac:x5W β) (b:EM (List β)) (vs:List Nat) (tb:L2.St→Hp→(Hp→Prop)→Prop):Prop:=∀ (S H:Hp) (σ:L2.St) (ρ:Rho) (f:List Addr) (acc:List β) (o:HO) (ys:List β) (ρ':Rho) (Nx:Hp→Prop),
 Good c S H σ ρ f→D ∉ f→S D = none→H D = some o→Ac S acc o→b ρ = some (ys,ρ')→acc.length + ys.length ≤ 1000 →
 (∀ S1 H1 f1 o1,Stp S H (D :: f) S1 H1 (D :: f1)→PinV vs ρ ρ'→Good c S1 H1 (Q2h σ vs) (q0B ρ' vs) f1→D ∉ f1→S1 D = none→H1 D = some o1→Ac S1 (acc ++ ys) o1→Nx H1)→tb σ H Nx
theorem z9m {β:Type} {c:Ct} {D:Addr} {Ac:x5W β} (hA:AccOk Ac) {J:It} {tg:Tg} {t:EM Bool} {b:EM (List β)} {vs:List Nat} {tb:L2.St→Hp→(Hp→Prop)→Prop} (hv:∀ j ∈ tg.slots,j ∈ vs) (hb:BdB c D Ac b vs tb) {S H:Hp} {σ:L2.St} {ρ ρ2:Rho} {f:List Addr} {ds:List Dat} {acc0 ys:List β} {o0:HO} {Qs:Hp→Prop}
  (G:Good c S H (Q2h σ vs) ρ f) (nf:D ∉ f) (nS:S D = none) (hD:H D = some o0) (h0:Ac S acc0 o0) (itd:ItD c S J ds) (e:q4x tg t b vs ds ρ = some (ys,ρ2)) (hl:acc0.length + ys.length ≤ 1000)
  (k:∀ S1 H1 f1 o1,Stp S H (D :: f) S1 H1 (D :: f1)→PinV vs ρ ρ2→Good c S1 H1 (Q2h σ vs) ρ2 f1→D ∉ f1→S1 D = none→H1 D = some o1→Ac S1 (acc0 ++ ys) o1→Qs H1):DLS.x2Y J (gT c tg) (tT c t) tb vs σ H Qs:=by
 refine ⟨fun i m Hi=>m = ds.length - i∧i ≤ ds.length∧∃ Si ρi fi oi acc rest,Stp S H (D :: f) Si Hi (D :: fi)∧PinV vs ρ ρi∧Same S Si∧Good c Si Hi (Q2h σ vs) ρi fi∧D ∉ fi∧Si D = none∧Hi D = some oi∧Ac Si (acc0 ++ acc) oi∧q4x tg t b vs (ds.drop i) ρi = some (rest,ρ2)∧acc ++ rest = ys,
  ⟨_,rfl,Q1H _,S,ρ,f,o0,[],ys,Stp.refl S H _,PinV.refl vs ρ,Same.refl S,G,nf,nS,hD,by rw [Q0i]; exact h0,e,rfl⟩,?_⟩
 rintro i m Hi ⟨rfl,hle,Si,ρi,fi,oi,acc,rest,sti,pvi,ssi,Gi,nfi,nSi,hDi,hAi,el,ea⟩
 by_cases hlt:i < ds.length
 ·obtain ⟨d,hd⟩:∃ d,ds[i]? = some d:=⟨ds[i],Q0G hlt⟩
  have hdr:ds.drop i = d :: ds.drop (i + 1):=by
   rw [Q1K hlt]
   rw [Q0G hlt] at hd
   cases hd
   rfl
  rw [hdr] at el
  unfold q4x at el
  refine .inr ⟨itd.go i Hi hlt (ssi.trans Gi.ex),fun H1=>ds.length - (i + 1) = ds.length - (i + 1)∧i + 1 ≤ ds.length∧∃ Si ρi fi oi acc rest,Stp S H (D :: f) Si H1 (D :: fi)∧PinV vs ρ ρi∧Same S Si∧Good c Si H1 (Q2h σ vs) ρi fi∧D ∉ fi∧Si D = none∧H1 D = some oi∧Ac Si (acc0 ++ acc) oi∧q4x tg t b vs (ds.drop (i + 1)) ρi = some (rest,ρ2)∧acc ++ rest = ys,
   fun H1 h=>⟨_,by omega,h⟩,fun x H1 hy=>?_⟩
  obtain ⟨S2,fr,rep⟩:=itd.yld i d Si Hi x H1 hd ssi Gi.ex hy
  obtain ⟨G2,st2⟩:=Gi.fre fr
  haveI:=hA.nt _ _ _ hAi
  obtain ⟨hD2,nf2,nS2⟩:=st2.quiet hDi nfi nSi
  have hA2:=hA _ _ _ _ fr.ss hAi
  split at el
  ·rename_i ρa hbd
   refine ⟨S2,ρi,fi,d,ρa,G2,rep,hbd,fun σ3 f3 st3 p3 w3 G3=>?_⟩
   have ew:Q2h σ3 vs = Q2h σ vs:=z0q w3 hv
   obtain ⟨hD3,nf3,nS3⟩:=st3.quiet hD2 nf2 nS2
   refine ⟨ew,?_⟩
   cases ht:t ρa with
   | none=>rw [ht] at el; cases el
   | some p=>
    obtain ⟨bb,ρb⟩:=p
    rw [ht] at el
    refine ⟨S2,ρa,f3,bb,ρb,G3,ht,fun S4 H4 f4 st4 pn4 G4=>?_⟩
    obtain ⟨hD4,nf4,nS4⟩:=st4.quiet hD3 nf3 nS3
    have hA4:=hA _ _ _ _ (st3.trans st4).ss hA2
    have st04:=((sti.trans (st2.beside D)).trans (st3.beside D)).trans (st4.beside D)
    have ss4:=(ssi.trans fr.ss).trans (st3.trans st4).ss
    cases bb with
    | false=>
     dsimp only at el
     show _∧_∧_
     obtain ⟨f5,r5,sb⟩:=G4.rep.wipe vs
     obtain ⟨G5,st5⟩:=G4.sub r5 sb
     rw [ew] at G5
     exact ⟨rfl,hlt,S4,q0B ρb vs,f5,oi,acc,rest,st04.trans (st5.beside D),(pvi.trans (PinV.of (p3.1.trans pn4))).trans (PinV.wipe vs ρb),ss4,G5,fun z=>nf4 (sb.subset z),nS4,hD4,hA4,el,ea⟩
    | true=>
     dsimp only at el
     show tb σ3 H4 _
     cases he:b ρb with
     | none=>rw [he] at el; cases el
     | some p=>
      obtain ⟨ys1,ρc⟩:=p
      rw [he] at el
      dsimp only at el
      cases ec:q4x tg t b vs (ds.drop (i + 1)) (q0B ρc vs) with
      | none=>rw [ec] at el; cases el
      | some p=>
       obtain ⟨zs1,ρd⟩:=p
       rw [ec] at el
       cases el
       refine hb S4 H4 σ3 ρb f4 (acc0 ++ acc) oi ys1 ρc _ G4 nf4 nS4 hD4 hA4 he (by rw [← ea] at hl; simp only [Q0A] at hl ⊢; omega) fun S5 H5 f5 o5 st5 pv5 G5 nf5 nS5 hD5 hA5=>?_
       rw [ew] at G5
       exact ⟨rfl,hlt,S5,q0B ρc vs,f5,o5,acc ++ ys1,zs1,st04.trans st5,((pvi.trans (PinV.of (p3.1.trans pn4))).trans pv5).trans (PinV.wipe vs ρc),ss4.trans st5.ss,G5,nf5,nS5,hD5,by rw [Q0C] at hA5; exact hA5,ec,by rw [Q0C]; exact ea⟩
  ·cases el
 ·have he:i = ds.length:=by omega
  subst he
  rw [Q3H] at el
  unfold q4x at el
  cases el
  rw [Q0i] at ea
  subst ea
  exact .inl ⟨itd.stop _ Hi rfl (ssi.trans Gi.ex),k Si Hi fi oi sti pvi Gi nfi nSi hDi hAi⟩
theorem Good.own {c:Ct} {S H:Hp} {σ:L2.St} {ρ:Rho} {f:List Addr} {D:Addr} {k:Cell} (G:Good c S H σ ρ f) (nf:D ∉ f) (nS:S D = none) (r:RepC c S H (.ref D) k [D]):Good c S H (some (.ref D) :: σ) (some ⟨false,k⟩ :: ρ) ([D] ++ f):=
 ⟨G.ex,.con r G.rep,Q0P.mpr ⟨nf,G.nd⟩,fun a ha=>(Q0s.mp ha).elim (fun e=>e ▸ nS) (G.out a),G.tb⟩

section
variable {c:Ct} {D:Addr}
end
section
variable {X:Cx} {kx vx tge iter:Expr} {ifs:List Expr} {scope:Scope} {pos:Pos} {src:EM (List Dat)} {tg:Tg} {t:EM Bool} {ek ev:EM Dat}
end

section
variable {c:Ct} {D:Addr}
end
end DL

namespace DL
variable [DL.Tbls]
open PySem PySem.Spec L2

theorem OpR.or {X:Cx} {f:Value→Value→Sem Value} {r r':R2} (h:OpR X f r) (h':OpR X f r'):OpR X f (fun x y H Q=>r x y H Q∨r' x y H Q):=by
 intro pins s σ H x y v u Q I rx ry q
 rcases q with q | q
 ·exact h pins s σ H x y v u Q I rx ry q
 ·exact h' pins s σ H x y v u Q I rx ry q
theorem CallR.or {X:Cx} {f:Value} {r r':List V→Hp→VK→Prop} (h:CallR X f r) (h':CallR X f r'):CallR X f (fun x H Q=>r x H Q∨r' x H Q):=by
 intro pins s σ H vs us Q I rx q
 rcases q with q | q
 ·exact h pins s σ H vs us Q I rx q
 ·exact h' pins s σ H vs us Q I rx q
theorem SlR.or {X:Cx} {r r':V→Option Int→Option Int→Hp→VK→Prop} (h:SlR X r) (h':SlR X r'):SlR X (fun x lo hi H Q=>r x lo hi H Q∨r' x lo hi H Q):=by
 intro pins s σ H x v vl vu lo hi sl Q I rx hs pl pu q
 rcases q with q | q
 ·exact h pins s σ H x v vl vu lo hi sl Q I rx hs pl pu q
 ·exact h' pins s σ H x v vl vu lo hi sl Q I rx hs pl pu q

def q5t:Dat→Dat→Option Dat
 | .int a,.int b=>some (.int (a + b))
 | .str a,.str b=>if a.length + b.length ≤ 1000000 then some (.str (a ++ b)) else none
 | .lst a,.lst b=>if a.length + b.length ≤ 100000 then some (.lst (a ++ b)) else none
 | _,_=>none
def x8t:Dat→Dat→Option Dat
 | .int a,.int b=>some (.int (a - b))
 | _,_=>none
def z5X:Dat→Dat→Option Dat
 | .int a,.int b=>if (-(2 ^ 64) < a∧a < 2 ^ 64)∨(-(2 ^ 64) < b∧b < 2 ^ 64) then some (.int (a * b)) else none
 | _,_=>none
def x4W:Dat→Dat→Option Dat
 | .int a,.int b=>if 0 < b∧b < 1073741824 then some (.int (a / b)) else none
 | _,_=>none
def z5Y:Dat→Dat→Option Dat
 | .int a,.int b=>if 0 < b then some (.int (a % b)) else none
 | _,_=>none
def x4X:Dat→Dat→Option Dat
 | .int a,.int b=>if 0 ≤ b∧b ≤ 1000000∧a.natAbs < 2 ^ 64 then some (.int (a ^ b.toNat)) else none
 | _,_=>none
def x4Y:Dat→Option Dat
 | .int a=>some (.int (-a))
 | _=>none
def x5X:R2:=fun x y H Q=>∃ l b xs zs,x = .ref l∧y = .ref b∧Rd H l (.lst xs)∧Rd H b (.lst zs)∧xs.length + zs.length ≤ sizeLine∧∀ p,H p = none→Q (.ref p) (upd H p (.lst (xs ++ zs)))
theorem x1G {X:Cx} {pins:List (Addr × Obj)} {σ:L2.St} {H:Hp} {s:Shared} {l:Addr} {xs:List V} (I:Inv X pins σ H s) (h:Rd H l (.lst xs)):xs.length ≤ sizeLine∧∃ (its:List Value) (n:Nat),Vals xs its∧s.heap.get? l = some { cls:=.type "list",data:=.seq its.toArray n }:=by
 rcases h with h | ⟨ob,h⟩
 ·obtain ⟨z,its,n,r,e⟩:=I.hok l _ h
  exact ⟨z,its,n,r,e⟩
 ·obtain ⟨_,z,its,n,r,e⟩:=I.hok l _ h
  exact ⟨z,its,n,r,e⟩
theorem x3a {X:Cx}:OpR X (binaryOp .Add) x5X:=by
 intro pins s σ H x y v u Q I rx ry h
 obtain ⟨l,b,xs,zs,rfl,rfl,hl,hb,hz,q⟩:=h
 cases rx
 cases ry
 obtain ⟨_,its,n,r,e⟩:=x1G I hl
 obtain ⟨_,its2,n2,r2,e2⟩:=x1G I hb
 have l1:=r.length
 have l2:=r2.length
 refine PySem.P.add_list e e2 ?_ (by rw [Q2J,Q2J]; omega)
 rw [show its.toArray ++ its2.toArray = (its ++ its2).toArray by simp]
 exact ⟨.ref _,_,I.lnew (t':=s.toks) (r.append r2) (by rw [Q0A]; omega),rfl,q _ I.fresh⟩
def x5Y:R2:=fun x y H Q=>rI0 (fun i j=>.int (i + j)) x y H Q∨((∃ i j,x = .str i∧y = .str j∧i.length + j.length ≤ sizeLine∧Q (.str (i ++ j)) H)∨x5X x y H Q)
theorem q0Y {X:Cx}:OpR X (binaryOp .Add) x5Y:=OpR.or op_add (OpR.or op_add_str x3a)
section
variable {c:Ct}
theorem q2N:q2B c x5Y q5t:=by
 intro S H v u x y z Q ex rx ry e q
 cases rx with
 | int a=>
  cases ry with
  | int b=>cases e; exact .inl ⟨a,b,rfl,rfl,q _ S H (Fre.refl ex) (.int _)⟩
  | _=>cases e
 | str a=>
  cases ry with
  | str b=>
   dsimp only [q5t] at e
   split at e
   ·rename_i h
    cases e
    exact .inr (.inl ⟨a,b,rfl,rfl,Q0S h (by decide),q _ S H (Fre.refl ex) (.str _)⟩)
   ·cases e
  | _=>cases e
 | lst h1 h2=>
  cases ry with
  | lst h3 h4=>
   dsimp only [q5t] at e
   split at e
   ·rename_i h
    cases e
    refine .inr (.inr ⟨_,_,_,_,rfl,rfl,q0G ex h1,q0G ex h3,by rw [h2.length,h4.length]; exact q8r h,fun p hp=>q _ _ _ (Fre.new ex hp) (.lst (.inl upd_same) ((h2.app h4).mono (Fre.new (o:=.lst _) ex hp).ss))⟩)
   ·cases e
  | _=>cases e
 | _=>cases ry <;> cases e
theorem x5Z:q2B c (rI0 fun i j=>.int (i - j)) x8t:=by
 intro S H v u x y z Q ex rx ry e q
 cases rx with
 | int a=>
  cases ry with
  | int b=>cases e; exact ⟨a,b,rfl,rfl,q _ S H (Fre.refl ex) (.int _)⟩
  | _=>cases e
 | _=>cases ry <;> cases e
theorem z0t:q2B c (rI CMul fun i j=>.int (i * j)) z5X:=by
 intro S H v u x y z Q ex rx ry e q
 cases rx with
 | int a=>
  cases ry with
  | int b=>
   dsimp only [z5X] at e
   split at e
   ·rename_i h
    cases e
    exact ⟨a,b,rfl,rfl,h,q _ S H (Fre.refl ex) (.int _)⟩
   ·cases e
  | _=>cases e
 | _=>cases ry <;> cases e
theorem x3b:q2B c (rI CDiv fun i j=>.int (i / j)) x4W:=by
 intro S H v u x y z Q ex rx ry e q
 cases rx with
 | int a=>
  cases ry with
  | int b=>
   dsimp only [x4W] at e
   split at e
   ·rename_i h
    cases e
    exact ⟨a,b,rfl,rfl,h,q _ S H (Fre.refl ex) (.int _)⟩
   ·cases e
  | _=>cases e
 | _=>cases ry <;> cases e
theorem z0u:q2B c (rI (fun _ j=>0 < j) fun i j=>.int (i % j)) z5Y:=by
 intro S H v u x y z Q ex rx ry e q
 cases rx with
 | int a=>
  cases ry with
  | int b=>
   dsimp only [z5Y] at e
   split at e
   ·rename_i h
    cases e
    exact ⟨a,b,rfl,rfl,h,q _ S H (Fre.refl ex) (.int _)⟩
   ·cases e
  | _=>cases e
 | _=>cases ry <;> cases e
theorem x3c:q2B c (rI CPow fun i j=>.int (i ^ j.toNat)) x4X:=by
 intro S H v u x y z Q ex rx ry e q
 cases rx with
 | int a=>
  cases ry with
  | int b=>
   dsimp only [x4X] at e
   split at e
   ·rename_i h
    cases e
    exact ⟨a,b,rfl,rfl,h,q _ S H (Fre.refl ex) (.int _)⟩
   ·cases e
  | _=>cases e
 | _=>cases ry <;> cases e
theorem z9n:x5D c (rU fun i=>.int (-i)) x4Y:=by
 intro S H v x z Q ex rx e q
 cases rx with
 | int a=>cases e; exact ⟨a,rfl,q _ S H (Fre.refl ex) (.int _)⟩
 | _=>cases e
end

def z2U (p:Int→Int→Bool):Dat→Dat→Option Dat
 | .int a,.int b=>some (.bl (p a b))
 | _,_=>none
theorem q4Q {c:Ct} {p:Int→Int→Bool}:q2B c (rI0 fun i j=>.bl (p i j)) (z2U p):=by
 intro S H v u x y z Q ex rx ry e q
 cases rx with
 | int a=>
  cases ry with
  | int b=>cases e; exact ⟨a,b,rfl,rfl,q _ S H (Fre.refl ex) (.bl _)⟩
  | _=>cases e
 | _=>cases ry <;> cases e
def ltI (a b:Int):Bool:=decide (a < b)
def leI (a b:Int):Bool:=decide (a ≤ b)
def gtI (a b:Int):Bool:=decide (b < a)
def geI (a b:Int):Bool:=decide (b ≤ a)
def isN:Dat→Dat→Option Dat
 | .non,.non=>some (.bl true)
 | .opq _,_=>none
 | _,.non=>some (.bl false)
 | _,_=>none
def x3d:Dat→Dat→Option Dat
 | .non,.non=>some (.bl false)
 | .opq _,_=>none
 | _,.non=>some (.bl true)
 | _,_=>none
theorem x3e {c:Ct}:q2B c (fun x y H Q=>y = .non∧Q (.bl (decide (x = .non))) H) isN:=by
 intro S H v u x y z Q ex rx ry e q
 cases ry with
 | non=>cases rx <;> first | (cases e; exact ⟨rfl,q _ S H (Fre.refl ex) (.bl _)⟩) | cases e
 | _=>cases rx <;> cases e
theorem z6w {c:Ct}:q2B c (fun x y H Q=>y = .non∧Q (.bl (!decide (x = .non))) H) x3d:=by
 intro S H v u x y z Q ex rx ry e q
 cases ry with
 | non=>cases rx <;> first | (cases e; exact ⟨rfl,q _ S H (Fre.refl ex) (.bl _)⟩) | cases e
 | _=>cases rx <;> cases e
def x4Z:Dat→Dat→Option Bool
 | .non,.non=>some true
 | .non,.int _=>some false | .int _,.non=>some false
 | .non,.bl _=>some false | .bl _,.non=>some false
 | .non,.str _=>some false | .str _,.non=>some false
 | .int a,.int b=>some (decide (a = b))
 | .bl a,.bl b=>some (decide (a = b))
 | .str a,.str b=>some (decide (a = b))
 | .int _,.str _=>some false | .str _,.int _=>some false
 | .bl _,.str _=>some false | .str _,.bl _=>some false
 | _,_=>none
mutual
def q4W:Dat→Option PyData
 | .non=>some .none
 | .bl b=>some (.bool b)
 | .int i=>some (.int i)
 | .str x=>some (.str x)
 | .tup ds=>(q2O ds).map .tuple
 | .lst ds=>(q2O ds).map .list
 | _=>none
def q2O:List Dat→Option (List PyData)
 | []=>some []
 | d :: ds=>match q4W d,q2O ds with
  | some x,some xs=>some (x :: xs)
  | _,_=>none
end
mutual
theorem q3I {c:Ct} {S H:Hp} (ex:Same S H):∀ (d:Dat) (v:V) (p:PyData),Rep c S v d→q4W d = some p→Dp c.K H v p
 | .non,_,_,r,e=>by cases r; cases (show some PyData.none = some _ from e); exact .non
 | .bl b,_,_,r,e=>by cases r; cases (show some (PyData.bool b) = some _ from e); exact .bl b
 | .int i,_,_,r,e=>by cases r; cases (show some (PyData.int i) = some _ from e); exact .int i
 | .str x,_,_,r,e=>by cases r; cases (show some (PyData.str x) = some _ from e); exact .str x
 | .tup ds,_,_,r,e=>by
  cases r with
  | tup h1 h2=>
   unfold q4W at e
   cases q:q2O ds with
   | none=>rw [q] at e; cases e
   | some ps=>
    rw [q] at e
    cases e
    exact .tup (q0S ex h1) (z0v ex ds _ ps h2 q)
 | .lst ds,_,_,r,e=>by
  cases r with
  | lst h1 h2=>
   unfold q4W at e
   cases q:q2O ds with
   | none=>rw [q] at e; cases e
   | some ps=>
    rw [q] at e
    cases e
    exact .lst (.inl (q0G ex h1)) (z0v ex ds _ ps h2 q)
 | .fro _,_,_,_,e=>by unfold q4W at e; cases e
 | .dic _ _,_,_,_,e=>by unfold q4W at e; cases e
 | .ins _ _ _,_,_,_,e=>by unfold q4W at e; cases e
 | .opq _,_,_,_,e=>by unfold q4W at e; cases e
theorem z0v {c:Ct} {S H:Hp} (ex:Same S H):∀ (ds:List Dat) (vs:List V) (ps:List PyData),Reps c S vs ds→q2O ds = some ps→DpAll c.K H vs ps
 | [],_,_,r,e=>by cases r; unfold q2O at e; cases e; exact .nil
 | d :: ds,_,_,r,e=>by
  cases r with
  | cons r1 r2=>
   unfold q2O at e
   cases q1:q4W d with
   | none=>rw [q1] at e; cases e
   | some x=>
    cases q2:q2O ds with
    | none=>rw [q1,q2] at e; cases e
    | some xs=>
     rw [q1,q2] at e
     cases e
     exact .cons (q3I ex d _ x r1 q1) (z0v ex ds _ xs r2 q2)
end
def x3f (x y:Dat):Option Bool:=match q4W x,q4W y with
 | some a,some b=>if SeqAt.shaped a = true∧SeqAt.shaped b = true then some (PyData.eqv a b) else none
 | _,_=>none
def eqB (x y:Dat):Option Bool:=match x4Z x y with
 | some b=>some b
 | none=>x3f x y
def eqD (x y:Dat):Option Dat:=(eqB x y).map .bl
def neD (x y:Dat):Option Dat:=(eqB x y).map fun b=>.bl (!b)
theorem z6x {c:Ct} {S:Hp} {v u:V} {x y:Dat} {b:Bool} (rx:Rep c S v x) (ry:Rep c S u y) (e:x4Z x y = some b):scal v u = true∧b = decide (v = u):=by
 cases rx <;> cases ry <;> cases e <;> first
  | exact ⟨rfl,rfl⟩
  | exact ⟨rfl,by rw [Q1L]; simp⟩
def x9Y (K:JFr):R2:=fun x y H Q=>rEq x y H Q∨rEqD K x y H Q
def x9Z (K:JFr):R2:=fun x y H Q=>rNe x y H Q∨rNeD K x y H Q
theorem q4d {X:Cx} (hu:X.A.units + 64 < cLine):OpR X (compareOp .Eq) (x9Y X.K):=OpR.or op_eq (op_eqD hu)
theorem q3M {X:Cx} (hu:X.A.units + 64 < cLine):OpR X (compareOp .NotEq) (x9Z X.K):=OpR.or op_ne (op_neD hu)
section
variable {c:Ct}
theorem z6y {S H:Hp} {v u:V} {x y:Dat} {b:Bool} (ex:Same S H) (rx:Rep c S v x) (ry:Rep c S u y) (e:x3f x y = some b):∃ d e,Dp c.K H v d∧Dp c.K H u e∧SeqAt.shaped d = true∧SeqAt.shaped e = true∧b = PyData.eqv d e:=by
 unfold x3f at e
 split at e
 ·rename_i a b' h1 h2
  split at e
  ·rename_i hs
   cases e
   exact ⟨a,b',q3I ex x v a rx h1,q3I ex y u b' ry h2,hs.1,hs.2,rfl⟩
  ·cases e
 ·cases e
theorem z2V:q2B c (x9Y c.K) eqD:=by
 intro S H v u x y z Q ex rx ry e q
 unfold eqD eqB at e
 cases h:x4Z x y with
 | some b=>
  rw [h] at e
  cases e
  obtain ⟨h1,h2⟩:=z6x rx ry h
  subst h2
  exact .inl ⟨h1,q _ S H (Fre.refl ex) (.bl _)⟩
 | none=>
  rw [h] at e
  dsimp only at e
  cases h3:x3f x y with
  | none=>rw [h3] at e; cases e
  | some b=>
   rw [h3] at e
   cases e
   obtain ⟨d,e',a1,a2,a3,a4,rfl⟩:=z6y ex rx ry h3
   exact .inr ⟨d,e',a1,a2,a3,a4,q _ S H (Fre.refl ex) (.bl _)⟩
theorem z2I:q2B c (x9Z c.K) neD:=by
 intro S H v u x y z Q ex rx ry e q
 unfold neD eqB at e
 cases h:x4Z x y with
 | some b=>
  rw [h] at e
  cases e
  obtain ⟨h1,h2⟩:=z6x rx ry h
  subst h2
  exact .inl ⟨h1,q _ S H (Fre.refl ex) (.bl _)⟩
 | none=>
  rw [h] at e
  dsimp only at e
  cases h3:x3f x y with
  | none=>rw [h3] at e; cases e
  | some b=>
   rw [h3] at e
   cases e
   obtain ⟨d,e',a1,a2,a3,a4,rfl⟩:=z6y ex rx ry h3
   exact .inr ⟨d,e',a1,a2,a3,a4,q _ S H (Fre.refl ex) (.bl _)⟩
end
end DL

namespace DL
variable [DL.Tbls]
open PySem PySem.Spec L2

def ixD:Dat→Dat→Option Dat
 | .lst ds,.int i=>atI ds i
 | .tup ds,.int i=>atI ds i
 | _,_=>none
theorem z6z {c:Ct} {S:Hp} {xs:List V} {ds:List Dat} (h:Reps c S xs ds) {i:Int} {d:Dat} (e:atI ds i = some d):∃ v,atI xs i = some v∧Rep c S v d:=by
 unfold atI at e ⊢
 rw [h.length]
 cases hq:ixN ds.length i with
 | none=>rw [hq] at e; cases e
 | some j=>
  rw [hq] at e
  exact h.get e
theorem q4y {c:Ct}:q2B c (fun x y H Q=>rIxL c.K x y H Q∨rIxT c.K x y H Q) ixD:=by
 intro S H v u x y z Q ex rx ry e q
 cases ry with
 | int i=>
  cases rx with
  | lst h1 h2=>
   obtain ⟨w,ew,r⟩:=z6z h2 (show atI _ i = some z from e)
   exact .inl ⟨_,_,i,w,rfl,rfl,.inl (q0G ex h1),ew,q _ S H (Fre.refl ex) r⟩
  | tup h1 h2=>
   obtain ⟨w,ew,r⟩:=z6z h2 (show atI _ i = some z from e)
   exact .inr ⟨_,_,i,w,rfl,rfl,q0S ex h1,ew,q _ S H (Fre.refl ex) r⟩
  | _=>cases e
 | _=>cases rx <;> cases e
theorem q0U {X:Cx}:IxR X (fun x y H Q=>rIxL X.K x y H Q∨rIxT X.K x y H Q):=ix_list.or ix_tup
def dgD:Dat→Dat→Option Dat
 | .dic ks ds,y=>if ks.length = ds.length then (z5W y).bind fun k=>z5o (ks.zip ds) k else none
 | _,_=>none
theorem x6a {c:Ct} {S H:Hp} {a:Addr} {ks:List Key} {xs:List V} {ds:List Dat} {v:V} {y:Dat} {k:Key} (ex:Same S H) (h1:Rd S a (.dK (ks.zip xs))) (h2:ks.length = xs.length) (h3:Reps c S xs ds) (ry:Rep c S v y) (ek:z5W y = some k) :
  ∃ o,DGet H a v o∧(∀ d,z5o (ks.zip ds) k = some d→∃ w,o = some w∧Rep c S w d)∧o.isSome = (z5o (ks.zip ds) k).isSome:=by
 have pr:=(PR.of h2 h3).val k
 refine ⟨valV (ks.zip xs) k,.inl ⟨_,k,q0G ex h1,q6A ry ek,rfl⟩,pr.1,?_⟩
 cases hq:z5o (ks.zip ds) k with
 | none=>rw [pr.2 hq] <;> rfl
 | some d=>
  obtain ⟨w,e,_⟩:=pr.1 d hq
  rw [e] <;> rfl
section
variable {X:Cx} {a b:Expr} {pos:Pos} {f g:EM Dat} {j:Nat}
theorem Rm.u1 {A:Around} (R:Rm A j):A.units + 1 < cLine:=by have:=R.hr.un; omega
theorem Rm.u64 {A:Around} (R:Rm A j):A.units + 64 < cLine:=by have:=R.hr.un; omega
theorem q6T (R:Rm X.A j) (ha:XE X a f) (hb:XE X b g) (hs:NoSl b:=by exact fun _ _=>rfl):XE X (.Subscript a b pos) (e2 dgD f g):=(pe_dget R.u1 ha hb hs).imp fun _ _ _ h=>(z1r h).mono fun _ _ h=>h.mono fun u H2 ⟨S,x,y,z,ex,rx,ry,e,q⟩=>by
 cases rx with
 | dic h1 h2 h3=>
  dsimp only [dgD] at e
  split at e
  ·cases ek:z5W y with
   | none=>rw [ek] at e; cases e
   | some k=>
    rw [ek] at e
    obtain ⟨o,dg,o1,_⟩:=x6a ex h1 h2 h3 ry ek
    obtain ⟨w,rfl,rw'⟩:=o1 z e
    exact ⟨_,w,rfl,dg,q _ S H2 (Fre.refl ex) rw'⟩
  ·cases e
 | _=>cases y <;> cases e
end

def x6b:Dat→Dat→Option Dat
 | .str ⟨⟨[k]⟩⟩,.str z=>some (.bl (decide (k ∈ z.cps.toList)))
 | _,_=>none
theorem x6c {c:Ct}:q2B c (fun x y H Q=>∃ (k:Nat) (z:Str),x = .str ⟨#[k]⟩∧y = .str z∧Q (.bl (decide (k ∈ z.cps.toList))) H) x6b:=by
 intro S H v u x y z Q ex rx ry e q
 unfold x6b at e
 split at e
 ·cases e
  cases rx
  cases ry
  exact ⟨_,_,rfl,rfl,q _ S H (Fre.refl ex) (.bl _)⟩
 ·cases e
end DL

namespace DL
variable [DL.Tbls]
open PySem PySem.Spec L2

def q6B (xs:List Dat) (lo hi:Option Int):List Dat:=(xs.drop (HT.sIx xs.length 0 lo)).take (HT.sIx xs.length xs.length hi - HT.sIx xs.length 0 lo)
def slD:Dat→Option Int→Option Int→Option Dat
 | .lst ds,lo,hi=>some (.lst (q6B ds lo hi))
 | .fro ds,lo,hi=>some (.lst (q6B ds lo hi))
 | .tup ds,lo,hi=>some (.tup (q6B ds lo hi))
 | _,_,_=>none
theorem z2W {c:Ct} {S:Hp} {xs:List V} {ds:List Dat} (h:Reps c S xs ds) (lo hi:Option Int):Reps c S (cutV xs lo hi) (q6B ds lo hi):=by
 unfold cutV q6B
 rw [h.length]
 exact (h.drop _).take _
theorem x3g {ds:List Dat} {lo hi:Option Int} (h:HT.sIx ds.length 0 lo = 0∧HT.sIx ds.length ds.length hi = ds.length):q6B ds lo hi = ds:=by
 unfold q6B
 rw [h.1,h.2,Q2m,Nat.sub_zero,Q3I]
def tO (c:Ct) (f:EM (Option Int)):TO:=fun σ H Q=>∃ S,Go c f σ S H fun o _ H'=>Q o H'
abbrev XO (X:Cx) (e:Option Expr) (f:EM (Option Int)):Prop:=PO X e (tO (ct X) f)
theorem _root_.L2.PO.imp {X:Cx} {e:Option Expr} {t t':TO} (h:PO X e t) (k:∀ σ H Q,t' σ H Q→t σ H Q):PO X e t':=⟨fun pins s σ H Q I q=>h.run pins s σ H Q I (k σ H Q q)⟩
def q3i (f:EM Dat):EM (Option Int):=q0J f fun d=>match d with
 | .int i=>q2M (some i)
 | _=>eNo
theorem q2P {X:Cx}:XO X none (q2M none):=po_none.imp fun σ H Q ⟨S,h⟩=>by
 obtain ⟨ex,q⟩:=h.ret
 exact q S H (Fre.refl ex)
theorem q2Q {X:Cx} {e:Expr} {f:EM Dat} (h:XE X e f):XO X (some e) (q3i f):=(po_some h).imp fun σ H Q ⟨S,h⟩=>⟨S,h.bind.mono fun d S1 H1 _ q v r=>by
 cases r with
 | int i=>
  obtain ⟨ex,q⟩:=q.ret
  exact ⟨i,rfl,(q S1 H1 (Fre.refl ex)).2⟩
 | _=>exact (Go.no q).elim⟩
def eSl (f:EM Dat) (lo hi:EM (Option Int)):EM Dat:=q0J f fun d=>q0J lo fun l=>q0J hi fun h=>q3a (slD d l h)
theorem q1U {X:Cx} {e:Expr} {lo hi:Option Expr} {p2 pos:Pos} {f:EM Dat} {l h:EM (Option Int)} (he:XE X e f) (hl:XO X lo l) (hh:XO X hi h):XE X (.Subscript e (.Slice lo hi none p2) pos) (eSl f l h):=
 (pe_slice (SlR.or sl_list sl_tupA) he hl hh).imp fun σ H Q ⟨S,q⟩=>⟨S,q.bind.mono fun d S1 H1 _ q v r=>⟨S1,q.bind.mono fun lo' S2 H2 s2 q=>⟨S2,q.bind.mono fun hi' S3 H3 s3 q=>by
  obtain ⟨z,e,ex,q⟩:=q.lift
  have r3:=(r.mono s2).mono s3
  have fin:∀ w S' H',Fre S3 H3 S' H'→Rep (ct X) S' w z→Q w H':=fun w S' H' f r'=>(q S' H' f).2.2.2 w r'
  cases r3 with
  | lst h1 h2=>
   cases e
   exact .inl ⟨_,_,rfl,.inl (q0G ex h1),fun p hp=>fin _ _ _ (Fre.new ex hp) (.lst (.inl upd_same) ((z2W h2 _ _).mono (Fre.new (o:=.lst _) ex hp).ss))⟩
  | fro h1 h2=>
   cases e
   exact .inl ⟨_,_,rfl,ex.seq h1,fun p hp=>fin _ _ _ (Fre.new ex hp) (.lst (.inl upd_same) ((z2W h2 _ _).mono (Fre.new (o:=.lst _) ex hp).ss))⟩
  | @tup a xs ds h1 h2=>
   cases e
   refine .inr ⟨_,_,rfl,q0S ex h1,fun hw=>?_,fun _ p hp=>?_⟩
   ·rw [h2.length] at hw
    refine fin _ S3 H3 (Fre.refl ex) ?_
    rw [x3g hw]
    exact .tup h1 h2
   ·exact fin _ _ _ (Fre.new ex hp) (.tup (SqT.of upd_same) ((z2W h2 _ _).mono (Fre.new (o:=.tup _) ex hp).ss))
  | _=>cases e⟩⟩⟩
def x8S:Dat→Option Dat
 | .lst ds=>some (.lst ds.reverse)
 | _=>none
theorem x6d {X:Cx} {e:Expr} {k:Nat} {p1 p2 p3 pos:Pos} {f:EM Dat} (he:XE X e f):XE X (.Subscript e (.Slice none none (some (.UnaryOp .USub (.Constant (.int 1) k p1) p2)) p3) pos) (e1 x8S f):=
 (pe_revL he).imp fun _ _ _ h=>(q8o h).mono fun v H1 ⟨S,x,z,ex,r,e,q⟩=>by
  cases r with
  | lst h1 h2=>
   cases e
   exact ⟨_,_,rfl,.inl (q0G ex h1),fun p hp=>q _ _ _ (Fre.new ex hp) (.lst (.inl upd_same) (h2.rev.mono (Fre.new (o:=.lst _) ex hp).ss))⟩
  | _=>cases e

def q4X (r:Dat→Option Dat):List Dat→Option Dat
 | [d]=>r d
 | _=>none
def PureC (c:Ct) (r0:List V→Hp→VK→Prop) (r:Dat→Option Dat):Prop:=∀ (S H:Hp) (v:V) (x z:Dat) (Q:VK),Same S H→Rep c S v x→r x = some z→(∀ w S' H',Fre S H S' H'→Rep c S' w z→Q w H')→r0 [v] H Q
theorem PureC.all {c:Ct} {r0:List V→Hp→VK→Prop} {r:Dat→Option Dat} (h:PureC c r0 r):x2J c r0 (q4X r):=by
 intro S H vs ds z Q ex rs e q
 match ds,rs,e with
 | [d],.cons r1 .nil,e=>exact h S H _ d z Q ex r1 e q
def z1p:Dat→Option Dat
 | .str x=>if x.length ≤ 1000000 then some (.int x.length) else none
 | .lst ds=>some (.int ds.length)
 | .tup ds=>some (.int ds.length)
 | .dic ks ds=>if ks.length = ds.length then some (.int ks.length) else none
 | _=>none
def x1H:List V→Hp→VK→Prop:=fun xs H Q=>∃ a kvs,xs = [V.ref a]∧Rd H a (.dK kvs)∧Q (.int kvs.length) H
theorem z9o {X:Cx}:CallR X (.builtin "len") x1H:=by
 intro pins s σ H xs us Q I r h
 obtain ⟨a,kvs,rfl,ha,q⟩:=h
 obtain ⟨u,rfl,ru⟩:=vals1 r
 cases ru
 exact d_len I ha fun t s' I'=>⟨.int kvs.length,H,I',⟨t,rfl⟩,q⟩
def x6e (K:JFr):List V→Hp→VK→Prop:=fun xs H Q=>(∃ p ys,xs = [.ref p]∧(SqL K H p ys∨SqT K H p ys)∧Q (.int ys.length) H)∨((∃ z,xs = [.str z]∧z.length ≤ sizeLine∧Q (.int z.length) H)∨x1H xs H Q)
theorem q4e {X:Cx}:CallR X (.builtin "len") (x6e X.K):=CallR.or call_len_seq (CallR.or call_len_str z9o)
theorem q8B {c:Ct}:PureC c (x6e c.K) z1p:=by
 intro S H v x z Q ex r e q
 cases r with
 | str x=>
  dsimp only [z1p] at e
  split at e
  ·rename_i h
   cases e
   exact .inr (.inl ⟨x,rfl,Q0S h (by decide),q _ S H (Fre.refl ex) (.int _)⟩)
  ·cases e
 | lst h1 h2=>
  cases e
  exact .inl ⟨_,_,rfl,.inl (.inl (q0G ex h1)),by rw [h2.length]; exact q _ S H (Fre.refl ex) (.int _)⟩
 | tup h1 h2=>
  cases e
  exact .inl ⟨_,_,rfl,.inr (q0S ex h1),by rw [h2.length]; exact q _ S H (Fre.refl ex) (.int _)⟩
 | dic h1 h2 h3=>
  dsimp only [z1p] at e
  split at e
  ·cases e
   refine .inr (.inr ⟨_,_,rfl,q0G ex h1,?_⟩)
   rw [Q3f,← h2,Q3P]
   exact q _ S H (Fre.refl ex) (.int _)
  ·cases e
 | _=>cases e
def z9p:List Dat→Option (List Bool)
 | []=>some []
 | .bl b :: ds=>(z9p ds).map (b :: ·)
 | _ :: _=>none
theorem z3V {c:Ct} {S:Hp}:∀ {xs:List V} {ds:List Dat} {bs:List Bool},Reps c S xs ds→z9p ds = some bs→xs = bs.map V.bl
 | _,_,_,.nil,e=>by cases e; rfl
 | _,_,_,.cons (d:=d) (ds:=ds) r rs,e=>by
  cases r with
  | bl b=>
   unfold z9p at e
   cases q:z9p ds with
   | none=>rw [q] at e; cases e
   | some bs=>
    rw [q] at e
    cases e
    rw [z3V rs q]
    rfl
  | _=>cases e
def x3h:Dat→Option Dat
 | .lst ds=>(z9p ds).map fun bs=>.bl (bs.all id)
 | _=>none
theorem x3i {c:Ct}:PureC c (rAll c.K) x3h:=by
 intro S H v x z Q ex r e q
 cases r with
 | @lst a xs ds h1 h2=>
  dsimp only [x3h] at e
  cases hb:z9p ds with
  | none=>rw [hb] at e; cases e
  | some bs=>
   rw [hb] at e
   cases e
   have ev:=z3V h2 hb
   subst ev
   exact ⟨_,bs,rfl,.inl (q0G ex h1),q _ S H (Fre.refl ex) (.bl _)⟩
 | _=>cases e
def z5p:Dat→Option Dat
 | .lst ds=>some (.tup ds)
 | .tup ds=>some (.tup ds)
 | _=>none
def x5a:Dat→Option Dat
 | .lst ds=>some (.lst ds)
 | .tup ds=>some (.lst ds)
 | .fro ds=>some (.lst ds)
 | .dic ks ds=>if ks.length = ds.length then some (.lst (ks.map fun k=>match k with | .inl i=>.int i | .inr x=>.str x)) else none
 | _=>none
def x8T (K:JFr):List V→Hp→VK→Prop:=fun xs H Q=>∃ p ys,xs = [.ref p]∧((SqL K H p ys∧∀ l,H l = none→Q (.ref l) (upd H l (.tup ys)))∨(SqT K H p ys∧Q (.ref p) H))
theorem q8C {c:Ct}:PureC c (x8T c.K) z5p:=by
 intro S H v x z Q ex r e q
 cases r with
 | lst h1 h2=>
  cases e
  exact ⟨_,_,rfl,.inl ⟨.inl (q0G ex h1),fun p hp=>q _ _ _ (Fre.new ex hp) (.tup (SqT.of upd_same) (h2.mono (Fre.new (o:=.tup _) ex hp).ss))⟩⟩
 | tup h1 h2=>
  cases e
  exact ⟨_,_,rfl,.inr ⟨q0S ex h1,q _ S H (Fre.refl ex) (.tup h1 h2)⟩⟩
 | _=>cases e
def x6f (K:JFr):List V→Hp→VK→Prop:=fun xs H Q=>(∃ p ys,xs = [.ref p]∧(SqL K H p ys∨SqT K H p ys)∧∀ l,H l = none→Q (.ref l) (upd H l (.lst ys)))∨∃ (a:Addr) (kvs:List (Key × V)),xs = [.ref a]∧Rd H a (.dK kvs)∧∀ p,H p = none→Q (.ref p) (upd H p (.lst (kvs.map fun kv=>kV kv.1)))
theorem z6A {X:Cx} (hc:X.calm = true):CallR X (.type "list") (x6f X.K):=CallR.or call_list_of (call_listD hc)
theorem z0w {c:Ct} {S:Hp}:∀ (ks:List Key),Reps c S (ks.map kV) (ks.map fun k=>match k with | .inl i=>Dat.int i | .inr x=>.str x)
 | []=>.nil
 | .inl i :: ks=>.cons (.int i) (z0w ks)
 | .inr x :: ks=>.cons (.str x) (z0w ks)
theorem z3W {α:Type}:∀ {ks:List Key} {xs:List α},ks.length = xs.length→((ks.zip xs).map fun kv=>kV kv.1) = ks.map kV
 | [],_,_=>rfl
 | _ :: _,_ :: _,e=>by rw [Q0L,Q0e,Q0e,z3W (Q3c.inj e)]
theorem z6B {α:Type}:∀ {ks:List Key} {xs:List α},ks.length = xs.length→(ks.zip xs).map (·.1) = ks
 | [],_,_=>rfl
 | _ :: _,_ :: _,e=>by rw [Q0L,Q0e,z6B (Q3c.inj e)]
theorem x6g {c:Ct}:PureC c (x6f c.K) x5a:=by
 intro S H v x z Q ex r e q
 cases r with
 | lst h1 h2=>
  cases e
  exact .inl ⟨_,_,rfl,.inl (.inl (q0G ex h1)),fun p hp=>q _ _ _ (Fre.new ex hp) (.lst (.inl upd_same) (h2.mono (Fre.new (o:=.lst _) ex hp).ss))⟩
 | fro h1 h2=>
  cases e
  exact .inl ⟨_,_,rfl,.inl (ex.seq h1),fun p hp=>q _ _ _ (Fre.new ex hp) (.lst (.inl upd_same) (h2.mono (Fre.new (o:=.lst _) ex hp).ss))⟩
 | tup h1 h2=>
  cases e
  exact .inl ⟨_,_,rfl,.inr (q0S ex h1),fun p hp=>q _ _ _ (Fre.new ex hp) (.lst (.inl upd_same) (h2.mono (Fre.new (o:=.lst _) ex hp).ss))⟩
 | @dic a ks xs ds h1 h2 h3=>
  dsimp only [x5a] at e
  split at e
  ·cases e
   refine .inr ⟨_,_,rfl,q0G ex h1,fun p hp=>q _ _ _ (Fre.new ex hp) (.lst (.inl upd_same) ?_)⟩
   rw [z3W h2]
   exact z0w ks
  ·cases e
 | _=>cases e
def q9L (K:JFr):List V→Hp→VK→Prop:=fun vs H Q=>∃ (a:Addr) (xs:List Str),vs = [V.ref a]∧SqL K H a (xs.map V.str)∧xs.length ≤ 100000 ∧
 ∀ (ys:List Str) (p:Addr),ys.Perm xs→Q2x ys = true→H p = none→Q (.ref p) (upd H p (.lst (ys.map V.str)))
theorem z1C {X:Cx}:CallR X (.builtin "sorted") (q9L X.K):=by
 intro pins s σ H vs us Q I r h
 obtain ⟨a,xs,rfl,hs,hz,q⟩:=h
 obtain ⟨its,rv,hl,_⟩:=I.list hs
 obtain ⟨u,rfl,ru⟩:=vals1 r
 cases ru
 have l0:=rv.length
 rw [Q0f] at l0
 refine PyProof.Rows.sorted_strsAny hl.isList rv.strs (by rw [← l0]; exact q8r hz) fun out ys h1 h2 h3=>?_
 obtain ⟨ep,he'⟩:=PyProof.Rows.sortedAll_at s.heap its out
 have hlen:(ys.map V.str).length ≤ sizeLine:=by rw [Q0f,h2.length_eq]; exact q8r hz
 exact ⟨.ref _,upd H (s.heap.objs.size + 1) (.lst (ys.map V.str)),I.laid (t':=s.toks) (fun _ _=>PyProof.Rows.sortedAll_old) (Q4d _) ⟨hlen,out.toList,ep,vals_of_strs h1,he'⟩,rfl,q ys _ h2 h3 (I.hok.fresh (Q4d _))⟩
def q6U:List Key→Option (List Str)
 | []=>some []
 | .inr x :: ks=>(q6U ks).map (x :: ·)
 | .inl _ :: _=>none
theorem q7w:∀ {ks:List Key} {xs:List Str},q6U ks = some xs→ks = xs.map Sum.inr
 | [],_,e=>by cases e; rfl
 | .inr x :: ks,_,e=>by
  unfold q6U at e
  cases q:q6U ks with
  | none=>rw [q] at e; cases e
  | some ys=>
   rw [q] at e
   cases e
   rw [q7w q]
   rfl
 | .inl _ :: _,_,e=>by cases e
def z6C:Dat→Option Dat
 | .lst ds=>(z0s ds).bind fun xs=>if xs.length ≤ 100000 then some (.lst ((srt xs).map .str)) else none
 | .dic ks ds=>if ks.length = ds.length then (q6U ks).bind fun xs=>if xs.length < 64 then some (.lst ((srt xs).map .str)) else none else none
 | _=>none
def x1I (K:JFr):List V→Hp→VK→Prop:=fun xs H Q=>q9L K xs H Q∨∃ (a:Addr) (kvs:List (Key × V)) (ks:List Str),xs = [.ref a]∧Rd H a (.dK kvs)∧kvs.map (·.1) = ks.map Sum.inr∧ks.length < 64 ∧
  ∀ ys p,ys.Perm ks→Q2x ys = true→H p = none→Q (.ref p) (upd H p (.lst (ys.map V.str)))
theorem z9q {X:Cx} (hc:X.calm = true):CallR X (.builtin "sorted") (x1I X.K):=CallR.or z1C (call_sortedD hc)
theorem x6h {c:Ct}:PureC c (x1I c.K) z6C:=by
 intro S H v x z Q ex r e q
 cases r with
 | @lst a xs ds h1 h2=>
  dsimp only [z6C] at e
  cases hb:z0s ds with
  | none=>rw [hb] at e; cases e
  | some ys=>
   rw [hb] at e
   dsimp only [Q4e] at e
   split at e
   ·rename_i hl
    cases e
    have ed:=q9K hb
    subst ed
    have ev:=h2.strs
    subst ev
    refine .inl ⟨_,ys,rfl,.inl (q0G ex h1),hl,fun zs p pm st hp=>?_⟩
    cases q9J pm st
    exact q _ _ _ (Fre.new ex hp) (.lst (.inl upd_same) (Reps.of_strs _))
   ·cases e
 | @dic a ks xs ds h1 h2 h3=>
  dsimp only [z6C] at e
  split at e
  ·cases hb:q6U ks with
   | none=>rw [hb] at e; cases e
   | some ys=>
    rw [hb] at e
    dsimp only [Q4e] at e
    split at e
    ·rename_i hl
     cases e
     refine .inr ⟨_,_,ys,rfl,q0G ex h1,by rw [z6B h2]; exact q7w hb,hl,fun zs p pm st hp=>?_⟩
     cases q9J pm st
     exact q _ _ _ (Fre.new ex hp) (.lst (.inl upd_same) (Reps.of_strs _))
    ·cases e
  ·cases e
 | _=>cases e
end DL

namespace DL
variable [DL.Tbls]
open PySem PySem.Spec L2

inductive BT where
 | str | int | bool | tuple
def BT.nm:BT→String
 | .str=>"str" | .int=>"int" | .bool=>"bool" | .tuple=>"tuple"
def isT (T:BT):Dat→Option Dat
 | .non=>some (.bl false)
 | .bl _=>some (.bl (match T with | .int | .bool=>true | _=>false))
 | .int _=>some (.bl (match T with | .int=>true | _=>false))
 | .str _=>some (.bl (match T with | .str=>true | _=>false))
 | .tup _=>some (.bl (match T with | .tuple=>true | _=>false))
 | .lst _=>some (.bl false)
 | .dic _ _=>some (.bl false)
 | _=>none
theorem x6i {c:Ct} {S H:Hp} {v:V} {x z:Dat} (T:BT) (ex:Same S H) (r:Rep c S v x) (e:isT T x = some z):∃ (t:Value) (b:Bool),TyX c.K H v t∧Q3Y c.K t (.type T.nm) = some b∧z = .bl b:=by
 cases r with
 | non=>cases e; exact ⟨_,_,.base .non,(by cases T <;> rfl),rfl⟩
 | bl b=>cases e; exact ⟨_,_,.base (.bl b),(by cases T <;> rfl),rfl⟩
 | int b=>cases e; exact ⟨_,_,.base (.int b),(by cases T <;> rfl),rfl⟩
 | str b=>cases e; exact ⟨_,_,.base (.str b),(by cases T <;> rfl),rfl⟩
 | tup h1 h2=>
  cases e
  rcases q0S ex h1 with (h | ⟨o,h⟩) | ⟨o,its,n,hk,hc,_⟩
  ·exact ⟨_,_,.base (.tup h),(by cases T <;> rfl),rfl⟩
  ·exact ⟨_,_,.fTuple h,(by cases T <;> rfl),rfl⟩
  ·exact ⟨_,_,.kTuple hk hc,(by cases T <;> rfl),rfl⟩
 | lst h1 h2=>
  cases e
  rcases q0G ex h1 with h | ⟨o,h⟩
  ·exact ⟨_,_,.base (.lst h),(by cases T <;> rfl),rfl⟩
  ·exact ⟨_,_,.base (.frz h),(by cases T <;> rfl),rfl⟩
 | dic h1 h2 h3=>
  cases e
  rcases q0G ex h1 with h | ⟨o,h⟩
  ·exact ⟨_,_,.base (.dK h),(by cases T <;> rfl),rfl⟩
  ·exact ⟨_,_,.fDict h,(by cases T <;> rfl),rfl⟩
 | _=>cases e
section
variable {X:Cx} {e a b:Expr} {es:List Expr} {pos p p2:Pos} {f g h:EM Dat}
theorem q5m (T:BT) {x:Str} (hv:bootBuiltins x = some (.type T.nm)) (hg:Gl X "isinstance") (hm:X.mg "isinstance" = none) (hg2:Gl X x) (hm2:X.mg x = none) (he:XE X e f) (hn:x ≠ "__name__":=by decide) (hd:(x == ("__debug__":Str)) = false:=by decide)
  (h1:starEach [e,.Name x p2] X.env = (false,eval e X.env) :: starEach [.Name x p2] X.env:=by rfl) (h2:starEach [.Name x p2] X.env = (false,eval (.Name x p2) X.env) :: starEach [] X.env:=by rfl) (hpl:(backTo pos (starEach [.Name x p2] X.env)).any (·.1) = false:=by rfl) :
  XE X (.Call (.Name "isinstance" p) [e,.Name x p2] [] pos) (e1 (isT T) f):=
 (pe_callB call_isi hg hm Q3d (pa_cons he (pa_cons (pe_bltn hg2 hm2 hv (v:=.ty T.nm) rfl hn hd) pa_nil h2) h1) (by decide) (by decide) h1 hpl).imp fun _ _ _ q=>(q8o q).mono fun v H1 ⟨S,y,z,ex,r,e,q⟩=>by
  obtain ⟨t,b,ty,k,rfl⟩:=x6i T ex r e
  exact ⟨v,.ty T.nm,t,_,b,rfl,.ty _,ty,k,q _ S H1 (Fre.refl ex) (.bl _)⟩

def rgD (n:Int):List Dat:=(Q1e n.toNat).map fun k:Nat=>Dat.int (k:Int)
def q8D:Dat→Dat→Option Dat
 | .str a,.str b=>if b.length ≠ 0∧a.length ≤ 100000 then some (.lst ((Txt.split a b).map .str)) else none
 | _,_=>none
theorem z3X {apos:Pos} (ho:XE X a f) (he:XE X b g) (hs:starEach [b] X.env = [(false,eval b X.env)]:=by rfl) (hbase:attributeBase a "split" X.env (eval a X.env) = eval a X.env:=by rfl) (hline:(apos.endLine == pos.line) = true:=by rfl) :
  XE X (.Call (.Attribute a "split" apos) [b] [] pos) (e2 q8D f g):=(pe_split ho he hs hbase hline).imp fun σ H Q ⟨S,q⟩=>⟨S,q.bind.mono fun x S1 H1 _ q v rv=>by
 have str_of:∃ s0,x = .str s0:=by
  obtain ⟨ρ,fps,y,ρ',G,e0,q0⟩:=q
  obtain ⟨y1,ρ1,e1,e2⟩:=q0z e0
  obtain ⟨e3,_⟩:=q1e e2
  cases x with
  | str s0=>exact ⟨s0,rfl⟩
  | _=>cases e3
 obtain ⟨s0,rfl⟩:=str_of
 cases rv
 refine ⟨⟨s0,rfl⟩,S1,q.bind.mono fun y S2 H2 s2 q u ru=>?_⟩
 obtain ⟨z,e,ex,q⟩:=q.lift
 cases ru with
 | str t=>
  dsimp only [q8D] at e
  split at e
  ·rename_i hl
   cases e
   refine ⟨s0,t,rfl,rfl,by simp [hl.1],Q0S (Nat.add_le_add_right hl.2 2) (by decide),fun p hp=>(q _ _ (Fre.new ex hp)).2.2 _ (.lst (.inl upd_same) (Reps.of_strs _))⟩
  ·cases e
 | _=>cases e⟩

def z1D (f:EM Dat) (t:EM (List Dat)):EM (List Dat):=q0J f fun d=>match d with
 | .lst ds=>q0J t fun es=>q2M (ds ++ es)
 | .tup ds=>q0J t fun es=>q2M (ds ++ es)
 | _=>eNo
theorem q6V {c:Ct} {S H:Hp}:∀ {vs:List V} {ds:List Dat},Reps c S vs ds→RepAs c S H vs (ds.map .im) []
 | _,_,.nil=>.nil
 | _,_,.cons r rs=>.cons (fp:=[]) (.im r) (q6V rs)
theorem z6D {t:EM (List Dat)} {p:Pos} (he:XE X e f) (hr:XA X es t) (hs:starEach (.Starred e p :: es) X.env = (true,eval e X.env) :: starEach es X.env:=by rfl):XA X (.Starred e p :: es) (z1D f t):=
 (StX.pa_star he hr hs).imp fun σ H Q ⟨S,q⟩=>⟨S,q.bind.mono fun d S1 H1 _ q v r=>by
  cases r with
  | lst h1 h2=>
   have ex:=q.ex
   exact ⟨_,_,rfl,.inr (.inl (q0G ex h1)),S1,(show Go (ct X) (q0J t fun es=>q2M (_ ++ es)) σ S1 H1 _ from q).bind.mono fun ds S2 H2 s2 q vs rs=>by
    obtain ⟨ex2,q⟩:=q.ret
    exact (q S2 H2 (Fre.refl ex2)).2.2 _ ((h2.mono s2).app rs)⟩
  | tup h1 h2=>
   have ex:=q.ex
   exact ⟨_,_,rfl,.inl (q0S ex h1),S1,(show Go (ct X) (q0J t fun es=>q2M (_ ++ es)) σ S1 H1 _ from q).bind.mono fun ds S2 H2 s2 q vs rs=>by
    obtain ⟨ex2,q⟩:=q.ret
    exact (q S2 H2 (Fre.refl ex2)).2.2 _ ((h2.mono s2).app rs)⟩
  | _=>exact (Go.no q).elim⟩
end
end DL

namespace DL
variable [DL.Tbls]
open PySem PySem.Spec L2

section
variable {X:Cx} {a b d:Expr} {pos:Pos} {f g h:EM Dat}
theorem z3Y {c:Ct} {r0 r1:R2} {r r':Dat→Dat→Option Dat} (hp:q2B c r0 r) (hp':q2B c r1 r') {σ:L2.St} {H:Hp} {Q:VK} (q:tD c (q7v r r' f g h) σ H Q):tChain r0 r1 (tD c f) (tD c g) (tD c h) σ H Q:=by
 obtain ⟨S,q⟩:=q
 refine ⟨S,q.bind.mono fun x S1 H1 _ q v rv=>⟨S1,q.bind.mono fun y S2 H2 s2 q u ru=>?_⟩⟩
 have rv2:=rv.mono s2
 obtain ⟨ρ,fps,w,ρ',G,e0,q0⟩:=q.bind
 obtain ⟨e1,e2⟩:=q1e e0
 subst e2
 refine hp S2 H2 v u x y w _ G.ex rv2 ru e1 fun z S3 H3 f3 rz=>?_
 have q3:=q0 S3 H3 fps (G.fre f3).2 (PinR.refl _) (G.fre f3).1
 cases w with
 | bl k=>
  cases rz
  refine ⟨k,rfl,?_⟩
  cases k with
  | true=>
   refine ⟨S3,(show Go c (q0J h fun w=>q3a (r' y w)) σ S3 H3 _ from q3).bind.mono fun w' S4 H4 s4 q w0 rw0=>?_⟩
   obtain ⟨z,e,ex,q⟩:=q.lift
   exact hp' S4 H4 u w0 y w' z Q ex ((ru.mono f3.ss).mono s4) rw0 e fun t S' H' f' r'=>(q S' H' f').2.2.2.2 t r'
  | false=>
   obtain ⟨ex,q⟩:=(show Go c (q2M (Dat.bl false)) σ S3 H3 _ from q3).ret
   exact (q S3 H3 (Fre.refl ex)).2.2.2 _ (.bl false)
 | _=>exact (Go.no q3).elim
theorem z3Z {op op':CmpOp} {r0 r1:R2} {r r':Dat→Dat→Option Dat} (ho:OpR X (compareOp op) r0) (ho':OpR X (compareOp op') r1) (hp:q2B (ct X) r0 r) (hp':q2B (ct X) r1 r') (ha:XE X a f) (hb:XE X b g) (hd:XE X d h)
  (hm:lastMarks [op,op'] [b,d] = false:=by with_unfolding_all rfl):XE X (.Compare a [op,op'] [b,d] pos) (q7v r r' f g h):=(pe_chain ho ho' ha hb hd hm).imp fun _ _ _ q=>z3Y hp hp' q
theorem z9r {op op':CmpOp} {r0 r1:R2} {r r':Dat→Dat→Option Dat} (ho:OpR X (compareOp op) r0) (ho':OpR X (compareOp op') r1) (hp:q2B (ct X) r0 r) (hp':q2B (ct X) r1 r') (ha:XE X a f) (hb:XE X b g) (hd:XE X d h)
  (hm:lastMarks [op,op'] [b,d] = false:=by with_unfolding_all rfl):XT X (.Compare a [op,op'] [b,d] pos) (eT (q7v r r' f g h)):=(pt_chain ho ho' ha hb hd hm).imp fun σ H Q q=>by
 obtain ⟨S,q⟩:=z6g q
 exact z3Y hp hp' (Q:=fun z H'=>∃ k,z = .bl k∧Q k H') ⟨S,q⟩
end

def z9s (i j:Nat) (f g:EM Cell):SD:=fun ρ=>match f ρ with
 | some (k1,ρ1)=>match g ρ1 with
  | some (k2,ρ2)=>match setS i k1 ρ2 with
   | some ρ3=>match setS j k2 ρ3 with
    | some ρ4=>some (.nx ρ4)
    | none=>none
   | none=>none
  | none=>none
 | none=>none
theorem z6E {i:Nat} {k:Cell} {ρ ρ':Rho} (s:Option Slot) (h:setS i k ρ = some ρ'):setS (i + 1) k (s :: ρ) = some (s :: ρ'):=by
 unfold setS at h ⊢
 rw [Q0b]
 split at h
 ·split at h
  ·cases h
  ·cases h
   rename_i hs hp
   rw [hs]
   dsimp only
   rw [if_neg hp]
   rfl
 ·cases h
  rename_i hs
  rw [hs]
  rfl
 ·cases h
section
variable {X:Cx} {a b e:Expr} {pos px py pt pt2:Pos} {kt k2:Nat} {f g:EM Cell}
theorem z1E (i j:Nat) {x y:Str} {kt k2:Nat} (hc:X.calm = true) (hN:X.N.Nodup) (ha:XC X a f) (hb:XC X b g) (hij:i ≠ j:=by decide) (hi:X.N[i]? = some x:=by rfl) (hj:X.N[j]? = some y:=by rfl) (hx:X.env.scope.names.lookup x = some .local:=by rfl) (hy:X.env.scope.names.lookup y = some .local:=by rfl)
  (hw:swappedStores [.Tuple [.Name x px,.Name y py] kt pt] (.Tuple [a,b] k2 pt2) X.env = pure (some [x,y]):=by rfl) (hs:swapsWithSole [.Tuple [.Name x px,.Name y py] kt pt] (.Tuple [a,b] k2 pt2) pos.line X.env = pure false:=by rfl)
  (s1:starEach [a,b] X.env = (false,eval a X.env) :: starEach [b] X.env:=by rfl) (s2:starEach [b] X.env = (false,eval b X.env) :: starEach [] X.env:=by rfl) :
  XS X (.Assign [.Tuple [.Name x px,.Name y py] kt pt] (.Tuple [a,b] k2 pt2) pos) (z9s i j f g):=
 (ps_par hc hN hi hj hij hx hy (pa_cons ha (pa_cons hb pa_nil s2) s1) hw hs).imp fun D σ H ⟨S,ρ,fps,fl,G,e0,q⟩=>by
  unfold z9s at e0
  split at e0
  ·rename_i k1 ρ1 h1
   split at e0
   ·rename_i k2 ρ2 h2
    split at e0
    ·rename_i ρ3 h3
     split at e0
     ·rename_i ρ4 h4
      cases e0
      refine ⟨S,ρ,fps,k1,ρ1,G,h1,fun v S1 H1 f1 st1 pn1 G1=>?_⟩
      obtain ⟨fp,f2,ef,G2,back⟩:=G1.push
      refine ⟨S1,ρ1,f2,k2,ρ2,G2,h2,fun w S3 H3 f3 st3 pn3 G3=>?_⟩
      obtain ⟨G4,st4⟩:=back S3 H3 _ _ f3 st3 G3
      refine ⟨v,w,rfl,?_⟩
      obtain ⟨f5,G5,st5⟩:=G4.setS (z6E (some ⟨false,k2⟩) h3)
      obtain ⟨f6,G6,st6⟩:=(show Good (ct X) S3 H3 (some w :: σ.set i (some v)) (some ⟨false,k2⟩ :: ρ3) f5 from G5).setS h4
      exact q _ S3 H3 f6 (((st1.trans st4).trans st5).trans st6) (((Pins.of σ (pn1.trans pn3)).trans (q5D σ v h3)).trans (q5D _ w h4)) G6
     ·cases e0
    ·cases e0
   ·cases e0
  ·cases e0

def x3j (tg:Tg) (f:EM Dat):SD:=fun ρ=>match f ρ with
 | some (d,ρ1)=>match bdT tg d ρ1 with
  | some ρ2=>some (.nx ρ2)
  | none=>none
 | none=>none
theorem z6F {tge:Expr} {tg:Tg} {f:EM Dat} (he:XE X e f) (hg:PG X tge (gT (ct X) tg)) (hs:swapsWithSole [tge] e pos.line X.env = pure false:=by rfl) (hw:swappedStores [tge] e X.env = pure none:=by rfl)
  (h1:(jbh [tge] X.env).map (·.2) = [assign tge X.env]:=by rfl):XS X (.Assign [tge] e pos) (x3j tg f):=(ps_asg he hg hs hw h1).imp fun D σ H ⟨S,ρ,fps,fl,G,e0,q⟩=>by
 unfold x3j at e0
 split at e0
 ·rename_i d ρ1 h1
  split at e0
  ·rename_i ρ2 h2
   cases e0
   refine ⟨S,ρ,fps,d,ρ1,G,h1,fun S1 H1 f1 st1 pn1 G1 v r=>⟨S1,ρ1,f1,d,ρ2,G1,r,h2,fun σ2 f2 st2 p2 w2 G2=>?_⟩⟩
   exact q σ2 S1 H1 f2 (st1.trans st2) ((Pins.of σ pn1).trans p2) G2
  ·cases e0
 ·cases e0
end

def z2X (i:Nat) (nm f:Str) (g:EM Cell):SD:=fun ρ=>match g ρ with
 | some (.atm a,ρ1)=>match ρ1[i]? with
  | some (some ⟨p,.oi c fs as⟩)=>if c = nm∧f ∉ fs∧fs.length = as.length∧fs.length < 100 then some (.nx (ρ1.set i (some ⟨p,.oi c (fs ++ [f]) (as ++ [a])⟩))) else none
  | _=>none
 | _=>none
theorem z4a (f:Str) (y:V):∀ {fs:List Str} {xs:List V},fs.length = xs.length→f ∉ fs→putF f y (fs.zip xs) = (fs ++ [f]).zip (xs ++ [y])
 | [],[],_,_=>rfl
 | g :: fs,x :: xs,e,h=>by
  have ne:¬ g = f:=fun z=>h (z ▸ Q0g)
  rw [Q0L,Q0x,Q0x,Q0L,← z4a f y (Q3c.inj e) fun z=>h (Q0h _ z)]
  show (if g = f then _ else _) = _
  rw [if_neg ne]
theorem RepAs.snoc {c:Ct} {S H:Hp} {vs:List V} {as:List Atom} {fp:List Addr} (h:RepAs c S H vs as fp) {v:V} {a:Atom} {fq:List Addr} (k:RepA c S H v a fq):RepAs c S H (vs ++ [v]) (as ++ [a]) (fp ++ fq):=by
 induction h with
 | nil=>
  have z:=RepAs.cons k (RepAs.nil (c:=c) (S:=S) (H:=H))
  rw [Q0i] at z
  exact z
 | cons h1 _ ih=>
  rw [Q0C]
  exact .cons h1 ih
theorem x6j {fv l p:List Addr} {a0:Addr} {fp r:List Addr} (h:(fv ++ (l ++ ((a0 :: fp) ++ r))).Nodup):(l ++ ((a0 :: (fp ++ fv)) ++ r)).Nodup:=by
 simp only [Q0E,Q0k,Q0s,Q0P] at h ⊢
 grind
theorem z6G {X:Cx} {e:Expr} {pos p1 p2:Pos} {g:EM Cell} (i:Nat) {nm fl:Str} {x:Str} (hF:Fd (ct X) nm fl) (he:XC X e g) (hN:X.N[i]? = some x:=by rfl) (hv:Vis X.env.scope x:=by first | exact Or.inl rfl | exact Or.inr (Or.inl rfl) | exact Or.inr (Or.inr rfl))
  (hd:(x == ("__debug__":Str)) = false:=by decide) (hcd:(x == ("__classdict__":Str)) = false:=by decide) (hs:swapsWith e (some (.Attribute (.Name x p1) fl p2)) pos.line X.env = pure false:=by rfl) :
  XS X (.Assign [.Attribute (.Name x p1) fl p2] e pos) (z2X i nm fl g):=(ps_fld (pe_var (i:=i) hN hv hd hcd) he hs).imp fun D σ H ⟨S,ρ,fps,fw,G,e0,q⟩=>by
 unfold z2X at e0
 split at e0
 ·rename_i a ρ1 h1
  split at e0
  ·rename_i pb cn fs as hsl
   split at e0
   ·rename_i hcond
    obtain ⟨rfl,hnf,hlen,hbd⟩:=hcond
    cases e0
    refine ⟨S,ρ,fps,_,ρ1,G,h1,fun v S1 H1 f1 st1 pn1 G1=>?_⟩
    have ex1:=G1.ex
    have nd1:=G1.nd
    have out1:=G1.out
    obtain ⟨fv,f2,ef,rv,rs⟩:=G1.rep.head
    subst ef
    obtain ⟨v0,l,fp,r,ev,ef2,rc,put⟩:=rs.at hsl
    subst ef2
    cases rc with
    | @oi p0 C dx nm' fs' xs as' fpi h0 ho hl2 ras=>
     cases rv with
     | atm rv=>
      obtain ⟨cl,na⟩:=hF C h0
      refine ⟨.ref p0,ev,p0,C,dx,fs.zip xs,rfl,ho,cl,na,?_,?_⟩
      ·rw [Q3f,← hl2,Q3P]
       omega
      rw [z4a fl v hl2 hnf]
      have hset:σ.set i (some (.ref p0)) = σ:=by
       apply Q1G
       intro j
       by_cases hj:i = j
       ·subst hj
        rw [Q0M (Q0r.mp ev).1,ev]
       ·rw [Q0I hj]
      have nd2:=x6j (p:=[]) nd1
      have n3:∀ x,x ∈ l ++ r→x ≠ p0:=fun x hx=>by
       simp only [Q0E,Q0k,Q0s,Q0P] at nd2 hx
       grind
      have n4:∀ x,x ∈ fpi→x ≠ p0:=fun x hx=>by
       simp only [Q0E,Q0k,Q0s,Q0P] at nd2
       grind
      have n5:∀ x,x ∈ fv→x ≠ p0:=fun x hx=>by
       simp only [Q0E,Q0k,Q0s,Q0P] at nd2
       grind
      have rnew:RepC (ct X) S1 (upd H1 p0 (.ins C dx ((fs ++ [fl]).zip (xs ++ [v])))) (.ref p0) (.oi cn (fs ++ [fl]) (as ++ [a])) (p0 :: (fpi ++ fv)):=
       .oi h0 upd_same (by simp [hl2]) ((ras.keep (Same.refl S1) fun x hx=>upd_ne (n4 x hx)).snoc (rv.keep (Same.refl S1) fun x hx=>upd_ne (n5 x hx)))
      have rep':=put S1 (upd H1 p0 (.ins C dx ((fs ++ [fl]).zip (xs ++ [v])))) pb _ (.ref p0) (p0 :: (fpi ++ fv)) (Same.refl S1) (fun x hx=>upd_ne (n3 x hx)) rnew
      rw [hset] at rep'
      have sub:∀ x,x ∈ l ++ ((p0 :: (fpi ++ fv)) ++ r)→x ∈ fv ++ (l ++ ((p0 :: fpi) ++ r)):=fun x hx=>by
       simp only [Q0k,Q0s] at hx ⊢
       grind
      have Gf:Good (ct X) S1 (upd H1 p0 (.ins C dx ((fs ++ [fl]).zip (xs ++ [v])))) σ (ρ1.set i (some ⟨pb,.oi cn (fs ++ [fl]) (as ++ [a])⟩)) (l ++ ((p0 :: (fpi ++ fv)) ++ r)):=⟨fun b o qb=>by
       have hb:b ≠ p0:=fun z=>by
        rw [z,out1 p0 (sub p0 (by simp))] at qb
        cases qb
       rw [upd_ne hb]
       exact ex1 b o qb,rep',nd2,fun x hx=>out1 x (sub x hx),(by first | assumption | (apply DL.Good.tb; assumption) | (apply DL.z2N <;> first | (apply DL.Good.tb; assumption) | assumption | exact ⟨inferInstance,inferInstance⟩) | (apply DL.z2M <;> first | (apply DL.Good.tb; assumption) | (apply DL.q2i; assumption)))⟩
      refine q σ S1 _ _ (st1.trans ⟨Same.refl S1,fun b o qb n=>?_,fun b qb=>?_,fun b hb=>.inl (sub b hb),fun b qb=>.inl qb⟩) ⟨pn1.trans (PinR.put (s:=⟨pb,.oi cn fs as⟩) hsl),fun _ _ _ _=>rfl⟩ Gf
      ·rw [upd_ne fun z=>n (sub b (by rw [z]; simp))]
       exact qb
      ·by_cases z:b = p0
       ·rw [z,upd_same]; exact fun w=>nomatch w
       ·rw [upd_ne z]; exact qb
   ·cases e0
  ·cases e0
 ·cases e0

end DL

namespace DLE
variable [DL.Tbls]
open PySem PySem.Spec PyProof.Rows L2
end DLE

namespace DL
variable [DL.Tbls]
open PySem PySem.Spec L2
section
variable {X:Cx} {e:Expr} {es:List Expr} {pos p:Pos}
theorem z1F {x:Str} {v:V} (hg:Gl X x) (h:∃ u,X.mg x = some u∧RelV v u) (hd:(x == ("__debug__":Str)) = false:=by decide):PE X (.Name x pos) (L2.tC v):=let ⟨_,hm,r⟩:=h; pe_glob hg hm r hd
def z9t (f:EM Dat):EM Cell:=q0J f fun d=>match d with
 | .lst ds=>if ds.length ≤ 100000 then q2M (.ol ds.reverse) else eNo
 | _=>eNo
theorem x6k {k:Nat} {p1 p2 p3:Pos} {f:EM Dat} (he:XE X e f):XC X (.Subscript e (.Slice none none (some (.UnaryOp .USub (.Constant (.int 1) k p1) p2)) p3) pos) (z9t f):=
 (pe_revL he).imp fun σ H Q q=>(x1A q).mono fun v H1 ⟨S,d,ρ,fps,k,ρ',G,r,e,q⟩=>by
  cases r with
  | lst h1 h2=>
   dsimp only at e
   split at e
   ·cases e
    refine ⟨_,_,rfl,.inl (q0G G.ex h1),fun p hp=>?_⟩
    obtain ⟨G2,st2⟩:=G.alloc hp (.atm (.ol upd_same h2.rev))
    exact q _ _ _ _ st2 (PinR.refl _) G2
   ·cases e
  | _=>cases e
end
theorem z5q {c:Ct} {n:Nat} {F:Cell→List Dat→Option (Cell × Cell)} {vs:List V} {H:Hp} {Q:VK} (h:spO c n F vs H Q):vs.length = n + 1:=by
 obtain ⟨v0,ws,rfl,hl,_⟩:=h
 rw [Q0d,hl]
end DL

namespace DL
variable [DL.Tbls]
open PySem PySem.Spec L2
section
variable {c:Ct} {S H S1 H1:Hp} {σ:L2.St} {ρ ρ1:Rho} {fps f1:List Addr}
end
def x6l (f:EM Dat):EM (List Dat):=q0J f fun d=>match d with
 | .str x=>q2M (x.cps.toList.map fun k=>Dat.str ⟨#[k]⟩)
 | _=>eNo
theorem x3k {c:Ct} {S:Hp} (x:Str):ItD c S (Its x) (x.cps.toList.map fun k=>Dat.str ⟨#[k]⟩) where
 go:=fun i H hi e=>by simpa [Its] using hi
 stop:=fun i H hi e=>by simp [Its,hi]
 yld:=fun i d S2 H v H' hd e e2 ⟨q1,k,q2,q3⟩=>by
  subst q1
  have:(x.cps.toList.map fun k=>Dat.str ⟨#[k]⟩)[i]? = some (Dat.str ⟨#[k]⟩):=by
   rw [Q0O,Q1E,q2]; rfl
  rw [hd] at this
  cases this
  subst q3
  exact ⟨S2,Fre.refl e2,.str _⟩
theorem x1J {X:Cx} {tg l:Expr} {f:EM Dat} (h:XE X l f):XI X tg l (x6l f):=(pi_str h).imp fun σ H R ⟨S,q⟩=>⟨S,q.bind.mono fun d S1 H1 _ q v r=>by
 cases r with
 | str x=>
  obtain ⟨ex,q⟩:=q.ret
  exact ⟨x,rfl,(q S1 H1 (Fre.refl ex)).2 _ (x3k x)⟩
 | _=>exact (Go.no q).elim⟩

def j0a (X:Cx) (t:TE):TE:=fun σ H Q=>t σ H fun v H'=>Q v H'∨∃ d o u,H' d = some (.frz o u)∧(∀ o' u',X.H_0 d ≠ some (.frz o' u'))∧Q v (upd H' d u)
theorem x6m {X:Cx} {e:Expr} {t:TE} (h:PE X e t):PE X e (j0a X t):=by
 refine ⟨fun pins s σ H Q I hw=>?_⟩
 refine thn (h.run pins s σ _ _ I hw) fun v s1 ⟨x,H1,I2,r,q⟩=>?_
 rcases q with q | ⟨d,o,u,e2,hn,q⟩
 ·exact ⟨x,_,I2,r,q⟩
 ·exact ⟨x,_,I2.unlock e2 hn,r,q⟩

section
variable {c:Ct} {S:Hp} {d:Addr} {kvs:List (Key × V)} {o:Obj}
theorem q8E {a:Addr} {u:HO} (hd:S d = some (.dK kvs)) (h:Rd S a u):Rd (upd S d (.frz o (.dK kvs))) a u:=by
 by_cases z:a = d
 ·subst z
  rcases h with h | ⟨o',h⟩
  ·rw [hd] at h; cases h; exact .inr ⟨o,upd_same⟩
  ·rw [hd] at h; cases h
 ·rcases h with h | ⟨o',h⟩
  ·exact .inl (by rw [upd_ne z]; exact h)
  ·exact .inr ⟨o',by rw [upd_ne z]; exact h⟩
theorem q5E {a:Addr} {u:HO} (hd:S d = some (.frz o (.dK kvs))) (h:Rd S a u) (hu:u ≠ .frz o (.dK kvs)):Rd (upd S d (.dK kvs)) a u:=by
 by_cases z:a = d
 ·subst z
  rcases h with h | ⟨o',h⟩
  ·rw [hd] at h; cases h; exact absurd rfl hu
  ·rw [hd] at h; cases h; exact .inl upd_same
 ·rcases h with h | ⟨o',h⟩
  ·exact .inl (by rw [upd_ne z]; exact h)
  ·exact .inr ⟨o',by rw [upd_ne z]; exact h⟩
mutual
theorem Rep.lock (hd:S d = some (.dK kvs)) {v:V} {x:Dat} (h:Rep c S v x):Rep c (upd S d (.frz o (.dK kvs))) v x:=by
 match h with
 | .non=>exact .non
 | .bl b=>exact .bl b
 | .int i=>exact .int i
 | .str x=>exact .str x
 | .tup h1 h2=>exact .tup (h1.imp (q8E hd) id) (Reps.lock hd h2)
 | .lst h1 h2=>exact .lst (q8E hd h1) (Reps.lock hd h2)
 | .fro h1 h2=>exact .fro (h1.imp (q8E hd) id) (Reps.lock hd h2)
 | .dic h1 h2 h3=>exact .dic (q8E hd h1) h2 (Reps.lock hd h3)
 | .ins h0 h1 h2 h3=>exact .ins h0 (by rw [upd_ne fun z=>by rw [z,hd] at h1; cases h1]; exact h1) h2 (Reps.lock hd h3)
 | .dix h1 h2 h3 h4=>exact .dix (q8E hd h1) (Reps.lock hd h2) h3 (Reps.lock hd h4)
 | .opq h=>exact .opq h
theorem Reps.lock (hd:S d = some (.dK kvs)) {vs:List V} {ds:List Dat} (h:Reps c S vs ds):Reps c (upd S d (.frz o (.dK kvs))) vs ds:=by
 match h with
 | .nil=>exact .nil
 | .cons h1 h2=>exact .cons (Rep.lock hd h1) (Reps.lock hd h2)
end
mutual
theorem Rep.unlock (hd:S d = some (.frz o (.dK kvs))) {v:V} {x:Dat} (h:Rep c S v x):Rep c (upd S d (.dK kvs)) v x:=by
 match h with
 | .non=>exact .non
 | .bl b=>exact .bl b
 | .int i=>exact .int i
 | .str x=>exact .str x
 | .tup h1 h2=>exact .tup (h1.imp (fun z=>q5E hd z fun z=>nomatch z) id) (Reps.unlock hd h2)
 | .lst h1 h2=>exact .lst (q5E hd h1 fun z=>nomatch z) (Reps.unlock hd h2)
 | .fro h1 h2=>exact .fro (h1.imp (fun z=>q5E hd z fun z=>nomatch z) id) (Reps.unlock hd h2)
 | .dic h1 h2 h3=>exact .dic (q5E hd h1 fun z=>nomatch z) h2 (Reps.unlock hd h3)
 | .ins h0 h1 h2 h3=>exact .ins h0 (by rw [upd_ne fun z=>by rw [z,hd] at h1; cases h1]; exact h1) h2 (Reps.unlock hd h3)
 | .dix h1 h2 h3 h4=>exact .dix (q5E hd h1 fun z=>by unfold KD at z; cases z) (Reps.unlock hd h2) h3 (Reps.unlock hd h4)
 | .opq h=>exact .opq h
theorem Reps.unlock (hd:S d = some (.frz o (.dK kvs))) {vs:List V} {ds:List Dat} (h:Reps c S vs ds):Reps c (upd S d (.dK kvs)) vs ds:=by
 match h with
 | .nil=>exact .nil
 | .cons h1 h2=>exact .cons (Rep.unlock hd h1) (Reps.unlock hd h2)
end
theorem RepA.swap {S' H H':Hp} (k:∀ v x,Rep c S v x→Rep c S' v x) (ks:∀ vs xs,Reps c S vs xs→Reps c S' vs xs) {v:V} {a:Atom} {fp:List Addr} (h:RepA c S H v a fp) (hh:∀ x ∈ fp,H' x = H x):RepA c S' H' v a fp:=by
 cases h with
 | im h=>exact .im (k _ _ h)
 | ol h1 h2=>exact .ol ((hh _ (Q0t.mpr rfl)).trans h1) (ks _ _ h2)
 | od h1 h2 h3=>exact .od ((hh _ (Q0t.mpr rfl)).trans h1) h2 (ks _ _ h3)
 | ok h1 h2 h3 h4=>exact .ok ((hh _ (Q0t.mpr rfl)).trans h1) (ks _ _ h2) h3 (ks _ _ h4)
theorem RepAs.swap {S' H H':Hp} (k:∀ v x,Rep c S v x→Rep c S' v x) (ks:∀ vs xs,Reps c S vs xs→Reps c S' vs xs) {vs:List V} {as:List Atom} {fp:List Addr} (h:RepAs c S H vs as fp):(∀ x ∈ fp,H' x = H x)→RepAs c S' H' vs as fp:=by
 induction h with
 | nil=>exact fun _=>.nil
 | cons h1 _ ih=>exact fun hh=>.cons (h1.swap k ks fun x hx=>hh x (Q0q _ hx)) (ih fun x hx=>hh x (Q0l _ hx))
theorem RepC.swap {S' H H':Hp} (k:∀ v x,Rep c S v x→Rep c S' v x) (ks:∀ vs xs,Reps c S vs xs→Reps c S' vs xs) {v:V} {a:Cell} {fp:List Addr} (h:RepC c S H v a fp) (hh:∀ x ∈ fp,H' x = H x):RepC c S' H' v a fp:=by
 cases h with
 | atm h=>exact .atm (h.swap k ks hh)
 | li h1 h2=>exact .li ((hh _ Q0g).trans h1) (h2.swap k ks fun x hx=>hh x (Q0h _ hx))
 | di h1 h2 h3=>exact .di ((hh _ Q0g).trans h1) h2 (h3.swap k ks fun x hx=>hh x (Q0h _ hx))
 | oi h0 h1 h2 h3=>exact .oi h0 ((hh _ Q0g).trans h1) h2 (h3.swap k ks fun x hx=>hh x (Q0h _ hx))
 | dk h1 h2 h3 h4=>exact .dk ((hh _ Q0g).trans h1) (ks _ _ h2) h3 (h4.swap k ks fun x hx=>hh x (Q0h _ hx))
theorem RepS.swap {S' H H':Hp} (k:∀ v x,Rep c S v x→Rep c S' v x) (ks:∀ vs xs,Reps c S vs xs→Reps c S' vs xs) {σ:L2.St} {ρ:Rho} {fp:List Addr} (h:RepS c S H σ ρ fp):(∀ x ∈ fp,H' x = H x)→RepS c S' H' σ ρ fp:=by
 induction h with
 | nil=>exact fun _=>.nil
 | non _ ih=>exact fun hh=>.non (ih hh)
 | con h1 _ ih=>exact fun hh=>.con (h1.swap k ks fun x hx=>hh x (Q0q _ hx)) (ih fun x hx=>hh x (Q0l _ hx))
theorem q7Y {S H:Hp} {a:Addr} {u:HO} (e:Same S H):Same (upd S a u) (upd H a u):=fun b x q=>by
 by_cases z:b = a
 ·subst z; rw [upd_same] at q ⊢; exact q
 ·rw [upd_ne z] at q ⊢; exact e _ _ q
theorem Good.lock {H:Hp} {σ:L2.St} {ρ:Rho} {f:List Addr} (G:Good c S H σ ρ f) (hd:S d = some (.dK kvs)):Good c (upd S d (.frz o (.dK kvs))) (upd H d (.frz o (.dK kvs))) σ ρ f:=by
 have ne:∀ a ∈ f,a ≠ d:=fun a ha z=>by have:=G.out a ha; rw [z,hd] at this; cases this
 exact ⟨q7Y G.ex,G.rep.swap (fun v x h=>h.lock hd) (fun v x h=>h.lock hd) fun x hx=>upd_ne (ne x hx),G.nd,fun a ha=>by rw [upd_ne (ne a ha)]; exact G.out a ha,q7V G.tb G.ex hd⟩
theorem Good.unlock {H:Hp} {σ:L2.St} {ρ:Rho} {f:List Addr} (G:Good c S H σ ρ f) (hd:S d = some (.frz o (.dK kvs))):Good c (upd S d (.dK kvs)) (upd H d (.dK kvs)) σ ρ f:=by
 have ne:∀ a ∈ f,a ≠ d:=fun a ha z=>by have:=G.out a ha; rw [z,hd] at this; cases this
 exact ⟨q7Y G.ex,G.rep.swap (fun v x h=>h.unlock hd) (fun v x h=>h.unlock hd) fun x hx=>upd_ne (ne x hx),G.nd,fun a ha=>by rw [upd_ne (ne a ha)]; exact G.out a ha,q7V G.tb G.ex hd⟩
theorem Stp.unlock {H Sz Hz:Hp} {f fz:List Addr} (ex:Same S H) (hd:S d = some (.dK kvs)) (st:Stp (upd S d (.frz o (.dK kvs))) (upd H d (.frz o (.dK kvs))) f Sz Hz fz):Stp S H f (upd Sz d (.dK kvs)) (upd Hz d (.dK kvs)) fz where
 ss:=fun b x q=>by
  by_cases z:b = d
  ·subst z; rw [hd] at q; rw [upd_same]; exact q
  ·rw [upd_ne z]; exact st.ss b x (by rw [upd_ne z]; exact q)
 fr:=fun a x q n=>by
  by_cases z:a = d
  ·subst z; rw [ex _ _ hd] at q; rw [upd_same]; exact q
  ·rw [upd_ne z]; exact st.fr a x (by rw [upd_ne z]; exact q) n
 dom:=fun a q=>by
  by_cases z:a = d
  ·subst z; rw [upd_same]; exact fun z=>nomatch z
  ·rw [upd_ne z]; exact st.dom a (by rw [upd_ne z]; exact q)
 nf:=fun a q=>by
  rcases st.nf a q with h | h
  ·exact .inl h
  ·refine .inr ?_
   by_cases z:a = d
   ·subst z; rw [upd_same] at h; cases h
   ·rw [upd_ne z] at h; exact h
 ns:=fun a q=>by
  by_cases z:a = d
  ·subst z; exact .inl (by rw [hd]; exact fun z=>nomatch z)
  ·rw [upd_ne z] at q
   rcases st.ns a q with h | h | h
   ·rw [upd_ne z] at h; exact .inl h
   ·exact .inr (.inl h)
   ·rw [upd_ne z] at h; exact .inr (.inr h)
end
end DL

namespace DL
variable [DL.Tbls]
open PySem PySem.Spec L2
def z2Y:Atom→Nat
 | .im _=>0
 | .ol _=>1
 | .od _ _=>2
 | .ok _ _=>3
def z0x:Option (Option Slot)→Option (Bool × Atom)
 | some (some ⟨b,.atm (.ol ds)⟩)=>some (b,.ol ds)
 | some (some ⟨b,.atm (.od ks ds)⟩)=>some (b,.od ks ds)
 | _=>none
theorem q9M {o:Option (Option Slot)} {b:Bool} {a:Atom} (h:z0x o = some (b,a)):o = some (some ⟨b,.atm a⟩)∧a.own = true:=by
 unfold z0x at h
 split at h
 ·cases h; exact ⟨rfl,rfl⟩
 ·cases h; exact ⟨rfl,rfl⟩
 ·cases h
def z5r (i:Nat) (t:EM (List Dat)) (g:Atom→List Dat→Option (Atom × Dat)):EM Dat:=fun ρ=>match z0x ρ[i]? with
 | some (_,a0)=>match t ρ with
  | some (ds,ρ2)=>match z0x ρ2[i]? with
   | some (b,a)=>if z2Y a0 = z2Y a then match g a ds with
     | some (a',d)=>some (d,ρ2.set i (some ⟨b,.atm a'⟩))
     | none=>none
    else none
   | none=>none
  | none=>none
 | none=>none
theorem z9u {T:String} {a a0:Atom} (h:tyA T a) (e:z2Y a0 = z2Y a):tyA T a0:=by
 cases a <;> cases a0 <;> first | exact h | cases e
theorem x3l {c:Ct} {σ:L2.St} {H:Hp} {Q:VK} {i:Nat} {t:EM (List Dat)} {T:String} {g:Atom→List Dat→Option (Atom × Dat)} {r:V→List V→Hp→VK→Prop} (hr:x1E c r g) (ht:∀ a ds x,g a ds = some x→tyA T a) (h:tD c (z5r i t g) σ H Q) :
  ∃ v u,σ[i]? = some (some v)∧PlV c H v .here u∧L2.tyV c.K T u H∧tA c t σ H fun xs H2=>r u xs H2 Q:=by
 obtain ⟨S,ρ,fps,d,ρ',G,e,q⟩:=h
 unfold z5r at e
 split at e
 ·rename_i b0 a0 h0
  obtain ⟨hs0,ow0⟩:=q9M h0
  split at e
  ·rename_i ds ρ2 htt
   split at e
   ·rename_i b a h1
    obtain ⟨hs,ow⟩:=q9M h1
    split at e
    ·rename_i hk
     split at e
     ·rename_i a' d' hg
      cases e
      obtain ⟨v,fp,f0,ev,hc,nd,G0,bk⟩:=G.back hs0
      obtain ⟨p,pv,pin,put⟩:=hc.pick nd (π:=.here) rfl ow0
      obtain rfl:V.ref p = v:=pv
      refine ⟨.ref p,.ref p,ev,rfl,?_,S,ρ,fps,ds,ρ2,G,htt,fun S2 H2 f2 st pn G2 xs rx=>?_⟩
      ·have ty:=z9u (ht a ds _ hg) hk
       have ra:=(put S H (Same.refl S) fun _ _=>rfl).1
       cases ra with
       | ol h1 h2=>exact .inl ⟨ty,_,SqL.of h1⟩
       | od h1 h2 h3=>exact .inr (.inr (.inl ⟨ty,.inl ⟨_,h1⟩⟩))
       | ok h1 h2 h3 h4=>exact ty.elim
      ·obtain ⟨v',fp',f0',ev',hc',nd',G0',bk'⟩:=G2.back hs
       rw [ev] at ev'
       cases ev'
       obtain ⟨p',pv',pin',put'⟩:=hc'.pick nd' (π:=.here) rfl ow
       obtain rfl:p' = p:=by cases (show V.ref p' = V.ref p from pv'); rfl
       obtain ⟨kp,nS,bk2⟩:=bk' S2 H2 _ f0' (Stp.refl S2 H2 f0') G0' (Q0M (Q0r.mp hs).1)
       obtain ⟨ra2,put2⟩:=put' S2 H2 (Same.refl S2) kp
       refine hr S2 H2 p' a xs ds a' d Q G2.ex (nS p' pin') ra2 rx hg fun o w ro rw'=>?_
       obtain ⟨f3,G3,st3⟩:=bk2 (upd H2 p' o) b _ (fun b hna=>upd_ne fun z=>hna (z ▸ pin')) (fun b hb=>by
        by_cases z:b = p'
        ·rw [z,upd_same]; exact fun z=>nomatch z
        ·rw [upd_ne z]; exact hc'.there b hb) (put2 o a' ro)
       rw [List.set_set] at G3
       refine q S2 _ f3 (st.trans st3) (pn.trans ⟨by rw [Q1m],fun j s' hj hp=>?_⟩) G3 w rw'
       by_cases z:i = j
       ·subst z
        rw [hs] at hj
        cases hj
        exact ⟨_,Q0M (Q0r.mp hs).1,hp⟩
       ·exact ⟨s',by rw [Q0I z]; exact hj,hp⟩
     ·cases e
    ·cases e
   ·cases e
  ·cases e
 ·cases e
theorem x3m {X:Cx} {o e:Expr} {es:List Expr} {i:Nat} {pos apos:Pos} {t:EM (List Dat)} {T id:String} {name:Str} {r:V→List V→Hp→VK→Prop} {g:Atom→List Dat→Option (Atom × Dat)} (hr:x1E (ct X) r g) (ht:∀ a ds x,g a ds = some x→tyA T a) (pa:PlainAttrs T) (slot:PySem.Slot T name id) (hty:typeOf (.builtin id) = pure (.type "method_descriptor")) (hm:MtR X id r)
  (ho:XP X o i .here) (ha:XA X (e :: es) t) (hbase:attributeBase o name X.env (eval o X.env) = eval o X.env:=by rfl)
  (hfew:((backTo pos (starEach (e :: es) X.env)).all (fun x=>!x.1) && (backToKw pos (jbi [] X.env)).all (fun x=>x.1.isSome)
   && decide ((e :: es).length + ([]:List Keyword).length + (if ([]:List Keyword).isEmpty then 0 else 1) < 30)) = true:=by rfl)
  (hline:(apos.endLine == pos.line) = true:=by rfl) (hs:starEach (e :: es) X.env = (false,eval e X.env) :: starEach es X.env:=by rfl) (hplain:(backTo pos (starEach es X.env)).any (·.1) = false:=by rfl) :
  XE X (.Call (.Attribute o name apos) (e :: es) [] pos) (z5r i t g):=(pe_bm pa slot hty hm ho ha hbase hfew hline hs hplain).imp fun σ H Q h=>by
 obtain ⟨v,u,e,pv,ty,q⟩:=x3l hr ht h
 exact ⟨v,u,e,pv,ty,q⟩
end DL

namespace DLS
open PySem PySem.Spec L2
section
variable {prog:Program} {w:World} {A:Around} {E:Value→Shared→Prop} {s:Shared}
abbrev hp1 (h:Heap):Heap:=h.push { cls:=.type "list",data:=.seq ([]:List Value).toArray }
abbrev hp2 (h:Heap) (items:Array Value):Heap:=(hp1 h).update h.objs.size (Obj.mapSeq (· ++ items))
end
end DLS

namespace DL
variable [DL.Tbls]
open PySem PySem.Spec L2
open PySem.W (EachIs AllAlike Sortable dataLe)
def pyD (d:Dat):PyData:=(q4W d).getD .none
def leD (a b:Dat):Bool:=dataLe false pyD a b
end DL

namespace DL
variable [DL.Tbls]
open PySem PySem.Spec L2

section
variable {X:Cx} {b e:Expr} {pos p1 p2:Pos} {g f:EM Dat} {j:Nat}
end
end DL

namespace DL
variable [DL.Tbls]
open PySem PySem.Spec L2

section
variable {c:Ct} {S H:Hp} {σ:L2.St} {ρ:Rho} {fps:List Addr}
theorem Good.off {v:V} {b:Bool} {zs:List Dat} (G:Good c S H (some v :: σ) (some ⟨b,.ol zs⟩ :: ρ) fps):∃ p xs f,v = .ref p∧H p = some (.lst xs)∧Reps c S xs zs∧Good c S H σ ρ f∧fps = p :: f:=by
 obtain ⟨ex,rep,nd,out,tb⟩:=G
 cases rep with
 | @con v b k σ ρ fp f2 h1 h2=>
  cases h1 with
  | atm h1=>
   cases h1 with
   | @ol p xs ds a1 a2=>exact ⟨p,xs,f2,rfl,a1,a2,⟨ex,h2,(Q0P.mp nd).2,fun a ha=>out a (Q0h _ ha),(by first | assumption | (apply DL.Good.tb; assumption) | (apply DL.z2N <;> first | (apply DL.Good.tb; assumption) | assumption | exact ⟨inferInstance,inferInstance⟩) | (apply DL.z2M <;> first | (apply DL.Good.tb; assumption) | (apply DL.q2i; assumption)))⟩,rfl⟩
end
end DL

namespace DL
variable [DL.Tbls]
open PySem PySem.Spec L2
section
variable {X:Cx} {elt tge iter:Expr} {ifs:List Expr} {scope:Scope} {pos:Pos} {g:EM Dat} {tg:Tg} {t:EM Bool} {e:EM Dat}
end
end DL

namespace DL
variable [DL.Tbls]
open PySem PySem.Spec L2
section
variable {X:Cx} {a b:Expr} {pos:Pos} {f g:EM Dat} {j:Nat}
end
end DL

namespace DL
variable [DL.Tbls]
open PySem PySem.Spec L2
section
variable {X:Cx} {a b e:Expr} {pos px py pt pt2:Pos} {kt k2:Nat} {f g:EM Cell}
end
end DL

namespace PyProof.Rows
open PySem PySem.Spec HT
section
variable {prog:Program} {w:World} {A:Around} {E:Value→Shared→Prop} {s:Shared}
theorem q7P {sl:Addr} {vl vu vs:Value} {n:Nat} {Q:Int × Int × Nat→Shared→Prop} (hs:s.heap.IsSliceOf sl vl vu vs) (pl:IsPart vl none) (pu:IsPart vu none) (ps:IsPart vs (some (-1)))
  (h:Q ((n:Int) - 1,-1,n) s):wpAny (model prog w) A (Builtin.Slice.sliceApplied (.ref sl) (pure (n:Int))) Q E s:=by
 obtain ⟨os,hos,hcs,hds⟩:=id hs
 unfold Builtin.Slice.sliceApplied Builtin.Slice.sliceFields
 refine jbb (jbb (jbe hos hds (x:=vl) rfl (jbb (jbe hos hds (x:=vu) rfl (jbb (jbe hos hds (x:=vs) rfl (jbc ?_)))))))
 refine jbb (slicePart_ ps ?_)
 show wpAny _ _ (if ((-1:Int) == 0) = true then _ else _) _ _ s
 rw [if_neg (by decide)]
 refine jbb (slicePart_ pl (jbb (slicePart_ pu (jbb (jbc ?_)))))
 show wpAny _ _ (match Builtin.Slice.sliceAdjust none none (-1) (n:Int) with | (lo,hi)=>pure (lo,(-1:Int),Builtin.Slice.slicePlaces lo hi (-1))) _ _ s
 have e1:Builtin.Slice.sliceAdjust none none (-1) (n:Int) = ((n:Int) - 1,-1):=rfl
 have e2:Builtin.Slice.slicePlaces ((n:Int) - 1) (-1) (-1) = n:=by
  unfold Builtin.Slice.slicePlaces
  rw [if_neg (by decide)]
  by_cases h0:(n:Int) - 1 > -1
  ·rw [if_pos h0]; have:((n:Int) - 1 - -1 - 1) / (- -1) = (n:Int) - 1:=by rw [show (- -1:Int) = 1 by rfl,Int.ediv_one]; omega
   rw [this]; omega
  ·rw [if_neg h0]; omega
 rw [e1]
 show wpAny _ _ (pure ((n:Int) - 1,(-1:Int),Builtin.Slice.slicePlaces ((n:Int) - 1) (-1) (-1))) _ _ s
 rw [e2]
 exact jbc h
theorem z9v (xs:Array Value):((Q1e xs.size).filterMap fun (m:Nat)=>xs[(((xs.size:Int) - 1) + (m:Int) * (-1)).toNat]?).toArray = xs.toList.reverse.toArray:=by
 congr 1
 refine Q1G fun i=>?_
 have key:∀ (l:List Nat) (f:Nat→Option Value) (g:Nat→Value),(∀ m ∈ l,f m = some (g m))→l.filterMap f = l.map g:=fun l f g h=>by
  induction l with
  | nil=>rfl
  | cons a l ih=>rw [List.filterMap_cons,h a Q0g,Q0e,ih fun m hm=>h m (Q0h _ hm)]
 rw [key (Q1e xs.size) _ (fun m=>xs.toList.reverse.getD m .none) fun m hm=>?_]
 ·rw [Q0O]
  by_cases hi:i < xs.size
  ·rw [List.getElem?_range hi,Q0n,Q1S,Q0G (show i < xs.toList.reverse.length by simpa using hi)]; rfl
  ·rw [Q2r (by simpa using hi),Q2r (by simpa using hi)]; rfl
 ·have hm':=Q2N.mp hm
  have e:(((xs.size:Int) - 1) + (m:Int) * (-1)).toNat = xs.size - 1 - m:=by omega
  rw [e,Q1S,List.getElem?_reverse (by simpa using hm'),Q1c]
  rw [Q0G (by rw [Q1c]; omega),Q2b (by omega)]
  simp
theorem q6W {t sl:Addr} {items:Array Value} {vl vu vs:Value} {Q:Value→Shared→Prop} (ht:IsTup s.heap t items) (hs:s.heap.IsSliceOf sl vl vu vs) (pl:IsPart vl none) (pu:IsPart vu none) (ps:IsPart vs (some (-1)))
  (h:Q (.ref s.heap.objs.size) { s with heap:=s.heap.push { cls:=.type "tuple",data:=.seq items.toList.reverse.toArray } })
  (hsz:items.size ≤ sizeLine):wpAny (model prog w) A (getItem (.ref t) (.ref sl)) Q E s:=by
 have htake:sizeOk (.seq items.toList.reverse.toArray):=by
  show items.toList.reverse.toArray.size ≤ sizeLine
  rw [Q2J,Q3g,Q1c]
  exact hsz
 obtain ⟨os,hos,hcs,hds⟩:=id hs
 have hTs:s.TypeIs (.ref sl) "slice":=⟨os,hos,hcs⟩
 unfold getItem
 try with_reducible refine jbf ?_
 first | refine jbb (jbc ?_) | skip
 refine jbb (wpAny_sequenceKey ht.typeIs (by decide) ?_)
 refine jbb (wpAny_callSpecial?_slot (name:=Str.ofString "__getitem__") ht.typeIs Q2K
  (wpAny_call_entry Q2K ht.typeIs entry_tuple_getitem ?_ (args_tuple_getitem _ _)))
 show wpAny _ _ (Builtin.Tuple.tupleItemsOf (.ref t) >>= _) _ _ s
 refine jbb (tupleItemsOf_ ht ?_)
 refine jbb (wpAny_typeOf hTs ?_)
 rw [if_pos (by decide)]
 refine jbb (q7P hs pl pu ps ?_)
 have hno:¬ (((((items.size:Nat):Int) - 1) == 0 && (-1:Int) == 1 && items.size == items.size) = true):=by
  rw [show ((-1:Int) == 1) = false by decide,Bool.and_false,Q3Z]
  exact Q1z
 show wpAny _ _ (if ((((items.size:Nat):Int) - 1) == 0 && (-1:Int) == 1 && items.size == items.size) = true then _ else _) _ _ s
 rw [if_neg hno,z9v]
 first
  | exact jbb (m:=Builtin.Tuple.tupleExact _) (wpAny_newObj_type (jbc ⟨_,rfl,jbc h⟩) htake)
  | exact jbb (m:=Builtin.Tuple.tupleExact _) (wpAny_newObj_type (jbb (jbc (jbc ⟨_,rfl,jbc h⟩))) htake)
  | exact jbb (jbb (m:=Builtin.Tuple.tupleExact _) (wpAny_newObj_type (jbc (jbc ⟨_,rfl,jbc h⟩)) htake))
  | exact jbb (jbb (m:=Builtin.Tuple.tupleExact _) (wpAny_newObj_type (jbc ⟨_,rfl,jbc h⟩) htake))
end
end PyProof.Rows
namespace DL
variable [DL.Tbls]
open PySem PySem.Spec L2
open PyProof.Rows (IsTup q6W)
open PyProof.Rows
theorem Reps.repl {c:Ct} {S:Hp} {vs:List V} {ds:List Dat} (h:Reps c S vs ds):∀ n:Nat,Reps c S (Q0p n vs).flatten (Q0p n ds).flatten
 | 0=>.nil
 | n + 1=>by rw [List.replicate_succ,List.replicate_succ,List.flatten_cons,List.flatten_cons]; exact h.app (Reps.repl h n)
def q4z (xs:List Dat):List Dat:=(xs.zipIdx).map fun p=>.tup [.int (p.2:Nat),p.1]
def z9w (t:EM (List Dat)):EM (List Dat):=q0J t fun ds=>match ds with
 | [.lst a]=>q2M (q4z a)
 | _=>eNo
theorem z9x {c:Ct} {S:Hp} {a:Addr} {xs:List V} {ds:List Dat} (h1:SqL c.K S a xs) (r1:Reps c S xs ds):ItD c S (Ite c.K a) (q4z ds) where
 go:=fun i H hi e=>by
  have:i < ds.length:=by unfold q4z at hi; rw [Q0f,Q2q] at hi; exact hi
  obtain ⟨x,hx⟩:=r1.at this
  exact ⟨xs,x,e.seq h1,hx⟩
 stop:=fun i H hi e=>⟨xs,e.seq h1,by unfold q4z at hi; rw [Q0f,Q2q] at hi; rw [r1.length]; omega⟩
 yld:=fun i d S2 H x H' hd e e2 ⟨T,u,q1,q2,q3,q4⟩=>by
  subst q1; subst q3
  unfold q4z at hd
  rw [Q0O,Q3b] at hd
  cases hz:ds[i]? with
  | none=>rw [hz] at hd; cases hd
  | some p=>
   rw [hz] at hd
   cases hd
   obtain ⟨w1,hw1,k1⟩:=r1.get hz
   have a1:=q4 xs ((e.trans e2).seq h1)
   rw [hw1] at a1
   have e1:=Q1o.inj a1; subst e1
   have fr:=Fre.new (o:=.tup [.int (i:Nat),w1]) e2 q2
   have ei:((0 + i:Nat):Int) = (i:Nat):=by omega
   refine ⟨_,fr,.tup (SqT.of upd_same) (.cons ?_ (.cons ((k1.mono e).mono fr.ss) .nil))⟩
   show Rep c _ _ (.int ((0 + i:Nat):Int))
   rw [ei]
   exact .int _
theorem x3n {X:Cx} {e:Expr} {t:EM (List Dat)} {p pos tpos:Pos} {elts:List Expr} {kk:Nat} (hg:Gl X "enumerate") (hm:X.mg "enumerate" = none) (ha:XA X [e] t) (hs:starEach [e] X.env = [(false,eval e X.env)]:=by rfl) :
  XI X (.Tuple elts kk tpos) (.Call (.Name "enumerate" p) [e] [] pos) (z9w t):=(pi_enum hg hm ha hs).imp fun σ H R q=>(z6j q).mono fun vs H1 ⟨S,ds,r,q⟩=>by
 split at q
 ·rename_i a
  cases r with
  | cons ra r=>
   cases r
   obtain ⟨ex,q⟩:=q.ret
   cases ra with
   | lst h1 k1=>exact ⟨_,_,rfl,.inl (q0G ex h1),q S H1 (Fre.refl ex) _ (z9x (.inl h1) k1)⟩
 ·exact (Go.no q).elim
def z6H (K:JFr):R2:=fun x y H Q=>∃ d ds,Dp K H x d∧Dp K H y (.tuple ds)∧SeqAt.shaped d = true∧SeqAt.shaped (.tuple ds) = true∧Q (.bl (!ds.any fun z=>PyData.eqv z d)) H
theorem z6I {X:Cx} (hu:X.A.units + 65 < cLine):OpR X (compareOp .NotIn) (z6H X.K):=by
 intro pins s σ H x y v u Q I rx ry h
 obtain ⟨d,ds,hd,he,sd,se,q⟩:=h
 obtain ⟨as,r1⟩:=Dp.reads I d x v hd rx
 obtain ⟨bs,r2⟩:=Dp.reads I (.tuple ds) y u he ry
 exact SeqAt.notIn_tuple_reads r2 r1 (SeqAt.canLay_of_shaped se) (SeqAt.canLay_of_shaped sd) (room_in_shaped sd hu) ⟨.bl _,H,I,rfl,q⟩
def z9y:Dat→Dat→Option Dat
 | x,.tup ds=>match q4W x,q2O ds with
  | some d,some ps=>if SeqAt.shaped d = true∧SeqAt.shaped (.tuple ps) = true then some (.bl (!ps.any fun z=>PyData.eqv z d)) else none
  | _,_=>none
 | _,_=>none
theorem x6n {c:Ct}:q2B c (z6H c.K) z9y:=by
 intro S H v u x y z Q ex rx ry e q
 cases y with
 | tup ds=>
  have e':(match q4W x,q2O ds with
   | some d,some ps=>if SeqAt.shaped d = true∧SeqAt.shaped (.tuple ps) = true then some (Dat.bl (!ps.any fun z=>PyData.eqv z d)) else none
   | _,_=>none) = some z:=e
  split at e'
  ·rename_i d ps h1 h2
   split at e'
   ·rename_i hs
    cases e'
    exact ⟨d,ps,q3I ex x v d rx h1,q3I ex (.tup ds) u (.tuple ps) ry (by unfold q4W; rw [h2]; rfl),hs.1,hs.2,q _ S H (Fre.refl ex) (.bl _)⟩
   ·cases e'
  ·cases e'
 | _=>cases e
theorem Rm.u65 {A:Around} {j:Nat} (R:Rm A j):A.units + 65 < cLine:=by have:=R.hr.un; omega
end DL

namespace DL
variable [DL.Tbls]
open PySem PySem.Spec L2
def j0b (K:JFr):R2:=fun x y H Q=>∃ a b xs,x = .ref a∧y = .ref b∧SqL K H a xs∧SqL K H b []∧Q (.bl xs.isEmpty) H
def j0c (K:JFr):R2:=fun x y H Q=>∃ a b xs,x = .ref a∧y = .ref b∧SqL K H a xs∧SqL K H b []∧Q (.bl (!xs.isEmpty)) H
theorem z6J {X:Cx} (hu:X.A.units + 64 < cLine):OpR X (compareOp .Eq) (j0b X.K):=by
 intro pins s σ H x y v u Q I rx ry h
 obtain ⟨a,b,xs,rfl,rfl,ha,hb,q⟩:=h
 cases rx
 cases ry
 obtain ⟨its,r1,p1,_⟩:=I.list ha
 obtain ⟨its2,r2,p2,_⟩:=I.list hb
 have e2:its2 = []:=Q1N r2.length.symm
 subst e2
 cases xs with
 | nil=>
  have e1:its = []:=Q1N r1.length.symm
  subst e1
  exact SeqAt.RcAt.lists (e:=fun _=>true) p1.isList p2.isList rfl (by omega) (fun j h1 _=>absurd h1 (by simp)) X.prog X.w X.xe _ ⟨.bl true,H,I,rfl,q⟩
 | cons z zs=>
  have l1:=r1.length
  rw [Q0d] at l1
  exact SeqAt.RcAt.lists_lengths p1.isList p2.isList (by simp; intro e; rw [e] at l1; simp at l1) (by omega) X.prog X.w X.xe _ ⟨.bl false,H,I,rfl,q⟩
theorem z6K {X:Cx} (hu:X.A.units + 64 < cLine):OpR X (compareOp .NotEq) (j0c X.K):=by
 intro pins s σ H x y v u Q I rx ry h
 obtain ⟨a,b,xs,rfl,rfl,ha,hb,q⟩:=h
 cases rx
 cases ry
 obtain ⟨its,r1,p1,_⟩:=I.list ha
 obtain ⟨its2,r2,p2,_⟩:=I.list hb
 have e2:its2 = []:=Q1N r2.length.symm
 subst e2
 cases xs with
 | nil=>
  have e1:its = []:=Q1N r1.length.symm
  subst e1
  exact SeqAt.RcNeAt.lists (e:=fun _=>true) p1.isList p2.isList rfl (by omega) (fun j h1 _=>absurd h1 (by simp)) X.prog X.w X.xe _ ⟨.bl false,H,I,rfl,q⟩
 | cons z zs=>
  have l1:=r1.length
  rw [Q0d] at l1
  exact SeqAt.RcNeAt.lists_lengths p1.isList p2.isList (by simp; intro e; rw [e] at l1; simp at l1) (by omega) X.prog X.w X.xe _ ⟨.bl true,H,I,rfl,q⟩
def x6o:Dat→Dat→Option Dat
 | .lst ds,.lst []=>some (.bl ds.isEmpty)
 | _,_=>none
def x6p:Dat→Dat→Option Dat
 | .lst ds,.lst []=>some (.bl (!ds.isEmpty))
 | _,_=>none
theorem q9N {c:Ct} {S:Hp} {vs:List V} {ds:List Dat} (h:Reps c S vs ds):vs.isEmpty = ds.isEmpty:=by cases h <;> rfl
theorem x3o {c:Ct}:q2B c (j0b c.K) x6o:=by
 intro S H v u x y z Q ex rx ry e q
 cases rx with
 | lst h1 h2=>
  cases ry with
  | lst h3 h4=>
   cases h4 with
   | nil=>
    cases e
    exact ⟨_,_,_,rfl,rfl,.inl (q0G ex h1),.inl (q0G ex h3),by rw [q9N h2]; exact q _ S H (Fre.refl ex) (.bl _)⟩
   | cons _ _=>cases e
  | _=>cases e
 | _=>cases y <;> cases e
theorem x3p {c:Ct}:q2B c (j0c c.K) x6p:=by
 intro S H v u x y z Q ex rx ry e q
 cases rx with
 | lst h1 h2=>
  cases ry with
  | lst h3 h4=>
   cases h4 with
   | nil=>
    cases e
    exact ⟨_,_,_,rfl,rfl,.inl (q0G ex h1),.inl (q0G ex h3),by rw [q9N h2]; exact q _ S H (Fre.refl ex) (.bl _)⟩
   | cons _ _=>cases e
  | _=>cases e
 | _=>cases y <;> cases e
end DL
namespace PyProof.Rows
open PySem PySem.Spec HT
theorem z2Z (l b:Addr) (items items2:Array Value) (n n2:Nat) (dd dd2:Option Addr) (sl sl2:Array (Option Value)) (hc0:items.isEmpty = true) :
  Meets (Builtin.«tuple.__add__» ⟨[.ref l,.ref b],[]⟩) (fun _ R s=>s.heap.get? l = some { cls:=.type "tuple",dict:=dd,data:=.seq items n,slots:=sl }∧s.heap.get? b = some { cls:=.type "tuple",dict:=dd2,data:=.seq items2 n2,slots:=sl2 }∧R (.ok (.ret (Value.ref b))) { s with heap:=s.heap,toks:=s.toks }):=
 .of_wp fun prog w A R s h=>by obtain ⟨hp,g,d,tk,os⟩:=s; obtain ⟨hl,hb,h⟩:=h; have f1:=AutoSeq1.idx_int; have f2:=AutoSeq1.sub_tuple_tuple; have f3:=AutoSeq1.sub_list_list; have f4:=AutoSeq1.sub_tuple_list; have f5:=AutoSeq1.sub_list_tuple; wp_walk using wpAny_loadPart' hl,wpAny_loadPart' hb; exact ⟨_,rfl,h⟩
section
variable {prog:Program} {w:World} {A:Around} {E:Value→Shared→Prop} {s:Shared}
theorem z9z {t b:Addr} {vs ws:List Value} {Q:Value→Shared→Prop} (ht:IsTup s.heap t vs.toArray) (hb:IsTup s.heap b ws.toArray) (hv:vs = []) (h1:Q (.ref b) s):wpAny (model prog w) A (binaryOp .Add (.ref t) (.ref b)) Q E s:=by
 obtain ⟨⟨cls,dd,data,sl⟩,ho,hc,n,hd⟩:=id ht
 obtain ⟨⟨cls2,dd2,data2,sl2⟩,ho2,hc2,n2,hd2⟩:=id hb
 simp only at hc hd hc2 hd2
 subst hc hd hc2 hd2
 exact concat_meets ⟨_,ho,rfl⟩ ⟨_,ho2,rfl⟩ noFill_tuple_add seq_tuple_add PySem.F.slot_tuple_add PySem.F.entry_tuple_add (PySem.F.args_tuple_add_2 _ _)
  (z2Z t b vs.toArray ws.toArray n n2 dd dd2 sl sl2 (by simp [hv])) ⟨ho,ho2,h1⟩
end
end PyProof.Rows
namespace DL
variable [DL.Tbls]
open PySem PySem.Spec L2
open PyProof.Rows
def x1K (K:JFr):R2:=fun x y H Q=>∃ a b xs ys,x = .ref a∧y = .ref b∧SqT K H a xs∧SqT K H b ys∧xs.length + ys.length ≤ sizeLine∧(xs = []→Q (.ref b) H)∧(xs ≠ []→ys = []→Q (.ref a) H)∧(xs ≠ []→ys ≠ []→∀ p,H p = none→Q (.ref p) (upd H p (.tup (xs ++ ys))))
theorem z9A {X:Cx}:OpR X (binaryOp .Add) (x1K X.K):=by
 intro pins s σ H x y v u Q I rx ry h
 obtain ⟨a,b,xs,ys,rfl,rfl,ha,hb,hz,q0,q1,q2⟩:=h
 by_cases hx:xs = []
 ·cases rx
  cases ry
  obtain ⟨its,r1,p1,_⟩:=I.tuple ha
  obtain ⟨its2,r2,p2,_⟩:=I.tuple hb
  exact z9z p1 p2 (r1.nil_iff.mpr hx) ⟨.ref b,H,I,rfl,q0 hx⟩
 ·exact op_catT pins s σ H _ _ _ _ Q I rx ry ⟨a,b,xs,ys,rfl,rfl,ha,hb,hx,hz,q1 hx,q2 hx⟩
def z6L:Dat→Dat→Option Dat
 | .tup a,.tup b=>if a.length + b.length ≤ 100000 then some (.tup (a ++ b)) else none
 | _,_=>none
theorem x6q {c:Ct}:q2B c (x1K c.K) z6L:=by
 intro S H v u x y z Q ex rx ry e q
 cases rx with
 | @tup a xs ds h1 h2=>
  cases ry with
  | @tup b ys es h3 h4=>
   dsimp only [z6L] at e
   split at e
   ·rename_i hl
    cases e
    refine ⟨_,_,xs,ys,rfl,rfl,q0S ex h1,q0S ex h3,by rw [h2.length,h4.length]; exact q8r hl,fun e0=>?_,fun _ e0=>?_,fun _ _ p hp=>q _ _ _ (Fre.new ex hp) (.tup (SqT.of upd_same) ((h2.app h4).mono (Fre.new (o:=.tup _) ex hp).ss))⟩
    ·subst e0
     cases h2
     exact q _ S H (Fre.refl ex) (.tup h3 h4)
    ·subst e0
     cases h4
     rw [Q0i] at q
     exact q _ S H (Fre.refl ex) (.tup h1 h2)
   ·cases e
  | _=>cases e
 | _=>cases y <;> cases e
def x8U:Dat→Option Dat
 | .int i=>some (.int i)
 | .bl b=>some (.int (if b then 1 else 0))
 | _=>none
theorem x8V {c:Ct}:PureC c (fun xs H Q=>(∃ i,xs = [V.int i]∧Q (.int i) H)∨∃ k,xs = [V.bl k]∧Q (.int (if k then 1 else 0)) H) x8U:=by
 intro S H v x z Q ex r e q
 cases r with
 | int i=>cases e; exact .inl ⟨_,rfl,q _ S H (Fre.refl ex) (.int _)⟩
 | bl b=>cases e; exact .inr ⟨_,rfl,q _ S H (Fre.refl ex) (.int _)⟩
 | _=>cases e
end DL

namespace DLX
open PySem PySem.W PySem.Calls PyProof.Rows PySem.HandSPX
def eA (fl:Str) (p1 p2:Pos):Arguments:={ posonlyargs:=[],args:=[{ arg:="self",annotation:=none,pos:=p1 },{ arg:=fl,annotation:=none,pos:=p2 }],vararg:=none,kwonlyargs:=[],kw_defaults:=[],kwarg:=none,defaults:=[] }
section
variable {prog:Program} {w:World} {A:Around} {E:Value→Shared→Prop} {R:Result→Shared→Prop} {s:Shared} {K:Frag} {mg:Str→Option Value} {C fI:Addr}
end
end DLX
namespace DL
variable [DL.Tbls]
open PySem PySem.Spec L2 PyProof.Rows
section
variable {X:Cx} {C fI:Addr}
end
end DL

namespace DL
variable [DL.Tbls]
open PySem PySem.Spec L2 PyProof.Rows
structure Err where
 c:Str
 d:Dat
def j0s (nm:Str):Str:=if nm = "NotPlain" then "" else if nm = "BadFact"∨nm = "NoFact" then "fact" else if nm = "BadSchema" then "value" else if nm = "BadText"∨nm = "BadLine" then "line" else if nm = "BadOrder" then "numbers" else "member"
def dE (nm:Str) (d:Addr):Option Addr:=if nm = "NotPlain" then none else some d
def ErrAt (c:Ct) (S:Hp) (e:Err) (cls:Value) (dd:Option Addr):Prop:=∃ (C d:Addr) (v:V),cls = .ref C∧dd = dE e.c d∧c.mg e.c = some (.ref C)∧(e.c = "NotPlain"∨S d = some (.xd [(j0s e.c,v)]))∧Rep c S v e.d
theorem ErrAt.mono {c:Ct} {S S':Hp} {e:Err} {cls:Value} {dd:Option Addr} (h:ErrAt c S e cls dd) (s:Same S S'):ErrAt c S' e cls dd:=by
 obtain ⟨C,d,v,h1,h2,h3,h4,h5⟩:=h
 exact ⟨C,d,v,h1,h2,h3,h4.imp_right (s _ _),h5.mono s⟩
inductive Flx where
 | fl (f:Flw) | ex (e:Err) (ρ:Rho)
abbrev SX:=Rho→Option Flx
abbrev WXL:=Value→Option Addr→L2.St→Hp→Prop
def FinX (c:Ct) (W:WXL) (S H:Hp) (σ:L2.St) (ρ:Rho) (fps:List Addr):Flx→Ends→Prop
 | .fl f,D=>Fin c S H σ ρ fps f D
 | .ex e ρ',_=>∀ σ' S' H' fps' cls d,Stp S H fps S' H' fps'→Pins ρ σ ρ' σ'→Good c S' H' σ' ρ' fps'→ErrAt c S' e cls d→W cls d σ' H'
theorem FinX.after {c:Ct} {W:WXL} {S H S1 H1:Hp} {σ σ1:L2.St} {ρ ρ1:Rho} {fps f1:List Addr} {fl:Flx} {D:Ends} (st:Stp S H fps S1 H1 f1) (p:Pins ρ σ ρ1 σ1) (h:FinX c W S H σ ρ fps fl D):FinX c W S1 H1 σ1 ρ1 f1 fl D:=by
 cases fl with
 | fl f=>exact Fin.after (fl:=f) st p h
 | ex e ρ'=>exact fun σ' S' H' fps' cls d st' p' G=>h σ' S' H' fps' cls d (st.trans st') (p.trans p') G
section
variable {X:Cx} {W:WXL} {st:Stmt} {rest:List Stmt} {s t:SX} {e:Expr} {pos:Pos}
end
abbrev EZ:=Rho→Option ((Cell ⊕ Err) × Rho)
def PostZ (c:Ct) (W:WXL) (S H:Hp) (σ:L2.St) (ρ:Rho) (fps:List Addr) (Q:VK) (ρ':Rho):Cell ⊕ Err→Prop
 | .inl k=>∀ v S' H' fps',Stp S H fps S' H' fps'→PinR ρ ρ'→Good c S' H' (some v :: σ) (some ⟨false,k⟩ :: ρ') fps'→Q v H'
 | .inr e=>∀ S' H' fps' cls d,Stp S H fps S' H' fps'→PinR ρ ρ'→Good c S' H' σ ρ' fps'→ErrAt c S' e cls d→W cls d σ H'
section
variable {X:Cx} {W:WXL} {e:Expr} {g:EZ} {pos:Pos}
end
end DL

namespace DL
variable [DL.Tbls]
open PySem PySem.Spec L2 PyProof.Rows
abbrev SpZ:=List V→Hp→VK→L2.XK→Prop
def x8W (c:Ct) (S H:Hp) (Q:VK) (E:L2.XK):Cell ⊕ Err→Prop
 | .inl k=>∀ v S' H' fp',Stp S H [] S' H' fp'→Good c S' H' [some v] [some ⟨false,k⟩] fp'→Q v H'
 | .inr e=>∀ S' H' cls d,Stp S H [] S' H' []→Same S' H'→Tbs S' H'→ErrAt c S' e cls d→E cls d H'
def x5b (c:Ct) (F:List Dat→Option (Cell ⊕ Err)):SpZ:=fun vs H Q E=>∃ S ds r,Same S H∧Tbs S H∧Reps c S vs ds∧F ds = some r∧x8W c S H Q E r
def j0t (nl:Nat) (s:SX):List Dat→Option (Cell ⊕ Err):=fun ds=>match s (ds.map imS ++ Q0p nl none) with
 | some (.fl (.rt k _))=>some (.inl k)
 | some (.fl (.nx _))=>some (.inl (.im .non))
 | some (.ex e _)=>some (.inr e)
 | _=>none
def fnZ (n nl:Nat) (s:SX):List Dat→Option (Cell ⊕ Err):=fun ds=>if ds.length = n then j0t nl s ds else none
def ClZ (c:Ct) (base:Heap) (k:Nat) (f:Addr) (sp:SpZ):Prop:=
 ∀ (A:Around) (outer:List Env) (s:Shared) (H:Hp) (us:List Value) (vs:List V) (Q:VK) (E:L2.XK),Room k A→A.guards = some []→Env0 c.P c.w c.K c.mg base A outer s H→Vals vs us→sp vs H Q E →
  codeAny (model c.P c.w) A (.call (.ref f) ⟨us,[]⟩) (CR (L2.CX c.P c.w) outer c.P c.w H s Q E) s
theorem ClZ.mono {c:Ct} {base:Heap} {j k:Nat} {f:Addr} {sp:SpZ} (h:ClZ c base j f sp) (e:j ≤ k):ClZ c base k f sp:=
 fun A outer s H us vs Q E hr=>h A outer s H us vs Q E (hr.mono e)
section
variable {c:Ct} {base:Heap} {k:Nat} {f:Addr} {name qual:Str} {params:Arguments} {body:List Stmt} {scope:Scope} {dV kV doc pm cdv ct' oc:Value} {an od:Option Addr} {osl:Array (Option Value)} {N ps:List Str} {sp:SpZ}
end
structure DefZ (c:Ct) (base:Heap) (k:Nat) (x:Str) (F:List Dat→Option (Cell ⊕ Err)):Prop where
 ex:∃ f,c.mg x = some (.ref f)∧Q1J c.K (.ref f) = true∧ClZ c base k f (x5b c F)
section
variable {X:Cx} {W:WXL} {k j:Nat} {x:Str} {p pos:Pos} {e:Expr} {es:List Expr} {t:EM (List Dat)}
end
end DL

namespace DL
variable [DL.Tbls]
open PySem PySem.Spec L2 PyProof.Rows
theorem tk0 {X:Cx}:Takes X (fun _ _ _ _=>False):=fun _ _ x=>by
 obtain ⟨_,_,_,_,_,_,_,_,_,_,_,_,_,_,_,_,z⟩:=x
 exact z.elim
section
variable {X:Cx} {nm n fl:Str} {i:Nat} {body suite:List Stmt} {b₀:Stmt} {np pos pos':Pos} {b:SX} {h:Dat→SD} {C fI:Addr}
variable {e e1 e2:Expr} {f g:Dat→EM Dat}
structure IsC (K:JFr) (C D:Addr):Prop where
 ha:Q3q K (.ref C) "__class__" = some (some (.builtin "object.__class__"))
 hn:PySem.W.specialIn K (.builtin "object.__class__") "__get__" = some (some (.builtin "getset_descriptor.__get__"))
 ht:PySem.W.takesIn K (.builtin "object.__class__") = some true
 hm:PySem.W.mroIn K C (.type "object") = some true
 hd:PySem.W.isClsIn K D = true
 ty:Q4a K (.ref D) = some (.type "type")
 sub:PySem.W.subIn K (.ref C) (.ref D) = some true
theorem kit_of {K:JFr} {C D:Addr} (h:IsC K C D):Q3Y K (.ref C) (.ref D) = some true:=by
 unfold Q3Y
 split
 ·rfl
 ·show (if ((Q4i K D).isSome && Q4a K (.ref D) == some (.type "type")) = true then PySem.W.subIn K (.ref C) (.ref D) else none) = some true
  have h2:(Q4i K D).isSome = true:=h.hd
  rw [h2,h.ty,h.sub]
  rfl
end
end DL

namespace DL
variable [DL.Tbls]
open PySem PySem.Spec L2 PyProof.Rows
def q6m:Key→PyData
 | .inl i=>.int i
 | .inr x=>.str x
mutual
def q3J:Dat→Option PyData
 | .non=>some .none
 | .bl b=>some (.bool b)
 | .int i=>some (.int i)
 | .str x=>some (.str x)
 | .tup ds=>(q2p ds).map .tuple
 | .lst ds=>(q2p ds).map .list
 | .dic ks ds=>if ks.length = ds.length then (q2p ds).map fun ps=>.dict ((ks.map q6m).zip ps) else none
 | _=>none
def q2p:List Dat→Option (List PyData)
 | []=>some []
 | d :: ds=>match q3J d,q2p ds with
  | some x,some xs=>some (x :: xs)
  | _,_=>none
end
theorem q6X:∀ {ds:List Dat} {ps:List PyData},q2p ds = some ps→ps.length = ds.length
 | [],_,e=>by cases e; rfl
 | d :: ds,ps,e=>by
  unfold q2p at e
  split at e
  ·rename_i x xs h1 h2
   cases e
   rw [Q0d,Q0d,q6X h2]
  ·cases e
def x1L (base:Heap):Prop:=∃ o,base.get? sysModules = some o
section
variable {X:Cx} {pins:List (Addr × Obj)} {σ:L2.St} {S H:Hp} {s:Shared}
theorem q9O {P:Program} {w:World} {h:Heap}:∀ {es:List DictEntry} {vs:List (Key × Value)} {ks:List Key} {xs:List V},Pairs (mixKind P w) es vs→KV (ks.zip xs) vs→ks.length = xs.length →
  ReadsAll h (es.map (·.key)) (ks.map q6m) []∧Vals xs (es.map (·.val))
 | [],_,[],[],.nil,_,_=>⟨.nil,.nil⟩
 | [],_,k :: ks,x :: xs,.nil,hk,_=>by cases hk
 | _,_,[],x :: xs,_,_,hl=>by cases hl
 | _,_,k :: ks,[],_,_,hl=>by cases hl
 | e :: es,_,[],[],.cons _ _ _,hk,_=>by cases hk
 | e :: es,_,k :: ks,x :: xs,.cons h1 h2 h3,hk,hl=>by
  rw [Q0L] at hk
  cases hk with
  | cons r rs=>
   obtain ⟨r1,r2⟩:=r
   obtain ⟨q1,q2⟩:=q9O (h:=h) h3 rs (Q3c.inj hl)
   refine ⟨?_,.cons (by show L2.RelV x e.val; rw [h2]; exact r2) q2⟩
   have hk':Reads h e.key (q6m k) []:=by
    dsimp only at r1
    subst r1
    rcases keyIs_shape h1 with ⟨i,t,e1,e2⟩ | ⟨y,t,e1,e2⟩
    ·rw [e1,e2]; exact Reads.int i t
    ·rw [e1,e2]; exact Reads.str y t
   exact ReadsAll.cons (as:=[]) (bs:=[]) hk' q1
mutual
theorem z4b (hs:x1L X.base) (I:Inv X pins σ H s) (ex:Same S H):∀ (d:Dat) (v:V) (u:Value) (p:PyData),Rep (ct X) S v d→q3J d = some p→RelV v u→∃ as,Reads s.heap u p as∧sysModules ∉ as
 | .non,_,_,_,h,e,r=>by
  cases h; cases e; cases r
  exact ⟨_,Reads.none,by simp⟩
 | .bl b,_,_,_,h,e,r=>by
  cases h; cases e; cases r
  exact ⟨_,Reads.bool b,by simp⟩
 | .int i,_,_,_,h,e,r=>by
  cases h; cases e
  obtain ⟨t,rfl⟩:=r
  exact ⟨_,Reads.int i t,by simp⟩
 | .str x,_,_,_,h,e,r=>by
  cases h; cases e
  obtain ⟨t,rfl⟩:=r
  exact ⟨_,Reads.str x t,by simp⟩
 | .tup ds,_,_,_,h,e,r=>by
  cases h with
  | tup h1 h2=>
   unfold q3J at e
   cases q:q2p ds with
   | none=>rw [q] at e; cases e
   | some ps=>
    rw [q] at e
    cases e
    cases r
    obtain ⟨its,rv,⟨o,ho,hc,n,hd⟩,_⟩:=I.tuple (q0S ex h1)
    obtain ⟨as,hr,hn⟩:=q5d hs I ex ds _ its ps h2 q rv
    exact ⟨_,Reads.tuple ho hc hd hr,hn⟩
 | .lst ds,_,_,_,h,e,r=>by
  cases h with
  | @lst a xs _ h1 h2=>
   unfold q3J at e
   cases q:q2p ds with
   | none=>rw [q] at e; cases e
   | some ps=>
    rw [q] at e
    cases e
    cases r
    obtain ⟨its,rv,⟨o,n,ho,hc,_,hd⟩,_⟩:=I.list (.inl (q0G ex h1))
    obtain ⟨as,hr,hn⟩:=q5d hs I ex ds _ its ps h2 q rv
    refine ⟨_,Reads.list ho hc hd hr,fun z=>?_⟩
    rcases Q0s.mp z with z | z
    ·obtain ⟨o1,e1⟩:=hs
     have e3:=(I.bs _ _ e1).2
     rw [z] at e3
     rcases q0G ex h1 with e4 | ⟨o4,e4⟩
     ·rw [e3] at e4; cases e4
     ·rw [e3] at e4; cases e4
    ·exact hn z
 | .dic ks ds,_,_,_,h,e,r=>by
  cases h with
  | @dic a _ xs _ h1 h2 h3=>
   unfold q3J at e
   split at e
   ·rename_i hl
    cases q:q2p ds with
    | none=>rw [q] at e; cases e
    | some ps=>
     rw [q] at e
     cases e
     cases r
     obtain ⟨hz,hm,vs,kv,o,es,ep,ho,hx,hd,_,hp,_⟩:=dk_rd I.hok (q0G ex h1)
     obtain ⟨hk,rv⟩:=q9O (h:=s.heap) hp kv h2
     obtain ⟨bs,hr,hn⟩:=q5d hs I ex ds _ _ ps h3 q rv
     have lp:=q6X q
     have el:(ks.map q6m).length = ps.length:=by rw [Q0f,lp,hl]
     have f1:((ks.map q6m).zip ps).map (·.1) = ks.map q6m:=by
      rw [show (fun x:PyData × PyData=>x.1) = Prod.fst from rfl,List.map_fst_zip (by omega)]
     have f2:((ks.map q6m).zip ps).map (·.2) = ps:=by
      rw [show (fun x:PyData × PyData=>x.2) = Prod.snd from rfl,List.map_snd_zip (by omega)]
     refine ⟨_,Reads.dict ho hx.1 hd (by rw [f1]; exact hk) (by rw [f2]; exact hr),fun z=>?_⟩
     rcases Q0s.mp z with z | z
     ·rw [← z] at hm; simp at hm
     ·rcases Q0k.mp z with z | z
      ·cases z
      ·exact hn z
   ·cases e
 | .fro _,_,_,_,_,e,_=>by cases e
 | .ins _ _ _,_,_,_,_,e,_=>by cases e
 | .opq _,_,_,_,_,e,_=>by cases e
theorem q5d (hs:x1L X.base) (I:Inv X pins σ H s) (ex:Same S H):∀ (ds:List Dat) (vs:List V) (us:List Value) (ps:List PyData),Reps (ct X) S vs ds→q2p ds = some ps→Vals vs us→∃ as,ReadsAll s.heap us ps as∧sysModules ∉ as
 | [],_,_,_,h,e,r=>by
  cases h; cases e; cases r
  exact ⟨_,ReadsAll.nil,by simp⟩
 | d :: ds,_,_,_,h,e,r=>by
  cases h with
  | cons h1 h2=>
   unfold q2p at e
   split at e
   ·rename_i p ps e1 e2
    cases e
    cases r with
    | cons r1 r2=>
     obtain ⟨as,q1,n1⟩:=z4b hs I ex d _ _ p h1 e1 r1
     obtain ⟨bs,q2,n2⟩:=q5d hs I ex ds _ _ ps h2 e2 r2
     exact ⟨_,ReadsAll.cons q1 q2,fun z=>(Q0k.mp z).elim n1 n2⟩
   ·cases e
end
end
def rpA (x:Dat):Option Dat:=match q3J x with
 | some p=>if p.showable = true∧p.depth ≤ 60∧p.shown.length ≤ 1000000 then some (.str p.shown) else none
 | none=>none
def x1M (c:Ct):List V→Hp→VK→Prop:=fun xs H Q=>∃ S v d p,xs = [v]∧Same S H∧Rep c S v d∧q3J d = some p∧p.showable = true∧p.depth ≤ 60∧p.shown.length ≤ 1000000∧Q (.str p.shown) H
theorem z0y {c:Ct}:PureC c (x1M c) rpA:=by
 intro S H v x z Q ex r e q
 unfold rpA at e
 split at e
 ·rename_i p hp
  split at e
  ·rename_i hs
   cases e
   exact ⟨S,v,x,p,rfl,ex,r,hp,hs.1,hs.2.1,hs.2.2,q _ S H (Fre.refl ex) (.str _)⟩
  ·cases e
 ·cases e
theorem q7Z {X:Cx} (hsy:x1L X.base) (hg:X.A.guards = some []) (hu:X.A.units + 64 < cLine):CallR X (.builtin "repr") (x1M (ct X)):=by
 intro pins s σ H xs us Q I r h
 obtain ⟨S,v,d,p,rfl,ex,rp,hp,h1,h2,h3,q⟩:=h
 obtain ⟨u,rfl,ru⟩:=vals1 r
 obtain ⟨as,rd,hn⟩:=z4b hsy I ex d v u p rp hp ru
 have h3':p.shown.length ≤ sizeLine:=Q0S h3 (by decide)
 cases rd with
 | none=>exact PySem.P.repr_of_none ⟨.str "None",H,I.tok _,⟨_,rfl⟩,q⟩
 | bool b=>exact PySem.P.repr_of_bool ⟨.str (if b then "True" else "False"),H,I.tok _,⟨_,rfl⟩,q⟩
 | int i t=>exact PySem.P.repr_of_int (of_decide_eq_true h1) ⟨.str (toString i),H,I.tok _,⟨_,rfl⟩,q⟩
 | str x t=>exact PySem.P.repr_of_str ⟨.str (reprText x),H,I.tok _,⟨_,rfl⟩,q⟩ h3'
 | list a1 a2 a3 a4=>exact repr_of_reads' (.list a1 a2 a3 a4) h1 (fun _=>hn) hg (by omega) (fun b o e=>e) (fun h' u tk hk=>⟨.str _,H,I.kept hk,⟨_,rfl⟩,q⟩) h3'
 | tuple a1 a2 a3 a4=>exact repr_of_reads' (.tuple a1 a2 a3 a4) h1 (fun _=>hn) hg (by omega) (fun b o e=>e) (fun h' u tk hk=>⟨.str _,H,I.kept hk,⟨_,rfl⟩,q⟩) h3'
 | dict a1 a2 a3 a4 a5=>exact repr_of_reads' (.dict a1 a2 a3 a4 a5) h1 (fun _=>hn) hg (by omega) (fun b o e=>e) (fun h' u tk hk=>⟨.str _,H,I.kept hk,⟨_,rfl⟩,q⟩) h3'
end DL

namespace DL
variable [DL.Tbls]
open PySem PySem.Spec L2 PyProof.Rows
section
variable {X:Cx} {k j:Nat} {nm:Str} {F:List Dat→Option Cell} {C:Addr}
end
section
variable {X:Cx} {a b c e:Expr} {f g h:EM Cell} {px py pz pt pt2 pos:Pos}
theorem z9B {x:Str} {d:Dat} {pos:Pos} (h:∃ v,X.mg x = some (.ref v)∧∀ S,Rep (ct X) S (.ref v) d) (hg:Gl X x:=by rfl) (hd:(x == ("__debug__":Str)) = false:=by decide):XE X (.Name x pos) (eC d):=by
 obtain ⟨v,hm,r⟩:=h
 exact (pe_glob (v:=.ref v) hg hm rfl hd).imp fun _ _ _=>x4U r
end
theorem x3q {c:Ct} {n nl:Nat} {s:SX} {vs:List V} {H:Hp} {Q:VK} {E:L2.XK} (h:x5b c (fnZ n nl s) vs H Q E):vs.length = n:=by
 obtain ⟨S,ds,r,ex,tb,rp,e,q⟩:=h
 unfold fnZ at e
 split at e
 ·rename_i hl
  exact rp.length.trans hl
 ·cases e
theorem z6M {c:Ct} {base:Heap} {k:Nat} {x:Str} {f:Addr} (hm:c.mg x = some (.ref f)) (hk:Q1J c.K (.ref f) = true):DefO c base k x (fun _ _=>none):=
 ⟨f,hm,hk,fun A outer s H us ws vs zs Q hr hg e0 r rz hz h=>by
  obtain ⟨v0,ws',ev,_,S,o,fp,ds,r',o',G,rp,e,q⟩:=h
  cases e⟩
end DL

namespace DLE
variable [DL.Tbls]
open PySem PySem.Spec PyProof.Rows L2
theorem x8X {P:Program} {w:World} {K:JFr} {mg mb:Str→Option Value} {k:Nat} {fa a:Addr} {fd:FuncData} {x:Str} {sp:DL.SpQ} {s₁:Shared} {vs:List Value} {ns:List Int}
  (KX:K.In s₁.heap) (hns:s₁.heap.Ns jbd mg) (hb:s₁.heap.Ns builtinsNs mb) (hbb:∀ x:Str,x ≠ "__name__"→mb x = bootBuiltins x) (hlim:s₁.heap.NoLimit) (hg:s₁.gens = #[])
  (ha:s₁.heap.get? a = some { cls:=.type "list",data:=.seq vs.toArray }) (hi:IntsAre vs ns) (hl:ns.length ≤ sizeLine) (hr:Room k callerA) (hgd:callerA.guards = some [])
  (hsy:∃ mm,s₁.heap.Ns sysModules mm) (F:∀ base:Heap,K.In base→base.Ns jbd mg→DL.x1L base→DL.FG ⟨P,w,K,mg⟩ base k fa fd [x] sp) (hbind:∀ (s:Shared) (u:Value),BindsTo s fd ⟨[u],[]⟩ [(x,u)])
  (hsp:∀ H:Hp,SqL K H a (ns.map V.int)→sp [.ref a] H (fun v _=>v = .bl true)) :
  codeAny (model P w) callerA (.call (.ref fa) ⟨[.ref a],[]⟩) (fun r s2=>r = .ok (.ret (.bool true))∧OldK s₁.heap s2.heap∧s2.os = s₁.os∧AllBare s2.gens) s₁:=by
 have rv:=vals_ints hi
 have lenV:=hi.length
 have core:∀ H:Hp,Only H→SqL K H a (ns.map V.int)→HOk P w H s₁.heap→(∀ b,H b ≠ none→b = a)→(H a ≠ none→K.lookup a = none) →
   codeAny (model P w) callerA (.call (.ref fa) ⟨[.ref a],[]⟩) (fun r s2=>r = .ok (.ret (.bool true))∧OldK s₁.heap s2.heap∧s2.os = s₁.os∧AllBare s2.gens) s₁:=by
  intro H hO hS hok hA hK
  have free_of:∀ {b:Addr},b ≠ a→H b = none:=fun {b} ne=>by
   cases q:H b with
   | none=>rfl
   | some u=>exact absurd (hA b (by rw [q]; simp)) ne
  have ns_of:∀ {b:Addr} {m:Str→Option Value},s₁.heap.Ns b m→(hidT s₁.heap H).Ns b m:=fun {b m} ⟨o,es,ep,e,d,r⟩=>by
   refine ⟨o,es,ep,hidT_get e (free_of fun z=>?_),d,r⟩
   subst z
   rw [ha] at e
   cases e
   cases (show Data.seq vs.toArray _ = Data.dict es ep from d)
  have hKb:K.In (hidT s₁.heap H):=fun b o e=>by
   refine hidT_get (KX b o e) ?_
   by_cases z:b = a
   ·subst z
    cases q:H b with
    | none=>rfl
    | some u=>rw [hK (by rw [q]; simp)] at e; cases e
   ·exact free_of z
  have hM:Mod K mg (hidT s₁.heap H):=⟨hKb,ns_of hns,⟨mb,ns_of hb,hbb⟩,let ⟨mc,h1,h2⟩:=hlim; ⟨mc,ns_of h1,h2⟩⟩
  have e0:Env0 P w K mg (hidT s₁.heap H) callerA [] s₁ H:=⟨rfl,hM,fun b o e=>of_hidT e,Q2O (hidT_size _ _),trivial,fun b hb=>(nomatch hb),hok,.of_eq hg⟩
  refine codeAny_mono ((F _ hKb (ns_of hns) (let ⟨o,_,_,e,_⟩:=ns_of hsy.choose_spec; ⟨o,e⟩)).run callerA [] s₁ H ⟨[.ref a],[]⟩ [.ref a] [.ref a] _ hr hgd e0 (hbind s₁ (.ref a)) (.cons rfl .nil) (hsp H hS)) fun r s2 h=>?_
  cases r with
  | error e=>exact False.elim h
  | ok fl=>
   cases fl with
   | next=>exact False.elim h
   | brk=>exact False.elim h
   | cont=>exact False.elim h
   | ret u=>
    obtain ⟨v,H2,os,bare,un,hok2,r2,q⟩:=h
    cases (show v = .bl true from q)
    cases (show u = Value.bool true from r2)
    refine ⟨rfl,OldK.of_keep fun b o e=>?_,os,bare⟩
    cases q:H b with
    | none=>exact un.keep b o e q (fun z=>nomatch z) (by simp)
    | some u=>
     rcases hO b with z | ⟨ob,xs,z⟩
     ·rw [q] at z; cases z
     ·have e1:=(hok b _ z).1
      have e2:=(hok2 b _ (un.frzs b ob _ z)).1
      rw [e] at e1
      cases e1
      exact e2
 cases hk:K.lookup a with
 | some o=>
  have e:=KX a o hk
  rw [ha] at e
  cases e
  exact core (fun _=>none) (fun _=>.inl rfl) (.inr ⟨_,vs.toArray,_,hk,rfl,rfl,rfl,by rw [Q2J,lenV]; exact hl,by simpa using rv⟩) (fun b u z=>(nomatch (show (none:Option HO) = some u from z))) (fun b z=>absurd rfl z) fun z=>absurd rfl z
 | none=>
  refine core (fun b=>if b = a then some (.frz { cls:=.type "list",data:=.seq vs.toArray } (.lst (ns.map V.int))) else none) (fun b=>?_) (.inl (.inr ⟨{ cls:=.type "list",data:=.seq vs.toArray },if_pos rfl⟩)) (fun b u z=>?_) (fun b z=>?_) fun _=>hk
  ·by_cases hb:b = a
   ·exact .inr ⟨_,_,if_pos hb⟩
   ·exact .inl (if_neg hb)
  ·by_cases hb:b = a
   ·cases (if_pos hb).symm.trans z
    subst hb
    exact ⟨ha,by rw [Q0f]; exact hl,vs,_,rv,ha⟩
   ·cases (if_neg hb).symm.trans z
  ·by_cases hb:b = a
   ·exact hb
   ·exact absurd (if_neg hb) z
end DLE

namespace PyProof.Rows
open PySem PySem.Spec HT
end PyProof.Rows
namespace DL
variable [DL.Tbls]
open PySem PySem.Spec L2 PyProof.Rows
end DL

namespace DL
variable [DL.Tbls]
open PySem PySem.Spec

def Yd {α:Type} (o:Option α) (P:α→Prop):Prop:=∃ a,o = some a∧P a
def Ev {α:Type} (f:EM α) (ρ:Rho) (P:α→Rho→Prop):Prop:=∃ a ρ',f ρ = some (a,ρ')∧P a ρ'
def Rn (s:SD) (ρ:Rho) (P:Flw→Prop):Prop:=∃ fl,s ρ = some fl∧P fl
section
variable {α β:Type} {ρ:Rho}
theorem Yd_some {a:α} {P:α→Prop}:Yd (some a) P ↔ P a:=⟨fun ⟨_,e,h⟩=>by cases e; exact h,fun h=>⟨_,rfl,h⟩⟩
theorem Yd_none {P:α→Prop}:Yd none P ↔ False:=⟨fun ⟨_,e,_⟩=>(nomatch e),fun h=>h.elim⟩
theorem q0N {c:Prop} [Decidable c] {a:Option α} {P:α→Prop}:Yd (if c then a else none) P ↔ c∧Yd a P:=by
 split
 ·exact ⟨fun h=>⟨‹c›,h⟩,fun h=>h.2⟩
 ·exact ⟨fun h=>(Yd_none.mp h).elim,fun h=>absurd h.1 ‹¬ c›⟩
theorem x6r {o:Option α} {f:α→β} {P:β→Prop}:Yd (o.map f) P ↔ Yd o fun a=>P (f a):=by
 cases o with
 | none=>exact ⟨fun h=>(Yd_none.mp h).elim,fun h=>(Yd_none.mp h).elim⟩
 | some a=>exact (Yd_some (a:=f a)).trans (Yd_some (a:=a) (P:=fun a=>P (f a))).symm
theorem x3r {o:Option α} {f:α→Option β} {P:β→Prop}:Yd (o.bind f) P ↔ Yd o fun a=>Yd (f a) P:=by
 cases o with
 | none=>exact ⟨fun h=>(Yd_none.mp h).elim,fun h=>(Yd_none.mp h).elim⟩
 | some a=>exact (Yd_some (a:=a) (P:=fun a=>Yd (f a) P)).symm
theorem Yd.mono {o:Option α} {P Q:α→Prop} (h:Yd o P) (k:∀ a,P a→Q a):Yd o Q:=let ⟨a,e,p⟩:=h; ⟨a,e,k a p⟩
theorem Yd.eq {o:Option α} {a:α} (h:Yd o fun b=>b = a):o = some a:=let ⟨_,e,p⟩:=h; p ▸ e
theorem Yd.of_eq {o:Option α} {a:α} {P:α→Prop} (e:o = some a) (h:P a):Yd o P:=⟨a,e,h⟩
theorem Ev.mono {f:EM α} {P Q:α→Rho→Prop} (h:Ev f ρ P) (k:∀ a ρ',P a ρ'→Q a ρ'):Ev f ρ Q:=let ⟨a,r,e,p⟩:=h; ⟨a,r,e,k a r p⟩
theorem Rn.mono {s:SD} {P Q:Flw→Prop} (h:Rn s ρ P) (k:∀ a,P a→Q a):Rn s ρ Q:=let ⟨a,e,p⟩:=h; ⟨a,e,k a p⟩
theorem Ev_yd {f:EM α} {P:α→Rho→Prop}:Ev f ρ P ↔ Yd (f ρ) fun p=>P p.1 p.2:=⟨fun ⟨a,r,e,p⟩=>⟨(a,r),e,p⟩,fun ⟨⟨a,r⟩,e,p⟩=>⟨a,r,e,p⟩⟩

theorem Ev_ret {a:α} {P:α→Rho→Prop}:Ev (q2M a) ρ P ↔ P a ρ:=⟨fun ⟨_,_,e,h⟩=>by cases e; exact h,fun h=>⟨_,_,rfl,h⟩⟩
theorem Ev_no {P:α→Rho→Prop}:Ev (eNo:EM α) ρ P ↔ False:=⟨fun ⟨_,_,e,_⟩=>(nomatch e),fun h=>h.elim⟩
theorem q0w {f:EM α} {g:α→EM β} {P:β→Rho→Prop}:Ev (q0J f g) ρ P ↔ Ev f ρ fun a ρ1=>Ev (g a) ρ1 P:=by
 constructor
 ·rintro ⟨b,ρ2,e,h⟩
  obtain ⟨a,ρ1,e1,e2⟩:=q0z e
  exact ⟨a,ρ1,e1,b,ρ2,e2,h⟩
 ·rintro ⟨a,ρ1,e1,b,ρ2,e2,h⟩
  exact ⟨b,ρ2,by unfold q0J; rw [e1]; exact e2,h⟩
theorem q2q {o:Option α} {P:α→Rho→Prop}:Ev (q3a o) ρ P ↔ Yd o fun a=>P a ρ:=by
 constructor
 ·rintro ⟨a,ρ2,e,h⟩
  obtain ⟨e1,e2⟩:=q1e e
  subst e2
  exact ⟨a,e1,h⟩
 ·rintro ⟨a,e1,h⟩
  exact ⟨a,ρ,by unfold q3a; rw [e1],h⟩
def z9C:Option (Option Slot)→Option Dat
 | some (some ⟨_,.atm (.im d)⟩)=>some d
 | _=>none
theorem q0j {b:Bool} {d:Dat}:z9C (some (some ⟨b,.atm (.im d)⟩)) = some d:=rfl
theorem q0d {d:Dat}:z9C (some (imS d)) = some d:=rfl
theorem q0n {i:Nat} {P:Dat→Rho→Prop}:Ev (q0i i) ρ P ↔ Yd (z9C ρ[i]?) fun d=>P d ρ:=by
 constructor
 ·rintro ⟨a,ρ2,e,h⟩
  unfold q0i at e
  split at e
  ·cases e; rename_i hs; rw [hs]; exact ⟨_,rfl,h⟩
  ·cases e
 ·rintro ⟨d,e,h⟩
  unfold z9C at e
  split at e
  ·cases e; rename_i hs; exact ⟨_,_,by unfold q0i; rw [hs],h⟩
  ·cases e
theorem q3G {d:Dat} {P:Dat→Rho→Prop}:Ev (eC d) ρ P ↔ P d ρ:=Ev_ret
theorem q2r {r:Dat→Option Dat} {f:EM Dat} {P:Dat→Rho→Prop}:Ev (e1 r f) ρ P ↔ Ev f ρ fun x ρ1=>Yd (r x) fun z=>P z ρ1:=by
 unfold e1; rw [q0w]; simp only [q2q]
theorem q1j {r:Dat→Dat→Option Dat} {f g:EM Dat} {P:Dat→Rho→Prop}:Ev (e2 r f g) ρ P ↔ Ev f ρ fun x ρ1=>Ev g ρ1 fun y ρ2=>Yd (r x y) fun z=>P z ρ2:=by
 unfold e2; rw [q0w]; simp only [q0w,q2q]
theorem q0o {P:List Dat→Rho→Prop}:Ev (evs []) ρ P ↔ P [] ρ:=Ev_ret
theorem q0p {f:EM Dat} {fs:List (EM Dat)} {P:List Dat→Rho→Prop}:Ev (evs (f :: fs)) ρ P ↔ Ev f ρ fun d ρ1=>Ev (evs fs) ρ1 fun ds ρ2=>P (d :: ds) ρ2:=by
 show Ev (q0J f fun d=>q0J (evs fs) fun ds=>q2M (d :: ds)) ρ P ↔ _
 rw [q0w]; simp only [q0w,Ev_ret]
theorem q2j {r:List Dat→Option Dat} {f:EM (List Dat)} {P:Dat→Rho→Prop}:Ev (eA r f) ρ P ↔ Ev f ρ fun x ρ1=>Yd (r x) fun z=>P z ρ1:=by
 unfold eA; rw [q0w]; simp only [q2q]
theorem z9D {f:EM Dat} {t:EM (List Dat)} {P:List Dat→Rho→Prop}:Ev (z5l f t) ρ P ↔ Ev f ρ fun d ρ1=>Ev t ρ1 fun ds ρ2=>P (d :: ds) ρ2:=by
 unfold z5l; rw [q0w]; simp only [q0w,Ev_ret]
theorem q1F {f:EM Dat} {P:Bool→Rho→Prop}:Ev (eT f) ρ P ↔ Ev f ρ fun x ρ1=>Yd (eBl x) fun z=>P z ρ1:=by
 unfold eT; rw [q0w]; simp only [q2q]
theorem z6N {b:Bool} {f g:EM α} {P:α→Rho→Prop}:Ev (if b = true then f else g) ρ P ↔ (b = true→Ev f ρ P)∧(b = false→Ev g ρ P):=by
 cases b <;> simp
theorem q6C {s t:EM Bool} {P:Bool→Rho→Prop}:Ev (z0m s t) ρ P ↔ Ev s ρ fun b ρ1=>(b = true→Ev t ρ1 P)∧(b = false→P false ρ1):=by
 unfold z0m; rw [q0w]; simp only [z6N,Ev_ret]
theorem q1J {s t:EM Bool} {P:Bool→Rho→Prop}:Ev (q9t s t) ρ P ↔ Ev s ρ fun b ρ1=>(b = true→P true ρ1)∧(b = false→Ev t ρ1 P):=by
 unfold q9t; rw [q0w]; simp only [z6N,Ev_ret]
theorem q1M {s:EM Bool} {P:Bool→Rho→Prop}:Ev (q4P s) ρ P ↔ Ev s ρ fun b ρ1=>P (!b) ρ1:=by
 unfold q4P; rw [q0w]; simp only [Ev_ret]
theorem q3c {f g:EM Dat} {P:Dat→Rho→Prop}:Ev (z3R f g) ρ P ↔ Ev f ρ fun d ρ1=>Yd (eBl d) fun b=>(b = true→Ev g ρ1 P)∧(b = false→P (.bl false) ρ1):=by
 unfold z3R; rw [q0w]
 constructor
 ·exact fun h=>h.mono fun d r h=>by
   cases d with
   | bl b=>cases b with
    | true=>exact Yd_some.mpr ⟨fun _=>h,fun z=>nomatch z⟩
    | false=>exact Yd_some.mpr ⟨(fun z=>nomatch z),fun _=>Ev_ret.mp h⟩
   | _=>exact (Ev_no.mp h).elim
 ·exact fun h=>h.mono fun d r h=>by
   cases d with
   | bl b=>cases b with
    | true=>exact (Yd_some.mp h).1 rfl
    | false=>exact Ev_ret.mpr ((Yd_some.mp h).2 rfl)
   | _=>exact (Yd_none.mp h).elim
theorem x1N {f g:EM Dat} {P:Dat→Rho→Prop}:Ev (eOr f g) ρ P ↔ Ev f ρ fun d ρ1=>Yd (eBl d) fun b=>(b = true→P (.bl true) ρ1)∧(b = false→Ev g ρ1 P):=by
 unfold eOr; rw [q0w]
 constructor
 ·exact fun h=>h.mono fun d r h=>by
   cases d with
   | bl b=>cases b with
    | true=>exact Yd_some.mpr ⟨fun _=>Ev_ret.mp h,fun z=>nomatch z⟩
    | false=>exact Yd_some.mpr ⟨(fun z=>nomatch z),fun _=>h⟩
   | _=>exact (Ev_no.mp h).elim
 ·exact fun h=>h.mono fun d r h=>by
   cases d with
   | bl b=>cases b with
    | true=>exact Ev_ret.mpr ((Yd_some.mp h).1 rfl)
    | false=>exact (Yd_some.mp h).2 rfl
   | _=>exact (Yd_none.mp h).elim
theorem z6O {f:EM Dat} {P:Dat→Rho→Prop}:Ev (x8s f) ρ P ↔ Ev f ρ fun d ρ1=>Yd (eBl d) fun b=>P (.bl (!b)) ρ1:=by
 unfold x8s; rw [q2r]
 have key:∀ (d:Dat) (r:Rho),Yd (match d with | .bl b=>some (Dat.bl (!b)) | _=>none) (fun z=>P z r) ↔ Yd (eBl d) fun b=>P (.bl (!b)) r:=by
  intro d r
  cases d with
  | bl b=>exact (Yd_some (a:=Dat.bl (!b)) (P:=fun z=>P z r)).trans (Yd_some (a:=b) (P:=fun b=>P (.bl (!b)) r)).symm
  | _=>exact Yd_none.trans (Yd_none (P:=fun b=>P (.bl (!b)) r)).symm
 exact ⟨fun q=>q.mono fun d r q=>(key d r).mp q,fun q=>q.mono fun d r q=>(key d r).mpr q⟩
theorem q6e {s:EM Bool} {f g:EM Dat} {P:Dat→Rho→Prop}:Ev (eIf s f g) ρ P ↔ Ev s ρ fun b ρ1=>(b = true→Ev f ρ1 P)∧(b = false→Ev g ρ1 P):=by
 unfold eIf; rw [q0w]; simp only [z6N]
theorem q6D {r r':Dat→Dat→Option Dat} {f g h:EM Dat} {P:Dat→Rho→Prop}:Ev (q7v r r' f g h) ρ P ↔ Ev f ρ fun x ρ1=>Ev g ρ1 fun y ρ2=>Yd (r x y) fun z=>Yd (eBl z) fun b=>(b = true→Ev h ρ2 fun w ρ3=>Yd (r' y w) fun z=>P z ρ3)∧(b = false→P (.bl false) ρ2):=by
 unfold q7v; simp only [q0w,q2q]
 have key:∀ (x:Dat) (ρ1:Rho) (y:Dat) (ρ2:Rho) (a:Dat),Ev (match a with | .bl true=>q0J h fun w=>q3a (r' y w) | .bl false=>q2M (.bl false) | _=>eNo) ρ2 P ↔ Yd (eBl a) fun b=>(b = true→Ev h ρ2 fun w ρ3=>Yd (r' y w) fun z=>P z ρ3)∧(b = false→P (.bl false) ρ2):=by
  intro x ρ1 y ρ2 a
  cases a with
  | bl b=>cases b with
   | true=>simp only [eBl,Yd_some,q0w,q2q]; simp
   | false=>simp only [eBl,Yd_some,Ev_ret]; simp
  | _=>simp only [eBl,Yd_none,Ev_no]
 constructor
 ·exact fun q=>q.mono fun x r1 q=>q.mono fun y r2 q=>q.mono fun a q=>(key x r1 y r2 a).mp q
 ·exact fun q=>q.mono fun x r1 q=>q.mono fun y r2 q=>q.mono fun a q=>(key x r1 y r2 a).mpr q
theorem q0x {f:EM Dat} {P:Cell→Rho→Prop}:Ev (eIm f) ρ P ↔ Ev f ρ fun d ρ1=>P (.atm (.im d)) ρ1:=by
 unfold eIm; rw [q0w]; simp only [Ev_ret]
theorem q0r {f:EM Cell} {P:Dat→Rho→Prop}:Ev (q1d f) ρ P ↔ Ev f ρ fun k ρ1=>P k.frz ρ1:=by
 unfold q1d; rw [q0w]; simp only [Ev_ret]
theorem z4c {f:EM Dat} {P:Dat→Rho→Prop}:Ev (q8q f) ρ P ↔ Ev f (z8S ρ) fun d _=>d.flat = true∧P d ρ:=by
 unfold q8q
 constructor
 ·rintro ⟨a,ρ2,e,h⟩
  dsimp only at e
  split at e
  ·split at e
   ·cases e; exact ⟨_,_,‹_›,‹_›,h⟩
   ·cases e
  ·cases e
 ·rintro ⟨a,ρ2,e,h1,h2⟩
  exact ⟨a,ρ,by dsimp only; rw [e]; dsimp only; rw [if_pos h1],h2⟩
theorem q8F {f:EM Bool} {P:Bool→Rho→Prop}:Ev (q6v f) ρ P ↔ Ev f (z8S ρ) fun d _=>P d ρ:=by
 unfold q6v
 constructor
 ·rintro ⟨a,ρ2,e,h⟩
  dsimp only at e
  split at e
  ·cases e; exact ⟨_,_,‹_›,h⟩
  ·cases e
 ·rintro ⟨a,ρ2,e,h2⟩
  exact ⟨a,ρ,by dsimp only; rw [e],h2⟩
theorem q6Y {c:Prop} [Decidable c] {f:EM α} {P:α→Rho→Prop}:Ev (if c then f else eNo) ρ P ↔ c∧Ev f ρ P:=by
 split
 ·exact ⟨fun h=>⟨‹c›,h⟩,fun h=>h.2⟩
 ·exact ⟨fun h=>(Ev_no.mp h).elim,fun h=>absurd h.1 ‹¬ c›⟩
theorem q3x {t:EM (List Dat)} {P:Cell→Rho→Prop}:Ev (eOl t) ρ P ↔ Ev t ρ fun ds ρ1=>ds.length ≤ 100000∧P (.atm (.ol ds)) ρ1:=by
 unfold eOl; rw [q0w]; simp only [q6Y,Ev_ret]
theorem q3K {t:EM (List Dat)} {P:Dat→Rho→Prop}:Ev (z1n t) ρ P ↔ Ev t ρ fun ds ρ1=>ds.length ≤ 100000∧P (.tup ds) ρ1:=by
 unfold z1n; rw [q2j]; simp only [q0N,Yd_some]
theorem q0C {F:List Dat→Option Cell} {dfl:List Dat} {t:EM (List Dat)} {P:Cell→Rho→Prop}:Ev (q1l F dfl t) ρ P ↔ Ev t ρ fun ds ρ1=>Yd (F (ds ++ dfl)) fun k=>P k ρ1:=by
 unfold q1l; rw [q0w]; simp only [q2q]
theorem q5e {nm:Str} {F:Cell→List Dat→Option (Cell × Cell)} {t:EM (List Dat)} {P:Cell→Rho→Prop}:Ev (q8y nm F t) ρ P ↔ Ev t ρ fun ds ρ1=>Yd (mkK (F (.oi nm [] []) ds)) fun k=>P k ρ1:=by
 unfold q8y; rw [q0w]; simp only [q2q]
theorem x6s {o:Option (Cell × Cell)} {P:Cell→Prop} (h:Yd o fun r=>r.1 = .atm (.im .non)∧P r.2):Yd (mkK o) P:=by
 obtain ⟨⟨r,o'⟩,rfl,e,h⟩:=h
 dsimp only at e
 subst e
 exact ⟨o',rfl,h⟩
def okM (nm m:Str):Dat→Prop
 | .ins c fs ds=>c = nm∧((fs.zip ds).lookup m).isNone = true
 | _=>False
def okI (nm:Str):Dat→Prop
 | .ins c _ _=>c = nm
 | _=>False
theorem q6E {nm m:Str} {F:List Dat→Option Cell} {g:EM Dat} {t:EM (List Dat)} {P:Cell→Rho→Prop}:Ev (q7O nm m F g t) ρ P ↔ Ev g ρ fun d ρ1=>okM nm m d∧Ev t ρ1 fun ds ρ2=>Yd (F (d :: ds)) fun k=>P k ρ2:=by
 unfold q7O; rw [q0w]
 have key:∀ (d:Dat) (ρ1:Rho),Ev (match d with | .ins c fs ds=>if c = nm∧((fs.zip ds).lookup m).isNone = true then q0J t fun es=>q3a (F (.ins c fs ds :: es)) else eNo | _=>eNo) ρ1 P ↔ okM nm m d∧Ev t ρ1 fun ds ρ2=>Yd (F (d :: ds)) fun k=>P k ρ2:=by
  intro d ρ1
  cases d with
  | ins c fs ds=>simp only [q6Y,q0w,q2q,okM]
  | _=>simp only [Ev_no,okM,false_and]
 exact ⟨fun q=>q.mono fun d r q=>(key d r).mp q,fun q=>q.mono fun d r q=>(key d r).mpr q⟩
theorem z4d {nm:Str} {F:List Dat→Option Cell} {g:EM Dat} {P:Cell→Rho→Prop}:Ev (q9w nm F g) ρ P ↔ Ev g ρ fun d ρ1=>okI nm d∧Yd (F [d]) fun k=>P k ρ1:=by
 unfold q9w; rw [q0w]
 have key:∀ (d:Dat) (ρ1:Rho),Ev (match d with | .ins c fs ds=>if c = nm then q3a (F [.ins c fs ds]) else eNo | _=>eNo) ρ1 P ↔ okI nm d∧Yd (F [d]) fun k=>P k ρ1:=by
  intro d ρ1
  cases d with
  | ins c fs ds=>simp only [q6Y,q0w,q2q,okI]
  | _=>simp only [Ev_no,okI,false_and]
 exact ⟨fun q=>q.mono fun d r q=>(key d r).mp q,fun q=>q.mono fun d r q=>(key d r).mpr q⟩
end
end DL

namespace DL
variable [DL.Tbls]
open PySem PySem.Spec
section
variable {α β:Type} {ρ:Rho}
theorem q7x {f:EM α} {P Q:α→Rho→Prop} (h:∀ a r,P a r ↔ Q a r):Ev f ρ P ↔ Ev f ρ Q:=⟨fun q=>q.mono fun a r=>(h a r).mp,fun q=>q.mono fun a r=>(h a r).mpr⟩
theorem q5Z {s:SD} {P:Flw→Prop}:Rn s ρ P ↔ Yd (s ρ) P:=Iff.rfl

def x6t:Dat→Option (List Dat)
  | .str x=>some (x.cps.toList.map fun k=>Dat.str ⟨#[k]⟩)
  | _=>none
def x6u:Dat→Option Int
  | .int i=>some i
  | _=>none
def z6P:Dat→Option (List Dat)
  | .lst ds=>some ds
  | .tup ds=>some ds
  | _=>none
theorem q2s {f:EM Dat} {P:Option Int→Rho→Prop}:Ev (q3i f) ρ P ↔ Ev f ρ fun d ρ1=>Yd (x6u d) fun i=>P (some i) ρ1:=by
  unfold q3i; rw [q0w]
  exact q7x fun d r=>by
    cases d with
    | int i=>exact Ev_ret.trans (Yd_some (a:=i) (P:=fun i=>P (some i) r)).symm
    | _=>exact Ev_no.trans (Yd_none (P:=fun i=>P (some i) r)).symm
theorem q5F {f:EM Dat} {lo hi:EM (Option Int)} {P:Dat→Rho→Prop}:Ev (eSl f lo hi) ρ P ↔ Ev f ρ fun d ρ1=>Ev lo ρ1 fun l ρ2=>Ev hi ρ2 fun h ρ3=>Yd (slD d l h) fun z=>P z ρ3:=by
  unfold eSl; simp only [q0w,q2q]
theorem q1G {f:EM Dat} {P:List Dat→Rho→Prop}:Ev (q6r f) ρ P ↔ Ev f ρ fun d ρ1=>Yd (z6P d) fun ds=>P ds ρ1:=by
  unfold q6r; rw [q0w]
  exact q7x fun d r=>by
    cases d with
    | lst i=>exact Ev_ret.trans (Yd_some (a:=i) (P:=fun i=>P i r)).symm
    | tup i=>exact Ev_ret.trans (Yd_some (a:=i) (P:=fun i=>P i r)).symm
    | _=>exact Ev_no.trans (Yd_none (P:=fun i=>P i r)).symm
def x8Y:List Dat→Option (List Dat)
  | [.int n]=>if -1000000 ≤ n∧n ≤ 1000000 then some ((Q1e n.toNat).map fun k:Nat=>Dat.int (k:Int)) else none
  | _=>none
theorem q8a {t:EM (List Dat)} {P:List Dat→Rho→Prop}:Ev (z2P t) ρ P ↔ Ev t ρ fun ds ρ1=>Yd (x8Y ds) fun es=>P es ρ1:=by
  unfold z2P; rw [q0w]
  refine q7x fun d r=>?_
  unfold x8Y
  split
  · (try dsimp only); rw [q6Y,q0N,Ev_ret,Yd_some]
  · first
    | (rw [Ev_no,Yd_none]; done)
    | (split
       · rename_i h; exact absurd rfl (h _)
       · rw [Ev_no,Yd_none])
def x3s:Cell→Option Atom
  | .atm a=>some a
  | _=>none
def j0d:Dat→Option (List Dat)
  | .lst ds=>some ds.reverse
  | _=>none
theorem z9E {f:EM Dat} {P:Cell→Rho→Prop}:Ev (z9t f) ρ P ↔ Ev f ρ fun d ρ1=>Yd (j0d d) fun ds=>ds.length ≤ 100000∧P (.atm (.ol ds)) ρ1:=by
  unfold z9t; rw [q0w]
  refine q7x fun d r=>?_
  cases d with
  | lst ds=>
    refine Iff.trans ?_ (Yd_some (a:=ds.reverse) (P:=fun (ds:List Dat)=>ds.length ≤ 100000∧P (.atm (.ol ds)) r)).symm
    dsimp only
    rw [q6Y,Ev_ret,Q3g]
  | _=>exact Ev_no.trans (Yd_none (P:=fun (ds:List Dat)=>ds.length ≤ 100000∧P (.atm (.ol ds)) r)).symm
theorem z6Q {f:EM Dat} {t:EM (List Dat)} {P:List Dat→Rho→Prop}:Ev (z1D f t) ρ P ↔ Ev f ρ fun d ρ1=>Yd (z6P d) fun ds=>Ev t ρ1 fun es ρ2=>P (ds ++ es) ρ2:=by
  unfold z1D; rw [q0w]
  refine q7x fun d r=>?_
  have key:∀ ds:List Dat,Ev (q0J t fun es=>q2M (ds ++ es)) r P ↔ Yd (some ds) (fun ds=>Ev t r fun es ρ2=>P (ds ++ es) ρ2):=fun ds=>by rw [q0w,Yd_some]; simp only [Ev_ret]
  cases d with
  | lst ds=>exact key ds
  | tup ds=>exact key ds
  | _=>exact Ev_no.trans (Yd_none (P:=fun (ds:List Dat)=>Ev t r fun es ρ2=>P (ds ++ es) ρ2)).symm
theorem z3a {P:Bool→Rho→Prop}:Ev z1y ρ P ↔ P true ρ:=Ev_ret
theorem z3b {f:EM Dat} {P:List Dat→Rho→Prop}:Ev (x6l f) ρ P ↔ Ev f ρ fun d ρ1=>Yd (x6t d) fun ds=>P ds ρ1:=by
  unfold x6l; rw [q0w]
  exact q7x fun d r=>by
    cases d with
    | str i=>exact Ev_ret.trans (Yd_some (a:=i.cps.toList.map fun k=>Dat.str ⟨#[k]⟩) (P:=fun i=>P i r)).symm
    | _=>exact Ev_no.trans (Yd_none (P:=fun i=>P i r)).symm
theorem q5f {i:Nat} {π:Pl} {t:EM (List Dat)} {g:Atom→List Dat→Option (Atom × Dat)} {P:Dat→Rho→Prop}:Ev (z2H i π t g) ρ P ↔ Yd ρ[i]? fun o=>Yd o fun s=>Yd (x2T π s.cell) fun a=>a.own = true∧Ev t (ρ.set i none) fun ds ρ2=>ρ2[i]? = some none∧Yd (g a ds) fun r=>P r.2 (ρ2.set i (some ⟨s.pin,x4V π r.1 s.cell⟩)):=by
  rw [Ev_yd]
  unfold z2H
  cases h1:ρ[i]? with
  | none=>exact Yd_none.trans Yd_none.symm
  | some o=>
    cases o with
    | none=>
      rw [Yd_some]
      exact Yd_none.trans Yd_none.symm
    | some s=>
      rw [Yd_some,Yd_some]
      dsimp only
      cases x2T π s.cell with
      | none=>exact Yd_none.trans Yd_none.symm
      | some a=>
      rw [Yd_some]; dsimp only
      rw [q0N,Ev_yd]
      refine and_congr_right fun _=>?_
      cases t (List.set ρ i none) with
      | none=>exact Yd_none.trans Yd_none.symm
      | some x=>
      obtain ⟨ds,ρ2⟩:=x
      rw [Yd_some]; dsimp only
      cases h2:ρ2[i]? with
      | none=>exact Yd_none.trans ⟨fun z=>z.elim,fun z=>nomatch z.1⟩
      | some o2=>
        cases o2 with
        | some s2=>exact Yd_none.trans ⟨fun z=>z.elim,fun z=>nomatch z.1⟩
        | none=>
          dsimp only
          cases g a ds with
          | none=>exact Yd_none.trans ⟨fun z=>z.elim,fun z=>Yd_none.mp z.2⟩
          | some x=>
            rw [Yd_some,Yd_some]
            exact ⟨fun z=>⟨rfl,z⟩,fun z=>z.2⟩
theorem z9F {i:Nat} {t:EM (List Dat)} {g:Atom→List Dat→Option (Atom × Dat)} {P:Dat→Rho→Prop}:Ev (z5r i t g) ρ P ↔ Yd (z0x ρ[i]?) fun h0=>Ev t ρ fun ds ρ2=>Yd (z0x ρ2[i]?) fun h=>z2Y h0.2 = z2Y h.2∧Yd (g h.2 ds) fun r=>P r.2 (ρ2.set i (some ⟨h.1,.atm r.1⟩)):=by
  rw [Ev_yd]
  unfold z5r
  cases z0x ρ[i]? with
  | none=>exact Yd_none.trans Yd_none.symm
  | some h0=>
    rw [Yd_some,Ev_yd]; dsimp only
    cases t ρ with
    | none=>exact Yd_none.trans Yd_none.symm
    | some x=>
      obtain ⟨ds,ρ2⟩:=x
      rw [Yd_some]; dsimp only
      cases z0x ρ2[i]? with
      | none=>exact Yd_none.trans Yd_none.symm
      | some h=>
        rw [Yd_some]; dsimp only
        rw [q0N]
        refine and_congr_right fun _=>?_
        cases g h.2 ds with
        | none=>exact Yd_none.trans Yd_none.symm
        | some x=>rw [Yd_some,Yd_some]
theorem z4e {F:Cell→List Dat→Option (Cell × Cell)} {i:Nat} {ds:List Dat} {P:Cell→Rho→Prop}:Ev (z2S F i ds) ρ P ↔ Yd ρ[i]? fun o=>Yd o fun s=>Yd (F s.cell ds) fun r=>P r.1 (ρ.set i (some ⟨s.pin,r.2⟩)):=by
  rw [Ev_yd]
  unfold z2S
  cases h1:ρ[i]? with
  | none=>exact Yd_none.trans Yd_none.symm
  | some o=>
    cases o with
    | none=>
      rw [Yd_some]
      exact Yd_none.trans Yd_none.symm
    | some s=>
      rw [Yd_some,Yd_some]
      dsimp only
      cases F s.cell ds with
      | none=>exact Yd_none.trans Yd_none.symm
      | some x=>rw [Yd_some,Yd_some]
theorem q3y {F:Cell→List Dat→Option (Cell × Cell)} {dfl:List Dat} {i:Nat} {t:EM (List Dat)} {P:Cell→Rho→Prop}:Ev (q2n F dfl i t) ρ P ↔ Yd ρ[i]? fun o=>Yd o fun _=>Ev t ρ fun ds ρ1=>Yd ρ1[i]? fun o=>Yd o fun s=>Yd (F s.cell (ds ++ dfl)) fun r=>P r.1 (ρ1.set i (some ⟨s.pin,r.2⟩)):=by
  rw [Ev_yd]
  unfold q2n
  cases h1:ρ[i]? with
  | none=>exact Yd_none.trans Yd_none.symm
  | some o=>
    cases o with
    | none=>
      rw [Yd_some]
      exact Yd_none.trans Yd_none.symm
    | some s=>
      rw [Yd_some,Yd_some]
      dsimp only
      rw [← Ev_yd,q0w]
      exact q7x fun a r=>z4e
theorem z5s {F:Cell→List Dat→Option (Cell × Cell)} {i:Nat} {P:Cell→Rho→Prop}:Ev (q8x F i) ρ P ↔ Yd ρ[i]? fun o=>Yd o fun s=>Yd (F s.cell []) fun r=>P r.1 (ρ.set i (some ⟨s.pin,r.2⟩)):=z4e

theorem q1c {P:Flw→Prop}:Rn q2V ρ P ↔ P (.nx ρ):=Yd_some
theorem z0z {P:Flw→Prop}:Rn sNo ρ P ↔ False:=Yd_none
def aft (P:Flw→Prop) (t:SD):Flw→Prop
  | .nx ρ=>Rn t ρ P
  | fl=>P fl
theorem q0M {s t:SD} {P:Flw→Prop}:Rn (q1E s t) ρ P ↔ Rn s ρ (aft P t):=by
  rw [q5Z,q5Z]
  unfold q1E
  cases h:s ρ with
  | none=>exact Yd_none.trans Yd_none.symm
  | some fl=>
    rw [Yd_some]
    cases fl with
    | nx ρ'=>exact Iff.rfl
    | _=>exact Yd_some
theorem q0D {P:Flw→Prop} {t:SD}:aft P t (.nx ρ) = Rn t ρ P:=rfl
theorem q2G {P:Flw→Prop} {t:SD} {k:Cell}:aft P t (.rt k ρ) = P (.rt k ρ):=rfl
theorem q0E {f:EM Cell} {P:Flw→Prop}:Rn (q2D f) ρ P ↔ Ev f ρ fun k ρ1=>P (.rt k ρ1):=by
  rw [q5Z,Ev_yd]; unfold q2D
  cases f ρ with
  | none=>exact Yd_none.trans Yd_none.symm
  | some x=>rw [Yd_some,Yd_some]
theorem q2H {f:EM Bool} {s t:SD} {P:Flw→Prop}:Rn (sIf f s t) ρ P ↔ Ev f ρ fun b ρ1=>(b = true→Rn s ρ1 P)∧(b = false→Rn t ρ1 P):=by
  rw [q5Z,Ev_yd]; unfold sIf
  cases f ρ with
  | none=>exact Yd_none.trans Yd_none.symm
  | some x=>
    obtain ⟨b,ρ1⟩:=x
    rw [Yd_some]
    cases b <;> simp [q5Z]
theorem q4A {f:EM Cell} {P:Flw→Prop}:Rn (q6w f) ρ P ↔ Ev f ρ fun _ ρ1=>P (.nx ρ1):=by
  rw [q5Z,Ev_yd]; unfold q6w
  cases f ρ with
  | none=>exact Yd_none.trans Yd_none.symm
  | some x=>rw [Yd_some,Yd_some]
theorem q1C {i:Nat} {f:EM Cell} {P:Flw→Prop}:Rn (q4a i f) ρ P ↔ Ev f ρ fun k ρ1=>Yd (setS i k ρ1) fun ρ2=>P (.nx ρ2):=by
  rw [q5Z,Ev_yd]; unfold q4a
  cases f ρ with
  | none=>exact Yd_none.trans Yd_none.symm
  | some x=>
    obtain ⟨k,ρ1⟩:=x
    rw [Yd_some]; dsimp only
    cases setS i k ρ1 with
    | none=>exact Yd_none.trans Yd_none.symm
    | some x=>rw [Yd_some,Yd_some]
theorem q7y {i:Nat} {s:SD} {P:Flw→Prop}:Rn (z6i i s) ρ P ↔ Rn s (frzS i ρ) P:=Iff.rfl
theorem z1G {i j:Nat} {f g:EM Cell} {P:Flw→Prop}:Rn (z9s i j f g) ρ P ↔ Ev f ρ fun k1 ρ1=>Ev g ρ1 fun k2 ρ2=>Yd (setS i k1 ρ2) fun ρ3=>Yd (setS j k2 ρ3) fun ρ4=>P (.nx ρ4):=by
  rw [q5Z,Ev_yd]; unfold z9s
  cases f ρ with
  | none=>exact Yd_none.trans Yd_none.symm
  | some x=>
    obtain ⟨k,ρ1⟩:=x
    rw [Yd_some,Ev_yd]; dsimp only
    cases g ρ1 with
    | none=>exact Yd_none.trans Yd_none.symm
    | some x=>
      obtain ⟨k2,ρ2⟩:=x
      rw [Yd_some]; dsimp only
      cases setS i k ρ2 with
      | none=>exact Yd_none.trans Yd_none.symm
      | some ρ3=>
        rw [Yd_some]; dsimp only
        cases setS j k2 ρ3 with
        | none=>exact Yd_none.trans Yd_none.symm
        | some x=>rw [Yd_some,Yd_some]
theorem z6R {tg:Tg} {f:EM Dat} {P:Flw→Prop}:Rn (x3j tg f) ρ P ↔ Ev f ρ fun d ρ1=>Yd (bdT tg d ρ1) fun ρ2=>P (.nx ρ2):=by
  rw [q5Z,Ev_yd]; unfold x3j
  cases f ρ with
  | none=>exact Yd_none.trans Yd_none.symm
  | some x=>
    obtain ⟨k,ρ1⟩:=x
    rw [Yd_some]; dsimp only
    cases bdT tg k ρ1 with
    | none=>exact Yd_none.trans Yd_none.symm
    | some x=>rw [Yd_some,Yd_some]
def x5c (nm f:Str) (a:Atom):Cell→Option Cell
  | .oi c fs as=>if c = nm∧f ∉ fs∧fs.length = as.length∧fs.length < 100 then some (.oi c (fs ++ [f]) (as ++ [a])) else none
  | _=>none
theorem x3t {i:Nat} {nm f:Str} {g:EM Cell} {P:Flw→Prop}:Rn (z2X i nm f g) ρ P ↔ Ev g ρ fun k ρ1=>Yd (x3s k) fun a=>Yd ρ1[i]? fun o=>Yd o fun s=>Yd (x5c nm f a s.cell) fun k'=>P (.nx (ρ1.set i (some ⟨s.pin,k'⟩))):=by
  rw [q5Z,Ev_yd]
  unfold z2X
  cases hg:g ρ with
  | none=>exact Yd_none.trans Yd_none.symm
  | some p=>
    obtain ⟨k,ρ1⟩:=p
    rw [Yd_some]
    cases k with
    | atm a=>
      refine Iff.trans ?_ (Yd_some (a:=a) (P:=fun a=>Yd ρ1[i]? fun o=>Yd o fun s=>Yd (x5c nm f a s.cell) fun k'=>P (.nx (ρ1.set i (some ⟨s.pin,k'⟩))))).symm
      dsimp only
      cases h1:ρ1[i]? with
      | none=>exact Yd_none.trans Yd_none.symm
      | some o=>
        cases o with
        | none=>rw [Yd_some]; exact Yd_none.trans Yd_none.symm
        | some s=>
          rw [Yd_some,Yd_some]
          obtain ⟨p,c⟩:=s
          cases c with
          | oi c fs as=>
            dsimp only [x5c]
            rw [q0N,q0N,Yd_some,Yd_some]
          | _=>exact Yd_none.trans Yd_none.symm
    | _=>exact Yd_none.trans (Yd_none (P:=fun a=>Yd ρ1[i]? fun o=>Yd o fun s=>Yd (x5c nm f a s.cell) fun k'=>P (.nx (ρ1.set i (some ⟨s.pin,k'⟩))))).symm
theorem q3z {src:EM (List Dat)} {tg:Tg} {s:SD} {P:Flw→Prop}:Rn (q9u src tg s) ρ P ↔ Ev src ρ fun ds ρ1=>Rn (q5Y tg s ds) ρ1 P:=by
  rw [q5Z,Ev_yd]; unfold q9u
  cases f:src ρ with
  | none=>exact Yd_none.trans Yd_none.symm
  | some x=>rw [Yd_some]; exact Iff.rfl
def z4f (N:Rho→Prop) (P:Flw→Prop):Flw→Prop
  | .nx ρ=>N ρ
  | .ct ρ=>N ρ
  | .bk ρ=>P (.nx ρ)
  | .rt k ρ=>P (.rt k ρ)
theorem q1P {N:Rho→Prop} {P:Flw→Prop}:z4f N P (.nx ρ) = N ρ:=rfl
theorem q8G {N:Rho→Prop} {P:Flw→Prop} {k:Cell}:z4f N P (.rt k ρ) = P (.rt k ρ):=rfl
theorem q6F {tg:Tg} {s:SD} {P:Flw→Prop}:Rn (q5Y tg s []) ρ P ↔ P (.nx ρ):=by rw [q5Z]; unfold q5Y; exact Yd_some
theorem q8b {tg:Tg} {s:SD} {d:Dat} {ds:List Dat} {P:Flw→Prop}:Rn (q5Y tg s (d :: ds)) ρ P ↔ Yd (bdT tg d ρ) fun ρ1=>Rn s ρ1 (z4f (fun ρ2=>Rn (q5Y tg s ds) ρ2 P) P):=by
  rw [q5Z]; unfold q5Y
  cases bdT tg d ρ with
  | none=>exact Yd_none.trans Yd_none.symm
  | some ρ1=>
  rw [Yd_some,q5Z]; dsimp only
  cases h:s ρ1 with
  | none=>exact Yd_none.trans Yd_none.symm
  | some fl=>
    rw [Yd_some]
    cases fl with
    | nx ρ'=>exact Iff.rfl
    | ct ρ'=>exact Iff.rfl
    | bk ρ'=>exact Yd_some
    | rt k ρ'=>exact Yd_some
theorem q2R {tg:Tg} {s:SD} {P:Flw→Prop} (enc:β→Dat) (xs:List β) (I:List β→Rho→Prop) (h0:I [] ρ)
    (hs:∀ (pre:List β) (x:β) (post:List β) (ρ:Rho),xs = pre ++ x :: post→I pre ρ→Yd (bdT tg (enc x) ρ) fun ρ1=>Rn s ρ1 (z4f (I (pre ++ [x])) P)) (he:∀ ρ,I xs ρ→P (.nx ρ)):Rn (q5Y tg s (xs.map enc)) ρ P:=by
  have key:∀ (ys pre:List β) (ρ:Rho),xs = pre ++ ys→I pre ρ→Rn (q5Y tg s (ys.map enc)) ρ P:=by
    intro ys
    induction ys with
    | nil=>
      intro pre ρ e h
      rw [Q0i] at e
      subst e
      rw [Q0w,q6F]
      exact he ρ h
    | cons x ys ih=>
      intro pre ρ e h
      rw [Q0e,q8b]
      refine (hs pre x ys ρ e h).mono fun ρ1 q=>q.mono fun fl q=>?_
      have nx:∀ ρ2,I (pre ++ [x]) ρ2→Rn (q5Y tg s (ys.map enc)) ρ2 P:=fun ρ2 q=>ih (pre ++ [x]) ρ2 (by rw [e,Q0C]; rfl) q
      cases fl with
      | nx ρ'=>exact nx _ q
      | ct ρ'=>exact nx _ q
      | bk ρ'=>exact q
      | rt k ρ'=>exact q
  exact key xs [] ρ rfl h0
theorem z9G {t:EM Bool} {s:SD} {P:Flw→Prop} (I:Nat→Rho→Prop)
    (hs:∀ (n:Nat) (ρ:Rho),I n ρ→Ev t ρ fun b ρ1=>(b = true→Rn s ρ1 (z4f (fun ρ2=>∃ m,m < n∧I m ρ2) P))∧(b = false→P (.nx ρ1))) (n:Nat) (h:I n ρ):Rn (q8s t s) ρ P:=by
  have key:∀ (n:Nat) (ρ:Rho),I n ρ→∃ k,Yd (q2A t s k ρ) P:=by
    intro n
    induction n using Nat.strongRecOn with
    | ind n ih=>
      intro ρ h
      obtain ⟨b,ρ1,e,h1,h2⟩:=hs n ρ h
      cases b with
      | false=>
        refine ⟨1,?_⟩
        unfold q2A
        rw [e]
        exact Yd_some.mpr (h2 rfl)
      | true=>
        obtain ⟨fl,e2,q⟩:=h1 rfl
        have nx:∀ ρ2,(s ρ1 = some (.nx ρ2)∨s ρ1 = some (.ct ρ2))→(∃ m,m < n∧I m ρ2)→∃ k,Yd (q2A t s k ρ) P:=by
          intro ρ2 e3 ⟨m,hm,q⟩
          obtain ⟨k,z⟩:=ih m hm ρ2 q
          refine ⟨k + 1,?_⟩
          unfold q2A
          rw [e]
          dsimp only
          rcases e3 with e3 | e3 <;> (rw [e3]; exact z)
        cases fl with
        | nx ρ2=>exact nx ρ2 (.inl e2) q
        | ct ρ2=>exact nx ρ2 (.inr e2) q
        | bk ρ2=>
          refine ⟨1,?_⟩
          unfold q2A
          rw [e]
          dsimp only
          rw [e2]
          exact Yd_some.mpr q
        | rt k ρ2=>
          refine ⟨1,?_⟩
          unfold q2A
          rw [e]
          dsimp only
          rw [e2]
          exact Yd_some.mpr q
  obtain ⟨k,fl,e,q⟩:=key n ρ h
  exact ⟨fl,z6k e,q⟩
end
end DL

namespace DL
variable [DL.Tbls]
open PySem PySem.Spec
open L2 (Key)
section
variable {α β:Type} {ρ:Rho}
theorem q1N {src:EM (List Dat)} {tg:Tg} {t:EM Bool} {e:EM Dat} {vs:List Nat} {P:Cell→Rho→Prop}:Ev (q3Q src tg t e vs) ρ P ↔ Ev src ρ fun ds ρ1=>vs.all (z5m ρ1) = true∧Ev (q3H tg t e vs ds) (q0B ρ1 vs) fun ys ρ2=>ys.length ≤ 100000∧P (.atm (.ol ys)) (q2h ρ1 (q0B ρ2 vs) vs):=by
 rw [Ev_yd,Ev_yd]
 unfold q3Q
 cases src ρ with
 | none=>exact Yd_none.trans Yd_none.symm
 | some x=>
  obtain ⟨ds,ρ1⟩:=x
  rw [Yd_some]; dsimp only
  rw [q0N,Ev_yd]
  refine and_congr_right fun _=>?_
  cases q3H tg t e vs ds (q0B ρ1 vs) with
  | none=>exact Yd_none.trans Yd_none.symm
  | some y=>rw [Yd_some]; dsimp only; rw [q0N,Yd_some]
theorem z1H {tg:Tg} {t:EM Bool} {e:EM Dat} {vs:List Nat} {P:List Dat→Rho→Prop}:Ev (q3H tg t e vs []) ρ P ↔ P [] ρ:=by
 rw [Ev_yd]; unfold q3H; rw [Yd_some]
theorem z1I {tg:Tg} {t:EM Bool} {e:EM Dat} {vs:List Nat} {d:Dat} {ds:List Dat} {P:List Dat→Rho→Prop}:Ev (q3H tg t e vs (d :: ds)) ρ P ↔ Yd (bdT tg d ρ) fun ρ1=>Ev t ρ1 fun b ρ2=>
  (b = true→Ev e ρ2 fun y ρ3=>Ev (q3H tg t e vs ds) (q0B ρ3 vs) fun ys ρ4=>P (y :: ys) ρ4)∧(b = false→Ev (q3H tg t e vs ds) (q0B ρ2 vs) P):=by
 rw [Ev_yd]; unfold q3H
 cases bdT tg d ρ with
 | none=>exact Yd_none.trans Yd_none.symm
 | some ρ1=>
  rw [Yd_some,Ev_yd]; dsimp only
  cases t ρ1 with
  | none=>exact Yd_none.trans Yd_none.symm
  | some x=>
   obtain ⟨b,ρ2⟩:=x
   rw [Yd_some]
   cases b with
   | false=>
    dsimp only
    refine Iff.trans Ev_yd.symm ?_
    exact ⟨fun h=>⟨(fun z=>nomatch z),fun _=>h⟩,fun h=>h.2 rfl⟩
   | true=>
    dsimp only
    refine Iff.trans ?_ (show Ev e ρ2 (fun y ρ3=>Ev (q3H tg t e vs ds) (q0B ρ3 vs) fun ys ρ4=>P (y :: ys) ρ4) ↔ _ from ⟨fun h=>⟨fun _=>h,(fun z=>nomatch z)⟩,fun h=>h.1 rfl⟩)
    rw [Ev_yd]
    cases e ρ2 with
    | none=>exact Yd_none.trans Yd_none.symm
    | some x=>
     obtain ⟨y,ρ3⟩:=x
     rw [Yd_some,Ev_yd]; dsimp only
     cases q3H tg t e vs ds (q0B ρ3 vs) with
     | none=>exact Yd_none.trans Yd_none.symm
     | some x=>rw [Yd_some,Yd_some]
theorem z4g {tg:Tg} {t:EM Bool} {e:EM Dat} {vs:List Nat} {P:List Dat→Rho→Prop} (enc:β→Dat) (xs:List β) (I:List β→List Dat→Rho→Prop) (h0:I [] [] ρ)
  (hs:∀ (pre:List β) (x:β) (post:List β) (ys:List Dat) (ρ:Rho),xs = pre ++ x :: post→I pre ys ρ→Yd (bdT tg (enc x) ρ) fun ρ1=>Ev t ρ1 fun b ρ2=>(b = true→Ev e ρ2 fun y ρ3=>I (pre ++ [x]) (ys ++ [y]) (q0B ρ3 vs))∧(b = false→I (pre ++ [x]) ys (q0B ρ2 vs)))
  (he:∀ ys ρ,I xs ys ρ→P ys ρ):Ev (q3H tg t e vs (xs.map enc)) ρ P:=by
 have key:∀ (zs pre:List β) (ys:List Dat) (ρ:Rho),xs = pre ++ zs→I pre ys ρ→Ev (q3H tg t e vs (zs.map enc)) ρ fun us ρ=>P (ys ++ us) ρ:=by
  intro zs
  induction zs with
  | nil=>
   intro pre ys ρ e h
   rw [Q0i] at e
   subst e
   rw [Q0w,z1H,Q0i]
   exact he ys ρ h
  | cons x zs ih=>
   intro pre ys ρ e h
   rw [Q0e,z1I]
   refine (hs pre x zs ys ρ e h).mono fun ρ1 q=>q.mono fun b r q=>⟨fun hb=>(q.1 hb).mono fun y r2 q=>?_,fun hb=>?_⟩
   ·exact (ih (pre ++ [x]) (ys ++ [y]) _ (by rw [e,Q0C]; rfl) q).mono fun us r3 q=>by rw [Q0C] at q; exact q
   ·exact ih (pre ++ [x]) ys _ (by rw [e,Q0C]; rfl) (q.2 hb)
 exact (key xs [] [] ρ rfl h0).mono fun us r q=>by rw [Q0u] at q; exact q
theorem q3R {tg:Tg} {t:EM Bool} {e:EM Dat} {vs:List Nat} {P:List Dat→Rho→Prop} (enc:β→Dat) (xs:List β) (p:β→Bool) (g:β→Dat)
  (hs:∀ x,x ∈ xs→Yd (bdT tg (enc x) ρ) fun ρ1=>Ev t ρ1 fun b ρ2=>b = p x∧(b = true→Ev e ρ2 fun y ρ3=>y = g x∧q0B ρ3 vs = ρ)∧(b = false→q0B ρ2 vs = ρ))
  (he:P ((xs.filter p).map g) ρ):Ev (q3H tg t e vs (xs.map enc)) ρ P:=by
 refine z4g enc xs (fun pre ys r=>ys = (pre.filter p).map g∧r = ρ) ⟨rfl,rfl⟩ ?_ (fun ys r h=>by rw [h.1,h.2]; exact he)
 rintro pre x post ys r hx ⟨rfl,rfl⟩
 refine (hs x (by rw [hx]; simp)).mono fun ρ1 q=>q.mono fun b r2 q=>?_
 obtain ⟨rfl,q1,q2⟩:=q
 refine ⟨fun hb=>(q1 hb).mono fun y r3 q=>?_,fun hb=>⟨?_,q2 hb⟩⟩
 ·obtain ⟨rfl,q⟩:=q
  refine ⟨?_,q⟩
  rw [Q3l,Q0D,Q2E hb]
  rfl
 ·rw [Q3l,Q3A (by rw [hb]; exact Q1z)]
  simp
theorem q3S {tg:Tg} {e:EM Dat} {vs:List Nat} {P:List Dat→Rho→Prop} (enc:β→Dat) (xs:List β) (g:β→Dat)
  (hs:∀ x,x ∈ xs→Yd (bdT tg (enc x) ρ) fun ρ1=>Ev e ρ1 fun y ρ3=>y = g x∧q0B ρ3 vs = ρ)
  (he:P (xs.map g) ρ):Ev (q3H tg z1y e vs (xs.map enc)) ρ P:=by
 refine q3R enc xs (fun _=>true) g (fun x hx=>(hs x hx).mono fun ρ1 q=>?_) (by rw [List.filter_eq_self.mpr fun _ _=>rfl]; exact he)
 rw [z3a]
 exact ⟨rfl,fun _=>q,fun z=>nomatch z⟩
theorem Ev_walk0 {tg:Tg} {t:EM Bool} {b:EM (List α)} {vs:List Nat} {P:List α→Rho→Prop}:Ev (q4x tg t b vs []) ρ P ↔ P [] ρ:=by
 rw [Ev_yd]; unfold q4x; rw [Yd_some]
theorem z9H {tg:Tg} {t:EM Bool} {e:EM (List α)} {vs:List Nat} {d:Dat} {ds:List Dat} {P:List α→Rho→Prop}:Ev (q4x tg t e vs (d :: ds)) ρ P ↔ Yd (bdT tg d ρ) fun ρ1=>Ev t ρ1 fun b ρ2=>
  (b = true→Ev e ρ2 fun y ρ3=>Ev (q4x tg t e vs ds) (q0B ρ3 vs) fun ys ρ4=>P (y ++ ys) ρ4)∧(b = false→Ev (q4x tg t e vs ds) (q0B ρ2 vs) P):=by
 rw [Ev_yd]; unfold q4x
 cases bdT tg d ρ with
 | none=>exact Yd_none.trans Yd_none.symm
 | some ρ1=>
  rw [Yd_some,Ev_yd]; dsimp only
  cases t ρ1 with
  | none=>exact Yd_none.trans Yd_none.symm
  | some x=>
   obtain ⟨b,ρ2⟩:=x
   rw [Yd_some]
   cases b with
   | false=>
    dsimp only
    refine Iff.trans Ev_yd.symm ?_
    exact ⟨fun h=>⟨(fun z=>nomatch z),fun _=>h⟩,fun h=>h.2 rfl⟩
   | true=>
    dsimp only
    refine Iff.trans ?_ (show Ev e ρ2 (fun y ρ3=>Ev (q4x tg t e vs ds) (q0B ρ3 vs) fun ys ρ4=>P (y ++ ys) ρ4) ↔ _ from ⟨fun h=>⟨fun _=>h,(fun z=>nomatch z)⟩,fun h=>h.1 rfl⟩)
    rw [Ev_yd]
    cases e ρ2 with
    | none=>exact Yd_none.trans Yd_none.symm
    | some x=>
     obtain ⟨y,ρ3⟩:=x
     rw [Yd_some,Ev_yd]; dsimp only
     cases q4x tg t e vs ds (q0B ρ3 vs) with
     | none=>exact Yd_none.trans Yd_none.symm
     | some x=>rw [Yd_some,Yd_some]
theorem x3u {tg:Tg} {t:EM Bool} {e:EM (List α)} {vs:List Nat} {P:List α→Rho→Prop} (enc:β→Dat) (xs:List β) (p:β→Bool) (g:β→List α)
  (hs:∀ x,x ∈ xs→Yd (bdT tg (enc x) ρ) fun ρ1=>Ev t ρ1 fun b ρ2=>b = p x∧(b = true→Ev e ρ2 fun y ρ3=>y = g x∧q0B ρ3 vs = ρ)∧(b = false→q0B ρ2 vs = ρ))
  (he:P ((xs.filter p).flatMap g) ρ):Ev (q4x tg t e vs (xs.map enc)) ρ P:=by
 induction xs generalizing P with
 | nil=>exact Ev_walk0.mpr he
 | cons x xs ih=>
  rw [Q0e,z9H]
  refine (hs x Q0g).mono fun ρ1 q=>q.mono fun b r2 q=>?_
  obtain ⟨rfl,q1,q2⟩:=q
  refine ⟨fun hb=>(q1 hb).mono fun y r3 q=>?_,fun hb=>?_⟩
  ·obtain ⟨rfl,q⟩:=q
   rw [q]
   refine ih (fun z hz=>hs z (Q0h _ hz)) ?_
   rw [Q2E hb] at he
   exact he
  ·rw [q2 hb]
   refine ih (fun z hz=>hs z (Q0h _ hz)) ?_
   rw [Q3A (by rw [hb]; exact Q1z)] at he
   exact he
theorem z9I {tg:Tg} {e:EM (List α)} {vs:List Nat} {P:List α→Rho→Prop} (enc:β→Dat) (xs:List β) (g:β→List α)
  (hs:∀ x,x ∈ xs→Yd (bdT tg (enc x) ρ) fun ρ1=>Ev e ρ1 fun y ρ3=>y = g x∧q0B ρ3 vs = ρ)
  (he:P (xs.flatMap g) ρ):Ev (q4x tg z1y e vs (xs.map enc)) ρ P:=by
 refine x3u enc xs (fun _=>true) g (fun x hx=>(hs x hx).mono fun ρ1 q=>?_) (by rw [List.filter_eq_self.mpr fun _ _=>rfl]; exact he)
 rw [z3a]
 exact ⟨rfl,fun _=>q,fun z=>nomatch z⟩
def j0e (P:Cell→Prop):Flw→Prop
 | .rt k _=>P k
 | .nx _=>P (.atm (.im .non))
 | _=>False
theorem q0u {P:Cell→Prop} {k:Cell}:j0e P (.rt k ρ) = P k:=rfl
theorem q0O {n nl:Nat} {s:SD} {ds:List Dat} {P:Cell→Prop}:Yd (fnP n nl s ds) P ↔ ds.length = n∧Rn s (ds.map imS ++ Q0p nl none) (j0e P):=by
 unfold fnP
 rw [q0N]
 refine and_congr_right fun _=>?_
 rw [q5Z]
 unfold x5J
 cases s (ds.map imS ++ Q0p nl none) with
 | none=>exact Yd_none.trans Yd_none.symm
 | some fl=>
  rw [Yd_some]
  cases fl with
  | rt k r=>exact Yd_some
  | nx r=>exact Yd_some
  | _=>exact Yd_none
def x8Z (P:Cell × Cell→Prop):Flw→Prop
 | .rt k (some s :: _)=>P (k,s.cell)
 | .nx (some s :: _)=>P (.atm (.im .non),s.cell)
 | _=>False
theorem q4f {P:Cell × Cell→Prop} {k:Cell} {s:Slot}:x8Z P (.rt k (some s :: ρ)) = P (k,s.cell):=rfl
theorem x3v {P:Cell × Cell→Prop} {s:Slot}:x8Z P (.nx (some s :: ρ)) = P (.atm (.im .non),s.cell):=rfl
theorem q6G {n nl:Nat} {s:SD} {o:Cell} {ds:List Dat} {P:Cell × Cell→Prop}:Yd (fnO n nl s o ds) P ↔ ds.length = n∧Rn s (some ⟨true,o⟩ :: (ds.map imS ++ Q0p nl none)) (x8Z P):=by
 unfold fnO
 rw [q0N]
 refine and_congr_right fun _=>?_
 rw [q5Z]
 unfold x5K
 cases s (some ⟨true,o⟩ :: (ds.map imS ++ Q0p nl none)) with
 | none=>exact Yd_none.trans Yd_none.symm
 | some fl=>
  rw [Yd_some]
  cases fl with
  | rt k r=>
   match r with
   | []=>exact Yd_none
   | none :: r=>exact Yd_none
   | some s :: r=>exact Yd_some
  | nx r=>
   match r with
   | []=>exact Yd_none
   | none :: r=>exact Yd_none
   | some s :: r=>exact Yd_some
  | _=>exact Yd_none

inductive Tmp:Option Slot→Prop
 | non:Tmp none
 | im {d:Dat}:Tmp (some ⟨false,.atm (.im d)⟩)
def q6a:Option Slot→Bool
 | some s=>s.pin
 | none=>false
def imB:Option Slot→Bool
 | some ⟨_,.atm (.im _)⟩=>true
 | none=>true
 | _=>false
theorem Tmp.pin {w:Option Slot} (h:Tmp w):q6a w = false:=by cases h <;> rfl
theorem Tmp.imB {w:Option Slot} (h:Tmp w):imB w = true:=by cases h <;> rfl
theorem q0q:q6a none = false:=rfl
theorem q5G {b:Bool} {k:Cell}:q6a (some ⟨b,k⟩) = b:=rfl
theorem z9J {d:Dat}:q6a (imS d) = false:=rfl
theorem q1u:imB none = true:=rfl
theorem x6v {b:Bool} {d:Dat}:imB (some ⟨b,.atm (.im d)⟩) = true:=rfl
theorem q0f {k:Cell} {w:Option Slot}:setS 0 k (w :: ρ) = if q6a w = true then none else some (some ⟨false,k⟩ :: ρ):=by
 unfold setS
 cases w with
 | none=>simp [q6a]
 | some s=>simp only [Q0a,q6a,Q0j]; congr
theorem q0g {i:Nat} {k:Cell} {w:Option Slot}:setS (i + 1) k (w :: ρ) = (setS i k ρ).map (w :: ·):=by
 unfold setS
 simp only [Q0b,Q0m]
 cases ρ[i]? with
 | none=>rfl
 | some o=>
  cases o with
  | none=>rfl
  | some s=>dsimp only; split <;> rfl
theorem q0V {w:Option Slot}:z5m (w :: ρ) 0 = imB w:=by
 unfold z5m
 match w with
 | none=>rfl
 | some ⟨_,.atm (.im _)⟩=>rfl
 | some ⟨_,.atm (.ol _)⟩=>rfl
 | some ⟨_,.atm (.od _ _)⟩=>rfl
 | some ⟨_,.atm (.ok _ _)⟩=>rfl
 | some ⟨_,.li _⟩=>rfl
 | some ⟨_,.di _ _⟩=>rfl
 | some ⟨_,.oi _ _ _⟩=>rfl
 | some ⟨_,.dk _ _⟩=>rfl
theorem q0W {i:Nat} {w:Option Slot}:z5m (w :: ρ) (i + 1) = z5m ρ i:=by
 unfold z5m; rw [Q0b]
theorem q0Z {i:Nat} {d:Dat}:bdT (.nm i) d ρ = setS i (.atm (.im d)) ρ:=by unfold bdT; rfl
theorem q5n {l:List Tg} {ds:List Dat}:bdT (.tp l) (.tup ds) ρ = z1o l ds ρ:=by unfold bdT; rfl
theorem q2K:z1o [] [] ρ = some ρ:=by unfold z1o; rfl
theorem q2a {t:Tg} {ts:List Tg} {d:Dat} {ds:List Dat}:z1o (t :: ts) (d :: ds) ρ = (bdT t d ρ).bind fun ρ'=>z1o ts ds ρ':=by
 rw [z1o]
 cases bdT t d ρ <;> rfl
theorem z6S {w:Option Slot} (h:q6a w = false):frzS 0 (w :: ρ) = (w.map Slot.frz) :: ρ:=by
 unfold frzS
 cases w with
 | none=>rfl
 | some s=>
  have e:s.pin = false:=h
  simp [e,Slot.frz]
theorem q5H {k:Cell}:frzS 0 (some ⟨false,k⟩ :: ρ) = some ⟨false,.atm (.im k.frz)⟩ :: ρ:=z6S rfl
theorem q3A {i:Nat} {w:Option Slot}:frzS (i + 1) (w :: ρ) = w :: frzS i ρ:=by
 unfold frzS
 simp only [Q0b,Q0m]
 cases ρ[i]? with
 | none=>rfl
 | some o=>
  cases o with
  | none=>rfl
  | some s=>dsimp only; split <;> rfl
theorem q8c:z8S [] = []:=rfl
theorem q6H {w:Option Slot}:z8S (w :: ρ) = (w.map Slot.frz) :: z8S ρ:=rfl
theorem z4h:Option.map Slot.frz none = none:=rfl
theorem z0A {d:Dat}:Option.map Slot.frz (imS d) = imS d:=rfl
theorem Tmp.frz {w:Option Slot} (h:Tmp w):Option.map Slot.frz w = w:=by cases h <;> rfl
end
end DL

namespace DL
variable [DL.Tbls]
open PySem PySem.Spec
open L2 (Key atI ixN)
section
variable {a b:Int} {x y:Str} {ds es:List Dat} {d e:Dat}
theorem q0s {b:Bool}:eBl (.bl b) = some b:=rfl
theorem q2b:x6u (.int a) = some a:=rfl
theorem q2c:z6P (.lst ds) = some ds:=rfl
theorem q1m:z6P (.tup ds) = some ds:=rfl
theorem z1J:x6t (.str x) = some (x.cps.toList.map fun k=>Dat.str ⟨#[k]⟩):=rfl
theorem z1K {k:Nat} {z:Str}:x6b (.str ⟨#[k]⟩) (.str z) = some (.bl (decide (k ∈ z.cps.toList))):=rfl
theorem z1L {a:Atom}:x3s (.atm a) = some a:=rfl
theorem z9K:j0d (.lst ds) = some ds.reverse:=rfl
theorem q0I {r:Dat→Option Dat}:q4X r [d] = r d:=rfl
theorem q0l {a:Atom}:Cell.frz (.atm a) = a.frz:=rfl
theorem q0y:Atom.frz (.im d) = d:=rfl
theorem q1v:Atom.frz (.ol ds) = .lst ds:=rfl
theorem q8d {b:Bool} {k:Cell}:Slot.frz ⟨b,k⟩ = ⟨b,.atm (.im k.frz)⟩:=rfl
theorem z0B:Dat.flat (.int a) = true:=rfl
theorem q3B {a:Atom}:x2T .here (.atm a) = some a:=rfl
theorem q3C {a b:Atom}:x4V .here a (.atm b) = .atm a:=rfl
theorem z9L {b:Bool}:z0x (some (some ⟨b,.atm (.ol ds)⟩)) = some (b,.ol ds):=rfl
theorem z9M:z2Y (.ol ds) = 1:=rfl
theorem x3w {c f:Str} {fs:List Str} {as:List Atom} {a:Atom}:x5c c f a (.oi c fs as) = if f ∉ fs∧fs.length = as.length∧fs.length < 100 then some (.oi c (fs ++ [f]) (as ++ [a])) else none:=by
 unfold x5c
 by_cases h:f ∉ fs∧fs.length = as.length∧fs.length < 100
 ·dsimp only; rw [if_pos h,if_pos ⟨rfl,h⟩]
 ·dsimp only; rw [if_neg h,if_neg fun z=>h z.2]
theorem q6f:Atom.own (.ol ds) = true:=rfl
theorem q3d:q5t (.int a) (.int b) = some (.int (a + b)):=rfl
theorem z4i:q5t (.str x) (.str y) = if x.length + y.length ≤ 1000000 then some (.str (x ++ y)) else none:=rfl
theorem q6I:q5t (.lst ds) (.lst es) = if ds.length + es.length ≤ 100000 then some (.lst (ds ++ es)) else none:=rfl
theorem z9N:x8t (.int a) (.int b) = some (.int (a - b)):=rfl
theorem q6J:z5X (.int a) (.int b) = if (-(2 ^ 64) < a∧a < 2 ^ 64)∨(-(2 ^ 64) < b∧b < 2 ^ 64) then some (.int (a * b)) else none:=rfl
theorem z0C:x4W (.int a) (.int b) = if 0 < b∧b < 1073741824 then some (.int (a / b)) else none:=rfl
theorem q8e:z5Y (.int a) (.int b) = if 0 < b then some (.int (a % b)) else none:=rfl
theorem z4j:x4X (.int a) (.int b) = if 0 ≤ b∧b ≤ 1000000∧a.natAbs < 2 ^ 64 then some (.int (a ^ b.toNat)) else none:=rfl
theorem q5T:x4Y (.int a) = some (.int (-a)):=rfl
theorem q3m {p:Int→Int→Bool}:z2U p (.int a) (.int b) = some (.bl (p a b)):=rfl
theorem q8f:z1p (.str x) = if x.length ≤ 1000000 then some (.int x.length) else none:=rfl
theorem q3n:z1p (.lst ds) = some (.int ds.length):=rfl
theorem q4u:z1p (.tup ds) = some (.int ds.length):=rfl
theorem q8g {ks:List Key}:z1p (.dic ks ds) = if ks.length = ds.length then some (.int ks.length) else none:=rfl
theorem q3e:z5p (.lst ds) = some (.tup ds):=rfl
theorem z9O:x5a (.lst ds) = some (.lst ds):=rfl
theorem z9P:x5a (.tup ds) = some (.lst ds):=rfl
theorem z9Q:x8S (.lst ds) = some (.lst ds.reverse):=rfl
theorem q8h:x8Y [.int a] = if -1000000 ≤ a∧a ≤ 1000000 then some (rgD a) else none:=rfl
theorem q4g:ixD (.lst ds) (.int a) = atI ds a:=rfl
theorem q2C:ixD (.tup ds) (.int a) = atI ds a:=rfl
theorem q8H {α:Type} {xs:List α} {i:Int} {n:Nat} {z:α} (h:i = (n:Int)) (e:xs[n]? = some z):atI xs i = some z:=by
 subst h
 have hl:=(Q0r.mp e).1
 unfold atI ixN
 rw [if_pos (Q3m n),if_pos (by exact Int.ofNat_lt.mpr hl)]
 exact e
theorem x3x {α:Type} {xs:List α} {n:Nat}:atI xs (n:Int) = xs[n]?:=by
 unfold atI ixN
 rw [if_pos (Q3m n)]
 split
 ·rfl
 ·rename_i h
  exact (Q2z.mpr (by omega)).symm
theorem q1K {α:Type} {xs:List α} {n:Nat}:atI xs (no_index (OfNat.ofNat n:Int)) = xs[n]?:=x3x
theorem x3y {d:Dat}:x2V (.ol (ds ++ [d])) [] = some (.ol ds,d):=by unfold x2V; simp
theorem z6T {i:Int}:q9I (.ol ds) [.int i] = if 0 ≤ i∧i < 100000 then (match ds[i.toNat]? with | some d=>some (.ol (ds.eraseIdx i.toNat),d) | none=>none) else none:=rfl
theorem q5I {lo hi:Option Int}:slD (.lst ds) lo hi = some (.lst (q6B ds lo hi)):=rfl
theorem x3z {lo hi:Option Int}:slD (.fro ds) lo hi = some (.lst (q6B ds lo hi)):=rfl
theorem z0D {lo hi:Option Int}:slD (.tup ds) lo hi = some (.tup (q6B ds lo hi)):=rfl
theorem q6n {n:Nat}:q6B ds none (some (n:Int)) = ds.take n:=by
 unfold q6B HT.sIx
 simp only [Q2m,Nat.sub_zero]
 by_cases h:n ≤ ds.length
 ·rw [if_neg (by omega)]; congr 1; omega
 ·rw [if_neg (by omega),Q1A (by omega),Q1A (by omega)]
theorem z9R {i:Int} (h:0 ≤ i):q6B ds none (some i) = ds.take i.toNat:=by
 have e:i = (i.toNat:Int):=by omega
 conv=>lhs; rw [e]
 exact q6n
theorem x3A:ltI a b = true ↔ a < b:=by unfold ltI; simp
theorem z0E:leI a b = true ↔ a ≤ b:=by unfold leI; simp
theorem z0F:gtI a b = true ↔ b < a:=by unfold gtI; simp
theorem x3B:geI a b = true ↔ b ≤ a:=by unfold geI; simp
theorem x3C:ltI a b = false ↔ b ≤ a:=by unfold ltI; simp
theorem z0G:leI a b = false ↔ b < a:=by unfold leI; simp
theorem z3c:gtI a b = false ↔ a ≤ b:=by unfold gtI; simp
theorem x3D:geI a b = false ↔ a < b:=by unfold geI; simp
theorem z6U:isN .non .non = some (.bl true):=rfl
theorem z6V:isN (.tup ds) .non = some (.bl false):=rfl
theorem q8i:x3d .non .non = some (.bl false):=rfl
theorem z0H:x3d (.tup ds) .non = some (.bl true):=rfl
theorem q8I:eqD (.int a) (.int b) = some (.bl (decide (a = b))):=rfl
theorem q5g:neD (.int a) (.int b) = some (.bl (!decide (a = b))):=rfl
theorem q4B:eqD (.str x) (.str y) = some (.bl (decide (x = y))):=rfl
theorem q5h:neD (.str x) (.str y) = some (.bl (!decide (x = y))):=rfl
theorem q8J {T:BT}:isT T (.int a) = some (.bl (match T with | .int=>true | _=>false)):=by cases T <;> rfl
theorem q6Z {T:BT}:isT T (.str x) = some (.bl (match T with | .str=>true | _=>false)):=by cases T <;> rfl
theorem q5J {T:BT}:isT T (.tup ds) = some (.bl (match T with | .tuple=>true | _=>false)):=by cases T <;> rfl
theorem z0I {T:BT}:isT T .non = some (.bl false):=rfl
theorem z4k {T:BT} {b:Bool}:isT T (.bl b) = some (.bl (match T with | .int | .bool=>true | _=>false)):=by cases T <;> rfl
theorem z0J {T:BT}:isT T (.lst ds) = some (.bl false):=rfl
theorem q2v:q3b (.ol ds) [d] = if ds.length < 100000 then some (.ol (ds ++ [d]),.non) else none:=rfl
theorem z4l {α:Type} (f:α→Bool):∀ xs:List α,z9p (xs.map fun x=>Dat.bl (f x)) = some (xs.map f)
 | []=>rfl
 | x :: xs=>by
  show (z9p (xs.map fun x=>Dat.bl (f x))).map (f x :: ·) = _
  rw [z4l f xs]; rfl
theorem z0K {α:Type} (f:α→Bool) (xs:List α):x3h (.lst (xs.map fun x=>Dat.bl (f x))) = some (.bl (xs.all f)):=by
 show (z9p _).map _ = _
 rw [z4l]
 simp [Q3n]
end

theorem z6W {i:Int} (h:i.natAbs < 10 ^ 100):(Str.ofString (toString i)).length ≤ 101:=by
 by_cases h0:0 ≤ i
 ·exact Q0S (Q2L h0 (k:=100) (by decide) (by omega)) (by decide)
 ·have e:toString i = "-" ++ toString (-i):=by
   cases i with
   | ofNat n=>exact absurd (Q3m n) h0
   | negSucc n=>
    show Int.repr (Int.negSucc n) = _
    rw [show -(Int.negSucc n) = ((n + 1:Nat):Int) from rfl]
    rfl
  have l:=Q2L (v:=-i) (by omega) (k:=100) (by decide) (by omega)
  rw [PyProof.Rows.ofString_length] at l ⊢
  rw [e,String.toList_append,Q0A]
  have:"-".toList.length = 1:=by decide
  omega
theorem z1M (ts:List Str):(tupleText ts).length ≤ piled ts + 4:=by
 unfold tupleText
 rw [strLen_append,strLen_append]
 have e1:((("(":String):Str)).length = 1:=rfl
 have e3:(((if ts.length == 1 then ",)" else ")":String):Str)).length ≤ 2:=by split <;> decide
 by_cases h:ts = []
 ·subst h
  have:(Str.join ", " []).length = 0:=rfl
  omega
 ·have:=join_length_add ts h
  omega
theorem q8K:∀ (ts:List Str) (k:Nat) (acc:Str),(textFrom k acc ts).length ≤ acc.length + piled ts
 | [],k,acc=>by show acc.length ≤ _; omega
 | t :: r,k,acc=>by
  show (textFrom (k + 1) (acc ++ (if k > 0 then ", " else "":String) ++ t) r).length ≤ _
  have h:=q8K r (k + 1) (acc ++ (if k > 0 then ", " else "":String) ++ t)
  rw [strLen_append,strLen_append] at h
  have e:(((if k > 0 then ", " else "":String)):Str).length ≤ 2:=by split <;> decide
  rw [piled_cons]
  omega
theorem z9S (ts:List Str):(listText ts).length ≤ piled ts + 2:=by
 unfold listText
 rw [strLen_append]
 have h:=q8K ts 0 "["
 have e1:((("[":String):Str)).length = 1:=rfl
 have e2:((("]":String):Str)).length = 1:=rfl
 omega
def rp (d:Dat):Str:=match q4W d with
 | some p=>p.shown
 | none=>("":Str)
end DL

namespace DL
variable [DL.Tbls]
open PySem PySem.Spec
open L2 (Key)
section
variable {ρ:Rho} {i:Nat}
end
end DL

namespace DL
variable [DL.Tbls]
open PySem PySem.Spec
def x9a:List Dat→Option (List Dat)
 | [.lst a]=>some a
 | _=>none
theorem z9T {ρ:Rho} {t:EM (List Dat)} {P:List Dat→Rho→Prop}:Ev (z9w t) ρ P ↔ Ev t ρ fun ds ρ1=>Yd (x9a ds) fun a=>P (q4z a) ρ1:=by
 unfold z9w; rw [q0w]
 refine q7x fun ds r=>?_
 unfold x9a
 split
 ·exact Ev_ret.trans (Yd_some (P:=fun a=>P (q4z a) r)).symm
 ·rename_i h1
  first
   | exact Ev_no.trans (Yd_none (P:=fun a=>P (q4z a) r)).symm
   | exact Ev_no.trans (by
     split
     ·exact absurd rfl (h1 _)
     ·exact (Yd_none (P:=fun a=>P (q4z a) r)).symm)
theorem z9U {a:List Dat}:x9a [.lst a] = some a:=rfl
end DL

namespace DL
variable [DL.Tbls]
open PySem PySem.Spec
def RnX (s:SX) (ρ:Rho) (P:Flx→Prop):Prop:=Yd (s ρ) P
section
variable {ρ:Rho}
theorem RnX.mono {s:SX} {P Q:Flx→Prop} (h:RnX s ρ P) (k:∀ a,P a→Q a):RnX s ρ Q:=Yd.mono h k
end
section
variable {ds es:List Dat} {x:Str} {a b:Int} {ks:List L2.Key}
theorem z0L {T:BT}:isT T (.dic ks ds) = some (.bl false):=rfl
theorem z0M:x6o (.lst ds) (.lst []) = some (.bl ds.isEmpty):=rfl
theorem z0N:x6p (.lst ds) (.lst []) = some (.bl (!ds.isEmpty)):=rfl
theorem z6X:z6L (.tup ds) (.tup es) = if ds.length + es.length ≤ 100000 then some (.tup (ds ++ es)) else none:=rfl
theorem x3E {k:Bool}:x8U (.bl k) = some (.int (if k then 1 else 0)):=rfl
end
mutual
def okD:Dat→Prop
 | .non=>True
 | .bl _=>True
 | .int i=>i.natAbs < 10 ^ 50
 | .str x=>x.length ≤ 60∧PyData.strOk x = true
 | .tup ds=>z8U ds
 | .lst ds=>z8U ds
 | .dic ks ds=>ks.length = ds.length∧(∀ k ∈ ks,∃ x:Str,k = .inr x∧x.length ≤ 10∧PyData.strOk x = true)∧z8U ds
 | .fro _=>False
 | .ins _ _ _=>False
 | .opq _=>False
 | .dix _ _=>False
def z8U:List Dat→Prop
 | []=>True
 | d :: ds=>okD d∧z8U ds
end
mutual
def wk:Dat→Nat
 | .tup ds=>wks ds + 1
 | .lst ds=>wks ds + 1
 | .dic ks ds=>wks ds + ds.length + 1
 | .non | .bl _ | .int _ | .str _ | .fro _ | .ins _ _ _ | .dix _ _ | .opq _=>1
def wks:List Dat→Nat
 | []=>0
 | d :: ds=>wk d + wks ds
end
mutual
def dp:Dat→Nat
 | .tup ds=>dps ds + 1
 | .lst ds=>dps ds + 1
 | .dic _ ds=>dps ds + 1
 | .non | .bl _ | .int _ | .str _ | .fro _ | .ins _ _ _ | .dix _ _ | .opq _=>0
def dps:List Dat→Nat
 | []=>0
 | d :: ds=>max (dp d) (dps ds)
end
theorem okDs_mem {ds:List Dat}:z8U ds ↔ ∀ d ∈ ds,okD d:=by
 induction ds with
 | nil=>simp [z8U]
 | cons d ds ih=>simp [z8U,ih]
theorem dps_le {ds:List Dat} {n:Nat}:dps ds ≤ n ↔ ∀ d ∈ ds,dp d ≤ n:=by
 induction ds with
 | nil=>simp [dps]
 | cons d ds ih=>simp only [dps,Q0s,forall_eq_or_imp,← ih]; omega
theorem q8L {x:Str} (h1:x.length ≤ 10) (h2:PyData.strOk x = true):(reprText x).length ≤ 102:=by
 have:=StrLaws.reprText_len x fun c hc=>by
  have z:∀ c ∈ x.cps,c < 0x110000:=fun c hc=>by
   have h2':x.cps.all (· < 0x110000) = true:=h2
   rw [Q2I] at h2'
   simpa using h2' c hc
  have:=z c (by simpa using hc)
  omega
 omega
theorem z3d {x:Str} (h1:x.length ≤ 60) (h2:PyData.strOk x = true):(reprText x).length ≤ 602:=by
 have:=StrLaws.reprText_len x fun c hc=>by
  have z:∀ c ∈ x.cps,c < 0x110000:=fun c hc=>by
   have h2':x.cps.all (· < 0x110000) = true:=h2
   rw [Q2I] at h2'
   simpa using h2' c hc
  have:=z c (by simpa using hc)
  omega
 omega
theorem z9V (ts:List Str):(dictText ts).length ≤ piled ts + 3:=by
 unfold dictText
 rw [strLen_append,strLen_append]
 have e1:((("{":String):Str)).length = 1:=rfl
 have e3:((("}":String):Str)).length = 1:=rfl
 by_cases h:ts = []
 ·subst h
  have:(Str.join ", " []).length = 0:=rfl
  omega
 ·have:=join_length_add ts h
  omega
theorem z3e {i:Int} (h:i.natAbs < 10 ^ 50):(Str.ofString (toString i)).length ≤ 101:=z6W (Q1y h (by decide +kernel))
mutual
theorem x6w:∀ d:Dat,okD d→∃ p,q3J d = some p∧p.showable = true∧p.depth = dp d∧p.shown.length + 2 ≤ 620 * wk d
 | .non,_=>⟨.none,rfl,rfl,rfl,by decide +kernel⟩
 | .bl b,_=>⟨.bool b,rfl,rfl,rfl,by cases b <;> decide +kernel⟩
 | .int i,h=>by
  refine ⟨.int i,rfl,?_,rfl,?_⟩
  ·show decide (i.natAbs.log2 < 1920) = true
   rw [decide_eq_true_eq]
   by_cases hz:i.natAbs = 0
   ·rw [hz]; decide
   ·exact (Nat.log2_lt hz).mpr (Q1y (show i.natAbs < 10 ^ 50 from h) (by decide +kernel))
  ·have:=z3e (show i.natAbs < 10 ^ 50 from h)
   show (Str.ofString (toString i)).length + 2 ≤ 620 * 1
   omega
 | .str x,h=>by
  obtain ⟨h1,h2⟩:x.length ≤ 60∧PyData.strOk x = true:=h
  refine ⟨.str x,rfl,rfl,rfl,?_⟩
  have:=z3d h1 h2
  show (reprText x).length + 2 ≤ 620 * 1
  omega
 | .tup ds,h=>by
  obtain ⟨ps,e,h2,h3,h4⟩:=z4m ds h
  refine ⟨.tuple ps,by unfold q3J; rw [e]; rfl,h2,?_,?_⟩
  ·show PyData.depthAll ps + 1 = dps ds + 1; rw [h3]
  ·show (tupleText (PyData.shownAll ps)).length + 2 ≤ 620 * (wks ds + 1)
   have:=z1M (PyData.shownAll ps)
   omega
 | .lst ds,h=>by
  obtain ⟨ps,e,h2,h3,h4⟩:=z4m ds h
  refine ⟨.list ps,by unfold q3J; rw [e]; rfl,h2,?_,?_⟩
  ·show PyData.depthAll ps + 1 = dps ds + 1; rw [h3]
  ·show (listText (PyData.shownAll ps)).length + 2 ≤ 620 * (wks ds + 1)
   have:=z9S (PyData.shownAll ps)
   omega
 | .dic ks ds,h=>by
  obtain ⟨hl,hk,hd⟩:=h
  obtain ⟨ps,e,h2,h3,h4⟩:=z4m ds hd
  have lp:=q6X e
  have key:∀ (ks:List L2.Key) (ps:List PyData),ks.length = ps.length→(∀ k ∈ ks,∃ x:Str,k = .inr x∧x.length ≤ 10∧PyData.strOk x = true)→PyData.showableAll ps = true →
    PyData.showableKv ((ks.map q6m).zip ps) = true∧PyData.depthKv ((ks.map q6m).zip ps) = PyData.depthAll ps∧piled (PyData.shownKv ((ks.map q6m).zip ps)) ≤ piled (PyData.shownAll ps) + 110 * ps.length:=by
   intro ks
   induction ks with
   | nil=>
    intro ps hl hk hs
    cases ps with
    | nil=>exact ⟨rfl,rfl,by decide +kernel⟩
    | cons _ _=>cases hl
   | cons k ks ih=>
    intro ps hl hk hs
    cases ps with
    | nil=>cases hl
    | cons p ps=>
     obtain ⟨x,rfl,x1,x2⟩:=hk k Q0g
     have hs':(p.showable && PyData.showableAll ps) = true:=hs
     rw [Q1l] at hs'
     obtain ⟨i1,i2,i3⟩:=ih ps (Q3c.inj hl) (fun k h=>hk k (Q0h _ h)) hs'.2
     refine ⟨?_,?_,?_⟩
     ·show ((PyData.str x).showable && p.showable && PyData.showableKv ((ks.map q6m).zip ps)) = true
      rw [hs'.1,i1]; rfl
     ·show max (max (PyData.str x).depth p.depth) (PyData.depthKv ((ks.map q6m).zip ps)) = max p.depth (PyData.depthAll ps)
      rw [i2,show (PyData.str x).depth = 0 from rfl]; omega
     ·show piled (((PyData.str x).shown ++ ": " ++ p.shown) :: PyData.shownKv ((ks.map q6m).zip ps)) ≤ piled (p.shown :: PyData.shownAll ps) + 110 * (ps.length + 1)
      rw [piled_cons,piled_cons,strLen_append,strLen_append]
      have e0:(((": ":String):Str)).length = 2:=rfl
      have e1:(PyData.str x).shown.length ≤ 102:=q8L x1 x2
      omega
  obtain ⟨k1,k2,k3⟩:=key ks ps (by rw [lp,hl]) hk h2
  refine ⟨.dict ((ks.map q6m).zip ps),by unfold q3J; rw [if_pos hl,e]; rfl,k1,?_,?_⟩
  ·show PyData.depthKv _ + 1 = dps ds + 1; rw [k2,h3]
  ·show (dictText (PyData.shownKv _)).length + 2 ≤ 620 * (wks ds + ds.length + 1)
   have:=z9V (PyData.shownKv ((ks.map q6m).zip ps))
   rw [lp] at k3
   omega
 | .fro _,h=>h.elim
 | .ins _ _ _,h=>h.elim
 | .opq _,h=>h.elim
 | .dix _ _,h=>h.elim
theorem z4m:∀ ds:List Dat,z8U ds→∃ ps,q2p ds = some ps∧PyData.showableAll ps = true∧PyData.depthAll ps = dps ds∧piled (PyData.shownAll ps) ≤ 620 * wks ds
 | [],_=>⟨[],rfl,rfl,rfl,by decide +kernel⟩
 | d :: ds,h=>by
  obtain ⟨h1,h2⟩:okD d∧z8U ds:=h
  obtain ⟨p,e,a2,a3,a4⟩:=x6w d h1
  obtain ⟨ps,e',b2,b3,b4⟩:=z4m ds h2
  refine ⟨p :: ps,by unfold q2p; rw [e,e'],?_,?_,?_⟩
  ·show (p.showable && PyData.showableAll ps) = true; rw [a2,b2]; rfl
  ·show max p.depth (PyData.depthAll ps) = max (dp d) (dps ds); rw [a3,b3]
  ·show piled (p.shown :: PyData.shownAll ps) ≤ 620 * (wk d + wks ds)
   rw [piled_cons]
   omega
end
def rt (d:Dat):Str:=match q3J d with
 | some p=>p.shown
 | none=>("":Str)
end DL

namespace DL
variable [DL.Tbls]
open PySem PySem.Spec
end DL

namespace DL
variable [DL.Tbls]
open PySem PySem.Spec L2
section
variable {X:Cx} {pins:List (Addr × Obj)} {σ:L2.St} {S H:Hp} {s:Shared}
mutual
theorem x1O (I:Inv X pins σ H s) (ex:Same S H):∀ (d:Dat) (v:V) (u:Value) (k:NestedKey),Rep (ct X) S v d→nkD d = some k→RelV v u→NestedIs s.heap k u
 | .int i,_,_,_,h,e,r=>by
  cases h; cases e
  obtain ⟨t,rfl⟩:=r
  exact .int _ _
 | .str x,_,_,_,h,e,r=>by
  cases h; cases e
  obtain ⟨t,rfl⟩:=r
  exact .text _ _
 | .tup ds,_,_,_,h,e,r=>by
  cases h with
  | tup h1 h2=>
   unfold nkD at e
   cases q:q6u ds with
   | none=>rw [q] at e; cases e
   | some ks=>
    rw [q] at e
    cases e
    cases r
    obtain ⟨its,rv,⟨o,ho,hc,n,hd⟩,_⟩:=I.tuple (q0S ex h1)
    exact .tup ho hc hd (by have:=z6Y I ex ds _ its ks h2 q rv; simpa using this)
 | .non,_,_,_,h,e,r=>by
  cases h; cases e
  obtain rfl:_ = Value.none:=r
  exact .none
 | .bl _,_,_,_,_,e,_ | .lst _,_,_,_,_,e,_ | .fro _,_,_,_,_,e,_ | .dic _ _,_,_,_,_,e,_ | .ins _ _ _,_,_,_,_,e,_ | .dix _ _,_,_,_,_,e,_ | .opq _,_,_,_,_,e,_=>by unfold nkD at e; cases e
theorem z6Y (I:Inv X pins σ H s) (ex:Same S H):∀ (ds:List Dat) (vs:List V) (us:List Value) (ks:List NestedKey),Reps (ct X) S vs ds→q6u ds = some ks→Vals vs us→NestedAll s.heap ks us
 | [],_,_,_,h,e,r=>by
  cases h; cases e; cases r
  exact .nil
 | d :: ds,_,_,_,h,e,r=>by
  cases h with
  | cons h1 h2=>
   cases r with
   | cons r1 r2=>
    unfold q6u at e
    split at e
    ·rename_i k ks e1 e2
     cases e
     exact .cons (x1O I ex d _ _ k h1 e1 r1) (z6Y I ex ds _ _ ks h2 e2 r2)
    ·cases e
end
theorem z0O {d:Dat} {k:NestedKey} (e:kyD d = some k):nkD d = some k∧k.depth ≤ 8∧∃ ds,d = .tup ds:=by
 unfold kyD at e
 split at e
 ·rename_i ks hk
  split at e
  ·rename_i hd
   cases e
   refine ⟨hk,hd,?_⟩
   cases d with
   | tup ds=>exact ⟨ds,rfl⟩
   | int i=>cases hk
   | str x=>cases hk
   | _=>unfold nkD at hk; cases hk
  ·cases e
 ·cases e
theorem q8M {v:V} {d:Dat} {k:NestedKey} {c:Ct} (h:Rep c S v d) (e:kyD d = some k):∃ b,v = .ref b:=by
 obtain ⟨_,_,ds,rfl⟩:=z0O e
 cases h
 exact ⟨_,rfl⟩
theorem q9P (I:Inv X pins σ H s) (ex:Same S H) {b:Addr} {d:Dat} {k:NestedKey} (h:Rep (ct X) S (.ref b) d) (e:kyD d = some k):(nestedKind X.prog X.w).is s.heap k b:=by
 obtain ⟨e1,e2,_⟩:=z0O e
 exact ⟨x1O I ex d _ _ k h e1 rfl,e2⟩
theorem z9W (I:Inv X pins σ H s) (ex:Same S H):∀ {xs:List q3O} {ks:List Dat},Reps (ct X) S (xs.map fun x=>V.ref x.2.1) ks→q6b ks = some (xs.map (·.1))→∀ x ∈ xs,(nestedKind X.prog X.w).is s.heap x.1 x.2.1:=by
 intro xs
 induction xs with
 | nil=>intro ks _ _ x hx; cases hx
 | cons y xs ih=>
  intro ks h e x hx
  cases h with
  | @cons _ _ d ds h1 h2=>
   unfold q6b at e
   split at e
   ·rename_i k ks' e1 e2
    rw [Q0e] at e
    cases e
    rcases Q0s.mp hx with rfl | hx
    ·exact q9P I ex h1 e1
    ·exact ih h2 e2 x hx
   ·cases e
theorem x3F {A:Around} (h:A.units + 64 < cLine):(nestedKind X.prog X.w).room A.in1:=by
 show A.units + 1 + 8 < cLine
 omega
theorem z4n (I:Inv X pins σ H s) (ex:Same S H) {a:Addr} {xs:List q3O} {ks:List Dat} (hd:Rd H a (KD X.prog X.w a xs)) (hr:Reps (ct X) S (xs.map fun x=>V.ref x.2.1) ks) (hk:q6b ks = some (xs.map (·.1))) :
  xs.length ≤ sizeLine∧(a == sysModules) = false∧∃ us,KX xs us∧s.heap.DictOfH (nestedKind X.prog X.w) a us:=by
 have q:=z9a I.hok hd
 exact ⟨q.1,q.2.1,x2G q (z9W I ex hr hk)⟩
theorem x6x {Q:Value→Shared→Prop} {A:Around} {E:Value→Shared→Prop} (hu:A.units + 64 < cLine) (I:Inv X pins σ H s) (ex:Same S H) {a b:Addr} {xs:List q3O} {ks:List Dat} (hd:Rd H a (KD X.prog X.w a xs)) (hr:Reps (ct X) S (xs.map fun x=>V.ref x.2.1) ks) (hk:q6b ks = some (xs.map (·.1)))
  {d:Dat} {k:NestedKey} (rb:Rep (ct X) S (.ref b) d) (ek:kyD d = some k) {v:V} (hv:q7U xs k = some v) (h:∀ w' s',Inv X pins σ H s'→RelV v w'→Q w' s'):wpAny (model X.prog X.w) A (getItem (.ref a) (.ref b)) Q E s:=by
 obtain ⟨_,_,us,r,dd⟩:=z4n I ex hd hr hk
 have q:=z6d r k
 rw [hv] at q
 cases hp:(atKey us k).map (·.2) with
 | none=>rw [hp] at q; exact q.elim
 | some w'=>
  rw [hp] at q
  obtain ⟨p,e1,rfl⟩:=Q0V.mp hp
  exact wpAny_getItem_heap (x3F hu) (q9P I ex rb ek) dd e1 (h _ _ (I.tok _) q)
theorem z9X {Q:Value→Shared→Prop} {A:Around} {E:Value→Shared→Prop} (hu:A.units + 64 < cLine) (I:Inv X pins σ H s) (ex:Same S H) {a b:Addr} {xs:List q3O} {ks:List Dat} (hd:Rd H a (KD X.prog X.w a xs)) (hr:Reps (ct X) S (xs.map fun x=>V.ref x.2.1) ks) (hk:q6b ks = some (xs.map (·.1)))
  {d:Dat} {k:NestedKey} (rb:Rep (ct X) S (.ref b) d) (ek:kyD d = some k) {z:V} {zu:Value} (rz:RelV z zu) (h:∀ w' s',Inv X pins σ H s'→RelV ((q7U xs k).getD z) w'→Q w' s'):wpAny (model X.prog X.w) A (call (.builtin "dict.get") [.ref a,.ref b,zu]) Q E s:=by
 obtain ⟨_,hy,us,r,dd⟩:=z4n I ex hd hr hk
 have q:=z6d r k
 refine call_meetsIn F.slot_dict_get dd.typeIs F.entry_dict_get (F.args_dict_get_3 _ _ _) (meetsH_dict_get_default (nestedKind X.prog X.w) a b hy zu) ⟨x3F hu,k,us,q9P I ex rb ek,dd,h _ _ (I.tok _) ?_⟩
 cases h1:q7U xs k with
 | none=>
  cases h2:(atKey us k).map (·.2) with
  | none=>exact rz
  | some _=>rw [h1,h2] at q; exact q.elim
 | some v=>
  cases h2:(atKey us k).map (·.2) with
  | none=>rw [h1,h2] at q; exact q.elim
  | some w'=>rw [h1,h2] at q; exact q
end
end DL

namespace DL
variable [DL.Tbls]
open PySem PySem.Spec L2
def x8u (c:Ct) (H:Hp) (a:Addr):Prop:=IsD H a∨∃ xs,Rd H a (KD c.P c.w a xs)
section
variable {X:Cx} {pins:List (Addr × Obj)} {σ:L2.St} {S H:Hp} {s:Shared} {a b:Addr}
theorem z6Z (I:Inv X pins σ H s) (d:x8u (ct X) H a):s.TypeIs (.ref a) "dict"∧(∀ b,Value.ref a = .ref b→∃ ob,s.heap.get? b = some ob∧ob.dict = none)∧(a == sysModules) = false:=by
 rcases d with d | ⟨xs,e⟩
 ·exact isD_at I d
 ·obtain ⟨_,hd,_,us,_,o,es,ep,h1,h2,_⟩:=z9a I.hok e
  refine ⟨⟨o,h1,h2.1⟩,fun b q=>?_,hd⟩
  cases q
  exact ⟨o,h1,h2.2.1⟩
theorem z0P (xs:List q3O) (k:NestedKey) (b:Addr) (v:V):(z0l xs k b v).length ≤ xs.length + 1:=by
 unfold z0l
 split
 ·rw [Q0f]; omega
 ·rw [Q0A]; exact Q0W _
theorem x3G {k:NestedKey} {d:Dat} {xs:List q3O} {ks:List Dat} {z:V} {r:Value} {Q:Value→Shared→Prop} {A:Around} {E:Value→Shared→Prop} (hu:A.units + 64 < cLine) (I:Inv X pins σ H s) (ex:Same S H) (e:H a = some (KD X.prog X.w a xs))
  (hr:Reps (ct X) S (xs.map fun x=>V.ref x.2.1) ks) (hk:q6b ks = some (xs.map (·.1))) (rb:Rep (ct X) S (.ref b) d) (ek:kyD d = some k) (rz:RelV z r) (hl:xs.length < sizeLine)
  (h1:∀ v,q7U xs k = some v→∀ (w':Value) (s':Shared),Inv X pins σ H s'→RelV v w'→Q w' s') (h2:q7U xs k = none→∀ (w':Value) (s':Shared),Inv X pins σ (upd H a (KD X.prog X.w a (z0l xs k b z))) s'→RelV z w'→Q w' s') :
  wpAny (model X.prog X.w) A (call (.builtin "dict.setdefault") [.ref a,.ref b,r]) Q E s:=by
 obtain ⟨hz,hy,us,rel,dd⟩:=z4n I ex (.inl e) hr hk
 have q:=z6d rel k
 have hlen:us.length = xs.length:=(Paired.length rel).symm
 refine call_setdefault_heap (hsz:=by rw [hlen]; exact hz) (x3F hu) (q9P I ex rb ek) hy dd (fun p hp=>?_) fun hn h' dd' hs=>?_
 ·rw [hp] at q
  cases h0:q7U xs k with
  | none=>rw [h0] at q; exact q.elim
  | some v=>rw [h0] at q; exact h1 v h0 _ _ (I.tok _) q
 ·rw [hn] at q
  cases h0:q7U xs k with
  | some v=>rw [h0] at q; exact q.elim
  | none=>
   have hl2:(z0l xs k b z).length ≤ sizeLine:=by have:=z0P xs k b z; omega
   have he:∃ q,h'.get? a = some q:=let ⟨q,_,_,hq,_⟩:=dd'; ⟨q,hq⟩
   exact h2 h0 _ _ (d_write (t':=_) I (by rw [e]; exact True.intro) hs he (z8Z (z6c (x1z rel rz) hl2 hy dd'))) rz
end
def x6y (c:Ct) (a:Addr) (y z:V) (H:Hp) (Q:VK):Prop:=
 (∃ kvs k,H a = some (.dK kvs)∧y = kV k∧kvs.length < sizeLine∧(∀ v,valV kvs k = some v→Q v H)∧(valV kvs k = none→Q z (upd H a (.dK (putK kvs k z))))) ∨
 (∃ S ks xs b d k,Same S H∧H a = some (KD c.P c.w a xs)∧Reps c S (xs.map fun x=>V.ref x.2.1) ks∧q6b ks = some (xs.map (·.1))∧y = .ref b∧Rep c S (.ref b) d∧kyD d = some k∧xs.length < sizeLine ∧
  (∀ v,q7U xs k = some v→Q v H)∧(q7U xs k = none→Q z (upd H a (KD c.P c.w a (z0l xs k b z)))))
def x9b (c:Ct) (td ty tx:TE):TE:=fun σ H Q=>td σ H fun x H1=>∃ a,x = .ref a∧x8u c H1 a∧ty σ H1 fun y H2=>tx σ H2 fun z H3=>x6y c a y z H3 Q
section
variable {X:Cx} {o e f:Expr} {td ty tx:TE} {apos cpos:Pos}
theorem z9Y (hu:X.A.units + 64 < cLine) (ho:PE X o td) (he:PE X e ty) (hf:PE X f tx) (m:M2 X o "setdefault" apos e f cpos):PE X (.Call (.Attribute o "setdefault" apos) [e,f] [] cpos) (x9b (ct X) td ty tx):=by
 refine ⟨fun pins s σ H Q I h=>?_⟩
 refine wpAny_Call_method m.base m.few m.line Q3B PySem.F.slot_dict_setdefault PySem.F.type_dict_setdefault (thn (ho.run pins s σ H _ I h) fun u s1 ⟨x,H1,I1,rx,a,ex,d,q1⟩=>?_)
 subst ex
 obtain rfl:u = Value.ref a:=rx
 obtain ⟨t1,t2,_⟩:=z6Z I1 d
 refine ⟨t1,t2,?_⟩
 rw [m.trees]
 refine Calls.callWith_builtin rfl (Calls.evalArgs_plain (Calls.spliced_cons (thn (he.run pins s1 σ H1 _ I1 q1) fun iv s2 ⟨y,H2,I2,ry,q2⟩=>
  Calls.spliced_cons (thn (hf.run pins s2 σ H2 _ I2 q2) fun fv s3 ⟨z,H3,I3,rz,q3⟩=>Calls.spliced_nil ?_))))
 rcases q3 with ⟨kvs,k,ea,ey,hl,q3,q4⟩ | ⟨S,ks,xs,b,dd,k,es,ea,hr,hk,ey,rb,ek,hl,q3,q4⟩
 ·subst ey
  exact d_setd I3 ea ry rz hl (fun v hv w' s4 I4 rw'=>⟨v,_,I4,rw',q3 v hv⟩) fun hn w' s4 I4 rw'=>⟨z,_,I4,rw',q4 hn⟩
 ·subst ey
  obtain rfl:iv = Value.ref b:=ry
  exact x3G hu I3 es ea hr hk rb ek rz hl (fun v hv w' s4 I4 rw'=>⟨v,_,I4,rw',q3 v hv⟩) fun hn w' s4 I4 rw'=>⟨z,_,I4,rw',q4 hn⟩
end
section
variable {c:Ct} {S H:Hp} {σ:L2.St} {ρ:Rho} {fps:List Addr}
theorem Good.aside (G:Good c S H σ ρ fps) {i:Nat} {s:Slot} (hs:ρ[i]? = some (some s)):∃ v fp f0,σ[i]? = some (some v)∧RepC c S H v s.cell fp∧fp.Nodup∧(∀ a ∈ fp,a ∉ f0∧S a = none) ∧
  ∀ Hm,(∀ a,a ∉ fp→H a ≠ none→Hm a = H a)→(∀ a,H a ≠ none→Hm a ≠ none)→Good c S Hm σ (ρ.set i none) f0 ∧
  ∀ S3 H3 ρ2 f2,Stp S Hm f0 S3 H3 f2→Good c S3 H3 σ ρ2 f2→ρ2[i]? = some none→∀ fp',fp'.Nodup→(∀ a ∈ fp',(a ∈ fp∨H a = none)∧Hm a ≠ none)→(∀ a ∈ fp',∀ o,Hm a = some o→NT o∧NC a o)→(∀ a ∈ fp',H3 a = Hm a∧S3 a = none) ∧
   ∀ H4 b k,(∀ a,a ∉ fp'→H4 a = H3 a)→(∀ a ∈ fp',H4 a ≠ none)→RepC c S3 H4 v k fp'→∃ f3,Good c S3 H4 σ (ρ2.set i (some ⟨b,k⟩)) f3∧Stp S H fps S3 H4 f3:=by
 obtain ⟨v,l,fp,r,e1,e2,h1,h2⟩:=G.rep.cut hs
 subst e2
 have nd:=G.nd
 have nfp:fp.Nodup:=by
  simp only [Q0E] at nd
  exact nd.2.1.1
 have dis:∀ a,a ∈ l ++ r→a ∉ fp:=fun a ha hb=>by
  simp only [Q0E,Q0k] at nd ha
  grind
 have nlr:(l ++ r).Nodup:=by
  simp only [Q0E,Q0k] at nd ⊢
  grind
 have inl:∀ a,a ∈ fp→a ∈ l ++ (fp ++ r):=fun a ha=>Q0l _ (Q0q _ ha)
 have inr:∀ a,a ∈ l ++ r→a ∈ l ++ (fp ++ r):=fun a ha=>by simp only [Q0k] at ha ⊢; grind
 refine ⟨v,fp,l ++ r,e1,h1,nfp,fun a ha=>⟨fun z=>dis a z ha,G.out a (inl a ha)⟩,fun Hm m1 m2=>?_⟩
 have gm:Good c S Hm σ (ρ.set i none) (l ++ r):=by
  refine ⟨fun a o q=>?_,h2.keep (Same.refl S) fun x hx=>m1 x (dis x hx) (h2.there x hx),nlr,fun a ha=>G.out a (inr a ha),q4q (fps:=fp) G.tb h1.nt (fun a o q n=>by rw [m1 a n (by rw [q]; exact fun z=>nomatch z)]; exact q) fun a q=>.inl q⟩
  have hH:=G.ex a o q
  rw [m1 a (fun z=>by rw [G.out a (inl a z)] at q; cases q) (by rw [hH]; exact fun z=>nomatch z)]
  exact hH
 refine ⟨gm,fun S3 H3 ρ2 f2 st G2 hn fp' nd' hf nt'=>?_⟩
 have nin:∀ a ∈ fp',a ∉ l ++ r:=fun a ha hb=>(hf a ha).1.elim (dis a hb) fun e=>by
  exact h2.there a hb e
 have kp:∀ a ∈ fp',H3 a = Hm a:=fun a ha=>by
  cases q:Hm a with
  | none=>exact absurd q (hf a ha).2
  | some o=>
   haveI:=(nt' a ha o q).1
   exact st.fr a o q (nin a ha)
 have sS:∀ a ∈ fp',S a = none:=fun a ha=>(hf a ha).1.elim (fun z=>G.out a (inl a z)) fun e=>G.ex.free e
 have nS:∀ a ∈ fp',S3 a = none:=fun a ha=>by
  cases q:S3 a with
  | none=>rfl
  | some o=>
   rcases st.ns a (by rw [q]; exact fun z=>nomatch z) with z | z | z
   ·exact absurd (sS a ha) z
   ·exact absurd z (nin a ha)
   ·exact absurd z (hf a ha).2
 have dj:∀ a ∈ f2,a ∉ fp':=fun a ha hb=>by
  rcases st.nf a ha with z | z
  ·exact nin a hb z
  ·exact (hf a hb).2 z
 refine ⟨fun a ha=>⟨kp a ha,nS a ha⟩,fun H4 b k h3 h4 rk=>?_⟩
 obtain ⟨l2,r2,e3,put⟩:=G2.rep.putC hn e1
 subst e3
 have z:=put S3 H4 b k fp' (Same.refl S3) (fun x hx=>h3 x (dj x hx)) rk
 have nd2:=G2.nd
 refine ⟨_,⟨fun a o q=>?_,z,?_,fun a ha=>?_,q4q (fps:=fp') G2.tb (fun a ha o e=>nt' a ha o (by rw [← kp a ha]; exact e)) (fun a o e n=>by rw [h3 a n]; exact e) fun a q=>.inl q⟩,⟨st.ss,fun a o q n=>?_,fun a q=>?_,fun a ha=>?_,fun a q=>?_⟩⟩
 ·by_cases w:a ∈ fp'
  ·rw [nS a w] at q; cases q
  ·rw [h3 a w]; exact G2.ex a o q
 ·simp only [Q0E,Q0k] at nd2 dj ⊢
  grind
 ·simp only [Q0k] at ha
  rcases ha with ha | ha | ha
  ·exact G2.out a (Q0q _ ha)
  ·exact nS a ha
  ·exact G2.out a (Q0l _ ha)
 ·intro _
  have n1:a ∉ fp:=fun w=>n (inl a w)
  have n2:a ∉ l ++ r:=fun w=>n (inr a w)
  have n3:a ∉ fp':=fun w=>(hf a w).1.elim n1 fun e=>by rw [e] at q; cases q
  rw [h3 a n3]
  refine st.fr a o ?_ n2
  rw [m1 a n1 (by rw [q]; exact fun z=>nomatch z)]
  exact q
 ·by_cases w:a ∈ fp'
  ·exact h4 a w
  ·rw [h3 a w]; exact st.dom a (m2 a q)
 ·have fin:∀ a,a ∈ l2 ++ r2→a ∈ l ++ (fp ++ r)∨H a = none:=fun a ha=>(st.nf a ha).elim (fun w=>.inl (inr a w)) fun w=>.inr (by
   cases q:H a with
   | none=>rfl
   | some o=>exact absurd w (m2 a (by rw [q]; exact fun z=>nomatch z)))
  simp only [Q0k] at ha
  rcases ha with ha | ha | ha
  ·exact (fin a (Q0q _ ha)).imp (fun w=>by simpa only [Q0k] using w) id
  ·exact (hf a ha).1.imp (inl a) id
  ·exact (fin a (Q0l _ ha)).imp (fun w=>by simpa only [Q0k] using w) id
 ·rcases st.ns a q with w | w | w
  ·exact .inl w
  ·exact .inr (.inl (inr a w))
  ·refine .inr (.inr ?_)
   cases q2:H a with
   | none=>rfl
   | some o=>exact absurd w (m2 a (by rw [q2]; exact fun z=>nomatch z))
end
end DL

namespace DL
variable [DL.Tbls]
open PySem PySem.Spec L2
def z1N (as:List Atom) (j:Nat) (d:Dat):Option (List Atom):=match as[j]? with
 | some (.ol es)=>if es.length < 100000 then some (as.set j (.ol (es ++ [d]))) else none
 | _=>none
def x3H:Cell→Dat→Dat→Option Cell
 | .di ks as,y,d=>match z5W y with
  | some k=>if ks.length = as.length∧ks.length < 100000 then (match ks.findIdx? fun z=>decide (z = k) with
    | some j=>(z1N as j d).map (.di ks)
    | none=>some (.di (ks ++ [k]) (as ++ [.ol [d]]))) else none
  | none=>none
 | .dk ks as,y,d=>match kyD y with
  | some k=>if ks.length = as.length∧ks.length < 100000 then (match ks.findIdx? fun z=>decide (kyD z = some k) with
    | some j=>(z1N as j d).map (.dk ks)
    | none=>some (.dk (ks ++ [y]) (as ++ [.ol [d]]))) else none
  | none=>none
 | _,_,_=>none
def x8v:Cell→Bool
 | .di _ _=>true
 | .dk _ _=>true
 | _=>false
theorem z0Q {k:Key}:∀ {ks:List Key} {xs:List V} {j:Nat},ks.length = xs.length→(ks.findIdx? fun z=>decide (z = k)) = some j→∃ v,xs[j]? = some v∧valV (ks.zip xs) k = some v
 | [],xs,j,_,h=>by simp at h
 | a :: ks,[],j,e,h=>by simp at e
 | a :: ks,x :: xs,j,e,h=>by
  rw [Q1p] at h
  by_cases z:a = k
  ·rw [if_pos (by simpa using z)] at h
   cases h
   exact ⟨x,rfl,valV_pos (p:=(a,x)) z⟩
  ·rw [if_neg (by simpa using z)] at h
   obtain ⟨i,hi,rfl⟩:=Q0V.mp h
   obtain ⟨v,h1,h2⟩:=z0Q (Q3c.inj e) hi
   exact ⟨v,by simpa using h1,by rw [Q0L,valV_neg (p:=(a,x)) z]; exact h2⟩
theorem z1O {k:Key}:∀ {ks:List Key} {xs:List V},(ks.findIdx? fun z=>decide (z = k)) = none→valV (ks.zip xs) k = none
 | [],xs,_=>rfl
 | a :: ks,[],h=>rfl
 | a :: ks,x :: xs,h=>by
  rw [Q1p] at h
  by_cases z:a = k
  ·rw [if_pos (by simpa using z)] at h; cases h
  ·rw [if_neg (by simpa using z)] at h
   rw [Q0L,valV_neg (p:=(a,x)) z]
   exact z1O (Q2o.mp h)
theorem kys_cons {d:Dat} {ds:List Dat} {r:NestedKey} {rs:List NestedKey}:q6b (d :: ds) = some (r :: rs) ↔ kyD d = some r∧q6b ds = some rs:=by
 rw [q6b]
 cases h1:kyD d with
 | none=>simp
 | some k=>
  cases h2:q6b ds with
  | none=>simp
  | some ks=>simp
theorem q8N {k:NestedKey}:∀ {ks:List Dat} {rs:List q3O} {j:Nat},q6b ks = some (rs.map (·.1))→(ks.findIdx? fun z=>decide (kyD z = some k)) = some j→∃ v,(rs.map (·.2.2))[j]? = some v∧q7U rs k = some v
 | [],rs,j,_,h=>by simp at h
 | d :: ks,[],j,e,h=>by
  rw [q6b] at e
  split at e
  ·cases e
  ·cases e
 | d :: ks,r :: rs,j,e,h=>by
  obtain ⟨e1,e2⟩:=kys_cons.mp e
  rw [Q1p] at h
  by_cases z:r.1 = k
  ·rw [if_pos (by simpa [e1] using z)] at h
   cases h
   refine ⟨r.2.2,rfl,?_⟩
   unfold q7U
   rw [Q1R (by simpa using z)]; rfl
  ·rw [if_neg (by simpa [e1] using z)] at h
   obtain ⟨i,hi,rfl⟩:=Q0V.mp h
   obtain ⟨v,h1,h2⟩:=q8N e2 hi
   refine ⟨v,by simpa using h1,?_⟩
   unfold q7U at h2 ⊢
   rw [Q2n (by simpa using z)]
   exact h2
theorem q6K {k:NestedKey}:∀ {ks:List Dat} {rs:List q3O},q6b ks = some (rs.map (·.1))→(ks.findIdx? fun z=>decide (kyD z = some k)) = none→q7U rs k = none
 | ks,[],_,_=>rfl
 | [],r :: rs,e,_=>by cases e
 | d :: ks,r :: rs,e,h=>by
  obtain ⟨e1,e2⟩:=kys_cons.mp e
  rw [Q1p] at h
  by_cases z:r.1 = k
  ·rw [if_pos (by simpa [e1] using z)] at h; cases h
  ·rw [if_neg (by simpa [e1] using z)] at h
   have:=q6K e2 (Q2o.mp h)
   unfold q7U at this ⊢
   rw [Q2n (by simpa using z)]
   exact this
theorem z0R {rs:List q3O} {k:NestedKey} {b:Addr} {v:V} (h:q7U rs k = none):z0l rs k b v = rs ++ [(k,b,v)]:=by
 unfold z0l
 rw [if_neg]
 intro z
 unfold q7U at h
 rw [Q2o,Q1U] at h
 obtain ⟨x,hx,e⟩:=Q2W.mp z
 exact h x hx e
theorem q8j {d:Dat} {k:NestedKey} (e:kyD d = some k):∀ {ks:List Dat} {rs:List NestedKey},q6b ks = some rs→q6b (ks ++ [d]) = some (rs ++ [k])
 | [],rs,h=>by cases h; exact kys_cons.mpr ⟨e,rfl⟩
 | a :: ks,rs,h=>by
  cases rs with
  | nil=>
   rw [q6b] at h
   split at h
   ·cases h
   ·cases h
  | cons r rs=>
   obtain ⟨h1,h2⟩:=kys_cons.mp h
   exact kys_cons.mpr ⟨h1,q8j e h2⟩
theorem z7a:∀ {ks:List Dat} {rs:List NestedKey},q6b ks = some rs→ks.length = rs.length
 | [],rs,h=>by cases h; rfl
 | a :: ks,rs,h=>by
  cases rs with
  | nil=>
   rw [q6b] at h
   split at h
   ·cases h
   ·cases h
  | cons r rs=>
   obtain ⟨h1,h2⟩:=kys_cons.mp h
   rw [Q0d,Q0d,z7a h2]
section
variable {c:Ct} {S H:Hp} {a q0:Addr} {yv:V} {y d:Dat} {k k3:Cell} {fp:List Addr} {Q:VK}
theorem z5t {as as3:List Atom} {j:Nat} (h:z1N as j d = some as3):∃ es,as[j]? = some (.ol es)∧es.length < 100000∧as3 = as.set j (.ol (es ++ [d])):=by
 unfold z1N at h
 split at h
 ·rename_i es he
  split at h
  ·rename_i hl
   cases h
   exact ⟨es,he,hl,rfl⟩
  ·cases h
 ·cases h
theorem z9Z (ex:Same S H) (hc:RepC c S H (.ref a) k fp) (nd:fp.Nodup) (ry:Rep c S yv y) (e:x3H k y d = some k3) (h0:H q0 = none)
  (hF:∀ q xs,q ∈ fp→H q = some (.lst xs)→xs.length < sizeLine→(∀ S3 H4 w,Same S S3→(∀ x ∈ fp,x ≠ q→H4 x = H x)→Rep c S3 w d→H4 q = some (.lst (xs ++ [w]))→RepC c S3 H4 (.ref a) k3 fp)→Q (.ref q) (upd H q0 (.lst [])))
  (hN:∀ o,a ∈ fp→NT o∧NC a o→(∀ S3 H4 w,Same S S3→H4 a = some o→(∀ x ∈ fp,x ≠ a→H4 x = H x)→H4 q0 = some (.lst [w])→Rep c S3 w d→RepC c S3 H4 (.ref a) k3 (fp ++ [q0]))→Q (.ref q0) (upd (upd H q0 (.lst [])) a o)) :
  x6y c a yv (.ref q0) (upd H q0 (.lst [])) Q:=by
 have sw:∀ {rs:List V} {as as3:List Atom} {fps:List Addr} {j:Nat},RepAs c S H rs as fps→fps.Nodup→z1N as j d = some as3→∃ q xs,rs[j]? = some (.ref q)∧q ∈ fps∧H q = some (.lst xs)∧xs.length < sizeLine ∧
   ∀ S3 H4 w,Same S S3→(∀ x ∈ fps,x ≠ q→H4 x = H x)→Rep c S3 w d→H4 q = some (.lst (xs ++ [w]))→RepAs c S3 H4 rs as3 fps:=by
  intro rs as as3 fps j hr hnd ha
  obtain ⟨es,he,hl,rfl⟩:=z5t ha
  obtain ⟨q,e1,e2,put⟩:=hr.pick hnd he rfl
  have r0:=(put S H (Same.refl S) fun _ _=>rfl).1
  cases r0 with
  | @ol _ xs _ h1 h2=>
   refine ⟨q,xs,e1,e2,h1,by rw [h2.length]; exact q9F hl,fun S3 H4 w ss ag rw hq=>?_⟩
   have p2:=(put S3 (fun x=>if x = q then H q else H4 x) ss fun x hx=>by
    by_cases z:x = q
    ·rw [if_pos z,z]
    ·rw [if_neg z]; exact ag x hx z).2 (.lst (xs ++ [w])) (.ol (es ++ [d])) (.ol upd_same ((h2.mono ss).app (.cons rw .nil)))
   refine p2.keep (Same.refl S3) fun x hx=>?_
   by_cases z:x = q
   ·rw [z,upd_same]; exact hq
   ·rw [upd_ne z,if_neg z]
 have snoc:∀ {rs:List V} {as:List Atom} {fps:List Addr},RepAs c S H rs as fps→a ∉ fps→∀ S3 H4 w,Same S S3→(∀ x ∈ a :: fps,x ≠ a→H4 x = H x)→H4 q0 = some (.lst [w])→Rep c S3 w d→RepAs c S3 H4 (rs ++ [.ref q0]) (as ++ [.ol [d]]) (fps ++ [q0]):=by
  intro rs as fps hr hna S3 H4 w ss ag hq rw
  exact (hr.keep ss fun x hx=>ag x (Q0h _ hx) fun z=>hna (z ▸ hx)).snoc (.ol hq (.cons rw .nil))
 cases hc with
 | @di p ks xs as fps h1 h2 h3=>
  unfold x3H at e
  dsimp only at e
  have n2:=Q0P.mp nd
  have hne:a ≠ q0:=fun z=>by rw [← z,h1] at h0; cases h0
  split at e
  ·rename_i key hk
   split at e
   ·rename_i hl
    have hy:=q6A ry hk
    have hz:(ks.zip xs).length < sizeLine:=by rw [Q3f,← h2,Q3P]; exact q9F hl.2
    refine .inl ⟨ks.zip xs,key,by rw [upd_ne hne]; exact h1,hy,hz,?_,?_⟩
    ·intro v hv
     split at e
     ·rename_i j hj
      obtain ⟨as3,e1,rfl⟩:=Q0V.mp e
      obtain ⟨v',g1,g2⟩:=z0Q h2 hj
      rw [g2] at hv; cases hv
      obtain ⟨q,zs,e2,e3,e4,e5,e6⟩:=sw h3 n2.2 e1
      rw [g1] at e2; cases e2
      have hqa:a ≠ q:=fun z=>n2.1 (z ▸ e3)
      exact hF q zs (Q0h _ e3) e4 e5 fun S3 H4 w ss ag rw hq=>.di ((ag a Q0g hqa).trans h1) h2 (e6 S3 H4 w ss (fun x hx=>ag x (Q0h _ hx)) rw hq)
     ·rename_i hj
      rw [z1O hj] at hv; cases hv
    ·intro hv
     split at e
     ·rename_i j hj
      obtain ⟨v',g1,g2⟩:=z0Q h2 hj
      rw [g2] at hv; cases hv
     ·rename_i hj
      cases e
      refine hN _ Q0g ⟨inferInstance,inferInstance⟩ fun S3 H4 w ss hA ag hq rw=>?_
      have hp:putK (ks.zip xs) key (.ref q0) = (ks ++ [key]).zip (xs ++ [.ref q0]):=by
       rw [putK_new _ hv,List.zip_append h2]; rfl
      rw [hp] at hA
      exact .di hA (by simp [h2]) (snoc h3 n2.1 S3 H4 w ss ag hq rw)
   ·cases e
  ·cases e
 | @dk p rs ks as fps h1 h2 h3 h4=>
  unfold x3H at e
  dsimp only at e
  have n2:=Q0P.mp nd
  have hne:a ≠ q0:=fun z=>by rw [← z,h1] at h0; cases h0
  split at e
  ·rename_i key hk
   split at e
   ·rename_i hl
    obtain ⟨b,rfl⟩:=q8M ry hk
    have hz:rs.length < sizeLine:=by
     have:=z7a h3
     rw [Q0f] at this
     rw [← this]; exact q9F hl.2
    refine .inr ⟨S,ks,rs,b,y,key,ex.trans (q2i h0),by rw [upd_ne hne]; exact h1,h2,h3,rfl,ry,hk,hz,?_,?_⟩
    ·intro v hv
     split at e
     ·rename_i j hj
      obtain ⟨as3,e1,rfl⟩:=Q0V.mp e
      obtain ⟨v',g1,g2⟩:=q8N h3 hj
      rw [g2] at hv; cases hv
      obtain ⟨q,zs,e2,e3,e4,e5,e6⟩:=sw h4 n2.2 e1
      rw [g1] at e2; cases e2
      have hqa:a ≠ q:=fun z=>n2.1 (z ▸ e3)
      exact hF q zs (Q0h _ e3) e4 e5 fun S3 H4 w ss ag rw hq=>.dk ((ag a Q0g hqa).trans h1) (h2.mono ss) h3 (e6 S3 H4 w ss (fun x hx=>ag x (Q0h _ hx)) rw hq)
     ·rename_i hj
      rw [q6K h3 hj] at hv; cases hv
    ·intro hv
     split at e
     ·rename_i j hj
      obtain ⟨v',g1,g2⟩:=q8N h3 hj
      rw [g2] at hv; cases hv
     ·rename_i hj
      cases e
      refine hN _ Q0g ⟨inferInstance,inferInstance⟩ fun S3 H4 w ss hA ag hq rw=>?_
      rw [z0R hv] at hA
      refine .dk hA ?_ ?_ ?_
      ·rw [Q0D]
       exact (h2.mono ss).app (.cons (ry.mono ss) .nil)
      ·rw [Q0D]
       exact q8j hk h3
      ·rw [Q0D]
       exact snoc h4 n2.1 S3 H4 w ss ag hq rw
   ·cases e
  ·cases e
 | _=>cases e
theorem x0a (g:x8v k = true) {v:V} (hc:RepC c S H v k fp):∃ a,v = .ref a∧x8u c H a:=by
 cases hc with
 | di h1 h2 h3=>exact ⟨_,rfl,.inl (.inl ⟨_,.inl h1⟩)⟩
 | dk h1 h2 h3 h4=>exact ⟨_,rfl,.inr ⟨_,.inl h1⟩⟩
 | _=>cases g
end
end DL

namespace DL
variable [DL.Tbls]
open PySem PySem.Spec L2
def q7a (i:Nat) (g f:EM Dat):EM Dat:=fun ρ=>match ρ[i]? with
 | some (some s0)=>if x8v s0.cell = true then (match g ρ with
  | some (y,ρ1)=>match ρ1[i]? with
   | some (some s)=>match f (ρ1.set i none) with
    | some (d,ρ2)=>match ρ2[i]? with
     | some none=>match x3H s.cell y d with
      | some k3=>some (.non,ρ2.set i (some ⟨s.pin,k3⟩))
      | none=>none
     | _=>none
    | none=>none
   | _=>none
  | none=>none) else none
 | _=>none
section
variable {X:Cx} {b e:Expr} {pos apos ipos iapos lpos npos:Pos} {g f:EM Dat} {j:Nat}
theorem z7b (i:Nat) {x:Str} (R:Rm X.A j) (hb:XE X b g) (he:XE X e f) (hN:X.N[i]? = some x:=by rfl) (hv:Vis X.env.scope x:=by first | exact Or.inl rfl | exact Or.inr (Or.inl rfl) | exact Or.inr (Or.inr rfl)) (hd:(x == ("__debug__":Str)) = false:=by decide)
  (hcd:(x == ("__classdict__":Str)) = false:=by decide) (m:M2 X (.Name x npos) "setdefault" iapos b (.List [] lpos) ipos:=by exact ⟨rfl,rfl,rfl,rfl⟩)
  (hbase:attributeBase (.Call (.Attribute (.Name x npos) "setdefault" iapos) [b,.List [] lpos] [] ipos) "append" X.env (eval (.Call (.Attribute (.Name x npos) "setdefault" iapos) [b,.List [] lpos] [] ipos) X.env) = eval (.Call (.Attribute (.Name x npos) "setdefault" iapos) [b,.List [] lpos] [] ipos) X.env:=by rfl)
  (hfew:((backTo pos (starEach [e] X.env)).all (fun x=>!x.1) && (backToKw pos (jbi [] X.env)).all (fun x=>x.1.isSome)
   && decide (([e]:List Expr).length + ([]:List Keyword).length + (if ([]:List Keyword).isEmpty then 0 else 1) < 30)) = true:=by rfl)
  (hline:(apos.endLine == pos.line) = true:=by rfl) (hs:starEach [e] X.env = (false,eval e X.env) :: starEach [] X.env:=by rfl) (hplain:(backTo pos (starEach [] X.env)).any (·.1) = false:=by rfl) :
  XE X (.Call (.Attribute (.Call (.Attribute (.Name x npos) "setdefault" iapos) [b,.List [] lpos] [] ipos) "append" apos) [e] [] pos) (q7a i g f):=
 (pe_bm Q0T Q0Z Q1a mt_append (z9Y R.u64 (pe_var (i:=i) hN hv hd hcd) hb (pe_lst pa_nil) m) (pa_cons he pa_nil hs) hbase hfew hline hs hplain).imp fun σ H Q ⟨S,ρ,fps,d0,ρ',G,e0,q⟩=>by
  unfold q7a at e0
  split at e0
  ·rename_i s0 hs0
   split at e0
   ·rename_i hgr
    split at e0
    ·rename_i y ρ1 hg
     split at e0
     ·rename_i s hs1
      split at e0
      ·rename_i d ρ2 hf
       split at e0
       ·rename_i hn
        split at e0
        ·rename_i k3 hk3
         cases e0
         obtain ⟨v0,l0,fp0,r0,ev0,_,hc0,_⟩:=G.rep.at hs0
         obtain ⟨a,rfl,hdd⟩:=x0a hgr hc0
         refine ⟨.ref a,ev0,a,rfl,hdd,S,ρ,fps,y,ρ1,G,hg,fun S1 H1 f1 st1 pn1 G1 yv ry=>⟨by exact Q1H _,fun q0 hq0=>?_⟩⟩
         obtain ⟨v1,fp,f0,ev1,hc,nd,hfo,rest⟩:=G1.aside hs1
         rw [ev0] at ev1
         cases ev1
         refine z9Z G1.ex hc nd ry hk3 hq0 (fun q1 xs hq1 hx hl hrep=>?_) fun o ha hno hrep=>?_
         ·-- the list stands there
          have hq10:q1 ≠ q0:=fun z=>by rw [z,hq0] at hx; cases hx
          have hm1:∀ x,x ∉ fp→H1 x ≠ none→upd H1 q0 (.lst []) x = H1 x:=fun x _ hx'=>upd_ne fun z=>hx' (by rw [z]; exact hq0)
          have hm2:∀ x,H1 x ≠ none→upd H1 q0 (.lst []) x ≠ none:=fun x hx'=>by rw [upd_ne fun z=>hx' (by rw [z]; exact hq0)]; exact hx'
          obtain ⟨G0,rest2⟩:=rest (upd H1 q0 (.lst [])) hm1 hm2
          refine ⟨.inl ⟨rfl,xs,SqL.of (by rw [upd_ne hq10]; exact hx)⟩,S1,_,f0,d,ρ2,G0,hf,fun S3 H3 f3 st3 pn3 G3 w rw'=>?_⟩
          obtain ⟨kp,fin⟩:=rest2 S3 H3 ρ2 f3 st3 G3 hn fp nd (fun x hx'=>⟨.inl hx',by
           have:=hc.there x hx'
           exact hm2 x this⟩) fun x hx' o' e=>hc.nt x hx' o' (by rw [← e]; exact (upd_ne fun z=>hc.there x hx' (by rw [z]; exact hq0)).symm)
          have h3q:H3 q1 = some (.lst xs):=by rw [(kp q1 hq1).1,upd_ne hq10]; exact hx
          refine ⟨q1,xs,w,rfl,rfl,h3q,hl,?_⟩
          have rk:RepC (ct X) S3 (upd H3 q1 (.lst (xs ++ [w]))) (.ref a) k3 fp:=hrep S3 _ w st3.ss (fun x hx' hne=>by
           rw [upd_ne hne,(kp x hx').1,upd_ne fun z=>by rw [z] at hx'; exact hc.there q0 hx' hq0]) rw' upd_same
          obtain ⟨f4,G4,st4⟩:=fin (upd H3 q1 (.lst (xs ++ [w]))) s.pin k3 (fun x hx'=>upd_ne fun z=>hx' (by rw [z]; exact hq1)) (fun x hx'=>by
           by_cases z:x = q1
           ·rw [z,upd_same]; exact fun z=>nomatch z
           ·rw [upd_ne z,(kp x hx').1]; exact hm2 x (hc.there x hx')) rk
          exact q S3 _ f4 (st1.trans st4) (pn1.trans (PinR.back hs1 pn3)) G4 _ .non
         ·-- a new entry
          have hqa:a ≠ q0:=fun z=>by rw [z] at ha; exact hc.there q0 ha hq0
          have hq0f:q0 ∉ fp:=fun z=>hc.there q0 z hq0
          have hm1:∀ x,x ∉ fp→H1 x ≠ none→upd (upd H1 q0 (.lst [])) a o x = H1 x:=fun x hx1 hx'=>by
           rw [upd_ne fun z=>hx1 (by rw [z]; exact ha),upd_ne fun z=>hx' (by rw [z]; exact hq0)]
          have hm2:∀ x,H1 x ≠ none→upd (upd H1 q0 (.lst [])) a o x ≠ none:=fun x hx'=>by
           by_cases z:x = a
           ·rw [z,upd_same]; exact fun z=>nomatch z
           ·rw [upd_ne z,upd_ne fun z=>hx' (by rw [z]; exact hq0)]; exact hx'
          obtain ⟨G0,rest2⟩:=rest (upd (upd H1 q0 (.lst [])) a o) hm1 hm2
          have hq0m:upd (upd H1 q0 (.lst [])) a o q0 = some (.lst []):=by rw [upd_ne hqa.symm,upd_same]
          refine ⟨.inl ⟨rfl,[],SqL.of hq0m⟩,S1,_,f0,d,ρ2,G0,hf,fun S3 H3 f3 st3 pn3 G3 w rw'=>?_⟩
          obtain ⟨kp,fin⟩:=rest2 S3 H3 ρ2 f3 st3 G3 hn (fp ++ [q0]) (by
           rw [Q0E]
           refine ⟨nd,Q0P.mpr ⟨Q1t,Q1B⟩,fun x hx1 y hy1 z=>?_⟩
           rw [Q0t.mp hy1] at z
           exact hq0f (z ▸ hx1)) (fun x hx'=>by
            rcases Q0k.mp hx' with hx' | hx'
            ·exact ⟨.inl hx',hm2 x (hc.there x hx')⟩
            ·rw [Q0t.mp hx']
             exact ⟨.inr hq0,by rw [hq0m]; exact fun z=>nomatch z⟩) fun x hx' o' e=>by
            rcases Q0k.mp hx' with hx' | hx'
            ·by_cases z:x = a
             ·rw [z,upd_same] at e
              rw [z]
              cases e
              exact hno
             ·rw [upd_ne z,upd_ne fun z=>hc.there x hx' (by rw [z]; exact hq0)] at e
              exact hc.nt x hx' o' e
            ·rw [Q0t.mp hx',hq0m] at e
             cases e
             exact ⟨inferInstance,inferInstance⟩
          have inl:∀ x,x ∈ fp→x ∈ fp ++ [q0]:=fun x hx'=>Q0q _ hx'
          have inr:q0 ∈ fp ++ [q0]:=Q0l _ Q0g
          have h3q:H3 q0 = some (.lst []):=by rw [(kp q0 inr).1,hq0m]
          refine ⟨q0,[],w,rfl,rfl,h3q,by rw [PySem.sizeLine_eq]; decide,?_⟩
          have rk:RepC (ct X) S3 (upd H3 q0 (.lst ([] ++ [w]))) (.ref a) k3 (fp ++ [q0]):=hrep S3 _ w st3.ss (by rw [upd_ne hqa,(kp a (inl a ha)).1,upd_same]) (fun x hx' hne=>by
           have hx0:x ≠ q0:=fun z=>hq0f (z ▸ hx')
           rw [upd_ne hx0,(kp x (inl x hx')).1,upd_ne hne,upd_ne hx0]) (by rw [upd_same]; rfl) rw'
          obtain ⟨f4,G4,st4⟩:=fin (upd H3 q0 (.lst ([] ++ [w]))) s.pin k3 (fun x hx'=>upd_ne fun z=>hx' (by rw [z]; exact inr)) (fun x hx'=>by
           by_cases z:x = q0
           ·rw [z,upd_same]; exact fun z=>nomatch z
           ·rw [upd_ne z,(kp x hx').1]
            rcases Q0k.mp hx' with hx' | hx'
            ·exact hm2 x (hc.there x hx')
            ·exact absurd (Q0t.mp hx') z) rk
          exact q S3 _ f4 (st1.trans st4) (pn1.trans (PinR.back hs1 pn3)) G4 _ .non
        ·cases e0
       ·cases e0
      ·cases e0
     ·cases e0
    ·cases e0
   ·cases e0
  ·cases e0
end
def x9c:EM Cell:=q2M (.dk [] [])
section
variable {X:Cx} {pos:Pos}
theorem x0b {P:Program} {w:World} {H:Hp} (h:Heap) (hb:sysModules < h.objs.size):ObjOk P w H (h.push { cls:=.type "dict",data:=.dict #[] }) h.objs.size (KD P w h.objs.size []):=
 z8Z ⟨Q1H _,beq_eq_false_iff_ne.mpr (Ne.symm (Q2f hb)),Q1B,[],.nil,_,#[],0,Heap.get?_push_size _ rfl,⟨rfl,rfl,rfl⟩,rfl,rfl⟩
def x6z (c:Ct):TE:=fun _ H Q=>∀ p,H p = none→Q (.ref p) (upd H p (KD c.P c.w p []))
theorem pe_dnewD:PE X (.Dict [] [] pos) (x6z (ct X)):=⟨fun pins s σ H Q I h=>
 wpAny_Dict_empty ⟨.ref s.heap.objs.size,_,I.laid (a:=s.heap.objs.size) (o:=KD X.prog X.w s.heap.objs.size []) (t':=s.toks) (fun _ _ q=>Heap.get?_push_of_some _ q) (Q0W _) (x0b s.heap I.big),rfl,h _ (I.hok.fresh (Q0W _))⟩⟩
theorem z7c:XC X (.Dict [] [] pos) x9c:=pe_dnewD.imp fun σ H Q ⟨S,ρ,fps,k,ρ',G,e,q⟩ p hp=>by
 cases e
 obtain ⟨G2,st2⟩:=G.alloc hp (o:=KD X.prog X.w p []) (k:=.dk [] []) (.dk (rs:=[]) upd_same .nil rfl .nil)
 exact q _ S _ _ st2 (PinR.refl _) G2
end
end DL

namespace DL
variable [DL.Tbls]
open PySem PySem.Spec L2
def x9d (c:Ct) (a:Addr) (y z:V) (H:Hp) (Q:VK):Prop:=(∃ o,DGet H a y o∧Q (o.getD z) H) ∨
 (∃ S ks xs b d k,Same S H∧Rd H a (KD c.P c.w a xs)∧Reps c S (xs.map fun x=>V.ref x.2.1) ks∧q6b ks = some (xs.map (·.1))∧y = .ref b∧Rep c S (.ref b) d∧kyD d = some k∧Q ((q7U xs k).getD z) H)
def x9e (c:Ct) (td ty tx:TE):TE:=fun σ H Q=>td σ H fun x H1=>∃ a,x = .ref a∧x8u c H1 a∧ty σ H1 fun y H2=>tx σ H2 fun z H3=>x9d c a y z H3 Q
section
variable {X:Cx} {o e f:Expr} {td ty tx:TE} {apos cpos:Pos}
theorem x3I (hu:X.A.units + 64 < cLine) (ho:PE X o td) (he:PE X e ty) (hf:PE X f tx) (m:M2 X o "get" apos e f cpos):PE X (.Call (.Attribute o "get" apos) [e,f] [] cpos) (x9e (ct X) td ty tx):=by
 refine ⟨fun pins s σ H Q I h=>?_⟩
 refine wpAny_Call_method m.base m.few m.line Q3B PySem.F.slot_dict_get PySem.F.type_dict_get (thn (ho.run pins s σ H _ I h) fun u s1 ⟨x,H1,I1,rx,a,ex,d,q1⟩=>?_)
 subst ex
 obtain rfl:u = Value.ref a:=rx
 obtain ⟨t1,t2,_⟩:=z6Z I1 d
 refine ⟨t1,t2,?_⟩
 rw [m.trees]
 refine Calls.callWith_builtin rfl (Calls.evalArgs_plain (Calls.spliced_cons (thn (he.run pins s1 σ H1 _ I1 q1) fun iv s2 ⟨y,H2,I2,ry,q2⟩=>
  Calls.spliced_cons (thn (hf.run pins s2 σ H2 _ I2 q2) fun fv s3 ⟨z,H3,I3,rz,q3⟩=>Calls.spliced_nil ?_))))
 rcases q3 with ⟨ov,g,q3⟩ | ⟨S,ks,xs,b,dd,k,es,ea,hr,hk,ey,rb,ek,q3⟩
 ·exact d_get2 (by omega) I3 g ry rz fun w' s4 I4 rw'=>⟨_,H3,I4,rw',q3⟩
 ·subst ey
  obtain rfl:iv = Value.ref b:=ry
  exact z9X hu I3 es ea hr hk rb ek rz fun w' s4 I4 rw'=>⟨_,H3,I4,rw',q3⟩
end
def atK (ks ds:List Dat) (k:NestedKey):Option Dat:=(ks.findIdx? fun z=>decide (kyD z = some k)).bind fun j=>ds[j]?
def z3f:Dat→Dat→Dat→Option Dat
 | .dic ks ds,y,z=>if ks.length = ds.length then (z5W y).map fun k=>(z5o (ks.zip ds) k).getD z else none
 | .dix ks ds,y,z=>(kyD y).map fun k=>(atK ks ds k).getD z
 | _,_,_=>none
theorem z7d {c:Ct} {S:Hp} {xs:List q3O} {ks ds:List Dat} (h3:q6b ks = some (xs.map (·.1))) (h4:Reps c S (xs.map (·.2.2)) ds) (k:NestedKey):(∀ d,atK ks ds k = some d→∃ v,q7U xs k = some v∧Rep c S v d)∧(atK ks ds k = none→q7U xs k = none):=by
 unfold atK
 cases hj:ks.findIdx? fun z=>decide (kyD z = some k) with
 | none=>exact ⟨fun d e=>(nomatch e),fun _=>q6K h3 hj⟩
 | some j=>
  obtain ⟨v,e1,e2⟩:=q8N h3 hj
  rw [e2]
  have hl:=h4.length
  have hjl:=(Q0r.mp e1).1
  rw [hl] at hjl
  refine ⟨fun d e=>⟨v,rfl,?_⟩,fun e=>?_⟩
  ·obtain ⟨v',e3,r⟩:=h4.get (i:=j) (d:=d) e
   rw [e1] at e3; cases e3; exact r
  ·rw [Q0U,Q2z] at e
   omega
def e3 (r:Dat→Dat→Dat→Option Dat) (f g h:EM Dat):EM Dat:=q0J f fun x=>q0J g fun y=>q0J h fun z=>q3a (r x y z)
section
variable {X:Cx} {a b e:Expr} {pos apos:Pos} {f g h:EM Dat} {j:Nat}
theorem x3J (R:Rm X.A j) (ha:XE X a f) (hb:XE X b g) (he:XE X e h) (m:M2 X a "get" apos b e pos:=by exact ⟨rfl,rfl,rfl,rfl⟩):XE X (.Call (.Attribute a "get" apos) [b,e] [] pos) (e3 z3f f g h):=
 (x3I R.u64 ha hb he m).imp fun σ H Q ⟨S,h0⟩=>⟨S,h0.bind.mono fun x S1 H1 s1 q u ru=>by
  have dic_of:(∃ ks ds,x = .dic ks ds)∨∃ ks ds,x = .dix ks ds:=by
   obtain ⟨ρ,fps,y,ρ',G,e0,q0⟩:=q
   obtain ⟨y1,ρ1,e1,e2⟩:=q0z e0
   obtain ⟨z1,ρ2,e3,e4⟩:=q0z e2
   obtain ⟨e5,_⟩:=q1e e4
   cases x with
   | dic ks ds=>exact .inl ⟨_,_,rfl⟩
   | dix ks ds=>exact .inr ⟨_,_,rfl⟩
   | _=>cases e5
  have ex1:=q.ex
  rcases dic_of with ⟨ks,ds,rfl⟩ | ⟨ks,ds,rfl⟩
  ·cases ru with
   | @dic a ks xs ds h1 h2 h3=>
    refine ⟨a,rfl,.inl (.inl ⟨_,q0G ex1 h1⟩),S1,q.bind.mono fun y S2 H2 s2 q v rv=>⟨S2,q.bind.mono fun z S3 H3 s3 q w rz=>?_⟩⟩
    obtain ⟨z0,e0,ex,q⟩:=q.lift
    dsimp only [z3f] at e0
    split at e0
    ·cases ek:z5W y with
     | none=>rw [ek] at e0; cases e0
     | some k=>
      rw [ek] at e0
      cases e0
      have pr:=(PR.of h2 (h3.mono (s2.trans s3))).val k
      refine .inl ⟨valV (ks.zip xs) k,.inl ⟨_,k,q0G ex (q0G (s2.trans s3) h1),q6A rv ek,rfl⟩,(q S3 H3 (Fre.refl ex)).2.2.2 _ ?_⟩
      cases hq:z5o (ks.zip ds) k with
      | none=>dsimp only; rw [pr.2 hq,hq]; exact rz
      | some d=>
       obtain ⟨w,e,r⟩:=pr.1 d hq
       dsimp only; rw [e,hq]; exact r
    ·cases e0
  ·cases ru with
   | @dix a xs ks ds h1 h2 h3 h4=>
    refine ⟨a,rfl,.inr ⟨_,q0G ex1 h1⟩,S1,q.bind.mono fun y S2 H2 s2 q v rv=>⟨S2,q.bind.mono fun z S3 H3 s3 q w rz=>?_⟩⟩
    obtain ⟨z0,e0,ex,q⟩:=q.lift
    dsimp only [z3f] at e0
    cases ek:kyD y with
    | none=>rw [ek] at e0; cases e0
    | some k=>
     rw [ek] at e0
     cases e0
     obtain ⟨b,rfl⟩:=q8M rv ek
     have pr:=z7d h3 (h4.mono (s2.trans s3)) k
     refine .inr ⟨S3,ks,xs,b,y,k,ex,q0G ex (q0G (s2.trans s3) h1),h2.mono (s2.trans s3),h3,rfl,rv.mono s3,ek,(q S3 H3 (Fre.refl ex)).2.2.2 _ ?_⟩
     cases hq:atK ks ds k with
     | none=>dsimp only; rw [pr.2 hq,hq]; exact rz
     | some d=>
      obtain ⟨w,e,r⟩:=pr.1 d hq
      dsimp only; rw [e,hq]; exact r⟩
end
theorem x0c {X:Cx} {pins:List (Addr × Obj)} {σ:L2.St} {H:Hp} {s:Shared} {a:Addr} {xs:List q3O} (I:Inv X pins σ H s) (hd:Rd H a (KD X.prog X.w a xs)):(xs.map (·.1)).Nodup:=(z9a I.hok hd).2.2.1
theorem Reps.setAt {c:Ct} {S:Hp} {v:V} {d:Dat} (r:Rep c S v d):∀ {vs:List V} {ds:List Dat} (j:Nat),Reps c S vs ds→Reps c S (vs.set j v) (ds.set j d)
 | _,_,_,.nil=>.nil
 | _,_,0,.cons _ t=>.cons r t
 | _,_,j + 1,.cons h t=>.cons h (Reps.setAt r j t)
theorem z7e {k:NestedKey} {b:Addr} {v:V}:∀ {ks:List Dat} {rs:List q3O} {j:Nat},q6b ks = some (rs.map (·.1))→(rs.map (·.1)).Nodup→(ks.findIdx? fun z=>decide (kyD z = some k)) = some j →
  (z0l rs k b v).map (fun x=>V.ref x.2.1) = rs.map (fun x=>V.ref x.2.1)∧(z0l rs k b v).map (·.1) = rs.map (·.1)∧(z0l rs k b v).map (·.2.2) = (rs.map (·.2.2)).set j v:=by
 intro ks rs j e nd h
 obtain ⟨w,e1,e2⟩:=q8N e h
 have hany:(rs.any fun x=>decide (x.1 = k)) = true:=by
  unfold q7U at e2
  obtain ⟨x,hx,_⟩:=Q0V.mp e2
  exact Q2W.mpr ⟨x,Q3r hx,by have:=List.find?_some hx; simpa using this⟩
 unfold z0l
 rw [if_pos hany,Q0R,Q0R,Q0R]
 refine ⟨Q1P fun x _=>by by_cases z:x.1 = k <;> simp [z],Q1P fun x _=>by by_cases z:x.1 = k <;> simp [z],?_⟩
 clear hany e2 e1
 induction rs generalizing ks j with
 | nil=>
  cases ks with
  | nil=>simp at h
  | cons d ks=>
   rw [q6b] at e
   split at e
   ·cases e
   ·cases e
 | cons r rs ih=>
  cases ks with
  | nil=>cases e
  | cons d ks=>
   obtain ⟨e1,e2⟩:=kys_cons.mp e
   rw [Q0e,Q0P] at nd
   rw [Q1p] at h
   by_cases z:r.1 = k
   ·rw [if_pos (by simpa [e1] using z)] at h
    cases h
    rw [Q0e,Q0e,Q0j]
    congr 1
    ·simp [z]
    ·refine Q1P fun x hx=>?_
     have:¬ x.1 = k:=fun w=>nd.1 (by rw [z,← w]; exact Q0J hx)
     simp [this]
   ·rw [if_neg (by simpa [e1] using z)] at h
    obtain ⟨i,hi,rfl⟩:=Q0V.mp h
    rw [Q0e,Q0e,Q0m]
    congr 1
    ·simp [z]
    ·exact ih e2 nd.2 hi
end DL

namespace DL
variable [DL.Tbls]
open PySem PySem.Spec L2
section
variable {X:Cx} {b e:Expr} {pos p1 p2:Pos} {g f:EM Dat} {j:Nat}
end
section
variable {X:Cx} {e:Expr} {pos p:Pos} {f:EM Dat}
end
end DL

namespace DZS
open PySem PySem.Spec PyProof.Rows
open PySem.Sem (wp)
section
variable {prog:Program} {w:World} {A:Around} {E:Value→Shared→Prop} {s:Shared}
end
section
variable {prog:Program} {w:World} {A:Around} {E:Value→Shared→Prop} {s:Shared}
end
end DZS

set_option maxHeartbeats 4000000
namespace DL
variable [DL.Tbls]
open PySem PySem.Spec L2 PyProof.Rows
end DL

namespace DL
variable [DL.Tbls]
open PySem PySem.Spec L2
section
variable {X:Cx} {e:Expr} {pos p:Pos} {f:EM Dat}
end
section
variable {X:Cx} {b e:Expr} {pos npos apos:Pos} {g f:EM Dat} {j:Nat}
end
def x1P (K:JFr):R2:=fun x y H Q=>∃ d ds,Dp K H x d∧Dp K H y (.list ds)∧SeqAt.shaped d = true∧SeqAt.shaped (.list ds) = true∧Q (.bl (ds.any fun z=>PyData.eqv z d)) H
theorem z4o {X:Cx} (hu:X.A.units + 65 < cLine):OpR X (compareOp .In) (x1P X.K):=by
 intro pins s σ H x y v u Q I rx ry h
 obtain ⟨d,ds,hd,he,sd,se,q⟩:=h
 obtain ⟨as,r1⟩:=Dp.reads I d x v hd rx
 obtain ⟨bs,r2⟩:=Dp.reads I (.list ds) y u he ry
 exact SeqAt.in_list_reads r2 r1 (SeqAt.canLay_of_shaped se) (SeqAt.canLay_of_shaped sd) (PyProof.Rows.room_in_shaped sd hu) ⟨.bl _,H,I,rfl,q⟩
def x1Q:Dat→Dat→Option Dat
 | x,.lst ds=>match q4W x,q2O ds with
  | some d,some ps=>if SeqAt.shaped d = true∧SeqAt.shaped (.list ps) = true then some (.bl (ps.any fun z=>PyData.eqv z d)) else none
  | _,_=>none
 | _,_=>none
theorem x6A {c:Ct}:q2B c (x1P c.K) x1Q:=by
 intro S H v u x y z Q ex rx ry e q
 cases y with
 | lst ds=>
  have e':(match q4W x,q2O ds with
   | some d,some ps=>if SeqAt.shaped d = true∧SeqAt.shaped (.list ps) = true then some (Dat.bl (ps.any fun z=>PyData.eqv z d)) else none
   | _,_=>none) = some z:=e
  split at e'
  ·rename_i d ps h1 h2
   split at e'
   ·rename_i hs
    cases e'
    exact ⟨d,ps,q3I ex x v d rx h1,q3I ex (.lst ds) u (.list ps) ry (by unfold q4W; rw [h2]; rfl),hs.1,hs.2,q _ S H (Fre.refl ex) (.bl _)⟩
   ·cases e'
  ·cases e'
 | _=>cases e
end DL

namespace DL
variable [DL.Tbls]
open PySem PySem.Spec L2 PySem.Calls PyProof.Rows
section
variable {X:Cx} {k j:Nat} {sp:List V→SpQ} {pins:List (Addr × Obj)} {σ:L2.St} {H:Hp} {s:Shared} {Q:VK} {us:List Value} {vs:List V} {a C dx g:Addr} {fs:List (Str × V)}
end
section
variable {X:Cx} {k j:Nat} {sp:List V→SpQ} {x:Str} {p pos:Pos} {e:Expr} {es:List Expr} {t:TA} {C g:Addr}
end
section
variable {X:Cx} {k j:Nat} {p pos:Pos} {e:Expr} {es:List Expr} {t:EM (List Dat)} {nm:Str} {F:List Dat→Option Cell}
end
end DL

namespace DL
variable [DL.Tbls]
open PySem PySem.Spec L2
open PySem.W (dataLt dataLe alike)
abbrev xLt (a b:List (Int ⊕ List Nat)):Bool:=PyProof.Rows.lexLt Q2c a b
abbrev tk (d:Dat):List (Int ⊕ List Nat):=Q3Q (pyD d)
theorem z1P {a b:Dat}:leD a b = !xLt (tk b) (tk a):=rfl
theorem z1Q (a b:Dat):(leD a b || leD b a) = true:=by
 rw [z1P,z1P]
 cases h1:xLt (tk b) (tk a) with
 | false=>rfl
 | true=>
  cases h2:xLt (tk a) (tk b) with
  | false=>rfl
  | true=>
   have:=Q3L (O:=Q2c) _ _ _ h1 h2
   rw [PyProof.Rows.lex_irrefl] at this
   cases this
theorem z1R (a b c:Dat) (h1:leD a b = true) (h2:leD b c = true):leD a c = true:=by
 rw [z1P,Q0K] at h1 h2 ⊢
 cases h:xLt (tk c) (tk a) with
 | false=>rfl
 | true=>
  cases h3:xLt (tk a) (tk b) with
  | true=>
   have:=Q3L (O:=Q2c) _ _ _ h h3
   have this':xLt (tk c) (tk b) = true:=this
   rw [h2] at this'
   cases this'
  | false=>
   have e:=Q3M (O:=Q2c) _ _ h3 h1
   rw [e,h2] at h
   cases h
theorem x0d {a b:Dat} (h1:leD a b = true) (h2:leD b a = true):tk a = tk b:=by
 rw [z1P,Q0K] at h1 h2
 exact Q3M (O:=Q2c) _ _ h2 h1
def q8k (k:List Int):Dat:=.tup (k.map .int)
theorem q6o:∀ ns:List Int,q2O (ns.map Dat.int) = some (ns.map PyData.int)
 | []=>rfl
 | n :: ns=>by
  show (match q4W (.int n),q2O (ns.map Dat.int) with | some x,some xs=>some (x :: xs) | _,_=>none) = _
  rw [q6o ns]; rfl
theorem z4p:∀ {k l:List Int},Q1V (k.map PyData.int) = Q1V (l.map PyData.int)→k = l
 | [],[],_=>rfl
 | [],b :: l,h=>by simp [Q1V] at h
 | a :: k,[],h=>by simp [Q1V] at h
 | a :: k,b :: l,h=>by
  simp only [Q0e,Q1V,Q3Q,Q0x,Q0u,List.cons.injEq,true_and,Sum.inl.injEq] at h
  rw [h.1,z4p h.2]
theorem q8O {α β:Type} (f:α→β):∀ {L:List α} {vs:List β},vs.Perm (L.map f)→∃ L1:List α,L1.Perm L∧vs = L1.map f
 | [],vs,h=>⟨[],.nil,by rw [Q0w] at h; exact h.eq_nil⟩
 | x :: L,vs,h=>by
  have hm:f x ∈ vs:=h.mem_iff.mpr (by rw [Q0e]; exact Q0g)
  obtain ⟨u,v,rfl⟩:=Q3o hm
  have h2:(u ++ v).Perm (L.map f):=by
   have:=(Q2C (a:=f x) (l₁:=u) (l₂:=v)).symm.trans h
   rw [Q0e] at this
   exact this.cons_inv
  obtain ⟨L1,p1,e1⟩:=q8O f h2
  obtain ⟨A,B,rfl,rfl,rfl⟩:=List.map_eq_append_iff.mp e1.symm
  exact ⟨A ++ x :: B,(Q2C).trans (List.Perm.cons x p1),by rw [Q0D,Q0e]⟩
theorem q7b:∀ k l:List Int,Q2k (k.map PyData.int) (l.map PyData.int) = true
 | [],_=>by simp [Q2k]
 | _ :: _,[]=>by simp [Q2k]
 | a :: k,b :: l=>by
  rw [Q0e,Q0e,Q2k,q7b k l]
  rfl
theorem q5U:∀ k:List Int,PyData.depthAll (k.map PyData.int) = 0
 | []=>by simp [PyData.depthAll]
 | n :: k=>by rw [Q0e,PyData.depthAll,q5U k]; rfl
theorem q6p {α:Type} {R:Value→α→Prop} {f:α→Value}:∀ (L:List α),(∀ b ∈ L,R (f b) b)→PySem.W.EachIs R (L.map f) L
 | [],_=>.nil
 | b :: L,h=>.cons (h b Q0g) (q6p L fun c hc=>h c (Q0h _ hc))
theorem z7f {α:Type} {f:α→Value}:∀ {vs:List Value} {L:List α},PySem.W.EachIs (fun v b=>v = f b) vs L→vs = L.map f
 | _,_,.nil=>rfl
 | _,_,.cons e t=>by rw [e,z7f t]; rfl
end DL

namespace DL
variable [DL.Tbls]
open PySem PySem.Spec L2
section
variable {X:Cx} {pos p:Pos} {e:Expr}
end
end DL

namespace DL
variable [DL.Tbls]
open PySem PySem.Spec L2 PySem.Calls PyProof.Rows
end DL

set_option maxHeartbeats 4000000
namespace DLE1
open PySem
open Sem (wp)
theorem z5u {v:Value} {o:Obj} {H:Heap→Prop} (B:Begins v o H) :
  Meets (Builtin.«enumerate.__new__» ⟨[.type "enumerate",v],[]⟩) (fun _ R s=>H s.heap ∧
   R (.ok (.ret (.ref (s.heap.push o).objs.size))) { s with heap:=(s.heap.push o).push { cls:=.type "enumerate",data:=.fields #[.none,.bool false,.ref s.heap.objs.size,rawInt 0,.none,.none] } }):=
 .of_wp fun prog w A R s h=>by
  obtain ⟨hp,g,d,tk,os⟩:=s; obtain ⟨h1,h⟩:=h
  have hsub:=sub_enumerate
  have q1:∀ {A':Around} {E:Value→Shared→Prop} {Q:Value→Shared→Prop},Q (.ref hp.objs.size) ⟨hp.push o,g,d,tk,os⟩→wpAny (model prog w) A' (pyIter v) Q E ⟨hp,g,d,tk,os⟩:=
   fun q=>B.iter prog w _ _ ⟨hp,g,d,tk,os⟩ _ h1 q
  wp_walk using q1
  refine wpAny_stack_any fun st=>jbc ?_
  split
  ·rename_i c _ _ _ _ _
   cases (c == Value.type "enumerate")
   ·wp_walk using q1
    exact ⟨_,rfl,h⟩
   ·wp_walk using q1
    exact ⟨_,rfl,h⟩
  ·wp_walk using q1
   exact ⟨_,rfl,h⟩
variable {prog:Program} {w:World} {A:Around} {E:Value→Shared→Prop} {s:Shared}
theorem z5v {v:Value} {o:Obj} {H:Heap→Prop} {Q:Value→Shared→Prop} (B:Begins v o H) (h1:H s.heap)
  (h:∀ h',IsEnum h' (s.heap.objs.size + 1) s.heap.objs.size 0 .none→h'.get? s.heap.objs.size = some o→h'.objs.size = s.heap.objs.size + 2 →
   (∀ b o,s.heap.get? b = some o→h'.get? b = some o)→Q (.ref (s.heap.objs.size + 1)) { s with heap:=h' }) :
  wpAny (model prog w) A (call (.type "enumerate") [v]) Q E s:=by
 refine callType_new F.called_enumerate (by decide) (F.typeCall_enumerate_1 _) (F.newCall_enumerate_1 _) (fun obj=>F.args_object_init_2 obj _) F.entry_enumerate_new
  (z5u B) ⟨h1,?_⟩
 have hz:(s.heap.push o).objs.size = s.heap.objs.size + 1:=Heap.size_push ..
 show _∧_
 rw [hz]
 have he:IsEnum ((s.heap.push o).push { cls:=.type "enumerate",data:=.fields #[.none,.bool false,.ref s.heap.objs.size,rawInt 0,.none,.none] }) (s.heap.objs.size + 1) s.heap.objs.size 0 .none:=by
  have:=Heap.get?_push_size (s.heap.push o) (o:={ cls:=.type "enumerate",data:=.fields #[.none,.bool false,.ref s.heap.objs.size,rawInt 0,.none,.none] }) rfl
  rw [hz] at this; exact this
 refine ⟨⟨_,he,rfl⟩,h _ he (Heap.get?_push_of_some _ (Heap.get?_push_size _ B.free)) (by rw [Heap.size_push,hz]) fun b o x=>Heap.get?_push_of_some _ (Heap.get?_push_of_some _ x)⟩
end DLE1
namespace DL
variable [DL.Tbls]
open PySem PySem.Spec L2 PySem.Calls PyProof.Rows
def x9f (K:JFr) (a:Addr):It:=
 ⟨fun i H=>∃ (xs:List V) (x:V),SqT K H a xs∧xs[i]? = some x,fun i H v H'=>∃ T x,v = .ref T∧H T = none∧H' = upd H T (.tup [.int (i:Nat),x])∧∀ xs,SqT K H a xs→xs[i]? = some x,fun i H=>∃ xs:List V,SqT K H a xs∧xs.length ≤ i⟩
theorem z4q {h:Heap} {a e:Addr} {items:Array Value} {o:Obj} (ht:h.IsTuple a items) (he:h.get? e = some o) (hc:o.cls ≠ .type "tuple"):e ≠ a:=fun z=>by
 obtain ⟨o',ho,hc',_⟩:=ht
 rw [z,ho] at he
 cases he
 exact hc hc'
theorem z5w {P:Program} {w:World} {K:JFr} {elts:List Expr} {kk:Nat} {tpos:Pos} (a e it:Addr) :
  Turn P w K (.Tuple elts kk tpos) (x9f K a) [e,it] e (fun i h=>(∃ old,IsEnum h e it ((i:Nat):Int) old)∧h.IsTupleIter it a i∧e ≠ it) where
 mem:=by simp
 obj:=fun i h st b hb=>by
  obtain ⟨⟨old,he⟩,⟨o,ho,hc,hd⟩,_⟩:=st
  have e':b = e∨b = it:=by simpa using hb
  rcases e' with z | z
  ·rw [z]; exact ⟨_,he,fun v q=>nomatch q⟩
  ·rw [z]; exact ⟨o,ho,fun v q=>by rw [hd] at q; cases q⟩
 keep:=fun i h h' st k=>let ⟨⟨old,he⟩,hi,hne⟩:=st; ⟨⟨old,k e (by simp) _ he⟩,hi.at fun o q=>k it (by simp) o q,hne⟩
 item:=by
  intro X hP hw hK hc i pins s σ H E I hf st hg
  subst hP hw hK
  obtain ⟨⟨old,he⟩,hit,hne⟩:=st
  obtain ⟨xs,x,hq,hx⟩:=hg
  obtain ⟨its,rv,p,hz⟩:=I.tuple hq
  obtain ⟨u,hu,ru⟩:=rv.get hx
  have hel:e < s.heap.objs.size:=Heap.lt_size he
  have hil:it < s.heap.objs.size:=by obtain ⟨_,q,_⟩:=hit; exact Heap.lt_size q
  have hea:e ≠ a:=z4q p he (fun z=>absurd (Value.type.inj z) (by decide))
  have hia:it ≠ a:=by
   obtain ⟨o,ho,hc',_⟩:=id hit
   exact z4q p ho (by rw [hc']; decide)
  have D:=Draws.tuple (prog:=X.prog) (w:=X.w) (A:=X.A.in1) (show X.A.in1.handled = none from I.ok.hd hc) it a (Ne.symm hia) its.toArray
  refine wpAny_pyNext_enum_itemD D he ⟨hit,p⟩ (i:=i) (by have:=(Q0r.mp hu).1; simpa using this) hne (by simp [hne,hea]) fun y h' tk hy ho hst' hT hsz hk=>?_
  obtain rfl:u = y:=by
   have h1:its.toArray[i]? = some y:=hy
   rw [List.getElem?_toArray,hu] at h1
   cases h1; rfl
  refine ⟨_,rfl,wpAny_letOwnedTupleGo_enum (s:={ s with heap:=h',toks:=tk + 1 }) ho fun h'' he' sb=>?_⟩
  have hT2:h''.get? s.heap.objs.size = some { cls:=.type "tuple",data:=.seq #[.int i tk,u] }:=(sb.2 _ (Nat.ne_of_gt hel)).trans hT
  have new:ObjOk X.prog X.w (upd H s.heap.objs.size (.tup [.int (i:Nat),x])) h'' s.heap.objs.size (.tup [.int (i:Nat),x]):=
   ⟨by show 2 ≤ sizeLine; decide,[.int i tk,u],.cons ⟨_,rfl⟩ (.cons ru .nil),⟨_,hT2,rfl,_,rfl⟩⟩
  have I1:Inv X pins σ (upd H s.heap.objs.size (.tup [.int (i:Nat),x])) { s with heap:=h'',toks:=tk + 1 }:=
   I.turnedNew (ch:=[e,it]) (fun b ob hb q=>(sb.2 b (fun z=>hb (by simp [z]))).trans (hk b ob (fun z=>hb (by simp [z])) (fun z=>hb (by simp [z])) q)) hf (Q0W _) new
  refine ⟨.ref s.heap.objs.size,_,I1,rfl,⟨_,x,rfl,I.hok.fresh (Q0W _),rfl,fun ys hy=>by rw [I.tuple_inj hy hq]; exact hx⟩,⟨⟨u,?_⟩,hst'.1.at fun o q=>(sb.2 it (Ne.symm hne)).trans q,hne⟩,fun b hb=>?_⟩
  ·have e1:((i + 1:Nat):Int) = (i:Int) + 1:=by omega
   rw [e1]; exact he'
  ·have hb':b < s.heap.objs.size:=by
    have e':b = e∨b = it:=by simpa using hb
    rcases e' with z | z
    ·rw [z]; exact hel
    ·rw [z]; exact hil
   rw [upd_ne (Q2f hb')]
   exact (hf b hb).1
 done:=by
  intro X hP hw hK hc i pins s σ H E I hf st hg
  subst hP hw hK
  obtain ⟨⟨old,he⟩,hit,hne⟩:=st
  obtain ⟨xs,hq,hx⟩:=hg
  obtain ⟨its,rv,p,hz⟩:=I.tuple hq
  obtain ⟨f0,f1,f2,f3,f4,f5⟩:=hf it (by simp)
  have hl:=rv.length
  have hea:e ≠ a:=z4q p he (fun z=>absurd (Value.type.inj z) (by decide))
  have hia:it ≠ a:=by
   obtain ⟨o,ho,hc',_⟩:=id hit
   exact z4q p ho (by rw [hc']; decide)
  have hT:s.TypeIs (.ref e) "enumerate":=⟨_,he,rfl⟩
  unfold pyNext
  refine jbb (wpAny_attempt (wpAny_callSpecial?_slot (name:=Str.ofString "__next__") hT F.slot_enumerate_next
   (wpAny_call_entry F.slot_enumerate_next hT F.entry_enumerate_next ?_ (F.args_enumerate_next_1 _))))
  show wpAny _ _ (field (.ref e) 2 >>= _) _ _ _
  refine jbb (jbe he rfl (x:=.ref it) rfl ?_)
  refine jbb (wpAny_nextOf_tuple_end (show X.A.in1.handled = none from I.ok.hd hc) hit p (by simp; omega) fun h' x he' hx'=>?_)
  obtain ⟨o,ho,hc⟩:=hx'
  refine jbb (wpAny_isInstance (T:="StopIteration") (b:=true) ⟨o,ho,hc⟩ isSubtype_stop ?_)
  exact jbc ⟨rfl,I.turned (t':=s.toks) (fun b o hb q=>he' b o hb q) f0 f1 f3 f4 f5⟩
 self:=fun A i s Q E st h=>let ⟨⟨_,he⟩,_⟩:=st; wpAny_pyIter_enum he h
def x6B (K:JFr) (ta:TA):TI:=fun σ H R=>ta σ H fun vs H1=>∃ a xs,vs = [.ref a]∧SqT K H1 a xs∧R (x9f K a) H1
theorem x0e {X:Cx} {e:Expr} {ta:TA} {p pos tpos:Pos} {elts:List Expr} {kk:Nat} (hg:Gl X "enumerate") (hm:X.mg "enumerate" = none) (ha:PA X [e] ta) (hs:starEach [e] X.env = [(false,eval e X.env)]:=by rfl) :
  PI X (.Tuple elts kk tpos) (.Call (.Name "enumerate" p) [e] [] pos) (x6B X.K ta):=by
 refine ⟨fun pins s σ H R I h=>?_⟩
 refine Call_ (ld_blt I hg hm boot_enumerate (PyProof.Rows.callWith_type1 (thn (ha.run pos pins s σ H _ I h) fun us s1 ⟨vs,H1,I1,r1,q1⟩=>?_) hs rfl))
 obtain ⟨a,xs,ex,hq,q⟩:=q1
 subst ex
 cases r1 with
 | cons r rr=>
  cases rr
  cases r
  obtain ⟨its,rv,p',hz⟩:=I1.tuple hq
  refine DLE1.z5v (begins_tuple a its.toArray) p' fun h' he hit hsz hk=>wpAny_pyIter_enum he ?_
  have I2:Inv X pins σ H1 { s1 with heap:=h' }:=I1.kept (t':=s1.toks) hk
  refine ⟨s1.heap.objs.size + 1,[s1.heap.objs.size + 1,s1.heap.objs.size],_,_,H1,rfl,I2,z5w a (s1.heap.objs.size + 1) s1.heap.objs.size,⟨⟨.none,he⟩,⟨_,hit,rfl,rfl⟩,Nat.succ_ne_self _⟩,fun b hb=>?_,q⟩
  have e':b = s1.heap.objs.size + 1∨b = s1.heap.objs.size:=by simpa using hb
  have hle:s1.heap.objs.size ≤ b:=by
   rcases e' with z | z
   ·rw [z]; exact Q3J _ _
   ·rw [z]; exact Q0W _
  exact I1.fpOk hle (I1.hok.fresh hle)
def z4r (t:EM (List Dat)):EM (List Dat):=q0J t fun ds=>match ds with
 | [.tup a]=>q2M (q4z a)
 | _=>eNo
theorem z7g {c:Ct} {S:Hp} {a:Addr} {xs:List V} {ds:List Dat} (h1:SqT c.K S a xs) (r1:Reps c S xs ds):ItD c S (x9f c.K a) (q4z ds) where
 go:=fun i H hi e=>by
  have:i < ds.length:=by unfold q4z at hi; rw [Q0f,Q2q] at hi; exact hi
  obtain ⟨x,hx⟩:=r1.at this
  exact ⟨xs,x,q0S e h1,hx⟩
 stop:=fun i H hi e=>⟨xs,q0S e h1,by unfold q4z at hi; rw [Q0f,Q2q] at hi; rw [r1.length]; omega⟩
 yld:=fun i d S2 H x H' hd e e2 ⟨T,u,q1,q2,q3,q4⟩=>by
  subst q1; subst q3
  unfold q4z at hd
  rw [Q0O,Q3b] at hd
  cases hz:ds[i]? with
  | none=>rw [hz] at hd; cases hd
  | some p=>
   rw [hz] at hd
   cases hd
   obtain ⟨w1,hw1,k1⟩:=r1.get hz
   have a1:=q4 xs (q0S (e.trans e2) h1)
   rw [hw1] at a1
   have e1:=Q1o.inj a1; subst e1
   have fr:=Fre.new (o:=.tup [.int (i:Nat),w1]) e2 q2
   have ei:((0 + i:Nat):Int) = (i:Nat):=by omega
   refine ⟨_,fr,.tup (SqT.of upd_same) (.cons ?_ (.cons ((k1.mono e).mono fr.ss) .nil))⟩
   show Rep c _ _ (.int ((0 + i:Nat):Int))
   rw [ei]
   exact .int _
theorem x0f {X:Cx} {e:Expr} {t:EM (List Dat)} {p pos tpos:Pos} {elts:List Expr} {kk:Nat} (hg:Gl X "enumerate") (hm:X.mg "enumerate" = none) (ha:XA X [e] t) (hs:starEach [e] X.env = [(false,eval e X.env)]:=by rfl) :
  XI X (.Tuple elts kk tpos) (.Call (.Name "enumerate" p) [e] [] pos) (z4r t):=(x0e hg hm ha hs).imp fun σ H R q=>(z6j q).mono fun vs H1 ⟨S,ds,r,q⟩=>by
 split at q
 ·rename_i a
  cases r with
  | cons ra r=>
   cases r
   obtain ⟨ex,q⟩:=q.ret
   cases ra with
   | tup h1 k1=>exact ⟨_,_,rfl,q0S ex h1,q S H1 (Fre.refl ex) _ (z7g h1 k1)⟩
 ·exact (Go.no q).elim
end DL

namespace DST
open PySem L2
def lx:Nat→Nat
 | 0=>0
 | n + 1=>5 * lx n + 1
theorem z1S (a:Nat):∀ b,lx (a + b) = 5 ^ b * lx a + lx b
 | 0=>by simp [lx]
 | b + 1=>by
  show 5 * lx (a + b) + 1 = 5 ^ (b + 1) * lx a + (5 * lx b + 1)
  rw [z1S a b,Q1W,Q3h,← Nat.add_assoc]
  congr 2
  rw [Q2Q (5 ^ b) 5,Q2F]
theorem z4s (n:Nat):5 ^ n % 4 = 1:=by
 induction n with
 | zero=>rfl
 | succ n ih=>rw [Q1W]; omega
theorem x1R (j:Nat):∃ c,lx (2 ^ j) = 2 ^ j * (2 * c + 1):=by
 induction j with
 | zero=>exact ⟨0,rfl⟩
 | succ j ih=>
  obtain ⟨c,e⟩:=ih
  obtain ⟨d,hd⟩:∃ d,5 ^ 2 ^ j + 1 = 2 * (2 * d + 1):=⟨5 ^ 2 ^ j / 4,by have:=z4s (2 ^ j); omega⟩
  refine ⟨2 * d * c + d + c,?_⟩
  have h:lx (2 ^ (j + 1)) = (5 ^ 2 ^ j + 1) * lx (2 ^ j):=by
   rw [show (2:Nat) ^ (j + 1) = 2 ^ j + 2 ^ j by rw [Q1W]; omega,z1S,Nat.add_mul,Nat.one_mul]
  rw [h,hd,e,Q1W]
  have:(2 * d + 1) * (2 * c + 1) = 2 * (2 * d * c + d + c) + 1:=by
   rw [Nat.add_mul,Q3h,Nat.one_mul,Nat.mul_one,Q3h,Q3h]
   have e1:2 * d * (2 * c) = 2 * (2 * d * c):=by rw [Q2v]
   omega
  rw [Q2F,Q2v (2 * d + 1),this]
  rw [Q2v,← Q2F]
theorem z0S (M u r:Nat) (h:r < M):(M * u + r) % (2 * M) = M * (u % 2) + r:=by
 have hu:u = 2 * (u / 2) + u % 2:=by omega
 have e:M * u + r = 2 * M * (u / 2) + (M * (u % 2) + r):=by
  conv=>lhs; rw [hu]
  rw [Q3h,← Nat.add_assoc,← Q2F,Q2Q M 2]
 rw [e,Nat.mul_add_mod]
 refine Q2X ?_
 have:M * (u % 2) ≤ M * 1:=Nat.mul_le_mul_left _ (by omega)
 omega
theorem z3g:∀ (k j:Nat),∃ n,n < 2 ^ k∧lx n % 2 ^ k = j % 2 ^ k
 | 0,j=>⟨0,by decide,by rw [Nat.pow_zero,Nat.mod_one,Nat.mod_one]⟩
 | k + 1,j=>by
  obtain ⟨n,hn,e⟩:=z3g k j
  obtain ⟨c,hc⟩:=x1R k
  have hM:0 < 2 ^ k:=Nat.two_pow_pos k
  have h2:(2:Nat) ^ (k + 1) = 2 * 2 ^ k:=by rw [Q1W,Q2Q]
  generalize hMM:2 ^ k = M at hn e hc hM h2
  rw [h2]
  have ea:lx n = M * (lx n / M) + lx n % M:=(Nat.div_add_mod _ _).symm
  have ej:j = M * (j / M) + j % M:=(Nat.div_add_mod _ _).symm
  have hr:lx n % M < M:=Q4l _ hM
  by_cases hp:(lx n / M) % 2 = (j / M) % 2
  ·refine ⟨n,by omega,?_⟩
   conv=>lhs; rw [ea]
   conv=>rhs; rw [ej]
   rw [z0S _ _ _ hr,← e,z0S _ _ _ hr,hp]
  ·obtain ⟨d,hd⟩:∃ d,5 ^ n * (2 * c + 1) = 2 * d + 1:=⟨5 ^ n * (2 * c + 1) / 2,by
    have h5:5 ^ n % 2 = 1:=by have:=z4s n; omega
    have:5 ^ n * (2 * c + 1) % 2 = 1:=by rw [Q3C,h5]; omega
    omega⟩
   have eb:lx (M + n) = M * (lx n / M + (2 * d + 1)) + lx n % M:=by
    have e3:M * (lx n / M + (2 * d + 1)) = M * (lx n / M) + M * (2 * d + 1):=Q3h ..
    rw [z1S,hc,Q2v,hd,e3]
    omega
   refine ⟨M + n,by omega,?_⟩
   rw [eb]
   conv=>rhs; rw [ej]
   rw [z0S _ _ _ hr,← e,z0S _ _ _ hr]
   have:(lx n / M + (2 * d + 1)) % 2 = (j / M) % 2:=by omega
   rw [this]
theorem x0g (k n:Nat):lx (2 ^ k + n) % 2 ^ k = lx n % 2 ^ k:=by
 obtain ⟨c,hc⟩:=x1R k
 rw [z1S,hc,Q2v,Nat.mul_add_mod]
theorem x3K (k i j:Nat):∃ n,n < 2 ^ k∧(5 ^ n * i + lx n) % 2 ^ k = j % 2 ^ k:=by
 obtain ⟨a,ha,ea⟩:=z3g k i
 obtain ⟨b,hb,eb⟩:=z3g k j
 have key:∀ n,(5 ^ n * i + lx n) % 2 ^ k = lx (a + n) % 2 ^ k:=fun n=>by
  rw [z1S,Q4f,Q3C,← ea,← Q3C,← Q4f]
 by_cases h:a ≤ b
 ·exact ⟨b - a,by omega,by rw [key,show a + (b - a) = b by omega,eb]⟩
 ·exact ⟨2 ^ k + b - a,by omega,by rw [key,show a + (2 ^ k + b - a) = 2 ^ k + b by omega,x0g,eb]⟩
def z3Q (m i:Nat):List Nat:=Q3D i (SetTable.runEnd m i + 1 - i)
def nx (m:Nat) (q:Nat × Nat):Nat × Nat:=SetTable.leap m q.1 q.2
def q8P (m:Nat):Nat→Nat × Nat→List Nat
 | 0,_=>[]
 | n + 1,q=>z3Q m q.1 ++ q8P m n (nx m q)
def st0 (m:Nat) (h:Int):Nat × Nat:=(SetTable.bits h % (m + 1),SetTable.bits h)
def itr (m:Nat):Nat→Nat × Nat→Nat × Nat
 | 0,q=>q
 | n + 1,q=>itr m n (nx m q)
theorem z3h (m:Nat):∀ (a b:Nat) (q:Nat × Nat),itr m (a + b) q = itr m b (itr m a q)
 | 0,b,q=>by rw [Nat.zero_add]; rfl
 | a + 1,b,q=>by rw [show a + 1 + b = (a + b) + 1 by omega]; exact z3h m a b (nx m q)
theorem z7h (m:Nat):∀ (n:Nat) (q:Nat × Nat),(itr m n q).2 = q.2 / 32 ^ n
 | 0,q=>by rw [Nat.pow_zero,Nat.div_one]; rfl
 | n + 1,q=>by
  show (itr m n (nx m q)).2 = _
  rw [z7h m n,Q1W,Q2Q,← Nat.div_div_eq_div_mul]; rfl
theorem z7i (m:Nat) (i:Nat):∀ t,itr m t (i % (m + 1),0) = ((5 ^ t * i + lx t) % (m + 1),0)
 | 0=>by show (i % (m + 1),0) = _; rw [Nat.pow_zero,Nat.one_mul]; rfl
 | t + 1=>by
  rw [z3h m t 1,z7i m i t]
  show (((5 ^ t * i + lx t) % (m + 1) * 5 + 1 + 0 / 32) % (m + 1),0 / 32) = _
  rw [Nat.zero_div,Nat.add_zero]
  congr 1
  show _ = (5 ^ (t + 1) * i + (5 * lx t + 1)) % (m + 1)
  rw [Q4f,Q3C,Nat.mod_mod,← Q3C,← Q4f,Nat.add_mul,Nat.add_assoc,Q2Q (lx t) 5]
  congr 2
  rw [Q1W,Q2F,Q2F,Q2Q i 5]
theorem x6C (m:Nat) (q:Nat × Nat):(nx m q).1 < m + 1:=Q4l _ (Nat.succ_pos m)
theorem x1S (m:Nat):∀ (n:Nat) (q:Nat × Nat),q.1 < m + 1→(itr m n q).1 < m + 1
 | 0,q,h=>h
 | n + 1,q,_=>x1S m n _ (x6C m q)
theorem z7j (m:Nat) (h:Int):(st0 m h).1 < m + 1:=Q4l _ (Nat.succ_pos m)
theorem z5x (h:Int):SetTable.bits h < 2 ^ 64:=by
 unfold SetTable.bits
 have h1:=Int.emod_nonneg h (show (2 ^ 64:Int) ≠ 0 by decide)
 have h2:=Int.emod_lt_of_pos h (show (0:Int) < 2 ^ 64 by decide)
 omega
theorem x0h {m k:Nat} (hm:m + 1 = 2 ^ k) (h:Int) {j:Nat} (hj:j ≤ m):∃ n,n < SetTable.turns m∧(itr m n (st0 m h)).1 = j:=by
 have e13:(itr m 13 (st0 m h)).2 = 0:=by
  rw [z7h]
  refine Nat.div_eq_of_lt (Q1y (z5x h) (by decide))
 obtain ⟨i,hi⟩:∃ i,(itr m 13 (st0 m h)).1 = i:=⟨_,rfl⟩
 have hil:i < m + 1:=hi ▸ x1S m 13 _ (z7j m h)
 have e:itr m 13 (st0 m h) = (i % (m + 1),0):=by rw [Q2X hil]; exact Q4h hi e13
 obtain ⟨t,ht,et⟩:=x3K k i j
 refine ⟨13 + t,by unfold SetTable.turns; omega,?_⟩
 rw [z3h,e,z7i,hm,et,← hm,Q2X (by omega)]
theorem q5K (m i:Nat):i ≤ SetTable.runEnd m i∧SetTable.runEnd m i ≤ i + 9∧(i ≤ m→SetTable.runEnd m i ≤ m):=by
 unfold SetTable.runEnd
 split <;> omega
theorem x0i (m i:Nat):i ∈ z3Q m i:=by
 have:=q5K m i
 exact List.mem_range'.mpr ⟨0,by omega,by omega⟩
theorem x3L (m i:Nat):(z3Q m i).length ≤ 10:=by
 have:=q5K m i
 unfold z3Q
 rw [List.length_range']; omega
theorem x6D {m i j:Nat} (hi:i ≤ m) (h:j ∈ z3Q m i):j ≤ m:=by
 have:=(q5K m i).2.2 hi
 obtain ⟨x,hx,e⟩:=List.mem_range'.mp h
 omega
theorem z7k (m:Nat):∀ (n:Nat) (q:Nat × Nat),(q8P m n q).length ≤ 10 * n
 | 0,q=>Q0W _
 | n + 1,q=>by
  have h1:=x3L m q.1
  have h2:=z7k m n (nx m q)
  show (z3Q m q.1 ++ q8P m n (nx m q)).length ≤ _
  rw [Q0A]; omega
theorem z7l {m:Nat}:∀ {n:Nat} {q:Nat × Nat} {j:Nat},q.1 ≤ m→j ∈ q8P m n q→j ≤ m
 | 0,q,j,_,h=>nomatch h
 | n + 1,q,j,hq,h=>by
  rcases Q0k.mp h with h | h
  ·exact x6D hq h
  ·exact z7l (Q2t.mp (x6C m q)) h
theorem z4t {m:Nat}:∀ {n N:Nat} {q:Nat × Nat},n < N→(itr m n q).1 ∈ q8P m N q
 | 0,N + 1,q,_=>Q0q _ (x0i m q.1)
 | n + 1,N + 1,q,h=>Q0l _ (z4t (n:=n) (q:=nx m q) (by omega))
theorem z4u {m k:Nat} (hm:m + 1 = 2 ^ k) (h:Int) {j:Nat} (hj:j ≤ m):j ∈ q8P m (SetTable.turns m) (st0 m h):=by
 obtain ⟨n,hn,e⟩:=x0h hm h hj
 rw [← e]; exact z4t hn
theorem z0T (m:Nat):∀ (n d:Nat) (q:Nat × Nat),∃ r,q8P m (n + d) q = q8P m n q ++ r
 | 0,d,q=>⟨_,by rw [Nat.zero_add]; rfl⟩
 | n + 1,d,q=>by
  obtain ⟨r,e⟩:=z0T m n d (nx m q)
  refine ⟨r,?_⟩
  rw [show n + 1 + d = (n + d) + 1 by omega]
  show z3Q m q.1 ++ q8P m (n + d) (nx m q) = _
  rw [e,← Q0C]; rfl
theorem q8Q {O:List Nat}:∀ {ws:List Nat} {z:Nat},z ∈ ws→z ∉ O→∃ xs y ys,ws = xs ++ y :: ys∧y ∉ O∧∀ x ∈ xs,x ∈ O
 | w :: ws,z,hz,ho=>by
  rcases Q2R (w ∈ O) with hw | hw
  ·have hz':z ∈ ws:=(Q0s.mp hz).resolve_left fun e=>ho (e ▸ hw)
   obtain ⟨xs,y,ys,e,h1,h2⟩:=q8Q hz' ho
   exact ⟨w :: xs,y,ys,by rw [e]; rfl,h1,fun x hx=>(Q0s.mp hx).elim (fun e=>e ▸ hw) (h2 x)⟩
  ·exact ⟨[],w,ws,rfl,hw,fun x hx=>nomatch hx⟩
theorem z5y {O xs ys as bs L r1 r2:List Nat} {z j:Nat} (e1:L = xs ++ z :: ys ++ r1) (hz:z ∉ O) (e2:L = as ++ j :: bs ++ r2) (ha:∀ x ∈ as,x ∈ O) (hj:j ∈ O):j ∈ xs:=by
 have g1:L[xs.length]? = some z:=by rw [e1,Q0C,Q1d (Q0W _),Q3R]; rfl
 have g2:L[as.length]? = some j:=by rw [e2,Q0C,Q1d (Q0W _),Q3R]; rfl
 rcases Q3w as.length xs.length with h | h | h
 ·rw [e1,Q0C,Q1j h] at g2
  exact Q0N g2
 ·rw [h,g1] at g2
  cases g2; exact absurd hj hz
 ·rw [e2,Q0C,Q1j h] at g1
  exact absurd (ha z (Q0N g1)) hz
structure TOk (t:SetTable) (hs:List Int):Prop where
 ris:Ris t.place.toList
 dm:t.dummies = #[]
 sz:t.place.size = hs.length
 pw:∃ k,t.mask + 1 = 2 ^ k∧1 ≤ k
 bd:∀ x ∈ t.place.toList,x ≤ t.mask
 rch:∀ (i:Nat) (h:Int) (j:Nat),hs[i]? = some h→t.place.toList[i]? = some j→∃ N xs ys,q8P t.mask N (st0 t.mask h) = xs ++ j :: ys∧∀ x ∈ xs,x ∈ t.place.toList
theorem TOk.odd {t:SetTable} {hs:List Int} (T:TOk t hs):t.mask % 2 = 1:=by
 obtain ⟨k,e,hk⟩:=T.pw
 obtain ⟨k',rfl⟩:∃ k',k = k' + 1:=⟨k - 1,by omega⟩
 rw [Q1W] at e
 omega
theorem TOk.free {t:SetTable} {hs:List Int} (T:TOk t hs) (hl:hs.length ≤ t.mask) (h:Int):∃ xs z ys,q8P t.mask (SetTable.turns t.mask) (st0 t.mask h) = xs ++ z :: ys∧z ∉ t.place.toList∧(∀ x ∈ xs,x ∈ t.place.toList)∧xs.length < 10 * SetTable.turns t.mask∧z ≤ t.mask:=by
 obtain ⟨k,hk,_⟩:=T.pw
 obtain ⟨j,hj,hn⟩:=st_missing t.place.toList (t.mask + 1) (by have:=T.sz; rw [Q1c]; omega)
 obtain ⟨xs,z,ys,e,h1,h2⟩:=q8Q (z4u hk h (Q2t.mp hj)) hn
 refine ⟨xs,z,ys,e,h1,h2,?_,?_⟩
 ·have:=z7k t.mask (SetTable.turns t.mask) (st0 t.mask h)
  rw [e,Q0A,Q0d] at this
  omega
 ·exact z7l (Q2t.mp (z7j t.mask h)) (by rw [e]; exact Q0l _ Q0g)
theorem TOk.before {t:SetTable} {hs:List Int} (T:TOk t hs) {h:Int} {xs ys:List Nat} {z i j N:Nat} (e:q8P t.mask N (st0 t.mask h) = xs ++ z :: ys) (hz:z ∉ t.place.toList) (hi:hs[i]? = some h) (hj:t.place.toList[i]? = some j):j ∈ xs:=by
 obtain ⟨M,as,bs,e2,ha⟩:=T.rch i h j hi hj
 obtain ⟨r1,f1⟩:=z0T t.mask N M (st0 t.mask h)
 obtain ⟨r2,f2⟩:=z0T t.mask M N (st0 t.mask h)
 rw [e] at f1
 rw [e2,Nat.add_comm] at f2
 exact z5y f1 hz f2 ha (Q0N hj)
def Rem (m:Nat) (p:SetTable.Probe) (ws:List Nat):Prop:=p.dummy = none∧∃ N,ws = Q3D p.j (p.more + 1) ++ q8P m N (nx m (p.i,p.perturb))
theorem z7m (t:SetTable) (h:Int) (N:Nat):Rem t.mask (t.probeStart h) (q8P t.mask (N + 1) (st0 t.mask h)):=by
 refine ⟨rfl,N,?_⟩
 show z3Q t.mask (SetTable.bits h % (t.mask + 1)) ++ _ = Q3D (SetTable.bits h % (t.mask + 1)) (SetTable.runEnd t.mask (SetTable.bits h % (t.mask + 1)) - SetTable.bits h % (t.mask + 1) + 1) ++ _
 have:=(q5K t.mask (SetTable.bits h % (t.mask + 1))).1
 unfold z3Q
 rw [show SetTable.runEnd t.mask (SetTable.bits h % (t.mask + 1)) - SetTable.bits h % (t.mask + 1) + 1 = SetTable.runEnd t.mask (SetTable.bits h % (t.mask + 1)) + 1 - SetTable.bits h % (t.mask + 1) by omega]
 rfl
theorem z4v {t:SetTable} {p:SetTable.Probe} {x:Nat} {ws:List Nat} (R:Rem t.mask p (x :: ws)):x = p.j∧(ws ≠ []→Rem t.mask (t.advance p) ws):=by
 obtain ⟨hd,N,e⟩:=R
 rw [List.range'_succ,Q0x] at e
 injection e with e1 e2
 refine ⟨e1,fun hne=>?_⟩
 unfold SetTable.advance
 by_cases hm:p.more > 0
 ·rw [if_pos hm]
  refine ⟨hd,N,?_⟩
  show ws = Q3D (p.j + 1) (p.more - 1 + 1) ++ _
  rw [show p.more - 1 + 1 = p.more by omega]
  exact e2
 ·rw [if_neg hm]
  have h0:p.more = 0:=by omega
  rw [h0] at e2
  cases N with
  | zero=>exact absurd e2 (by simpa [q8P] using hne)
  | succ N=>
   refine ⟨hd,N,?_⟩
   have hr:=(q5K t.mask (nx t.mask (p.i,p.perturb)).1).1
   show ws = Q3D (nx t.mask (p.i,p.perturb)).1 (SetTable.runEnd t.mask (nx t.mask (p.i,p.perturb)).1 - (nx t.mask (p.i,p.perturb)).1 + 1) ++ q8P t.mask N (nx t.mask (nx t.mask (p.i,p.perturb)))
   rw [show SetTable.runEnd t.mask (nx t.mask (p.i,p.perturb)).1 - (nx t.mask (p.i,p.perturb)).1 + 1 = SetTable.runEnd t.mask (nx t.mask (p.i,p.perturb)).1 + 1 - (nx t.mask (p.i,p.perturb)).1 by omega]
   exact e2
theorem z4w {t:SetTable} (r:Ris t.place.toList) (hd:t.dummies = #[]) (hashAt:Nat→Int) (h:Int) {z:Nat} (hz:z ∉ t.place.toList) {ys:List Nat}:∀ (xs:List Nat) (f:Nat) (p:SetTable.Probe),Rem t.mask p (xs ++ z :: ys)→(∀ x ∈ xs,x ∈ t.place.toList)→xs.length < f →
  (SetTable.probe.go t hashAt h f p = some (.empty z none)∧∀ i j,t.place.toList[i]? = some j→j ∈ xs→hashAt i ≠ h) ∨
  ∃ as b cs i np,xs = as ++ b :: cs∧t.place.toList[i]? = some b∧hashAt i = h∧(∀ i' j',t.place.toList[i']? = some j'→j' ∈ as→hashAt i' ≠ h)∧SetTable.probe.go t hashAt h f p = some (.candidate b i np)∧Rem t.mask np (cs ++ z :: ys)
 | _,0,_,_,_,hf=>absurd hf (Nat.not_lt_zero _)
 | [],f + 1,p,R,_,_=>by
  obtain ⟨e,_⟩:=z4v R
  refine .inl ⟨?_,fun i j _ hj=>nomatch hj⟩
  have hs:=slot_empty hd hz
  show (match t.slot p.j with
   | .empty=>some (SetTable.Met.empty p.j p.dummy)
   | .dummy=>SetTable.probe.go t hashAt h f (t.advance { p with dummy:=some p.j })
   | .live i=>if hashAt i == h then some (.candidate p.j i (t.advance p)) else SetTable.probe.go t hashAt h f (t.advance p)) = _
  rw [← e,hs,R.1]
 | x :: xs,f + 1,p,R,hx,hf=>by
  obtain ⟨e,nxt⟩:=z4v R
  have R2:=nxt (by simp)
  have hmem:=hx x Q0g
  obtain ⟨i,hi⟩:=Q2u.mp hmem
  have hs:=slot_live r hi
  have one:∀ i',t.place.toList[i']? = some x→i' = i:=fun i' hi'=>by
   have:=slot_live r hi'
   rw [hs] at this
   injection this with this
   exact this.symm
  have unf:SetTable.probe.go t hashAt h (f + 1) p = if hashAt i == h then some (.candidate x i (t.advance p)) else SetTable.probe.go t hashAt h f (t.advance p):=by
   show (match t.slot p.j with
    | .empty=>some (SetTable.Met.empty p.j p.dummy)
    | .dummy=>SetTable.probe.go t hashAt h f (t.advance { p with dummy:=some p.j })
    | .live i=>if hashAt i == h then some (.candidate p.j i (t.advance p)) else SetTable.probe.go t hashAt h f (t.advance p)) = _
   rw [← e,hs]
  rw [unf]
  by_cases hh:hashAt i = h
  ·rw [if_pos (by rw [hh]; exact beq_self_eq_true h)]
   exact .inr ⟨[],x,xs,i,_,rfl,hi,hh,(fun _ _ _ z=>by cases z),rfl,R2⟩
  ·rw [if_neg (by rw [beq_iff_eq]; exact hh)]
   have hf':xs.length < f:=by rw [Q0d] at hf; omega
   rcases z4w r hd hashAt h hz xs f (t.advance p) R2 (fun y hy=>hx y (Q0h _ hy)) hf' with ⟨g1,g2⟩ | ⟨as,b,cs,i2,np,g1,g2,g3,g4,g5,g6⟩
   ·refine .inl ⟨g1,fun i' j' hj hm=>?_⟩
    rcases Q0s.mp hm with e' | hm
    ·rw [one i' (e' ▸ hj)]; exact hh
    ·exact g2 i' j' hj hm
   ·refine .inr ⟨x :: as,b,cs,i2,np,by rw [g1]; rfl,g2,g3,fun i' j' hj hm=>?_,g5,g6⟩
    rcases Q0s.mp hm with e' | hm
    ·rw [one i' (e' ▸ hj)]; exact hh
    ·exact g4 i' j' hj hm
end DST

namespace DST
open PySem L2
theorem TOk.put {t:SetTable} {hs:List Int} (T:TOk t hs) {h:Int} {z N:Nat} {xs ys:List Nat} (e:q8P t.mask N (st0 t.mask h) = xs ++ z :: ys) (hz:z ∉ t.place.toList) (hx:∀ x ∈ xs,x ∈ t.place.toList) (hm:z ≤ t.mask) :
  SetTable.below t.place z ≤ hs.length∧TOk (t.put z).1 (hs.take (SetTable.below t.place z) ++ h :: hs.drop (SetTable.below t.place z))∧(t.put z).1.fill = hs.length + 1:=by
 have cut:=(below_cut T.ris z).1
 generalize hp:SetTable.below t.place z = p at cut ⊢
 have hpl:p ≤ t.place.toList.length:=by rw [Q1c]; exact cut
 have hph:p ≤ hs.length:=by rw [← T.sz]; exact cut
 have new:(t.put z).1.place.toList = t.place.toList.take p ++ z :: t.place.toList.drop p:=by rw [put_place,hp]
 have old:∀ {x:Nat},x ∈ t.place.toList→x ∈ (t.put z).1.place.toList:=fun hx=>by rw [new]; exact mem_ins.2 (.inr hx)
 have sz:(t.put z).1.place.size = hs.length + 1:=by
  rw [← Q1c,new,len_ins _ hpl,Q1c,T.sz]
 have free:t.place[SetTable.below t.place z]? ≠ some z:=fun c=>hz (by
  rw [← Q1E] at c
  exact Q0N c)
 refine ⟨hph,{ ris:=ris_insert T.ris free,dm:=put_dm T.dm z,sz:=?_,pw:=T.pw,bd:=?_,rch:=?_ },?_⟩
 ·rw [sz,len_ins _ hph]
 ·intro x hx'
  rw [new] at hx'
  exact (mem_ins.1 hx').elim (fun c=>c ▸ hm) (T.bd x)
 ·intro i g j hi hj
  rw [tins_get hs hph] at hi
  rw [new,tins_get _ hpl] at hj
  show ∃ N xs ys,q8P t.mask N (st0 t.mask g) = xs ++ j :: ys∧_
  have lift:∀ i',hs[i']? = some g→t.place.toList[i']? = some j→∃ N xs ys,q8P t.mask N (st0 t.mask g) = xs ++ j :: ys∧∀ x ∈ xs,x ∈ (t.put z).1.place.toList:=fun i' a b=>by
   obtain ⟨N',as,bs,c,d⟩:=T.rch i' g j a b
   exact ⟨N',as,bs,c,fun x hx=>old (d x hx)⟩
  rcases Q3w i p with c | c | c
  ·rw [if_pos c] at hi hj
   exact lift i hi hj
  ·rw [if_neg (by omega),if_pos c] at hi hj
   cases hi
   cases hj
   exact ⟨N,xs,ys,e,fun x hx'=>old (hx x hx')⟩
  ·rw [if_neg (by omega),if_neg (by omega)] at hi hj
   exact lift (i - 1) hi hj
 ·show (t.put z).1.place.size + (t.put z).1.dummies.size = _
  rw [sz,put_dm T.dm z]; rfl
def emp (ow:Array (Option Nat)) (j:Nat):Bool:=(ow.getD j (some 0)).isNone
theorem z4x (m:Nat) (ow:Array (Option Nat)):∀ (n i b:Nat),SetTable.layClean.free m ow n i b = (q8P m n (i,b)).find? (emp ow)
 | 0,i,b=>rfl
 | n + 1,i,b=>by
  have hr:(z3Q m i).find? (emp ow) = ((Q1e (SetTable.runEnd m i + 1 - i)).find? fun k=>emp ow (i + k)).map (i + ·):=by
   unfold z3Q
   rw [List.range'_eq_map_range,List.find?_map]; rfl
  show (match (Q1e (SetTable.runEnd m i + 1 - i)).find? (fun k=>(ow.getD (i + k) (some 0)).isNone) with
   | some k=>some (i + k)
   | none=>SetTable.layClean.free m ow n (SetTable.leap m i b).1 (SetTable.leap m i b).2) = (z3Q m i ++ q8P m n (nx m (i,b))).find? (emp ow)
  rw [Q3x,hr]
  cases hf:(Q1e (SetTable.runEnd m i + 1 - i)).find? fun k=>emp ow (i + k) with
  | some k=>
   rw [show (Q1e (SetTable.runEnd m i + 1 - i)).find? (fun k=>(ow.getD (i + k) (some 0)).isNone) = some k from hf]; rfl
  | none=>
   rw [show (Q1e (SetTable.runEnd m i + 1 - i)).find? (fun k=>(ow.getD (i + k) (some 0)).isNone) = none from hf]
   exact z4x m ow n _ _
theorem z4y {p:Nat→Bool}:∀ {ws xs ys:List Nat} {z:Nat},ws = xs ++ z :: ys→p z = true→(∀ x ∈ xs,p x = false)→ws.find? p = some z
 | _,[],ys,z,e,hz,_=>by rw [e]; exact Q1R hz
 | _,x :: xs,ys,z,e,hz,hx=>by
  rw [e,Q0x,Q2n (by rw [hx x Q0g]; simp)]
  exact z4y rfl hz fun y hy=>hx y (Q0h _ hy)
structure Ow (m:Nat) (hs:List Int) (sl:List Nat) (ow:Array (Option Nat)):Prop where
 size:ow.size = m + 1
 len:sl.length = hs.length
 le:∀ j ∈ sl,j ≤ m
 iff:∀ j k,j ≤ m→(ow.getD j none = some k ↔ sl[k]? = some j)
 rch:∀ (k:Nat) (h:Int) (j:Nat),hs[k]? = some h→sl[k]? = some j→∃ N xs ys,q8P m N (st0 m h) = xs ++ j :: ys∧∀ x ∈ xs,x ∈ sl
theorem x0j {ow:Array (Option Nat)} {j:Nat} (h:j < ow.size) (a b:Option Nat):ow.getD j a = ow.getD j b:=by
 rw [Q1g,Q1g,Q2b h]; rfl
theorem Ow.emp_iff {m:Nat} {hs:List Int} {sl:List Nat} {ow:Array (Option Nat)} (O:Ow m hs sl ow) {j:Nat} (hj:j ≤ m):emp ow j = false ↔ j ∈ sl:=by
 have hlt:j < ow.size:=by rw [O.size]; omega
 unfold emp
 rw [x0j hlt (some 0) none]
 cases hg:ow.getD j none with
 | none=>
  refine ⟨fun c=>by simp at c,fun c=>?_⟩
  obtain ⟨k,hk⟩:=Q2u.mp c
  rw [(O.iff j k hj).mpr hk] at hg
  cases hg
 | some k=>exact ⟨fun _=>Q0N ((O.iff j k hj).mp hg),fun _=>rfl⟩
theorem Ow.start (m:Nat):Ow m [] [] (Q3i (m + 1) none) where
 size:=Array.size_replicate ..
 len:=rfl
 le:=fun _ h=>nomatch h
 iff:=fun j k hj=>by
  rw [Q1g,Array.getElem?_replicate]
  constructor
  ·intro c
   split at c <;> cases c
  ·intro c; simp at c
 rch:=fun k h j a _=>by simp at a
theorem Ow.next {m w:Nat} (hm:m + 1 = 2 ^ w) {hs:List Int} {sl:List Nat} {ow:Array (Option Nat)} (O:Ow m hs sl ow) (hl:hs.length ≤ m) (h:Int) :
  ∃ j,SetTable.layClean.free m ow (SetTable.turns m) (SetTable.bits h % (m + 1)) (SetTable.bits h) = some j∧Ow m (hs ++ [h]) (sl ++ [j]) (ow.setIfInBounds j (some hs.length)):=by
 obtain ⟨q,hq,hn⟩:=st_missing sl (m + 1) (by rw [O.len]; omega)
 obtain ⟨xs,z,ys,e,hz,hx⟩:=q8Q (z4u hm h (Q2t.mp hq)) hn
 have hzm:z ≤ m:=z7l (Q2t.mp (z7j m h)) (by rw [e]; exact Q0l _ Q0g)
 have hxm:∀ x ∈ xs,x ≤ m:=fun x hx'=>O.le x (hx x hx')
 have hze:emp ow z = true:=by
  cases c:emp ow z with
  | true=>rfl
  | false=>exact absurd ((O.emp_iff hzm).mp c) hz
 refine ⟨z,?_,?_⟩
 ·rw [z4x]
  exact z4y e hze fun x hx'=>(O.emp_iff (hxm x hx')).mpr (hx x hx')
 ·have hlt:z < ow.size:=by rw [O.size]; omega
  refine { size:=by rw [Array.size_setIfInBounds,O.size],len:=by rw [Q0A,Q0A,O.len]; rfl,le:=?_,iff:=?_,rch:=?_ }
  ·intro j hj
   rcases Q0k.mp hj with hj | hj
   ·exact O.le j hj
   ·rw [Q0t.mp hj]; exact hzm
  ·intro j k hj
   have hjl:j < ow.size:=by rw [O.size]; omega
   by_cases hjz:j = z
   ·subst hjz
    have g:(ow.setIfInBounds j (some hs.length)).getD j none = some hs.length:=by
     rw [Q1g,Array.getElem?_setIfInBounds_self_of_lt hlt]; rfl
    rw [g]
    constructor
    ·intro c
     cases c
     rw [Q1d (by rw [O.len]; exact Q0W _),O.len,Q3R]; rfl
    ·intro c
     rcases Q3w k sl.length with d | d | d
     ·rw [Q1j d] at c
      exact absurd (Q0N c) hz
     ·rw [d,O.len]
     ·rw [Q1d (by omega)] at c
      obtain ⟨u,hu⟩:∃ u,k - sl.length = u + 1:=⟨k - sl.length - 1,by omega⟩
      rw [hu] at c
      simp at c
   ·have g:(ow.setIfInBounds z (some hs.length)).getD j none = ow.getD j none:=by
     rw [Q1g,Q1g,Array.getElem?_setIfInBounds_ne (fun c=>hjz c.symm)]
    rw [g,O.iff j k hj]
    constructor
    ·intro c
     rw [Q1j (Q0r.mp c).1]; exact c
    ·intro c
     rcases Nat.lt_or_ge k sl.length with d | d
     ·rw [Q1j d] at c; exact c
     ·rw [Q1d d] at c
      have:=Q0t.mp (Q0N c)
      exact absurd this hjz
  ·intro k g j hk hj
   rcases Nat.lt_or_ge k hs.length with d | d
   ·rw [Q1j d] at hk
    rw [Q1j (by rw [O.len]; exact d)] at hj
    obtain ⟨N,as,bs,a,b⟩:=O.rch k g j hk hj
    exact ⟨N,as,bs,a,fun x hx'=>Q0q _ (b x hx')⟩
   ·rw [Q1d d] at hk
    rw [Q1d (by rw [O.len]; exact d)] at hj
    have e1:g = h:=Q0t.mp (Q0N hk)
    have e2:j = z:=Q0t.mp (Q0N hj)
    subst e1
    subst e2
    exact ⟨_,xs,ys,e,fun x hx'=>Q0q _ (hx x hx')⟩
def x8w (m:Nat) (acc:Option (Array (Option Nat) × Nat)) (h:Int):Option (Array (Option Nat) × Nat):=do
 let (ow,k) ← acc
 let j ← SetTable.layClean.free m ow (SetTable.turns m) (SetTable.bits h % (m + 1)) (SetTable.bits h)
 pure (ow.setIfInBounds j (some k),k + 1)
theorem z4z {m w:Nat} (hm:m + 1 = 2 ^ w):∀ (rest hs:List Int) (sl:List Nat) (ow:Array (Option Nat)),Ow m hs sl ow→hs.length + rest.length ≤ m →
  ∃ sl' ow',rest.foldl (x8w m) (some (ow,hs.length)) = some (ow',(hs ++ rest).length)∧Ow m (hs ++ rest) sl' ow'
 | [],hs,sl,ow,O,_=>⟨sl,ow,by rw [Q0i]; rfl,by rw [Q0i]; exact O⟩
 | h :: rest,hs,sl,ow,O,hl=>by
  rw [Q0d] at hl
  obtain ⟨j,hj,O2⟩:=O.next hm (by omega) h
  obtain ⟨sl',ow',e,O3⟩:=z4z hm rest (hs ++ [h]) _ _ O2 (by rw [Q0A,Q1r]; omega)
  rw [Q0C] at e O3
  refine ⟨sl',ow',?_,O3⟩
  rw [Q3S]
  have:x8w m (some (ow,hs.length)) h = some (ow.setIfInBounds j (some hs.length),(hs ++ [h]).length):=by
   unfold x8w
   simp only [Option.bind_eq_bind,Q0U]
   rw [hj,Q0A]; rfl
  rw [this]; exact e
theorem z7n {m w:Nat} (hm:m + 1 = 2 ^ w) {hs:Array Int} (hn:hs.size ≤ m):∃ sl ow,SetTable.layClean m hs = some ow∧Ow m hs.toList sl ow:=by
 obtain ⟨sl,ow,e,O⟩:=z4z hm hs.toList [] [] _ (Ow.start m) (by simpa using hn)
 refine ⟨sl,ow,?_,O⟩
 have:SetTable.layClean m hs = (hs.toList.foldl (x8w m) (some (Q3i (m + 1) none,0))).map (·.1):=by
  rw [Array.foldl_toList]; rfl
 rw [this]
 rw [show (some (Q3i (m + 1) none,0):Option (Array (Option Nat) × Nat)) = some (Q3i (m + 1) none,([]:List Int).length) from rfl,e]; rfl
def lvs (m:Nat) (ow:Array (Option Nat)):List (Nat × Nat):=(Q1e (m + 1)).filterMap fun j=>(ow.getD j none).map (j,·)
theorem mem_lvs {m:Nat} {ow:Array (Option Nat)} {j k:Nat}:(j,k) ∈ lvs m ow ↔ j ≤ m∧ow.getD j none = some k:=by
 unfold lvs
 rw [List.mem_filterMap]
 constructor
 ·rintro ⟨i,hi,e⟩
  obtain ⟨q,hq,e2⟩:=Q0V.mp e
  cases e2
  exact ⟨Q2t.mp (Q2N.mp hi),hq⟩
 ·rintro ⟨h1,h2⟩
  exact ⟨j,Q2N.mpr (Nat.lt_succ_of_le h1),by rw [h2]; rfl⟩
theorem z7o (m:Nat) (ow:Array (Option Nat)):(lvs m ow).Pairwise fun a b=>a.1 < b.1:=by
 unfold lvs
 rw [List.pairwise_filterMap]
 refine List.Pairwise.imp (fun {a b} hab x hx y hy=>?_) List.pairwise_lt_range
 obtain ⟨_,_,rfl⟩:=Q0V.mp hx
 obtain ⟨_,_,rfl⟩:=Q0V.mp hy
 exact hab
theorem z5z (t:SetTable) {hs:Array Int} {wanted m w:Nat} (hw:SetTable.sizeAbove wanted = 2 ^ w) (hm:m + 1 = 2 ^ w) (w1:1 ≤ w) (hn:hs.size ≤ m) :
  ∃ t' order,t.relaid hs wanted = some (t',order)∧order.toList.Perm (Q1e hs.size)∧TOk t' (order.toList.map fun i=>hs.getD i 0)∧t'.mask = m∧t'.led = t.led∧t'.plain = t.plain:=by
 obtain ⟨sl,ow,e,O⟩:=z7n hm hn
 have hlen:sl.length = hs.size:=by rw [O.len,Q1c]
 have hmm:SetTable.sizeAbove wanted - 1 = m:=by omega
 have one:∀ {j j' k:Nat},(j,k) ∈ lvs m ow→(j',k) ∈ lvs m ow→j = j':=fun {j j' k} a b=>by
  obtain ⟨a1,a2⟩:=mem_lvs.mp a
  obtain ⟨b1,b2⟩:=mem_lvs.mp b
  have:=((O.iff j k a1).mp a2).symm.trans ((O.iff j' k b1).mp b2)
  cases this; rfl
 refine ⟨{ mask:=m,place:=((lvs m ow).map (·.1)).toArray,dummies:=#[],finger:=t.finger,led:=t.led,moves:=t.movedTo m,plain:=t.plain },((lvs m ow).map (·.2)).toArray,?_,?_,?_,rfl,rfl,rfl⟩
 ·unfold SetTable.relaid SetTable.laid
  rw [hmm,e]; rfl
 ·show ((lvs m ow).map (·.2)).Perm (Q1e hs.size)
  have nd:((lvs m ow).map (·.2)).Nodup:=by
   unfold List.Nodup
   rw [Q1I]
   refine List.Pairwise.imp_of_mem (fun {a b} ha hb hab c=>?_) (z7o m ow)
   obtain ⟨a1,a2⟩:=a
   obtain ⟨b1,b2⟩:=b
   dsimp only at c hab
   subst c
   have:=one ha hb
   omega
  refine (List.perm_ext_iff_of_nodup nd List.nodup_range).mpr fun k=>?_
  rw [Q2N,Q0y]
  constructor
  ·rintro ⟨⟨j,k'⟩,hm',rfl⟩
   obtain ⟨a1,a2⟩:=mem_lvs.mp hm'
   rw [← hlen]
   exact (Q0r.mp ((O.iff j k' a1).mp a2)).1
  ·intro hk
   have hk':sl[k]? = some (sl[k]'(by omega)):=Q0G _
   have hjm:=O.le _ (Q0N hk')
   exact ⟨(_,k),mem_lvs.mpr ⟨hjm,(O.iff _ k hjm).mpr hk'⟩,rfl⟩
 ·have pl:∀ {x:Nat},x ∈ sl→x ∈ (lvs m ow).map (·.1):=fun {x} hx=>by
   obtain ⟨k,hk⟩:=Q2u.mp hx
   have hxm:=O.le x hx
   exact Q0y.mpr ⟨(x,k),mem_lvs.mpr ⟨hxm,(O.iff x k hxm).mpr hk⟩,rfl⟩
  refine { ris:=?_,dm:=rfl,sz:=?_,pw:=⟨w,hm,w1⟩,bd:=?_,rch:=?_ }
  ·show ((lvs m ow).map (·.1)).Pairwise (· < ·)
   rw [Q1I]
   exact z7o m ow
  ·show ((lvs m ow).map (·.1)).length = (((lvs m ow).map (·.2)).map fun i=>hs.getD i 0).length
   rw [Q0f,Q0f,Q0f]
  ·intro x hx
   obtain ⟨⟨j,k⟩,hm',rfl⟩:=Q0y.mp (show x ∈ (lvs m ow).map (·.1) from hx)
   exact (mem_lvs.mp hm').1
  ·intro i h j hi hj
   have hi2:(((lvs m ow).map (·.2)).map fun i=>hs.getD i 0)[i]? = some h:=hi
   have hj2:((lvs m ow).map (·.1))[i]? = some j:=hj
   rw [Q0O,Q0O] at hi2
   rw [Q0O] at hj2
   cases hl:(lvs m ow)[i]? with
   | none=>rw [hl] at hj2; cases hj2
   | some q=>
    obtain ⟨j',k⟩:=q
    rw [hl] at hi2 hj2
    cases hj2
    have e2:hs.getD k 0 = h:=Q1o.inj hi2
    obtain ⟨a1,a2⟩:=mem_lvs.mp (Q0N hl)
    have hsl:=(O.iff _ k a1).mp a2
    have hk:k < hs.size:=by rw [← hlen]; exact (Q0r.mp hsl).1
    have hh:hs.toList[k]? = some h:=by
     rw [Q1E,Q2b hk,← e2,Q1g,Q2b hk]; rfl
    obtain ⟨N,xs,ys,a,b⟩:=O.rch k h _ hh hsl
    exact ⟨N,xs,ys,a,fun x hx=>pl (b x hx)⟩
theorem z7p (n:Nat):∀ (f a:Nat),n < 2 ^ (a + f)→∃ b,SetTable.sizeAbove.go n f (2 ^ a) = 2 ^ b∧a ≤ b∧n < 2 ^ b∧(b = a∨2 ^ b ≤ 2 * n)
 | 0,a,h=>⟨a,rfl,Q0W _,h,.inl rfl⟩
 | f + 1,a,h=>by
  show ∃ b,(if 2 ^ a ≤ n then SetTable.sizeAbove.go n f (2 ^ a * 2) else 2 ^ a) = 2 ^ b∧_
  by_cases hc:2 ^ a ≤ n
  ·rw [if_pos hc,← Q1W]
   obtain ⟨b,e,h1,h2,h3⟩:=z7p n f (a + 1) (by rw [show a + 1 + f = a + (f + 1) by omega]; exact h)
   refine ⟨b,e,by omega,h2,.inr ?_⟩
   rcases h3 with h3 | h3
   ·rw [h3,Q1W]; omega
   ·exact h3
  ·rw [if_neg hc]
   exact ⟨a,rfl,Q0W _,by omega,.inl rfl⟩
theorem z5A {n:Nat} (h:n < 2 ^ 60):∃ b,SetTable.sizeAbove n = 2 ^ b∧3 ≤ b∧n < 2 ^ b∧(2 ^ b = 8∨2 ^ b ≤ 2 * n):=by
 obtain ⟨b,e,h1,h2,h3⟩:=z7p n 64 3 (Nat.lt_trans h (by decide))
 refine ⟨b,e,h1,h2,?_⟩
 rcases h3 with rfl | h3
 ·exact .inl rfl
 ·exact .inr h3
end DST

namespace DST
open PySem PySem.Spec L2 PyProof.Rows
section
variable {P:Program} {w:World} {E:Value→Shared→Prop}
mutual
theorem z0U:∀ (k:NestedKey) (v:Value) (n:Nat) (s:Shared),NestedIs s.heap k v→k.depth ≤ n→∀ (A:Around) (Q:Bool→Shared→Prop),Q false s→wpAny (model P w) A (ofAClassStatement n v) Q E s
 | .none,_,n,s,hk,_,A,Q,q=>by cases hk; cases n <;> exact jbc q
 | .num i,_,n,s,hk,_,A,Q,q=>by cases hk <;> (cases n <;> exact jbc q)
 | .text x,_,n,s,hk,_,A,Q,q=>by cases hk; cases n <;> exact jbc q
 | .tup ks,_,0,s,hk,hn,A,Q,q=>absurd hn (by show ¬ NestedKey.depthAll ks + 1 ≤ 0; omega)
 | .tup ks,_,n + 1,s,hk,hn,A,Q,q=>by
  cases hk with
  | @tup a o vs cap ks ho hc hd hv=>
   have all:=z1T ks vs.toList n s hv (by have:NestedKey.depthAll ks + 1 ≤ n + 1:=hn; omega)
   have tT:s.TypeIs (.ref a) "tuple":=⟨o,ho,hc⟩
   unfold ofAClassStatement
   refine jbb (wpAny_typeOf tT ?_)
   dsimp only
   rw [show (("tuple":String) == "tuple") = true by decide]
   simp only [if_true]
   refine jbb (jbc ?_)
   simp only [Q1v,Q0c,if_false]
   try refine jbb (jbc ?_)
   show wpAny _ _ (seqItems? (Value.ref a) >>= _) _ _ s
   refine jbb (wpAny_seqItems ho hd ?_)
   dsimp only
   refine jbb ?_
   show wpAny _ _ (forIn vs _ _) _ _ s
   rw [← Array.forIn_toList]
   refine wpAny_forIn_list _ (fun left acc s1=>acc.1 = none∧s1 = s∧∀ u ∈ left,∀ (A:Around) (Q:Bool→Shared→Prop),Q false s→wpAny (model P w) A (ofAClassStatement n u) Q E s) _ (fun u left acc s1=>?_) (fun acc s1=>?_) _ _ ⟨rfl,rfl,all⟩
   ·rintro ⟨h1,rfl,h3⟩
    refine jbb (h3 u Q0g _ _ ?_)
    simp only [Q0c,if_false]
    exact jbc ⟨rfl,rfl,fun y hy=>h3 y (Q0h _ hy)⟩
   ·obtain ⟨a1,a2⟩:=acc
    rintro ⟨h1,rfl,h3⟩
    dsimp only at h1
    subst h1
    exact jbc q
theorem z1T:∀ (ks:List NestedKey) (vs:List Value) (n:Nat) (s:Shared),NestedAll s.heap ks vs→NestedKey.depthAll ks ≤ n→∀ u ∈ vs,∀ (A:Around) (Q:Bool→Shared→Prop),Q false s→wpAny (model P w) A (ofAClassStatement n u) Q E s
 | [],_,n,s,hk,_,u,hu=>by cases hk; cases hu
 | k :: ks,_,n,s,hk,hn,u,hu=>by
  cases hk with
  | @cons k v ks vs h1 h2=>
   have hn':max k.depth (NestedKey.depthAll ks) ≤ n:=hn
   intro A Q q
   rcases Q0s.mp hu with e | hu
   ·subst e
    exact z0U k _ n s h1 (by omega) A Q q
   ·exact z1T ks _ n s h2 (by omega) u hu A Q q
end
mutual
/-- hashing by value: some answer -/
theorem z1U:∀ (k:NestedKey) (v:Value) (n:Nat) (s:Shared),NestedIs s.heap k v→∀ (A:Around) (Q:Bool→Shared→Prop),(∀ b,Q b s)→wpAny (model P w) A (hashByValue n v) Q E s
 | .none,_,n,s,hk,A,Q,q=>by cases hk; cases n <;> exact jbc (q _)
 | .num i,_,n,s,hk,A,Q,q=>by cases hk <;> (cases n <;> exact jbc (q _))
 | .text x,_,n,s,hk,A,Q,q=>by cases hk; cases n <;> exact jbc (q _)
 | .tup ks,_,0,s,hk,A,Q,q=>by cases hk; exact jbc (q _)
 | .tup ks,_,n + 1,s,hk,A,Q,q=>by
  cases hk with
  | @tup a o vs cap ks ho hc hd hv=>
   have all:=q9Q ks vs.toList n s hv
   have tT:s.TypeIs (.ref a) "tuple":=⟨o,ho,hc⟩
   unfold hashByValue
   refine jbb (wpAny_specialOf tT F.slot_tuple_hash.lookup ?_)
   show wpAny _ _ (seqItems? (Value.ref a) >>= _) _ _ s
   refine jbb (wpAny_seqItems ho hd ?_)
   refine jbb ?_
   show wpAny _ _ (forIn vs _ _) _ _ s
   rw [← Array.forIn_toList]
   refine wpAny_forIn_list _ (fun left acc s1=>acc.1 = none∧s1 = s∧∀ u ∈ left,∀ (A:Around) (Q:Bool→Shared→Prop),(∀ b,Q b s)→wpAny (model P w) A (hashByValue n u) Q E s) _ (fun u left acc s1=>?_) (fun acc s1=>?_) _ _ ⟨rfl,rfl,all⟩
   ·rintro ⟨h1,rfl,h3⟩
    refine jbb (h3 u Q0g _ _ fun b=>?_)
    cases b with
    | true=>
     simp only [Q1v,Q0c,if_false]
     exact jbc ⟨rfl,rfl,fun y hy=>h3 y (Q0h _ hy)⟩
    | false=>
     simp only [Q4b,if_true]
     exact jbc (jbc (q _))
   ·obtain ⟨a1,a2⟩:=acc
    rintro ⟨h1,rfl,h3⟩
    dsimp only at h1
    subst h1
    exact jbc (q _)
theorem q9Q:∀ (ks:List NestedKey) (vs:List Value) (n:Nat) (s:Shared),NestedAll s.heap ks vs→∀ u ∈ vs,∀ (A:Around) (Q:Bool→Shared→Prop),(∀ b,Q b s)→wpAny (model P w) A (hashByValue n u) Q E s
 | [],_,n,s,hk,u,hu=>by cases hk; cases hu
 | k :: ks,_,n,s,hk,u,hu=>by
  cases hk with
  | @cons k v ks vs h1 h2=>
   intro A Q q
   rcases Q0s.mp hu with e | hu
   ·subst e
    exact z1U k _ n s h1 A Q q
   ·exact q9Q ks _ n s h2 u hu A Q q
end
def KAt (h:Heap) (k:NestedKey) (b:Addr):Prop:=NestedIs h k (.ref b)∧k.depth ≤ 8
theorem z1V {s:Shared} {A:Around} {k:NestedKey} {b:Addr} {Q:Bool→Shared→Prop} (hk:KAt s.heap k b) {ys:List Value} (hy:∀ y ∈ ys,∃ k' c,y = Value.ref c∧KAt s.heap k' c) (q:Q false s) :
  wpAny (model P w) A (searchCouldBeSeen (.ref b) ys) Q E s:=by
 unfold searchCouldBeSeen
 refine jbb (wpAny_forIn_list _ (fun left acc s1=>acc.1 = none∧s1 = s∧∀ y ∈ left,∃ k' c,y = Value.ref c∧KAt s.heap k' c) _ (fun y left acc s1=>?_) (fun acc s1=>?_) _ _ ⟨rfl,rfl,hy⟩)
 ·rintro ⟨h1,rfl,h3⟩
  obtain ⟨k',c,rfl,hc⟩:=h3 y Q0g
  have more:∀ u ∈ left,∃ k' c,u = Value.ref c∧KAt s1.heap k' c:=fun u hu=>h3 u (Q0h _ hu)
  dsimp only
  cases hv:(b == c || (carriedByValue (.ref b) && carriedByValue (.ref c))) with
  | true=>exact wp_if_pos rfl (jbc ⟨rfl,rfl,more⟩)
  | false=>
   refine wp_if_neg Q1z (jbb ((nestedKind P w).quiet hk ?_))
   simp only [Q1v,Q0c,if_false]
   refine jbb ((nestedKind P w).quiet hc ?_)
   simp only [Q1v,Q0c,if_false]
   refine jbb (z0U k _ 8 s1 hk.1 hk.2 _ _ ?_)
   simp only [Q0c,if_false]
   refine jbb (z0U k' _ 8 s1 hc.1 hc.2 _ _ ?_)
   simp only [Q0c,if_false]
   exact jbc ⟨rfl,rfl,more⟩
 ·obtain ⟨a1,a2⟩:=acc
  rintro ⟨h1,rfl,h3⟩
  dsimp only at h1
  subst h1
  exact jbc q
end
def rws (w:World) (L:List (Addr × NestedKey)):List (Int × Value):=L.map fun p=>(p.2.hash w,Value.ref p.1)
structure SR (w:World) (h:Heap) (a:Addr) (L:List (Addr × NestedKey)) (es:Array (Int × Value)) (ep:Nat) (t:SetTable):Prop where
 ob:∃ o,h.get? a = some o∧o.ExactSet∧o.data = .set es ep t
 rows:es.toList = rws w L
 tab:TOk t (L.map fun p=>p.2.hash w)
 nd:(L.map (·.2)).Nodup
 key:∀ p ∈ L,KAt h p.2 p.1
 led:w.params.followText "set-order" = true∨t.led = true
 room:L.length * 5 < t.mask * 3
 few:L.length ≤ 1000
 top:t.mask ≤ 8191
section
variable {P:Program} {w:World} {A:Around} {E:Value→Shared→Prop} {s:Shared} {a:Addr} {L:List (Addr × NestedKey)} {es:Array (Int × Value)} {ep:Nat} {t:SetTable}
theorem z7q (w:World) (L:List (Addr × NestedKey)):(rws w L).length = L.length:=Q0f _
theorem x1T (w:World) {L:List (Addr × NestedKey)} {i:Nat} {p:Addr × NestedKey} (h:L[i]? = some p):(rws w L)[i]? = some (p.2.hash w,Value.ref p.1):=by
 unfold rws; rw [Q0O,h]; rfl
theorem q8R (h:es.toList = rws w L):es.size = L.length:=by rw [← Q1c,h,z7q]
theorem SR.fit (R:SR w s.heap a L es ep t):t.fits es.size = true:=by
 have h1:=R.tab.sz
 have h2:=q8R R.rows
 have h3:=R.room
 rw [Q0f] at h1
 unfold SetTable.fits SetTable.fill
 rw [R.tab.dm,Q1l,beq_iff_eq,decide_eq_true_eq]
 refine ⟨by omega,?_⟩
 show t.place.size + 0 ≤ t.mask
 omega
theorem SR.at (R:SR w s.heap a L es ep t) {i:Nat} {p:Addr × NestedKey} (h:L[i]? = some p):es[i]? = some (p.2.hash w,Value.ref p.1):=by
 rw [← Q1E,R.rows]; exact x1T w h
theorem SR.kept (R:SR w s.heap a L es ep t):¬ t.gaveWay = true:=by
 unfold SetTable.gaveWay
 rw [R.tab.odd]; decide
def z7r (a:Addr) (x:Value) (h:Int) (fuel:Nat) (es:Array (Int × Value)) (t:SetTable) (j i:Nat) (next:SetTable.Probe):Sem SetFound:=do
 let some (_,y):=es[i]? | unsupported "internal:set-entry"
 let equal ← holding [y] (eqBool y x)
 let (es',_,t') ← setState a
 if true && equal then return .there none
 let some same:=t'.sameMemory t.moves t.mask | unsupported "set.changed-during-lookup:is-the-new-block-at-the-old-address"
 let still ← match (if same then t'.slot j else .empty) with
  | .live i'=>match es'[i']? with
   | some (_,y')=>do pure (if ← isSame y' y then some i' else none)
   | none=>pure none
  | _=>pure none
 match still with
 | none=>rule "set.search.anew"; setSearchFrom a x h true fuel none
 | some i'=>if equal then return .there (some i') else setSearchFrom a x h true fuel (some next)
theorem z5B (a:Addr) (x:Value) (h:Int) (fuel:Nat) (stand:Option SetTable.Probe):setSearchFrom a x h true (fuel + 1) stand = (do
  let (es,_,t) ← setState a
  if t.gaveWay then unsupported "set:on-a-table-that-gave-way"
  let some met:=t.probe (fun i=>(es[i]?.map (·.1)).getD 0) h (stand.getD (t.probeStart h)) | unsupported "internal:set-table-without-an-empty-slot"
  match met with
  | .empty j dummy=>
   match dummy with
   | none=>return .free j false
   | some d=>
    if true && t.slot d != .dummy then rule "set.search.the-dummy-was-taken"; return ← setSearchFrom a x h true fuel none
    return .free d true
  | .candidate j i next=>
   if !t.led then
    if ← searchCouldBeSeen x ((es.filter (·.1 == h)).toList.map (·.2)) then unsupported "set:the-search-would-show-the-table"
   z7r a x h fuel es t j i next):=by rfl
theorem z1W (hu:A.units + 8 < cLine) (R:SR w s.heap a L es ep t) {x:Addr} {k:NestedKey} (hx:KAt s.heap k x) {z:Nat} (hz:z ∉ t.place.toList) {ys:List Nat} {Q:SetFound→Shared→Prop}
  (yes:k ∈ L.map (·.2)→Q (.there none) s) (no:k ∉ L.map (·.2)→Q (.free z false) s) :
  ∀ (f:Nat) (xs:List Nat) (stand:Option SetTable.Probe),Rem t.mask (stand.getD (t.probeStart (k.hash w))) (xs ++ z :: ys)→(∀ u ∈ xs,u ∈ t.place.toList)→xs.length < f→xs.length < 10 * SetTable.turns t.mask →
   (∀ (i:Nat) p j,L[i]? = some p→p.2 = k→t.place.toList[i]? = some j→j ∈ xs)→wpAny (model P w) A (setSearchFrom a (.ref x) (k.hash w) true f stand) Q E s
 | 0,xs,stand,_,_,hf,_,_=>absurd hf (Nat.not_lt_zero _)
 | f + 1,xs,stand,hR,ho,hf,hT,hre=>by
  obtain ⟨o,hob,hex,hd⟩:=R.ob
  rw [z5B]
  refine jbb (wpAny_setState_of hob hd R.fit ?_)
  dsimp only
  refine wp_if_neg R.kept ?_
  try refine jbb (jbc ?_)
  have hat:∀ {i:Nat} {p},L[i]? = some p→(es[i]?.map (·.1)).getD 0 = p.2.hash w:=fun {i p} h=>by rw [R.at h]; rfl
  have szL:t.place.toList.length = L.length:=by rw [Q1c,R.tab.sz,Q0f]
  have hfull:∀ {i:Nat} {j:Nat},t.place.toList[i]? = some j→∃ p,L[i]? = some p∧p ∈ L:=fun {i j} h=>by
   have:i < L.length:=by rw [← szL]; exact (Q0r.mp h).1
   exact ⟨_,Q0G this,Q3K this⟩
  have hplace:∀ {i:Nat} {p},L[i]? = some p→∃ j,t.place.toList[i]? = some j:=fun {i p} h=>by
   have:i < t.place.toList.length:=by rw [szL]; exact (Q0r.mp h).1
   exact ⟨_,Q0G this⟩
  rcases z4w R.tab.ris R.tab.dm (fun i=>(es[i]?.map (·.1)).getD 0) (k.hash w) hz xs (10 * SetTable.turns t.mask) _ hR ho hT with ⟨g1,g2⟩ | ⟨as,b,cs,i,np,g1,g2,g3,g4,g5,g6⟩
  ·rw [show t.probe (fun i=>(es[i]?.map (·.1)).getD 0) (k.hash w) (stand.getD (t.probeStart (k.hash w))) = some (.empty z none) from g1]
   dsimp only
   refine jbc (no fun hm=>?_)
   obtain ⟨p,hp,hpk⟩:=Q0y.mp hm
   obtain ⟨i,hi⟩:=Q2u.mp hp
   obtain ⟨j,hj⟩:=hplace hi
   exact g2 i j hj (hre i p j hi hpk hj) ((hat hi).trans (by rw [hpk]))
  ·rw [show t.probe (fun i=>(es[i]?.map (·.1)).getD 0) (k.hash w) (stand.getD (t.probeStart (k.hash w))) = some (.candidate b i np) from g5]
   dsimp only
   obtain ⟨p,hp,hpm⟩:=hfull g2
   have rest:wpAny (model P w) A (z7r a (.ref x) (k.hash w) f es t b i np) Q E s:=by
    unfold z7r
    rw [R.at hp]
    dsimp only
    refine jbb (jbf ((nestedKind P w).eqBool hu (R.key p hpm) hx ?_))
    refine jbb (wpAny_setState_of hob hd R.fit ?_)
    dsimp only
    by_cases hk:p.2 = k
    ·rw [decide_eq_true hk]
     refine wp_if_pos rfl (jbc (yes (Q0y.mpr ⟨p,hpm,hk⟩)))
    ·rw [decide_eq_false hk]
     refine wp_if_neg (by decide) ?_
     try refine jbb (jbc ?_)
     rw [show t.sameMemory t.moves t.mask = some true by unfold SetTable.sameMemory; rw [if_pos (beq_self_eq_true _)]]
     dsimp only
     rw [slot_live R.tab.ris g2]
     simp only [if_true,R.at hp]
     refine jbb (wpAny_isSame_ref_self (jbb (jbc ?_)))
     simp only [if_true]
     refine wp_if_neg Q1z ?_
     refine z1W hu R hx hz yes no f cs (some np) g6 (fun u hu'=>ho u (by rw [g1]; simp [hu'])) (by rw [g1] at hf; simp at hf; omega) (by rw [g1] at hT; simp at hT; omega) fun i' p' j' hi' hpk hj'=>?_
     have hm:=hre i' p' j' hi' hpk hj'
     rw [g1] at hm
     rcases Q0k.mp hm with c | c
     ·exact absurd ((hat hi').trans (by rw [hpk])) (g4 i' j' hj' c)
     ·rcases Q0s.mp c with c | c
      ·subst c
       have e1:=slot_live R.tab.ris hj'
       rw [slot_live R.tab.ris g2] at e1
       injection e1 with e1
       rw [← e1,hp] at hi'
       cases hi'
       exact absurd hpk hk
      ·exact c
   cases hl:t.led with
   | true=>
    refine wp_if_neg (by decide) ?_
    try refine jbb (jbc ?_)
    exact rest
   | false=>
    refine wp_if_pos (by decide) ?_
    refine jbb (z1V hx (fun y hy=>?_) ?_)
    ·obtain ⟨e,he,ee⟩:=Q0y.mp hy
     have he1:e ∈ es.toList:=by
      have:e ∈ es∧e.1 = k.hash w:=by simpa using he
      simpa using this.1
     rw [R.rows] at he1
     obtain ⟨p2,hp2,e2⟩:=Q0y.mp he1
     exact ⟨p2.2,p2.1,by rw [← ee,← e2],R.key p2 hp2⟩
    ·refine wp_if_neg Q1z ?_
     try refine jbb (jbc ?_)
     exact rest
theorem z5C (hu:A.units + 8 < cLine) (R:SR w s.heap a L es ep t) {x:Addr} {k:NestedKey} (hx:KAt s.heap k x) {Q:SetFound→Shared→Prop}
  (yes:k ∈ L.map (·.2)→Q (.there none) s)
  (no:∀ xs z ys,k ∉ L.map (·.2)→q8P t.mask (SetTable.turns t.mask) (st0 t.mask (k.hash w)) = xs ++ z :: ys→z ∉ t.place.toList→(∀ u ∈ xs,u ∈ t.place.toList)→z ≤ t.mask→Q (.free z false) s) :
  wpAny (model P w) A (setSearch a (.ref x) (k.hash w) true) Q E s:=by
 have hroom:=R.room
 have htop:=R.top
 obtain ⟨xs,z,ys,e,h1,h2,h3,h4⟩:=R.tab.free (by rw [Q0f]; omega) (k.hash w)
 unfold setSearch
 have ht:SetTable.turns t.mask = (t.mask + 14) + 1:=rfl
 refine z1W (ys:=ys) hu R hx h1 yes (fun hn=>no xs z ys hn e h1 h2 h4) 100000 xs none ?_ h2 (by unfold SetTable.turns at h3; omega) h3 fun i p j hi hpk hj=>?_
 ·rw [← e,ht]
  exact z7m t (k.hash w) _
 ·refine R.tab.before e h1 ?_ hj
  rw [Q0O,hi,← hpk]; rfl
end
end DST

namespace DST
open PySem PySem.Spec L2 PyProof.Rows
section
variable {P:Program} {w:World} {A:Around} {E:Value→Shared→Prop} {s:Shared} {a:Addr} {L:List (Addr × NestedKey)} {es:Array (Int × Value)} {ep:Nat} {t:SetTable}
theorem KAt.at {h h':Heap} {k:NestedKey} {b:Addr} (x:KAt h k b) (keep:∀ c o vs n,h.get? c = some o→o.data = .seq vs n→h'.get? c = some o):KAt h' k b:=⟨NestedIs.at keep k _ x.1,x.2⟩
theorem KAt.past {h h':Heap} {k:NestedKey} {b:Addr} {o:Obj} (x:KAt h k b) (ho:h.get? a = some o) (hd:o.data = .set es ep t) (hs:Heap.SameBut a h h'):KAt h' k b:=x.at fun c o' vs n hc hv=>by
 refine (hs.2 c fun z=>?_).trans hc
 subst z
 rw [ho] at hc
 cases hc
 rw [hd] at hv
 cases hv
theorem x3M (w:World) (L:List (Addr × NestedKey)) (p:Nat) (x:Addr × NestedKey):rws w (L.take p ++ x :: L.drop p) = (rws w L).take p ++ (x.2.hash w,Value.ref x.1) :: (rws w L).drop p:=by
 unfold rws; rw [Q0D,Q0e,Q1X,Q2w]
theorem x0k {α:Type} (l:List α) (p:Nat) (x:α):(l.take p ++ x :: l.drop p).Perm (x :: l):=by
 have h:=Q2C (a:=x) (l₁:=l.take p) (l₂:=l.drop p)
 rwa [Q1Y] at h
theorem z7s {α:Type} (l:List α):(Q1e l.length).filterMap (fun i=>l[i]?) = l:=by
 have key:∀ n,n ≤ l.length→(Q1e n).filterMap (fun i=>l[i]?) = l.take n:=by
  intro n
  induction n with
  | zero=>intro _; simp
  | succ n ih=>
   intro h
   rw [List.range_succ,List.filterMap_append,ih (by omega),Q3s,Q0G (show n < l.length from h),Q2d (b:=l[n]) (Q0G h)]; rfl
 rw [key _ (Q0W _),Q3I]
theorem x0l (hr:es.toList = rws w L) {order:Array Nat} (hp:order.toList.Perm (Q1e L.length)) :
  ∃ L2,(order.filterMap (es[·]?)).toList = rws w L2∧L2.Perm L∧(L2.map fun p=>p.2.hash w) = order.toList.map fun i=>(es.map (·.1)).getD i 0:=by
 have ent:∀ {i:Nat} {p},L[i]? = some p→es[i]? = some (p.2.hash w,Value.ref p.1):=fun {i p} h=>by
  rw [← Q1E,hr]; exact x1T w h
 have step:∀ ord:List Nat,(∀ i ∈ ord,i < L.length)→ord.filterMap (fun i=>es[i]?) = rws w (ord.filterMap fun i=>L[i]?)∧((ord.filterMap fun i=>L[i]?).map fun p=>p.2.hash w) = ord.map fun i=>(es.map (·.1)).getD i 0:=by
  intro ord
  induction ord with
  | nil=>intro _; exact ⟨rfl,rfl⟩
  | cons i ord ih=>
   intro hi
   obtain ⟨e1,e2⟩:=ih fun j hj=>hi j (Q0h _ hj)
   have hl:=Q0G (hi i Q0g)
   have he:=ent hl
   constructor
   ·rw [Q2d he,Q2d hl,e1]; rfl
   ·rw [Q2d hl,Q0e,Q0e,e2]
    congr 1
    rw [Q1g,Array.getElem?_map,he]; rfl
 obtain ⟨e1,e2⟩:=step order.toList fun i hi=>Q2N.mp (hp.mem_iff.mp hi)
 refine ⟨order.toList.filterMap fun i=>L[i]?,by rw [Array.toList_filterMap]; exact e1,?_,e2⟩
 have:=hp.filterMap fun i=>L[i]?
 rwa [z7s] at this
theorem z3i (a:Addr) (wanted:Nat):setRelay a wanted = (do
  let (es,_,t) ← setState a
  if SetTable.sizeAbove wanted > sizeLine then unsupported "set:memory"
  let (es,t) ← (do
   let some (t,order):=t.relaid (es.map (·.1)) wanted | unsupported "internal:set-table-without-room"
   let es':=order.filterMap (es[·]?)
   if es'.size != es.size then unsupported "internal:set-table-lost-an-element"
   pure (es',t):Sem (Array (Int × Value) × SetTable))
  storeSet a es t):=by rfl
theorem z7t (a:Addr) (x:Value) (h:Int) (fuel:Nat):setAddHashedIn a x h (fuel + 1) = (do
  let (es₀,_,t₀) ← setState a
  if byScan x es₀ then
   match ← setAddByScan a x h es₀ t₀ with
   | some added=>return added
   | none=>return ← setAddHashedIn a x h fuel
  let .free slot wasDummy ← setSearch a x h (adding:=true) | return false
  let (es,_,t) ← setState a
  let (t,p):=t.put slot
  let byValue ← if t.plain then hashByValue 8 x else pure true
  let t:=if byValue then t else { t with plain:=false }
  storeSet a (SetTable.insertAt es p (h,x)) t
  if !wasDummy && t.tooFull then setRelay a (SetTable.grown (es.size + 1))
  return true):=by rfl
theorem TOk.plain {t:SetTable} {hs:List Int} (T:TOk t hs) (b:Bool):TOk { t with plain:=b } hs:=⟨T.ris,T.dm,T.sz,T.pw,T.bd,T.rch⟩
theorem x0m {o:Obj} (ho:s.heap.get? a = some o) (hex:o.ExactSet) (hd:o.data = .set es ep t) (hr:es.toList = rws w L) (T:TOk t (L.map fun p=>p.2.hash w)) (nd:(L.map (·.2)).Nodup) (key:∀ p ∈ L,KAt s.heap p.2 p.1)
  (ld:w.params.followText "set-order" = true∨t.led = true) (few:L.length ≤ 1000) (pos:1 ≤ L.length) (hm:L.length ≤ t.mask) {Q:Unit→Shared→Prop}
  (hQ:∀ h' L' es' ep' t',Heap.SameBut a s.heap h'→SR w h' a L' es' ep' t'→L'.Perm L→Q () { s with heap:=h' }):wpAny (model P w) A (setRelay a (4 * L.length)) Q E s:=by
 have sz:=q8R hr
 have fit:t.fits es.size = true:=by
  unfold SetTable.fits SetTable.fill
  have:=T.sz
  rw [Q0f] at this
  rw [T.dm,Q1l,beq_iff_eq,decide_eq_true_eq]
  refine ⟨by omega,?_⟩
  show t.place.size + 0 ≤ t.mask
  omega
 obtain ⟨b,e1,e2,e3,e4⟩:=z5A (n:=4 * L.length) (by omega)
 have hb:2 ^ b ≤ 8000:=by rcases e4 with c | c <;> omega
 obtain ⟨t',order,f1,f2,f3,f4,f5,f6⟩:=z5z t (hs:=es.map (·.1)) (wanted:=4 * L.length) (m:=2 ^ b - 1) (w:=b) e1 (by omega) (by omega) (by rw [Array.size_map,sz]; omega)
 rw [Array.size_map,sz] at f2
 obtain ⟨L2,g1,g2,g3⟩:=x0l hr f2
 have sz2:(order.filterMap (es[·]?)).size = es.size:=by rw [← Q1c,g1,z7q,g2.length_eq,sz]
 rw [z3i]
 refine jbb (wpAny_setState_of ho hd fit ?_)
 dsimp only
 refine wp_if_neg (by rw [e1,sizeLine_eq]; omega) ?_
 try refine jbb (jbc ?_)
 rw [f1]
 dsimp only
 refine jbb ?_
 refine wp_if_neg (by rw [sz2,bne_self_eq_false]; decide) ?_
 try refine jbb (jbc ?_)
 refine jbc ?_
 dsimp only
 refine wpAny_storeSet_of ho hd ?_ (by rw [sz2,sz,sizeLine_eq]; omega)
 have same:Heap.SameBut a s.heap (s.heap.update a (Obj.putSet (order.filterMap (es[·]?)) t')):=Heap.SameBut.update ..
 refine hQ _ L2 _ (ep + 1) t' same { ob:=⟨_,store_at ho hd,⟨hex.1,hex.2.1,hex.2.2⟩,rfl⟩,rows:=g1,tab:=by rw [g3]; exact f3,nd:=(g2.map (·.2)).nodup_iff.mpr nd,key:=fun p hp=>(key p (g2.mem_iff.mp hp)).past ho hd same,led:=by rw [f5]; exact ld,room:=?_,few:=by rw [g2.length_eq]; exact few,top:=by rw [f4]; omega } g2
 rw [g2.length_eq,f4]; omega
theorem x6E (hu:A.units + 8 < cLine) (R:SR w s.heap a L es ep t) {x:Addr} {k:NestedKey} (hx:KAt s.heap k x) (few:k ∉ L.map (·.2)→L.length + 1 ≤ 1000) {Q:Bool→Shared→Prop}
  (hQ:∀ b h' L' es' ep' t',Heap.SameBut a s.heap h'→SR w h' a L' es' ep' t'→(k ∈ L.map (·.2)→L' = L)→(k ∉ L.map (·.2)→L'.Perm ((x,k) :: L))→Q b { s with heap:=h' }) :
  wpAny (model P w) A (setAddHashed a (.ref x) (k.hash w)) Q E s:=by
 obtain ⟨o,ho,hex,hd⟩:=R.ob
 have sz:=q8R R.rows
 have hroom:=R.room
 unfold setAddHashed
 refine jbf ?_
 rw [show (100000:Nat) = 99999 + 1 from rfl,z7t]
 refine jbb (wpAny_setState_of ho hd R.fit ?_)
 dsimp only
 refine wp_if_neg (show ¬ byScan (Value.ref x) es = true by unfold byScan Value.scannable; simp) ?_
 try refine jbb (jbc ?_)
 refine jbb (z5C hu R hx (fun hin=>?_) fun xs z ys hout e hz hocc hzm=>?_)
 ·exact jbc (hQ false s.heap L es ep t (Heap.SameBut.refl a s.heap) R (fun _=>rfl) fun c=>absurd hin c)
 dsimp only
 refine jbb (wpAny_setState_of ho hd R.fit ?_)
 dsimp only
 obtain ⟨p1,p2,p3⟩:=R.tab.put e hz hocc hzm
 have few1:=few hout
 generalize hq:SetTable.below t.place z = q at p1 p2
 have eq2:(t.put z).2 = q:=hq
 rw [eq2]
 have hmask:(t.put z).1.mask = t.mask:=rfl
 have hled:(t.put z).1.led = t.led:=rfl
 generalize (t.put z).1 = t1 at p2 p3 hmask hled ⊢
 have go:∀ bv:Bool,wpAny (model P w) A (do
   let t:=if bv then t1 else { t1 with plain:=false }
   storeSet a (SetTable.insertAt es q (k.hash w,Value.ref x)) t
   if !false && t.tooFull then setRelay a (SetTable.grown (es.size + 1))
   return true) Q E s:=by
  intro bv
  have hins:(SetTable.insertAt es q (k.hash w,Value.ref x)).toList = rws w (L.take q ++ (x,k) :: L.drop q):=by
   rw [SetTable.toList_insertAt,R.rows,x3M]
  have pm:=x0k L q (x,k)
  have len1:(L.take q ++ (x,k) :: L.drop q).length = L.length + 1:=pm.length_eq
  have hmap:(L.take q ++ (x,k) :: L.drop q).map (fun p=>p.2.hash w) = (L.map fun p=>p.2.hash w).take q ++ k.hash w :: (L.map fun p=>p.2.hash w).drop q:=by
   rw [Q0D,Q0e,Q1X,Q2w]
  have T1:TOk (if bv = true then t1 else { t1 with plain:=false }) ((L.take q ++ (x,k) :: L.drop q).map fun p=>p.2.hash w):=by
   rw [hmap]
   cases bv with
   | true=>exact p2
   | false=>exact p2.plain false
  have hm2:(if bv = true then t1 else { t1 with plain:=false }).mask = t.mask:=by cases bv <;> exact hmask
  have hl2:(if bv = true then t1 else { t1 with plain:=false }).led = t.led:=by cases bv <;> exact hled
  have hf2:(if bv = true then t1 else { t1 with plain:=false }).fill = L.length + 1:=by
   rw [Q0f] at p3
   cases bv <;> exact p3
  dsimp only
  generalize (if bv = true then t1 else { t1 with plain:=false }) = t2 at T1 hm2 hl2 hf2 ⊢
  have nd1:((L.take q ++ (x,k) :: L.drop q).map (·.2)).Nodup:=by
   refine (pm.map (·.2)).nodup_iff.mpr ?_
   exact Q0P.mpr ⟨hout,R.nd⟩
  have sz1:=q8R hins
  generalize SetTable.insertAt es q (k.hash w,Value.ref x) = es1 at hins sz1 ⊢
  generalize L.take q ++ (x,k) :: L.drop q = L1 at pm len1 T1 nd1 hins sz1
  refine jbb (wpAny_storeSet_of ho hd ?_ (by rw [sz1,sizeLine_eq]; omega))
  have same:Heap.SameBut a s.heap (s.heap.update a (Obj.putSet es1 t2)):=Heap.SameBut.update ..
  have ho1:=store_at (es':=es1) (t':=t2) ho hd
  generalize s.heap.update a (Obj.putSet es1 t2) = h1 at same ho1 ⊢
  have key1:∀ p ∈ L1,KAt h1 p.2 p.1:=fun p hp=>by
   rcases Q0s.mp (pm.mem_iff.mp hp) with c | c
   ·rw [c]; exact hx.past ho hd same
   ·exact (R.key p c).past ho hd same
  have ld1:w.params.followText "set-order" = true∨t2.led = true:=by rw [hl2]; exact R.led
  cases hf:t2.tooFull with
  | true=>
   have eg:SetTable.grown (es.size + 1) = 4 * L1.length:=by
    unfold SetTable.grown
    rw [if_neg (by omega),len1,sz]; omega
   rw [eg]
   refine wp_if_pos rfl (jbb (x0m (s:={ s with heap:=h1 }) ho1 ⟨hex.1,hex.2.1,hex.2.2⟩ rfl hins T1 nd1 key1 ld1 (by omega) (by omega) (by rw [hm2]; omega) fun h2 L2 es2 ep2 t3 same2 R2 pm2=>?_))
   exact jbc (hQ true h2 L2 es2 ep2 t3 (same.trans same2) R2 (fun c=>absurd c hout) fun _=>pm2.trans pm)
  | false=>
   refine wp_if_neg Q1z ?_
   refine jbc (hQ true h1 L1 es1 (ep + 1) t2 same { ob:=⟨_,ho1,⟨hex.1,hex.2.1,hex.2.2⟩,rfl⟩,rows:=hins,tab:=T1,nd:=nd1,key:=key1,led:=ld1,room:=?_,few:=by omega,top:=by rw [hm2]; exact R.top } (fun c=>absurd c hout) fun _=>pm)
   unfold SetTable.tooFull at hf
   rw [decide_eq_false_iff_not,hf2] at hf
   omega
 cases hpl:t1.plain with
 | true=>
  refine jbb ?_
  refine z1U k _ 8 s hx.1 _ _ fun bv=>?_
  exact go bv
 | false=>
  refine jbb ?_
  refine jbc ?_
  exact go true
end
end DST

namespace DST
open PySem PySem.Spec L2 PyProof.Rows
section
variable {P:Program} {w:World} {A:Around} {E:Value→Shared→Prop} {s:Shared}
abbrev x0n (w:World):Obj:={ cls:=.type "set",dict:=none,data:=.set #[] 0 (.fresh 0 0 (!w.params.followText "set-order")) }
theorem x6F {h:Heap} {a:Addr} (ho:h.get? a = some (x0n w)):SR w h a [] #[] 0 (.fresh 0 0 (!w.params.followText "set-order")) where
 ob:=⟨_,ho,⟨rfl,rfl,rfl⟩,rfl⟩
 rows:=rfl
 tab:={ ris:=List.Pairwise.nil,dm:=rfl,sz:=rfl,pw:=⟨3,rfl,by decide⟩,bd:=(fun x hx=>nomatch hx),rch:=(fun i g j hi _=>by simp at hi) }
 nd:=Q1B
 key:=fun p hp=>nomatch hp
 led:=by
  cases hf:w.params.followText "set-order" with
  | true=>exact .inl rfl
  | false=>exact .inr rfl
 room:=by show 0 * 5 < 7 * 3; decide
 few:=Q1H _
 top:=by show 7 ≤ 8191; decide
theorem SR.stay {h h':Heap} {a:Addr} {L:List (Addr × NestedKey)} {es:Array (Int × Value)} {ep:Nat} {t:SetTable} (R:SR w h a L es ep t) (ha:∀ o,h.get? a = some o→h'.get? a = some o) (hk:∀ p ∈ L,KAt h' p.2 p.1):SR w h' a L es ep t:=
 let ⟨o,ho,r⟩:=R.ob
 ⟨⟨o,ha o ho,r⟩,R.rows,R.tab,R.nd,hk,R.led,R.room,R.few,R.top⟩
def x8x (ks:List (Addr × NestedKey)):Prop:=∀ M:List NestedKey,M.Nodup→(∀ k ∈ M,k ∈ ks.map (·.2))→M.length ≤ 1000
structure Has (ks L:List (Addr × NestedKey)):Prop where
 sub:∀ p ∈ L,p ∈ ks
 all:∀ p ∈ ks,p.2 ∈ L.map (·.2)
theorem x0o {I:Addr} {fp wr:List Addr} {G:Array GenState→Array GenState→Prop} {n:Nat} {Pv:Nat→Value→Prop} {St:Nat→Shared→Prop} {R:Result→Shared→Prop} (W:WalksS P w A.in1 I fp wr G n Pv St)
  {S:Addr} (hS:S ∉ fp) {ks:List (Addr × NestedKey)} (hn:n = ks.length) (few:x8x ks) (val:∀ i v,Pv i v→∃ p,ks[i]? = some p∧v = .ref p.1)
  {g:Heap} (key:∀ p ∈ ks,KAt g p.2 p.1) (gS:g.get? S = none) (gw:∀ b ∈ wr,g.get? b = none) (hu:A.in1.units + 8 < cLine) :
  ∀ (d i:Nat) (s:Shared) (L:List (Addr × NestedKey)) (es:Array (Int × Value)) (ep:Nat) (t:SetTable),d + i = n→St i s→(∀ b o,g.get? b = some o→s.heap.get? b = some o)→SR w s.heap S L es ep t→Has (ks.take i) L →
   (∀ s' L es ep t,Moved (S :: wr) G s s'→SR w s'.heap S L es ep t→Has ks L→(∀ b o,g.get? b = some o→s'.heap.get? b = some o)→R (.ok (.ret .none)) s') →
   codeAny (model P w) A (.builtin "set.update.loop" ⟨[.ref S,.ref I],[]⟩) R s:=by
 have hSw:S ∉ wr:=fun c=>hS (W.sub _ c)
 have up:∀ b ∈ wr,b ∈ S :: wr:=fun b hb=>Q0h _ hb
 have old:∀ {s s':Shared},Moved wr G s s'→(∀ b o,g.get? b = some o→s.heap.get? b = some o)→∀ b o,g.get? b = some o→s'.heap.get? b = some o:=fun mv hk b o e=>
  mv.heap b o (fun c=>by rw [gw b c] at e; cases e) (hk b o e)
 intro d
 induction d with
 | zero=>
  intro i s L es ep t hd hst hk hR hH fin
  have hi:i = n:=by omega
  subst hi
  refine codeAny_builtin F.entry_set_update_loop ?_
  rw [Around.under_plainId F.plain_set_update_loop _]
  show wpAny _ A.in1 (pyNext (Value.ref I) >>= _) _ _ s
  refine jbb (W.done s _ _ hst fun s' mv=>?_)
  rw [hn,Q3I] at hH
  have hk':=old mv hk
  show wpAny _ A.in1 (ret Value.none) _ _ s'
  exact jbc (fin s' L es ep t (mv.mono up) (hR.stay (fun o e=>mv.heap S o hSw e) fun p hp=>(key p (hH.sub p hp)).at fun c o vs m hc _=>hk' c o hc) hH hk')
 | succ d ih=>
  intro i s L es ep t hd hst hk hR hH fin
  refine codeAny_builtin F.entry_set_update_loop ?_
  rw [Around.under_plainId F.plain_set_update_loop _]
  show wpAny _ A.in1 (pyNext (Value.ref I) >>= _) _ _ s
  refine jbb (W.item i s _ _ (by omega) hst fun v s' hv hst' mv=>?_)
  obtain ⟨p,hp,rfl⟩:=val i v hv
  have hk':=old mv hk
  have mem:=Q0N hp
  have now:∀ q ∈ ks,KAt s'.heap q.2 q.1:=fun q hq=>(key q hq).at fun c o vs m hc _=>hk' c o hc
  have R1:SR w s'.heap S L es ep t:=hR.stay (fun o e=>mv.heap S o hSw e) fun q hq=>now q (Q1x (hH.sub q hq))
  show wpAny _ A.in1 (holding [Value.ref p.1] (setAdd S (Value.ref p.1)) >>= _) _ _ s'
  refine jbb (jbf ?_)
  unfold setAdd
  refine jbf (jbb ((nestedKind P w).pyHash hu (now p mem) ?_))
  have one:ks.take (i + 1) = ks.take i ++ [p]:=by rw [Q3s,hp]; rfl
  refine x6E (s:={ s' with toks:=s'.toks + p.2.draws }) hu R1 (now p mem) (fun hout=>?_) fun b h' L' es' ep' t' sb R2 same more=>?_
  ·have:=few (p.2 :: L.map (·.2)) (Q0P.mpr ⟨hout,R1.nd⟩) fun k hk2=>by
    rcases Q0s.mp hk2 with c | c
    ·rw [c]; exact Q0J mem
    ·obtain ⟨q,hq,e⟩:=Q0y.mp c
     rw [← e]; exact Q0J (Q1x (hH.sub q hq))
   simpa using this
  ·have H2:Has (ks.take (i + 1)) L':=by
    rw [one]
    rcases Q2R (p.2 ∈ L.map (·.2)) with c | c
    ·rw [same c]
     refine ⟨fun q hq=>Q0q _ (hH.sub q hq),fun q hq=>?_⟩
     rcases Q0k.mp hq with e | e
     ·exact hH.all q e
     ·rw [Q0t.mp e]; exact c
    ·have pm:=more c
     refine ⟨fun q hq=>?_,fun q hq=>(pm.map (·.2)).mem_iff.mpr ?_⟩
     ·rcases Q0s.mp (pm.mem_iff.mp hq) with e | e
      ·rw [e]; exact Q0l _ (List.mem_singleton_self _)
      ·exact Q0q _ (hH.sub q e)
     ·rcases Q0k.mp hq with e | e
      ·exact Q0h _ (hH.all q e)
      ·rw [Q0t.mp e]; exact Q0g
   have hk2:∀ b o,g.get? b = some o→h'.get? b = some o:=fun b o e=>(sb.2 b (fun c=>by rw [c,gS] at e; cases e)).trans (hk' b o e)
   refine jbc ⟨plainId_quiet F.plain_set_update_loop _,ih (i + 1) _ L' es' ep' t' (by omega) (W.frame _ s' _ _ hst' (Q3J _ _) fun b hb o e=>?_) hk2 R2 H2 fun s2 L2 es2 ep2 t2 mv2 R3 H3 hk3=>?_⟩
   ·exact (sb.2 b fun c=>hS (c ▸ hb)).trans e
   ·refine fin s2 L2 es2 ep2 t2 (Moved.trans W.gtrans ((mv.mono up).then_heap (Q3J _ _) fun b o hb e=>?_) mv2) R3 H3 hk3
    exact (sb.2 b fun c=>hb (c ▸ Q0g)).trans e
abbrev itO (ty:String) (l:Addr):Obj:={ cls:=.type ty,data:=.fields #[.ref l,.int 0 0] }
structure x8y (P:Program) (w:World) (T ty:String) (l:Addr) (items:Array Value) (H:Heap→Prop):Prop where
 s1:isSubtype (.type T) (.type "set") = pure false
 s2:isSubtype (.type T) (.type "frozenset") = pure false
 s3:(Value.type T == Value.type "dict") = false
 beg:Begins (.ref l) (itO ty l) H
 typ:∀ h,H h→∃ o,h.get? l = some o∧o.cls = .type T
 wlk:∀ (A:Around) (I:Addr),A.handled = none→l ≠ I→∃ St:Nat→Heap→Prop,Walks P w A I [I,l] [I] items.size (fun i v=>items[i]? = some v) St∧∀ h,h.get? I = some (itO ty l)→H h→St 0 h
theorem x0p (P:Program) (w:World) (l:Addr) (items:Array Value):x8y P w "list" "list_iterator" l items fun h=>h.IsList l items where
 s1:=F.sub_list_set
 s2:=F.sub_list_frozenset
 s3:=by decide
 beg:=begins_list l items
 typ:=fun h ⟨o,ho,hc,_⟩=>⟨o,ho,hc⟩
 wlk:=fun A I hh hne=>⟨_,Walks.list hh I l hne items,fun h hi hl=>⟨⟨_,hi,rfl,rfl⟩,hl⟩⟩
theorem z7u (P:Program) (w:World) (l:Addr) (items:Array Value):x8y P w "tuple" "tuple_iterator" l items fun h=>h.IsTuple l items where
 s1:=F.sub_tuple_set
 s2:=F.sub_tuple_frozenset
 s3:=by decide
 beg:=begins_tuple l items
 typ:=fun h ⟨o,ho,hc,_⟩=>⟨o,ho,hc⟩
 wlk:=fun A I hh hne=>⟨_,Walks.tuple hh I l hne items,fun h hi hl=>⟨⟨_,hi,rfl,rfl⟩,hl⟩⟩
theorem x0q {T ty:String} {l:Addr} {items:Array Value} {H:Heap→Prop} (src:x8y P w T ty l items H) (hH:H s.heap) {S:Addr} (hS:s.heap.get? S = some (x0n w)) {g:Heap} (gS:g.get? S = none) (gN:g.get? s.heap.objs.size = none) (hlS:l ≠ S)
  (ks:List (Addr × NestedKey)) (hit:items.toList = ks.map fun p=>Value.ref p.1) (key:∀ p ∈ ks,KAt g p.2 p.1) (few:x8x ks) (hg:∀ b o,g.get? b = some o→s.heap.get? b = some o) (hh:A.handled = none) (hu:A.units + 12 < cLine)
  {Q:PySem.Fin→Shared→Prop} (fin:∀ h' tk L es ep t,SR w h' S L es ep t→Has ks L→(∀ b o,g.get? b = some o→h'.get? b = some o)→Q (.done (.ret .none)) { s with heap:=h',toks:=tk }) :
  wpAny (model P w) A (Builtin.«set.__init__» ⟨[.ref S,.ref l],[]⟩) Q E s:=by
 obtain ⟨ol,hol,hcl⟩:=src.typ _ hH
 have tS:s.TypeIs (.ref S) "set":=⟨_,hS,rfl⟩
 have tl:s.TypeIs (.ref l) T:=⟨ol,hol,hcl⟩
 have e1:=src.s1
 have e2:=src.s2
 have e3:=src.s3
 unfold Builtin.«set.__init__» noKeywords Builtin.Frozenset.updateFrom
 generalize hPI:pyIter = PI
 wp_walk
 subst hPI
 refine src.beg.iter P w _ _ _ _ hH ?_
 refine jbb (wpAny_runValue ?_)
 have gI:s.heap.objs.size ≠ S:=Nat.ne_of_gt (Heap.lt_size hS)
 have lI:l ≠ s.heap.objs.size:=Q2f (Heap.lt_size hol)
 have hT:(s.heap.push (itO ty l)).get? s.heap.objs.size = some (itO ty l):=Heap.get?_push_size _ rfl
 have hnit:items.size = ks.length:=by
  have:=congrArg Q1Q hit
  rwa [Q1c,Q0f] at this
 obtain ⟨St,W,h0⟩:=src.wlk A.in1 s.heap.objs.size hh lI
 refine x0o W.toS (S:=S) (by simp [gI.symm,hlS.symm]) hnit few (fun i v hv=>?_) key gS (fun b hb=>by rw [Q0t.mp hb]; exact gN) (by simp; omega) items.size 0 _ [] #[] 0 _ (by omega) (h0 _ hT (src.beg.keeps _ _ hH fun b o e=>Heap.get?_push_of_some _ e)) (fun b o e=>Heap.get?_push_of_some _ (hg b o e)) (x6F (Heap.get?_push_of_some _ hS)) ⟨(fun p hp=>nomatch hp),(fun p hp=>by simp at hp)⟩ fun s' L es ep t mv R Hs old=>?_
 ·have e:items.toList[i]? = some v:=by rw [Q1E]; exact hv
  rw [hit,Q0O] at e
  cases hq:ks[i]? with
  | none=>rw [hq] at e; cases e
  | some p=>rw [hq] at e; exact ⟨p,rfl,(Q1o.inj e).symm⟩
 ·obtain ⟨h',g2,d2,tk,os2⟩:=s'
  have x1:g2 = s.gens:=mv.gens
  have x2:d2 = s.drawn:=mv.drawn
  have x3:os2 = s.os:=mv.os
  subst x1; subst x2; subst x3
  exact jbc (jbc (fin h' tk L es ep t R Hs old))
end
end DST

namespace DST
open PySem PySem.Spec L2 PyProof.Rows
section
variable {P:Program} {w:World} {A:Around} {E:Value→Shared→Prop} {s:Shared}
theorem q6L {T ty:String} {l:Addr} {items:Array Value} {H:Heap→Prop} (src:x8y P w T ty l items H) (hH:H s.heap) (ks:List (Addr × NestedKey)) (hit:items.toList = ks.map fun p=>Value.ref p.1) (key:∀ p ∈ ks,KAt s.heap p.2 p.1) (few:x8x ks)
  (hh:A.handled = none) (hu:A.units + 16 < cLine) {Q:Value→Shared→Prop}
  (fin:∀ h' tk L es ep t,SR w h' s.heap.objs.size L es ep t→Has ks L→(∀ b o,s.heap.get? b = some o→h'.get? b = some o)→Q (.ref s.heap.objs.size) { s with heap:=h',toks:=tk }) :
  wpAny (model P w) A (call (.type "set") [.ref l]) Q E s:=by
 obtain ⟨ol,hol,hcl⟩:=src.typ _ hH
 have ll:l < s.heap.objs.size:=Heap.lt_size hol
 have out:∀ b,s.heap.objs.size ≤ b→s.heap.get? b = none:=fun b hb=>by
  cases q:s.heap.get? b with
  | none=>rfl
  | some o=>exact absurd (Heap.lt_size q) (Nat.not_lt.mpr hb)
 obtain ⟨b0,bs,mro⟩:=F.called_set.mro
 have made:=F.called_set.made
 have subs:=F.called_set.sub
 have c1:=F.called_set.notType
 have c2:=F.called_set.canCreate
 have c3:=F.typeCall_set_1 (.ref l)
 refine wpAny_call (codeAny_of_tree (?_:wpAny _ _ (callAny (.type "set") _) _ _ _))
 refine jbc ⟨Code.quiet_builtin _ (by decide +kernel),codeAny_builtin F.entry_type_call ?_⟩
 rw [Around.under_plain (weight_type_call_type "set" [.ref l] []) (units_type_call_type "set" [.ref l] [])]
 repeat (any_goals (first | assumption | wp_step))
 refine codeAny_mono (code_set_led1 (.ref l) (E:=E) (Q₁:=fun obj s1=>obj = .ref s.heap.objs.size∧s1 = { s with heap:=s.heap.push (x0n w) }) ⟨rfl,rfl⟩) fun res s1 got=>?_
 rcases res with e | fl
 ·exact got
 rcases fl with _ | _ | _ | obj
 ·exact got.elim
 ·exact got.elim
 ·exact got.elim
 ·skip
  obtain ⟨e1,e2⟩:=(got:obj = .ref s.heap.objs.size∧s1 = { s with heap:=s.heap.push (x0n w) })
  subst e1
  subst e2
  have new:(s.heap.push (x0n w)).get? s.heap.objs.size = some (x0n w):=Heap.get?_push_size _ rfl
  have tS:Shared.TypeIs { s with heap:=s.heap.push (x0n w) } (.ref s.heap.objs.size) "set":=⟨_,new,rfl⟩
  have look:=F.called_set.init.lookup
  have bind:=F.called_set.init.bind (.ref s.heap.objs.size)
  repeat (any_goals (first | assumption | wp_step))
  refine codeAny_mono (codeAny_call_builtin (R:=wants (fun out s2=>out = .none∧∃ h' tk L es ep t,s2 = { s with heap:=h',toks:=tk }∧SR w h' s.heap.objs.size L es ep t∧Has ks L∧∀ b o,s.heap.get? b = some o→h'.get? b = some o) E) F.called_set.init.plain F.entry_set_init (check_set_init_1 tS ?_)) fun res2 s2 got2=>?_
  ·refine x0q (A:=A.in1.in1) (s:={ s with heap:=s.heap.push (x0n w) }) src (src.beg.keeps _ _ hH fun b o e=>Heap.get?_push_of_some _ e) new (g:=s.heap) (out _ (Q0W _)) (out _ (by show _ ≤ (s.heap.push (x0n w)).objs.size; rw [Heap.size_push]; exact Q4d _)) (Q2f ll) ks hit key few (fun b o e=>Heap.get?_push_of_some _ e) hh (show A.units + 1 + 1 + 12 < cLine by omega) fun h' tk L es ep t R Hs old=>?_
   exact ⟨rfl,h',tk,L,es,ep,t,rfl,R,Hs,old⟩
  ·rcases res2 with e | fl2
   ·exact got2
   rcases fl2 with _ | _ | _ | out2
   ·exact got2.elim
   ·exact got2.elim
   ·exact got2.elim
   ·obtain ⟨rfl,h',tk,L,es,ep,t,rfl,R,Hs,old⟩:=got2
    repeat (any_goals (first | assumption | wp_step))
    exact fin _ _ _ _ _ _ R Hs old
end
end DST

namespace DL
variable [DL.Tbls]
open PySem PySem.Spec L2 PySem.Calls DST
open PySem.W (dataLt dataLe alike)
def SR0 (w:World) (h:Heap) (a:Addr) (L:List (Addr × NestedKey)):Prop:=∃ (es:Array (Int × Value)) (ep:Nat) (t:SetTable),(∃ o,h.get? a = some o∧o.ExactSet∧o.data = .set es ep t)∧es.toList = rws w L∧TOk t (L.map fun p=>p.2.hash w)∧(L.map (·.2)).Nodup ∧
 (w.params.followText "set-order" = true∨t.led = true)∧L.length * 5 < t.mask * 3∧L.length ≤ 1000∧t.mask ≤ 8191
def SetO (w:World) (a:Addr) (L:List (Addr × NestedKey)):HO:=.ext fun h=>SR0 w h a L
theorem x6G {w:World} {h:Heap} {a:Addr} {L:List (Addr × NestedKey)} {es:Array (Int × Value)} {ep:Nat} {t:SetTable} (R:SR w h a L es ep t):SR0 w h a L:=⟨es,ep,t,R.ob,R.rows,R.tab,R.nd,R.led,R.room,R.few,R.top⟩
theorem setO_new {P:Program} {w:World} {H:Hp} {h:Heap} {a:Addr} {L:List (Addr × NestedKey)} (R:SR0 w h a L):ObjOk P w H h a (SetO w a L):=by
 obtain ⟨es,ep,t,⟨o,ho,r⟩,q⟩:=id R
 refine ⟨R,⟨o,ho⟩,fun g1 g2 p keep=>?_⟩
 obtain ⟨es',ep',t',⟨o',ho',r'⟩,q'⟩:=p
 exact ⟨es',ep',t',⟨o',keep o' ho',r'⟩,q'⟩
def kd (d:Dat):NestedKey:=(kyD d).getD .none
structure KOk (d:Dat):Prop where
 ky:∃ k,kyD d = some k
 py:∃ p,q4W d = some p∧p.depth ≤ 60
abbrev pk (M:List (Addr × Dat)):List (Addr × NestedKey):=M.map fun p=>(p.1,kd p.2)
section
variable {X:Cx} {pins:List (Addr × Obj)} {σ:L2.St} {S H:Hp} {s:Shared}
theorem x1U (I:Inv X pins σ H s) (ex:Same S H) {b:Addr} {d:Dat} (r:Rep (ct X) S (.ref b) d) (k:KOk d):KAt s.heap (kd d) b:=by
 obtain ⟨q,e⟩:=k.ky
 have:=q9P I ex r e
 unfold kd
 rw [e]
 exact this
theorem x0r (w:World) (L:List (Addr × NestedKey)):(rws w L).map (·.2) = L.map fun p=>Value.ref p.1:=by
 unfold rws; rw [Q0R]; rfl
abbrev leP (a b:Addr × Dat):Bool:=leD a.2 b.2
abbrev enP (q:Addr × Dat):PyData:=pyD q.2
theorem x1V {d:Dat} {p:PyData} (e:q4W d = some p):pyD d = p:=by unfold pyD; rw [e]; rfl
theorem z1X:∀ M:List (Addr × Dat),Vals (M.map fun p=>V.ref p.1) (M.map fun p=>Value.ref p.1)
 | []=>.nil
 | p :: M=>.cons rfl (z1X M)
open PySem.W (EachIs AllAlike Sortable list_sort_vals SortsAt sortVals_data dataKind sortingHeap sortingHeap_old sortVals) in
theorem q8S {Q:VK} {a:Addr} {M:List (Addr × Dat)} (hc:X.calm = true) (hu:X.A.units + 64 < cLine) (I:Inv X pins σ H s) (ex:Same S H) (ha:H a = some (SetO X.w a (pk M))) (hr:∀ p ∈ M,Rep (ct X) S (.ref p.1) p.2) (hk:∀ p ∈ M,KOk p.2)
  (hs:M.length ≤ 1∨(AllAlike (M.map enP)∧Sortable (M.map enP)))
  (q:∀ (M':List (Addr × Dat)) (p:Addr),M'.Perm M→M'.Pairwise (fun u v=>leP u v = true)→H p = none→Q (.ref p) (upd H p (.lst (M'.map fun q=>V.ref q.1)))) :
  wpAny (model X.prog X.w) X.A (call (.builtin "sorted") [.ref a]) (EP X pins σ Q) X.xe s:=by
 obtain ⟨es,ep,t,⟨o,ho,hex,hd⟩,z1,z2,z3,z4,z5,z6,z7⟩:SR0 X.w s.heap a (pk M):=(I.hok a _ ha).1
 have R:SR X.w s.heap a (pk M) es ep t:=⟨⟨o,ho,hex,hd⟩,z1,z2,z3,fun p hp=>by
  obtain ⟨m,hm,rfl⟩:=Q0y.mp hp
  exact x1U I ex (hr m hm) (hk m hm),z4,z5,z6,z7⟩
 have hsz:=q8R R.rows
 rw [Q0f] at hsz
 have hfew:M.length ≤ 1000:=by have:=R.few; rwa [Q0f] at this
 refine Calls.call_function_entry PyProof.Rows.kind_sorted PyProof.Rows.plain_sorted PyProof.Rows.entry_sorted (PyProof.Rows.args_sorted1 _) ?_
 unfold Builtin.«sorted»
 refine jbb (m:=checkCount "sorted" 1 1 _) (jbc ?_)
 refine jbb (collect_set (A:=X.A.in1) (I.ok.hd hc) ⟨o,ho,hex.1,hd⟩ R.fit (by unfold scanBound; omega) R.tab.ris R.led fun s1 us keep1 x0T gens1 os1 pm=>?_)
 rw [R.rows,x0r,Q0R] at pm
 obtain ⟨M1,p1,rfl⟩:=q8O (fun m:Addr × Dat=>Value.ref m.1) pm
 have in1:∀ b ∈ M1,b ∈ M:=fun b hb=>p1.mem_iff.mp hb
 have len1:(M1.map fun q=>Value.ref q.1).length ≤ sizeLine:=by rw [Q0f,p1.length_eq,sizeLine_eq]; omega
 refine jbb (PySem.wpAny_newList ?_ len1)
 have at1:(s1.heap.push { cls:=.type "list",data:=.seq (M1.map fun q=>Value.ref q.1).toArray }).get? s1.heap.objs.size = some (PyProof.Rows.seqObj "list" (M1.map fun q=>Value.ref q.1).toArray 0):=Heap.get?_push_size _ rfl
 have was1:∀ b u,s.heap.get? b = some u→(s1.heap.push { cls:=.type "list",data:=.seq (M1.map fun q=>Value.ref q.1).toArray }).get? b = some u:=fun b u hb=>Heap.get?_push_of_some _ (keep1 b u hb)
 have fresh:H s1.heap.objs.size = none:=I.hok.fresh x0T
 have done:∀ M2:List (Addr × Dat),M2.Perm M→M2.Pairwise (fun u v=>leP u v = true)→EP X pins σ Q (.ref s1.heap.objs.size) { s1 with heap:=Q3E (s1.heap.push { cls:=.type "list",data:=.seq (M1.map fun q=>Value.ref q.1).toArray }) s1.heap.objs.size (M1.map fun q=>Value.ref q.1) (M2.map fun q=>Value.ref q.1).toArray }:=by
  intro M2 pm2 pw2
  obtain ⟨ep',hat⟩:=PyProof.Rows.sortedHeap_at (out:=(M2.map fun q=>Value.ref q.1).toArray) at1
  have len2:(M2.map fun q=>V.ref q.1).length ≤ sizeLine:=by rw [Q0f,sizeLine_eq,pm2.length_eq]; omega
  have was2:∀ b u,s.heap.get? b = some u→(Q3E (s1.heap.push { cls:=.type "list",data:=.seq (M1.map fun q=>Value.ref q.1).toArray }) s1.heap.objs.size (M1.map fun q=>Value.ref q.1) (M2.map fun q=>Value.ref q.1).toArray).get? b = some u:=fun b u hb=>by
   have lt:=Heap.lt_size (keep1 b u hb)
   rw [PyProof.Rows.sortedHeap_old (Q2f lt) (Q1y lt (by rw [PyProof.Rows.size_push']; omega))]
   exact was1 b u hb
  exact ⟨.ref s1.heap.objs.size,upd H s1.heap.objs.size (.lst (M2.map fun q=>V.ref q.1)),I.call' (ch:=[]) os1 (Un.laid was2 x0T fresh) (I.hok.laid was2 x0T ⟨len2,_,ep',z1X M2,hat⟩) (by show PyProof.Rows.AllBare s1.gens; rw [gens1]; exact I.bare) (fun _ z=>nomatch z),rfl,q M2 _ pm2 pw2 fresh⟩
 refine jbb (jbf (PyProof.Rows.wpAny_call_entry_kw PyProof.Rows.slot_list_sort ⟨_,at1,rfl⟩ PyProof.Rows.entry_list_sort ?body (PyProof.Rows.args_list_sort _)))
 case body=>
  rcases hs with short | ⟨al,so⟩
  ·refine Srt.list_sort_any at1 len1 (fun two=>absurd two (by rw [Q0f,p1.length_eq]; omega)) fun out po=>?_
   refine ⟨_,rfl,jbc ⟨_,rfl,?_⟩⟩
   obtain ⟨M2,p2,rfl⟩:=q8O (fun m:Addr × Dat=>Value.ref m.1) po
   refine done M2 (p2.trans p1) ?_
   have:M2.length ≤ 1:=by rw [(p2.trans p1).length_eq]; exact short
   match M2,this with
   | [],_=>exact .nil
   | [m],_=>exact Q2D _ _
  ·have rd:∀ b ∈ M1,∃ as,Reads s.heap (.ref b.1) (enP b) as:=fun b hb=>by
    obtain ⟨p,hp,_⟩:=(hk b (in1 b hb)).py
    have dp:=q3I ex b.2 _ p (hr b (in1 b hb)) hp
    rw [show enP b = p from x1V hp]
    exact Dp.reads I p (.ref b.1) (.ref b.1) dp rfl
   have er:EachIs (fun v b=>∃ as,Reads s.heap v (enP b) as) (M1.map fun q=>Value.ref q.1) M1:=q6p M1 rd
   have ee:EachIs (fun (v:Value) (b:Addr × Dat)=>v = .ref b.1) (M1.map fun q=>Value.ref q.1) M1:=q6p M1 fun b _=>rfl
   have al1:AllAlike (M1.map enP):=fun d hd d' hd'=>by
    obtain ⟨b,hb,rfl⟩:=Q0y.mp hd
    obtain ⟨b',hb',rfl⟩:=Q0y.mp hd'
    exact al _ (Q0J (in1 b hb)) _ (Q0J (in1 b' hb'))
   have so1:Sortable (M1.map enP):=so.imp (fun c d hd=>by
    obtain ⟨b,hb,rfl⟩:=Q0y.mp hd
    exact c _ (Q0J (in1 b hb))) fun c d hd=>by
    obtain ⟨b,hb,rfl⟩:=Q0y.mp hd
    exact c _ (Q0J (in1 b hb))
   have room:∀ b,b ∈ M1→X.A.units + 2 + (enP b).depth < cLine:=fun b hb=>by
    obtain ⟨p,hp,hdp⟩:=(hk b (in1 b hb)).py
    rw [show enP b = p from x1V hp]
    omega
   generalize hvs:(M1.map fun q=>Value.ref q.1) = vs at *
   have er2:EachIs (fun v b=>∃ as,Reads (sortingHeap (s1.heap.push { cls:=.type "list",data:=.seq vs.toArray }) s1.heap.objs.size vs) v (enP b) as) vs M1:=
    er.mono fun _ _ ⟨as,r⟩=>⟨as,PyProof.Rows.Reads.keeps (fun b u hb=>sortingHeap_old (Q2f (Heap.lt_size (keep1 b u hb))) (was1 b u hb)) r⟩
   refine list_sort_vals at1 (SortsAt.data (PySem.W.each_map (R:=fun v d=>∃ as,Reads (sortingHeap (s1.heap.push { cls:=.type "list",data:=.seq vs.toArray }) s1.heap.objs.size vs) v d as) enP er2) al1 so1 (PySem.W.bound_map room)) len1 ?_
   refine ⟨_,rfl,jbc ⟨_,rfl,?_⟩⟩
   have ev:sortVals (dataKind (sortingHeap (s1.heap.push { cls:=.type "list",data:=.seq vs.toArray }) s1.heap.objs.size vs) (M1.map enP)) false vs vs = (M1.mergeSort (dataLe false enP)).map fun q=>Value.ref q.1:=z7f (sortVals_data false ee er2 al1)
   rw [ev]
   refine done _ ((Q3j _ _).trans p1) ?_
   exact Q3F (le:=dataLe false enP) (fun a b c h1 h2=>z1R _ _ _ h1 h2) (fun a b=>z1Q _ _) _
end
end DL

namespace DL
variable [DL.Tbls]
open PySem PySem.Spec L2 PySem.Calls DST
open PySem.W (AllAlike Sortable dataLe)
theorem q5L {α:Type}:∀ {l D:List α},l.Nodup→(∀ x ∈ l,x ∈ D)→l.length ≤ D.length
 | [],D,_,_=>Q1H _
 | x :: l,D,nd,h=>by
  obtain ⟨u,v,rfl⟩:=Q3o (h x Q0g)
  have nd':=Q0P.mp nd
  have:=q5L (D:=u ++ v) nd'.2 fun y hy=>by
   rcases Q0k.mp (h y (Q0h _ hy)) with c | c
   ·exact Q0q _ c
   ·rcases Q0s.mp c with c | c
    ·exact absurd (c ▸ hy) nd'.1
    ·exact Q0l _ c
  simp only [Q0A,Q0d] at this ⊢
  omega
theorem q6q {α:Type} {le:α→α→Bool}:∀ {A B:List α},A.Nodup→B.Nodup→(∀ x,x ∈ A ↔ x ∈ B)→A.Pairwise (fun a b=>le a b = true)→B.Pairwise (fun a b=>le a b = true)→(∀ a ∈ A,∀ b ∈ A,le a b = true→le b a = true→a = b)→A = B
 | [],[],_,_,_,_,_,_=>rfl
 | [],b :: B,_,_,h,_,_,_=>nomatch (h b).mpr Q0g
 | a :: A,[],_,_,h,_,_,_=>nomatch (h a).mp Q0g
 | a :: A,b :: B,na,nb,h,pa,pb,anti=>by
  have na':=Q0P.mp na
  have nb':=Q0P.mp nb
  have pa':=Q1F.mp pa
  have pb':=Q1F.mp pb
  have e:a = b:=by
   rcases Q0s.mp ((h a).mp Q0g) with c | c
   ·exact c
   ·rcases Q0s.mp ((h b).mpr Q0g) with d | d
    ·exact d.symm
    ·exact anti a Q0g b (Q0h _ d) (pa'.1 b d) (pb'.1 a c)
  subst e
  congr 1
  refine q6q na'.2 nb'.2 (fun x=>⟨fun hx=>?_,fun hx=>?_⟩) pa'.2 pb'.2 fun x hx y hy=>anti x (Q0h _ hx) y (Q0h _ hy)
  ·rcases Q0s.mp ((h x).mp (Q0h _ hx)) with c | c
   ·exact absurd (c ▸ hx) na'.1
   ·exact c
  ·rcases Q0s.mp ((h x).mpr (Q0h _ hx)) with c | c
   ·exact absurd (c ▸ hx) nb'.1
   ·exact c
mutual
theorem z7v:∀ (d e:Dat) (k:NestedKey),nkD d = some k→nkD e = some k→d = e
 | .non,e,k,h1,h2=>by
  cases h1
  cases e with
  | non=>rfl
  | tup es=>
   have h3:(match q6u es with | some ks=>some (NestedKey.tup ks) | none=>none) = some .none:=h2
   cases hs:q6u es <;> rw [hs] at h3 <;> cases h3
  | _=>cases h2
 | .int i,e,k,h1,h2=>by
  cases h1
  cases e with
  | int j=>cases h2; rfl
  | str x=>cases h2
  | tup es=>
   have h3:(match q6u es with | some ks=>some (NestedKey.tup ks) | none=>none) = some (.num i):=h2
   cases hs:q6u es <;> rw [hs] at h3 <;> cases h3
  | _=>cases h2
 | .str x,e,k,h1,h2=>by
  cases h1
  cases e with
  | int j=>cases h2
  | str x=>cases h2; rfl
  | tup es=>
   have h3:(match q6u es with | some ks=>some (NestedKey.tup ks) | none=>none) = some (.text x):=h2
   cases hs:q6u es <;> rw [hs] at h3 <;> cases h3
  | _=>cases h2
 | .tup ds,e,k,h1,h2=>by
  have h4:(match q6u ds with | some ks=>some (NestedKey.tup ks) | none=>none) = some k:=h1
  cases hd:q6u ds with
  | none=>rw [hd] at h4; cases h4
  | some ks=>
   rw [hd] at h4
   cases h4
   cases e with
   | tup es=>
    have h3:(match q6u es with | some ks=>some (NestedKey.tup ks) | none=>none) = some (.tup ks):=h2
    cases hs:q6u es with
    | none=>rw [hs] at h3; cases h3
    | some ks'=>
     rw [hs] at h3
     cases h3
     rw [z4A ds es _ hd hs]
   | _=>cases h2
 | .bl _,_,_,h1,_ | .lst _,_,_,h1,_ | .fro _,_,_,h1,_ | .dic _ _,_,_,h1,_ | .ins _ _ _,_,_,h1,_ | .dix _ _,_,_,h1,_ | .opq _,_,_,h1,_=>nomatch h1
theorem z4A:∀ (ds es:List Dat) (ks:List NestedKey),q6u ds = some ks→q6u es = some ks→ds = es
 | [],es,ks,h1,h2=>by
  cases h1
  cases es with
  | nil=>rfl
  | cons e es=>
   have h3:(match nkD e,q6u es with | some k,some ks=>some (k :: ks) | _,_=>none) = some []:=h2
   cases ha:nkD e <;> cases hb:q6u es <;> rw [ha,hb] at h3 <;> cases h3
 | d :: ds,es,ks,h1,h2=>by
  have h4:(match nkD d,q6u ds with | some k,some ks=>some (k :: ks) | _,_=>none) = some ks:=h1
  cases ha:nkD d with
  | none=>rw [ha] at h4; cases h4
  | some k=>
   cases hb:q6u ds with
   | none=>rw [ha,hb] at h4; cases h4
   | some ks'=>
    rw [ha,hb] at h4
    cases h4
    cases es with
    | nil=>cases h2
    | cons e es=>
     have h3:(match nkD e,q6u es with | some k,some ks=>some (k :: ks) | _,_=>none) = some (k :: ks'):=h2
     cases hc:nkD e with
     | none=>rw [hc] at h3; cases h3
     | some k2=>
      cases hd:q6u es with
      | none=>rw [hc,hd] at h3; cases h3
      | some ks2=>
       rw [hc,hd] at h3
       cases h3
       rw [z7v d e _ ha hc,z4A ds es _ hb hd]
end
theorem x6H {d e:Dat} (hd:KOk d) (he:KOk e) (h:kd d = kd e):d = e:=by
 obtain ⟨k,hk⟩:=hd.ky
 obtain ⟨l,hl⟩:=he.ky
 unfold kd at h
 rw [hk,hl] at h
 have h':k = l:=h
 subst h'
 exact z7v d e k (z0O hk).1 (z0O hl).1
open Classical in
noncomputable def ddD (ds:List Dat):List Dat:=ds.foldr (fun d acc=>if d ∈ acc then acc else d :: acc) []
open Classical in
theorem z4B (d:Dat) (ds:List Dat):ddD (d :: ds) = if d ∈ ddD ds then ddD ds else d :: ddD ds:=rfl
theorem mem_ddD {x:Dat}:∀ {ds:List Dat},x ∈ ddD ds ↔ x ∈ ds
 | []=>Iff.rfl
 | d :: ds=>by
  have ih:=mem_ddD (x:=x) (ds:=ds)
  rw [z4B]
  split
  ·next h=>
   rw [ih,Q0s]
   exact ⟨.inr,fun c=>c.elim (fun e=>e ▸ mem_ddD.mp h) id⟩
  ·rw [Q0s,Q0s,ih]
theorem z4C:∀ ds:List Dat,(ddD ds).Nodup
 | []=>Q1B
 | d :: ds=>by
  rw [z4B]
  split
  ·exact z4C ds
  ·next h=>exact Q0P.mpr ⟨h,z4C ds⟩
noncomputable def q8T (ds:List Dat):List Dat:=(ddD ds).mergeSort leD
theorem q8U {x:Dat} {ds:List Dat}:x ∈ q8T ds ↔ x ∈ ds:=by unfold q8T; rw [(Q3j _ _).mem_iff,mem_ddD]
theorem z4D (ds:List Dat):(q8T ds).Nodup:=(Q3j _ _).nodup_iff.mpr (z4C ds)
theorem z4E (ds:List Dat):(q8T ds).Pairwise (fun a b=>leD a b = true):=Q3F (le:=leD) (fun a b c h1 h2=>z1R _ _ _ h1 h2) (fun a b=>z1Q _ _) _
structure z5D (ds:List Dat):Prop where
 ky:∀ d ∈ ds,KOk d
 al:(ddD ds).length ≤ 1∨(AllAlike (ds.map pyD)∧Sortable (ds.map pyD))
 anti:∀ a ∈ ds,∀ b ∈ ds,leD a b = true→leD b a = true→a = b
 few:(ddD ds).length ≤ 1000
 len:ds.length ≤ 100000
section
variable {X:Cx}
def x6I (c:Ct):List V→Hp→VK→Prop:=fun vs H Q=>∃ (S:Hp) (l:Addr) (xs:List V) (ds:List Dat),vs = [V.ref l]∧Same S H∧(SqL c.K H l xs∨SqT c.K H l xs)∧Reps c S xs ds∧z5D ds ∧
 ∀ (a:Addr) (M:List (Addr × Dat)),H a = none→(∀ p ∈ M,Rep c S (.ref p.1) p.2∧p.2 ∈ ds)→(∀ d ∈ ds,d ∈ M.map (·.2))→(M.map (·.2)).Nodup→Q (.ref a) (upd H a (SetO c.w a (pk M)))
theorem z7w {c:Ct} {S:Hp}:∀ {xs:List V} {ds:List Dat},Reps c S xs ds→(∀ d ∈ ds,KOk d)→∃ ps:List (Addr × Dat),xs = ps.map (fun p=>V.ref p.1)∧ps.map (·.2) = ds∧∀ p ∈ ps,Rep c S (.ref p.1) p.2
 | _,_,.nil,_=>⟨[],rfl,rfl,fun _ h=>nomatch h⟩
 | _,d :: ds,.cons r rs,h=>by
  obtain ⟨k,hk⟩:=(h d Q0g).ky
  obtain ⟨b,rfl⟩:=q8M r hk
  obtain ⟨ps,e1,e2,e3⟩:=z7w rs fun e he=>h e (Q0h _ he)
  refine ⟨(b,d) :: ps,by rw [e1]; rfl,by rw [Q0e,e2],fun p hp=>?_⟩
  rcases Q0s.mp hp with c | c
  ·rw [c]; exact r
  ·exact e3 p c
theorem q4C:∀ {ps:List (Addr × Dat)} {us:List Value},Vals (ps.map fun p=>V.ref p.1) us→us = (pk ps).map fun p=>Value.ref p.1
 | [],_,.nil=>rfl
 | p :: ps,_,.cons r t=>by
  cases r
  rw [q4C t]; rfl
theorem z7x {ps:List (Addr × Dat)}:∀ {L:List (Addr × NestedKey)},(∀ p ∈ L,p ∈ pk ps)→∃ M:List (Addr × Dat),pk M = L∧∀ m ∈ M,m ∈ ps
 | [],_=>⟨[],rfl,fun _ h=>nomatch h⟩
 | p :: L,h=>by
  obtain ⟨m,hm,e⟩:=Q0y.mp (h p Q0g)
  obtain ⟨M,e1,e2⟩:=z7x fun q hq=>h q (Q0h _ hq)
  refine ⟨m :: M,by show (m.1,kd m.2) :: pk M = _; rw [e1]; exact congrArg (· :: L) e,fun x hx=>?_⟩
  rcases Q0s.mp hx with c | c
  ·rw [c]; exact hm
  ·exact e2 x c
theorem x3N (hc:X.calm = true) (hu:X.A.units + 64 < cLine):CallR X (.type "set") (x6I (ct X)):=by
 intro pins s σ H vs us Q I r h
 obtain ⟨S,l,xs,ds,rfl,ex,hl,hr,ok,q⟩:=h
 rw [Vals.ref1 r]
 obtain ⟨ps,rfl,e2,e3⟩:=z7w hr ok.ky
 have kp:∀ p ∈ ps,KOk p.2:=fun p hp=>ok.ky _ (by rw [← e2]; exact Q0J hp)
 have key:∀ p ∈ pk ps,KAt s.heap p.2 p.1:=fun p hp=>by
  obtain ⟨m,hm,rfl⟩:=Q0y.mp hp
  exact x1U I ex (e3 m hm) (kp m hm)
 have few:x8x (pk ps):=fun M nd hM=>by
  have h1:M.length ≤ ((ddD ds).map kd).length:=q5L nd fun k hk=>by
   obtain ⟨p,hp,rfl⟩:=Q0y.mp (hM k hk)
   obtain ⟨m,hm,rfl⟩:=Q0y.mp hp
   exact Q0J (mem_ddD.mpr (by rw [← e2]; exact Q0J hm))
  rw [Q0f] at h1
  exact Q0S h1 ok.few
 have hn:H s.heap.objs.size = none:=I.hok.fresh (Q0W _)
 have fin:∀ h' tk L es ep t,SR X.w h' s.heap.objs.size L es ep t→Has (pk ps) L→(∀ b o,s.heap.get? b = some o→h'.get? b = some o)→EP X pins σ Q (.ref s.heap.objs.size) { s with heap:=h',toks:=tk }:=fun h' tk L es ep t R hs keep=>by
  obtain ⟨M,rfl,hM⟩:=z7x hs.sub
  refine ⟨.ref s.heap.objs.size,upd H s.heap.objs.size (SetO X.w s.heap.objs.size (pk M)),I.laid (t':=tk) keep (Q0W _) (setO_new (x6G R)),rfl,q _ M hn (fun p hp=>⟨e3 p (hM p hp),?_⟩) (fun d hd=>?_) ?_⟩
  ·rw [← e2]; exact Q0J (hM p hp)
  ·rw [← e2] at hd
   obtain ⟨p,hp,rfl⟩:=Q0y.mp hd
   have:=hs.all (p.1,kd p.2) (Q0J (f:=fun p:Addr × Dat=>(p.1,kd p.2)) hp)
   obtain ⟨x,hx,e⟩:=Q0y.mp this
   obtain ⟨m,hm,rfl⟩:=Q0y.mp hx
   have:m.2 = p.2:=x6H (kp m (hM m hm)) (kp p hp) e
   exact Q0y.mpr ⟨m,hm,this⟩
  ·have nd:=R.nd
   rw [Q0R] at nd
   unfold List.Nodup at nd ⊢
   rw [Q1I] at nd ⊢
   exact nd.imp fun {a b} h e=>h (congrArg kd e)
 rcases hl with hl | hl
 ·obtain ⟨its,rv,pl,hz⟩:=I.list hl
  exact q6L (x0p X.prog X.w l its.toArray) pl.isList (pk ps) (by simpa using q4C rv) key few (I.ok.hd hc) (by omega) fin
 ·obtain ⟨its,rv,pl,hz⟩:=I.tuple hl
  exact q6L (z7u X.prog X.w l its.toArray) pl (pk ps) (by simpa using q4C rv) key few (I.ok.hd hc) (by omega) fin
end
end DL

namespace DL
variable [DL.Tbls]
open PySem PySem.Spec L2 PySem.Calls DST
open PySem.W (AllAlike Sortable dataLe)
open Classical in
noncomputable def z5E:Dat→Option (List Dat)
 | .lst ds=>if z5D ds then some ds else none
 | .tup ds=>if z5D ds then some ds else none
 | _=>none
noncomputable def x0s (f:EM Dat):EM (List Dat):=q0J f fun d=>q3a (z5E d)
noncomputable def q9R (f:EM Dat):EM Dat:=q0J (x0s f) fun ds=>q2M (.lst (q8T ds))
section
variable {X:Cx} {pos p:Pos} {e:Expr}
def x6J (c:Ct):List V→Hp→VK→Prop:=fun vs H Q=>∃ (S:Hp) (a:Addr) (M:List (Addr × Dat)),vs = [V.ref a]∧Same S H∧H a = some (SetO c.w a (pk M))∧(∀ p ∈ M,Rep c S (.ref p.1) p.2)∧(∀ p ∈ M,KOk p.2)∧(M.length ≤ 1∨(AllAlike (M.map enP)∧Sortable (M.map enP))) ∧
 ∀ (M':List (Addr × Dat)) (p:Addr),M'.Perm M→M'.Pairwise (fun u v=>leP u v = true)→H p = none→Q (.ref p) (upd H p (.lst (M'.map fun q=>V.ref q.1)))
theorem x0t (hc:X.calm = true) (hu:X.A.units + 64 < cLine):CallR X (.builtin "sorted") (x6J (ct X)):=by
 intro pins s σ H vs us Q I r h
 obtain ⟨S,a,M,rfl,ex,ha,h1,h2,h3,q⟩:=h
 rw [Vals.ref1 r]
 exact q8S hc hu I ex ha h1 h2 h3 q
def x6K (c:Ct) (f:EM (List Dat)):TE:=fun σ H Q=>∃ S,Go c f σ S H fun ds S' H'=>∀ a (M:List (Addr × Dat)),H' a = some (SetO c.w a (pk M))→(∀ p ∈ M,Rep c S' (.ref p.1) p.2∧p.2 ∈ ds)→(∀ d ∈ ds,d ∈ M.map (·.2))→(M.map (·.2)).Nodup→z5D ds→Q (.ref a) H'
theorem x3O {f:EM Dat} (hc:X.calm = true) (hu:X.A.units + 64 < cLine) (hg:Gl X "set") (hm:X.mg "set" = none) (h:XE X e f) (he:starEach [e] X.env = (false,eval e X.env) :: starEach [] X.env:=by rfl) (hpl:(backTo pos (starEach [] X.env)).any (·.1) = false:=by rfl) :
  PE X (.Call (.Name "set" p) [e] [] pos) (x6K (ct X) (x0s f)):=
 (pe_callTy (x3N hc hu) hg hm PyProof.Rows.boot_set (pa_cons h pa_nil he) (by decide) (by decide) he hpl).imp fun σ H Q ⟨S,ρ,fps,ds,ρ',G,e0,q⟩=>by
  obtain ⟨d,ρ1,e1,e2⟩:=q0z e0
  refine ⟨S,ρ,fps,d,ρ1,G,e1,fun S1 H1 f1 st pn G1 v r=>?_⟩
  obtain ⟨e3,e4⟩:=q1e e2
  subst e4
  have core:∀ (l:Addr) (xs:List V),v = .ref l→(SqL (ct X).K H1 l xs∨SqT (ct X).K H1 l xs)→Reps (ct X) S1 xs ds→z5D ds→x6I (ct X) [v] H1 Q:=fun l xs ev hl rs ok=>by
   subst ev
   refine ⟨S1,l,xs,ds,rfl,G1.ex,hl,rs,ok,fun a M ha hM hD nd=>?_⟩
   obtain ⟨G2,st2⟩:=G1.fre (Fre.more G1.ex (q2i ha))
   exact q S1 _ f1 (st.trans st2) pn G2 a M upd_same hM hD nd ok
  cases r with
  | lst h1 h2=>
   dsimp only [z5E] at e3
   split at e3
   ·cases e3; exact core _ _ rfl (.inl (G1.ex.seq (.inl h1))) h2 ‹_›
   ·cases e3
  | tup h1 h2=>
   dsimp only [z5E] at e3
   split at e3
   ·cases e3; exact core _ _ rfl (.inr (q0S G1.ex h1)) h2 ‹_›
   ·cases e3
  | _=>cases e3
theorem z7y {f:EM Dat} (hc:X.calm = true) (hu:X.A.units + 64 < cLine) (hg:Gl X "sorted") (hm:X.mg "sorted" = none) (h:PE X e (x6K (ct X) (x0s f))) (he:starEach [e] X.env = (false,eval e X.env) :: starEach [] X.env:=by rfl) (hpl:(backTo pos (starEach [] X.env)).any (·.1) = false:=by rfl) :
  XE X (.Call (.Name "sorted" p) [e] [] pos) (q9R f):=
 (pe_callB (x0t hc hu) hg hm PyProof.Rows.boot_sorted (pa_cons h pa_nil he) (by decide) (by decide) he hpl).imp fun σ H Q ⟨S,ρ,fps,d,ρ',G,e0,q⟩=>by
  obtain ⟨ds,ρ1,e1,e2⟩:=q0z e0
  cases e2
  refine ⟨S,ρ,fps,ds,_,G,e1,fun S1 H1 f1 st pn G1 a M ha hM hD nd ok=>⟨S1,a,M,rfl,G1.ex,ha,fun p hp=>(hM p hp).1,fun p hp=>ok.ky _ (hM p hp).2,?_,fun M' pp pm srt hp=>?_⟩⟩
  ·have hmem:∀ x,x ∈ M.map (·.2) ↔ x ∈ ddD ds:=fun x=>by
    rw [mem_ddD]
    refine ⟨fun hx=>?_,hD x⟩
    obtain ⟨m,hm',rfl⟩:=Q0y.mp hx
    exact (hM m hm').2
   rcases ok.al with c | ⟨c1,c2⟩
   ·refine .inl ?_
    have:=q5L nd fun x hx=>(hmem x).mp hx
    rw [Q0f] at this
    omega
   ·refine .inr ⟨fun u hu' v hv=>?_,c2.imp (fun z u hu'=>?_) fun z u hu'=>?_⟩
    ·obtain ⟨m,hm',rfl⟩:=Q0y.mp hu'
     obtain ⟨m2,hm2,rfl⟩:=Q0y.mp hv
     exact c1 _ (Q0J (hM m hm').2) _ (Q0J (hM m2 hm2).2)
    ·obtain ⟨m,hm',rfl⟩:=Q0y.mp hu'
     exact z _ (Q0J (hM m hm').2)
    ·obtain ⟨m,hm',rfl⟩:=Q0y.mp hu'
     exact z _ (Q0J (hM m hm').2)
  ·have em:M'.map (·.2) = q8T ds:=q6q (le:=leD) ((pm.map (·.2)).nodup_iff.mpr nd) (z4D ds) (fun x=>by
    rw [q8U,(pm.map (·.2)).mem_iff]
    refine ⟨fun hx=>?_,hD x⟩
    obtain ⟨m,hm',rfl⟩:=Q0y.mp hx
    exact (hM m hm').2) (Q1I.mpr srt) (z4E ds) fun x hx y hy=>by
     have inD:∀ z ∈ M'.map (·.2),z ∈ ds:=fun z hz=>by
      obtain ⟨m,hm',rfl⟩:=Q0y.mp ((pm.map (·.2)).mem_iff.mp hz)
      exact (hM m hm').2
     exact ok.anti x (inD x hx) y (inD y hy)
   have fr:=Fre.new (o:=.lst (M'.map fun q=>V.ref q.1)) G1.ex hp
   obtain ⟨G2,st2⟩:=G1.fre fr
   have rr:Reps (ct X) S1 (M'.map fun q=>V.ref q.1) (M'.map (·.2)):=by
    have key:∀ N:List (Addr × Dat),(∀ m ∈ N,Rep (ct X) S1 (.ref m.1) m.2)→Reps (ct X) S1 (N.map fun q=>V.ref q.1) (N.map (·.2)):=fun N=>by
     induction N with
     | nil=>intro _; exact .nil
     | cons m N ih=>intro hN; exact .cons (hN m Q0g) (ih fun x hx=>hN x (Q0h _ hx))
    exact key M' fun m hm'=>(hM m (pm.mem_iff.mp hm')).1
   rw [em] at rr
   exact q _ _ f1 (st.trans st2) pn G2 _ (.lst (.inl upd_same) (rr.mono fr.ss))
theorem z4F {f:EM Dat} {q:Pos} (hc:X.calm = true) (hu:X.A.units + 64 < cLine) (hg:Gl X "sorted") (hm:X.mg "sorted" = none) (hg':Gl X "set") (hm':X.mg "set" = none) (h:XE X e f) (he:starEach [e] X.env = (false,eval e X.env) :: starEach [] X.env:=by rfl) (hpl:(backTo q (starEach [] X.env)).any (·.1) = false:=by rfl)
  (he':starEach [.Call (.Name "set" p) [e] [] pos] X.env = (false,eval (.Call (.Name "set" p) [e] [] pos) X.env) :: starEach [] X.env:=by rfl) {p':Pos} (hpl':(backTo pos (starEach [] X.env)).any (·.1) = false:=by rfl) :
  XE X (.Call (.Name "sorted" p') [.Call (.Name "set" p) [e] [] pos] [] q) (q9R f):=
 z7y hc hu hg hm (x3O hc hu hg' hm' h he hpl') he' hpl
end
end DL

namespace DLS
open PySem PySem.Spec L2
section
variable {prog:Program} {w:World} {A:Around} {E:Value→Shared→Prop} {s:Shared}
end
end DLS
namespace DL
variable [DL.Tbls]
open PySem PySem.Spec L2
open PySem.W (EachIs AllAlike Sortable dataLe)
section
variable {X:Cx} {a b:Expr} {pos:Pos} {f g:EM Dat}
end
end DL

namespace DL
variable [DL.Tbls]
open PySem PySem.Spec L2 PySem.Calls PyProof.Rows
def x1W:List (EM Dat × EM Dat)→EM (List (Dat × Dat))
 | []=>q2M []
 | p :: r=>q0J p.1 fun k=>q0J p.2 fun d=>q0J (x1W r) fun l=>q2M ((k,d) :: l)
def x5d:List (Dat × Dat)→Option (List (Key × Dat))
 | []=>some []
 | p :: r=>match z5W p.1,x5d r with
  | some k,some l=>some ((k,p.2) :: l)
  | _,_=>none
abbrev PRs (c:Ct) (S:Hp) (ps:List (V × V)) (l:List (Dat × Dat)):Prop:=Reps c S (ps.map Prod.fst) (l.map Prod.fst)∧Reps c S (ps.map Prod.snd) (l.map Prod.snd)
theorem z7z {c:Ct} {σ:L2.St}:∀ (fs:List (EM Dat × EM Dat)) {S H:Hp} {ρ ρ':Rho} {fps:List Addr} {l:List (Dat × Dat)} {Q:List (V × V)→Hp→Prop},Good c S H σ ρ fps→x1W fs ρ = some (l,ρ') →
  (∀ S1 H1 f1 ps,Stp S H fps S1 H1 f1→PinR ρ ρ'→Good c S1 H1 σ ρ' f1→PRs c S1 ps l→Q ps H1)→tPairs (fs.map fun p=>(tD c p.1,tD c p.2)) σ H Q
 | [],S,H,ρ,ρ',fps,l,Q,G,e,q=>by
  cases e
  exact q S H fps [] (Stp.refl S H fps) (PinR.refl _) G ⟨.nil,.nil⟩
 | p :: r,S,H,ρ,ρ',fps,l,Q,G,e,q=>by
  obtain ⟨k,ρ1,e1,e⟩:=q0z e
  obtain ⟨d,ρ2,e2,e⟩:=q0z e
  obtain ⟨l',ρ3,e3,e⟩:=q0z e
  cases e
  refine ⟨S,ρ,fps,k,ρ1,G,e1,fun S1 H1 f1 st1 pn1 G1 kv rk=>⟨S1,ρ1,f1,d,ρ2,G1,e2,fun S2 H2 f2 st2 pn2 G2 v rv=>?_⟩⟩
  exact z7z r G2 e3 fun S3 H3 f3 ps st3 pn3 G3 rp=>q S3 H3 f3 ((kv,v) :: ps) ((st1.trans st2).trans st3) ((pn1.trans pn2).trans pn3) G3 ⟨.cons ((rk.mono st2.ss).mono st3.ss) rp.1,.cons (rv.mono st3.ss) rp.2⟩
abbrev XPr (X:Cx) (pos:Pos) (keys:List (Option Expr)) (values:List Expr) (fs:List (EM Dat × EM Dat)):Prop:=PPs X pos keys values (fs.map fun p=>(tD (ct X) p.1,tD (ct X) p.2))
section
variable {X:Cx} {b e:Expr} {pos:Pos} {g f:EM Dat} {keys:List (Option Expr)} {values:List Expr} {fs:List (EM Dat × EM Dat)}
theorem x6L:XPr X pos [] [] []:=pps_nil
theorem z7A (hk:XE X b g) (hv:XE X e f) (h:XPr X pos keys values fs):XPr X pos (some b :: keys) (e :: values) ((g,f) :: fs):=pps_cons hk hv h
end
section
variable {X:Cx} {k j:Nat} {sp:List V→SpQ} {pins:List (Addr × Obj)} {σ:L2.St} {H:Hp} {s:Shared} {Q:VK} {us ws:List Value} {vs zs:List V} {a C dx g:Addr} {fs:List (Str × V)} {ks:List Str}
end
section
variable {X:Cx} {k j:Nat} {sp:List V→SpQ} {x:Str} {p pos:Pos} {kws:List Keyword} {tk:TA} {C g:Addr} {ks:List Str}
end
section
variable {X:Cx} {k j:Nat} {x nm:Str} {p pos:Pos} {kws:List Keyword} {t:EM (List Dat)} {F:List Dat→Option Cell} {ks:List Str}
end
end DL

namespace DL
variable [DL.Tbls]
open PySem PySem.Spec
open L2 (Key)
variable {ρ:Rho} {i:Nat}
def z4G:Option (Option Slot)→Option Slot
 | some (some s)=>some s
 | _=>none
theorem z3j {s:Slot}:z4G (some (some s)) = some s:=rfl
theorem z5F {g f:EM Dat} {P:Dat→Rho→Prop}:Ev (q7a i g f) ρ P ↔ Yd (z4G ρ[i]?) fun s0=>x8v s0.cell = true∧Ev g ρ fun y ρ1=>Yd (z4G ρ1[i]?) fun s=>Ev f (ρ1.set i none) fun d ρ2=>ρ2[i]? = some none∧Yd (x3H s.cell y d) fun k3=>P .non (ρ2.set i (some ⟨s.pin,k3⟩)):=by
 constructor
 ·rintro ⟨a,r,e,h⟩
  unfold q7a at e
  split at e
  ·rename_i s0 h0
   split at e
   ·rename_i hg
    split at e
    ·rename_i y ρ1 hy
     split at e
     ·rename_i s hs
      split at e
      ·rename_i d ρ2 hd
       split at e
       ·rename_i h2
        split at e
        ·rename_i k3 hk
         cases e
         exact ⟨s0,by rw [h0]; rfl,hg,y,ρ1,hy,s,by rw [hs]; rfl,d,ρ2,hd,h2,k3,hk,h⟩
        ·cases e
       ·cases e
      ·cases e
     ·cases e
    ·cases e
   ·cases e
  ·cases e
 ·rintro ⟨s0,h0,hg,y,ρ1,hy,s,hs,d,ρ2,hd,h2,k3,hk,h⟩
  unfold z4G at h0 hs
  split at h0
  ·rename_i z0
   cases h0
   split at hs
   ·rename_i z1
    cases hs
    refine ⟨_,_,?_,h⟩
    unfold q7a
    rw [z0]; dsimp only
    rw [if_pos hg,hy]; dsimp only
    rw [z1]; dsimp only
    rw [hd]; dsimp only
    rw [h2]; dsimp only
    rw [hk]
   ·cases hs
  ·cases h0
theorem x3P {P:Cell→Rho→Prop}:Ev x9c ρ P ↔ P (.dk [] []) ρ:=Ev_ret
theorem x9g {r:Dat→Dat→Dat→Option Dat} {f g h:EM Dat} {P:Dat→Rho→Prop}:Ev (e3 r f g h) ρ P ↔ Ev f ρ fun x ρ1=>Ev g ρ1 fun y ρ2=>Ev h ρ2 fun z ρ3=>Yd (r x y z) fun w=>P w ρ3:=by
 unfold e3; simp only [q0w,q2q]
def x3Q:Dat→Option (List Dat)
 | .dix ks _=>some ks
 | _=>none
theorem z7B {ks ds:List Dat}:x3Q (.dix ks ds) = some ks:=rfl
def x8z:List Dat→Option (List Dat)
 | [.tup a]=>some a
 | _=>none
theorem x0u {a:List Dat}:x8z [.tup a] = some a:=rfl
theorem z7C {t:EM (List Dat)} {P:List Dat→Rho→Prop}:Ev (z4r t) ρ P ↔ Ev t ρ fun ds ρ1=>Yd (x8z ds) fun a=>P (q4z a) ρ1:=by
 unfold z4r; rw [q0w]
 have key:∀ (ds:List Dat) (r:Rho),Ev (match ds with | [.tup a]=>q2M (q4z a) | _=>eNo) r P ↔ Yd (x8z ds) fun a=>P (q4z a) r:=by
  intro ds r
  unfold x8z
  split
  ·rw [Yd_some]; exact Ev_ret
  ·rw [Yd_none]; exact Ev_no
 exact ⟨fun q=>q.mono fun d r q=>(key d r).mp q,fun q=>q.mono fun d r q=>(key d r).mpr q⟩
end DL

namespace DL
variable [DL.Tbls]
open PySem PySem.Spec
open L2 (Key)
variable {ρ:Rho} {i:Nat}
theorem z1Y {f:EM Dat} {P:Dat→Rho→Prop}:Ev (q9R f) ρ P ↔ Ev f ρ fun d ρ1=>Yd (z5E d) fun ds=>P (.lst (q8T ds)) ρ1:=by
 unfold q9R x0s; simp only [q0w,q2q,Ev_ret]
theorem x0v {P:List (Dat × Dat)→Rho→Prop}:Ev (x1W []) ρ P ↔ P [] ρ:=Ev_ret
theorem x0w {p:EM Dat × EM Dat} {r:List (EM Dat × EM Dat)} {P:List (Dat × Dat)→Rho→Prop}:Ev (x1W (p :: r)) ρ P ↔ Ev p.1 ρ fun k ρ1=>Ev p.2 ρ1 fun d ρ2=>Ev (x1W r) ρ2 fun l ρ3=>P ((k,d) :: l) ρ3:=by
 rw [x1W]; simp only [q0w,Ev_ret]
end DL

namespace DL
variable [DL.Tbls]
open PySem PySem.Spec L2
section
variable {X:Cx} {pos:Pos} {j:Nat}
theorem x1X (i:Nat) {x y:Str} {p1 p2:Pos} {kk:Nat} (R:Rm X.A j) (hN:X.N[i]? = some x:=by rfl) (hv:Vis X.env.scope x:=by first | exact Or.inl rfl | exact Or.inr (Or.inl rfl) | exact Or.inr (Or.inr rfl)) (hd:(x == ("__debug__":Str)) = false:=by decide)
  (hcd:(x == ("__classdict__":Str)) = false:=by decide):XP X (.Subscript (.Name x p1) (.Constant (.str y) kk p2) pos) i (.key (.inr y)):=
 (pe_dget (by have:=R.u64; omega) (pe_var (i:=i) hN hv hd hcd) pe_str (by exact fun _ _=>rfl)).imp fun σ H Q ⟨v,u,e,⟨p,kvs,ev,hp,ex⟩,q⟩=>by
  subst ev
  exact ⟨.ref p,e,p,u,rfl,.inl ⟨_,.inr y,.inl hp,rfl,ex.symm⟩,q⟩
end
theorem z1Z {c:Ct} {S:Hp}:∀ {ps:List (V × V)} {l:List (Dat × Dat)} {kds:List (Key × Dat)},PRs c S ps l→x5d l = some kds→∃ kvs:List (Key × V),ps = kvs.map (fun kv=>(kV kv.1,kv.2))∧kvs.map (·.1) = kds.map (·.1)∧Reps c S (kvs.map (·.2)) (kds.map (·.2))
 | [],l,kds,h,e=>by
  cases l with
  | nil=>cases e; exact ⟨[],rfl,rfl,.nil⟩
  | cons _ _=>cases h.1
 | p :: ps,l,kds,h,e=>by
  cases l with
  | nil=>cases h.1
  | cons x l=>
   obtain ⟨h1,h2⟩:=h
   rw [Q0e,Q0e] at h1 h2
   cases h1 with
   | cons r1 t1=>
    cases h2 with
    | cons r2 t2=>
     have e':(match z5W x.1,x5d l with
      | some k,some l=>some ((k,x.2) :: l)
      | _,_=>none) = some kds:=e
     cases hk:z5W x.1 with
     | none=>rw [hk] at e'; cases e'
     | some k=>
      cases hl:x5d l with
      | none=>rw [hk,hl] at e'; cases e'
      | some l'=>
       rw [hk,hl] at e'
       cases e'
       obtain ⟨kvs,e1,e2,e3⟩:=z1Z ⟨t1,t2⟩ hl
       refine ⟨(k,p.2) :: kvs,?_,by rw [Q0e,e2]; rfl,.cons r2 e3⟩
       rw [e1,Q0e,← q6A r1 hk]
theorem q7z {α:Type}:∀ {more kvs:List (Key × V)},((kvs ++ more).map (·.1)).Nodup→mergeK kvs more = kvs ++ more
 | [],kvs,_=>(Q0i _).symm
 | p :: more,kvs,nd=>by
  show mergeK (putK kvs p.1 p.2) more = _
  have hn:p.1 ∉ kvs.map (·.1):=fun h=>by
   rw [Q0D,Q0e] at nd
   exact (Q0E.mp nd).2.2 _ h _ Q0g rfl
  have e:putK kvs p.1 p.2 = kvs ++ [p]:=by
   unfold putK
   rw [if_neg ?_]
   rw [Q2W]
   rintro ⟨q,hq,e⟩
   exact hn (Q0y.mpr ⟨q,hq,of_decide_eq_true e⟩)
  rw [e,q7z (α:=α) (by rw [Q0C]; exact nd),Q0C]; rfl
def q9S (g0:EM Dat) (f0:EM Cell) (fs:List (EM Dat × EM Dat)):EM Cell:=fun ρ=>match g0 ρ with
 | some (kd,ρ1)=>match f0 ρ1 with
  | some (.atm a,ρ2)=>match x1W fs ρ2 with
   | some (l,ρ3)=>match z5W kd,x5d l with
    | some k,some kds=>if (k :: kds.map (·.1)).Nodup∧l.length ≤ 14 then some (.di (k :: kds.map (·.1)) (a :: kds.map fun x=>.im x.2),ρ3) else none
    | _,_=>none
   | none=>none
  | _=>none
 | none=>none
theorem z2a {α β:Type}:∀ l:List (α × β),(l.map (·.1)).zip (l.map (·.2)) = l
 | []=>rfl
 | p :: l=>by rw [Q0e,Q0e,Q0L,z2a l]
section
variable {X:Cx} {b e:Expr} {pos:Pos} {g:EM Dat} {f:EM Cell} {keys:List (Option Expr)} {values:List Expr} {fs:List (EM Dat × EM Dat)}
theorem x0x (hk:XE X b g) (hv:XC X e f) (h:XPr X pos keys values fs) (hall:(some b :: keys).all (·.isSome) = true:=by rfl) (hl:(some b :: keys).length = (e :: values).length:=by rfl) (h15:(some b :: keys).length ≤ 15:=by decide):XC X (.Dict (some b :: keys) (e :: values) pos) (q9S g f fs):=
 (pe_disp (pps_cons hk hv h) hall hl (by simp) h15).imp fun σ H Q ⟨S,ρ,fps,kf,ρ',G,e0,q⟩ p hp=>by
  unfold q9S at e0
  split at e0
  ·rename_i kd ρ1 e1
   split at e0
   ·rename_i a ρ2 e2
    split at e0
    ·rename_i l ρ3 e3
     split at e0
     ·rename_i k kds hk' hkp
      split at e0
      ·rename_i hc
       cases e0
       obtain ⟨nd,h14⟩:=hc
       obtain ⟨Ga,sta⟩:=G.alloc (o:=.dK []) hp (k:=.od [] []) (.atm (.od (ks:=[]) (xs:=[]) upd_same rfl .nil))
       obtain ⟨fD,f0',ef,Gp,back⟩:=Ga.push
       refine ⟨S,ρ,f0',kd,ρ1,Gp,e1,fun S1 H1 f1 st1 pn1 G1 kv rk=>⟨S1,ρ1,f1,_,ρ2,G1,e2,fun v S2 H2 f2 st2 pn2 G2=>?_⟩⟩
       obtain ⟨fv,f3,ef3,Gq,backv⟩:=G2.push
       refine z7z fs Gq e3 fun S3 H3 f4 ps st3 pn3 G3 rp=>?_
       obtain ⟨G4,st4⟩:=backv S3 H3 σ ρ' f4 st3 G3
       obtain ⟨G5,st5⟩:=back S3 H3 (some v :: σ) (some ⟨false,.atm a⟩ :: ρ') (fv ++ f4) ((st1.trans st2).trans st4) G4
       obtain ⟨kvs,e5,e6,e7⟩:=z1Z rp hkp
       have rk2:kv = kV k:=q6A rk hk'
       generalize hff:fD ++ (fv ++ f4) = ff at G5 st5
       have ex5:=G5.ex
       have nd5:=G5.nd
       have out5:=G5.out
       cases G5.rep with
       | @con v0 b0 k0 σ0 ρ0 fp fr r1 r2=>
        cases r1 with
        | atm r1=>
         cases r1 with
         | @od p' ks' xs' ds' a1 a2 a3=>
          cases xs' with
          | cons _ _=>cases a2
          | nil=>
           cases r2 with
           | @con v1 b1 k1 σ1 ρ1 fpa f5 r3 r4=>
            cases r3 with
            | atm r3=>
             have hpn:∀ x ∈ fpa ++ f5,x ≠ p:=fun x hx z=>(Q0P.mp nd5).1 (z ▸ hx)
             refine ⟨a1,(k,v) :: kvs,by rw [e5,rk2]; rfl,?_,?_⟩
             ·have:kvs.length = l.length:=by
               have h1:=congrArg Q1Q e5
               have h2:=rp.1.length
               rw [Q0f] at h1
               rw [Q0f,Q0f] at h2
               omega
              rw [Q0d]; omega
             have em:mergeK [] ((k,v) :: kvs) = (k :: kds.map (·.1)).zip (v :: kvs.map (·.2)):=by
              rw [q7z (α:=Unit) (by rw [Q0u,Q0e,e6]; exact nd),Q0u,Q0L,← e6,z2a]
             rw [em]
             have ra:∀ {vs:List V} {ds:List (Key × Dat)} {Hh:Hp},Reps (ct X) S3 vs (ds.map (·.2))→RepAs (ct X) S3 Hh vs (ds.map fun x=>Atom.im x.2) []:=fun {vs ds Hh} h=>by
              have:=q6V (H:=Hh) h
              rw [Q0R] at this
              exact this
             have ras:RepAs (ct X) S3 (upd H3 p (.dK ((k :: kds.map (·.1)).zip (v :: kvs.map (·.2))))) (v :: kvs.map (·.2)) (a :: kds.map fun x=>.im x.2) (fpa ++ []):=.cons (r3.keep (Same.refl S3) fun x hx=>upd_ne (hpn x (Q0q _ hx))) (ra e7)
             rw [Q0i] at ras
             have hlen:(k :: kds.map (·.1)).length = (v :: kvs.map (·.2)).length:=by
              rw [Q0d,Q0d,← e6,Q0f,Q0f]
             have Gf:Good (ct X) S3 (upd H3 p (.dK ((k :: kds.map (·.1)).zip (v :: kvs.map (·.2))))) (some (.ref p) :: σ) (some ⟨false,.di (k :: kds.map (·.1)) (a :: kds.map fun x=>.im x.2)⟩ :: ρ') ((p :: fpa) ++ f5):=⟨fun a' o z=>by
              have ne:a' ≠ p:=fun w=>by subst w; rw [out5 a' Q0g] at z; cases z
              rw [upd_ne ne]; exact ex5 a' o z,.con (.di upd_same hlen ras) (r4.keep (Same.refl S3) fun x hx=>upd_ne (hpn x (Q0l _ hx))),nd5,out5,(by first | assumption | (apply DL.Good.tb; assumption) | (apply DL.z2N <;> first | (apply DL.Good.tb; assumption) | assumption | exact ⟨inferInstance,inferInstance⟩) | (apply DL.z2M <;> first | (apply DL.Good.tb; assumption) | (apply DL.q2i; assumption)) | (apply DL.z2O; assumption) | exact (And.left ‹_›).tb)⟩
             have stn:Stp S3 H3 ([p] ++ (fpa ++ f5)) S3 (upd H3 p (.dK ((k :: kds.map (·.1)).zip (v :: kvs.map (·.2))))) ((p :: fpa) ++ f5):=by
              refine ⟨Same.refl S3,fun a o z n=>?_,fun a z=>?_,fun a ha=>.inl ha,fun a z=>.inl z⟩
              ·rw [upd_ne fun w=>n (by rw [w]; exact Q0g)]; exact z
              ·by_cases w:a = p
               ·rw [w,upd_same]; exact fun z=>nomatch z
               ·rw [upd_ne w]; exact z
             exact q _ _ _ _ ((sta.trans st5).trans stn) ((pn1.trans pn2).trans pn3) Gf
      ·cases e0
     ·cases e0
    ·cases e0
   ·cases e0
  ·cases e0
end
end DL

namespace DL
variable [DL.Tbls]
open PySem PySem.Spec L2
def q9T (i:Nat) (k:Str) (f:EM Dat):SD:=fun ρ=>match f ρ with
 | some (d,ρ1)=>match ρ1[i]? with
  | some (some ⟨b,.di ks as⟩)=>if ks.Nodup∧ks.length < 1000 then (match ks.findIdx? fun z=>decide (z = .inr k) with
    | some j=>match as[j]? with
     | some (.im _)=>some (.nx (ρ1.set i (some ⟨b,.di ks (as.set j (.im d))⟩)))
     | _=>none
    | none=>none) else none
  | _=>none
 | none=>none
theorem x3R {ks:List Key} {xs:List V} {k:Key} {u:V}:∀ {j:Nat},ks.Nodup→ks.length = xs.length→(ks.findIdx? fun z=>decide (z = k)) = some j→putK (ks.zip xs) k u = ks.zip (xs.set j u):=by
 have key:∀ (ks:List Key) (xs:List V) (j:Nat),ks.Nodup→ks.length = xs.length→(ks.findIdx? fun z=>decide (z = k)) = some j→((ks.zip xs).any fun kv=>decide (kv.1 = k)) = true∧(ks.zip xs).map (fun kv=>if kv.1 = k then (kv.1,u) else kv) = ks.zip (xs.set j u):=by
  intro ks
  induction ks with
  | nil=>intro xs j _ _ e; simp at e
  | cons g ks ih=>
   intro xs j nd hl e
   cases xs with
   | nil=>cases hl
   | cons x xs=>
    have n2:=Q0P.mp nd
    rw [Q1p] at e
    by_cases hg:g = k
    ·rw [decide_eq_true hg,if_pos rfl] at e
     cases e
     subst hg
     refine ⟨by simp,?_⟩
     rw [Q0L,Q0e,if_pos rfl,Q0j,Q0L]
     congr 1
     rw [Q1P (g:=id) fun kv hkv=>?_,List.map_id]
     have:kv.1 ∈ ks:=(List.of_mem_zip (show (kv.1,kv.2) ∈ ks.zip xs from hkv)).1
     rw [if_neg fun z:kv.1 = g=>n2.1 (z ▸ this)]; rfl
    ·rw [decide_eq_false hg] at e
     simp only [Q0c,if_false] at e
     cases hj:ks.findIdx? fun z=>decide (z = k) with
     | none=>rw [hj] at e; cases e
     | some j'=>
      rw [hj] at e
      cases e
      obtain ⟨a1,a2⟩:=ih xs j' n2.2 (Q3c.inj hl) hj
      refine ⟨by rw [Q0L,Q4j,a1,Bool.or_true],?_⟩
      rw [Q0L,Q0e,a2,if_neg hg,Q0m,Q0L]
 intro j nd hl e
 obtain ⟨a1,a2⟩:=key ks xs j nd hl e
 unfold putK
 rw [if_pos a1,a2]
section
variable {X:Cx} {e:Expr} {pos p1 p2 p3:Pos} {f:EM Dat} {j:Nat}
theorem x0y (i:Nat) {x y:Str} {kk:Nat} (R:Rm X.A j) (he:XE X e f) (hN:X.N[i]? = some x:=by rfl) (hv:Vis X.env.scope x:=by first | exact Or.inl rfl | exact Or.inr (Or.inl rfl) | exact Or.inr (Or.inr rfl)) (hd:(x == ("__debug__":Str)) = false:=by decide)
  (hcd:(x == ("__classdict__":Str)) = false:=by decide) (hs:swapsWithSole [.Subscript (.Name x p1) (.Constant (.str y) kk p3) p2] e pos.line X.env = pure false:=by rfl) (hw:swappedStores [.Subscript (.Name x p1) (.Constant (.str y) kk p3) p2] e X.env = pure none:=by rfl)
  (h1:(jbh [.Subscript (.Name x p1) (.Constant (.str y) kk p3) p2] X.env).map (·.2) = [assign (.Subscript (.Name x p1) (.Constant (.str y) kk p3) p2) X.env]:=by rfl)
  (ha:∀ v,assign (.Subscript (.Name x p1) (.Constant (.str y) kk p3) p2) X.env v = (do
   let ov ← holding [v] (eval (.Name x p1) X.env)
   let iv ← holding [v,ov] (eval (.Constant (.str y) kk p3) X.env)
   standAt p2
   holding [v,ov,iv] (setItem ov iv v)
   release [v,ov,iv] []):=by intro _; rfl):XS X (.Assign [.Subscript (.Name x p1) (.Constant (.str y) kk p3) p2] e pos) (q9T i y f):=
 (ps_asg he (pg_sub (pe_var (i:=i) hN hv hd hcd) pe_str (set_dict (by have:=R.u64; omega)) ha) hs hw h1).imp fun D σ H ⟨S,ρ,fps,fl,G,e0,q⟩=>by
  unfold q9T at e0
  split at e0
  ·rename_i d ρ1 hf
   split at e0
   ·rename_i b ks as hs1
    split at e0
    ·rename_i hc
     split at e0
     ·rename_i jj hj
      split at e0
      ·rename_i d0 had
       cases e0
       refine ⟨S,ρ,fps,d,ρ1,G,hf,fun S1 H1 f1 st1 pn1 G1 u ru=>?_⟩
       obtain ⟨v,fp,f0,ev,hcell,nd,G0,bk⟩:=G1.back hs1
       obtain ⟨_,nS,bk2⟩:=bk S1 H1 _ f0 (Stp.refl S1 H1 f0) G0 (by rw [Q0M (Q0r.mp hs1).1])
       cases hcell with
       | @di p ks xs as fpa a1 a2 a3=>
        have hz:(ks.zip xs).length < sizeLine:=by rw [Q3f,← a2,Q3P]; exact q9F (by omega)
        refine ⟨.ref p,ev,p,_,rfl,.inl ⟨_,.inr y,a1,rfl,hz,rfl⟩,?_⟩
        rw [x3R hc.1 a2 hj]
        have hpn:p ∉ fpa:=(Q0P.mp nd).1
        obtain ⟨f3,G3,st3⟩:=bk2 (upd H1 p (.dK (ks.zip (xs.set jj u)))) b (.di ks (as.set jj (.im d))) (fun a hna=>upd_ne fun z=>hna (z ▸ Q0g)) (fun a ha'=>by
         by_cases z:a = p
         ·rw [z,upd_same]; exact fun z=>nomatch z
         ·rw [upd_ne z]; exact (RepC.di a1 a2 a3).there a ha') (.di upd_same (by rw [Q1m]; exact a2) ((a3.setIm had ru).keep (Same.refl S1) fun x hx=>upd_ne fun z=>hpn (z ▸ hx)))
        rw [List.set_set] at G3
        refine q σ S1 _ f3 (st1.trans st3) (.of σ (pn1.trans ⟨by rw [Q1m],fun j' s' hj' hp=>?_⟩)) G3
        by_cases z:i = j'
        ·subst z
         rw [hs1] at hj'
         cases hj'
         exact ⟨_,Q0M (Q0r.mp hs1).1,hp⟩
        ·exact ⟨s',by rw [Q0I z]; exact hj',hp⟩
      ·cases e0
     ·cases e0
    ·cases e0
   ·cases e0
  ·cases e0
end
end DL

namespace DL
variable [DL.Tbls]
open PySem PySem.Spec L2 PyProof.Rows
section
variable {X:Cx} {k j:Nat} {nm:Str} {F:List Dat→Option Cell} {C:Addr}
def j0f (c:Ct) (C:Addr) (F:List Dat→Option Cell) (neg:Bool):R2:=fun x y H Q=>∃ a dx fs,y = V.ref a∧H a = some (.ins C dx fs)∧spA c F [.ref a,x] H (fun v H'=>∃ b,v = .bl b∧Q (.bl (b ^^ neg)) H')
theorem x3S (D:q9r (ct X) X.base k nm "__contains__" F) (hC:X.mg nm = some (.ref C)) (R:Rm X.A j) (hj:k ≤ j):OpR X (compareOp .NotIn) (j0f (ct X) C F true):=by
 intro pins s σ H x y v u Q I rx ry h
 obtain ⟨a,dx,fs,rfl,ea,q⟩:=h
 obtain rfl:u = Value.ref a:=ry
 obtain ⟨cl,g,hm,cl2⟩:=D.ex C hC
 obtain ⟨mA,O,_,_,_,_⟩:=ins_get I.hok ea
 obtain ⟨od,J,_⟩:=O.look
 obtain ⟨m,hF⟩:=I.fr
 refine PySem.W.notIn_K hF I.ok.mod.kin J hm.at_ hm.fn (wpAny_mono (q8w (us:=[.ref a,v]) (vs:=[.ref a,x]) cl2 (R.mono hj) I (.cons rfl (.cons rx .nil)) q) (fun r s' hr=>?_) fun _ _ y=>y)
 obtain ⟨z,H',I',rz,b,ez,hq⟩:=hr
 subst ez
 obtain rfl:r = Value.bool b:=by cases rz; rfl
 exact wpAny_truthy_bool ⟨.bl _,H',I',rfl,by simpa using hq⟩
end
def q9x:Option Cell→Option Bool
 | some (.atm (.im (.bl b)))=>some b
 | _=>none
theorem q9U {r:Option Cell} {b:Bool} (h:q9x r = some b):r = some (.atm (.im (.bl b))):=by
 unfold q9x at h
 split at h
 ·cases h; rfl
 ·cases h
def inI (nm:Str) (F:List Dat→Option Cell) (neg:Bool):Dat→Dat→Option Dat
 | x,.ins c fs ds=>if c = nm then (q9x (F [.ins c fs ds,x])).map fun b=>.bl (b ^^ neg) else none
 | _,_=>none
section
variable {X:Cx} {k j:Nat} {nm:Str} {F:List Dat→Option Cell} {a b:Expr} {pos:Pos} {f g:EM Dat}
theorem x3T (C:Addr) (hC:X.mg nm = some (.ref C)) {neg:Bool} {σ:L2.St} {H:Hp} {Q:VK} (h:tD (ct X) (e2 (inI nm F neg) f g) σ H Q):tOp (j0f (ct X) C F neg) (tD (ct X) f) (tD (ct X) g) σ H Q:=by
 obtain ⟨S,ρ,fps,d0,ρ',G,e,q⟩:=h
 obtain ⟨x,ρ1,e1,e2⟩:=q0z e
 obtain ⟨y,ρ2,e3,e4⟩:=q0z e2
 obtain ⟨e5,e6⟩:=q1e e4
 subst e6
 refine ⟨S,ρ,fps,x,ρ1,G,e1,fun S1 H1 f1 st1 pin1 G1 v r=>⟨S1,ρ1,f1,y,ρ',G1,e3,fun S2 H2 f2 st2 pin2 G2 u ru=>?_⟩⟩
 have r':=r.mono st2.ss
 cases ru with
 | @ins a C' dx nm' fs xs ds h0 h1 h2 h3=>
  dsimp only [inI] at e5
  split at e5
  ·rename_i hc
   subst hc
   obtain rfl:C' = C:=by have:=h0.symm.trans hC; cases this; rfl
   cases hb:q9x (F [.ins nm' fs ds,x]) with
   | none=>rw [hb] at e5; cases e5
   | some bb=>
    rw [hb] at e5
    cases e5
    have hr:=q9U hb
    refine ⟨a,dx,_,rfl,G2.ex _ _ h1,q8v G2 (.cons (.ins h0 h1 h2 h3) (.cons r' .nil)) rfl hr fun w S' H' f' st3 G'=>?_⟩
    obtain ⟨ex,rep,nd,out,tb⟩:=G'
    cases rep with
    | con q1 q2=>
     cases q1 with
     | atm q1=>
      cases q1 with
      | im q1=>
       cases q1
       exact ⟨bb,rfl,q S' H' _ ((st1.trans st2).trans st3) (pin1.trans pin2) ⟨ex,q2,nd,out,tb⟩ _ (.bl _)⟩
  ·cases e5
 | _=>cases e5
theorem z7D (D:q9r (ct X) X.base k nm "__contains__" F) (C:Addr) (hC:X.mg nm = some (.ref C)) (R:Rm X.A j) (ha:XE X a f) (hb:XE X b g) (hj:k ≤ j:=by decide) (hm:behindInMarks .NotIn b = false:=by first | exact Q0F _ (by decide) (by decide) | rfl):XT X (.Compare a [.NotIn] [b] pos) (eT (e2 (inI nm F true) f g)):=
 (pt_cmpR (x3S D hC R hj) ha hb hm).imp fun _ _ _ h=>x3T C hC (z6g h)
end
end DL

namespace DL
variable [DL.Tbls]
open PySem PySem.Spec L2 PyProof.Rows
theorem Stp.of_fre {S H S' H':Hp} (f:Fre S H S' H'):Stp S H [] S' H' [] where
 ss:=f.ss
 fr:=fun a o h _=>f.hh a o h
 dom:=fun a h=>by
  cases q:H a with
  | none=>exact absurd q h
  | some o=>rw [f.hh a o q]; exact fun z=>nomatch z
 nf:=fun a h=>nomatch h
 ns:=fun a h=>(f.ns a h).imp id Or.inr
theorem x0z {c:Ct} {m:Nat} {F0:List Dat→Option Cell} {vs:List V} {H:Hp} {Q:VK} (h:spA c (fun ds=>if m ≤ ds.length∧ds.length ≤ 1000 then F0 (ds.take m ++ [.tup (ds.drop m)]) else none) vs H Q) :
  ∃ ws rest,vs = ws ++ rest∧ws.length = m∧rest.length ≤ sizeLine∧∀ p,H p = none→spP c (m + 1) F0 (ws ++ [V.ref p]) (upd H p (.tup rest)) Q:=by
 obtain ⟨_,S,ds,r,ex,tb,rp,e,q⟩:=h
 dsimp only at e
 split at e
 ·rename_i hb
  obtain ⟨hb1,hb2⟩:=hb
  have hl:=rp.length
  refine ⟨vs.take m,vs.drop m,(Q1Y ..).symm,by rw [Q1f,hl]; omega,?_,fun p hp=>?_⟩
  ·rw [Q1O,hl]
   exact Q0S (Nat.sub_le _ _) (Q0S hb2 (by decide))
  have fr:=Fre.new (o:=.tup (vs.drop m)) ex hp
  refine ⟨by rw [Q0A,Q1f,hl,Q1r]; omega,_,_,r,fr.sh,x2I tb fr,((rp.take m).mono fr.ss).app (.cons (.tup (SqT.of upd_same) ((rp.drop m).mono fr.ss)) .nil),e,fun v S' H' fp' st G'=>q v S' H' fp' ?_ G'⟩
  exact (Stp.of_fre fr).trans st
 ·cases e
structure MetB (c:Ct) (base:Heap) (k:Nat) (nm m:Str) (F:List Dat→Option Cell):Prop where
 ex:∀ C,c.mg nm = some (.ref C)→Cls c.K C∧∃ g,BMeth c.K C m g∧Cl c base k g [] (fun vs _ H Q=>spA c F vs H Q)
theorem MetB.met {c:Ct} {base:Heap} {k:Nat} {nm m:Str} {F:List Dat→Option Cell} (D:MetB c base k nm m F):q9r c base k nm m F:=⟨fun C hC=>let ⟨a,g,b,h⟩:=D.ex C hC; ⟨a,g,b.mt,h⟩⟩
theorem z2b {M:Model} {A:Around} {E:Value→Shared→Prop} {s:Shared} {env:Env} {o e2:Expr} {m:Str} {p apos pos:Pos} {Q:Value→Shared→Prop} (hbase:attributeBase o m env (eval o env) = eval o env)
  (hst:starEach [.Starred e2 p] env = [(true,eval e2 env)])
  (h:wpAny M A (eval o env) (fun ov s₁=>wpAny M A (getAttr ov m true) (fun f s₂=>wpAny M A (callWith pos f [] (backTo pos [(true,eval e2 env)]) []) Q E s₂) E s₁) E s) :
  wpAny M A (eval (.Call (.Attribute o m apos) [.Starred e2 p] [] pos) env) Q E s:=by
 have hke:backToKw pos (jbi [] env) = []:=rfl
 have hform:methodCallForm ([Expr.Starred e2 p].length + ([]:List Keyword).length) (backTo pos [(true,eval e2 env)]) [] = false:=rfl
 have hpos:methodCallPos false o env apos pos = pure pos:=rfl
 have hcal:∀ ov,calleeOf false o env ov m = (getAttr ov m true >>= fun v=>pure (v,[])):=fun _=>rfl
 rw [arm_eval_Call,hbase,hst,hke]
 refine jbb (wpAny_mono h (fun ov s₁ h₁=>?_) fun _ _ x=>x)
 refine jbb (wpAny_standAt ?_)
 unfold methodCall
 rw [hform,hpos,hcal]
 refine jbb (jbf (jbb (wpAny_mono h₁ (fun f s₂ h₂=>jbc ?_) fun _ _ x=>x)))
 exact jbb (jbc h₂)
section
variable {X:Cx} {k j:Nat} {C g:Addr} {m:Str} {sp:List V→SpQ} {o e:Expr} {ta t2:TE} {p apos pos:Pos}
theorem z7E (he:PE X o ta) (c:Cls X.K C) (b:BMeth X.K C m g) (F:Cl (ct X) X.base k g [] sp) (R:Rm X.A j) (hj:k ≤ j) (h2:PE X e t2) (hbase:attributeBase o m X.env (eval o X.env) = eval o X.env:=by rfl)
  (hst:starEach [.Starred e p] X.env = [(true,eval e X.env)]:=by rfl):PE X (.Call (.Attribute o m apos) [.Starred e p] [] pos) (fun σ H Q=>ta σ H fun x H1=>∃ a dx fs,x = .ref a∧H1 a = some (.ins C dx fs)∧fs.lookup m = none ∧
   ∀ q,H1 q = none→t2 σ (upd H1 q (.met g a)) fun y H3=>∃ b vs,y = .ref b∧(SqT X.K H3 b vs∨SqL X.K H3 b vs)∧H3 q = some (.met g a)∧sp (.ref a :: vs) [] H3 Q):=by
 refine ⟨fun pins s σ H Q I h=>?_⟩
 refine z2b hbase hst (thn (he.run pins s σ H _ I h) fun u s1 ⟨x,H1,I1,rx,a,dx,fs,ex,ea,l,q⟩=>?_)
 subst ex
 obtain rfl:u = Value.ref a:=rx
 refine getbound_ok I1 ea c b l fun q1 s2 hq1 I2=>?_
 refine PySem.W.ks_call (P:=PySem.W.MethP X.K q1 g (.ref a)) rfl (PySem.W.keeps_M b.fi) (PySem.W.ks_lone (thn (h2.run pins s2 σ _ _ I2 (q q1 hq1)) fun v2 s4 ⟨y2,H3,I4,ry2,t,vs,ey,ht,hm,hsp⟩=>?_))
 subst ey
 obtain rfl:v2 = Value.ref t:=ry2
 refine StX.star_any I4 ht fun us s5 I5 rv=>?_
 exact ⟨met_P I5 hm,wpAny_call (PySem.W.method_call (met_P I5 hm).1 (codeAny_mono (F X.A X.stack s5 H3 (.ref a :: us) [] (.ref a :: vs) [] Q (R.mono hj).hr (R.mono hj).hg I5.env0 (.cons rfl rv) .nil rfl hsp) fun r s' hq=>by
  cases r with
  | error e=>exact False.elim hq
  | ok fl=>
   cases fl with
   | ret u=>exact I5.after hq
   | next=>exact False.elim hq
   | brk=>exact False.elim hq
   | cont=>exact False.elim hq))⟩
end
def x6M:Dat→Option (List Dat)
 | .lst ds=>some ds
 | .tup ds=>some ds
 | _=>none
def z4H (nm m:Str) (F:List Dat→Option Cell) (g f:EM Dat):EM Cell:=q0J g fun d=>match d with
 | .ins c fs ds=>if c = nm∧((fs.zip ds).lookup m).isNone = true then q0J f fun y=>q0J (q3a (x6M y)) fun es=>q3a (F (.ins c fs ds :: es)) else eNo
 | _=>eNo
section
variable {X:Cx} {k j:Nat} {m nm:Str} {o e:Expr} {p apos pos:Pos} {f g:EM Dat} {F:List Dat→Option Cell}
theorem x0A (D:MetB (ct X) X.base k nm m F) (C:Addr) (hC:X.mg nm = some (.ref C)) (R:Rm X.A j) (he:XE X o g) (h2:XE X e f) (hj:k ≤ j:=by decide) (hbase:attributeBase o m X.env (eval o X.env) = eval o X.env:=by rfl)
  (hst:starEach [.Starred e p] X.env = [(true,eval e X.env)]:=by rfl):XC X (.Call (.Attribute o m apos) [.Starred e p] [] pos) (z4H nm m F g f):=by
 obtain ⟨cl,g0,hm,F0⟩:=D.ex C hC
 refine (z7E he cl hm F0 R hj h2 hbase hst).imp fun σ H Q h=>?_
 obtain ⟨S,ρ,fps,kc,ρ',G,e,q⟩:=h
 obtain ⟨d,ρ1,e1,e2⟩:=q0z e
 refine ⟨S,ρ,fps,d,ρ1,G,e1,fun S1 H1 f1 st pin G1 v r=>?_⟩
 cases r with
 | @ins a C' dx nm' fs xs ds h0 h1 h2 h3=>
  dsimp only at e2
  split at e2
  ·rename_i hc
   obtain ⟨rfl,hno⟩:=hc
   obtain rfl:C' = C:=by have:=h0.symm.trans hC; cases this; rfl
   refine ⟨a,dx,_,rfl,G1.ex _ _ h1,q4c h3.length (q9H hno),fun q1 hq1=>?_⟩
   have fr:=Fre.new (o:=.met g0 a) G1.ex hq1
   obtain ⟨G2,st2⟩:=G1.fre fr
   obtain ⟨y,ρ2,e3,e4⟩:=q0z e2
   obtain ⟨es,ρ3,e5,e6⟩:=q0z e4
   obtain ⟨e7,e8⟩:=q1e e5
   obtain ⟨e9,e10⟩:=q1e e6
   subst e8 e10
   refine ⟨_,ρ1,f1,y,_,G2,e3,fun S3 H3 f3 st3 pin3 G3 u ru=>?_⟩
   have hq:H3 q1 = some (.met g0 a):=G3.ex _ _ (st3.ss _ _ upd_same)
   have ri:Rep (ct X) S3 (.ref a) (.ins nm' fs ds):=Rep.mono (fr.ss.trans st3.ss) (.ins h0 h1 h2 h3)
   have fin:∀ vs,Reps (ct X) S3 vs es→spA (ct X) F (.ref a :: vs) H3 Q:=fun vs rv=>q8v G3 (.cons ri rv) rfl e9 fun w S' H' f' st4 G'=>q w S' H' f' (((st.trans st2).trans st3).trans st4) (pin.trans pin3) G'
   cases ru with
   | lst a1 a2=>cases e7; exact ⟨_,_,rfl,.inr (.inl (q0G G3.ex a1)),hq,fin _ a2⟩
   | tup a1 a2=>cases e7; exact ⟨_,_,rfl,.inl (q0S G3.ex a1),hq,fin _ a2⟩
   | _=>cases e7
  ·cases e2
 | _=>cases e2
end
end DL

namespace DL
variable [DL.Tbls]
open PySem PySem.Spec L2
def Itx (P:Program) (w:World) (d:Addr) (o:Obj) (xs:List q3O):It:=
 ⟨fun i H=>H d = some (.frz o (KD P w d xs))∧i < xs.length,fun i H x H'=>H' = H∧∃ r,xs[i]? = some r∧x = .ref r.2.1,fun i H=>H d = some (.frz o (KD P w d xs))∧xs.length ≤ i⟩
theorem x9h {xs:List q3O} {us:List q9s} (h:KX xs us):∀ {i:Nat} {r:q3O},xs[i]? = some r→∃ u,us[i]? = some u∧u.2.1 = r.2.1:=by
 induction h with
 | nil=>intro i r e; simp at e
 | cons h _ ih=>
  intro i r e
  cases i with
  | zero=>simp at e; subst e; exact ⟨_,rfl,h.2.1.symm⟩
  | succ i=>exact ih (by simpa using e)
section
variable {X:Cx} {pins:List (Addr × Obj)} {σ:L2.St} {H:Hp} {s:Shared} {d:Addr} {o:Obj} {xs:List q3O}
theorem x8A (I:Inv X pins σ H s) (h:H d = some (.frz o (KD X.prog X.w d xs))) :
  (d == sysModules) = false∧s.heap.get? d = some o∧o.ExactDict∧∃ (es:Array DictEntry) (ep:Nat),o.data = .dict es ep∧es.size = xs.length ∧
   ∀ (i:Nat) (r:q3O),xs[i]? = some r→∃ (en:DictEntry),es[i]? = some en∧en.key = .ref r.2.1:=by
 obtain ⟨hd,q⟩:=I.hok d _ h
 obtain ⟨z,hs,nd,us,kx,o',es,ep,ho,hx,hdt,he⟩:=(show ObjOk X.prog X.w H s.heap d (KD X.prog X.w d xs) from q).1
 rw [hd] at ho
 cases ho
 refine ⟨hs,hd,hx,es,ep,hdt,?_,fun i r e=>?_⟩
 ·have l1:es.size = us.length:=size_of_entries he
  have l2:xs.length = us.length:=Paired.length kx
  omega
 ·obtain ⟨u,hu,eu⟩:=x9h kx e
  have q:=entry_at he i
  rw [hu] at q
  exact ⟨_,q,by rw [← eu]; rfl⟩
end
section
variable {P:Program} {w:World} {K:JFr} {tg:Expr} {d:Addr} {o:Obj} {es:Array DictEntry} {ep:Nat}
theorem q9V {xs:List q3O} (it:Addr) (hod:o.data = .dict es ep):Turn P w K tg (Itx P w d o xs) [it] it (fun i h=>h.IsKeyIter it d i xs.length ep) where
 mem:=by simp
 obj:=fun i h st b hb=>by
  have e:b = it:=by simpa using hb
  subst e
  obtain ⟨oi,e,c,dd⟩:=st
  exact ⟨oi,e,fun v z=>by rw [dd] at z; cases z⟩
 keep:=fun i h h' st k=>st.at fun oi e=>k it (by simp) oi e
 item:=by
  intro X hP hw hK hc i pins s σ H E I hf st hg
  subst hP hw hK
  obtain ⟨hd,hi⟩:=hg
  obtain ⟨f0,f1,f2,f3,f4,f5⟩:=hf it (by simp)
  obtain ⟨hs,hgd,hx,es',ep',hdt,hsz,ent⟩:=x8A I hd
  obtain ⟨rfl,rfl⟩:=dict_ep hod hdt
  obtain ⟨r,hr⟩:∃ r,xs[i]? = some r:=⟨xs[i],Q0G hi⟩
  obtain ⟨en,hen,hkey⟩:=ent i r hr
  refine next_key_item st hgd hdt hsz hen fun h' st' sb=>?_
  have I1:Inv X pins σ H { s with heap:=h' }:=I.turned (t':=s.toks) (fun b ob hb e=>(sb.2 b hb).trans e) f0 f1 f3 f4 f5
  obtain ⟨oi,e,c,dd⟩:=id st'
  exact ⟨en.key,rfl,go_of (s:={ s with heap:=h' }) e c dd (by decide) ⟨.ref r.2.1,H,I1,hkey,⟨rfl,r,hr,rfl⟩,st',fun b hb=>(hf b hb).1⟩⟩
 done:=by
  intro X hP hw hK hc i pins s σ H E I hf st hg
  subst hP hw hK
  obtain ⟨hd,hi⟩:=hg
  obtain ⟨f0,f1,f2,f3,f4,f5⟩:=hf it (by simp)
  obtain ⟨hs,hgd,hx,es',ep',hdt,hsz,ent⟩:=x8A I hd
  obtain ⟨rfl,rfl⟩:=dict_ep hod hdt
  exact next_key_end (I.ok.hd hc) st hgd hdt hsz hi fun h' eb=>⟨rfl,I.turned (t':=s.toks) (fun b ob hb e=>eb b ob hb e) f0 f1 f3 f4 f5⟩
 self:=fun A i s Q E st h=>by
  refine wpAny_pyIter_slot st.typeIs F.slot_dict_keyiterator_iter (wpAny_call_entry F.slot_dict_keyiterator_iter st.typeIs F.entry_dict_keyiterator_iter ?_ (F.args_dict_keyiterator_iter_1 _))
  show wpAny _ _ (ret (.ref it)) _ _ s
  exact jbc ⟨_,rfl,"dict_keyiterator",_,st.typeIs,F.slot_dict_keyiterator_next.lookup,h⟩
end
def x1Y (X:Cx) (td:TE):TI:=fun σ H R=>td σ H fun x H1=>∃ d xs,x = .ref d∧((H1 d = some (KD X.prog X.w d xs)∧∀ o,(∀ o' u',X.H_0 d ≠ some (.frz o' u'))→R (Itx X.prog X.w d o xs) (upd H1 d (.frz o (KD X.prog X.w d xs))))∨∃ o,H1 d = some (.frz o (KD X.prog X.w d xs))∧R (Itx X.prog X.w d o xs) H1)
theorem x0B {X:Cx} {tg e:Expr} {td:TE} (he:PE X e td):PI X tg e (x1Y X td):=by
 refine ⟨fun pins s σ H R I h=>?_⟩
 refine thn (he.run pins s σ H _ I h) fun u s1 ⟨x,H1,I1,rx,d,xs,ex,q⟩=>?_
 subst ex
 obtain rfl:u = Value.ref d:=rx
 rcases q with ⟨hd,q⟩ | ⟨o,hd,q⟩
 ·obtain ⟨od,I2⟩:=I1.lock hd trivial
  have q:=q od (I1.nofrz hd trivial)
  obtain ⟨hs,hgd,hx,es,ep,hdt,hsz,ent⟩:=x8A I2 upd_same
  refine iter_keys hs hgd hx hdt (pi_one (tk:=s1.toks) I2 _ (q9V _ hdt) ⟨_,Heap.get?_push_size _ rfl,rfl,?_⟩ q)
  rw [hsz] <;> rfl
 ·obtain ⟨hs,hgd,hx,es,ep,hdt,hsz,ent⟩:=x8A I1 hd
  refine iter_keys hs hgd hx hdt (pi_one (tk:=s1.toks) I1 _ (q9V _ hdt) ⟨_,Heap.get?_push_size _ rfl,rfl,?_⟩ q)
  rw [hsz] <;> rfl
def z2c (f:EM Dat):EM (List Dat):=q0J f fun d=>match d with
 | .dix ks _=>q2M ks
 | _=>eNo
section
variable {c:Ct} {S:Hp} {d:Addr} {φ:Heap→Prop} {o:Obj}
theorem q6M {a:Addr} {u:HO} (hd:S d = some (.ext φ)) (h:Rd S a u):Rd (upd S d (.frz o (.ext φ))) a u:=by
 by_cases z:a = d
 ·subst z
  rcases h with h | ⟨o',h⟩
  ·rw [hd] at h; cases h; exact .inr ⟨o,upd_same⟩
  ·rw [hd] at h; cases h
 ·rcases h with h | ⟨o',h⟩
  ·exact .inl (by rw [upd_ne z]; exact h)
  ·exact .inr ⟨o',by rw [upd_ne z]; exact h⟩
theorem q4R {a:Addr} {u:HO} (hd:S d = some (.frz o (.ext φ))) (h:Rd S a u) (hu:u ≠ .frz o (.ext φ)):Rd (upd S d (.ext φ)) a u:=by
 by_cases z:a = d
 ·subst z
  rcases h with h | ⟨o',h⟩
  ·rw [hd] at h; cases h; exact absurd rfl hu
  ·rw [hd] at h; cases h; exact .inl upd_same
 ·rcases h with h | ⟨o',h⟩
  ·exact .inl (by rw [upd_ne z]; exact h)
  ·exact .inr ⟨o',by rw [upd_ne z]; exact h⟩
mutual
theorem Rep.lockX (hd:S d = some (.ext φ)) {v:V} {x:Dat} (h:Rep c S v x):Rep c (upd S d (.frz o (.ext φ))) v x:=by
 match h with
 | .non=>exact .non
 | .bl b=>exact .bl b
 | .int i=>exact .int i
 | .str x=>exact .str x
 | .tup h1 h2=>exact .tup (h1.imp (q6M hd) id) (Reps.lockX hd h2)
 | .lst h1 h2=>exact .lst (q6M hd h1) (Reps.lockX hd h2)
 | .fro h1 h2=>exact .fro (h1.imp (q6M hd) id) (Reps.lockX hd h2)
 | .dic h1 h2 h3=>exact .dic (q6M hd h1) h2 (Reps.lockX hd h3)
 | .ins h0 h1 h2 h3=>exact .ins h0 (by rw [upd_ne fun z=>by rw [z,hd] at h1; cases h1]; exact h1) h2 (Reps.lockX hd h3)
 | .dix h1 h2 h3 h4=>exact .dix (q6M hd h1) (Reps.lockX hd h2) h3 (Reps.lockX hd h4)
 | .opq h=>exact .opq h
theorem Reps.lockX (hd:S d = some (.ext φ)) {vs:List V} {ds:List Dat} (h:Reps c S vs ds):Reps c (upd S d (.frz o (.ext φ))) vs ds:=by
 match h with
 | .nil=>exact .nil
 | .cons h1 h2=>exact .cons (Rep.lockX hd h1) (Reps.lockX hd h2)
end
mutual
theorem Rep.unlockX (hd:S d = some (.frz o (.ext φ))) {v:V} {x:Dat} (h:Rep c S v x):Rep c (upd S d (.ext φ)) v x:=by
 match h with
 | .non=>exact .non
 | .bl b=>exact .bl b
 | .int i=>exact .int i
 | .str x=>exact .str x
 | .tup h1 h2=>exact .tup (h1.imp (fun z=>q4R hd z fun z=>nomatch z) id) (Reps.unlockX hd h2)
 | .lst h1 h2=>exact .lst (q4R hd h1 fun z=>nomatch z) (Reps.unlockX hd h2)
 | .fro h1 h2=>exact .fro (h1.imp (fun z=>q4R hd z fun z=>nomatch z) id) (Reps.unlockX hd h2)
 | .dic h1 h2 h3=>exact .dic (q4R hd h1 fun z=>nomatch z) h2 (Reps.unlockX hd h3)
 | .ins h0 h1 h2 h3=>exact .ins h0 (by rw [upd_ne fun z=>by rw [z,hd] at h1; cases h1]; exact h1) h2 (Reps.unlockX hd h3)
 | .dix h1 h2 h3 h4=>exact .dix (q4R hd h1 fun z=>by unfold KD at z; cases z) (Reps.unlockX hd h2) h3 (Reps.unlockX hd h4)
 | .opq h=>exact .opq h
theorem Reps.unlockX (hd:S d = some (.frz o (.ext φ))) {vs:List V} {ds:List Dat} (h:Reps c S vs ds):Reps c (upd S d (.ext φ)) vs ds:=by
 match h with
 | .nil=>exact .nil
 | .cons h1 h2=>exact .cons (Rep.unlockX hd h1) (Reps.unlockX hd h2)
end
instance {P:Program} {w:World} {a:Addr} {xs:List q3O}:NC a (.ext (KDo P w a xs)):=⟨fun _=>q9D⟩
theorem Good.lockX [NC d (.ext φ)] {H:Hp} {σ:L2.St} {ρ:Rho} {f:List Addr} (G:Good c S H σ ρ f) (hd:S d = some (.ext φ)):Good c (upd S d (.frz o (.ext φ))) (upd H d (.frz o (.ext φ))) σ ρ f:=by
 have ne:∀ a ∈ f,a ≠ d:=fun a ha z=>by have:=G.out a ha; rw [z,hd] at this; cases this
 exact ⟨q7Y G.ex,G.rep.swap (fun v x h=>h.lockX hd) (fun v x h=>h.lockX hd) fun x hx=>upd_ne (ne x hx),G.nd,fun a ha=>by rw [upd_ne (ne a ha)]; exact G.out a ha,q7V G.tb G.ex hd⟩
theorem Good.unlockX {H:Hp} {σ:L2.St} {ρ:Rho} {f:List Addr} (G:Good c S H σ ρ f) (hd:S d = some (.frz o (.ext φ))):Good c (upd S d (.ext φ)) (upd H d (.ext φ)) σ ρ f:=by
 have ne:∀ a ∈ f,a ≠ d:=fun a ha z=>by have:=G.out a ha; rw [z,hd] at this; cases this
 exact ⟨q7Y G.ex,G.rep.swap (fun v x h=>h.unlockX hd) (fun v x h=>h.unlockX hd) fun x hx=>upd_ne (ne x hx),G.nd,fun a ha=>by rw [upd_ne (ne a ha)]; exact G.out a ha,q7V G.tb G.ex hd⟩
theorem Stp.unlockX {H Sz Hz:Hp} {f fz:List Addr} (ex:Same S H) (hd:S d = some (.ext φ)) (st:Stp (upd S d (.frz o (.ext φ))) (upd H d (.frz o (.ext φ))) f Sz Hz fz):Stp S H f (upd Sz d (.ext φ)) (upd Hz d (.ext φ)) fz where
 ss:=fun b x q=>by
  by_cases z:b = d
  ·subst z; rw [hd] at q; rw [upd_same]; exact q
  ·rw [upd_ne z]; exact st.ss b x (by rw [upd_ne z]; exact q)
 fr:=fun a x q n=>by
  by_cases z:a = d
  ·subst z; rw [ex _ _ hd] at q; rw [upd_same]; exact q
  ·rw [upd_ne z]; exact st.fr a x (by rw [upd_ne z]; exact q) n
 dom:=fun a q=>by
  by_cases z:a = d
  ·subst z; rw [upd_same]; exact fun z=>nomatch z
  ·rw [upd_ne z]; exact st.dom a (by rw [upd_ne z]; exact q)
 nf:=fun a q=>by
  rcases st.nf a q with h | h
  ·exact .inl h
  ·refine .inr ?_
   by_cases z:a = d
   ·subst z; rw [upd_same] at h; cases h
   ·rw [upd_ne z] at h; exact h
 ns:=fun a q=>by
  by_cases z:a = d
  ·subst z; exact .inl (by rw [hd]; exact fun z=>nomatch z)
  ·rw [upd_ne z] at q
   rcases st.ns a q with h | h | h
   ·rw [upd_ne z] at h; exact .inl h
   ·exact .inr (.inl h)
   ·rw [upd_ne z] at h; exact .inr (.inr h)
theorem z2d {P:Program} {w:World} {xs:List q3O} {ks:List Dat} (hr:Reps c S (xs.map fun x=>V.ref x.2.1) ks) (hd:S d = some (.frz o (KD P w d xs))):ItD c S (Itx P w d o xs) ks where
 go:=fun i H hi e=>⟨e _ _ hd,by have:=hr.length; simp at this; omega⟩
 stop:=fun i H hi e=>⟨e _ _ hd,by have:=hr.length; simp at this; omega⟩
 yld:=fun i x S2 H v H' hx e e2 ⟨q1,r,q2,q3⟩=>by
  subst q1; subst q3
  obtain ⟨v,hv,rv⟩:=hr.get hx
  rw [Q0O,q2] at hv
  cases hv
  exact ⟨S2,Fre.refl e2,rv.mono e⟩
end
end DL

namespace DLX2
variable [DL.Tbls]
open PySem PySem.Spec PyProof.Rows L2 DLS DL
section
variable (M:Model) (A:Around) (env:Env)
def x9i (D:Addr) (kx vx:Expr):BW:=fun s Q Er=>wpAny M A (eval kx env) (fun k s4=>wpAny M A (eval vx env) (fun v s5=>wpAny M A (dictSet D k v) (fun _ s6=>Q s6) Er s5) Er s4) Er s
end
section
variable {X:Cx}
def x0C (c:Ct) (tk tv:TE) (D:Addr):L2.St→Hp→(Hp→Prop)→Prop:=fun σ H Nx=>tk σ H fun y H1=>tv σ H1 fun z H2=>∃ S xs ks b d k,y = V.ref b∧Same S H2∧H2 D = some (KD c.P c.w D xs)∧Reps c S (xs.map fun x=>V.ref x.2.1) ks∧q6b ks = some (xs.map (·.1))∧Rep c S (.ref b) d∧kyD d = some k∧xs.length < sizeLine∧((xs.map (·.1)).Nodup→Nx (upd H2 D (KD c.P c.w D (z0l xs k b z))))
def z7F (c:Ct) (wi:TI) (g:TG) (tt:TT) (tk tv:TE) (vs:List Nat):TE:=fun σ H Q=>wi σ H fun J H1=>∀ D,H1 D = none→x2Y J g tt (x0C c tk tv D) vs σ (upd H1 D (KD c.P c.w D [])) fun H2=>Q (.ref D) H2
theorem x3U {pins:List (Addr × Obj)} {σ:L2.St} {S H:Hp} {s:Shared} {E:Value→Shared→Prop} {D b:Addr} {xs:List q3O} {ks:List Dat} {d:Dat} {k:NestedKey} {v:V} {r:Value} {Q:Unit→Shared→Prop} (hu:X.A.units + 64 < cLine) (I:Inv X pins σ H s) (ex:Same S H) (e:H D = some (KD X.prog X.w D xs))
  (hr:Reps (ct X) S (xs.map fun x=>V.ref x.2.1) ks) (hk:q6b ks = some (xs.map (·.1))) (rb:Rep (ct X) S (.ref b) d) (ek:kyD d = some k) (hl:xs.length < sizeLine) (rv:RelV v r) (h:∀ s',(xs.map (·.1)).Nodup→Inv X pins σ (upd H D (KD X.prog X.w D (z0l xs k b v))) s'→Q () s') :
  wpAny (model X.prog X.w) X.A (dictSet D (.ref b) r) Q E s:=by
 obtain ⟨hz,hy,us,rel,dd⟩:=z4n I ex (.inl e) hr hk
 have hlen:us.length = xs.length:=(Paired.length rel).symm
 refine wpAny_dictSet_heap (hsz:=by rw [hlen]; exact hz) (by show _ < _; have:=hu; omega) (q9P I ex rb ek) dd fun h' dd' hs=>?_
 have hl2:(z0l xs k b v).length ≤ sizeLine:=by have:=z0P xs k b v; omega
 have he:∃ q,h'.get? D = some q:=let ⟨q,_,_,hq,_⟩:=dd'; ⟨q,hq⟩
 exact h _ (x0c I (.inl e)) (d_write (t':=_) I (by rw [e]; exact True.intro) hs he (z8Z (z6c (x1z rel rv) hl2 hy dd')))
theorem x3V {P:Program} {w:World} (h:Heap) (hb:sysModules < h.objs.size):KDo P w h.objs.size [] (h.push { cls:=.type "dict",data:=.dict #[] }):=
 ⟨Q1H _,beq_eq_false_iff_ne.mpr (Ne.symm (Q2f hb)),Q1B,[],.nil,_,#[],0,Heap.get?_push_size _ rfl,⟨rfl,rfl,rfl⟩,rfl,rfl⟩
theorem z7G {pins:List (Addr × Obj)} {s:Shared} {σ:L2.St} {H:Hp} {Q:VK} {kx vx tg iter:Expr} {ifs:List Expr} {scope:Scope} {own:List (Str × Nat)} {pos pos':Pos} {wi:TI} {g:TG} {tt:TT} {tk tv:TE} {Qf:Value→Shared→Prop} {use:Option (Value→Sem Unit)}
  (hu:X.A.units + 64 < cLine) (hc:X.calm = true) (hN:X.N.Nodup) (I:Inv X pins σ H s) (hi:PI X tg iter wi) (ok:BlkOk X.N X.env.scope scope own)
  (hg:∀ (s:Shared) (H:Hp) (C:Addr) (cl:List (Str × Addr)) (fp:List Addr),PG (X.blk s H scope (compEnvC scope cl C X.env) fp) tg g) (ht:∀ (s:Shared) (H:Hp) (C:Addr) (cl:List (Str × Addr)) (fp:List Addr),PTs (X.blk s H scope (compEnvC scope cl C X.env) fp) ifs tt)
  (hk:∀ (s:Shared) (H:Hp) (C:Addr) (cl:List (Str × Addr)) (fp:List Addr),PE (X.blk s H scope (compEnvC scope cl C X.env) fp) kx tk)
  (he:∀ (s:Shared) (H:Hp) (C:Addr) (cl:List (Str × Addr)) (fp:List Addr),PE (X.blk s H scope (compEnvC scope cl C X.env) fp) vx tv)
  (hs:∀ x,jbg iter X.env x = pure x) (h:z7F (ct X) wi g tt tk tv (own.map (·.2)) σ H Q)
  (done:∀ D C s1 m H1,Inv X pins σ H1 s1→Q (.ref D) H1→s1.heap.Ns C m→FpOk X pins H1 C→compPost (model X.prog X.w) X.A X.xe use Qf (.ref D) C (.ok .next) s1) :
  wpAny (model X.prog X.w) X.A (comprehension (.DictComp kx vx [⟨tg,iter,ifs,0⟩] scope pos) scope X.env pos' newDict false (eval iter X.env) use) Qf X.xe s:=by
 have free:∀ y ∈ scope.names,y.2 = .free→∃ c,X.env.cells.lookup y.1 = some c:=fun y hy e=>by
  rcases ok.free y hy e with k | k
  ·exact I.ok.has _ (.inl k)
  ·exact I.ok.has _ (.inr k)
 refine wpAny_comprehension_free (use:=use) rfl hs (closure_ok free) ok.kind (fun y hy e=>by rw [ok.uniq y hy,e]) (thn (hi.run pins s σ H _ I h) fun xv s1 hx=>thn hx fun itv s2 ⟨it,fp,tn,J,H2,e,I2,T,st2,f2,q⟩=>?_)
 cases e
 refine wpAny_newObj_type (newEnv_comp ?_)
 obtain ⟨D,hD⟩:∃ D,s2.heap.objs.size = D:=⟨_,rfl⟩
 have hDn:H2 D = none:=I2.hok.fresh (Q2O hD)
 obtain ⟨W,⟨m0,w0⟩,z4f⟩:=q D hDn
 obtain ⟨s3,hs3⟩:∃ s3:Shared,({ s2 with heap:=s2.heap.push { cls:=.type "dict",data:=.dict #[] } }:Shared) = s3:=⟨_,rfl⟩
 have hh3:s3.heap = s2.heap.push { cls:=.type "dict",data:=.dict #[] }:=by rw [← hs3]
 have I3:Inv X pins σ (upd H2 D (KD X.prog X.w D [])) s3:=by
  rw [← hs3]
  refine I2.laid (t':=s2.toks) (fun b o e=>Heap.get?_push_of_some _ e) (Q2O hD) ?_
  rw [← hD]
  exact z8Z (x3V s2.heap I2.big)
 have f3:∀ b ∈ fp,FpOk X pins (upd H2 D (KD X.prog X.w D [])) b∧b < s3.heap.objs.size:=fun b hb=>by
  obtain ⟨o,e,_⟩:=T.obj _ _ st2 b hb
  have lt:=Heap.lt_size e
  refine ⟨⟨(upd_ne (by rw [← hD]; exact Q2f lt)).trans (f2 b hb).1,(f2 b hb).2⟩,?_⟩
  rw [hh3,Heap.size_push]
  exact Nat.lt_succ_of_lt lt
 have st3:tn 0 s3.heap:=T.keep _ _ _ st2 fun b _ o e=>by rw [hh3]; exact Heap.get?_push_of_some _ e
 have I4:=block_start I3 ok hN f3
 show codeAny _ _ (.compStart (.DictComp kx vx [⟨tg,iter,ifs,0⟩] scope pos) 0 (.ref it) (.ref s2.heap.objs.size) (compEnvC scope (cellsFrom (({ s2 with heap:=s2.heap.push { cls:=.type "dict",data:=.dict #[] } }:Shared).heap.objs.size + 1) scope.names (cloFrom X.env.cells scope.names [])) ({ s2 with heap:=s2.heap.push { cls:=.type "dict",data:=.dict #[] } }:Shared).heap.objs.size X.env))
  (compPost (model X.prog X.w) X.A X.xe use Qf (.ref s2.heap.objs.size) ({ s2 with heap:=s2.heap.push { cls:=.type "dict",data:=.dict #[] } }:Shared).heap.objs.size) { ({ s2 with heap:=s2.heap.push { cls:=.type "dict",data:=.dict #[] } }:Shared) with heap:=pushCells (({ s2 with heap:=s2.heap.push { cls:=.type "dict",data:=.dict #[] } }:Shared).heap.push { cls:=.type "dict",data:=.dict #[] }) scope.names }
 rw [hD,hs3]
 have pg:=hg s3 (upd H2 D (KD X.prog X.w D [])) s3.heap.objs.size (cellsFrom (s3.heap.objs.size + 1) scope.names (cloFrom X.env.cells scope.names [])) fp
 have pt:=ht s3 (upd H2 D (KD X.prog X.w D [])) s3.heap.objs.size (cellsFrom (s3.heap.objs.size + 1) scope.names (cloFrom X.env.cells scope.names [])) fp
 have pk:=hk s3 (upd H2 D (KD X.prog X.w D [])) s3.heap.objs.size (cellsFrom (s3.heap.objs.size + 1) scope.names (cloFrom X.env.cells scope.names [])) fp
 have pe:=he s3 (upd H2 D (KD X.prog X.w D [])) s3.heap.objs.size (cellsFrom (s3.heap.objs.size + 1) scope.names (cloFrom X.env.cells scope.names [])) fp
 have nfp:∀ b ∈ fp,(upd H2 D (KD X.prog X.w D [])) b = none:=fun b hb=>(f3 b hb).1.1
 have cL:(compEnvC scope (cellsFrom (s3.heap.objs.size + 1) scope.names (cloFrom X.env.cells scope.names [])) s3.heap.objs.size X.env).locals = s3.heap.objs.size:=rfl
 revert I4 pg pt pk pe cL
 generalize compEnvC scope (cellsFrom (s3.heap.objs.size + 1) scope.names (cloFrom X.env.cells scope.names [])) s3.heap.objs.size X.env = ce
 intro I4 pg pt pk pe cL
 have st4:tn 0 (pushCells (s3.heap.push { cls:=.type "dict",data:=.dict #[] }) scope.names):=T.keep _ _ _ st3 fun b _ o e=>pushCells_keeps _ _ _ _ (Heap.get?_push_of_some _ e)
 have f4:∀ b ∈ fp,FpOk (X.blk s3 (upd H2 D (KD X.prog X.w D [])) scope ce fp) [] (upd H2 D (KD X.prog X.w D [])) b:=fun b hb=>
  ⟨nfp b hb,(I4.ok.exf b hb).1,I4.ok.exfs b hb,.inl hb,fun x c e=>(I4.ok.exf b hb).2 x c e,fun p hp=>absurd (show p ∈ ([]:List (Addr × Obj)) ++ [] from hp) (by simp)⟩
 have LR:x5V (model X.prog X.w) X.A ce (.DictComp kx vx [⟨tg,iter,ifs,0⟩] scope pos) 0 (.ref it) (.ref D) tg ifs (x9i (model X.prog X.w) X.A ce D kx vx):=fun R I z4f n s hI=>compLoop_anyD I (fun n s hI=>z4f n s hI) n hI
 have loop:=z5n hc LR T (vs:=own.map (·.2)) pg pt (tb:=x0C (ct X) tk tv D) (fun pins s σ H Nx Qn Er I5 q5 k5=>by
   refine thnF (pk.run pins s σ H _ I5 q5) fun z s6 ⟨y,H6,I6,r6,q6⟩=>thnF (pe.run pins s6 σ H6 _ I6 q6) fun z2 s7 ⟨v,H7,I7,r7,S,xs,ks,b,d,kk,ey,ex,e,hr,hkk,rb,ek,hl,nx⟩=>?_
   subst ey
   obtain rfl:z = Value.ref b:=r6
   exact x3U (X:=X.blk s3 (upd H2 D (KD X.prog X.w D [])) scope ce fp) hu I7 ex e hr hkk rb ek hl r7 fun s8 nd I8=>k5 s8 σ _ I8 (wipe_length _ _) (fun j v e=>(wipe_some e).1) (nx nd))
  (R:=compPost (model X.prog X.w) X.A X.xe use Qf (.ref D) s3.heap.objs.size) (Qs:=fun H1=>Q (.ref D) H1) I4 st4 f4 w0 z4f fun s5 H5 I5 qq=>by
  have I7:Inv X pins σ H5 s5:=I3.call' (ch:=fp) I5.os I5.base I5.hok I5.bare fun b hb=>⟨(f3 b hb).1.2.2.2.1,(f3 b hb).1.2.1,(f3 b hb).1.2.2.2.2.1,(f3 b hb).1.2.2.2.2.2⟩
  have nC:H5 s3.heap.objs.size = none:=by
   have z:H5 ce.locals = none:=I5.free
   rw [cL] at z
   exact z
  obtain ⟨m,hn,_⟩:=I5.loc
  have hn:s5.heap.Ns ce.locals m:=hn
  rw [cL] at hn
  exact done D s3.heap.objs.size s5 m H5 I7 qq hn (I3.fpOk (Q0W _) nC)
 exact codeAny_compStart_dict loop (T.self X.A 0 _ _ _ st4 loop)
theorem x6N {kx vx tg iter:Expr} {ifs:List Expr} {scope:Scope} {own:List (Str × Nat)} {pos:Pos} {wi:TI} {g:TG} {tt:TT} {tk tv:TE} (hu:X.A.units + 64 < cLine) (hc:X.calm = true) (hN:X.N.Nodup) (hi:PI X tg iter wi) (ok:BlkOk X.N X.env.scope scope own)
  (hg:∀ (s:Shared) (H:Hp) (C:Addr) (cl:List (Str × Addr)) (fp:List Addr),PG (X.blk s H scope (compEnvC scope cl C X.env) fp) tg g) (ht:∀ (s:Shared) (H:Hp) (C:Addr) (cl:List (Str × Addr)) (fp:List Addr),PTs (X.blk s H scope (compEnvC scope cl C X.env) fp) ifs tt)
  (hk:∀ (s:Shared) (H:Hp) (C:Addr) (cl:List (Str × Addr)) (fp:List Addr),PE (X.blk s H scope (compEnvC scope cl C X.env) fp) kx tk)
  (he:∀ (s:Shared) (H:Hp) (C:Addr) (cl:List (Str × Addr)) (fp:List Addr),PE (X.blk s H scope (compEnvC scope cl C X.env) fp) vx tv) (hs:∀ x,jbg iter X.env x = pure x:=by intro _; rfl) :
  PE X (.DictComp kx vx [⟨tg,iter,ifs,0⟩] scope pos) (z7F (ct X) wi g tt tk tv (own.map (·.2))):=by
 refine ⟨fun pins s σ H Q I h=>?_⟩
 rw [arm_eval_DictComp]
 refine z7G hu hc hN I hi ok hg ht hk he hs h fun D C s1 m H1 I1 q hn f=>⟨m,hn,fun h2 sb=>?_⟩
 obtain ⟨f0,f1,f2,f3,f4,f5⟩:=f
 exact ⟨.ref D,H1,I1.turned (t':=s1.toks) (fun b o hb e=>(sb.2 b hb).trans e) f0 f1 f3 f4 f5,rfl,q⟩
end
end DLX2

namespace DL
variable [DL.Tbls]
open PySem PySem.Spec L2 DLX2
def x6O (m:List Dat × List Dat) (y d:Dat):List Dat × List Dat:=match m.1.findIdx? fun z=>decide (kyD z = kyD y) with
 | some j=>(m.1,m.2.set j d)
 | none=>(m.1 ++ [y],m.2 ++ [d])
def z3k (l:List (Dat × Dat)):List Dat × List Dat:=l.foldl (fun m p=>x6O m p.1 p.2) ([],[])
theorem z2e (l:List (Dat × Dat)) (y d:Dat):z3k (l ++ [(y,d)]) = x6O (z3k l) y d:=by unfold z3k; rw [List.foldl_append]; rfl
def q8V (ek ev:EM Dat):EM (List (Dat × Dat)):=fun ρ=>match ek ρ with
 | some (kd,ρ1)=>if (kyD kd).isSome = true then (match ev ρ1 with
  | some (d,ρ2)=>some ([(kd,d)],ρ2)
  | none=>none) else none
 | none=>none
def x5e (src:EM (List Dat)) (tg:Tg) (t:EM Bool) (ek ev:EM Dat) (vs:List Nat):EM Cell:=fun ρ=>match src ρ with
 | some (ds,ρ1)=>if vs.all (z5m ρ1) = true then match q4x tg t (q8V ek ev) vs ds (q0B ρ1 vs) with
   | some (ys,ρ2)=>if ys.length ≤ 1000 then some (.dk (z3k ys).1 ((z3k ys).2.map .im),q2h ρ1 (q0B ρ2 vs) vs) else none
   | none=>none
  else none
 | none=>none
structure AX (c:Ct) (D:Addr) (S:Hp) (m:List Dat × List Dat) (xs:List q3O):Prop where
 ks:Reps c S (xs.map fun x=>V.ref x.2.1) m.1
 ky:q6b m.1 = some (xs.map (·.1))
 vs:Reps c S (xs.map (·.2.2)) m.2
def acX (c:Ct) (D:Addr):x5W (Dat × Dat):=fun S acc o=>∃ xs,o = KD c.P c.w D xs∧AX c D S (z3k acc) xs∧xs.length ≤ acc.length
theorem x6P (c:Ct) (D:Addr):AccOk (acX c D):=⟨fun S S' l o e ⟨xs,q,r,z⟩=>⟨xs,q,⟨r.ks.mono e,r.ky,r.vs.mono e⟩,z⟩,fun S l o ⟨xs,q,_⟩=>by subst q; infer_instance⟩
theorem x3W {c:Ct} {D b:Addr} {S:Hp} {m:List Dat × List Dat} {xs:List q3O} {y d:Dat} {k:NestedKey} {v:V} (h:AX c D S m xs) (nd:(xs.map (·.1)).Nodup) (ry:Rep c S (.ref b) y) (ek:kyD y = some k) (rv:Rep c S v d):AX c D S (x6O m y d) (z0l xs k b v):=by
 unfold x6O
 rw [ek]
 cases hj:m.1.findIdx? fun z=>decide (kyD z = some k) with
 | some j=>
  obtain ⟨a1,a2,a3⟩:=z7e (b:=b) (v:=v) h.ky nd hj
  exact ⟨by rw [a1]; exact h.ks,by rw [a2]; exact h.ky,by rw [a3]; exact Reps.setAt rv j h.vs⟩
 | none=>
  have e:=z0R (b:=b) (v:=v) (q6K h.ky hj)
  rw [e]
  refine ⟨?_,?_,?_⟩
  ·rw [Q0D]; exact h.ks.app (.cons ry .nil)
  ·rw [Q0D]; exact q8j ek h.ky
  ·rw [Q0D]; exact h.vs.app (.cons rv .nil)
section
variable {c:Ct} {D:Addr}
theorem x0D {ek ev:EM Dat} (vs:List Nat):BdB c D (acX c D) (q8V ek ev) vs (x0C c (tD c ek) (tD c ev) D):=by
 intro S H σ ρ f acc o ys ρ' Nx G nf nS hD hA hb hl k
 obtain ⟨xs,rfl,rel,hz⟩:=hA
 unfold q8V at hb
 split at hb
 ·rename_i kd ρ1 h1
  split at hb
  ·rename_i hky
   split at hb
   ·rename_i d ρ2 h2
    cases hb
    obtain ⟨ky,hk⟩:=Option.isSome_iff_exists.mp hky
    refine ⟨S,ρ,f,kd,ρ1,G,h1,fun S1 H1 f1 st pn G1 v r=>?_⟩
    obtain ⟨b,rfl⟩:=q8M r hk
    obtain ⟨hD1,nf1,nS1⟩:=st.quiet hD nf nS
    refine ⟨S1,ρ1,f1,d,_,G1,h2,fun S2 H2 f2 st2 pn2 G2 v2 r2=>?_⟩
    obtain ⟨hD2,nf2,nS2⟩:=st2.quiet hD1 nf1 nS1
    have hl':xs.length < 1000:=by simp at hl; omega
    have rel2:AX c D S2 (z3k acc) xs:=⟨(rel.ks.mono st.ss).mono st2.ss,rel.ky,(rel.vs.mono st.ss).mono st2.ss⟩
    refine ⟨S2,xs,_,b,kd,ky,rfl,G2.ex,hD2,rel2.ks,rel2.ky,r.mono st2.ss,hk,Q1y hl' (by decide),fun nd=>?_⟩
    obtain ⟨G3,st3⟩:=G2.other (o:=KD c.P c.w D (z0l xs ky b v2)) hD2 nf2 nS2
    obtain ⟨f4,r4,sb⟩:=G3.rep.wipe vs
    obtain ⟨G4,st4⟩:=G3.sub r4 sb
    refine k S2 _ f4 _ ((((st.beside D).trans (st2.beside D)).trans st3).trans (st4.beside D)) (PinV.of (pn.trans pn2)) G4 (fun z=>nf2 (sb.subset z)) nS2 upd_same ⟨_,rfl,?_,?_⟩
    ·rw [z2e]
     exact x3W rel2 nd (r.mono st2.ss) hk r2
    ·have:=z0P xs ky b v2
     rw [Q0A,Q1r]
     omega
   ·cases hb
  ·cases hb
 ·cases hb
end
theorem x6Q {X:Cx} {σ:L2.St} {H:Hp} {f:EM Dat} {tg:Tg} {t:EM Bool} {ek ev:EM Dat} {vs:List Nat} (hv:∀ j ∈ tg.slots,j ∈ vs) {Q:VK} (h:tC (ct X) (x5e (z2c f) tg t ek ev vs) σ H Q):j0a X (z7F (ct X) (x1Y X (tD (ct X) f)) (gT (ct X) tg) (tT (ct X) t) (tD (ct X) ek) (tD (ct X) ev) vs) σ H Q:=by
 obtain ⟨S,ρ,fps,k,ρ',G,e0,q⟩:=h
 unfold x5e at e0
 split at e0
 ·rename_i ds ρ1 e1
  obtain ⟨d0,ρa,e3,e4⟩:=q0z e1
  cases d0 with
  | dix ks vds=>
   cases e4
   split at e0
   ·rename_i him
    split at e0
    ·rename_i ys ρ2 e2
     split at e0
     ·rename_i hl
      cases e0
      refine ⟨S,ρ,fps,_,ρ1,G,e3,fun S1 H1 f1 st1 pin1 G1 v r=>?_⟩
      have core:∀ {S0 H0:Hp} {a:Addr} {J:It} {Qf:VK},Good (ct X) S0 H0 σ ρ1 f1→ItD (ct X) S0 J ds→(∀ v Sz Hz fz,Stp S0 H0 f1 Sz Hz fz→PinR ρ1 (q2h ρ1 (q0B ρ2 vs) vs)→Good (ct X) Sz Hz (some v :: σ) (some ⟨false,.dk (z3k ys).1 ((z3k ys).2.map .im)⟩ :: q2h ρ1 (q0B ρ2 vs) vs) fz→Qf v Hz) →
        ∀ D,H0 D = none→DLS.x2Y J (gT (ct X) tg) (tT (ct X) t) (x0C (ct X) (tD (ct X) ek) (tD (ct X) ev) D) vs σ (upd H0 D (KD (ct X).P (ct X).w D [])) fun H2=>Qf (.ref D) H2:=by
       intro S0 H0 a J Qf G1 itd qf D hD
       obtain ⟨fw,rw',sw⟩:=G1.rep.wipe vs
       obtain ⟨Gw,stw⟩:=G1.sub rw' sw
       have nS:S0 D = none:=G1.ex.free hD
       have nfw:D ∉ fw:=fun z=>Gw.there z hD
       obtain ⟨Ga,sta⟩:=Gw.fre (Fre.more (H':=upd H0 D (KD (ct X).P (ct X).w D [])) Gw.ex (q2i hD))
       refine z9m (x6P (ct X) D) hv (x0D vs) (acc0:=[]) Ga nfw nS upd_same ⟨[],rfl,⟨.nil,rfl,.nil⟩,Q0W _⟩ itd e2 (by rw [Q0o]; omega) fun S3 H3 f3 o3 st3 pv3 G3 nf3 nS3 hD3 hA3=>?_
       have stA:Stp S0 H0 fw S0 (upd H0 D (KD (ct X).P (ct X).w D [])) (D :: fw):=⟨Same.refl S0,sta.fr,sta.dom,fun a ha=>(Q0s.mp ha).elim (fun e=>.inr (e ▸ hD)) .inl,fun a ha=>.inl ha⟩
       obtain ⟨f4,r4,sb4⟩:=G3.rep.wipe vs
       obtain ⟨G4,st4⟩:=G3.sub r4 sb4
       rw [z1x] at G4
       have hrest:=RepS.rest (c:=ct X) (S:=S3) (H:=H3) G1.rep st3.ss vs (fun j hj=>Q1h.mp him j hj) (by rw [← (PinV.wipe vs ρ1).1.trans (pv3.1)] <;> first | rfl | exact q2m ρ1 vs) G4.rep
       obtain ⟨Gz,stz⟩:=G4.sub hrest (List.Sublist.refl _)
       obtain ⟨xs,rfl,rel,_⟩:=hA3
       have nf4:D ∉ f4:=fun z=>nf3 (sb4.subset z)
       have rc:RepC (ct X) S3 H3 (.ref D) (.dk (z3k ys).1 ((z3k ys).2.map .im)) [D]:=.dk hD3 rel.ks rel.ky (q6V rel.vs)
       have Gf:=Gz.own nf4 nS3 rc
       exact qf _ S3 H3 _ ((stw.trans (stA.trans st3)).trans ((st4.trans stz).beside D)) ((PinV.wipe vs ρ1).trans pv3).rest Gf
      cases r with
      | @dix a xs ks' ds' h1 h2 h3 h4=>
       rcases h1 with h1 | ⟨o,h1⟩
       ·refine ⟨a,_,rfl,.inl ⟨G1.ex _ _ h1,fun o hn D hD=>?_⟩⟩
        refine core (a:=a) (Qf:=fun v H'=>Q v H'∨∃ d o u,H' d = some (.frz o u)∧(∀ o' u',X.H_0 d ≠ some (.frz o' u'))∧Q v (upd H' d u)) (G1.lockX h1) (z2d (Reps.lockX h1 h2) upd_same) (fun v Sz Hz fz st pn Gz=>?_) D hD
        have hz:Sz a = some (.frz o (KD X.prog X.w a xs)):=st.ss _ _ upd_same
        exact .inr ⟨a,o,_,Gz.ex _ _ hz,hn,q v _ _ _ (st1.trans (st.unlockX G1.ex h1)) (pin1.trans pn) (Gz.unlockX hz)⟩
       ·refine ⟨a,_,rfl,.inr ⟨o,G1.ex _ _ h1,fun D hD=>?_⟩⟩
        exact core (a:=a) (Qf:=fun v H'=>Q v H'∨∃ d o u,H' d = some (.frz o u)∧(∀ o' u',X.H_0 d ≠ some (.frz o' u'))∧Q v (upd H' d u)) G1 (z2d h2 h1) (fun v Sz Hz fz st pn Gz=>.inl (q v _ _ _ (st1.trans st) (pin1.trans pn) Gz)) D hD
     ·cases e0
    ·cases e0
   ·cases e0
  | _=>cases e4
 ·cases e0
theorem x6R {X:Cx} {kx vx tge iter:Expr} {ifs:List Expr} {scope:Scope} {pos:Pos} {f:EM Dat} {tg:Tg} {t:EM Bool} {ek ev:EM Dat} {j:Nat} (own:List (Str × Nat)) (R:Rm X.A j) (hc:X.calm = true) (hN:X.N.Nodup) (hi:XE X iter f) (ok:BlkOk X.N X.env.scope scope own)
  (hg:∀ (s:Shared) (H:Hp) (C:Addr) (cl:List (Str × Addr)) (fp:List Addr),PG (X.blk s H scope (compEnvC scope cl C X.env) fp) tge (gT (ct X) tg)) (ht:∀ (s:Shared) (H:Hp) (C:Addr) (cl:List (Str × Addr)) (fp:List Addr),PTs (X.blk s H scope (compEnvC scope cl C X.env) fp) ifs (tT (ct X) t))
  (hk:∀ (s:Shared) (H:Hp) (C:Addr) (cl:List (Str × Addr)) (fp:List Addr),PE (X.blk s H scope (compEnvC scope cl C X.env) fp) kx (tD (ct X) ek))
  (he:∀ (s:Shared) (H:Hp) (C:Addr) (cl:List (Str × Addr)) (fp:List Addr),PE (X.blk s H scope (compEnvC scope cl C X.env) fp) vx (tD (ct X) ev)) (hv:∀ j ∈ tg.slots,j ∈ own.map (·.2):=by decide) (hs:∀ x,jbg iter X.env x = pure x:=by intro _; rfl) :
  XC X (.DictComp kx vx [⟨tge,iter,ifs,0⟩] scope pos) (x5e (z2c f) tg t ek ev (own.map (·.2))):=
 (x6m (x6N R.u64 hc hN (x0B hi) ok hg ht hk he hs)).imp fun _ _ _ h=>x6Q hv h
def dgX:Dat→Dat→Option Dat
 | .dix ks ds,y=>(kyD y).bind fun k=>atK ks ds k
 | _,_=>none
section
variable {X:Cx} {a b:Expr} {pos:Pos} {f g:EM Dat} {j:Nat}
def x6S (c:Ct) (td ty:TE):TE:=fun σ H Q=>td σ H fun x H1=>∃ a,x = .ref a∧(∃ xs,Rd H1 a (KD c.P c.w a xs))∧ty σ H1 fun y H2=>∃ S ks xs b d k v,y = .ref b∧Same S H2∧Rd H2 a (KD c.P c.w a xs)∧Reps c S (xs.map fun x=>V.ref x.2.1) ks∧q6b ks = some (xs.map (·.1))∧Rep c S (.ref b) d∧kyD d = some k∧q7U xs k = some v∧Q v H2
theorem z7H {pins:List (Addr × Obj)} {σ:L2.St} {H:Hp} {s:Shared} {a:Addr} {xs:List q3O} (I:Inv X pins σ H s) (hd:Rd H a (KD X.prog X.w a xs)):s.TypeIs (.ref a) "dict":=by
 obtain ⟨_,_,_,us,_,o,es,ep,h1,h2,_⟩:=z9a I.hok hd
 exact ⟨o,h1,h2.1⟩
theorem x0E {td ty:TE} (hu:X.A.units + 64 < cLine) (ho:PE X a td) (hi:PE X b ty) (hs:NoSl b):PE X (.Subscript a b pos) (x6S (ct X) td ty):=by
 refine ⟨fun pins s σ H Q I h=>?_⟩
 refine subD_of PySem.F.slot_dict_getitem.lookup hs (thn (ho.run pins s σ H _ I h) fun u s1 ⟨x,H1,I1,rx,a,ex,_,q1⟩=>thn (hi.run pins s1 σ H1 _ I1 q1) fun iv s2 ⟨y,H2,I2,ry,S,ks,xs,b,d,k,v,ey,e,hd,hr,hk,rb,ek,hv,q2⟩=>?_)
 subst ex ey
 obtain rfl:u = Value.ref a:=rx
 obtain rfl:iv = Value.ref b:=ry
 exact ⟨z7H I2 hd,x6x hu I2 e hd hr hk rb ek hv fun w' s3 I3 rw'=>⟨v,H2,I3,rw',q2⟩⟩
theorem x6T (R:Rm X.A j) (ha:XE X a f) (hb:XE X b g) (hs:NoSl b:=by exact fun _ _=>rfl):XE X (.Subscript a b pos) (e2 dgX f g):=
 (x0E R.u64 ha hb hs).imp fun σ H Q ⟨S,h0⟩=>⟨S,h0.bind.mono fun x S1 H1 s1 q u ru=>by
  obtain ⟨ks,ds,rfl⟩:∃ ks ds,x = .dix ks ds:=by
   obtain ⟨ρ,fps,y,ρ',G,e0,q0⟩:=q
   obtain ⟨y1,ρ1,e1,e2⟩:=q0z e0
   obtain ⟨e5,_⟩:=q1e e2
   cases x with
   | dix ks ds=>exact ⟨_,_,rfl⟩
   | _=>cases e5
  have ex1:=q.ex
  cases ru with
  | @dix a xs ks ds h1 h2 h3 h4=>
   refine ⟨a,rfl,⟨_,q0G ex1 h1⟩,S1,q.bind.mono fun y S2 H2 s2 q v rv=>?_⟩
   obtain ⟨z,e0,ex,q⟩:=q.lift
   dsimp only [dgX] at e0
   cases ek:kyD y with
   | none=>rw [ek] at e0; cases e0
   | some k=>
    rw [ek] at e0
    obtain ⟨b,rfl⟩:=q8M rv ek
    obtain ⟨w,e,r⟩:=(z7d h3 (h4.mono s2) k).1 z e0
    exact ⟨S2,ks,xs,b,y,k,w,rfl,ex,q0G ex (q0G s2 h1),h2.mono s2,h3,rv,ek,e,(q S2 H2 (Fre.refl ex)).2.2 _ r⟩⟩
end
end DL

namespace DLO
open PySem PySem.W PySem.Calls PyProof.Rows
section
variable {prog:Program} {w:World} {A:Around} {E:Value→Shared→Prop} {s:Shared} {K:Frag} {x C L f:Addr} {h₀:Heap} {m:Str→Option Value} {ox:Obj} {od:Option Obj} {b tb:Value}
theorem z7I {T:String} {C:Addr} {l:List Value} (e:fastBuiltinMro T = some l) (h:(l.all fun v=>match v with | .type _=>true | _=>false) = true):subIn K (.type T) (.ref C) = some false:=by
 show (fastBuiltinMro T).map _ = _
 rw [e]
 show some (l.contains (.ref C)) = some false
 congr 1
 rw [Bool.eq_false_iff]
 intro z
 have hm:Value.ref C ∈ l:=by simpa using z
 have:=Q1h.mp h _ hm
 cases this
def z7J (T:String):Bool:=match fastBuiltinMro T with
 | some l=>l.all fun v=>match v with | .type _=>true | _=>false
 | none=>false
theorem x1Z {T:String} {C:Addr} (h:z7J T = true):subIn K (.type T) (.ref C) = some false:=by
 unfold z7J at h
 split at h
 ·rename_i l e
  exact z7I e h
 ·cases h
end
end DLO
namespace DL
variable [DL.Tbls]
open PySem PySem.Spec L2 PyProof.Rows
structure x2a (K:JFr) (C:Addr):Prop where
 cl:Cls K C
 ca:Q3q K (.ref C) "__class__" = some (some (.builtin "object.__class__"))
 gs:PySem.W.specialIn K (.builtin "object.__class__") "__get__" = some (some (.builtin "getset_descriptor.__get__"))
 tk:PySem.W.takesIn K (.builtin "object.__class__") = some true
 ob:PySem.W.mroIn K C (.type "object") = some true
 ic:PySem.W.isClsIn K C = true
 tt:Q4a K (.ref C) = some (.type "type")
def tyW:Dat→Option String
 | .non=>some "NoneType"
 | .bl _=>some "bool"
 | .int _=>some "int"
 | .str _=>some "str"
 | .tup _=>some "tuple"
 | .lst _=>some "list"
 | .fro _=>some "list"
 | .dic _ _=>some "dict"
 | .dix _ _=>some "dict"
 | .ins _ _ _=>none
 | .opq _=>none
theorem z2f:∀ {d:Dat} {T:String},tyW d = some T→DLO.z7J T = true:=by
 intro d T h
 cases d <;> cases h <;> decide +kernel
section
variable {X:Cx} {pins:List (Addr × Obj)} {σ:L2.St} {S H:Hp} {s:Shared}
theorem z7K {v:V} {d:Dat} {u:Value} {T:String} (I:Inv X pins σ H s) (ex:Same S H) (r:Rep (ct X) S v d) (ru:RelV v u) (h:tyW d = some T):∃ P:Heap→Prop,PySem.W.KitX X.K u (.type T) P∧P s.heap∧u ≠ .builtin "__main__.__loader__#opaque":=by
 cases r with
 | non=>cases h; exact Q1Z I ru (.base .non)
 | bl b=>cases h; exact Q1Z I ru (.base (.bl b))
 | int i=>cases h; exact Q1Z I ru (.base (.int i))
 | str x=>cases h; exact Q1Z I ru (.base (.str x))
 | tup h1 h2=>
  cases h
  rcases q0S ex h1 with (h | ⟨o,h⟩) | ⟨o,its,n,hk,hc,_⟩
  ·exact Q1Z I ru (.base (.tup h))
  ·exact Q1Z I ru (.fTuple h)
  ·exact Q1Z I ru (.kTuple hk hc)
 | lst h1 h2=>
  cases h
  rcases q0G ex h1 with h | ⟨o,h⟩
  ·exact Q1Z I ru (.base (.lst h))
  ·exact Q1Z I ru (.base (.frz h))
 | fro h1 h2=>
  cases h
  rcases ex.seq h1 with (h | ⟨o,h⟩) | ⟨o,its,n,hk,hc,_⟩
  ·exact Q1Z I ru (.base (.lst h))
  ·exact Q1Z I ru (.base (.frz h))
  ·exact Q1Z I ru (.kList hk hc)
 | dic h1 h2 h3=>
  cases h
  rcases q0G ex h1 with h | ⟨o,h⟩
  ·exact Q1Z I ru (.base (.dK h))
  ·exact Q1Z I ru (.fDict h)
 | @dix a xs ks ds h1 h2 h3 h4=>
  cases h
  obtain rfl:u = Value.ref a:=ru
  obtain ⟨o,e1,e2⟩:=z7H I (q0G ex h1)
  exact ⟨_,PySem.W.kitx_dict,⟨o,e1,e2⟩,fun z=>nomatch z⟩
 | ins _ _ _ _=>cases h
 | opq=>cases h
end
def isI (nm:Str):Dat→Option Dat
 | .ins c _ _=>if c = nm then some (.bl true) else none
 | d=>(tyW d).map fun _=>.bl false
theorem z3l {nm c:Str} {fs:List Str} {ds:List Dat}:isI nm (.ins c fs ds) = if c = nm then some (.bl true) else none:=rfl
theorem z7L {X:Cx} {pins:List (Addr × Obj)} {σ:L2.St} {H:Hp} {s:Shared} {a C dx:Addr} {fs:List (Str × V)} (O:x2a X.K C) (I:Inv X pins σ H s) (ea:H a = some (.ins C dx fs)):∃ P:Heap→Prop,PySem.W.KitX X.K (.ref a) (.ref C) P∧P s.heap∧(Value.ref a) ≠ .builtin "__main__.__loader__#opaque":=
 Q1Z (x:=.ref a) I rfl (.base (.ins ea O.cl O.ca O.gs O.tk O.ob))
def j0u (c:Ct) (C:Addr) (nm:Str):List V→Hp→VK→Prop:=fun xs H Q=>∃ S v d z,xs = [v,.ref C]∧Same S H∧Rep c S v d∧isI nm d = some z∧∀ w,Rep c S w z→Q w H
theorem x0F {X:Cx} {nm:Str} {C:Addr} (O:x2a X.K C) (hC:X.mg nm = some (.ref C)):CallR X (.builtin "isinstance") (j0u (ct X) C nm):=by
 intro pins s σ H xs us Q I r h
 obtain ⟨S,v,d,z,rfl,ex,rd,e,q⟩:=h
 obtain ⟨u1,u2,rfl,r1,r2⟩:=vals2 r
 obtain rfl:u2 = Value.ref C:=r2
 have ok:∀ {t:String},tyW d = some t→z = .bl false→wpAny (model X.prog X.w) X.A (call (.builtin "isinstance") [u1,.ref C]) (EP X pins σ Q) X.xe s:=by
  intro t ht hz
  subst hz
  obtain ⟨P,Z,p,hx⟩:=z7K I ex rd r1 ht
  refine PySem.W.kia_one Z I.kIn p (b:=false) ?_ hx fun tk=>⟨.bl false,H,I.tok tk,rfl,q _ (.bl _)⟩
  show (if _ then _ else _) = _
  rw [if_neg (by simp)]
  show (if _ then _ else _) = _
  rw [if_pos (by rw [Q1l]; exact ⟨O.ic,by rw [O.tt]; exact beq_self_eq_true _⟩)]
  exact DLO.x1Z (z2f ht)
 cases rd with
 | @ins a C' dx nm' fs xs ds h0 h1 h2 h3=>
  rw [z3l] at e
  split at e
  ·cases e
   rename_i hc
   subst hc
   obtain rfl:C' = C:=by have:=h0.symm.trans hC; cases this; rfl
   obtain rfl:u1 = Value.ref a:=r1
   obtain ⟨P,Z,p,hx⟩:=z7L O I (ex _ _ h1)
   refine PySem.W.kia_one Z I.kIn p (b:=true) ?_ hx fun tk=>⟨.bl true,H,I.tok tk,rfl,q _ (.bl _)⟩
   show (if _ then _ else _) = _
   rw [if_pos (by simp)]
  ·cases e
 | non=>cases e; exact ok rfl rfl
 | bl b=>cases e; exact ok rfl rfl
 | int b=>cases e; exact ok rfl rfl
 | str b=>cases e; exact ok rfl rfl
 | tup h1 h2=>cases e; exact ok rfl rfl
 | lst h1 h2=>cases e; exact ok rfl rfl
 | fro h1 h2=>cases e; exact ok rfl rfl
 | dic h1 h2 h3=>cases e; exact ok rfl rfl
 | dix h1 h2 h3 h4=>cases e; exact ok rfl rfl
 | opq=>cases e
section
variable {X:Cx} {e:Expr} {f:EM Dat} {nm:Str} {p p2 pos:Pos} {C:Addr}
theorem x6U (O:x2a X.K C) (hC:X.mg nm = some (.ref C)) (hg:Gl X "isinstance") (hm:X.mg "isinstance" = none) (hg2:Gl X nm) (he:XE X e f) (hn:nm ≠ "__name__":=by decide) (hd:(nm == ("__debug__":Str)) = false:=by decide)
  (h1:starEach [e,.Name nm p2] X.env = (false,eval e X.env) :: starEach [.Name nm p2] X.env:=by rfl) (h2:starEach [.Name nm p2] X.env = (false,eval (.Name nm p2) X.env) :: starEach [] X.env:=by rfl) (hpl:(backTo pos (starEach [.Name nm p2] X.env)).any (·.1) = false:=by rfl) :
  XE X (.Call (.Name "isinstance" p) [e,.Name nm p2] [] pos) (e1 (isI nm) f):=
 (pe_callB (x0F O hC) hg hm Q3d (pa_cons he (pa_cons (pe_glob hg2 hC (v:=.ref C) rfl hd) pa_nil h2) h1) (by decide) (by decide) h1 hpl).imp fun _ _ _ q=>(q8o q).mono fun v H1 ⟨S,y,z,ex,r,e,q⟩=>
  ⟨S,v,y,z,rfl,ex,r,e,fun w rw=>q w S H1 (Fre.refl ex) rw⟩
end
end DL

namespace DL
variable [DL.Tbls]
open PySem PySem.Spec L2 PyProof.Rows
section
variable {X:Cx} {k j:Nat} {nm:Str} {F:List Dat→Option Cell} {C:Addr}
def j0g (c:Ct) (C:Addr) (nm:Str) (F:List Dat→Option Cell) (neg:Bool):R2:=fun x y H Q=>∃ S a dx fs d,x = V.ref a∧H a = some (.ins C dx fs)∧Same S H∧Rep c S y d∧(isI nm d).isSome = true∧spA c F [.ref a,y] H (fun v H'=>∃ b,v = .bl b∧Q (.bl (b ^^ neg)) H')
theorem z7M {pins:List (Addr × Obj)} {σ:L2.St} {S H:Hp} {s:Shared} {y:V} {d:Dat} {u:Value} (O:x2a X.K C) (hC:X.mg nm = some (.ref C)) (I:Inv X pins σ H s) (ex:Same S H) (r:Rep (ct X) S y d) (ru:RelV y u) (h:(isI nm d).isSome = true) :
  ∃ tb,PySem.W.Looks (model X.prog X.w) s.heap (typeOf u) tb∧Q2Y X.K C tb = true:=by
 have ok:∀ {t:String},tyW d = some t→∃ tb,PySem.W.Looks (model X.prog X.w) s.heap (typeOf u) tb∧Q2Y X.K C tb = true:=by
  intro t ht
  obtain ⟨P,Z,p,hx⟩:=z7K I ex r ru ht
  refine ⟨_,Z.ty _ _ I.kIn p,?_⟩
  unfold Q2Y
  rw [DLO.x1Z (z2f ht)]
  simp
 cases r with
 | @ins a C' dx nm' fs xs ds h0 h1 h2 h3=>
  rw [z3l] at h
  split at h
  ·rename_i hc
   subst hc
   obtain rfl:C' = C:=by have:=h0.symm.trans hC; cases this; rfl
   obtain rfl:u = Value.ref a:=ru
   obtain ⟨P,Z,p,hx⟩:=z7L O I (ex _ _ h1)
   refine ⟨_,Z.ty _ _ I.kIn p,?_⟩
   unfold Q2Y
   simp
  ·cases h
 | non=>exact ok rfl
 | bl b=>exact ok rfl
 | int b=>exact ok rfl
 | str b=>exact ok rfl
 | tup h1 h2=>exact ok rfl
 | lst h1 h2=>exact ok rfl
 | fro h1 h2=>exact ok rfl
 | dic h1 h2 h3=>exact ok rfl
 | dix h1 h2 h3 h4=>exact ok rfl
 | opq=>exact Bool.noConfusion (show false = true from h)
theorem x2b (D:q9r (ct X) X.base k nm "__eq__" F) (O:x2a X.K C) (hC:X.mg nm = some (.ref C)) (R:Rm X.A j) (hj:k ≤ j):OpR X (compareOp .Eq) (j0g (ct X) C nm F false):=by
 intro pins s σ H x y v u Q I rx ry h
 obtain ⟨S,a,dx,fs,d,rfl,ea,ex,rd,hi,q⟩:=h
 obtain rfl:v = Value.ref a:=rx
 obtain ⟨cl,g,hm,cl2⟩:=D.ex C hC
 obtain ⟨mA,OO,_,_,_,_⟩:=ins_get I.hok ea
 obtain ⟨od,J,_⟩:=OO.look
 obtain ⟨m,hF⟩:=I.fr
 obtain ⟨tb,Lk,hn⟩:=z7M O hC I ex rd ry hi
 show wpAny (model X.prog X.w) X.A (richCompare .Eq _ _) _ _ _
 refine PySem.W.cmp_K (op:=.Eq) R.hr.units0 hF I.ok.mod.kin J Lk hn hm.at_ hm.fn (wpAny_mono (q8w (us:=[.ref a,u]) (vs:=[.ref a,y]) cl2 (R.mono hj) I (.cons rfl (.cons ry .nil)) q) (fun r s' hr=>?_) fun _ _ y=>y)
 obtain ⟨z,H',I',rz,b,ez,hq⟩:=hr
 subst ez
 obtain rfl:r = Value.bool b:=by cases rz; rfl
 exact ⟨.bl _,H',I',rfl,by simpa using hq⟩
end
def eqI (nm:Str) (F:List Dat→Option Cell) (neg:Bool):Dat→Dat→Option Dat
 | .ins c fs ds,y=>if c = nm∧(isI nm y).isSome = true then (q9x (F [.ins c fs ds,y])).map fun b=>.bl (b ^^ neg) else none
 | _,_=>none
section
variable {X:Cx} {k j:Nat} {nm:Str} {F:List Dat→Option Cell} {a b:Expr} {pos:Pos} {f g:EM Dat}
theorem z7N (C:Addr) (hC:X.mg nm = some (.ref C)) {neg:Bool} {σ:L2.St} {H:Hp} {Q:VK} (h:tD (ct X) (e2 (eqI nm F neg) f g) σ H Q):tOp (j0g (ct X) C nm F neg) (tD (ct X) f) (tD (ct X) g) σ H Q:=by
 obtain ⟨S,ρ,fps,d0,ρ',G,e,q⟩:=h
 obtain ⟨x,ρ1,e1,e2⟩:=q0z e
 obtain ⟨y,ρ2,e3,e4⟩:=q0z e2
 obtain ⟨e5,e6⟩:=q1e e4
 subst e6
 refine ⟨S,ρ,fps,x,ρ1,G,e1,fun S1 H1 f1 st1 pin1 G1 v r=>⟨S1,ρ1,f1,y,ρ',G1,e3,fun S2 H2 f2 st2 pin2 G2 u ru=>?_⟩⟩
 have r':=r.mono st2.ss
 cases r' with
 | @ins a C' dx nm' fs xs ds h0 h1 h2 h3=>
  dsimp only [eqI] at e5
  split at e5
  ·rename_i hc
   obtain ⟨hc,hi⟩:=hc
   subst hc
   obtain rfl:C' = C:=by have:=h0.symm.trans hC; cases this; rfl
   cases hb:q9x (F [.ins nm' fs ds,y]) with
   | none=>rw [hb] at e5; cases e5
   | some bb=>
    rw [hb] at e5
    cases e5
    have hr:=q9U hb
    refine ⟨S2,a,dx,_,y,rfl,G2.ex _ _ h1,G2.ex,ru,hi,q8v G2 (.cons (.ins h0 h1 h2 h3) (.cons ru .nil)) rfl hr fun w S' H' f' st3 G'=>?_⟩
    obtain ⟨ex,rep,nd,out,tb⟩:=G'
    cases rep with
    | con q1 q2=>
     cases q1 with
     | atm q1=>
      cases q1 with
      | im q1=>
       cases q1
       exact ⟨bb,rfl,q S' H' _ ((st1.trans st2).trans st3) (pin1.trans pin2) ⟨ex,q2,nd,out,tb⟩ _ (.bl _)⟩
  ·cases e5
 | _=>cases e5
theorem x6V (D:q9r (ct X) X.base k nm "__eq__" F) (C:Addr) (O:x2a X.K C) (hC:X.mg nm = some (.ref C)) (R:Rm X.A j) (ha:XE X a f) (hb:XE X b g) (hj:k ≤ j:=by decide) (hm:behindInMarks .Eq b = false:=by first | exact Q0F _ (by decide) (by decide) | rfl):XE X (.Compare a [.Eq] [b] pos) (e2 (eqI nm F false) f g):=
 (pe_cmpR (x2b D O hC R hj) ha hb hm).imp fun _ _ _ h=>z7N C hC h
theorem x6W (D:q9r (ct X) X.base k nm "__eq__" F) (C:Addr) (O:x2a X.K C) (hC:X.mg nm = some (.ref C)) (R:Rm X.A j) (ha:XE X a f) (hb:XE X b g) (hj:k ≤ j:=by decide) (hm:behindInMarks .Eq b = false:=by first | exact Q0F _ (by decide) (by decide) | rfl):XT X (.Compare a [.Eq] [b] pos) (eT (e2 (eqI nm F false) f g)):=
 (pt_cmpR (x2b D O hC R hj) ha hb hm).imp fun _ _ _ h=>z7N C hC (z6g h)
end
def noZ {α:Type}:Option (α ⊕ Err)→Option α
 | some (.inl k)=>some k
 | _=>none
theorem x0G {α:Type} {o:Option (α ⊕ Err)} {k:α} (h:noZ o = some k):o = some (.inl k):=by
 unfold noZ at h
 split at h
 ·cases h; rfl
 ·cases h
def nA (F:List Dat→Option (Cell ⊕ Err)):List Dat→Option Cell:=fun ds=>noZ (F ds)
section
variable {c:Ct} {base:Heap} {k:Nat} {f:Addr}
theorem x3X {outer:List Env} {H:Hp} {s:Shared} {Q:VK} {r:Result} {s':Shared} (h:CR (L2.CX c.P c.w) outer c.P c.w H s Q (fun _ _ _=>False) r s'):CR CX0 outer c.P c.w H s Q E0 r s':=by
 cases r with
 | ok fl=>
  cases fl with
  | ret u=>exact h
  | next=>exact h
  | brk=>exact h
  | cont=>exact h
 | error e=>
  obtain ⟨_,_,_,_,_,_,_,_,_,_,_,_,z⟩:=h
  exact z.elim
theorem ClZ.calm {sp:SpZ} {spq:SpQ} (h:ClZ c base k f sp) (q:∀ vs H Q,spq vs H Q→sp vs H Q (fun _ _ _=>False)):Cl c base k f [] (fun vs _ H Q=>spq vs H Q):=by
 intro A outer s H us ws vs zs Q hr hg e0 r rz hz hsp
 exact codeAny_mono (h A outer s H us vs Q (fun _ _ _=>False) hr hg e0 r (q _ _ _ hsp)) fun r s'=>x3X
theorem z0V {F:List Dat→Option (Cell ⊕ Err)} {vs:List V} {H:Hp} {Q:VK} {E:L2.XK} (h:spA c (nA F) vs H Q):x5b c F vs H Q E:=by
 obtain ⟨_,S,ds,r,ex,tb,rp,e,q⟩:=h
 exact ⟨S,ds,.inl r,ex,tb,rp,x0G e,q⟩
theorem DefZ.def {x:Str} {F:List Dat→Option (Cell ⊕ Err)} (D:DefZ c base k x F):DefP c base k x [] (nA F):=by
 obtain ⟨f,hm,hk,cl⟩:=D.ex
 exact ⟨[],fun _=>.nil,f,hm,hk,(cl.calm (spq:=fun vs H Q=>spA c (nA F) vs H Q) fun _ _ _ h=>z0V h).imp fun vs zs H Q _ h=>by rw [Q0i] at h; exact h⟩
structure MetZ (c:Ct) (base:Heap) (k:Nat) (nm m:Str) (F:List Dat→Option (Cell ⊕ Err)):Prop where
 ex:∀ C,c.mg nm = some (.ref C)→Cls c.K C∧∃ g,Meth c.K C m g∧ClZ c base k g (x5b c F)
theorem MetZ.met {nm m:Str} {F:List Dat→Option (Cell ⊕ Err)} (D:MetZ c base k nm m F):q9r c base k nm m (nA F):=⟨fun C hC=>by
 obtain ⟨cl,g,hm,z⟩:=D.ex C hC
 exact ⟨cl,g,hm,z.calm fun _ _ _ h=>z0V h⟩⟩
end
section
variable {X:Cx} {W:WXL} {k j:Nat} {nm m:Str} {a b:Expr} {op:Operator} {pos:Pos} {f g:EM Dat} {C:Addr}
end
section
variable {X:Cx} {k j:Nat} {x m:Str} {p pos apos:Pos} {e o:Expr} {ta:TE} {tk:TA} {kws:List Keyword} {sp:List V→SpQ} {ks:List Str}
end
end DL

namespace DL
variable [DL.Tbls]
open PySem PySem.Spec L2 PyProof.Rows
section
variable {X:Cx} {W:WXL} {k j:Nat} {x:Str} {p pos:Pos} {e:Expr} {es:List Expr} {t:EM (List Dat)}
end
section
variable {X:Cx} {k j:Nat} {ks:List Str} {sp:List V→SpQ} {x m:Str} {p pos apos:Pos} {e o:Expr} {es:List Expr} {kws:List Keyword} {ta:TE} {t tk:TA}
end
section
variable {X:Cx} {k j:Nat} {x m:Str} {p pos apos:Pos} {e o:Expr} {es:List Expr} {t:EM (List Dat)}
end
end DL

namespace DL
variable [DL.Tbls]
open PySem PySem.Spec L2 PyProof.Rows
def x6X (K:JFr):R2:=fun x y H Q=>∃ d ds,Dp K H x d∧Dp K H y (.tuple ds)∧SeqAt.shaped d = true∧SeqAt.shaped (.tuple ds) = true∧Q (.bl (ds.any fun z=>PyData.eqv z d)) H
theorem x3Y {X:Cx} (hu:X.A.units + 65 < cLine):OpR X (compareOp .In) (x6X X.K):=by
 intro pins s σ H x y v u Q I rx ry h
 obtain ⟨d,ds,hd,he,sd,se,q⟩:=h
 obtain ⟨as,r1⟩:=Dp.reads I d x v hd rx
 obtain ⟨bs,r2⟩:=Dp.reads I (.tuple ds) y u he ry
 exact SeqAt.in_tuple_reads r2 r1 (SeqAt.canLay_of_shaped se) (SeqAt.canLay_of_shaped sd) (room_in_shaped sd hu) ⟨.bl _,H,I,rfl,q⟩
def x8B:Dat→Dat→Option Dat
 | x,.tup ds=>match q4W x,q2O ds with
  | some d,some ps=>if SeqAt.shaped d = true∧SeqAt.shaped (.tuple ps) = true then some (.bl (ps.any fun z=>PyData.eqv z d)) else none
  | _,_=>none
 | _,_=>none
theorem x6Y {c:Ct}:q2B c (x6X c.K) x8B:=by
 intro S H v u x y z Q ex rx ry e q
 cases y with
 | tup ds=>
  have e':(match q4W x,q2O ds with
   | some d,some ps=>if SeqAt.shaped d = true∧SeqAt.shaped (.tuple ps) = true then some (Dat.bl (ps.any fun z=>PyData.eqv z d)) else none
   | _,_=>none) = some z:=e
  split at e'
  ·rename_i d ps h1 h2
   split at e'
   ·rename_i hs
    cases e'
    exact ⟨d,ps,q3I ex x v d rx h1,q3I ex (.tup ds) u (.tuple ps) ry (by unfold q4W; rw [h2]; rfl),hs.1,hs.2,q _ S H (Fre.refl ex) (.bl _)⟩
   ·cases e'
  ·cases e'
 | _=>cases e
def z5G (i:Nat) (nm f:Str):EM Dat:=fun ρ=>match ρ[i]? with
 | some (some ⟨_,.oi c fs as⟩)=>if c = nm then (match (fs.zip as).lookup f with
  | some (.im d)=>some (d,ρ)
  | _=>none) else none
 | _=>none
theorem q8W {c:Ct} {S H:Hp} {f:Str} {d:Dat}:∀ {fs:List Str} {xs:List V} {as:List Atom} {fps:List Addr},RepAs c S H xs as fps→(fs.zip as).lookup f = some (.im d)→∃ u,(fs.zip xs).lookup f = some u∧Rep c S u d
 | [],_,_,_,_,e=>by cases e
 | _ :: _,_,_,_,.nil,e=>by cases e
 | g :: fs,_,_,_,.cons h1 h2,e=>by
  rw [Q0L,Q2V] at e ⊢
  split at e
  ·cases e
   rename_i hb
   cases h1 with
   | im r=>exact ⟨_,rfl,r⟩
  ·exact q8W h2 e
theorem x3Z {X:Cx} {pos p1:Pos} (i:Nat) {nm fl x:Str} (hF:Fd (ct X) nm fl) (hN:X.N[i]? = some x:=by rfl) (hv:Vis X.env.scope x:=by first | exact Or.inl rfl | exact Or.inr (Or.inl rfl) | exact Or.inr (Or.inr rfl)) (hd:(x == ("__debug__":Str)) = false:=by decide)
  (hcd:(x == ("__classdict__":Str)) = false:=by decide) (hb:attributeBase (.Name x p1) fl X.env (eval (.Name x p1) X.env) = eval (.Name x p1) X.env:=by rfl):XE X (.Attribute (.Name x p1) fl pos) (z5G i nm fl):=
 (pe_fld (pe_var (i:=i) hN hv hd hcd) hb).imp fun σ H Q ⟨S,ρ,fps,d,ρ',G,e,q⟩=>by
  unfold z5G at e
  split at e
  ·rename_i b cn fs as hs
   split at e
   ·rename_i hc
    subst hc
    split at e
    ·rename_i d' hl
     cases e
     obtain ⟨v,l,fp,r',e1,e2',e3,_⟩:=G.rep.at hs
     cases e3 with
     | @oi p C dx nm' fs' xs as' fpi h0 ho hl2 ras=>
      obtain ⟨u,e4,ru⟩:=q8W ras hl
      obtain ⟨cl,na⟩:=hF C h0
      exact ⟨.ref p,e1,p,C,dx,_,u,rfl,ho,cl,na,e4,q S H fps (Stp.refl S H fps) (PinR.refl _) G u ru⟩
    ·cases e
   ·cases e
  ·cases e
def x9j:Dat→Dat→Option Dat
 | .str i,.str j=>some (.bl (!decide (j.cps.toList < i.cps.toList)))
 | _,_=>none
theorem x9k {c:Ct}:q2B c (fun x y H Q=>∃ i j,x = .str i∧y = .str j∧Q (.bl (!decide (j.cps.toList < i.cps.toList))) H) x9j:=by
 intro S H v u x y z Q ex rx ry e q
 cases rx with
 | str i=>
  cases ry with
  | str j=>cases e; exact ⟨i,j,rfl,rfl,q _ S H (Fre.refl ex) (.bl _)⟩
  | _=>cases e
 | _=>cases ry <;> cases e
theorem x6Z {X:Cx}:OpR X (compareOp .LtE) (fun x y H Q=>∃ i j,x = .str i∧y = .str j∧Q (.bl (!decide (j.cps.toList < i.cps.toList))) H):=op_le_str
end DL

namespace DL
variable [DL.Tbls]
open PySem PySem.Spec
section
variable {ρ:Rho}
end
end DL

namespace DL
variable [DL.Tbls]
open PySem PySem.Spec
open L2 (Key)
section
variable {ρ:Rho} {i:Nat}
def x4a (nm f:Str):Option (Option Slot)→Option Dat
 | some (some ⟨_,.oi c fs as⟩)=>if c = nm then (match (fs.zip as).lookup f with
  | some (.im d)=>some d
  | _=>none) else none
 | _=>none
theorem x0H {nm f:Str} {P:Dat→Rho→Prop}:Ev (z5G i nm f) ρ P ↔ Yd (x4a nm f ρ[i]?) fun d=>P d ρ:=by
 constructor
 ·rintro ⟨d,r,e,h⟩
  unfold z5G at e
  split at e
  ·rename_i b cn fs as hs
   split at e
   ·rename_i hc
    split at e
    ·rename_i d' hl
     cases e
     exact ⟨_,by rw [hs]; show (if cn = nm then _ else none) = _; rw [if_pos hc,hl],h⟩
    ·cases e
   ·cases e
  ·cases e
 ·rintro ⟨d,e,h⟩
  refine ⟨d,ρ,?_,h⟩
  unfold z5G
  generalize hw:ρ[i]? = o at e
  unfold x4a at e
  split at e
  ·split at e
   ·rename_i hc
    split at e
    ·rename_i d' hl
     cases e
     try dsimp only
     first | rw [if_pos hc,hl] | rw [if_pos hc]
    ·cases e
   ·cases e
  ·cases e
theorem x0I {b:Bool} {nm f:Str} {c:Str} {fs:List Str} {as:List Atom}:x4a nm f (some (some ⟨b,.oi c fs as⟩)) = if c = nm then (match (fs.zip as).lookup f with
  | some (.im d)=>some d
  | _=>none) else none:=rfl
def x0J (k:Str) (d:Dat):Option (Option Slot)→Option Slot
 | some (some ⟨b,.di ks as⟩)=>if ks.Nodup∧ks.length < 1000 then (match ks.findIdx? fun z=>decide (z = .inr k) with
    | some j=>match as[j]? with
     | some (.im _)=>some ⟨b,.di ks (as.set j (.im d))⟩
     | _=>none
    | none=>none) else none
 | _=>none
theorem x0K {k:Str} {f:EM Dat} {P:Flw→Prop}:Rn (q9T i k f) ρ P ↔ Ev f ρ fun d ρ1=>Yd (x0J k d ρ1[i]?) fun s=>P (.nx (ρ1.set i (some s))):=by
 constructor
 ·rintro ⟨fl,e,h⟩
  unfold q9T at e
  split at e
  ·rename_i d ρ1 hf
   refine ⟨d,ρ1,hf,?_⟩
   split at e
   ·rename_i b ks as hs
    split at e
    ·rename_i hc
     split at e
     ·rename_i j hj
      split at e
      ·rename_i d0 ha
       cases e
       exact ⟨_,by rw [hs]; show (if _ then _ else none) = _; rw [if_pos hc,hj]; dsimp only; rw [ha],h⟩
      ·cases e
     ·cases e
    ·cases e
   ·cases e
  ·cases e
 ·rintro ⟨d,ρ1,hf,s,e,h⟩
  refine ⟨_,?_,h⟩
  unfold q9T
  rw [hf]; dsimp only
  generalize hw:ρ1[i]? = o at e
  unfold x0J at e
  split at e
  ·split at e
   ·rename_i hc
    split at e
    ·rename_i j hj
     split at e
     ·rename_i d0 ha
      cases e
      try dsimp only
      first | (rw [if_pos hc,hj]; dsimp only; rw [ha]) | rw [if_pos hc]
     ·cases e
    ·cases e
   ·cases e
  ·cases e
def x8C (kd:Dat) (a:Atom) (l:List (Dat × Dat)):Option Cell:=match z5W kd,x5d l with
 | some k,some kds=>if (k :: kds.map (·.1)).Nodup∧l.length ≤ 14 then some (.di (k :: kds.map (·.1)) (a :: kds.map fun x=>.im x.2)) else none
 | _,_=>none
theorem z7O {g:EM Dat} {f:EM Cell} {fs:List (EM Dat × EM Dat)} {P:Cell→Rho→Prop}:Ev (q9S g f fs) ρ P ↔ Ev g ρ fun kd ρ1=>Ev f ρ1 fun k ρ2=>Yd (x3s k) fun a=>Ev (x1W fs) ρ2 fun l ρ3=>Yd (x8C kd a l) fun c=>P c ρ3:=by
 constructor
 ·rintro ⟨c,r,e,h⟩
  unfold q9S at e
  split at e
  ·rename_i kd ρ1 e1
   split at e
   ·rename_i a ρ2 e2
    split at e
    ·rename_i l ρ3 e3
     refine ⟨kd,ρ1,e1,_,ρ2,e2,a,rfl,l,ρ3,e3,?_⟩
     unfold x8C
     split at e
     ·rename_i k kds h1 h2
      split at e
      ·rename_i hc
       cases e
       exact ⟨_,by rw [h1,h2]; dsimp only; rw [if_pos hc],h⟩
      ·cases e
     ·cases e
    ·cases e
   ·cases e
  ·cases e
 ·rintro ⟨kd,ρ1,e1,k,ρ2,e2,a,e3,l,ρ3,e4,c,e5,h⟩
  refine ⟨c,ρ3,?_,h⟩
  unfold q9S
  cases k with
  | atm a'=>
   cases e3
   rw [e1]; dsimp only; rw [e2]; dsimp only; rw [e4]; dsimp only
   unfold x8C at e5
   split at e5
   ·rename_i k kds h1 h2
    try (rw [h1,h2]; dsimp only)
    split at e5
    ·rename_i hc
     cases e5
     rw [if_pos hc]
    ·cases e5
   ·cases e5
  | _=>cases e3
theorem z7P {f:EM Dat} {P:List Dat→Rho→Prop}:Ev (z2c f) ρ P ↔ Ev f ρ fun d ρ1=>Yd (x3Q d) fun ks=>P ks ρ1:=by
 unfold z2c; rw [q0w]
 have key:∀ (d:Dat) (r:Rho),Ev (match d with | .dix ks _=>q2M ks | _=>eNo) r P ↔ Yd (x3Q d) fun ks=>P ks r:=by
  intro d r
  cases d with
  | dix ks ds=>exact Ev_ret.trans (Yd_some (a:=ks) (P:=fun ks=>P ks r)).symm
  | _=>exact Ev_no.trans (Yd_none (P:=fun ks=>P ks r)).symm
 exact ⟨fun q=>q.mono fun d r q=>(key d r).mp q,fun q=>q.mono fun d r q=>(key d r).mpr q⟩
theorem z7Q {ek ev:EM Dat} {P:List (Dat × Dat)→Rho→Prop}:Ev (q8V ek ev) ρ P ↔ Ev ek ρ fun kd ρ1=>(kyD kd).isSome = true∧Ev ev ρ1 fun d ρ2=>P [(kd,d)] ρ2:=by
 rw [Ev_yd,Ev_yd]; unfold q8V
 cases ek ρ with
 | none=>exact Yd_none.trans Yd_none.symm
 | some x=>
  obtain ⟨kd,ρ1⟩:=x
  rw [Yd_some]; dsimp only
  rw [q0N,Ev_yd]
  refine and_congr_right fun _=>?_
  cases ev ρ1 with
  | none=>exact Yd_none.trans Yd_none.symm
  | some y=>rw [Yd_some,Yd_some]
theorem x4b {src:EM (List Dat)} {tg:Tg} {t:EM Bool} {ek ev:EM Dat} {vs:List Nat} {P:Cell→Rho→Prop}:Ev (x5e src tg t ek ev vs) ρ P ↔ Ev src ρ fun ds ρ1=>vs.all (z5m ρ1) = true∧Ev (q4x tg t (q8V ek ev) vs ds) (q0B ρ1 vs) fun ys ρ2=>ys.length ≤ 1000∧P (.dk (z3k ys).1 ((z3k ys).2.map .im)) (q2h ρ1 (q0B ρ2 vs) vs):=by
 rw [Ev_yd,Ev_yd]
 unfold x5e
 cases src ρ with
 | none=>exact Yd_none.trans Yd_none.symm
 | some x=>
  obtain ⟨ds,ρ1⟩:=x
  rw [Yd_some]; dsimp only
  rw [q0N,Ev_yd]
  refine and_congr_right fun _=>?_
  cases q4x tg t (q8V ek ev) vs ds (q0B ρ1 vs) with
  | none=>exact Yd_none.trans Yd_none.symm
  | some y=>rw [Yd_some]; dsimp only; rw [q0N,Yd_some]
theorem x0L {a b:Str}:x9j (.str a) (.str b) = some (.bl (!decide (b.cps.toList < a.cps.toList))):=rfl
end
end DL

namespace DL
variable [DL.Tbls]
open PySem PySem.Spec
open TL (numL numL_inj numL_digits numL_ne numL_lt tl tl_append tl_mk tl_ofString tl_join tl_num)
def x5f (c:Nat):Prop:=32 ≤ c∧c ≤ 126∧c ≠ 39∧c ≠ 92
mutual
def sm:Dat→Prop
 | .non=>True
 | .bl _=>True
 | .int _=>True
 | .str x=>∀ c ∈ x.cps.toList,x5f c
 | .tup ds=>sms ds
 | .lst ds=>sms ds
 | .dic ks ds=>ks = []∧ds = []
 | .fro _=>False
 | .ins _ _ _=>False
 | .opq _=>False
 | .dix _ _=>False
def sms:List Dat→Prop
 | []=>True
 | d :: ds=>sm d∧sms ds
end
theorem sms_mem {ds:List Dat}:sms ds ↔ ∀ d ∈ ds,sm d:=by
 induction ds with
 | nil=>simp [sms]
 | cons d ds ih=>simp [sms,ih]
def scI (i:Int):List Nat:=if i < 0 then 45 :: numL i.natAbs else numL i.natAbs
mutual
def sc:Dat→List Nat
 | .non=>[78,111,110,101]
 | .bl true=>[84,114,117,101]
 | .bl false=>[70,97,108,115,101]
 | .int i=>scI i
 | .str x=>39 :: (x.cps.toList ++ [39])
 | .tup ds=>40 :: scT ds
 | .lst ds=>91 :: scL ds
 | .dic _ _=>[123,125]
 | _=>[]
def scT:List Dat→List Nat
 | []=>[41]
 | [d]=>sc d ++ [44,41]
 | d :: e :: ds=>sc d ++ (scR (e :: ds) ++ [41])
def scL:List Dat→List Nat
 | []=>[93]
 | d :: ds=>sc d ++ (scR ds ++ [93])
def scR:List Dat→List Nat
 | []=>[]
 | d :: ds=>44 :: 32 :: (sc d ++ scR ds)
end
def End (s:List Nat):Prop:=s = []∨∃ c r,s = c :: r∧(c = 44∨c = 41∨c = 93)
def Clo (s:List Nat):Prop:=∃ c r,s = c :: r∧(c = 41∨c = 93∨c = 44∧∃ r',r = 41 :: r')
theorem Clo.fin {s:List Nat} (h:Clo s):End s:=let ⟨c,r,e,k⟩:=h; .inr ⟨c,r,e,by omega⟩
end DL

namespace DL
variable [DL.Tbls]
open PySem PySem.Spec L2 PyProof.Rows
def j0v (c:Ct) (base:Heap) (k:Nat) (f:Addr) (ks:List Str) (sp:List V→SpZ):Prop:=
 ∀ (A:Around) (outer:List Env) (s:Shared) (H:Hp) (us ws:List Value) (vs zs:List V) (Q:VK) (E:L2.XK),Room k A→A.guards = some []→Env0 c.P c.w c.K c.mg base A outer s H→Vals vs us→Vals zs ws→zs.length = ks.length→sp vs zs H Q E →
  codeAny (model c.P c.w) A (.call (.ref f) ⟨us,ks.zip ws⟩) (CR (L2.CX c.P c.w) outer c.P c.w H s Q E) s
def FGZ (c:Ct) (base:Heap) (k:Nat) (f:Addr) (fd:FuncData) (ps:List Str) (sp:SpZ):Prop:=
 ∀ (A:Around) (outer:List Env) (s:Shared) (H:Hp) (args:Args) (us:List Value) (vs:List V) (Q:VK) (E:L2.XK),Room k A→A.guards = some []→Env0 c.P c.w c.K c.mg base A outer s H→BindsTo s fd args (ps.zip us)→Vals vs us→sp vs H Q E →
  codeAny (model c.P c.w) A (.call (.ref f) args) (CR (L2.CX c.P c.w) outer c.P c.w H s Q E) s
section
variable {c:Ct} {base:Heap} {k:Nat} {f:Addr} {name qual:Str} {params:Arguments} {body:List Stmt} {scope:Scope} {dV kV doc pm cdv ct' oc:Value} {an od:Option Addr} {osl:Array (Option Value)} {N ps:List Str} {sp:SpZ}
theorem FGZ.cl {fd:FuncData} (F:FGZ c base k f fd ps sp) (hbn:Binds c.K fd ps []) (len:∀ vs H Q E,sp vs H Q E→vs.length = ps.length):ClZ c base k f sp:=by
 intro A outer s H us vs Q E hr hg e0 r hsp
 have KX:c.K.In s.heap:=e0.mod.kin.keeps fun b o e=>(e0.bs b o e).1
 have hl:us.length = ps.length:=by rw [← r.length]; exact len vs H Q E hsp
 have hbd:=hbn s us KX (by rw [Q0i]; exact hl)
 rw [Q0i] at hbd
 exact F A outer s H _ us vs Q E hr hg e0 hbd r hsp
theorem FGZ.clk {fd:FuncData} (F:FGZ c base k f fd ps sp) {n:Nat} {ks:List Str} {g:List Value→List Value→List Value} {gV:List V→List V→List V} (hb:KBn c.K fd ps n ks g gV) :
  j0v c base k f ks (fun vs zs H Q E=>vs.length = n∧sp (gV vs zs) H Q E):=by
 intro A outer s H us ws vs zs Q E hr hg e0 r rz hz hsp
 obtain ⟨hn,hsp⟩:=hsp
 have KX:c.K.In s.heap:=e0.mod.kin.keeps fun b o e=>(e0.bs b o e).1
 exact F A outer s H ⟨us,ks.zip ws⟩ (g us ws) (gV vs zs) Q E hr hg e0 (hb.to s us ws KX (r.length.symm.trans hn) (rz.length.symm.trans hz)) (hb.rel r rz) hsp
end
section
variable {X:Cx} {W:WXL} {k j:Nat} {x m nm:Str} {p pos apos:Pos} {e o:Expr} {es:List Expr} {t:EM (List Dat)} {f:EM Dat} {kws:List Keyword} {ks:List Str}
end
section
variable {X:Cx} {W:WXL} {e:Expr} {es:List Expr} {pos:Pos}
end
end DL

namespace DL
variable [DL.Tbls]
open PySem PySem.Spec L2 PyProof.Rows
section
variable {X:Cx} {e:Expr} {te:TE} {k:Nat} {p1 p3 pos:Pos}
end
section
variable {X:Cx} {e:Expr} {pos:Pos} {k k2:Nat} {p1 p2 p3:Pos} {f:EM Dat}
end
end DL

namespace L2
open PySem PySem.Spec PyProof.Rows
section
variable {X:Cx} {n:Str} {i:Nat} {body:List Stmt} {h₀:ExceptHandler} {hds:List ExceptHandler} {l:List (Value × (Addr→Value→Option Addr→TS))} {pos:Pos} {tb:WX→TS} {Wout:WX}
end
end L2
namespace DL
variable [DL.Tbls]
open PySem PySem.Spec L2 PyProof.Rows
section
variable {X:Cx} {n1 n2 n f1 f2:Str} {i:Nat} {body s1 s2:List Stmt} {b1 b2:Stmt} {np1 np2 pos pos1 pos2:Pos} {b:SX} {h1 h2:Dat→SD} {C1 C2 fI1 fI2:Addr}
end
end DL

namespace DL
variable [DL.Tbls]
open PySem PySem.Spec
section
variable {ρ:Rho}
theorem z7R {nm m:Str} {F:List Dat→Option Cell} {g f:EM Dat} {P:Cell→Rho→Prop}:Ev (z4H nm m F g f) ρ P ↔ Ev g ρ fun d ρ1=>okM nm m d∧Ev f ρ1 fun y ρ2=>Yd (x6M y) fun es=>Yd (F (d :: es)) fun k=>P k ρ2:=by
 unfold z4H; rw [q0w]
 have key:∀ (d:Dat) (ρ1:Rho),Ev (match d with | .ins c fs ds=>if c = nm∧((fs.zip ds).lookup m).isNone = true then q0J f fun y=>q0J (q3a (x6M y)) fun es=>q3a (F (.ins c fs ds :: es)) else eNo | _=>eNo) ρ1 P ↔ okM nm m d∧Ev f ρ1 fun y ρ2=>Yd (x6M y) fun es=>Yd (F (d :: es)) fun k=>P k ρ2:=by
  intro d ρ1
  cases d with
  | ins c fs ds=>simp only [q6Y,q0w,q2q,okM]
  | _=>simp only [Ev_no,okM,false_and]
 exact ⟨fun q=>q.mono fun d r q=>(key d r).mp q,fun q=>q.mono fun d r q=>(key d r).mpr q⟩
theorem x0M {ds:List Dat}:x6M (.lst ds) = some ds:=rfl
end
end DL

namespace DL
variable [DL.Tbls]
open PySem PySem.Spec
variable {ρ:Rho}
end DL

namespace DL
variable [DL.Tbls]
open PySem PySem.Spec L2 PyProof.Rows
structure MetZB (c:Ct) (base:Heap) (k:Nat) (nm m:Str) (F:List Dat→Option (Cell ⊕ Err)):Prop where
 ex:∀ C,c.mg nm = some (.ref C)→Cls c.K C∧∃ g,BMeth c.K C m g∧ClZ c base k g (x5b c F)
theorem MetZB.z {c:Ct} {base:Heap} {k:Nat} {nm m:Str} {F:List Dat→Option (Cell ⊕ Err)} (D:MetZB c base k nm m F):MetZ c base k nm m F:=⟨fun C hC=>let ⟨a,g,b,h⟩:=D.ex C hC; ⟨a,g,b.mt,h⟩⟩
theorem MetZB.b {c:Ct} {base:Heap} {k:Nat} {nm m:Str} {F:List Dat→Option (Cell ⊕ Err)} (D:MetZB c base k nm m F):MetB c base k nm m (nA F):=⟨fun C hC=>by
 obtain ⟨cl,g,hm,z⟩:=D.ex C hC
 exact ⟨cl,g,hm,z.calm fun _ _ _ h=>z0V h⟩⟩
section
variable {X:Cx} {W:WXL} {q a b:Expr} {pos:Pos} {s:EM Bool} {f g:EZ}
theorem PostZ.after {c:Ct} {S H S1 H1:Hp} {σ:L2.St} {ρ ρ1 ρ':Rho} {fps f1:List Addr} {Q:VK} {r:Cell ⊕ Err} (h:PostZ c W S H σ ρ fps Q ρ' r) (st:Stp S H fps S1 H1 f1) (pin:PinR ρ ρ1):PostZ c W S1 H1 σ ρ1 f1 Q ρ' r:=by
 cases r with
 | inl k=>exact fun v S' H' f' st' pin' G'=>h v S' H' f' (st.trans st') (pin.trans pin') G'
 | inr e=>exact fun S' H' f' cls d st' pin' G'=>h S' H' f' cls d (st.trans st') (pin.trans pin') G'
end
section
variable {X:Cx} {W:WXL} {e:Expr} {f:EM Cell}
end
section
variable {X:Cx} {i:Nat} {nm:Str} {e1 e2 e3:Expr} {pos:Pos} {f g h:Dat→EM Dat}
end
section
variable {X:Cx} {x f:Str} {p pos:Pos} {C:Addr} {mc u:Value} {v:V} {d:Dat}
end
section
variable {X:Cx} {o:Expr} {f:EM Dat} {apos pos:Pos}
end
section
variable {X:Cx} {a b:Expr} {f g:EM Dat} {p p2 pos q2:Pos}
end
section
variable {c:Ct} {base:Heap} {k:Nat} {f:Addr} {ps:List Str} {sp:SpZ}
theorem x4c {F:Cell→List Dat→Option (Cell × Cell)} {dvs:List V} {es:List Dat} (hd:∀ S,Reps c S dvs es) {vs:List V} {H:Hp} {Q:VK} (h:spB c (fun o ds=>F o (ds ++ es)) vs H Q):spB c F (vs ++ dvs) H Q:=by
 obtain ⟨v0,ws,rfl,hl,S,o,fp,ds,r,o',G,rp,e,q⟩:=h
 refine ⟨v0,ws ++ dvs,rfl,?_,S,o,fp,ds ++ es,r,o',G,rp.app (hd S),e,q⟩
 simp
end
section
variable {X:Cx} {W:WXL} {k j:Nat} {m nm:Str} {pos apos:Pos} {o:Expr} {f:EM Dat}
end
end DL

namespace DL
variable [DL.Tbls]
open PySem PySem.Spec
variable {ρ:Rho}
end DL

namespace DL
variable [DL.Tbls]
open PySem PySem.Spec L2 PyProof.Rows
def x9l:Dat→Dat→Option Dat
 | .str i,.str j=>some (.bl (decide (i.cps.toList < j.cps.toList)))
 | _,_=>none
theorem x9m {c:Ct}:q2B c (fun x y H Q=>∃ i j,x = .str i∧y = .str j∧Q (.bl (decide (i.cps.toList < j.cps.toList))) H) x9l:=by
 intro S H v u x y z Q ex rx ry e q
 cases rx with
 | str i=>
  cases ry with
  | str j=>cases e; exact ⟨i,j,rfl,rfl,q _ S H (Fre.refl ex) (.bl _)⟩
  | _=>cases e
 | _=>cases ry <;> cases e
end DL

namespace DL
variable [DL.Tbls]
open PySem PySem.Spec
variable {ρ:Rho}
theorem x0N {i j:Str}:x9l (.str i) (.str j) = some (.bl (decide (i.cps.toList < j.cps.toList))):=rfl
end DL

namespace DL
variable [DL.Tbls]
open PySem PySem.Spec L2 PyProof.Rows
theorem x7a {X:Cx}:CallR X (.builtin "abs") (fun xs H Q=>∃ i:Int,xs = [V.int i]∧Q (.int (if i < 0 then -i else i)) H):=by
 intro pins s σ H vs us Q I r h
 obtain ⟨i,rfl,q⟩:=h
 cases r with
 | cons r1 rs=>
  cases rs
  obtain ⟨t,rfl⟩:=r1
  exact call_abs_int fun u tk=>⟨.int _,H,I.kept fun _ _ e=>e,⟨u,rfl⟩,q⟩
def x8D:Dat→Option Dat
 | .int i=>some (.int (if i < 0 then -i else i))
 | _=>none
theorem x9n {c:Ct}:PureC c (fun xs H Q=>∃ i:Int,xs = [V.int i]∧Q (.int (if i < 0 then -i else i)) H) x8D:=by
 intro S H v x z Q ex r e q
 cases r <;> first | (cases e; exact ⟨_,rfl,q _ S H (Fre.refl ex) (.int _)⟩) | cases e
end DL

namespace DLI
variable [DL.Tbls]
open PySem PySem.Spec L2 DLS DL PyProof.Rows
def x7b (w:World) (a:Addr) (L:List Int):HO:=L2.SetO w a (fun k=>decide (k ∈ L)) L.length
instance {w:World} {a:Addr} {L:List Int}:NT (x7b w a L):=⟨fun _ z=>nomatch z⟩
instance {w:World} {a:Addr} {L:List Int}:NC a (x7b w a L):=⟨fun _=>q4Y fun h k=>by
 obtain ⟨o,es,ep,t,e1,_,e3,_⟩:=k
 exact ⟨o,e1,fun vs z=>by rw [e3] at z; cases z⟩⟩
section
variable {X:Cx} {pins:List (Addr × Obj)} {σ:L2.St} {H:Hp} {s:Shared}
end
section
variable {X:Cx}
end

section
variable {c:Ct} {D:Addr}
end
section
variable {X:Cx} {elt tge iter tge1 iter1:Expr} {ifs ifs1:List Expr} {scope:Scope} {pos:Pos} {src src1:EM (List Dat)} {tg tg1:Tg} {t t1:EM Bool} {e:EM Dat}
end
end DLI

namespace DL
variable [DL.Tbls]
open PySem PySem.Spec L2 PySem.Calls PyProof.Rows
section
variable {X:Cx} {k j:Nat} {sp:List V→SpQ} {p pos:Pos} {e fe:Expr} {fa es:List Expr} {kws:List Keyword} {tf:TE} {t:TA} {C g:Addr}
end
section
variable {X:Cx} {k j:Nat} {p pos:Pos} {e fe:Expr} {fa es:List Expr} {kws:List Keyword} {f:EM Dat} {t:EM (List Dat)} {nm:Str} {F:List Dat→Option Cell}
end
end DL

namespace DLI
variable [DL.Tbls]
open PySem PySem.Spec L2 DLS DL PyProof.Rows
section
variable {P:Program} {w:World} {A:Around} {E:Value→Shared→Prop} {s:Shared}
end
section
variable {X:Cx}
end
end DLI

namespace DLJ
variable [DL.Tbls]
open PySem PySem.Spec L2 DL PyProof.Rows
section
variable {prog:Program} {w:World} {A:Around} {R:Result→Shared→Prop} {I:Addr} {fp wr:List Addr} {n:Nat} {P:Nat→Value→Prop} {St:Nat→Heap→Prop}
end
end DLJ
namespace DLJ
variable [DL.Tbls]
open PySem PySem.Spec L2 DL PyProof.Rows
section
variable {prog:Program} {w:World} {A:Around} {E:Value→Shared→Prop} {s:Shared}
end
end DLJ

namespace DL
variable [DL.Tbls]
open PySem PySem.Spec
variable {ρ:Rho}
theorem x0O {i:Int}:x8D (.int i) = some (.int (if i < 0 then -i else i)):=rfl
end DL

namespace DL
variable [DL.Tbls]
open PySem PySem.Spec L2 PyProof.Rows
def x4d:Dat→Dat→Option Dat
 | .str z,.int i=>if z.length ≤ 100000 then (atI z.cps.toList i).map fun k=>.str ⟨#[k]⟩ else none
 | _,_=>none
theorem x7c {c:Ct}:q2B c (fun x y H Q=>rIxS x y H Q) x4d:=by
 intro S H v u x y z Q ex rx ry e q
 cases ry with
 | int i=>
  cases rx with
  | str=>
   rename_i w
   have e1:(if w.length ≤ 100000 then (atI w.cps.toList i).map fun k=>Dat.str ⟨#[k]⟩ else none) = some z:=e
   split at e1
   ·rename_i hl
    cases hk:atI w.cps.toList i with
    | none=>rw [hk] at e1; cases e1
    | some k=>
     rw [hk] at e1
     cases e1
     exact ⟨w,i,k,rfl,rfl,q8r hl,hk,q _ S H (Fre.refl ex) (.str _)⟩
   ·cases e1
  | _=>cases e
 | _=>cases rx <;> cases e
end DL



set_option maxHeartbeats 4000000
namespace DLZ
variable [DL.Tbls]
open PySem PySem.Spec L2 DL PyProof.Rows
def ZSt (z TI TO i1 i2 l1 l2 S:Addr) (xs ys:Array Value) (k:Nat) (h:Heap):Prop:=
 IsPair h TI (.ref i1) (.ref i2)∧h.IsListIter i1 l1 k∧h.IsListIter i2 l2 k∧h.IsList l1 xs∧h.IsList l2 ys ∧
 ((IsZip h z TI TO .none∧∃ a b,IsPair h TO a b)∨∃ T f oT,IsZipHeld h z TI TO T f∧h.get? T = some oT∧T ≠ z∧T ≠ i1∧T ≠ i2∧T ≠ S)
structure ApS (z TI TO i1 i2 l1 l2 S:Addr):Prop where
 z:z ≠ S
 TI:TI ≠ S
 TO:TO ≠ S
 i1:i1 ≠ S
 i2:i2 ≠ S
 l1:l1 ≠ S
 l2:l2 ≠ S
theorem ZSt.keep {z TI TO i1 i2 l1 l2 S:Addr} {xs ys:Array Value} {k:Nat} {h h':Heap} (st:ZSt z TI TO i1 i2 l1 l2 S xs ys k h) (N:ApS z TI TO i1 i2 l1 l2 S)
  (hk:∀ b o,b ≠ S→h.get? b = some o→h'.get? b = some o):ZSt z TI TO i1 i2 l1 l2 S xs ys k h':=by
 obtain ⟨hTI,h1,h2,hl1,hl2,hz⟩:=st
 refine ⟨hk _ _ N.TI hTI,h1.at fun o e=>hk _ o N.i1 e,h2.at fun o e=>hk _ o N.i2 e,hl1.at fun o e=>hk _ o N.l1 e,hl2.at fun o e=>hk _ o N.l2 e,?_⟩
 rcases hz with ⟨hz,a,b,hTO⟩ | ⟨T,f,oT,hz,hT,r1,r2,r3,r4⟩
 ·exact .inl ⟨hk _ _ N.z hz,a,b,hk _ _ N.TO hTO⟩
 ·exact .inr ⟨T,f,oT,hk _ _ N.z hz,hk _ _ r4 hT,r1,r2,r3,r4⟩
section
variable {prog:Program} {w:World} {A:Around} {E:Value→Shared→Prop} {s:Shared} {z TI TO i1 i2 l1 l2 S:Addr} {xs ys:Array Value} {k:Nat} {x y:Value}
end
section
variable {prog:Program} {w:World} {A:Around} {s:Shared} {R:Result→Shared→Prop} {z TI TO i1 i2 l1 l2 S lo:Addr} {xs ys:Array Value}
end
section
variable {prog:Program} {w:World} {A:Around} {E:Value→Shared→Prop} {s:Shared} {z TI TO i1 i2 l1 l2:Addr} {xs ys:Array Value}
end
section
variable {X:Cx} {e e2:Expr} {ta:TA}
end
end DLZ
namespace DL
variable [DL.Tbls]
open PySem PySem.Spec L2 PyProof.Rows
section
variable {X:Cx} {e e2:Expr} {t:EM (List Dat)}
end
end DL

set_option maxHeartbeats 4000000
namespace DL
variable [DL.Tbls]
open PySem PySem.Spec L2 PyProof.Rows
section
variable {X:Cx} {pins:List (Addr × Obj)} {σ:L2.St} {H:Hp} {s:Shared} {d:Addr} {o:Obj} {xs:List q3O}
end
section
variable {P:Program} {w:World} {K:JFr} {tg:Expr} {d:Addr} {o:Obj} {es:Array DictEntry} {ep:Nat}
end
section
variable {c:Ct} {S:Hp} {d:Addr} {o:Obj}
end
end DL

set_option maxHeartbeats 4000000
namespace DL
variable [DL.Tbls]
open PySem PySem.Spec L2
mutual
def Dat.tuy:Dat→Bool
 | .non | .bl _ | .int _ | .str _=>true
 | .tup ds=>Dat.tuys ds
 | _=>false
def Dat.tuys:List Dat→Bool
 | []=>true
 | d :: ds=>d.tuy && Dat.tuys ds
end
def Atom.tuy:Atom→Bool
 | .im d=>d.tuy
 | .ol ds=>Dat.tuys ds
 | .od _ ds=>Dat.tuys ds
 | .ok _ _=>false
def Atom.tuys:List Atom→Bool
 | []=>true
 | a :: as=>a.tuy && Atom.tuys as
def Cell.tuy:Cell→Bool
 | .atm a=>a.tuy
 | .li as=>Atom.tuys as
 | .di _ as=>Atom.tuys as
 | .oi _ _ as=>Atom.tuys as
 | .dk _ _=>false
def z4I (s:Option Slot):Option Slot→Prop
 | none=>True
 | some s'=>s'.cell.tuy = true∨∃ d b,s'.cell = .atm (.im d)∧s = some ⟨b,.atm (.im d)⟩
def z2g:Rho→Rho→Prop
 | [],[]=>True
 | s :: ρ,s' :: ρ'=>z4I s s'∧z2g ρ ρ'
 | _,_=>False
def x2c:Nat→Rho→Rho→Prop
 | 0,_ :: ρ,_ :: ρ'=>z2g ρ ρ'
 | j + 1,s :: ρ,s' :: ρ'=>z4I s s'∧x2c j ρ ρ'
 | _,_,_=>False
section
variable {c:Ct} {S S1:Hp} {a:Addr} {ys:List V}
structure x0P (S S1:Hp) (a:Addr) (ys:List V):Prop where
 at_:S a = some (.lst ys)
 off:∀ x o,x ≠ a→S x = some o→S1 x = some o
theorem x0Q {K:JFr} (L:x0P S S1 a ys) {p:Addr} {xs:List V} (h:SqT K S p xs):SqT K S1 p xs:=by
 rcases h with (h | ⟨o,h⟩) | h
 ·exact .inl (.inl (L.off _ _ (fun z=>by rw [z,L.at_] at h; cases h) h))
 ·exact .inl (.inr ⟨o,L.off _ _ (fun z=>by rw [z,L.at_] at h; cases h) h⟩)
 ·exact .inr h
mutual
theorem Rep.less (L:x0P S S1 a ys) {v:V} {d:Dat} (h:Rep c S v d) (t:d.tuy = true):Rep c S1 v d:=by
 match h with
 | .non=>exact .non
 | .bl b=>exact .bl b
 | .int i=>exact .int i
 | .str x=>exact .str x
 | .tup h1 h2=>exact .tup (x0Q L h1) (Reps.less L h2 (by unfold Dat.tuy at t; exact t))
 | .lst h1 h2=>unfold Dat.tuy at t; cases t
 | .fro h1 h2=>unfold Dat.tuy at t; cases t
 | .dic h1 h2 h3=>unfold Dat.tuy at t; cases t
 | .ins h0 h1 h2 h3=>unfold Dat.tuy at t; cases t
 | .dix h1 h2 h3 h4=>unfold Dat.tuy at t; cases t
 | .opq _=>unfold Dat.tuy at t; cases t
theorem Reps.less (L:x0P S S1 a ys) {vs:List V} {ds:List Dat} (h:Reps c S vs ds) (t:Dat.tuys ds = true):Reps c S1 vs ds:=by
 match h with
 | .nil=>exact .nil
 | .cons h1 h2=>
  unfold Dat.tuys at t
  have t:=Q3a.mp t
  exact .cons (Rep.less L h1 t.1) (Reps.less L h2 t.2)
end
variable {H:Hp}
theorem RepA.less (L:x0P S S1 a ys) {v:V} {k:Atom} {fp:List Addr} (h:RepA c S H v k fp) (t:k.tuy = true):RepA c S1 H v k fp:=by
 cases h with
 | im h=>exact .im (h.less L t)
 | ol h1 h2=>exact .ol h1 (h2.less L t)
 | od h1 h2 h3=>exact .od h1 h2 (h3.less L t)
 | ok h1 h2 h3 h4=>unfold Atom.tuy at t; cases t
theorem RepAs.less (L:x0P S S1 a ys) {vs:List V} {as:List Atom} {fp:List Addr} (h:RepAs c S H vs as fp):Atom.tuys as = true→RepAs c S1 H vs as fp:=by
 induction h with
 | nil=>exact fun _=>.nil
 | cons h1 _ ih=>
  intro t
  unfold Atom.tuys at t
  have t:=Q3a.mp t
  exact .cons (h1.less L t.1) (ih t.2)
theorem RepC.less (L:x0P S S1 a ys) {v:V} {k:Cell} {fp:List Addr} (h:RepC c S H v k fp) (t:k.tuy = true):RepC c S1 H v k fp:=by
 cases h with
 | atm h=>exact .atm (h.less L t)
 | li h1 h2=>exact .li h1 (h2.less L t)
 | di h1 h2 h3=>exact .di h1 h2 (h3.less L t)
 | oi h0 h1 h2 h3=>exact .oi h0 h1 h2 (h3.less L t)
 | dk h1 h2 h3 h4=>unfold Cell.tuy at t; cases t
theorem RepS.lessA {S0 H0:Hp} (L:x0P S S1 a ys) (ss:Same S0 S1) {σ:L2.St} {ρ ρ':Rho} {fps fps0:List Addr} (h:RepS c S H σ ρ' fps) (h0:RepS c S0 H0 σ ρ fps0) (ok:z2g ρ ρ'):RepS c S1 H σ ρ' fps:=by
 induction h generalizing ρ fps0 with
 | nil=>exact .nil
 | non h ih=>
  cases h0 with
  | non h0=>exact .non (ih h0 ok.2)
  | con _ h0=>exact .non (ih h0 ok.2)
 | con h1 h ih=>
  cases h0 with
  | non h0=>
   refine .con ?_ (ih h0 ok.2)
   rcases ok.1 with t | ⟨d,b,_,e⟩
   ·exact h1.less L t
   ·cases e
  | con g1 h0=>
   refine .con ?_ (ih h0 ok.2)
   rcases ok.1 with t | ⟨d,b,e1,e2⟩
   ·exact h1.less L t
   ·have e1:_ = Cell.atm (.im d):=e1
    subst e1
    cases e2
    cases h1 with
    | atm h1=>
     cases h1 with
     | im h1=>
      cases g1 with
      | atm g1=>
       cases g1 with
       | im g1=>exact .atm (.im (g1.mono ss))
theorem RepS.lessP {S0 H0:Hp} (L:x0P S S1 a ys) (ss:Same S0 S1) {b:Bool} {ds:List Dat} {σ:L2.St} {ρ':Rho} {fps:List Addr} (h:RepS c S H σ ρ' fps) :
  ∀ {j:Nat} {ρ:Rho} {fps0:List Addr},RepS c S0 H0 σ ρ fps0→x2c j ρ ρ'→(∃ s,ρ'[j]? = some (some s)∧∀ v fp,RepC c S H v s.cell fp→fp = [])→σ[j]? = some (some (.ref a))→RepC c S1 H (.ref a) (.atm (.ol ds)) [a] →
   ∃ l r,fps = l ++ r∧RepS c S1 H σ (ρ'.set j (some ⟨b,.atm (.ol ds)⟩)) (l ++ ([a] ++ r)):=by
 induction h with
 | nil=>intro j ρ fps0 h0 ok; cases j <;> cases h0 <;> exact ok.elim
 | @non v σ ρ' fps h ih=>
  intro j ρ fps0 h0 ok hf hv hr
  cases j with
  | zero=>obtain ⟨s,e,_⟩:=hf; cases e
  | succ j=>
   cases h0 with
   | non h0=>
    obtain ⟨l,r,e,q⟩:=ih h0 ok.2 (by simpa using hf) (by simpa using hv) hr
    exact ⟨l,r,e,.non q⟩
   | con _ h0=>
    obtain ⟨l,r,e,q⟩:=ih h0 ok.2 (by simpa using hf) (by simpa using hv) hr
    exact ⟨l,r,e,.non q⟩
 | @con v b' k σ ρ' fp fps h1 h ih=>
  intro j ρ fps0 h0 ok hf hv hr
  cases j with
  | zero=>
   obtain ⟨s,e,hfp⟩:=hf
   cases e
   have:=hfp _ _ h1
   subst this
   cases hv
   have hl:∃ ρ0 fps1,RepS c S0 H0 σ ρ0 fps1∧z2g ρ0 ρ':=by
    cases h0 with
    | non h0=>exact ⟨_,_,h0,ok⟩
    | con _ h0=>exact ⟨_,_,h0,ok⟩
   obtain ⟨ρ0,fps1,h0,ok⟩:=hl
   refine ⟨[],fps,rfl,?_⟩
   rw [Q0u]
   exact .con hr (h.lessA L ss h0 ok)
  | succ j=>
   have hl:∃ s0 ρ0 fps1,RepS c S0 H0 σ ρ0 fps1∧z4I s0 (some ⟨b',k⟩)∧x2c j ρ0 ρ'∧∀ d b,s0 = some ⟨b,.atm (.im d)⟩→Rep c S0 v d:=by
    cases h0 with
    | non h0=>exact ⟨_,_,_,h0,ok.1,ok.2,fun d b e=>nomatch e⟩
    | con g1 h0=>
     refine ⟨_,_,_,h0,ok.1,ok.2,fun d b e=>?_⟩
     cases e
     cases g1 with
     | atm g1=>
      cases g1 with
      | im g1=>exact g1
   obtain ⟨s0,ρ0,fps1,h0,o1,o2,g⟩:=hl
   obtain ⟨l,r,e,q⟩:=ih h0 o2 (by simpa using hf) (by simpa using hv) hr
   have h1':RepC c S1 H v k fp:=by
    rcases o1 with t | ⟨d,b,e1,e2⟩
    ·exact h1.less L t
    ·have e1:k = Cell.atm (.im d):=e1
     subst e1
     cases h1 with
     | atm h1=>
      cases h1 with
      | im h1=>exact .atm (.im ((g d b e2).mono ss))
   refine ⟨fp ++ l,r,by rw [e,Q0C],?_⟩
   rw [Q0C]
   exact .con h1' q
end
open Classical in
noncomputable def x0R (j:Nat) (f:EM Cell):EM Cell:=fun ρ=>match ρ[j]? with
 | some (some ⟨b,.atm (.ol ds)⟩)=>match f (ρ.set j (some ⟨b,.atm (.im (.lst ds))⟩)) with
  | some (k,ρ')=>if k.tuy = true∧x2c j ρ ρ'∧ρ'[j]? = some (some ⟨b,.atm (.im (.lst ds))⟩) then some (k,ρ'.set j (some ⟨b,.atm (.ol ds)⟩)) else none
  | none=>none
 | _=>none
theorem x2d {c:Ct} {σ:L2.St} {H:Hp} {j:Nat} {f:EM Cell} {Q:VK} (h:tC c (x0R j f) σ H Q):tC c f σ H Q:=by
 obtain ⟨S,ρ,fps,k,ρ',G,e,q⟩:=h
 unfold x0R at e
 split at e
 ·rename_i b ds hj
  split at e
  ·rename_i k1 ρ1 hf
   split at e
   ·rename_i hc
    cases e
    obtain ⟨t,ok,hj1⟩:=hc
    obtain ⟨v,l,fp,r,e1,e2,e3,hset⟩:=G.rep.at hj
    have e3:RepC c S H v (.atm (.ol ds)) fp:=e3
    cases e3 with
    | atm e3=>
     cases e3 with
     | @ol p xs _ h1 h2=>
      have pin:p ∈ fps:=by rw [e2]; simp
      have pS:=G.out p pin
      have nd:=G.nd
      rw [e2] at nd
      have nd2:(l ++ r).Nodup∧p ∉ l ++ r:=by
       rw [Q0E,Q0E] at nd
       obtain ⟨n1,⟨_,n2,n3⟩,n4⟩:=nd
       refine ⟨Q0E.mpr ⟨n1,n2,fun x hx y hy=>n4 x hx y (Q0l _ hy)⟩,fun z=>?_⟩
       rcases Q0k.mp z with z | z
       ·exact n4 p z p (by simp) rfl
       ·exact n3 p (by simp) p z rfl
      have sl:Same S (upd S p (.lst xs)):=q2i pS
      have rs1:RepS c (upd S p (.lst xs)) H σ (ρ.set j (some ⟨b,.atm (.im (.lst ds))⟩)) (l ++ r):=by
       have:=hset (upd S p (.lst xs)) H b (.atm (.im (.lst ds))) (.ref p) [] sl (fun _ _=>rfl) (.atm (.im (.lst (.inl upd_same) (h2.mono sl))))
       rw [Q0u] at this
       have es:σ.set j (some (.ref p)) = σ:=by
        obtain ⟨hl,e⟩:=Q0r.mp e1
        rw [← e]; exact Q2S hl
       rw [es] at this
       exact this
      have sub:∀ x ∈ l ++ r,x ∈ fps:=fun x hx=>by
       rw [e2]
       rcases Q0k.mp hx with h | h
       ·exact Q0q _ h
       ·exact Q0l _ (Q0l _ h)
      have G1:Good c (upd S p (.lst xs)) H σ (ρ.set j (some ⟨b,.atm (.im (.lst ds))⟩)) (l ++ r):=by
       refine ⟨fun x o hx=>?_,rs1,nd2.1,fun x hx=>?_,G.tbs (fun a o h _=>h) fun a h=>by
        by_cases z:a = p
        ·exact .inr (.inl (by rw [z]; exact pin))
        ·rw [upd_ne z] at h; exact .inl h⟩
       ·by_cases z:x = p
        ·subst z; rw [upd_same] at hx; cases hx; exact h1
        ·rw [upd_ne z] at hx; exact G.ex x o hx
       ·rw [upd_ne fun z=>nd2.2 (by rw [← z]; exact hx)]; exact G.out x (sub x hx)
      refine ⟨_,_,_,k,ρ1,G1,hf,fun u S' H' fps' st pn G'=>?_⟩
      have ps':S' p = some (.lst xs):=st.ss p _ upd_same
      have ph':H' p = some (.lst xs):=G'.ex p _ ps'
      have pn':p ∉ fps':=fun z=>by have:=G'.out p z; rw [ps'] at this; cases this
      let S2:Hp:=fun x=>if x = p then none else S' x
      have s2p:S2 p = none:=if_pos rfl
      have s2n:∀ {x},x ≠ p→S2 x = S' x:=fun z=>if_neg z
      have L:x0P S' S2 p xs:=⟨ps',fun x o z e=>(s2n z).trans e⟩
      have ss2:Same S S2:=fun x o e=>by
       have z:x ≠ p:=fun z=>by rw [z,pS] at e; cases e
       rw [s2n z]; exact st.ss x o (by rw [upd_ne z]; exact e)
      cases hG:G'.rep with
      | @con _ _ _ _ _ fp1 fps1 g1 g2=>
       have hv:σ[j]? = some (some (.ref p)):=e1
       obtain ⟨l',r',e4,q2⟩:=g2.lessP (b:=b) (ds:=ds) L ss2 G.rep ok ⟨_,hj1,fun v fp hh=>by
        cases hh with
        | atm hh=>cases hh with
         | im hh=>rfl⟩ hv (.atm (.ol ph' (h2.mono ss2)))
       have nd':=G'.nd
       have G2:Good c S2 H' (some u :: σ) (some ⟨false,k⟩ :: ρ1.set j (some ⟨b,.atm (.ol ds)⟩)) (fp1 ++ (l' ++ ([p] ++ r'))):=by
        have memf:∀ x,x ∈ fp1 ++ (l' ++ ([p] ++ r'))→x = p∨x ∈ fp1 ++ fps1:=fun x hx=>by
         rw [e4]
         simp only [Q0k,Q0t] at hx ⊢
         rcases hx with h | h | h | h
         ·exact .inr (.inl h)
         ·exact .inr (.inr (.inl h))
         ·exact .inl h
         ·exact .inr (.inr (.inr h))
        refine ⟨fun x o hx=>?_,.con (g1.less L t) q2,?_,fun x hx=>?_,G'.tb.sub fun a h=>by
         have z:a ≠ p:=fun z=>h (by rw [z]; exact s2p)
         rw [s2n z] at h; exact h⟩
        ·have z:x ≠ p:=fun z=>by rw [z,s2p] at hx; cases hx
         rw [s2n z] at hx; exact G'.ex x o hx
        ·have pm:(fp1 ++ (l' ++ ([p] ++ r'))).Perm (p :: (fp1 ++ fps1)):=by
          rw [e4]
          have a1:(l' ++ ([p] ++ r')).Perm (p :: (l' ++ r')):=Q2C
          exact (List.Perm.append_left fp1 a1).trans Q2C
         exact pm.nodup_iff.mpr (Q0P.mpr ⟨pn',nd'⟩)
        ·rcases memf x hx with rfl | h
         ·exact s2p
         ·have z:x ≠ p:=fun z=>pn' (z ▸ h)
          rw [s2n z]; exact G'.out x h
       refine q u S2 H' _ ⟨ss2,fun x o hx n=>?_,st.dom,fun x hx=>?_,fun x hx=>?_⟩ ?_ G2
       ·intro _
        exact st.fr x o hx fun z=>n (sub x z)
       ·simp only [Q0k,Q0t] at hx
        have old:x ∈ fp1 ++ fps1→x ∈ fps∨H x = none:=fun h=>(st.nf x h).imp (sub x) id
        rcases hx with h | h | h | h
        ·exact old (Q0q _ h)
        ·exact old (Q0l _ (by rw [e4]; exact Q0q _ h))
        ·exact .inl (h ▸ pin)
        ·exact old (Q0l _ (by rw [e4]; exact Q0l _ h))
       ·have z:x ≠ p:=fun z=>hx (by rw [z]; exact s2p)
        rw [s2n z] at hx
        rcases st.ns x hx with h | h | h
        ·rw [upd_ne z] at h; exact .inl h
        ·exact .inr (.inl (sub x h))
        ·exact .inr (.inr h)
       ·refine ⟨by have:=pn.1; rw [Q1m] at this ⊢; exact this,fun i s hi hp=>?_⟩
        by_cases z:i = j
        ·subst z
         rw [hj] at hi
         cases hi
         exact ⟨_,Q0M (by have:=(Q0r.mp hj1).1; exact this),hp⟩
        ·obtain ⟨s',e5,e6⟩:=pn.2 i s (by rw [Q0I fun w=>z w.symm]; exact hi) hp
         exact ⟨s',by rw [Q0I fun w=>z w.symm]; exact e5,e6⟩
   ·cases e
  ·cases e
 ·cases e
theorem x2e {X:Cx} {e:Expr} {f:EM Cell} (j:Nat) (h:XC X e f):XC X e (x0R j f):=h.imp fun _ _ _=>x2d
theorem z3m {j:Nat} {f:EM Cell} {ρ:Rho} {P:Cell→Rho→Prop}:Ev (x0R j f) ρ P ↔ ∃ b ds,ρ[j]? = some (some ⟨b,.atm (.ol ds)⟩)∧Ev f (ρ.set j (some ⟨b,.atm (.im (.lst ds))⟩)) fun k ρ'=>k.tuy = true∧x2c j ρ ρ'∧ρ'[j]? = some (some ⟨b,.atm (.im (.lst ds))⟩)∧P k (ρ'.set j (some ⟨b,.atm (.ol ds)⟩)):=by
 unfold Ev x0R
 constructor
 ·rintro ⟨k,ρ',e,h⟩
  split at e
  ·rename_i b ds hj
   split at e
   ·rename_i k1 ρ1 hf
    split at e
    ·rename_i hc
     cases e
     exact ⟨b,ds,hj,k,ρ1,hf,hc.1,hc.2.1,hc.2.2,h⟩
    ·cases e
   ·cases e
  ·cases e
 ·rintro ⟨b,ds,hj,k,ρ1,hf,h1,h2,h3,h⟩
  refine ⟨k,ρ1.set j (some ⟨b,.atm (.ol ds)⟩),?_,h⟩
  rw [hj]
  dsimp only
  rw [hf]
  exact if_pos ⟨h1,h2,h3⟩
theorem q8X {s s':Option Slot} {ρ ρ':Rho}:x2c 0 (s :: ρ) (s' :: ρ') ↔ z2g ρ ρ':=Iff.rfl
theorem q8Y {j:Nat} {s s':Option Slot} {ρ ρ':Rho}:x2c (j + 1) (s :: ρ) (s' :: ρ') ↔ z4I s s'∧x2c j ρ ρ':=Iff.rfl
theorem q8Z:z2g [] [] ↔ True:=Iff.rfl
theorem q7c {s s':Option Slot} {ρ ρ':Rho}:z2g (s :: ρ) (s' :: ρ') ↔ z4I s s'∧z2g ρ ρ':=Iff.rfl
theorem z7S {s:Option Slot}:z4I s none ↔ True:=Iff.rfl
theorem q5i {b b':Bool} {d:Dat}:z4I (some ⟨b,.atm (.im d)⟩) (some ⟨b',.atm (.im d)⟩) ↔ True:=⟨fun _=>trivial,fun _=>.inr ⟨d,b,rfl,rfl⟩⟩
theorem z0W {d:Dat}:z4I (imS d) (imS d) ↔ True:=q5i
theorem z4J {s:Option Slot} (h:Tmp s):z4I s s:=by
 cases h with
 | non=>trivial
 | im=>exact .inr ⟨_,_,rfl,rfl⟩
end DL

set_option maxHeartbeats 4000000
namespace DLZ
variable [DL.Tbls]
open PySem PySem.Spec L2 DL PyProof.Rows
section
variable {prog:Program} {w:World} {A:Around} {E:Value→Shared→Prop} {s:Shared}
end
section
variable {prog:Program} {w:World}
end
def ZStT (z TI TO i1 i2 l1 l2 S:Addr) (xs ys:Array Value) (k:Nat) (h:Heap):Prop:=
 IsPair h TI (.ref i1) (.ref i2)∧h.IsTupleIter i1 l1 k∧h.IsTupleIter i2 l2 k∧h.IsTuple l1 xs∧h.IsTuple l2 ys ∧
 ((IsZip h z TI TO .none∧∃ a b,IsPair h TO a b)∨∃ T f oT,IsZipHeld h z TI TO T f∧h.get? T = some oT∧T ≠ z∧T ≠ i1∧T ≠ i2∧T ≠ S)
theorem ZStT.keep {z TI TO i1 i2 l1 l2 S:Addr} {xs ys:Array Value} {k:Nat} {h h':Heap} (st:ZStT z TI TO i1 i2 l1 l2 S xs ys k h) (N:ApS z TI TO i1 i2 l1 l2 S)
  (hk:∀ b o,b ≠ S→h.get? b = some o→h'.get? b = some o):ZStT z TI TO i1 i2 l1 l2 S xs ys k h':=by
 obtain ⟨hTI,h1,h2,hl1,hl2,hz⟩:=st
 refine ⟨hk _ _ N.TI hTI,h1.at fun o e=>hk _ o N.i1 e,h2.at fun o e=>hk _ o N.i2 e,hl1.at fun o e=>hk _ o N.l1 e,hl2.at fun o e=>hk _ o N.l2 e,?_⟩
 rcases hz with ⟨hz,a,b,hTO⟩ | ⟨T,f,oT,hz,hT,r1,r2,r3,r4⟩
 ·exact .inl ⟨hk _ _ N.z hz,a,b,hk _ _ N.TO hTO⟩
 ·exact .inr ⟨T,f,oT,hk _ _ N.z hz,hk _ _ r4 hT,r1,r2,r3,r4⟩
section
variable {prog:Program} {w:World} {A:Around} {E:Value→Shared→Prop} {s:Shared} {z TI TO i1 i2 l1 l2 S:Addr} {xs ys:Array Value} {k:Nat} {x y:Value}
end
section
variable {prog:Program} {w:World} {A:Around} {s:Shared} {R:Result→Shared→Prop} {z TI TO i1 i2 l1 l2 S lo:Addr} {xs ys:Array Value}
end
section
variable {prog:Program} {w:World} {A:Around} {E:Value→Shared→Prop} {s:Shared} {z TI TO i1 i2 l1 l2:Addr} {xs ys:Array Value}
end
section
variable {X:Cx} {e e2:Expr} {ta:TA}
end

section
variable {X:Cx} {e e2:Expr} {ta:TA}
end
end DLZ
namespace DL
variable [DL.Tbls]
open PySem PySem.Spec L2 PyProof.Rows
section
variable {X:Cx} {e e2:Expr} {t:EM (List Dat)}
end
end DL

set_option maxHeartbeats 4000000
namespace DL
variable [DL.Tbls]
open PySem PySem.Spec L2
end DL

set_option maxHeartbeats 4000000
namespace DL
variable [DL.Tbls]
open PySem PySem.Spec L2
section
variable {X:Cx} {elt tge iter:Expr} {ifs:List Expr} {scope:Scope} {pos apos cpos:Pos} {g:EM Dat} {tg:Tg} {t:EM Bool} {e:EM Dat}
end
end DL

set_option maxHeartbeats 4000000
namespace DL
variable [DL.Tbls]
open PySem PySem.Spec L2
section
variable {X:Cx} {pins:List (Addr × Obj)} {σ:L2.St} {S H:Hp} {s:Shared}
end
section
variable {X:Cx} {o e:Expr} {td ty:TE} {apos cpos:Pos}
end
section
variable {X:Cx} {b e:Expr} {pos:Pos} {g f:EM Dat} {j:Nat}
end
end DL

set_option maxHeartbeats 4000000
namespace DL
variable [DL.Tbls]
open PySem PySem.Spec L2
section
variable {X:Cx} {b e:Expr} {pos npos apos:Pos} {g f:EM Dat} {j:Nat}
end
end DL

set_option maxHeartbeats 4000000
namespace DL
variable [DL.Tbls]
open PySem PySem.Spec L2
open PySem.W (EachIs AllAlike Sortable dataLe)
section
variable {prog:Program} {w:World} {A:Around} {E:Value→Shared→Prop} {s:Shared} {T:String} {r d:Addr} {n:Nat} {P:Nat→Value→Prop} {OK:Heap→Prop}
end
end DL

set_option maxHeartbeats 4000000
namespace DL
variable [DL.Tbls]
open PySem PySem.Spec L2
section
variable {X:Cx} {b e:Expr} {pos npos apos:Pos} {g f:EM Dat} {j:Nat}
end
end DL

set_option maxHeartbeats 4000000
namespace DL
variable [DL.Tbls]
open PySem PySem.Spec L2
section
variable {c:Ct} {D:Addr}
end
section
variable {X:Cx} {elt tge iter tge1 iter1:Expr} {ifs ifs1:List Expr} {scope:Scope} {pos:Pos} {src src1:EM (List Dat)} {tg tg1:Tg} {t t1:EM Bool} {e:EM Dat}
end
end DL

set_option maxHeartbeats 4000000
namespace DL
variable [DL.Tbls]
open PySem PySem.Spec L2 PyProof.Rows
section
variable {X:Cx} {e:Expr} {pos p apos cpos:Pos} {f:EM Dat}
end
end DL

set_option maxHeartbeats 4000000
namespace DL
variable [DL.Tbls]
open PySem PySem.Spec L2
end DL

set_option maxHeartbeats 4000000
namespace DLS
open PySem PySem.W PySem.Calls PyProof.Rows PySem.SeqAt
section
variable {prog:Program} {w:World} {A:Around} {E:Value→Shared→Prop} {s:Shared}
theorem z0X {Q:Value→Shared→Prop} {l b:Addr} {items items2:Array Value} {e r:Nat→Bool} (hl:s.heap.IsTuple l items) (hb:s.heap.IsTuple b items2)
  (he:∀ j (h1:j < items.size) (h2:j < items2.size),EqAt A.in1 s items[j] items2[j] (e j)) (hr:∀ j (h1:j < items.size) (h2:j < items2.size),e j = false→RcLt A.in1 s items[j] items2[j] (r j))
  (h:Q (.bool (firstLt e r (decide (items.size < items2.size)) (Q1e (min items.size items2.size)))) s):wpAny (model prog w) A (call (.builtin "tuple.__lt__") [.ref l,.ref b]) Q E s:=by
 obtain ⟨⟨cls,dd,data,sl⟩,ho,hc,n,hd⟩:=id hl
 obtain ⟨⟨cls2,dd2,data2,sl2⟩,ho2,hc2,n2,hd2⟩:=id hb
 simp only at hc hd hc2 hd2
 subst hc hd hc2 hd2
 exact call_meets F.slot_tuple_lt ⟨_,ho,rfl⟩ F.entry_tuple_lt (F.args_tuple_lt_2 _ _) (tuple_ltAt l b items items2 n n2 dd dd2 sl sl2 e r) ⟨ho,ho2,he,hr,h⟩
theorem z7T {f:Bool} {xs ys:List PyData} {a b:Value} {as bs:List Addr} {Q:Bool→Shared→Prop} (ra:Reads s.heap a (.tuple xs) as) (rb:Reads s.heap b (.tuple ys) bs) (h:alike (.tuple xs) (.tuple ys) = true)
  (hu:A.units + min (PyData.tuple xs).depth (PyData.tuple ys).depth < cLine) (hq:Q (dataLt (.tuple xs) (.tuple ys)) s):wpAny (model prog w) A (oneLt' f a b) Q E s:=by
 cases f with
 | false=>exact oneLt_alike (fun e=>by cases e) ra rb h (fun e=>by cases e) hu hq
 | true=>
  have hal:alikeAll xs ys = true:=by simpa [alike] using h
  cases ra with
  | @tuple l o vs n _ as₁ h1 h2 h3 h4=>
   cases rb with
   | @tuple l' o' vs' n' _ bs₁ k1 k2 k3 k4=>
    have n1:vs.size = xs.length:=by simpa using ReadsAll.length _ _ _ h4
    have n2:vs'.size = ys.length:=by simpa using ReadsAll.length _ _ _ k4
    rw [dataLt_tuple,← firstLt_toks xs ys hal,← n1,← n2] at hq
    rw [oneLt'_eq]
    simp only [if_true]
    refine jbb (wpAny_cRoomFor (room_here hu) ?_)
    refine jbb (wpAny_callSpecialIfBound?_slot (T:="tuple") ⟨_,h1,h2⟩ F.slot_tuple_lt (z0X (e:=pairEq xs ys) (r:=fun j=>dataLt (xs.getD j .none) (ys.getD j .none)) ⟨_,h1,h2,_,h3⟩ ⟨_,k1,k2,_,k3⟩ (fun j j1 j2=>?_) (fun j j1 j2 hj=>?_) ?_))
    ·have:=eqAt_alikeAll xs ys A.in1 s vs.toList vs'.toList _ _ h4 k4 hal (room_in hu) j (by simpa using j1) (by simpa using j2)
     simpa using this
    ·have:=rcLt_alikeAll xs ys A.in1 s vs.toList vs'.toList _ _ h4 k4 hal (room_in hu) j (by simpa using j1) (by simpa using j2) hj
     simpa using this
    ·exact wpAny_truthy_bool hq
theorem q7d {M:Model}:∀ (vs:List Value) (ds:List (List PyData)) {Q:List (Option Value)→Shared→Prop},EachIs (fun v d=>∃ as,Reads s.heap v (.tuple d) as) vs ds →
  (∀ fs:List (Option Value),fs.map (·.isSome) = ds.map (fun d=>!d.isEmpty)→Q fs s)→wpAny M A (vs.mapM firstOfTuple') Q E s
 | _,_,_,.nil,h=>by rw [List.mapM_nil]; exact jbc (h [] rfl)
 | _,_,Q,.cons (a:=v) (b:=d) (as:=vs) (bs:=ds) ⟨as,r⟩ t,h=>by
  cases r with
  | @tuple a o xs n _ _ ho hc hd hr=>
   rw [List.mapM_cons]
   refine jbb ?_
   rw [kas_first_eq]
   refine jbb (Looks.here (show Looks M s.heap (typeOf (.ref a)) o.cls from (Looks.ld ho).andThen .now) ?_)
   rw [hc,if_neg (by first | decide | simp)]
   refine jbb (listItems_at ho hd (jbc ?_))
   refine jbb (q7d vs ds (Q:=fun bs s'=>wpAny M A (pure (xs[0]? :: bs)) Q E s') t fun fs hfs=>jbc (h _ ?_))
   rw [Q0e,Q0e,hfs]
   congr 1
   rw [← Q1E]
   cases q:xs.toList with
   | nil=>rw [q] at hr; cases hr; rfl
   | cons f fr=>rw [q] at hr; cases hr; rfl
theorem z7U {h:Heap}:∀ {vs:List Value} {ds:List PyData},EachIs (fun v d=>∃ as,Reads h v d as) vs ds→(∀ d ∈ ds,∃ xs,d = .tuple xs)→∃ ls:List (List PyData),ds = ls.map .tuple∧EachIs (fun v d=>∃ as,Reads h v (.tuple d) as) vs ls
 | _,_,.nil,_=>⟨[],rfl,.nil⟩
 | _,_,.cons (b:=d) r t,k=>by
  obtain ⟨ls,e,t2⟩:=z7U t fun d hd=>k d (Q0h _ hd)
  obtain ⟨xs,rfl⟩:=k d Q0g
  exact ⟨xs :: ls,by rw [e]; rfl,.cons r t2⟩
def z2h (ds:List PyData):Prop:=Sortable ds∨∀ d ∈ ds,∃ xs,d = .tuple xs
theorem x0S {vs:List Value} {ds:List PyData} (e:EachIs (fun v d=>∃ as,Reads s.heap v d as) vs ds) (hal:AllAlike ds) (hk:z2h ds) (hu:∀ d,d ∈ ds→A.units + d.depth < cLine):SortsAt prog w A s (dataKind s.heap ds) vs:=by
 rcases hk with hk | ht
 ·exact SortsAt.data e hal hk hu
 by_cases he:∀ d ∈ ds,d ≠ .tuple []
 ·refine SortsAt.data e hal (.inl fun d hd=>?_) hu
  obtain ⟨xs,rfl⟩:=ht d hd
  cases xs with
  | nil=>exact absurd rfl (he _ hd)
  | cons x r=>exact ⟨x,r,rfl⟩
 have room:∀ {d d':PyData},d ∈ ds→A.units + min d.depth d'.depth < cLine:=fun {d d'} hd=>Q1M (Nat.add_le_add_left (Q3T _ _) _) (hu d hd)
 have cmp:∀ f:Bool,∀ (E:Value→Shared→Prop) {x y:Value} {a b:List (Int ⊕ List Nat)} {Q:Bool→Shared→Prop},(dataKind s.heap ds).keyOf x = some a→(dataKind s.heap ds).keyOf y = some b→Q ((dataKind s.heap ds).blt a b) s→wpAny (model prog w) A (oneLt' f x y) Q E s:=by
  intro f E x y a b Q ha hb hq
  obtain ⟨d,as,hd,ra,rfl⟩:=dataKind_inv ha
  obtain ⟨d',as',hd',rb,rfl⟩:=dataKind_inv hb
  obtain ⟨x1,rfl⟩:=ht d hd
  obtain ⟨x2,rfl⟩:=ht d' hd'
  exact z7T ra rb (hal _ hd _ hd') (room hd) hq
 obtain ⟨ls,els,eL⟩:=z7U e ht
 refine ⟨fun v hv=>?_,?_⟩
 ·obtain ⟨d,hd,as,r⟩:=e.left v hv
  exact ⟨_,dataKind_some hal hd r⟩
 have hall:∀ fs:List (Option Value),fs.map (·.isSome) = ls.map (fun d=>!d.isEmpty)→fs.toArray.all (fun x=>x.isSome) = false:=by
  intro fs hfs
  rw [List.all_toArray]
  have e1:fs.all (fun x=>x.isSome) = (fs.map (·.isSome)).all id:=by rw [Q3n]; rfl
  rw [e1,hfs,Q3n]
  apply Bool.eq_false_iff.mpr
  intro hc
  refine he fun d hd ed=>?_
  subst ed
  rw [els] at hd
  obtain ⟨l,hl,el⟩:=Q0y.mp hd
  cases el
  have:=Q1h.mp hc _ hl
  cases this
 cases ls with
 | nil=>exact ⟨oneType',fun E x y a b Q ha hb hq=>by rw [keyLt'_oneType]; exact cmp true E ha hb hq,fun h2=>by cases eL; exact absurd h2 (by simp)⟩
 | cons l0 lr=>
  by_cases h0:l0 = []
  ·subst h0
   refine ⟨oneType',fun E x y a b Q ha hb hq=>by rw [keyLt'_oneType]; exact cmp true E ha hb hq,fun h2 E Q hq=>?_⟩
   rw [keyKind'_eq,Q3y,map_eq_pure_bind]
   refine jbb (jbb (q7d _ _ eL fun fs hfs=>jbc ?_))
   rw [if_neg (by rw [hall fs hfs]; simp)]
   have hf0:(fs.toArray[0]?.bind id).isSome = false:=by
    cases fs with
    | nil=>rfl
    | cons f fr=>
     rw [Q0e,Q0e,List.cons.injEq] at hfs
     show (Q4e (some f) id).isSome = false
     exact hfs.1
   rw [if_neg (by rw [hf0]; simp)]
   have hT:∀ v ∈ vs,Looks (model prog w) s.heap (typeOf v) (Value.type "tuple"):=fun v hv=>by
    obtain ⟨d,hd,as,r⟩:=e.left v hv
    obtain ⟨x1,rfl⟩:=ht d hd
    exact looks_reads r
   rw [oneTypeOnly'_eq,Q3y,map_eq_pure_bind]
   refine jbb (jbb (jbb (kas_mapM (r:=Value.type "tuple") _ (fun v hv Q' hq=>(hT v hv).here hq) (jbc ?_))))
   have hl2:vs ≠ []:=fun h=>by rw [h] at h2; exact absurd h2 (by simp)
   obtain ⟨v0,vr,rfl⟩:∃ v0 vr,vs = v0 :: vr:=by
    cases vs with
    | nil=>exact absurd rfl hl2
    | cons a b=>exact ⟨a,b,rfl⟩
   have ha2:((Q2G (fun _=>Value.type "tuple") (v0 :: vr)).toArray.all fun x=>x == Value.type "tuple") = true:=by
    simp only [List.all_toArray,Q3n,Q1h]
    intro _ _
    first | rfl | exact beq_self_eq_true _
   have h00:(Q2G (fun _=>Value.type "tuple") (v0 :: vr)).toArray[0]? = some (Value.type "tuple"):=by simp
   rw [h00]
   simp only [ha2,if_true]
   exact jbc (jbc hq)
  ·refine ⟨general',fun E x y a b Q ha hb hq=>cmp false E ha hb hq,fun h2 E Q hq=>?_⟩
   rw [keyKind'_eq,Q3y,map_eq_pure_bind]
   refine jbb (jbb (q7d _ _ eL fun fs hfs=>jbc ?_))
   rw [if_neg (by rw [hall fs hfs]; simp)]
   have hf0:(fs.toArray[0]?.bind id).isSome = true:=by
    cases fs with
    | nil=>cases hfs
    | cons f fr=>
     rw [Q0e,Q0e,List.cons.injEq] at hfs
     show (Q4e (some f) id).isSome = true
     have:=hfs.1
     cases l0 with
     | nil=>exact absurd rfl h0
     | cons=>exact this
   rw [if_pos hf0]
   exact jbc hq
end
end DLS
namespace DL
variable [DL.Tbls]
open PySem PySem.Spec L2
open PySem.W (EachIs AllAlike Sortable dataLe)
open DLS (z2h x0S)
end DL

namespace DL
variable [DL.Tbls]
open PySem PySem.Spec L2
section
variable {X:Cx} {a b c e:Expr} {f g h:EM Cell} {px py pz pt pt2 pos:Pos}
end
end DL

set_option maxHeartbeats 4000000
namespace DL
variable [DL.Tbls]
open PySem PySem.Spec L2
section
variable {X:Cx}
theorem q9a:CallR X (.type "str") (fun xs H Q=>(∃ i,xs = [V.int i]∧i.natAbs.log2 < 1920∧Q (.str (toString i)) H)∨∃ b,xs = [V.bl b]∧Q (.str (if b then "True" else "False")) H):=by
 intro pins s σ H xs us Q I r h
 rcases h with ⟨i,rfl,hz,q⟩ | ⟨b,rfl,q⟩
 ·exact L2.call_str_int pins s σ H _ us Q I r ⟨i,rfl,hz,q⟩
 ·obtain ⟨u,rfl,r1⟩:=vals1 r
  cases r1
  exact PySem.P.str_of_bool ⟨.str _,H,I.tok _,⟨_,rfl⟩,q⟩
end
def x7d:Dat→Option Dat
 | .int i=>if i.natAbs.log2 < 1920 then some (.str (toString i)) else none
 | .bl b=>some (.str (if b then "True" else "False"))
 | _=>none
theorem z7V {c:Ct}:PureC c (fun xs H Q=>(∃ i,xs = [V.int i]∧i.natAbs.log2 < 1920∧Q (.str (toString i)) H)∨∃ b,xs = [V.bl b]∧Q (.str (if b then "True" else "False")) H) x7d:=by
 intro S H v x z Q ex r e q
 cases r with
 | int i=>
  have e:(if i.natAbs.log2 < 1920 then some (Dat.str (toString i)) else none) = some z:=e
  by_cases hl:i.natAbs.log2 < 1920
  ·rw [if_pos hl] at e
   cases e
   exact .inl ⟨_,rfl,hl,q _ S H (Fre.refl ex) (.str _)⟩
  ·rw [if_neg hl] at e
   cases e
 | bl b=>cases e; exact .inr ⟨_,rfl,q _ S H (Fre.refl ex) (.str _)⟩
 | _=>cases e
def x7e (K:JFr):R2:=fun x y H Q=>∃ d e,Dp K H x d∧Dp K H y e∧Q2H d e = true∧d ≠ .none∧d.depth ≤ 64∧Q (.bl (Q3t d e)) H
theorem x4e {X:Cx} (hu:X.A.units + 64 < cLine):OpR X (compareOp .Lt) (x7e X.K):=by
 intro pins s σ H x y v u Q I rx ry h
 obtain ⟨d,e,hd,he,al,hn,hdp,q⟩:=h
 obtain ⟨as,r1⟩:=Dp.reads I d x v hd rx
 obtain ⟨bs,r2⟩:=Dp.reads I e y u he ry
 exact PySem.W.lt_data r1 r2 al hn (by have:=Q3T d.depth e.depth; omega) ⟨.bl _,H,I,rfl,q⟩
def x7g (x y:Dat):Option Dat:=match q4W x,q4W y with
 | some (.tuple as),some (.tuple bs)=>if Q2H (.tuple as) (.tuple bs) = true∧PyData.depth (.tuple as) ≤ 64 then some (.bl (Q3t (.tuple as) (.tuple bs))) else none
 | _,_=>none
theorem x7h {c:Ct}:q2B c (x7e c.K) x7g:=by
 intro S H v u x y z Q ex rx ry e q
 unfold x7g at e
 split at e
 ·rename_i as bs h1 h2
  split at e
  ·rename_i hs
   cases e
   exact ⟨_,_,q3I ex x v _ rx h1,q3I ex y u _ ry h2,hs.1,(fun z=>nomatch z),hs.2,q _ S H (Fre.refl ex) (.bl _)⟩
  ·cases e
 ·cases e
variable {i j:Int} {b:Bool}
end DL

namespace DL
variable [DL.Tbls]
open PySem PySem.Spec L2
def j0h (nm m:Str):Option (Option Slot)→Prop
 | some (some ⟨_,.oi c fs as⟩)=>c = nm∧((fs.zip as).lookup m).isNone = true
 | _=>False
instance {nm m:Str} {s:Option (Option Slot)}:Decidable (j0h nm m s):=by
 unfold j0h
 split <;> infer_instance
section
variable {ρ:Rho}
end
end DL

namespace DL
variable [DL.Tbls]
open PySem PySem.Spec L2
section
end
end DL

set_option maxHeartbeats 4000000
namespace DLZ
variable [DL.Tbls]
open PySem PySem.Spec L2 DL PyProof.Rows
section
variable {prog:Program} {w:World} {A:Around} {E:Value→Shared→Prop} {s:Shared}
end
section
variable {prog:Program} {w:World}
end
section
variable {X:Cx} {e e2:Expr} {ta:TA}
end
end DLZ
namespace DL
variable [DL.Tbls]
open PySem PySem.Spec L2 PyProof.Rows
section
variable {X:Cx} {e e2:Expr} {t:EM (List Dat)}
end
end DL

namespace DZM
variable [DL.Tbls]
open PySem PySem.Spec PyProof.Rows
open PySem.Sem (wp)
section
variable {prog:Program} {w:World} {A:Around} {E:Value→Shared→Prop} {s:Shared}
end
section
variable {prog:Program} {w:World} {A:Around} {E:Value→Shared→Prop} {s:Shared}
end
end DZM
namespace DZM
variable [DL.Tbls]
open PySem PySem.Spec L2 DL PyProof.Rows
end DZM
namespace DL
variable [DL.Tbls]
open PySem PySem.Spec L2 PyProof.Rows DZM
end DL

set_option maxHeartbeats 4000000
namespace DL
variable [DL.Tbls]
open PySem PySem.Spec L2
section
variable {X:Cx} {pos:Pos}
end
end DL

set_option maxHeartbeats 4000000
namespace DL
variable [DL.Tbls]
open PySem PySem.Spec L2

def j0i (c:Ct) (m n:Nat) (F:Cell→Cell→List Dat→Option (Cell × Cell × Cell)):SpQ:=fun vs H Q=>∃ v0 v1 ws1 ws2,vs = v0 :: (ws1 ++ v1 :: ws2)∧ws1.length = m∧ws2.length = n ∧
 ∃ S o o1 fp ds1 ds2 r o' o1',Good c S H [some v0,some v1] [some ⟨true,o⟩,some ⟨true,o1⟩] fp∧Reps c S ws1 ds1∧Reps c S ws2 ds2∧F o o1 (ds1 ++ ds2) = some (r,o',o1') ∧
 ∀ v S' H' fp',Stp S H fp S' H' fp'→Good c S' H' [some v,some v0,some v1] [some ⟨false,r⟩,some ⟨true,o'⟩,some ⟨true,o1'⟩] fp'→Q v H'
section
variable {c:Ct} {S H:Hp}
end
structure DefOO (c:Ct) (base:Heap) (k:Nat) (x:Str) (m n:Nat) (F:Cell→Cell→List Dat→Option (Cell × Cell × Cell)):Prop where
 cal:Cal c base k x [] (fun vs _ H Q=>j0i c m n F vs H Q)
theorem DefOO.mk0 {c:Ct} {base:Heap} {k:Nat} {f:Addr} {fd:FuncData} {ps:List Str} {x:Str} {m n:Nat} {F:Cell→Cell→List Dat→Option (Cell × Cell × Cell)} (g:FG c base k f fd ps (j0i c m n F)) (hb:Binds c.K fd ps []) (hm:c.mg x = some (.ref f)) (hk:Q1J c.K (.ref f) = true):DefOO c base k x m n F:=
 ⟨f,hm,hk,g.cl0 hb⟩

section
variable {c:Ct} {S H:Hp} {σ:L2.St} {ρ:Rho} {fps:List Addr} {Q:VK}
end
section
variable {X:Cx} {k l:Nat} {x y z:Str} {p pos py pz:Pos} {ea eb ed:Expr} {fa fb fd:EM Dat}
end
end DL

set_option maxHeartbeats 4000000
namespace DL
variable [DL.Tbls]
open PySem PySem.Spec L2
section
variable {X:Cx} {elts:List Expr} {kk:Nat} {tpos:Pos} {tg:Tg} {s:SD} {body:List Stmt} {pos p cpos py:Pos} {y:Str}
end
section
variable {X:Cx}
variable {a e:Expr} {f g:EM Dat} {p cpos pos:Pos}
end
end DL

set_option maxHeartbeats 4000000
namespace PySem.SeqAt
open AutoSeq1 (wpAny_loadPart')
open MeetsSeq MeetsSeq2 MeetsSeq3 SeqRoads2
section
variable {prog:Program} {w:World}
variable {A:Around} {E:Value→Shared→Prop} {s:Shared}
end
end PySem.SeqAt
namespace DL
variable [DL.Tbls]
open PySem PySem.Spec L2
section
variable {X:Cx}
end
end DL

set_option maxHeartbeats 4000000
namespace DL
variable [DL.Tbls]
open PySem PySem.Spec L2
section
variable {X:Cx} {pos:Pos} {keys:List (Option Expr)} {values:List Expr} {fs:List (Str × EM Cell)}
end
section
variable {X:Cx} {pos p1 p2:Pos} {j:Nat}
end
section
variable {X:Cx} {e e':Expr} {pos p1 p2 p3 q1 q2 q3 pt pt2:Pos} {f g:EM Dat} {j:Nat}
end
section
open LiI
variable {X:Cx} {e:Expr} {te:TE} {p aP cP pos:Pos}
end
end DL

set_option maxHeartbeats 4000000
namespace DL
variable [DL.Tbls]
open PySem PySem.Spec L2 DST
section
variable {X:Cx}
variable {e:Expr} {f:EM Dat} {p pos p2 pos2:Pos}
theorem j0w (j:Nat) (f:EM Cell):∀ σ H Q,tC (ct X) (eIm (q1d (x0R j f))) σ H Q→tC (ct X) f σ H Q:=fun _ _ _ h=>x2d (z6h (x2K h))
end
end DL

set_option maxHeartbeats 4000000
namespace DL
variable [DL.Tbls]
open PySem PySem.Spec L2
section
variable {ρ:Rho}
end
end DL

set_option maxHeartbeats 4000000
namespace DZU
open PySem PySem.Spec PyProof.Rows L2 RZ
end DZU
namespace DL
variable [DL.Tbls]
open PySem PySem.Spec L2 PyProof.Rows
end DL

set_option maxHeartbeats 4000000
namespace DZL
variable [DL.Tbls]
open PySem PySem.Spec L2 DL DLZ PyProof.Rows
section
variable {prog:Program} {w:World} {A:Around} {E:Value→Shared→Prop} {s:Shared}
end
def ZStL (z TI TO i1 i2 l1 l2 S:Addr) (xs ys:Array Value) (k:Nat) (h:Heap):Prop:=
 IsPair h TI (.ref i1) (.ref i2)∧h.IsListIter i1 l1 k∧h.IsTupleIter i2 l2 k∧h.IsList l1 xs∧h.IsTuple l2 ys ∧
 ((IsZip h z TI TO .none∧∃ a b,IsPair h TO a b)∨∃ T f oT,IsZipHeld h z TI TO T f∧h.get? T = some oT∧T ≠ z∧T ≠ i1∧T ≠ i2∧T ≠ S)
theorem ZStL.keep {z TI TO i1 i2 l1 l2 S:Addr} {xs ys:Array Value} {k:Nat} {h h':Heap} (st:ZStL z TI TO i1 i2 l1 l2 S xs ys k h) (N:ApS z TI TO i1 i2 l1 l2 S)
  (hk:∀ b o,b ≠ S→h.get? b = some o→h'.get? b = some o):ZStL z TI TO i1 i2 l1 l2 S xs ys k h':=by
 obtain ⟨hTI,h1,h2,hl1,hl2,hz⟩:=st
 refine ⟨hk _ _ N.TI hTI,h1.at fun o e=>hk _ o N.i1 e,h2.at fun o e=>hk _ o N.i2 e,hl1.at fun o e=>hk _ o N.l1 e,hl2.at fun o e=>hk _ o N.l2 e,?_⟩
 rcases hz with ⟨hz,a,b,hTO⟩ | ⟨T,f,oT,hz,hT,r1,r2,r3,r4⟩
 ·exact .inl ⟨hk _ _ N.z hz,a,b,hk _ _ N.TO hTO⟩
 ·exact .inr ⟨T,f,oT,hk _ _ N.z hz,hk _ _ r4 hT,r1,r2,r3,r4⟩
section
variable {prog:Program} {w:World} {A:Around} {E:Value→Shared→Prop} {s:Shared} {z TI TO i1 i2 l1 l2 S:Addr} {xs ys:Array Value} {k:Nat} {x y:Value}
end
section
variable {prog:Program} {w:World} {A:Around} {s:Shared} {R:Result→Shared→Prop} {z TI TO i1 i2 l1 l2 S lo:Addr} {xs ys:Array Value}
end
section
variable {prog:Program} {w:World} {A:Around} {E:Value→Shared→Prop} {s:Shared} {z TI TO i1 i2 l1 l2:Addr} {xs ys:Array Value}
end
section
variable {X:Cx} {e e2:Expr} {ta:TA}
end

end DZL
namespace DL
variable [DL.Tbls]
open PySem PySem.Spec L2 PyProof.Rows
section
variable {X:Cx} {e e2:Expr} {t:EM (List Dat)}
end
end DL

set_option maxHeartbeats 4000000
namespace DL
variable [DL.Tbls]
open PySem PySem.Spec L2
section
variable {ρ:Rho}
end
end DL

set_option maxHeartbeats 4000000
namespace DL
variable [DL.Tbls]
open PySem PySem.Spec L2
section
variable {ρ:Rho}
end
end DL

namespace DLE
variable [DL.Tbls]
open PySem PySem.Spec PyProof.Rows L2
theorem x9o {l:PySem.W.OpenLaw} {n k:Nat} {q:Program} {loose:List Str} {XP:(Str→Option Value)→Heap→Prop} {YP:World→Heap→Prop} {d:DefRec} {x:Str} {Fw:List DL.Dat→Option DL.Cell}
  (hn:l.most = some n) (hn2:n ≤ sizeLine) (hdf:d.params.defaults = []) (hr:Room k callerA) (hgd:callerA.guards = some []) (hq:importsNone q = true)
  (hT:DL.Tbls.T = [])
  (F:∀ (w:World) (mg:Str→Option Value) (fa:Addr) (h:Heap),YP w h→h.Ns jbd mg→mg d.name = some (.ref fa) →
   ∃ K:JFr,K.In h∧∃ fd:FuncData,(∀ (s:Shared) (u:Value),BindsTo s fd ⟨[u],[]⟩ [(x,u)])∧∀ base:Heap,K.In base→base.Ns jbd mg→DL.x1L base→DL.FG ⟨l.prog,w,K,mg⟩ base k fa fd [x] (DL.spP ⟨l.prog,w,K,mg⟩ 1 Fw))
  (hF:∀ ns:List Int,ns.length ≤ n→Fw [.fro (ns.map .int)] = some (.atm (.im (.bl true)))) :
  PySem.W.WalkO q loose XP YP l.row.toRowW d [] (fun f vs=>PySem.call f vs):=by
 refine Att.attach_call hn hdf fun w s₀ s₁ mg mb fa o pm cd doc a vs ns G Y ho hd hcd hmg hobj hints hlen hg=>?_
 obtain ⟨K,KX,fd,hb,hFG⟩:=F w mg fa _ Y G.T.g hmg
 refine x8X KX G.T.g G.T.b G.T.builtins G.T.nolimit hg hobj hints (Q0S hlen hn2) hr hgd (let z:=G.T.seer hq; let ⟨mm,h1,_⟩:=z.mods; ⟨mm,h1⟩) hFG hb fun H hS=>?_
 refine ⟨rfl,H,_,_,Same.refl H,(fun p hp=>by rw [hT] at hp; cases hp),.cons (.fro hS (DL.Reps.of_ints ns)) .nil,hF ns hlen,fun v S' H' fp' st G'=>?_⟩
 obtain ⟨fp,r,_,h1,_⟩:=G'.rep.head
 cases h1 with
 | atm h1=>
  cases h1 with
  | im h1=>cases h1; rfl
end DLE

namespace DL
variable [DL.Tbls]
open PySem PySem.Spec PySem.W L2 PyProof.Rows
structure Bo where
 (oc doc pm cdv ct:Value) (od an:Option Addr) (osl:Array (Option Value))
abbrev fnS (nm q:Str) (s:Stmt) (dV kV:Value) (b:Bo):FuncData:=Q1T nm q (Q1C s) (Q1q s) (Q0B s) dV kV b.doc b.pm b.an b.cdv b.ct
structure At (K:JFr) (nm q:Str) (s:Stmt) (f:Addr) (dV kV:Value) (b:Bo):Prop where
 lk:K.lookup f = some ⟨b.oc,b.od,.func (fnS nm q s dV kV b),b.osl⟩
 cd:Q2l K b.cdv q = true
def Hv (K:JFr) (g nm:Str) (s:Stmt):Prop:=∃ A kV b,nsIn K jbd g = some (some (.ref A))∧At K nm nm s A .none kV b∧keepIn K (.ref A) = true
def Hm (K:JFr) (C:Addr) (nm q:Str) (s:Stmt):Prop:=∃ A kV b,findIn K (.ref C) nm = some (some (.ref A))∧isFn K (.ref A) = true∧At K nm q s A .none kV b∧keepIn K (.ref A) = true
theorem _root_.PySem.L2.FnScope.bo {N P:List Str} {sc scope:Scope} {own:List (Str × Nat)} (S:FnScope N P sc) (h:blkC N sc scope own = true):BlkOk N sc scope own:=blkOk_by h
def fsC (N P:List Str) (sc:Scope):Bool:=(match sc.kind with | .function=>true | _=>false) && !sc.isCoroutine && !sc.isGenerator && decide N.Nodup && decide (N.take P.length = P) && (P.all fun x=>decide (sc.names.lookup x = some .local) || decide (sc.names.lookup x = some .cell)) && sc.names.all fun y=>decide (y.2 ≠ .free)
theorem fsc {N P:List Str} {sc:Scope} (h:fsC N P sc = true):FnScope N P sc:=by
 unfold fsC at h
 simp only [Q1l,decide_eq_true_eq,Q1h,Q0K,Bool.or_eq_true] at h
 obtain ⟨⟨⟨⟨⟨⟨h1,h2⟩,h3⟩,h4⟩,h5⟩,h6⟩,h7⟩:=h
 refine ⟨?_,h2,h3,h4,h5,h6,h7⟩
 split at h1
 ·assumption
 ·cases h1
section
variable {c:Ct} {base:Heap} {nm q:Str} {s:Stmt} {f:Addr} {dV kV:Value} {b:Bo} {N ps:List Str} {m n k:Nat}
abbrev x9p (s:Stmt) (q:Str) (f:Addr) (b:Bo) (A:Around) (sh:Shared):Around:=A.deeper (envOfC q (Q0B s) sh.heap.objs.size f b.cdv)
abbrev CxF (c:Ct) (base:Heap) (s:Stmt) (q:Str) (f:Addr) (b:Bo) (N:List Str) (A:Around) (outer:List Env) (sh:Shared) (H:Hp):Cx:=(cxOf CX0 c.P c.w c.K c.mg base N q (Q0B s) f b.cdv A outer sh H E0).nox
theorem fgP {w:SD} (z:At c.K nm q s f dV kV b) (S:FnScope N ps (Q0B s)) (nl:Nat) (hb:∀ A outer sh H,Rm (x9p s q f b A sh) k→XSs (CxF c base s q f b N A outer sh H) (Q1q s) w) (hl:N.length = n + nl:=by rfl) (hp:ps.length = n:=by rfl) :
  FG c base (k + 1) f (fnS nm q s dV kV b) ps (spP c n (fnP n nl w)):=
 x5I z.lk z.cd S (fun vs H Q h=>h.1.trans hp.symm) fun A outer sh H vs Q hr hg hsp=>⟨_,x1B (s:=w) (hb A outer sh H ⟨hr,hg⟩) nl hl (x1D hsp)⟩
theorem fgO {w:SD} (z:At c.K nm q s f dV kV b) (S:FnScope N ps (Q0B s)) (nl:Nat) (hb:∀ A outer sh H,Rm (x9p s q f b A sh) k→XSs (CxF c base s q f b N A outer sh H) (Q1q s) w) (hl:N.length = n + 1 + nl:=by rfl) (hp:ps.length = n + 1:=by rfl) :
  FG c base (k + 1) f (fnS nm q s dV kV b) ps (spO c n (fnO n nl w)):=
 x5I z.lk z.cd S (fun vs H Q h=>(z5q h).trans hp.symm) fun A outer sh H vs Q hr hg hsp=>⟨_,x5L (s:=w) (hb A outer sh H ⟨hr,hg⟩) nl hl (x5Q hsp)⟩
end
section
variable {K:JFr} {fd:FuncData} {ps:List Str}
theorem bn1 (h:∀ a,bindArgs fd ⟨[a],[]⟩ = pure (ps.zip [a])) (hl:ps.length = 1:=by rfl):Binds K fd ps []:=.all fun us e=>match us,e.trans hl with | [_],_=>h _
theorem bn2 (h:∀ a b,bindArgs fd ⟨[a,b],[]⟩ = pure (ps.zip [a,b])) (hl:ps.length = 2:=by rfl):Binds K fd ps []:=.all fun us e=>match us,e.trans hl with | [_,_],_=>h _ _
theorem bn3 (h:∀ a b c,bindArgs fd ⟨[a,b,c],[]⟩ = pure (ps.zip [a,b,c])) (hl:ps.length = 3:=by rfl):Binds K fd ps []:=.all fun us e=>match us,e.trans hl with | [_,_,_],_=>h _ _ _
theorem bn4 (h:∀ a b c d,bindArgs fd ⟨[a,b,c,d],[]⟩ = pure (ps.zip [a,b,c,d])) (hl:ps.length = 4:=by rfl):Binds K fd ps []:=.all fun us e=>match us,e.trans hl with | [_,_,_,_],_=>h _ _ _ _
end
section
variable {P:Program} {w:World} {K:JFr} {h base:Heap} {mg:Str→Option Value} {g nm:Str} {s:Stmt} {ps:List Str} {k m n:Nat}
theorem Hv.dp {F:List Dat→Option Cell} (z:Hv K g nm s) (X:K.In h) (G:h.Ns jbd mg) (ok:∀ {f kV b},At K nm nm s f .none kV b→FG ⟨P,w,K,mg⟩ base k f (fnS nm nm s .none kV b) ps (spP ⟨P,w,K,mg⟩ n F)) (hb:∀ {kV b},Binds K (fnS nm nm s .none kV b) ps []) (hn:∀ ds,(F ds).isSome = true→ds.length = n):DefP ⟨P,w,K,mg⟩ base k g [] F:=by
 obtain ⟨A,kV,b,a,l,kp⟩:=z
 exact .mk0 (ok l) hb hn (mg_of X G a) kp
theorem Hv.do_ {F:Cell→List Dat→Option (Cell × Cell)} (z:Hv K g nm s) (X:K.In h) (G:h.Ns jbd mg) (ok:∀ {f kV b},At K nm nm s f .none kV b→FG ⟨P,w,K,mg⟩ base k f (fnS nm nm s .none kV b) ps (spO ⟨P,w,K,mg⟩ n F)) (hb:∀ {kV b},Binds K (fnS nm nm s .none kV b) ps []) (hn:∀ o ds,(F o ds).isSome = true→ds.length = n):DefO ⟨P,w,K,mg⟩ base k g F:=by
 obtain ⟨A,kV,b,a,l,kp⟩:=z
 exact .mk0 (ok l) hb hn (mg_of X G a) kp
theorem Hv.no (z:Hv K g nm s) (X:K.In h) (G:h.Ns jbd mg):DefO ⟨P,w,K,mg⟩ base k g (fun _ _=>none):=by
 obtain ⟨A,kV,b,a,l,kp⟩:=z
 exact z6M (mg_of X G a) kp
end
end DL

namespace DL
variable [DL.Tbls]
open PySem PySem.Spec PySem.W L2 PyProof.Rows
section
variable (c:Ct) (base:Heap) (k:Nat) (nm q:Str) (s:Stmt) (ps:List Str)
abbrev OkP (n:Nat) (F:List Dat→Option Cell):Prop:=∀ {f:Addr} {dV kV:Value} {b:Bo},At c.K nm q s f dV kV b→FG c base k f (fnS nm q s dV kV b) ps (spP c n F)
abbrev OkO (n:Nat) (F:Cell→List Dat→Option (Cell × Cell)):Prop:=∀ {f:Addr} {dV kV:Value} {b:Bo},At c.K nm q s f dV kV b→FG c base k f (fnS nm q s dV kV b) ps (spO c n F)
abbrev OkZ (F:List Dat→Option (Cell ⊕ Err)):Prop:=∀ {f:Addr} {dV kV:Value} {b:Bo},At c.K nm q s f dV kV b→FGZ c base k f (fnS nm q s dV kV b) ps (x5b c F)
abbrev x8E (F:List Dat→Option Cell):Prop:=∀ {f:Addr} {kV:Value} {b:Bo},At c.K nm q s f .none kV b→Cl c base k f [] (fun vs _ H Q=>spA c F vs H Q)
end
section
variable {c:Ct} {base:Heap} {nm q:Str} {s:Stmt} {f:Addr} {kV:Value} {b:Bo} {N ps:List Str} {pv:Str} {m k:Nat}
abbrev StB (nm q:Str) (s:Stmt) (kV:Value) (b:Bo) (ps:List Str) (pv:Str):Prop:=∀ us rest:List Value,us.length = ps.length→bindArgs (fnS nm q s .none kV b) ⟨us ++ rest,[]⟩ = (newTuple rest >>= fun t=>pure (ps.zip us ++ [(pv,t)]))
theorem z4K {w:SD} {F0:List Dat→Option Cell} (z:At c.K nm q s f .none kV b) (S:FnScope N (ps ++ [pv]) (Q0B s)) (nl:Nat) (hbn:StB nm q s kV b ps pv) (hb:∀ A outer sh H,Rm (x9p s q f b A sh) k→XSs (CxF c base s q f b N A outer sh H) (Q1q s) w) (e:F0 = fnP (m + 1) nl w:=by rfl) (hl:N.length = m + 1 + nl:=by rfl) (hp:ps.length = m:=by rfl) :
  Cl c base (k + 1) f [] (fun vs _ H Q=>spA c (fun ds=>if m ≤ ds.length∧ds.length ≤ 1000 then F0 (ds.take m ++ [.tup (ds.drop m)]) else none) vs H Q):=
 (x2Q (k:=k) (sp:=spP c (m + 1) F0) z.lk z.cd S hbn fun A outer sh H vs Q hr hg hsp=>⟨_,x1B (s:=w) (hb A outer sh H ⟨hr,hg⟩) nl hl (x1D (e ▸ hsp))⟩).imp fun vs zs H Q _ h=>by rw [hp]; exact x0z h
end
section
variable {P:Program} {w:World} {K:JFr} {h base:Heap} {mg:Str→Option Value} {C:Addr} {g cls nm q:Str} {s:Stmt} {ps:List Str} {k m n nl:Nat}
theorem Hv.z {v:SX} (z:Hv K g nm s) (X:K.In h) (G:h.Ns jbd mg) (ok:OkZ ⟨P,w,K,mg⟩ base k nm nm s ps (fnZ n nl v)) (hb:∀ {kV b},Binds K (fnS nm nm s .none kV b) ps []) (hp:ps.length = n:=by rfl):DefZ ⟨P,w,K,mg⟩ base k g (fnZ n nl v):=by
 obtain ⟨A,kV,b,a,l,kp⟩:=z
 exact ⟨_,mg_of X G a,kp,(ok l).cl hb fun vs H Q E h=>(x3q h).trans hp.symm⟩
theorem Hm.met {F:List Dat→Option Cell} (v:Hm K C nm q s) (X:K.In h) (G:h.Ns jbd mg) (a:nsIn K jbd cls = some (some (.ref C))) (cc:L2.Cls K C) (ok:OkP ⟨P,w,K,mg⟩ base k nm q s ps n F) (hb:∀ {kV b},Binds K (fnS nm q s .none kV b) ps []) (hn:∀ ds,(F ds).isSome = true→ds.length = n):q9r ⟨P,w,K,mg⟩ base k cls nm F:=⟨fun C' hC=>by
 cases hC.symm.trans (mg_of X G a)
 obtain ⟨A,kV,b,f1,f2,z,kp⟩:=v
 exact ⟨cc,_,⟨f1,f2,kp⟩,((ok z).cl0 hb).imp fun vs zs H Q _ h=>q6k hn h⟩⟩
theorem x7i {f:Addr} {oc dV kV doc pm cdv ct:Value} {od an:Option Addr} {osl:Array (Option Value)} (l:K.lookup f = some ⟨oc,od,.func (Q1T nm q (Q1C s) (Q1q s) (Q0B s) dV kV doc pm an cdv ct),osl⟩) (c:codeIn K cdv q = true):At K nm q s f dV kV ⟨oc,doc,pm,cdv,ct,od,an,osl⟩:=⟨l,c⟩
theorem q2I (e:∃ oc od osl kV doc pm an cdv ct,K.lookup (He.ga K g) = some ⟨oc,od,.func (Q1T nm nm (Q1C s) (Q1q s) (Q0B s) .none kV doc pm an cdv ct),osl⟩∧codeIn K cdv nm = true) (b:DLE.hvB K g = true):Hv K g nm s:=by
 obtain ⟨oc,od,osl,kV,doc,pm,an,cdv,ct,l,cd⟩:=e
 unfold DLE.hvB at b
 simp only [Q1l,decide_eq_true_eq] at b
 exact ⟨_,_,⟨oc,doc,pm,cdv,ct,od,an,osl⟩,b.1,⟨l,cd⟩,b.2⟩
theorem z2i (e:∃ oc od osl kV doc pm an cdv ct,K.lookup (He.ma K C nm) = some ⟨oc,od,.func (Q1T nm q (Q1C s) (Q1q s) (Q0B s) .none kV doc pm an cdv ct),osl⟩∧codeIn K cdv q = true) (b:DLE.hmB K C nm = true):Hm K C nm q s:=by
 obtain ⟨oc,od,osl,kV,doc,pm,an,cdv,ct,l,cd⟩:=e
 unfold DLE.hmB at b
 simp only [Q1l,decide_eq_true_eq] at b
 exact ⟨_,_,⟨oc,doc,pm,cdv,ct,od,an,osl⟩,b.1.1,b.1.2,⟨l,cd⟩,b.2⟩
end
end DL

set_option maxHeartbeats 4000000
namespace DL
variable [DL.Tbls]
open PySem PySem.Spec L2 PyProof.Rows
open SeqAt (EqAt)
theorem x0T (lo hi:Int):Builtin.Range.rangeSize lo hi 1 = if lo < hi then hi - lo else 0:=by
 unfold Builtin.Range.rangeSize
 split <;> simp <;> omega
section
variable {X:Cx} {a e:Expr} {f g:EM Dat} {p cpos pos:Pos}
end
end DL

set_option maxHeartbeats 4000000
namespace DL
variable [DL.Tbls]
open PySem PySem.Spec L2
theorem z7W {k:Key} {v:V}:∀ {ks:List Key} {xs:List V},k ∉ ks→((ks.zip xs).map fun kv=>if kv.1 = k then (kv.1,v) else kv) = ks.zip xs
 | [],_,_=>rfl
 | _ :: _,[],_=>rfl
 | g :: ks,x :: xs,h=>by
  have ne:¬ g = k:=fun z=>h (by rw [z]; exact Q0g)
  rw [Q0L,Q0e,z7W fun z=>h (Q0h _ z)]
  show (if g = k then (g,v) else (g,x)) :: _ = _
  rw [if_neg ne]
theorem RepAs.setKy {c:Ct} {S H:Hp} {k:Key} {v:V} {a:Atom} {fq:List Addr}:∀ {ks:List Key} {xs:List V} {as:List Atom} {fps:List Addr},RepAs c S H xs as fps→ks.length = xs.length→ks.Nodup→k ∈ ks →
  ∃ xs' l m r,((ks.zip xs).map fun kv=>if kv.1 = k then (kv.1,v) else kv) = ks.zip xs'∧xs'.length = xs.length∧fps = l ++ (m ++ r) ∧
   ∀ (S' H':Hp),Same S S'→(∀ x ∈ l ++ r,H' x = H x)→RepA c S' H' v a fq→RepAs c S' H' xs' (DL.setKy k a ks as) (l ++ (fq ++ r))
 | [],_,_,_,_,_,_,hk=>nomatch hk
 | _ :: _,_,_,_,.nil,hl,_,_=>nomatch hl
 | g :: ks,x :: xs,b :: as,_,.cons (fp:=fp) (fps:=fps) h1 h2,hl,nd,hk=>by
  obtain ⟨n1,n2⟩:=Q0P.mp nd
  by_cases z:g = k
  ·subst z
   refine ⟨v :: xs,[],fp,fps,?_,rfl,rfl,fun S' H' es ek ra=>?_⟩
   ·rw [Q0L,Q0e,z7W n1,if_pos rfl]; rfl
   ·show RepAs c S' H' (v :: xs) (if g = g then a :: as else _) (fq ++ fps)
    rw [if_pos rfl]
    exact RepAs.cons ra (h2.keep es fun x hx=>ek x (by simpa using hx))
  ·obtain ⟨xs',l,m,r,e1,e2,e3,e4⟩:=RepAs.setKy (v:=v) (a:=a) (fq:=fq) h2 (Q3c.inj hl) n2 ((Q0s.mp hk).resolve_left fun e=>z e.symm)
   refine ⟨x :: xs',fp ++ l,m,r,?_,by rw [Q0d,Q0d,e2],by rw [e3,Q0C],fun S' H' es ek ra=>?_⟩
   ·rw [Q0L,Q0e,e1,if_neg z]; rfl
   ·show RepAs c S' H' (x :: xs') (if g = k then a :: as else b :: DL.setKy k a ks as) _
    rw [if_neg z,Q0C]
    exact RepAs.cons (h1.keep es fun x hx=>ek x (by simp [hx])) (e4 S' H' es (fun x hx=>ek x (by
     rcases Q0k.mp hx with q | q
     ·simp [q]
     ·simp [q])) ra)
section
variable {X:Cx} {e e':Expr} {pos p1 p2 p3 q1 q2 q3 pt pt2:Pos} {f g:EM Cell} {j:Nat}
end
end DL

namespace DLI
variable [DL.Tbls]
open PySem PySem.Spec L2 DLS DL PyProof.Rows
section
variable {P:Program} {w:World} {A:Around} {E:Value→Shared→Prop} {s:Shared}
end
section
variable {X:Cx}
end
end DLI

namespace DL
variable [DL.Tbls]
open PySem PySem.Spec L2 PySem.Calls DST
section
variable {X:Cx}
end
section
variable {X:Cx} {e:Expr} {p pos p2 pos2:Pos} {f:EM Dat}
variable {e:Expr} {f:EM Dat} {p pos p2 pos2:Pos}
end
end DL

set_option maxHeartbeats 4000000
namespace DL
variable [DL.Tbls]
open PySem PySem.Spec L2
section
variable {X:Cx} {k l:Nat} {x y z:Str} {p pos py pz:Pos} {ea eb ed:Expr} {fa fb fd:EM Dat}
end
end DL

namespace DL
variable [DL.Tbls]
open PySem PySem.Spec L2 PyProof.Rows
section
variable {X:Cx} {e se:Expr} {te ts:TE} {k:Nat} {p1 p3 pos:Pos}
end
section
variable {X:Cx} {e se:Expr} {p3 pos:Pos} {f g:EM Dat}
end
end DL

set_option maxHeartbeats 4000000
namespace DZV
open PySem PySem.Spec PyProof.Rows L2 RZ
end DZV
namespace DL
variable [DL.Tbls]
open PySem PySem.Spec L2 PyProof.Rows
end DL

set_option maxHeartbeats 4000000
namespace DL
variable [DL.Tbls]
open PySem PySem.Spec L2 PyProof.Rows
end DL

set_option maxHeartbeats 4000000
namespace L2
open PySem PySem.Spec PyProof.Rows
section
variable {X:Cx} {C:Addr} {bmB:List Value} {B newId initId:String}
end
section
variable {prog:Program} {w:World} {A:Around} {E:Value→Shared→Prop} {s:Shared}
end
end L2
namespace DL
variable [DL.Tbls]
open PySem PySem.Spec L2 PyProof.Rows
section
variable {X:Cx} {W:WXL} {nm n:Str} {C:Addr} {pos:Pos} {i:Nat}
end
def gS (c:Ct) (t1 t2:Tg):TG:=fun v σ H Q=>∃ S ρ fps ds d ρ',Good c S H σ ρ fps∧Rep c S v (.lst (ds ++ [d]))∧ds.length < 16384∧z1o [t1,t2] [.lst ds,d] ρ = some ρ' ∧
 ∀ σ' S' H' fps',Stp S H fps S' H' fps'→Pins ρ σ ρ' σ'→Good c S' H' σ' ρ' fps'→Q σ' H'
section
variable {X:Cx} {pos:Pos}
end
end DL

namespace DZT
variable [DL.Tbls]
open PySem PySem.Spec PyProof.Rows
open PySem.Sem (wp)
section
variable {prog:Program} {w:World} {A:Around} {E:Value→Shared→Prop} {s:Shared}
end
section
variable {prog:Program} {w:World} {A:Around} {E:Value→Shared→Prop} {s:Shared}
end
end DZT
namespace DZT
variable [DL.Tbls]
open PySem PySem.Spec L2 DL PyProof.Rows
section
variable {prog:Program} {w:World} {A:Around} {E:Value→Shared→Prop} {s:Shared}
end
section
variable {prog:Program} {w:World}
end
section
variable {X:Cx} {e e2:Expr} {ta:TA}
end
end DZT
namespace DL
variable [DL.Tbls]
open PySem PySem.Spec L2 PyProof.Rows
section
variable {X:Cx} {e e2:Expr} {t:EM (List Dat)}
end
end DL

set_option maxHeartbeats 4000000
namespace DL
variable [DL.Tbls]
open PySem PySem.Spec
variable {ρ ρ1:Rho}
end DL

set_option maxHeartbeats 4000000
namespace DL
variable [DL.Tbls]
open PySem PySem.Spec L2 PyProof.Rows
section
variable {X:Cx} {pins:List (Addr × Obj)} {σ:L2.St} {H:Hp} {s:Shared} {d:Addr} {o:Obj} {xs:List q3O}
end
section
variable {P:Program} {w:World} {K:JFr} {d:Addr} {o:Obj} {es:Array DictEntry} {ep:Nat}
end
section
variable {c:Ct} {S:Hp} {d:Addr} {o:Obj}
end
end DL

set_option maxHeartbeats 4000000
namespace DL
variable [DL.Tbls]
open PySem PySem.Spec L2 PyProof.Rows
section
variable {X:Cx} {elts:List Expr} {kk:Nat} {tpos:Pos} {elt iter:Expr} {ifs:List Expr} {scope:Scope} {pos apos cpos:Pos} {g:EM Dat} {tg:Tg} {t:EM Bool} {e:EM Dat}
end
end DL

set_option maxHeartbeats 4000000
namespace DL
variable [DL.Tbls]
open PySem PySem.Spec L2 PyProof.Rows
def x4f (ks ds:List Dat) (y d:Dat) (k:NestedKey):List Dat × List Dat:=match ks.findIdx? fun z=>decide (kyD z = some k) with
 | some j=>(ks,ds.set j d)
 | none=>(ks ++ [y],ds ++ [d])
structure OkR (c:Ct) (S:Hp) (rs:List q3O) (ks ds:List Dat):Prop where
 k:Reps c S (rs.map fun x=>V.ref x.2.1) ks
 y:q6b ks = some (rs.map (·.1))
 v:Reps c S (rs.map (·.2.2)) ds
 n:(rs.map (·.1)).Nodup
theorem OkR.put {c:Ct} {S:Hp} {rs:List q3O} {ks ds:List Dat} (h:OkR c S rs ks ds) {y d:Dat} {b:Addr} {u:V} {k:NestedKey} (rb:Rep c S (.ref b) y) (ek:kyD y = some k) (ru:Rep c S u d) :
  OkR c S (z0l rs k b u) (x4f ks ds y d k).1 (x4f ks ds y d k).2:=by
 unfold x4f
 cases hj:ks.findIdx? fun z=>decide (kyD z = some k) with
 | some j=>
  obtain ⟨q1,q2,q3⟩:=z7e (b:=b) (v:=u) h.y h.n hj
  exact ⟨by rw [q1]; exact h.k,by rw [q2]; exact h.y,by rw [q3]; exact Reps.setAt ru j h.v,by rw [q2]; exact h.n⟩
 | none=>
  have hn:=q6K h.y hj
  rw [z0R hn]
  refine ⟨by rw [Q0D]; exact h.k.app (.cons rb .nil),by rw [Q0D]; exact q8j ek h.y,by rw [Q0D]; exact h.v.app (.cons ru .nil),?_⟩
  rw [Q0D,Q0E]
  refine ⟨h.n,by simp,fun a ha b' hb'=>?_⟩
  obtain rfl:b' = k:=by simpa using hb'
  rintro rfl
  obtain ⟨r,hr,e⟩:=Q0y.mp ha
  unfold q7U at hn
  rw [Q2o,Q1U] at hn
  exact hn r hr (by simpa using e)
section
variable {X:Cx} {b e:Expr} {pos p1 p2 p3:Pos} {g f:EM Dat} {j:Nat}
end
section
variable {X:Cx} {o e:Expr} {td ty:TE} {apos cpos:Pos}
end
section
variable {X:Cx} {b:Expr} {pos p1 p3 apos:Pos} {f:EM Dat} {j:Nat}
end
end DL

set_option maxHeartbeats 4000000
namespace DL
variable [DL.Tbls]
open PySem PySem.Spec L2 PyProof.Rows
section
variable {c:Ct} {S H:Hp} {σ:L2.St} {ρ:Rho} {fps:List Addr}
theorem z4L {σ:L2.St} {i:Nat} {v:V} (e:σ[i]? = some (some v)):σ.set i (some v) = σ:=by
 obtain ⟨hl,e⟩:=Q0r.mp e
 rw [← e]; exact Q2S hl
end
end DL

set_option maxHeartbeats 4000000
namespace DLT
variable [DL.Tbls]
open PySem PySem.Spec L2 PySem.Calls DST DL DLS
section
variable {X:Cx} {pins:List (Addr × Obj)} {σ:L2.St} {S H:Hp} {s:Shared}
end
section
variable {X:Cx}
end
end DLT
namespace DL
variable [DL.Tbls]
open PySem PySem.Spec L2 PySem.Calls DST
instance {w:World} {a:Addr} {L:List (Addr × NestedKey)}:NT (SetO w a L):=⟨fun _ z=>nomatch z⟩
instance {w:World} {a:Addr} {L:List (Addr × NestedKey)}:NC a (SetO w a L):=⟨fun _=>q4Y fun h k=>by
 obtain ⟨es,ep,t,⟨o,e1,_,e3⟩,_⟩:=k
 exact ⟨o,e1,fun vs z=>by rw [e3] at z; cases z⟩⟩
section
variable {c:Ct} {D:Addr}
end
section
variable {X:Cx}
end
end DL

namespace DLB
open PySem PySem.Spec L2 DLS DL PyProof.Rows
def lf (b:Bool):Leaf:=.num (if b = true then 1 else 0)
section
variable {P:Program} {w:World} {A:Around} {E:Value→Shared→Prop} {s:Shared}
end
section
variable {X:Cx}
end
end DLB
namespace DL
variable [DL.Tbls]
open PySem PySem.Spec L2 PySem.Calls
end DL

set_option maxHeartbeats 4000000
namespace DL
variable [DL.Tbls]
open PySem PySem.Spec
variable {ρ ρ1:Rho}
end DL

set_option maxHeartbeats 4000000
namespace DL
variable [DL.Tbls]
open PySem PySem.Spec L2
section
variable {c:Ct} {S H:Hp} {σ:L2.St} {ρ:Rho} {fps:List Addr}
end
section
variable {X:Cx} {b:Expr} {pos npos apos dpos cpos pos':Pos} {rest:List Stmt} {g:EM Dat} {s:SD} {jj:Nat}
end
end DL

set_option maxHeartbeats 4000000
namespace PySem.W
open PySem PySem.Calls PyProof.Rows PySem.Spec
section
variable {prog:Program} {w:World} {A:Around} {E:Value→Shared→Prop} {s:Shared}
end
end PySem.W
namespace DL
variable [DL.Tbls]
open PySem PySem.Spec L2
end DL

set_option maxHeartbeats 4000000
namespace DLT
variable [DL.Tbls]
open PySem PySem.Spec L2 PySem.Calls DST DL DLS
section
variable {X:Cx} {pins:List (Addr × Obj)} {σ:L2.St} {S H:Hp} {s:Shared}
end
section
variable {X:Cx}
end
end DLT
namespace DL
variable [DL.Tbls]
open PySem PySem.Spec L2 PySem.Calls DST
section
variable {c:Ct} {D:Addr}
end
section
variable {X:Cx}
end
end DL

namespace DLS
variable [DL.Tbls]
open PySem PySem.Spec PyProof.Rows L2
section
variable {prog:Program} {w:World} {A:Around} {env:Env} {elt t0 i0 t1 i1 t2 i2:Expr} {ifs0 ifs1 ifs2:List Expr} {scope:Scope} {pos:Pos} {it acc:Value}
end
end DLS
namespace DLT
variable [DL.Tbls]
open PySem PySem.Spec L2 PySem.Calls DST DL DLS
section
variable {X:Cx}
end
end DLT
namespace DL
variable [DL.Tbls]
open PySem PySem.Spec L2 PySem.Calls DST
section
variable {c:Ct} {D:Addr}
end
section
variable {X:Cx}
end
end DL

set_option maxHeartbeats 4000000
namespace DL
variable [DL.Tbls]
open PySem PySem.Spec
variable {ρ ρ1:Rho}
end DL

set_option maxHeartbeats 4000000
namespace DL
variable [DL.Tbls]
open PySem PySem.Spec L2
section
variable {X:Cx} {elt tge iter:Expr} {ifs:List Expr} {scope:Scope} {pos apos cpos:Pos} {g:EM Dat} {tg:Tg} {t:EM Bool} {e:EM Dat}
end
section
variable {X:Cx}
end
end DL

set_option maxHeartbeats 4000000
namespace DL
variable [DL.Tbls]
open PySem PySem.Spec L2
section
variable {c:Ct} {D:Addr}
end
section
variable {X:Cx} {elt tge iter tge1 iter1:Expr} {ifs ifs1:List Expr} {scope:Scope} {pos:Pos} {src src1:EM (List Dat)} {tg tg1:Tg} {t t1:EM Bool} {e:EM Dat}
end
end DL

namespace DL
variable [DL.Tbls]
open PySem PySem.Spec L2 PyProof.Rows
def q5M:List Dat→Option (List Str)
 | []=>some []
 | .str x :: ds=>(q5M ds).map (x :: ·)
 | _ :: _=>none
theorem q7e {c:Ct} {S:Hp}:∀ {ds:List Dat} {ys:List Str} {vs:List V},q5M ds = some ys→Reps c S vs ds→vs = ys.map V.str
 | [],_,_,h,r=>by cases h; cases r; rfl
 | d :: ds,ys,vs,h,r=>by
  cases d with
  | str x=>
   unfold q5M at h
   cases q:q5M ds with
   | none=>rw [q] at h; cases h
   | some zs=>
    rw [q] at h
    cases h
    cases r with
    | cons r0 rt=>
     cases r0
     rw [q7e q rt]; rfl
  | _=>cases h
theorem q9W:∀ ys:List Str,q5M (ys.map .str) = some ys
 | []=>rfl
 | y :: ys=>by
  show (q5M (ys.map .str)).map (y :: ·) = _
  rw [q9W ys]; rfl
def z3n (a:Str):Dat→Option Dat
 | .lst ds=>(q5M ds).bind fun ys=>if (ys.map (·.length)).sum + ys.length * a.length ≤ 1000000 then some (.str (Txt.join a ys)) else none
 | .tup ds=>(q5M ds).bind fun ys=>if (ys.map (·.length)).sum + ys.length * a.length ≤ 1000000 then some (.str (Txt.join a ys)) else none
 | _=>none
def z3o (f g:EM Dat):EM Dat:=q0J f fun x=>match x with
 | .str a=>q0J g fun y=>q3a (z3n a y)
 | _=>eNo
section
variable {X:Cx} {o a e:Expr} {f g:EM Dat} {apos pos:Pos}
theorem z0Y (ho:XE X o f) (he:XE X e g) (hs:starEach [e] X.env = [(false,eval e X.env)]:=by rfl) (hbase:attributeBase o "join" X.env (eval o X.env) = eval o X.env:=by rfl) (hline:(apos.endLine == pos.line) = true:=by rfl) :
  XE X (.Call (.Attribute o "join" apos) [e] [] pos) (z3o f g):=(pe_join ho he hs hbase hline).imp fun σ H Q ⟨S,h⟩=>by
 refine ⟨S,h.bind.mono fun x S1 H1 _ q v rv=>?_⟩
 cases x with
 | str a=>
  cases rv
  refine ⟨⟨a,rfl⟩,S1,q.bind.mono fun y S2 H2 s2 q u ru=>?_⟩
  obtain ⟨z,ez,ex,q⟩:=q.lift
  have fin:∀ {ys:List Str},Txt.join a ys = Txt.join a ys→z = .str (Txt.join a ys)→Q (.str (Txt.join a ys)) H2:=fun {ys} _ ez=>by
   subst ez
   exact (q S2 H2 (Fre.refl ex)).2.2 _ (.str _)
  cases ru with
  | lst h1 h2=>
   unfold z3n at ez
   dsimp only at ez
   cases q1:q5M _ with
   | none=>rw [q1] at ez; cases ez
   | some ys=>
    rw [q1,Q0U] at ez
    split at ez
    ·rename_i hl
     cases ez
     have:=q7e q1 h2
     subst this
     exact ⟨a,_,ys,rfl,rfl,.inl (.inl (q0G ex h1)),Q0S hl (by decide),fin rfl rfl⟩
    ·cases ez
  | tup h1 h2=>
   unfold z3n at ez
   dsimp only at ez
   cases q1:q5M _ with
   | none=>rw [q1] at ez; cases ez
   | some ys=>
    rw [q1,Q0U] at ez
    split at ez
    ·rename_i hl
     cases ez
     have:=q7e q1 h2
     subst this
     exact ⟨a,_,ys,rfl,rfl,.inr (q0S ex h1),Q0S hl (by decide),fin rfl rfl⟩
    ·cases ez
  | _=>cases ez
 | _=>exact (Go.no q).elim
def x9q (a b:Str):Option Dat:=if a.length ≤ 100000 then some (.str (Txt.removeprefix a b)) else none
def x8F (f g:EM Dat):EM Dat:=q0J f fun x=>match x with
 | .str a=>q0J g fun y=>match y with
  | .str b=>q3a (x9q a b)
  | _=>eNo
 | _=>eNo
theorem x7j (ho:XE X o f) (he:XE X e g) (hs:starEach [e] X.env = [(false,eval e X.env)]:=by rfl) (hbase:attributeBase o "removeprefix" X.env (eval o X.env) = eval o X.env:=by rfl) (hline:(apos.endLine == pos.line) = true:=by rfl) :
  XE X (.Call (.Attribute o "removeprefix" apos) [e] [] pos) (x8F f g):=(pe_m1 F.slot_str_removeprefix F.type_str_removeprefix mt_removeprefix ho he hs hbase hline).imp fun σ H Q ⟨S,h⟩=>by
 refine ⟨S,h.bind.mono fun x S1 H1 _ q v rv=>?_⟩
 cases x with
 | str a=>
  cases rv
  refine ⟨⟨a,rfl⟩,S1,q.bind.mono fun y S2 H2 s2 q u ru=>?_⟩
  cases y with
  | str b=>
   cases ru
   obtain ⟨z,ez,ex,q⟩:=q.lift
   unfold x9q at ez
   split at ez
   ·rename_i hl
    cases ez
    exact ⟨a,b,rfl,rfl,Q0S hl (by decide),(q S2 H2 (Fre.refl ex)).2.2 _ (.str _)⟩
   ·cases ez
  | _=>exact (Go.no q).elim
 | _=>exact (Go.no q).elim
end
def x2f:Dat→Option Dat
 | .str a=>if a.length ≤ 100000 then some (.str a) else none
 | .int i=>if i.natAbs.log2 < 1920 then some (.str (toString i)) else none
 | _=>none
section
variable {X:Cx} {e:Expr} {f:EM Dat} {pos:Pos}
theorem z7X (he:XE X e f):XE X (.FormattedValue e (-1) none pos) (DL.e1 x2f f):=(pe_fmt he).imp fun _ _ _ h=>(q8o h).mono fun v H1 ⟨S,y,z,ex,r,e,q⟩=>by
 cases r with
 | str a=>
  dsimp only [x2f] at e
  split at e
  ·rename_i hl
   cases e
   exact .inl ⟨a,rfl,Q0S hl (by decide),q _ S H1 (Fre.refl ex) (.str _)⟩
  ·cases e
 | int i=>
  dsimp only [x2f] at e
  split at e
  ·rename_i hl
   cases e
   exact .inr ⟨i,rfl,hl,q _ S H1 (Fre.refl ex) (.str _)⟩
  ·cases e
 | _=>cases e
inductive XJ (X:Cx):List Expr→List (EM Dat)→Prop where
 | nil:XJ X [] []
 | cons {e:Expr} {t:EM Dat} {es:List Expr} {ts:List (EM Dat)} (h:XE X e t) (r:XJ X es ts):XJ X (e :: es) (t :: ts)
def eJs:List (EM Dat)→Str→EM Dat
 | [],acc=>q2M (.str acc)
 | t :: ts,acc=>q0J t fun x=>match x with
  | .str y=>if (acc ++ y).length ≤ 100000 then eJs ts (acc ++ y) else eNo
  | _=>eNo
theorem XJ.pj {es:List Expr} {ts:List (EM Dat)} (h:XJ X es ts):PJ X es (ts.map (tD (ct X))):=by
 induction h with
 | nil=>exact .nil
 | cons h _ ih=>exact .cons h ih
theorem x2g {c:Ct} {σ:L2.St}:∀ (ts:List (EM Dat)) (acc:Str) {S H:Hp} {post:Dat→Hp→Hp→Prop} {Q:Str→Hp→Prop},Go c (eJs ts acc) σ S H post→(∀ (y:Str) (S' H':Hp),post (.str y) S' H'→Q y H')→tJs (ts.map (tD c)) acc σ H Q
 | [],acc,S,H,post,Q,h,k=>by
  obtain ⟨ex,q⟩:=Go.ret h
  exact k _ _ _ (q S H (Fre.refl ex))
 | t :: ts,acc,S,H,post,Q,h,k=>by
  show tD c t σ H _
  refine ⟨S,h.bind.mono fun x S1 H1 _ q v rv=>?_⟩
  cases x with
  | str y=>
   cases rv
   dsimp only at q
   split at q
   ·rename_i hl
    exact ⟨y,rfl,Q0S hl (by decide),x2g ts (acc ++ y) q fun y S' H' z=>k y S' H' z.2⟩
   ·exact (Go.no q).elim
  | _=>exact (Go.no q).elim
theorem z7Y {v1 v2:Expr} {rest:List Expr} {ts:List (EM Dat)} (h:XJ X (v1 :: v2 :: rest) ts):XE X (.JoinedStr (v1 :: v2 :: rest) pos) (eJs ts Str.empty):=(pe_joined h.pj).imp fun σ H Q ⟨S,h⟩=>
 x2g ts Str.empty h fun y S' H' (z:∀ v,Rep (ct X) S' v (.str y)→Q v H')=>z _ (.str y)
end
end DL

namespace DL
variable [DL.Tbls]
open PySem PySem.Spec L2 PyProof.Rows ClX
def x8G:Dat→Option Dat
 | .str a=>if a.length ≤ 640 then (Q2A a).map .int else none
 | _=>none
theorem x7k {c:Ct}:PureC c (fun xs H Q=>∃ a n,xs = [V.str a]∧Q2A a = some n∧a.length ≤ 640∧Q (.int n) H) x8G:=by
 intro S H v x z Q ex r e q
 cases r with
 | str a=>
  have e:(if a.length ≤ 640 then (Q2A a).map Dat.int else none) = some z:=e
  by_cases hl:a.length ≤ 640
  ·rw [if_pos hl] at e
   cases q1:Q2A a with
   | none=>rw [q1] at e; cases e
   | some n=>
    rw [q1] at e
    cases e
    exact ⟨a,n,rfl,q1,hl,q _ S H (Fre.refl ex) (.int _)⟩
  ·rw [if_neg hl] at e; cases e
 | _=>cases e
section
variable {X:Cx} {x:Str} {pos:Pos}
theorem x7l (h:∃ f:Addr,X.mg x = some (.ref f)) (hg:Gl X x:=by rfl) (hd:(x == ("__debug__":Str)) = false:=by decide):XE X (.Name x pos) (eC (.opq (some x))):=by
 obtain ⟨f,hm⟩:=h
 exact z9B ⟨f,hm,fun S=>.opq fun nm e=>by cases e; exact ⟨f,rfl,hm⟩⟩ hg hd
end
def z0Z (ρ:Rho) (i:Nat) (nm:Str):Bool:=match ρ[i]? with
 | some (some ⟨_,.atm (.im (.opq (some n)))⟩)=>decide (n = nm)
 | _=>false
theorem z7Z {ρ:Rho} {i:Nat} {nm:Str} (h:z0Z ρ i nm = true):∃ b,ρ[i]? = some (some ⟨b,.atm (.im (.opq (some nm)))⟩):=by
 unfold z0Z at h
 split at h
 ·rename_i b n e
  rw [of_decide_eq_true h] at e
  exact ⟨b,e⟩
 ·cases h
def z2j (nm:Str) (F:List Dat→Option Cell) (dfl:List Dat) (i:Nat) (t:EM (List Dat)):EM Cell:=fun ρ=>if z0Z ρ i nm = true then q1l F dfl t ρ else none
def z2k (nm:Str) (F:Cell→List Dat→Option (Cell × Cell)) (i:Nat) (t:EM (List Dat)):EM Cell:=fun ρ=>if z0Z ρ i nm = true then q8y nm F t ρ else none
section
variable {X:Cx} {k i j:Nat} {f C:Addr} {sp:List V→SpQ} {x nm:Str} {p pos:Pos} {e:Expr} {es:List Expr} {t0:TA} {t:EM (List Dat)}
theorem x7m (F:Cl (ct X) X.base k f [] sp) (hk:Q1J X.K (.ref f) = true) (R:Rm X.A j) (hj:k ≤ j) (hN:X.N[i]? = some x) (hv:Vis X.env.scope x) (ha:PA X (e :: es) t0)
  (hdb:(x == ("__debug__":Str)) = false:=by decide) (hcd:(x == ("__classdict__":Str)) = false:=by decide)
  (he:starEach (e :: es) X.env = (false,eval e X.env) :: starEach es X.env:=by rfl) (hpl:(backTo pos (starEach es X.env)).any (·.1) = false:=by rfl) :
  PE X (.Call (.Name x p) (e :: es) [] pos) (fun σ H Q=>σ[i]? = some (some (.ref f))∧t0 σ H fun vs H1=>sp vs [] H1 Q):=by
 refine ⟨fun pins s σ H Q I h=>?_⟩
 obtain ⟨hs,ht⟩:=h
 refine wpAny_Call_Name_kw (thn ((pe_var (pos:=p) hN hv hdb hcd).run pins s σ H (fun v H1=>v = .ref f∧H1 = H) I ⟨.ref f,hs,rfl,rfl⟩) fun u s1 ⟨v,H1,I1,r1,q1⟩=>?_)
 obtain ⟨rfl,rfl⟩:=q1
 cases r1
 refine Q2p (h₀:=X.base) I.ok.mod.kin hk (thn (ha.run pos pins s1 σ _ _ I1 ht) fun us s2 ⟨vs,H2,I2,r,q⟩=>⟨I2.kIn,?_⟩) he hpl
 exact q8w F (R.mono hj) I2 r q
theorem x7n (M:Mk X.K C f) (F:Cl (ct X) X.base k f [] sp) (R:Rm X.A j) (hj:k + 1 ≤ j) (hN:X.N[i]? = some x) (hv:Vis X.env.scope x) (ha:PA X (e :: es) t0)
  (hdb:(x == ("__debug__":Str)) = false:=by decide) (hcd:(x == ("__classdict__":Str)) = false:=by decide)
  (he:starEach (e :: es) X.env = (false,eval e X.env) :: starEach es X.env:=by rfl) (hpl:(backTo pos (starEach es X.env)).any (·.1) = false:=by rfl) :
  PE X (.Call (.Name x p) (e :: es) [] pos) (fun σ H Q=>σ[i]? = some (some (.ref C))∧t0 σ H fun vs H1=>∀ x dx,H1 x = none→H1 dx = none→dx ≠ x→sp (.ref x :: vs) [] (upd (upd H1 dx (.own x)) x (.ins C dx [])) (fun v H2=>v = .non∧Q (.ref x) H2)):=by
 refine ⟨fun pins s σ H Q I h=>?_⟩
 obtain ⟨hs,ht⟩:=h
 refine wpAny_Call_Name_kw (thn ((pe_var (pos:=p) hN hv hdb hcd).run pins s σ H (fun v H1=>v = .ref C∧H1 = H) I ⟨.ref C,hs,rfl,rfl⟩) fun u s1 ⟨v,H1,I1,r1,q1⟩=>?_)
 obtain ⟨rfl,rfl⟩:=q1
 cases r1
 refine Q2p (h₀:=X.base) I.ok.mod.kin M.kp (thn (ha.run pos pins s1 σ _ _ I1 ht) fun us s2 ⟨vs,H2,I2,r,q⟩=>⟨I2.kIn,?_⟩) he hpl
 exact x1C M F (R.mono hj) I2 r q
theorem x2h {c:Ct} {σ:L2.St} {S H:Hp} {ρ:Rho} {fps:List Addr} (G:Good c S H σ ρ fps) (h:z0Z ρ i nm = true):∃ f:Addr,σ[i]? = some (some (.ref f))∧c.mg nm = some (.ref f):=by
 obtain ⟨b,e⟩:=z7Z h
 obtain ⟨v0,l,fp,r,ev,e2,rc,_⟩:=G.rep.at e
 cases rc with
 | atm rc=>
  cases rc with
  | im rc=>
   cases rc with
   | opq hh=>
    obtain ⟨f,rfl,hm⟩:=hh nm rfl
    exact ⟨f,ev,hm⟩
theorem x0U {dfl:List Dat} {F:List Dat→Option Cell} (D:DefP (ct X) X.base k nm dfl F) (R:Rm X.A j) (i:Nat) (ha:XA X (e :: es) t) (hj:k ≤ j:=by decide)
  (hN:X.N[i]? = some x:=by rfl) (hv:Vis X.env.scope x:=by first | exact Or.inl rfl | exact Or.inr (Or.inl rfl) | exact Or.inr (Or.inr rfl)) (hdb:(x == ("__debug__":Str)) = false:=by decide) (hcd:(x == ("__classdict__":Str)) = false:=by decide)
  (he:starEach (e :: es) X.env = (false,eval e X.env) :: starEach es X.env:=by rfl) (hpl:(backTo pos (starEach es X.env)).any (·.1) = false:=by rfl) :
  XC X (.Call (.Name x p) (e :: es) [] pos) (z2j nm F dfl i t):=by
 obtain ⟨dvs,hd,⟨f,hm,hk,C⟩⟩:=D.ex
 refine (x7m C hk R hj hN hv ha hdb hcd he hpl).imp fun σ H Q h=>?_
 obtain ⟨S,ρ,fps,r,ρ',G,e,q⟩:=h
 unfold z2j at e
 split at e
 ·rename_i hf
  obtain ⟨f',ev,hm'⟩:=x2h G hf
  rw [hm] at hm'
  cases hm'
  exact ⟨ev,z3U hd ⟨S,ρ,fps,r,ρ',G,e,q⟩⟩
 ·cases e
theorem x0V {F:Cell→List Dat→Option (Cell × Cell)} (D:z8T (ct X) X.base k nm F) (R:Rm X.A j) (i:Nat) (ha:XA X (e :: es) t) (hj:k + 1 ≤ j:=by decide)
  (hN:X.N[i]? = some x:=by rfl) (hv:Vis X.env.scope x:=by first | exact Or.inl rfl | exact Or.inr (Or.inl rfl) | exact Or.inr (Or.inr rfl)) (hdb:(x == ("__debug__":Str)) = false:=by decide) (hcd:(x == ("__classdict__":Str)) = false:=by decide)
  (he:starEach (e :: es) X.env = (false,eval e X.env) :: starEach es X.env:=by rfl) (hpl:(backTo pos (starEach es X.env)).any (·.1) = false:=by rfl) :
  XC X (.Call (.Name x p) (e :: es) [] pos) (z2k nm F i t):=by
 obtain ⟨C,f,hC,M,cl⟩:=D.ex
 refine (x7n M cl R hj hN hv ha hdb hcd he hpl).imp fun σ H Q h=>?_
 obtain ⟨S,ρ,fps,r,ρ',G,e,q⟩:=h
 unfold z2k at e
 split at e
 ·rename_i hf
  obtain ⟨f',ev,hm'⟩:=x2h G hf
  rw [show (ct X).mg nm = some (.ref C) from hC] at hm'
  cases hm'
  exact ⟨ev,z6o hC ⟨S,ρ,fps,r,ρ',G,e,q⟩⟩
 ·cases e
end
structure x5g (c:Ct) (base:Heap) (k:Nat) (nm m:Str) (ks:List Str) (F:List Dat→Option Cell):Prop where
 ex:∃ (C p g:Addr) (mc:Value),c.mg nm = some (.ref C)∧CRead c.K C mc∧CMet c.K C mc m p g∧Cl c base k g ks (fun vs zs H Q=>(ks = []∨vs.length = 1)∧spA c F (vs ++ zs) H Q)
def q7A (nm:Str) (F:List Dat→Option Cell) (t:EM (List Dat)):EM Cell:=q0J t fun ds=>q3a (F (.opq (some nm) :: ds))
section
variable {X:Cx} {k j:Nat} {C p g q:Addr} {mc:Value} {ks:List Str} {sp:List V→SpQ} {nm m:Str} {np pos apos:Pos} {e:Expr} {es:List Expr} {kws:List Keyword} {tk t0:TA} {t:EM (List Dat)} {pl:Sem Bool} {pins:List (Addr × Obj)} {σ:L2.St} {H:Hp} {s:Shared} {Q:VK} {us ws:List Value} {vs zs:List V}
theorem z8a (F:Cl (ct X) X.base k g ks sp) (R:Rm X.A k) (I:Inv X ((q,PySem.W.methodObj (.ref g) (.ref C)) :: pins) σ H s) (r:Vals vs us) (rz:Vals zs ws) (hz:zs.length = ks.length) (h:sp (.ref C :: vs) zs H Q) :
  wpAny (model X.prog X.w) X.A (call (.ref q) us (ks.zip ws)) (EP X pins σ Q) X.xe s:=by
 have z:wpAny (model X.prog X.w) X.A (call (.ref q) us (ks.zip ws)) (EP X ((q,PySem.W.methodObj (.ref g) (.ref C)) :: pins) σ Q) X.xe s:=by
  refine wpAny_call (PySem.W.method_call (pin_at I) (codeAny_mono (F X.A X.stack s H (.ref C :: us) ws (.ref C :: vs) zs Q R.hr R.hg I.env0 (.cons rfl r) rz hz h) fun r s' hq=>?_))
  cases r with
  | error e=>exact False.elim hq
  | ok fl=>
   cases fl with
   | ret u=>exact I.after hq
   | next=>exact False.elim hq
   | brk=>exact False.elim hq
   | cont=>exact False.elim hq
 exact thn z fun _ _ y=>unpinE y
theorem x7o {o:Expr} {ta:TE} (he:PE X o ta) (r:CRead X.K C mc) (c:CMet X.K C mc m p g) (F:Cl (ct X) X.base k g [] sp) (R:Rm X.A j) (hj:k ≤ j) (ha:PA X (e :: es) t0)
  (hst:starEach (e :: es) X.env = (false,eval e X.env) :: starEach es X.env:=by rfl) (hpl:(backTo pos (starEach es X.env)).any (·.1) = false:=by rfl)
  (ht:eval (.Call (.Attribute o m apos) (e :: es) [] pos) X.env = (do
   let ov ← eval o X.env
   standAt apos.atName
   let (f,first) ← holding [ov] (getMethod ov m pl)
   callWith pos f first (backTo pos (starEach (e :: es) X.env)) (backToKw pos (jbi [] X.env))):=by rfl) :
  PE X (.Call (.Attribute o m apos) (e :: es) [] pos) (fun σ H Q=>ta σ H fun x H1=>x = .ref C∧t0 σ H1 fun vs H2=>sp (.ref C :: vs) [] H2 Q):=by
 refine ⟨fun pins s σ H Q I h=>?_⟩
 refine Q2P (pl:=pl) (thn (he.run pins s σ H _ I h) fun u s1 ⟨x,H1,I1,rx,ex,q⟩=>?_) ht
 subst ex
 obtain rfl:u = Value.ref C:=rx
 refine getmethcm_ok I1 r c fun s2 I2=>?_
 refine callwith_cm I2 (base_none I1 (Q0W _)) c.fi (thn (ha.run pos _ s2 σ H1 _ I2 q) fun us s3 ⟨vs,H2,I3,rv,q2⟩=>⟨⟨pin_at I3,I3.kIn⟩,?_⟩) hst hpl
 exact z8a (ws:=[]) F (R.mono hj) I3 rv .nil rfl q2
theorem z4M {c:Ct} {σ:L2.St} {H:Hp} {Q:VK} {F:List Dat→Option Cell} {t:EM (List Dat)} (hC:c.mg nm = some (.ref C)) (h:tC c (q7A nm F t) σ H Q):tA c t σ H fun vs H1=>spA c F (.ref C :: vs) H1 Q:=
 (z1t h).mono fun vs H1 ⟨S,ds,ρ,fps,k,ρ',G,r,e,q⟩=>by
  obtain ⟨e1,e2⟩:=q1e e
  subst e2
  have rr:Reps c S (.ref C :: vs) (.opq (some nm) :: ds):=.cons (.opq fun n en=>by cases en; exact ⟨C,rfl,hC⟩) r
  exact q8v G rr rfl e1 fun v S' H' f' st G'=>q v S' H' f' st (PinR.refl _) G'
theorem z4N {F:List Dat→Option Cell} (D:x5g (ct X) X.base k nm m [] F) (R:Rm X.A j) (ha:XA X (e :: es) t) (hj:k ≤ j:=by decide) (hg:Gl X nm:=by rfl) (hdb:(nm == ("__debug__":Str)) = false:=by decide)
  (hst:starEach (e :: es) X.env = (false,eval e X.env) :: starEach es X.env:=by rfl) (hpl:(backTo pos (starEach es X.env)).any (·.1) = false:=by rfl)
  (ht:eval (.Call (.Attribute (.Name nm np) m apos) (e :: es) [] pos) X.env = (do
   let ov ← eval (.Name nm np) X.env
   standAt apos.atName
   let (f,first) ← holding [ov] (getMethod ov m pl)
   callWith pos f first (backTo pos (starEach (e :: es) X.env)) (backToKw pos (jbi [] X.env))):=by rfl) :
  XC X (.Call (.Attribute (.Name nm np) m apos) (e :: es) [] pos) (q7A nm F t):=by
 obtain ⟨C,p,g,mc,hC,r,c,cl⟩:=D.ex
 refine (x7o (pe_glob (v:=.ref C) hg hC rfl hdb) r c cl R hj ha hst hpl ht).imp fun σ H Q h=>?_
 refine ⟨rfl,?_⟩
 have:=z4M (c:=ct X) hC h
 refine tA.mono this fun vs H1 z=>⟨.inl rfl,?_⟩
 show spA (ct X) F ((.ref C :: vs) ++ []) H1 Q
 rw [Q0i]
 exact z
theorem x4g {o:Expr} {ta:TE} (he:PE X o ta) (r:CRead X.K C mc) (c:CMet X.K C mc m p g) (F:Cl (ct X) X.base k g ks sp) (R:Rm X.A j) (hj:k ≤ j) (hkw:PK X kws tk)
  (hall:(backToKw pos (jbi kws X.env)).all (·.1.isSome) = true:=by rfl) (hks:(backToKw pos (jbi kws X.env)).filterMap (·.1) = ks:=by rfl)
  (hpl:((backTo pos (starEach [] X.env)).any (·.1) || (backToKw pos (jbi kws X.env)).any (·.1.isNone)) = false:=by rfl)
  (ht:eval (.Call (.Attribute o m apos) [] kws pos) X.env = (do
   let ov ← eval o X.env
   standAt apos.atName
   let (f,first) ← holding [ov] (getMethod ov m pl)
   callWith pos f first (backTo pos (starEach [] X.env)) (backToKw pos (jbi kws X.env))):=by rfl) :
  PE X (.Call (.Attribute o m apos) [] kws pos) (fun σ H Q=>ta σ H fun x H1=>x = .ref C∧tk σ H1 fun zs H2=>zs.length = ks.length∧sp [.ref C] zs H2 Q):=by
 refine ⟨fun pins s σ H Q I h=>?_⟩
 refine Q2P (pl:=pl) (thn (he.run pins s σ H _ I h) fun u s1 ⟨x,H1,I1,rx,ex,q⟩=>?_) ht
 subst ex
 obtain rfl:u = Value.ref C:=rx
 refine getmethcm_ok I1 r c fun s2 I2=>?_
 refine PySem.W.callWith_of (P:=PySem.W.MethP X.K _ g (.ref C)) hpl (PySem.W.keeps_M c.fi) (evalArgs_kw2_nil hall ?_)
 refine thn (hkw.run pos _ s2 σ H1 _ I2 q) fun ws s3 ⟨zs,H2,I3,rz,l2,q2⟩=>⟨⟨pin_at I3,I3.kIn⟩,?_⟩
 rw [hks]
 exact z8a (us:=[]) (vs:=[]) F (R.mono hj) I3 .nil rz l2 q2
theorem z8b {F:List Dat→Option Cell} (D:x5g (ct X) X.base k nm m ks F) (R:Rm X.A j) (hkw:XK X kws t) (hj:k ≤ j:=by decide) (hl:∀ ds,(F ds).isSome = true→ds.length = ks.length + 1) (hg:Gl X nm:=by rfl) (hdb:(nm == ("__debug__":Str)) = false:=by decide)
  (hall:(backToKw pos (jbi kws X.env)).all (·.1.isSome) = true:=by rfl) (hks:(backToKw pos (jbi kws X.env)).filterMap (·.1) = ks:=by rfl)
  (hpl:((backTo pos (starEach [] X.env)).any (·.1) || (backToKw pos (jbi kws X.env)).any (·.1.isNone)) = false:=by rfl)
  (ht:eval (.Call (.Attribute (.Name nm np) m apos) [] kws pos) X.env = (do
   let ov ← eval (.Name nm np) X.env
   standAt apos.atName
   let (f,first) ← holding [ov] (getMethod ov m pl)
   callWith pos f first (backTo pos (starEach [] X.env)) (backToKw pos (jbi kws X.env))):=by rfl) :
  XC X (.Call (.Attribute (.Name nm np) m apos) [] kws pos) (q7A nm F t):=by
 obtain ⟨C,p,g,mc,hC,r,c,cl⟩:=D.ex
 refine (x4g (pe_glob (v:=.ref C) hg hC rfl hdb) r c cl R hj hkw hall hks hpl ht).imp fun σ H Q h=>?_
 refine ⟨rfl,?_⟩
 have:=z4M (c:=ct X) hC h
 refine tA.mono this fun vs H1 z=>⟨?_,.inr rfl,z⟩
 obtain ⟨_,S,ds,r,ex,tb,rp,e,q⟩:=z
 have h1:=hl ds (by rw [e] <;> rfl)
 have h2:=rp.length
 rw [Q0d] at h2
 omega
theorem DefP.mgf {c:Ct} {base:Heap} {k:Nat} {x:Str} {dfl:List Dat} {F:List Dat→Option Cell} (D:DefP c base k x dfl F):∃ f:Addr,c.mg x = some (.ref f):=by
 obtain ⟨_,_,⟨f,hm,_⟩⟩:=D.ex
 exact ⟨f,hm⟩
end
end DL

namespace DL
variable [DL.Tbls]
open PySem PySem.Spec L2
section
variable {ρ:Rho}
theorem x2i {α:Type} {f:EM α} {P Q:α→Rho→Prop} (h:∀ x r,P x r ↔ Q x r):Ev f ρ P ↔ Ev f ρ Q:=⟨fun z=>z.mono fun a r=>(h a r).mp,fun z=>z.mono fun a r=>(h a r).mpr⟩
theorem q8l {a:Str} {g:EM Dat} {P:Dat→Rho→Prop}:Ev (z3o (eC (.str a)) g) ρ P ↔ Ev g ρ fun y ρ2=>Yd (z3n a y) fun z=>P z ρ2:=by
 unfold z3o; rw [q0w]; simp only [q3G,q0w,q2q]
def j0j (b:Str):Dat→Option Dat
 | .str a=>x9q a b
 | _=>none
theorem x0W {a b:Str}:j0j b (.str a) = if a.length ≤ 100000 then some (.str (Txt.removeprefix a b)) else none:=rfl
theorem x4h {b:Str} {f:EM Dat} {P:Dat→Rho→Prop}:Ev (x8F f (eC (.str b))) ρ P ↔ Ev f ρ fun x ρ1=>Yd (j0j b x) fun z=>P z ρ1:=by
 unfold x8F; rw [q0w]
 refine x2i fun x ρ1=>?_
 cases x with
 | str a=>dsimp only; rw [q0w,q3G]; dsimp only; rw [q2q]; rfl
 | _=>exact Ev_no.trans Yd_none.symm
theorem x4i {acc:Str} {P:Dat→Rho→Prop}:Ev (eJs [] acc) ρ P ↔ P (.str acc) ρ:=by
 unfold eJs; rw [Ev_ret]
def jsT (acc:Str):Dat→Option Str
 | .str y=>if (acc ++ y).length ≤ 100000 then some (acc ++ y) else none
 | _=>none
theorem z8c {acc y:Str}:jsT acc (.str y) = if (acc ++ y).length ≤ 100000 then some (acc ++ y) else none:=rfl
theorem x4j {t:EM Dat} {ts:List (EM Dat)} {acc:Str} {P:Dat→Rho→Prop}:Ev (eJs (t :: ts) acc) ρ P ↔ Ev t ρ fun x ρ1=>Yd (jsT acc x) fun acc'=>Ev (eJs ts acc') ρ1 P:=by
 have e:eJs (t :: ts) acc = q0J t fun x=>match x with
  | .str y=>if (acc ++ y).length ≤ 100000 then eJs ts (acc ++ y) else eNo
  | _=>eNo:=rfl
 rw [e,q0w]
 refine x2i fun x ρ1=>?_
 cases x with
 | str y=>
  dsimp only
  rw [z8c]
  by_cases h:(acc ++ y).length ≤ 100000
  ·rw [if_pos h,if_pos h,Yd_some]
  ·rw [if_neg h,if_neg h]; exact Ev_no.trans Yd_none.symm
 | _=>exact Ev_no.trans Yd_none.symm
theorem x0X {a:Str}:x2f (.str a) = if a.length ≤ 100000 then some (.str a) else none:=rfl
theorem x0Y {i:Int}:x2f (.int i) = if i.natAbs.log2 < 1920 then some (.str (toString i)) else none:=rfl
theorem x0Z {a:Str}:x8G (.str a) = if a.length ≤ 640 then (Q2A a).map .int else none:=rfl
def x7p (nm:Str):Option (Option Slot)→Bool
 | some (some ⟨_,.atm (.im (.opq (some n)))⟩)=>decide (n = nm)
 | _=>false
theorem z8d {i:Nat} {nm:Str}:z0Z ρ i nm = x7p nm ρ[i]?:=by
 unfold z0Z x7p
 rfl
theorem z4O {n nm:Str}:x7p nm (some (imS (.opq (some n)))) = decide (n = nm):=rfl
theorem z8e {nm:Str} {F:List Dat→Option Cell} {dfl:List Dat} {i:Nat} {t:EM (List Dat)} {P:Cell→Rho→Prop}:Ev (z2j nm F dfl i t) ρ P ↔ x7p nm ρ[i]? = true∧Ev (q1l F dfl t) ρ P:=by
 rw [← z8d,Ev_yd,Ev_yd]
 unfold z2j
 by_cases h:z0Z ρ i nm = true
 ·rw [if_pos h]; exact ⟨fun z=>⟨h,z⟩,fun z=>z.2⟩
 ·rw [if_neg h]; exact ⟨fun z=>(Yd_none.mp z).elim,fun z=>absurd z.1 h⟩
theorem z8f {nm:Str} {F:Cell→List Dat→Option (Cell × Cell)} {i:Nat} {t:EM (List Dat)} {P:Cell→Rho→Prop}:Ev (z2k nm F i t) ρ P ↔ x7p nm ρ[i]? = true∧Ev (q8y nm F t) ρ P:=by
 rw [← z8d,Ev_yd,Ev_yd]
 unfold z2k
 by_cases h:z0Z ρ i nm = true
 ·rw [if_pos h]; exact ⟨fun z=>⟨h,z⟩,fun z=>z.2⟩
 ·rw [if_neg h]; exact ⟨fun z=>(Yd_none.mp z).elim,fun z=>absurd z.1 h⟩
theorem z2l {nm:Str} {F:List Dat→Option Cell} {t:EM (List Dat)} {P:Cell→Rho→Prop}:Ev (q7A nm F t) ρ P ↔ Ev t ρ fun ds ρ1=>Yd (F (.opq (some nm) :: ds)) fun k=>P k ρ1:=by
 unfold q7A; rw [q0w]; simp only [q2q]
theorem z8g {a:Str} {ys:List Str}:z3n a (.lst (ys.map .str)) = if (ys.map (·.length)).sum + ys.length * a.length ≤ 1000000 then some (.str (Txt.join a ys)) else none:=by
 show (q5M (ys.map .str)).bind _ = _
 rw [q9W]; rfl
end
end DL

namespace K04
variable [DL.Tbls]
open PySem PySem.Spec DL
open L2 (inClass)
structure Txt (c:Ct) where
 b_abs:c.mg "abs" = none
 b_all:c.mg "all" = none
 b_bool:c.mg "bool" = none
 b_enumerate:c.mg "enumerate" = none
 b_int:c.mg "int" = none
 b_isinstance:c.mg "isinstance" = none
 b_len:c.mg "len" = none
 b_list:c.mg "list" = none
 b_range:c.mg "range" = none
 b_repr:c.mg "repr" = none
 b_set:c.mg "set" = none
 b_sorted:c.mg "sorted" = none
 b_str:c.mg "str" = none
 b_tuple:c.mg "tuple" = none
 g_BAR:∃ u,c.mg "BAR" = some u∧L2.RelV (.str "|") u
 g_DIGITS:∃ u,c.mg "DIGITS" = some u∧L2.RelV (.str "0123456789") u
 g_LETTERS:∃ u,c.mg "LETTERS" = some u∧L2.RelV (.str "abcdefghijklmnopqrstuvwxyz") u
 g_LONGEST_NAME:∃ u,c.mg "LONGEST_NAME" = some u∧L2.RelV (.int 8) u
 g_MOST_COLUMNS:∃ u,c.mg "MOST_COLUMNS" = some u∧L2.RelV (.int 4) u
 g_MOST_TABLES:∃ u,c.mg "MOST_TABLES" = some u∧L2.RelV (.int 6) u
 C_Store:Addr
 m_Store:c.mg "Store" = some (.ref C_Store)
 O_Store:x2a c.K C_Store
 sf_Store:PySem.W.selfFirst c.K C_Store = true
 ne_Store:Q3q c.K (.ref C_Store) "__ne__" = some (some (.builtin "object.__ne__"))
 f_Store_schema:Fd c "Store" "schema"
 f_Store_all_facts:Fd c "Store" "all_facts"
 f_Store_by_block:Fd c "Store" "by_block"
theorem z1a:L2.FnScope ["thing"] ["thing"] (Q0B q3o):=fsc (by decide +kernel)
noncomputable def q5N:SD:=(q2D (eIm (z3R (e1 (isT .int) (q0i 0)) (x8s (e1 (isT .bool) (q0i 0))))))
noncomputable def q1n:List Dat→Option Cell:=fnP 1 0 q5N
theorem sc_is_name:L2.FnScope ["thing","letter"] ["thing"] (Q0B q5u):=fsc (by decide +kernel)
noncomputable def z2m:SD:=(q1E (sIf (q9t (q4P (eT (e1 (isT .str) (q0i 0)))) (q4P (eT (q7v (z2U leI) (z2U leI) (eC (.int 1)) (eA (q4X z1p) (evs [(q0i 0)])) (eC (.int 8)))))) (q2D (eIm (eC (.bl false)))) q2V)
  (q2D (eIm (eA (q4X x3h) (evs [(q1d (q3Q (x6l (q0i 0)) (.nm 1) z1y (e2 x6b (q0i 1) (eC (.str "abcdefghijklmnopqrstuvwxyz"))) [1]))])))))
noncomputable def q5O:List Dat→Option Cell:=fnP 1 1 z2m
theorem q5j:L2.FnScope ["thing"] ["thing"] (Q0B q1h):=fsc (by decide +kernel)
noncomputable def q3j:SD:=(q2D (eIm (z3R (q1d (q1l q1n [] (evs [(q0i 0)]))) (q7v (z2U leI) (z2U leI) (eC (.int 0)) (q0i 0) (eC (.int 4))))))
noncomputable def q0T:List Dat→Option Cell:=fnP 1 0 q3j
theorem z3p:L2.FnScope ["thing"] ["thing"] (Q0B q4F):=fsc (by decide +kernel)
noncomputable def q9X:SD:=(q1E (sIf (q9t (q4P (eT (e1 (isT .tuple) (q0i 0)))) (q9t (eT (e2 neD (eA (q4X z1p) (evs [(q0i 0)])) (eC (.int 3)))) (q4P (eT (q1d (q1l q5O [] (evs [(e2 ixD (q0i 0) (eC (.int 0)))]))))))) (q2D (eIm (eC (.bl false)))) q2V)
  (q2D (eIm (z3R (q1d (q1l q0T [] (evs [(e2 ixD (q0i 0) (eC (.int 1)))]))) (z3R (q1d (q1l q0T [] (evs [(e2 ixD (q0i 0) (eC (.int 2)))]))) (e2 (z2U gtI) (e2 q5t (e2 ixD (q0i 0) (eC (.int 1))) (e2 ixD (q0i 0) (eC (.int 2)))) (eC (.int 0))))))))
noncomputable def q2w:List Dat→Option Cell:=fnP 1 0 q9X
theorem z3q:L2.FnScope ["thing"] ["thing"] (Q0B q4G):=fsc (by decide +kernel)
noncomputable def q9Y:SD:=(q2D (eIm (z3R (e1 (isT .tuple) (q0i 0)) (q7v (z2U leI) (z2U leI) (eC (.int 1)) (eA (q4X z1p) (evs [(q0i 0)])) (eC (.int 6))))))
noncomputable def q4S:List Dat→Option Cell:=fnP 1 0 q9Y
theorem sc_bad_parts:L2.FnScope ["parts","found","at","part"] ["parts"] (Q0B q3T):=fsc (by decide +kernel)
noncomputable def q9b:SD:=(q1E (q4a 1 (eOl (evs [])))
  (q1E (q9u (z4r (evs [(q0i 0)])) (.tp [(.nm 2),(.nm 3)]) (sIf (q9t (q4P (eT (q1d (q1l q2w [] (evs [(q0i 3)]))))) (z0m (eT (e2 (z2U gtI) (q0i 2) (eC (.int 0)))) (z0m (eT (q1d (q1l q2w [] (evs [(e2 ixD (q0i 0) (e2 x8t (q0i 2) (eC (.int 1))))])))) (eT (e2 x9j (e2 ixD (q0i 3) (eC (.int 0))) (e2 ixD (e2 ixD (q0i 0) (e2 x8t (q0i 2) (eC (.int 1)))) (eC (.int 0)))))))) (q6w (eIm (z2H 1 .here (evs [(q0i 3)]) q3b))) q2V))
  (z6i 1 (q2D (eIm (q0i 1))))))
noncomputable def q4h:List Dat→Option Cell:=fnP 1 3 q9b
theorem sc_columns:L2.FnScope ["schema","name","table","keys","others"] ["schema","name"] (Q0B q5v):=fsc (by decide +kernel)
noncomputable def q9c:SD:=(q1E (q9u (q6r (q0i 0)) (.tp [(.nm 2),(.nm 3),(.nm 4)]) (sIf (eT (e2 eqD (q0i 2) (q0i 1))) (q2D (eIm (z1n (evs [(q0i 3),(q0i 4)])))) q2V))
  (q2D (eIm (eC .non))))
noncomputable def q1z:List Dat→Option Cell:=fnP 2 3 q9c
theorem sc_are_integers:L2.FnScope ["thing","many","part"] ["thing","many"] (Q0B q2E):=fsc (by decide +kernel)
noncomputable def q6g:SD:=(q2D (eIm (z3R (e1 (isT .tuple) (q0i 0)) (z3R (e2 eqD (eA (q4X z1p) (evs [(q0i 0)])) (q0i 1)) (eA (q4X x3h) (evs [(q1d (q3Q (q6r (q0i 0)) (.nm 2) z1y (q1d (q1l q1n [] (evs [(q0i 2)]))) [2]))]))))))
noncomputable def q1L:List Dat→Option Cell:=fnP 2 1 q6g
theorem sc_is_fact:L2.FnScope ["schema","thing","found"] ["schema","thing"] (Q0B q5w):=fsc (by decide +kernel)
noncomputable def z2n:SD:=(q1E (sIf (q9t (q4P (eT (e1 (isT .tuple) (q0i 1)))) (q9t (eT (e2 neD (eA (q4X z1p) (evs [(q0i 1)])) (eC (.int 2)))) (q4P (eT (e1 (isT .str) (e2 ixD (q0i 1) (eC (.int 0)))))))) (q2D (eIm (eC (.bl false)))) q2V)
  (q1E (q4a 2 (eIm (q1d (q1l q1z [] (evs [(q0i 0),(e2 ixD (q0i 1) (eC (.int 0)))])))))
  (q2D (eIm (z3R (e2 x3d (q0i 2) (eC .non)) (q1d (q1l q1L [] (evs [(e2 ixD (q0i 1) (eC (.int 1))),(e2 q5t (e2 ixD (q0i 2) (eC (.int 0))) (e2 ixD (q0i 2) (eC (.int 1))))]))))))))
noncomputable def q2J:List Dat→Option Cell:=fnP 2 1 z2n
theorem sc_is_block:L2.FnScope ["schema","thing","found"] ["schema","thing"] (Q0B q4H):=fsc (by decide +kernel)
noncomputable def q7f:SD:=(q1E (sIf (q9t (q4P (eT (e1 (isT .tuple) (q0i 1)))) (q9t (eT (e2 neD (eA (q4X z1p) (evs [(q0i 1)])) (eC (.int 2)))) (q4P (eT (e1 (isT .str) (e2 ixD (q0i 1) (eC (.int 0)))))))) (q2D (eIm (eC (.bl false)))) q2V)
  (q1E (q4a 2 (eIm (q1d (q1l q1z [] (evs [(q0i 0),(e2 ixD (q0i 1) (eC (.int 0)))])))))
  (q2D (eIm (z3R (e2 x3d (q0i 2) (eC .non)) (q1d (q1l q1L [] (evs [(e2 ixD (q0i 1) (eC (.int 1))),(e2 ixD (q0i 2) (eC (.int 0)))]))))))))
noncomputable def q2f:List Dat→Option Cell:=fnP 2 1 q7f
theorem z3r:L2.FnScope ["schema","fact"] ["schema","fact"] (Q0B q4I):=fsc (by decide +kernel)
noncomputable def q9Z:SD:=(q2D (eIm (z1n (evs [(e2 ixD (q0i 1) (eC (.int 0))),(eSl (e2 ixD (q0i 1) (eC (.int 1))) (q2M none) (q3i (e2 ixD (q1d (q1l q1z [] (evs [(q0i 0),(e2 ixD (q0i 1) (eC (.int 0)))]))) (eC (.int 0)))))]))))
noncomputable def q1H:List Dat→Option Cell:=fnP 2 0 q9Z
theorem sc_integer_in:L2.FnScope ["word","digits","sign"] ["word"] (Q0B q3p):=fsc (by decide +kernel)
noncomputable def q7B:SD:=(q1E (q4a 1 (eIm (x8F (q0i 0) (eC (.str "-")))))
  (q1E (sIf (q9t (eT (e2 eqD (q0i 1) (eC (.str "")))) (q4P (eT (eA (q4X x3h) (evs [(q1d (q3Q (x6l (q0i 1)) (.nm 2) z1y (e2 x6b (q0i 2) (eC (.str "0123456789"))) [2]))]))))) (q2D (eIm (eC .non))) q2V)
  (q1E (sIf (z0m (eT (e2 eqD (e2 x4d (q0i 1) (eC (.int 0))) (eC (.str "0")))) (eT (e2 neD (q0i 0) (eC (.str "0"))))) (q2D (eIm (eC .non))) q2V)
  (q2D (eIm (eA (q4X x8G) (evs [(q0i 0)])))))))
noncomputable def q1w:List Dat→Option Cell:=fnP 1 2 q7B
theorem z3s:L2.FnScope ["text"] ["text"] (Q0B q4J):=fsc (by decide +kernel)
noncomputable def z0a:SD:=(q1E (sIf (q4P (eT (e1 (isT .str) (q0i 0)))) sNo q2V)
  (q2D (eIm (e2 q8D (q0i 0) (eC (.str "\n"))))))
noncomputable def q4T:List Dat→Option Cell:=fnP 1 0 z0a
theorem z3t:L2.FnScope ["word","name","parts","keys"] ["word","name","parts","keys"] (Q0B q4K):=fsc (by decide +kernel)
noncomputable def z0b:SD:=(q2D (eIm (z3o (eC (.str " ")) (q1d (eOl (z5l (q0i 0) (z5l (q0i 1) (z1D (eSl (q0i 2) (q2M none) (q3i (q0i 3))) (z5l (eC (.str "|")) (z1D (eSl (q0i 2) (q3i (q0i 3)) (q2M none)) (evs [])))))))))))
noncomputable def q4U:List Dat→Option Cell:=fnP 4 0 z0b
theorem sc_row_in:L2.FnScope ["words","keys","others","reader","parts","word"] ["words","keys","others","reader"] (Q0B q6s):=fsc (by decide +kernel)
noncomputable def z4P:SD:=(q1E (sIf (q9t (eT (e2 neD (eA (q4X z1p) (evs [(q0i 0)])) (e2 q5t (e2 q5t (q0i 1) (eC (.int 1))) (q0i 2)))) (eT (e2 neD (e2 ixD (q0i 0) (q0i 1)) (eC (.str "|"))))) (q2D (eIm (eC .non))) q2V)
  (q1E (q4a 4 (eIm (q1d (q3Q (q6r (e2 q5t (eSl (q0i 0) (q2M none) (q3i (q0i 1))) (eSl (q0i 0) (q3i (e2 q5t (q0i 1) (eC (.int 1)))) (q2M none)))) (.nm 5) z1y (q1d (z2j "integer_in" q1w [] 3 (evs [(q0i 5)]))) [5]))))
  (q2D (eIm (eIf (eT (e2 x1Q (eC .non) (q0i 4))) (eC .non) (eA (q4X z5p) (evs [(q0i 4)])))))))
noncomputable def q6N:List Dat→Option Cell:=fnP 4 2 z4P
theorem sc_show_store:L2.FnScope ["schema","facts","lines","name","keys","others","row","value"] ["schema","facts"] (Q0B q3q):=fsc (by decide +kernel)
noncomputable def q7C:SD:=(q1E (q4a 2 (q3Q (q6r (q0i 0)) (.tp [(.nm 3),(.nm 4),(.nm 5)]) z1y (eJs [(eC (.str "table ")),(e1 x2f (q0i 3)),(eC (.str " ")),(e1 x2f (q0i 4)),(eC (.str " ")),(e1 x2f (q0i 5))] Str.empty) [3,4,5]))
  (q1E (q9u (q6r (q0i 1)) (.tp [(.nm 3),(.nm 6)]) (q6w (eIm (z2H 2 .here (evs [(q1d (q1l q4U [] (evs [(eC (.str "fact")),(q0i 3),(q1d (q3Q (q6r (q0i 6)) (.nm 7) z1y (eA (q4X x7d) (evs [(q0i 7)])) [7])),(e2 ixD (q1d (q1l q1z [] (evs [(q0i 0),(q0i 3)]))) (eC (.int 0)))])))]) q3b))))
  (z6i 2 (q2D (eIm (z3o (eC (.str "\n")) (q0i 2)))))))
noncomputable def q3D:List Dat→Option Cell:=fnP 2 6 q7C
theorem sc_table_in:L2.FnScope ["words","table"] ["words"] (Q0B q4L):=fsc (by decide +kernel)
noncomputable def q7g:SD:=(q1E (sIf (q9t (eT (e2 neD (eA (q4X z1p) (evs [(q0i 0)])) (eC (.int 4)))) (eT (e2 neD (e2 ixD (q0i 0) (eC (.int 0))) (eC (.str "table"))))) (q2D (eIm (eC .non))) q2V)
  (q1E (q4a 1 (eIm (z1n (evs [(e2 ixD (q0i 0) (eC (.int 1))),(q1d (q1l q1w [] (evs [(e2 ixD (q0i 0) (eC (.int 2)))]))),(q1d (q1l q1w [] (evs [(e2 ixD (q0i 0) (eC (.int 3)))])))]))))
  (q2D (eIm (eIf (eT (q1d (q1l q2w [] (evs [(q0i 1)])))) (q0i 1) (eC .non))))))
noncomputable def q3k:List Dat→Option Cell:=fnP 1 1 q7g
theorem sc_fact_in:L2.FnScope ["schema","words","found","row"] ["schema","words"] (Q0B q5x):=fsc (by decide +kernel)
noncomputable def z2o:SD:=(q1E (q4a 2 (eIm (eIf (eT (e2 x6p (q0i 1) (q1d (eOl (evs []))))) (q1d (q1l q1z [] (evs [(q0i 0),(e2 ixD (q0i 1) (eC (.int 0)))]))) (eC .non))))
  (q1E (sIf (eT (e2 isN (q0i 2) (eC .non))) (q2D (eIm (eC .non))) q2V)
  (q1E (q4a 3 (eIm (q1d (q1l q6N [] (evs [(eSl (q0i 1) (q3i (eC (.int 1))) (q2M none)),(e2 ixD (q0i 2) (eC (.int 0))),(e2 ixD (q0i 2) (eC (.int 1))),(eC (.opq (some "integer_in")))])))))
  (q2D (eIm (eIf (eT (e2 isN (q0i 3) (eC .non))) (eC .non) (z1n (evs [(e2 ixD (q0i 1) (eC (.int 0))),(q0i 3)]))))))))
noncomputable def q4V:List Dat→Option Cell:=fnP 2 2 z2o
theorem q7Q:L2.FnScope ["tables","table"] ["tables","table"] (Q0B q2k):=fsc (by decide +kernel)
noncomputable def q4i:SD:=(q1E (sIf (q9t (eT (e2 isN (q0i 1) (eC .non))) (eT (e2 eqD (eA (q4X z1p) (evs [(q0i 0)])) (eC (.int 6))))) (q2D (eIm (eC (.bl false)))) q2V)
  (q2D (eIm (eOr (e2 x6o (q0i 0) (q1d (eOl (evs [])))) (e2 x9l (e2 ixD (e2 ixD (q0i 0) (e1 x4Y (eC (.int 1)))) (eC (.int 0))) (e2 ixD (q0i 1) (eC (.int 0))))))))
noncomputable def q1A:List Dat→Option Cell:=fnP 2 0 q4i
theorem sc_read_store:L2.FnScope ["text","tables","facts","at","line","words","table","fact"] ["text"] (Q0B q3r):=fsc (by decide +kernel)
noncomputable def q7D:SD:=(q1E (z9s 1 2 (eOl (evs [])) (eOl (evs [])))
  (q1E (q9u (z9w (evs [(q1d (q1l q4T [] (evs [(q0i 0)])))])) (.tp [(.nm 3),(.nm 4)]) (q1E (q4a 5 (eIm (e2 q8D (q0i 4) (eC (.str " ")))))
  (q1E (q4a 6 (eIm (q1d (q1l q3k [] (evs [(q0i 5)])))))
  (q1E (q4a 7 (eIm (eIf (eT (e2 eqD (e2 ixD (q0i 5) (eC (.int 0))) (eC (.str "fact")))) (q1d (x0R 1 (q1l q4V [] (evs [(q0i 1),(eSl (q0i 5) (q3i (eC (.int 1))) (q2M none))])))) (eC .non))))
  (sIf (z0m (q6v (eT (e2 x6o (q0i 2) (q1d (eOl (evs [])))))) (eT (q1d (x0R 1 (q1l q1A [] (evs [(q0i 1),(q0i 6)])))))) (q6w (eIm (z2H 1 .here (evs [(q0i 6)]) q3b))) (sIf (z0m (eT (e2 x3d (q0i 7) (eC .non))) (q9t (q6v (eT (e2 x6o (q0i 2) (q1d (eOl (evs [])))))) (q6v (eT (e2 x7g (e2 ixD (q0i 2) (e1 x4Y (eC (.int 1)))) (q0i 7)))))) (q6w (eIm (z2H 2 .here (evs [(q0i 7)]) q3b))) sNo))))))
  (z6i 2 (z6i 1 (q2D (eIm (z1n (evs [(eA (q4X z5p) (evs [(q0i 1)])),(eA (q4X z5p) (evs [(q0i 2)]))]))))))))
noncomputable def q3E:List Dat→Option Cell:=fnP 1 7 q7D
theorem sc_facts_by_block:L2.FnScope ["schema","facts","found","fact","block"] ["schema","facts"] (Q0B q1V):=fsc (by decide +kernel)
noncomputable def q5o:SD:=(q1E (q4a 2 x9c)
  (q1E (q9u (q6r (q0i 1)) (.nm 3) (q6w (eIm (q7a 2 (q1d (q1l q1H [] (evs [(q0i 0),(q0i 3)]))) (q0i 3)))))
  (z6i 2 (q2D (x5e (z2c (q0i 2)) (.nm 4) z1y (q0i 4) (eA (q4X z5p) (evs [(e2 dgX (q0i 2) (q0i 4))])) [4])))))
noncomputable def q2d:List Dat→Option Cell:=fnP 2 3 q5o
theorem sc_Store_init:L2.FnScope ["self","schema","facts","bad","fact"] ["self","schema","facts"] (Q0B q0R):=fsc (by decide +kernel)
noncomputable def q7E:SD:=(q1E (sIf (q4P (eT (q1d (q1l q4S [] (evs [(q0i 1)]))))) sNo q2V)
  (q1E (q9u (q6r (eSl (q1d (q1l q4h [] (evs [(q0i 1)]))) (q2M none) (q3i (eC (.int 1))))) (.nm 3) sNo)
  (q1E (sIf (q4P (eT (e1 (isT .tuple) (q0i 2)))) sNo q2V)
  (q1E (q9u (q6r (q0i 2)) (.nm 4) (sIf (q4P (eT (q1d (q1l q2J [] (evs [(q0i 1),(q0i 4)]))))) sNo q2V))
  (q1E (z2X 0 "Store" "schema" (eIm (q0i 1)))
  (q1E (z2X 0 "Store" "all_facts" (eIm (eA (q4X z5p) (evs [(q9R (q0i 2))]))))
  (z2X 0 "Store" "by_block" (eIm (q1d (q1l q2d [] (evs [(q0i 1),(z5G 0 "Store" "all_facts")])))))))))))
noncomputable def q0K:Cell→List Dat→Option (Cell × Cell):=fnO 2 2 q7E
noncomputable def q4j:Cell→List Dat→Option (Cell × Cell):=fun o ds=>q0K o (ds ++ [.tup []])
theorem q9y:L2.FnScope ["self"] ["self"] (Q0B q1I):=fsc (by decide +kernel)
noncomputable def q6O:SD:=(q2D (eIm (e1 (q6y "Store" "all_facts") (q0i 0))))
noncomputable def q2x:List Dat→Option Cell:=fnP 1 0 q6O
theorem z1b:L2.FnScope ["self"] ["self"] (Q0B q1S):=fsc (by decide +kernel)
noncomputable def q7F:SD:=(q2D (q1l q3D [] (evs [(e1 (q6y "Store" "schema") (q0i 0)),(e1 (q6y "Store" "all_facts") (q0i 0))])))
noncomputable def q1o:List Dat→Option Cell:=fnP 1 0 q7F
theorem q7h:L2.FnScope ["self","fact"] ["self","fact"] (Q0B q1W):=fsc (by decide +kernel)
noncomputable def q5p:SD:=(q2D (eIm (z3R (q1d (q1l q2J [] (evs [(e1 (q6y "Store" "schema") (q0i 0)),(q0i 1)]))) (e2 x8B (q0i 1) (e1 (q6y "Store" "all_facts") (q0i 0))))))
noncomputable def q0F:List Dat→Option Cell:=fnP 2 0 q5p
theorem z3u:L2.FnScope ["self","other"] ["self","other"] (Q0B q4M):=fsc (by decide +kernel)
noncomputable def z0c:SD:=(q2D (eIm (z3R (e1 (isI "Store") (q0i 1)) (e2 eqD (z1n (evs [(e1 (q6y "Store" "schema") (q0i 0)),(e1 (q6y "Store" "all_facts") (q0i 0))])) (z1n (evs [(e1 (q6y "Store" "schema") (q0i 1)),(e1 (q6y "Store" "all_facts") (q0i 1))]))))))
noncomputable def q1y:List Dat→Option Cell:=fnP 2 0 z0c
theorem q7i:L2.FnScope ["self","fact"] ["self","fact"] (Q0B q1Y):=fsc (by decide +kernel)
noncomputable def q5q:SD:=(q1E (sIf (q4P (eT (q1d (q1l q2J [] (evs [(e1 (q6y "Store" "schema") (q0i 0)),(q0i 1)]))))) sNo q2V)
  (q2D (q1l q1H [] (evs [(e1 (q6y "Store" "schema") (q0i 0)),(q0i 1)]))))
noncomputable def q1q:List Dat→Option Cell:=fnP 2 0 q5q
theorem q7j:L2.FnScope ["self","block"] ["self","block"] (Q0B q1Z):=fsc (by decide +kernel)
noncomputable def q5r:SD:=(q2D (eIm (eIf (eT (q1d (q1l q2f [] (evs [(e1 (q6y "Store" "schema") (q0i 0)),(q0i 1)])))) (e3 z3f (e1 (q6y "Store" "by_block") (q0i 0)) (q0i 1) (z1n (evs []))) (z1n (evs [])))))
noncomputable def q2e:List Dat→Option Cell:=fnP 2 0 q5r
theorem q9d:L2.FnScope ["self","facts"] ["self","facts"] (Q0B q2F):=fsc (by decide +kernel)
noncomputable def q6h:SD:=(q2D (q8y "Store" q0K (evs [(e1 (q6y "Store" "schema") (q0i 0)),(e2 z6L (e1 (q6y "Store" "all_facts") (q0i 0)) (q0i 1))])))
noncomputable def q4k:List Dat→Option Cell:=fnP 2 0 q6h
noncomputable def q2g:List Dat→Option Cell:=fun ds=>if 1 ≤ ds.length∧ds.length ≤ 1000 then q4k (ds.take 1 ++ [.tup (ds.drop 1)]) else none
theorem sc_Store_without:L2.FnScope ["self","facts","fact"] ["self","facts"] (Q0B q1k):=fsc (by decide +kernel)
noncomputable def q4l:SD:=(q1E (q9u (q6r (q0i 1)) (.nm 2) (sIf (eT (e2 (inI "Store" q0F true) (q0i 2) (q0i 0))) sNo q2V))
  (q2D (q8y "Store" q0K (evs [(e1 (q6y "Store" "schema") (q0i 0)),(eA (q4X z5p) (evs [(q1d (q3Q (q6r (e1 (q6y "Store" "all_facts") (q0i 0))) (.nm 2) (eT (e2 z9y (q0i 2) (q0i 1))) (q0i 2) [2]))]))]))))
noncomputable def q2L:List Dat→Option Cell:=fnP 2 1 q4l
noncomputable def q0X:List Dat→Option Cell:=fun ds=>if 1 ≤ ds.length∧ds.length ≤ 1000 then q2L (ds.take 1 ++ [.tup (ds.drop 1)]) else none
theorem sc_Store_settled_once:L2.FnScope ["self","fact","others","one"] ["self","fact"] (Q0B q1r):=fsc (by decide +kernel)
noncomputable def q3N:SD:=(q1E (q4a 2 (eIm (q1d (q3Q (q6r (q1d (q7O "Store" "facts_of" q2e (q0i 0) (evs [(q1d (q1l q1H [] (evs [(e1 (q6y "Store" "schema") (q0i 0)),(q0i 1)])))])))) (.nm 3) (eT (e2 neD (q0i 3) (q0i 1))) (q0i 3) [3]))))
  (q2D (z4H "Store" "without" q0X (q0i 0) (q0i 2))))
noncomputable def q1t:List Dat→Option Cell:=fnP 2 2 q3N
theorem sc_Store_settled:L2.FnScope ["self","facts","found","fact"] ["self","facts"] (Q0B q2l):=fsc (by decide +kernel)
noncomputable def q5P:SD:=(q1E (q4a 2 (eIm (q0i 0)))
  (q1E (q9u (q6r (q0i 1)) (.nm 3) (q1E (sIf (eT (e2 (inI "Store" q0F true) (q0i 3) (q0i 2))) sNo q2V)
  (q4a 2 (eIm (q1d (q7O "Store" "settled_once" q1t (q0i 2) (evs [(q0i 3)])))))))
  (q2D (eIm (q0i 2)))))
noncomputable def q3L:List Dat→Option Cell:=fnP 2 2 q5P
noncomputable def q1Q:List Dat→Option Cell:=fun ds=>if 1 ≤ ds.length∧ds.length ≤ 1000 then q3L (ds.take 1 ++ [.tup (ds.drop 1)]) else none
theorem sc_Store_part:L2.FnScope ["self","blocks","some","block","fact"] ["self","blocks"] (Q0B q3s):=fsc (by decide +kernel)
noncomputable def q7G:SD:=(q1E (q4a 2 (eIm (q1d (q3Q (q6r (q0i 1)) (.nm 3) (eT (q1d (q1l q2f [] (evs [(e1 (q6y "Store" "schema") (q0i 0)),(q0i 3)])))) (q0i 3) [3]))))
  (q2D (q8y "Store" q0K (evs [(e1 (q6y "Store" "schema") (q0i 0)),(eA (q4X z5p) (evs [(q1d (q3Q (q6r (e1 (q6y "Store" "all_facts") (q0i 0))) (.nm 4) (eT (e2 x1Q (q1d (q1l q1H [] (evs [(e1 (q6y "Store" "schema") (q0i 0)),(q0i 4)]))) (q0i 2))) (q0i 4) [4]))]))]))))
noncomputable def q5k:List Dat→Option Cell:=fnP 2 3 q7G
noncomputable def q2U:List Dat→Option Cell:=fun ds=>if 1 ≤ ds.length∧ds.length ≤ 1000 then q5k (ds.take 1 ++ [.tup (ds.drop 1)]) else none
theorem sc_Store_read:L2.FnScope ["cls","text","schema","facts"] ["cls","text"] (Q0B q1T):=fsc (by decide +kernel)
noncomputable def q7H:SD:=(q1E (x3j (.tp [(.nm 2),(.nm 3)]) (q1d (q1l q3E [] (evs [(q0i 1)]))))
  (q2D (z2k "Store" q0K 0 (evs [(q0i 2),(q0i 3)]))))
noncomputable def q1x:List Dat→Option Cell:=fnP 2 2 q7H
theorem sc_law_purse:L2.FnScope ["_law_script","_law_cells","_law_mixed","_law_cell"] ["_law_script"] (Q0B q3U):=fsc (by decide +kernel)
noncomputable def q9e:SD:=(q1E (z9s 1 2 (eIm (eA (q4X x5a) (evs [(eSl (q0i 0) (q2M none) (q3i (eC (.int 63))))]))) (eIm (eC (.int 98834))))
  (q1E (q9u (q6r (q0i 1)) (.nm 3) (q4a 2 (eIm (e2 z5Y (e2 q5t (e2 q5t (e2 z5X (q0i 2) (eC (.int 48271))) (e2 z5Y (q0i 3) (eC (.int 2147483629)))) (eC (.int 41))) (eC (.int 2147483587))))))
  (q2D (q9S (eC (.str "cells")) (z9t (q0i 1)) [((eC (.str "mixed")),(q0i 2)),((eC (.str "draws")),(eC (.int 0)))]))))
noncomputable def q4m:List Dat→Option Cell:=fnP 1 3 q9e
theorem sc_law_take:L2.FnScope ["_law_purse_here","_law_many","_law_number","_law_cell"] ["_law_purse_here","_law_many"] (Q0B q4N):=fsc (by decide +kernel)
noncomputable def z0d:SD:=(q1E (q9T 0 "draws" (e2 q5t (q8q (e2 dgD (q0i 0) (eC (.str "draws")))) (eC (.int 1))))
  (q1E (q4a 2 (eIm (e2 q5t (q8q (e2 dgD (q0i 0) (eC (.str "mixed")))) (e2 z5X (e2 z5X (eC (.int 57001)) (q8q (e2 dgD (q0i 0) (eC (.str "draws"))))) (q8q (e2 dgD (q0i 0) (eC (.str "draws"))))))))
  (q1E (sIf (q6v (eT (e2 x6p (e2 dgD (q0i 0) (eC (.str "cells"))) (q1d (eOl (evs [])))))) (q1E (q4a 3 (eIm (z2H 0 (.key (.inr "cells")) (evs []) x2V)))
  (q1E (sIf (eT (e2 (z2U geI) (q0i 3) (e2 x4X (eC (.int 10)) (eC (.int 18))))) (q1E (q6w (eIm (z2H 0 (.key (.inr "cells")) (evs [(e2 x4W (q0i 3) (q0i 1))]) q3b)))
  (q2D (eIm (e2 z5Y (q0i 3) (q0i 1))))) q2V)
  (q4a 2 (eIm (e2 q5t (q0i 2) (q0i 3)))))) q2V)
  (q1E (q4a 2 (eIm (e2 z5Y (e2 z5X (e2 z5Y (q0i 2) (eC (.int 2147483629))) (eC (.int 40692))) (eC (.int 2147483647)))))
  (q1E (q4a 2 (eIm (e2 z5Y (e2 q5t (e2 q5t (e2 z5X (q0i 2) (q0i 2)) (e2 z5X (eC (.int 39373)) (q8q (e2 dgD (q0i 0) (eC (.str "draws")))))) (eC (.int 11))) (eC (.int 2147483587)))))
  (q2D (eIm (e2 z5Y (e2 x4W (e2 z5Y (e2 z5X (q0i 2) (eC (.int 69621))) (eC (.int 2147483563))) (eC (.int 64))) (q0i 1)))))))))
noncomputable def q1a:Cell→List Dat→Option (Cell × Cell):=fnO 1 2 z0d
theorem z5H:L2.FnScope ["_law_purse_here","_law_some"] ["_law_purse_here","_law_some"] (Q0B q5y):=fsc (by decide +kernel)
noncomputable def q9f:SD:=(q2D (eIm (e2 ixD (q0i 1) (q1d (q2n q1a [] 0 (evs [(eA (q4X z1p) (evs [(q0i 1)]))]))))))
noncomputable def q1R:Cell→List Dat→Option (Cell × Cell):=fnO 1 0 q9f
theorem sc_law_names:L2.FnScope ["_law_purse_here","_law_many","_law_some","_law_found","_law_k"] ["_law_purse_here","_law_many"] (Q0B q3V):=fsc (by decide +kernel)
noncomputable def q9g:SD:=(q1E (q4a 2 (eOl (evs [(eC (.str "a")),(eC (.str "ab")),(eC (.str "abc")),(eC (.str "b")),(eC (.str "fact")),(eC (.str "row")),(eC (.str "table")),(eC (.str "want")),(eC (.str "z")),(eC (.str "zz")),(eC (.str "zzzzzzzy")),(eC (.str "zzzzzzzz"))])))
  (q1E (q4a 3 (eOl (evs [])))
  (q1E (q9u (z2P (evs [(q0i 1)])) (.nm 4) (q6w (eIm (z2H 3 .here (evs [(z5r 2 (evs [(q1d (q2n q1a [] 0 (evs [(q8q (eA (q4X z1p) (evs [(q0i 2)])))])))]) q9I)]) q3b))))
  (z6i 3 (q2D (eIm (eA (q4X z6C) (evs [(q0i 3)]))))))))
noncomputable def q4n:Cell→List Dat→Option (Cell × Cell):=fnO 1 3 q9g
theorem sc_law_schema:L2.FnScope ["_law_purse_here","_law_most","_law_tables","_law_name","_law_keys","_law_others"] ["_law_purse_here","_law_most"] (Q0B q3t):=fsc (by decide +kernel)
noncomputable def q7I:SD:=(q1E (q4a 2 (eOl (evs [])))
  (q1E (q9u (q6r (q1d (q2n q4n [] 0 (evs [(e2 q5t (eC (.int 1)) (q1d (q2n q1a [] 0 (evs [(q0i 1)]))))])))) (.nm 3) (q1E (z9s 4 5 (eIm (q1d (q2n q1a [] 0 (evs [(eC (.int 5))])))) (eIm (q1d (q2n q1a [] 0 (evs [(eC (.int 5))])))))
  (q6w (eIm (z2H 2 .here (evs [(z1n (evs [(q0i 3),(eIf (eT (e2 (z2U gtI) (e2 q5t (q0i 4) (q0i 5)) (eC (.int 0)))) (q0i 4) (eC (.int 1))),(q0i 5)]))]) q3b)))))
  (z6i 2 (q2D (eIm (eA (q4X z5p) (evs [(q0i 2)])))))))
noncomputable def q3F:Cell→List Dat→Option (Cell × Cell):=fnO 1 4 q7I
theorem sc_law_integer:L2.FnScope ["_law_purse_here","_law_scale","_law_number"] ["_law_purse_here"] (Q0B q2Y):=fsc (by decide +kernel)
noncomputable def q6P:SD:=(q1E (q4a 1 (eIm (q1d (q2n q1R [] 0 (evs [(q1d (eOl (evs [(eC (.int 1)),(eC (.int 1)),(eC (.int 1)),(eC (.int 10)),(eC (.int 1000003)),(e2 q5t (e2 x4X (eC (.int 10)) (eC (.int 12))) (eC (.int 39))),(e2 q5t (e2 x4X (eC (.int 10)) (eC (.int 24))) (eC (.int 7)))])))])))))
  (q1E (q4a 2 (eIm (e2 q5t (e2 z5X (q1d (q2n q1a [] 0 (evs [(q1d (q2n q1R [] 0 (evs [(q1d (eOl (evs [(eC (.int 2)),(eC (.int 10)),(eC (.int 1000000))])))])))]))) (q0i 1)) (e2 z5X (q1d (q2n q1a [] 0 (evs [(eC (.int 10))]))) (eA (q4X x8U) (evs [(e2 (z2U gtI) (q0i 1) (eC (.int 1)))]))))))
  (q2D (eIm (eIf (eT (e2 eqD (q1d (q2n q1a [] 0 (evs [(eC (.int 3))]))) (eC (.int 0)))) (e1 x4Y (q0i 2)) (q0i 2))))))
noncomputable def q3f:Cell→List Dat→Option (Cell × Cell):=fnO 0 2 q6P
theorem sc_law_facts:L2.FnScope ["_law_purse_here","_law_schema_here","_law_many","_law_found","_law_k","_law_name","_law_keys","_law_others","_law_row","_law_j","_law_same","_law_fact"] ["_law_purse_here","_law_schema_here","_law_many"] (Q0B q3W):=fsc (by decide +kernel)
noncomputable def q9h:SD:=(q1E (q4a 3 (eOl (evs [])))
  (q1E (q9u (z2P (evs [(q0i 2)])) (.nm 4) (q1E (x3j (.tp [(.nm 5),(.nm 6),(.nm 7)]) (q1d (q2n q1R [] 0 (evs [(q0i 1)]))))
  (q1E (q4a 8 (eIm (q1d (q3Q (z2P (evs [(e2 q5t (q0i 6) (q0i 7))])) (.nm 9) z1y (q1d (q8x q3f 0)) [9]))))
  (q1E (q4a 10 (eIm (q1d (x0R 3 (q3Q (q6r (q0i 3)) (.nm 11) (eT (e2 eqD (e2 ixD (q0i 11) (eC (.int 0))) (q0i 5))) (e2 ixD (q0i 11) (eC (.int 1))) [11])))))
  (q1E (sIf (z0m (eT (e2 x6p (q0i 10) (q1d (eOl (evs []))))) (eT (e2 eqD (q1d (q2n q1a [] 0 (evs [(eC (.int 2))]))) (eC (.int 0))))) (q4a 8 (eIm (e2 q5t (eA (q4X x5a) (evs [(eSl (q1d (q2n q1R [] 0 (evs [(q0i 10)]))) (q2M none) (q3i (q0i 6)))])) (eSl (q0i 8) (q3i (q0i 6)) (q2M none))))) q2V)
  (q6w (eIm (z2H 3 .here (evs [(z1n (evs [(q0i 5),(eA (q4X z5p) (evs [(q0i 8)]))]))]) q3b))))))))
  (z6i 3 (q2D (eIm (q9R (q0i 3)))))))
noncomputable def q4o:Cell→List Dat→Option (Cell × Cell):=fnO 2 9 q9h
theorem sc_law_written:L2.FnScope ["_law_number","_law_digits","_law_left"] ["_law_number"] (Q0B q2Z):=fsc (by decide +kernel)
noncomputable def q6Q:SD:=(q1E (z9s 1 2 (eIm (eC (.str ""))) (eIm (eA (q4X x8D) (evs [(q0i 0)]))))
  (q1E (q8s (q9t (eT (e2 (z2U gtI) (q0i 2) (eC (.int 0)))) (eT (e2 eqD (q0i 1) (eC (.str ""))))) (z9s 1 2 (eIm (e2 q5t (e2 x4d (eC (.str "0123456789")) (e2 z5Y (q0i 2) (eC (.int 10)))) (q0i 1))) (eIm (e2 x4W (q0i 2) (eC (.int 10))))))
  (q2D (eIm (eIf (eT (e2 (z2U ltI) (q0i 0) (eC (.int 0)))) (e2 q5t (eC (.str "-")) (q0i 1)) (q0i 1))))))
noncomputable def q2y:List Dat→Option Cell:=fnP 1 2 q6Q
theorem sc_law_text:L2.FnScope ["_law_schema_here","_law_facts_here","_law_lines","_law_name","_law_keys","_law_others","_law_table","_law_row","_law_one_here","_law_words","_law_value"] ["_law_schema_here","_law_facts_here"] (Q0B q4O):=fsc (by decide +kernel)
noncomputable def z0e:SD:=(q1E (q4a 2 (q3Q (q6r (q0i 0)) (.tp [(.nm 3),(.nm 4),(.nm 5)]) z1y (e2 q5t (e2 q5t (e2 q5t (e2 q5t (e2 q5t (eC (.str "table ")) (q0i 3)) (eC (.str " "))) (eA (q4X x7d) (evs [(q0i 4)]))) (eC (.str " "))) (eA (q4X x7d) (evs [(q0i 5)]))) [3,4,5]))
  (q1E (q9u (q6r (q0i 1)) (.tp [(.nm 6),(.nm 7)]) (q1E (q4a 4 (eIm (e2 ixD (q1d (q3Q (q6r (q0i 0)) (.nm 8) (eT (e2 eqD (e2 ixD (q0i 8) (eC (.int 0))) (q0i 6))) (e2 ixD (q0i 8) (eC (.int 1))) [8])) (eC (.int 0)))))
  (q1E (q4a 9 (eIm (e2 q5t (e2 q5t (q1d (eOl (evs [(eC (.str "fact")),(q0i 6)]))) (q1d (q3Q (q6r (eSl (q0i 7) (q2M none) (q3i (q0i 4)))) (.nm 10) z1y (q1d (q1l q2y [] (evs [(q0i 10)]))) [10]))) (q1d (eOl (evs [(eC (.str "|"))]))))))
  (q6w (eIm (z2H 2 .here (evs [(z3o (eC (.str " ")) (e2 q5t (q0i 9) (q1d (q3Q (q6r (eSl (q0i 7) (q3i (q0i 4)) (q2M none))) (.nm 10) z1y (q1d (q1l q2y [] (evs [(q0i 10)]))) [10]))))]) q3b))))))
  (z6i 2 (q2D (eIm (z3o (eC (.str "\n")) (q0i 2)))))))
noncomputable def q2z:List Dat→Option Cell:=fnP 2 9 z0e
theorem sc_law_right:L2.FnScope ["_law_purse_here","_law_schema_here","_law_facts_here","_law_store","_law_due","_law_again","_law_fact","_law_block","_law_left","_law_one_here","_law_fewer","_law_same"] ["_law_purse_here","_law_schema_here","_law_facts_here"] (Q0B q3Y):=fsc (by decide +kernel)
noncomputable def q9i:SD:=(q1E (x3j (.tp [(.nm 3),(.nm 4)]) (z1n (evs [(q1d (q8y "Store" q0K (evs [(q0i 1),(eA (q4X z5p) (evs [(e1 x8S (q0i 2))]))]))),(q1d (q1l q2z [] (evs [(q0i 1),(q0i 2)])))])))
  (q1E (sIf (eT (e2 neD (eA (q4X rpA) (evs [(q1d (q9w "Store" q1o (q0i 3)))])) (eA (q4X rpA) (evs [(q0i 4)])))) (q2D (eIm (eC (.bl false)))) q2V)
  (q1E (q9u (q6r (z1n (evs [(q1d (q7A "Store" q1x (evs [(q0i 4)]))),(q1d (q7A "Store" q1x (evs [(q0i 4)])))]))) (.nm 5) (q1E (sIf (q9t (q4P (eT (e2 (eqI "Store" q1y false) (q0i 5) (q0i 3)))) (eT (e2 neD (eA (q4X rpA) (evs [(z1n (evs [(e1 (q6y "Store" "schema") (q0i 5)),(q1d (q9w "Store" q2x (q0i 5)))]))])) (eA (q4X rpA) (evs [(z1n (evs [(q0i 1),(eA (q4X z5p) (evs [(q0i 2)]))]))]))))) (q2D (eIm (eC (.bl false)))) q2V)
  (sIf (eT (e2 neD (q1d (q9w "Store" q1o (q0i 5))) (q0i 4))) (q2D (eIm (eC (.bl false)))) q2V)))
  (q1E (q9u (q6r (e2 q5t (eSl (q0i 2) (q2M none) (q3i (eC (.int 3)))) (eSl (q0i 2) (q3i (e1 x4Y (eC (.int 1)))) (q2M none)))) (.nm 6) (q1E (q4a 7 (eIm (q1d (q7O "Store" "block_of" q1q (q0i 3) (evs [(q0i 6)])))))
  (q1E (q4a 8 (eIm (q1d (q3Q (q6r (q0i 2)) (.nm 9) (q9t (eT (e2 eqD (q0i 9) (q0i 6))) (eT (e2 neD (q1d (q7O "Store" "block_of" q1q (q0i 3) (evs [(q0i 9)]))) (q0i 7)))) (q0i 9) [9]))))
  (q1E (q4a 10 (eIm (q1d (q7O "Store" "without" q0X (q0i 3) (evs [(q0i 6)])))))
  (q1E (sIf (q9t (eT (e2 neD (q1d (q9w "Store" q1o (q1d (q7O "Store" "settled" q1Q (q0i 3) (evs [(q0i 6)]))))) (q1d (q1l q2z [] (evs [(q0i 1),(q0i 8)]))))) (q9t (eT (e2 eqD (q1d (q9w "Store" q1o (q0i 10))) (q0i 4))) (eT (e2 neD (q1d (q9w "Store" q1o (q1d (q7O "Store" "joined" q2g (q0i 10) (evs [(q0i 6)]))))) (q0i 4))))) (q2D (eIm (eC (.bl false)))) q2V)
  (q1E (q4a 11 (eIm (q1d (q3Q (q6r (q0i 2)) (.nm 9) (eT (e2 eqD (q1d (q7O "Store" "block_of" q1q (q0i 3) (evs [(q0i 9)]))) (q0i 7))) (q0i 9) [9]))))
  (sIf (eT (e2 neD (q1d (q9w "Store" q1o (q1d (q7O "Store" "part" q2U (q0i 3) (evs [(q0i 7)]))))) (q1d (q1l q2z [] (evs [(q0i 1),(q0i 11)]))))) (q2D (eIm (eC (.bl false)))) q2V)))))))
  (q2D (eIm (e2 (eqI "Store" q1y false) (q1d (q7A "Store" q1x (evs [(q1d (q1l q2z [] (evs [(q0i 1),(q1d (eOl (evs [])))])))]))) (q1d (q8y "Store" q4j (evs [(q0i 1)]))))))))))
noncomputable def q4p:Cell→List Dat→Option (Cell × Cell):=fnO 2 9 q9i
theorem sc_law:L2.FnScope ["_law_script","_law_purse_here","_law_turn","_law_schema_here"] ["_law_script"] (Q0B z5k):=fsc (by decide +kernel)
noncomputable def x7q:SD:=(q1E (q4a 1 (q1l q4m [] (evs [(q0i 0)])))
  (q1E (q9u (z2P (evs [(eC (.int 4))])) (.nm 2) (q1E (q4a 3 (eIm (q1d (q2n q3F [] 1 (evs [(eC (.int 6))])))))
  (sIf (q4P (eT (q1d (q2n q4p [] 1 (evs [(q0i 3),(q1d (q2n q4o [] 1 (evs [(q0i 3),(q1d (q2n q1R [] 1 (evs [(q1d (eOl (evs [(eC (.int 0)),(eC (.int 1)),(eC (.int 6)),(eC (.int 18)),(eC (.int 40)),(eC (.int 200))])))])))])))]))))) (q2D (eIm (eC (.bl false)))) q2V)))
  (q2D (eIm (eC (.bl true))))))
noncomputable def z5I:List Dat→Option Cell:=fnP 1 3 x7q
section
variable {c:Ct} {base:Heap} (T:Txt c) (sy:x1L base)
include T sy
theorem z1c  : OkP c base 1 "is_integer" "is_integer" q3o ["thing"] 1 q1n:=fun z=>fgP z z1a 0 fun A outer s H R=>
  (q0h (q0A (q0v (q5C (q5m .int (by decide +kernel) (by rfl) T.b_isinstance (by rfl) T.b_int (q0a 0)) (q6c (x5E (q5m .bool (by decide +kernel) (by rfl) T.b_isinstance (by rfl) T.b_bool (q0a 0))))))))
theorem z5J  : OkP c base 1 "is_name" "is_name" q5u ["thing"] 1 q5O:=fun z=>fgP z sc_is_name 1 fun A outer s H R=>
  (q0e (q2W (L2.PW.pt (q5s (q3u (q2S (q5m .str (by decide +kernel) (by rfl) T.b_isinstance (by rfl) T.b_str (q0a 0)))) (q4r (q3u (z9r Q4k Q4k (q4Q (p:=leI)) (q4Q (p:=leI)) q0k (q1p q4e (PureC.all q8B) (by rfl) T.b_len (by decide +kernel) (q0b (q0a 0) q0c)) (q5A (fun _=>.int _) (z1F (by rfl) T.g_LONGEST_NAME))))))) (q0h (q0A (q0v q7N))) q1g)
  (q0h (q0A (q0v (q1p (L2.cr_all rfl) (PureC.all x3i) (by rfl) T.b_all (by decide +kernel) (q0b (q0m (q9v [("letter",1)] rfl sc_is_name.nd (x1J (q0a 0)) (sc_is_name.bo (by decide +kernel)) (fun _ _ _ _ _=>(q0t 1 sc_is_name.nd)) (fun _ _ _ _ _=>q4b) (fun _ _ _ _ _=>(q5B L2.op_in_sign x6c (q0a 1) (q5A (fun _=>.str _) (z1F (by rfl) T.g_LETTERS)) (by rfl))))) q0c))))))
theorem q5l (jaa:DefP c base 1 "is_integer" [] q1n):OkP c base 2 "is_number_of_columns" "is_number_of_columns" q1h ["thing"] 1 q0T:=fun z=>fgP z q5j 0 fun A outer s H R=>
  (q0h (q0A (q0v (q5C (q0m (q0H jaa R (q0b (q0a 0) q0c))) (q6c (z3Z Q4k Q4k (q4Q (p:=leI)) (q4Q (p:=leI)) q0k (q0a 0) (q5A (fun _=>.int _) (z1F (by rfl) T.g_MOST_COLUMNS))))))))
theorem z3v (jal:DefP c base 1 "is_name" [] q5O) (jag:DefP c base 2 "is_number_of_columns" [] q0T):OkP c base 3 "is_table" "is_table" q4F ["thing"] 1 q2w:=fun z=>fgP z z3p 0 fun A outer s H R=>
  (q0e (q2W (L2.PW.pt (q5s (q3u (q2S (q5m .tuple (by decide +kernel) (by rfl) T.b_isinstance (by rfl) T.b_tuple (q0a 0)))) (q5s (q0L (q3M R.u64) z2I (q1p q4e (PureC.all q8B) (by rfl) T.b_len (by decide +kernel) (q0b (q0a 0) q0c)) q0k (by first | exact Q0F _ (by decide) (by decide) | rfl)) (q4r (q3u (q2S (q0m (q0H jal R (q0b (q1D q0U q4y (q0a 0) q0k) q0c))))))))) (q0h (q0A (q0v q7N))) q1g)
  (q0h (q0A (q0v (q5C (q0m (q0H jag R (q0b (q1D q0U q4y (q0a 0) q0k) q0c))) (q5C (q0m (q0H jag R (q0b (q1D q0U q4y (q0a 0) q0k) q0c))) (q6c (q5B L2.op_gt (q4Q (p:=gtI)) (q1f q0Y q2N (q1D q0U q4y (q0a 0) q0k) (q1D q0U q4y (q0a 0) q0k)) q0k (by first | exact Q0F _ (by decide) (by decide) | rfl)))))))))
theorem z3w  : OkP c base 1 "has_size" "has_size" q4G ["thing"] 1 q4S:=fun z=>fgP z z3q 0 fun A outer s H R=>
  (q0h (q0A (q0v (q5C (q5m .tuple (by decide +kernel) (by rfl) T.b_isinstance (by rfl) T.b_tuple (q0a 0)) (q6c (z3Z Q4k Q4k (q4Q (p:=leI)) (q4Q (p:=leI)) q0k (q1p q4e (PureC.all q8B) (by rfl) T.b_len (by decide +kernel) (q0b (q0a 0) q0c)) (q5A (fun _=>.int _) (z1F (by rfl) T.g_MOST_TABLES))))))))
theorem z2p (ja9:DefP c base 3 "is_table" [] q2w):OkP c base 4 "bad_parts" "bad_parts" q3T ["parts"] 1 q4h:=fun z=>fgP z sc_bad_parts 3 fun A outer s H R=>
  (q0e (q1s 1 sc_bad_parts.nd (q2T q0c))
  (q0e (q3v PySem.PassesOwn.never rfl (x0f (by rfl) T.b_enumerate (q0b (q0a 0) q0c)) (q6d rfl (q1b (q0t 2 sc_bad_parts.nd) (q1b (q0t 3 sc_bad_parts.nd) q4w))) (q0h (q2W (L2.PW.pt (q5s (q3u (q2S (q0m (q0H ja9 R (q0b (q0a 3) q0c))))) (q4r (L2.PW.pt (q9E (q0L L2.op_gt (q4Q (p:=gtI)) (q0a 2) q0k (by first | exact Q0F _ (by decide) (by decide) | rfl)) (q9E (q2S (q0m (q0H ja9 R (q0b (q1D q0U q4y (q0a 0) (q1f L2.op_sub x5Z (q0a 2) q0k)) q0c)))) (q8p (q0L x6Z x9k (q1D q0U q4y (q0a 3) q0k) (q1D q0U q4y (q1D q0U q4y (q0a 0) (q1f L2.op_sub x5Z (q0a 2) q0k)) q0k) (by first | exact Q0F _ (by decide) (by decide) | rfl))))))))) (q0h (q4v (q0v (q6z q2u q2t Q0T Q0Z Q1a Q2g (q5c 1) (q0b (q0a 3) q0c))))) q1g)))
  (q0h (q6x 1 (q0A (q0v (q0a 1)))))))
theorem z5K  : OkP c base 1 "columns" "columns" q5v ["schema","name"] 2 q1z:=fun z=>fgP z sc_columns 3 fun A outer s H R=>
  (q0e (q3v PySem.PassesOwn.never rfl (q1O (q0a 0)) (q6d rfl (q1b (q0t 2 sc_columns.nd) (q1b (q0t 3 sc_columns.nd) (q1b (q0t 4 sc_columns.nd) q4w)))) (q0h (q2W (q0L (q4d R.u64) z2V (q0a 2) (q0a 1) (by first | exact Q0F _ (by decide) (by decide) | rfl)) (q0h (q0A (q0v (q3Z (q0b (q0a 3) (q0b (q0a 4) q0c)))))) q1g)))
  (q0h (q0A (q0v q3h))))
theorem q9j (jaa:DefP c base 1 "is_integer" [] q1n):OkP c base 2 "are_integers" "are_integers" q2E ["thing","many"] 2 q1L:=fun z=>fgP z sc_are_integers 1 fun A outer s H R=>
  (q0h (q0A (q0v (q5C (q5m .tuple (by decide +kernel) (by rfl) T.b_isinstance (by rfl) T.b_tuple (q0a 0)) (q5C (q5B (q4d R.u64) z2V (q1p q4e (PureC.all q8B) (by rfl) T.b_len (by decide +kernel) (q0b (q0a 0) q0c)) (q0a 1) (by first | exact Q0F _ (by decide) (by decide) | rfl)) (q6c (q1p (L2.cr_all rfl) (PureC.all x3i) (by rfl) T.b_all (by decide +kernel) (q0b (q0m (q9v [("part",2)] rfl sc_are_integers.nd (q1O (q0a 0)) (sc_are_integers.bo (by decide +kernel)) (fun _ _ _ _ _=>(q0t 2 sc_are_integers.nd)) (fun _ _ _ _ _=>q4b) (fun _ _ _ _ _=>(q0m (q0H jaa R (q0b (q0a 2) q0c)))))) q0c))))))))
theorem z5L (ja2:DefP c base 1 "columns" [] q1z) (jab:DefP c base 2 "are_integers" [] q1L):OkP c base 3 "is_fact" "is_fact" q5w ["schema","thing"] 2 q2J:=fun z=>fgP z sc_is_fact 1 fun A outer s H R=>
  (q0e (q2W (L2.PW.pt (q5s (q3u (q2S (q5m .tuple (by decide +kernel) (by rfl) T.b_isinstance (by rfl) T.b_tuple (q0a 1)))) (q5s (q0L (q3M R.u64) z2I (q1p q4e (PureC.all q8B) (by rfl) T.b_len (by decide +kernel) (q0b (q0a 1) q0c)) q0k (by first | exact Q0F _ (by decide) (by decide) | rfl)) (q4r (q3u (q2S (q5m .str (by decide +kernel) (by rfl) T.b_isinstance (by rfl) T.b_str (q1D q0U q4y (q0a 1) q0k)))))))) (q0h (q0A (q0v q7N))) q1g)
  (q0e (q1s 2 sc_is_fact.nd (q0v (q0m (q0H ja2 R (q0b (q0a 0) (q0b (q1D q0U q4y (q0a 1) q0k) q0c))))))
  (q0h (q0A (q0v (q5C (q5B L2.op_notN z6w (q0a 2) q3h (by first | exact Q0F _ (by decide) (by decide) | rfl)) (q6c (q0m (q0H jab R (q0b (q1D q0U q4y (q0a 1) q0k) (q0b (q1f q0Y q2N (q1D q0U q4y (q0a 2) q0k) (q1D q0U q4y (q0a 2) q0k)) q0c)))))))))))
theorem z3x (ja2:DefP c base 1 "columns" [] q1z) (jab:DefP c base 2 "are_integers" [] q1L):OkP c base 3 "is_block" "is_block" q4H ["schema","thing"] 2 q2f:=fun z=>fgP z sc_is_block 1 fun A outer s H R=>
  (q0e (q2W (L2.PW.pt (q5s (q3u (q2S (q5m .tuple (by decide +kernel) (by rfl) T.b_isinstance (by rfl) T.b_tuple (q0a 1)))) (q5s (q0L (q3M R.u64) z2I (q1p q4e (PureC.all q8B) (by rfl) T.b_len (by decide +kernel) (q0b (q0a 1) q0c)) q0k (by first | exact Q0F _ (by decide) (by decide) | rfl)) (q4r (q3u (q2S (q5m .str (by decide +kernel) (by rfl) T.b_isinstance (by rfl) T.b_str (q1D q0U q4y (q0a 1) q0k)))))))) (q0h (q0A (q0v q7N))) q1g)
  (q0e (q1s 2 sc_is_block.nd (q0v (q0m (q0H ja2 R (q0b (q0a 0) (q0b (q1D q0U q4y (q0a 1) q0k) q0c))))))
  (q0h (q0A (q0v (q5C (q5B L2.op_notN z6w (q0a 2) q3h (by first | exact Q0F _ (by decide) (by decide) | rfl)) (q6c (q0m (q0H jab R (q0b (q1D q0U q4y (q0a 1) q0k) (q0b (q1D q0U q4y (q0a 2) q0k) q0c)))))))))))
theorem z3y (ja2:DefP c base 1 "columns" [] q1z):OkP c base 2 "block_in" "block_in" q4I ["schema","fact"] 2 q1H:=fun z=>fgP z z3r 0 fun A outer s H R=>
  (q0h (q0A (q0v (q3Z (q0b (q1D q0U q4y (q0a 1) q0k) (q0b (q1U (q1D q0U q4y (q0a 1) q0k) q2P (q2Q (q1D q0U q4y (q0m (q0H ja2 R (q0b (q0a 0) (q0b (q1D q0U q4y (q0a 1) q0k) q0c)))) q0k))) q0c))))))
theorem z1d  : OkP c base 1 "integer_in" "integer_in" q3p ["word"] 1 q1w:=fun z=>fgP z sc_integer_in 2 fun A outer s H R=>
  (q0e (q1s 1 sc_integer_in.nd (q0v (x7j (q0a 0) q0P)))
  (q0e (q2W (L2.PW.pt (q5s (q0L (q4d R.u64) z2V (q0a 1) q0P (by first | exact Q0F _ (by decide) (by decide) | rfl)) (q4r (q3u (q2S (q1p (L2.cr_all rfl) (PureC.all x3i) (by rfl) T.b_all (by decide +kernel) (q0b (q0m (q9v [("sign",2)] rfl sc_integer_in.nd (x1J (q0a 1)) (sc_integer_in.bo (by decide +kernel)) (fun _ _ _ _ _=>(q0t 2 sc_integer_in.nd)) (fun _ _ _ _ _=>q4b) (fun _ _ _ _ _=>(q5B L2.op_in_sign x6c (q0a 2) (q5A (fun _=>.str _) (z1F (by rfl) T.g_DIGITS)) (by rfl))))) q0c))))))) (q0h (q0A (q0v q3h))) q1g)
  (q0e (q2W (L2.PW.pt (q9E (q0L (q4d R.u64) z2V (q1D L2.ix_str x7c (q0a 1) q0k) q0P (by first | exact Q0F _ (by decide) (by decide) | rfl)) (q8p (q0L (q3M R.u64) z2I (q0a 0) q0P (by first | exact Q0F _ (by decide) (by decide) | rfl))))) (q0h (q0A (q0v q3h))) q1g)
  (q0h (q0A (q0v (q1i L2.call_int_str (PureC.all x7k) (by rfl) T.b_int (by decide +kernel) (q0b (q0a 0) q0c))))))))
theorem z3z  : OkP c base 1 "lines_of" "lines_of" q4J ["text"] 1 q4T:=fun z=>fgP z z3s 0 fun A outer s H R=>
  (q0e (q2W (q3u (q2S (q5m .str (by decide +kernel) (by rfl) T.b_isinstance (by rfl) T.b_str (q0a 0)))) (q0h q3P) q1g)
  (q0h (q0A (q0v (z3X (q0a 0) q0P)))))
theorem z3A  : OkP c base 1 "show_row" "show_row" q4K ["word","name","parts","keys"] 4 q4U:=fun z=>fgP z z3t 0 fun A outer s H R=>
  (q0h (q0A (q0v (z0Y q0P (q0m (q2T (q7W (q0a 0) (q7W (q0a 1) (z6D (q1U (q0a 2) q2P (q2Q (q0a 3))) (q7W (q5A (fun _=>.str _) (z1F (by rfl) T.g_BAR)) (z6D (q1U (q0a 2) (q2Q (q0a 3)) q2P) q0c)))))))))))
theorem z8h (ja6:DefP c base 1 "integer_in" [] q1w):OkP c base 2 "row_in" "row_in" q6s ["words","keys","others","reader"] 4 q6N:=fun z=>fgP z sc_row_in 2 fun A outer s H R=>
  (q0e (q2W (L2.PW.pt (q5s (q0L (q3M R.u64) z2I (q1p q4e (PureC.all q8B) (by rfl) T.b_len (by decide +kernel) (q0b (q0a 0) q0c)) (q1f q0Y q2N (q1f q0Y q2N (q0a 1) q0k) (q0a 2)) (by first | exact Q0F _ (by decide) (by decide) | rfl)) (q4r (q0L (q3M R.u64) z2I (q1D q0U q4y (q0a 0) (q0a 1)) (q5A (fun _=>.str _) (z1F (by rfl) T.g_BAR)) (by first | exact Q0F _ (by decide) (by decide) | rfl))))) (q0h (q0A (q0v q3h))) q1g)
  (q0e (q4t 4 [("word",5)] (made _) rfl sc_row_in.nd (q1O (q1f q0Y q2N (q1U (q0a 0) q2P (q2Q (q0a 1))) (q1U (q0a 0) (q2Q (q1f q0Y q2N (q0a 1) q0k)) q2P))) (sc_row_in.bo (by decide +kernel)) (fun _ _ _ _ _=>(q0t 5 sc_row_in.nd)) (fun _ _ _ _ _=>q4b) (fun _ _ _ _ _=>(q0m (x0U ja6 R 3 (q0b (q0a 5) q0c)))))
  (q0h (q0A (q0v (z0n (q0L (z4o R.u65) x6A q3h (q0a 4) (by rfl)) q3h (q1i Q1u (PureC.all q8C) (by rfl) T.b_tuple (by decide +kernel) (q0b (q0a 4) q0c))))))))
theorem z1e (jam:DefP c base 1 "show_row" [] q4U) (ja2:DefP c base 1 "columns" [] q1z):OkP c base 2 "show_store" "show_store" q3q ["schema","facts"] 2 q3D:=fun z=>fgP z sc_show_store 6 fun A outer s H R=>
  (q0e (q4t 2 [("name",3),("keys",4),("others",5)] (x5H _) rfl sc_show_store.nd (q1O (q0a 0)) (sc_show_store.bo (by decide +kernel)) (fun _ _ _ _ _=>(q6d rfl (q1b (q0t 3 sc_show_store.nd) (q1b (q0t 4 sc_show_store.nd) (q1b (q0t 5 sc_show_store.nd) q4w))))) (fun _ _ _ _ _=>q4b) (fun _ _ _ _ _=>(z7Y (.cons q0P (.cons (z7X (q0a 3)) (.cons q0P (.cons (z7X (q0a 4)) (.cons q0P (.cons (z7X (q0a 5)) .nil)))))))))
  (q0e (q3v PySem.PassesOwn.never rfl (q1O (q0a 1)) (q6d rfl (q1b (q0t 3 sc_show_store.nd) (q1b (q0t 6 sc_show_store.nd) q4w))) (q0h (q4v (q0v (q6z q2u q2t Q0T Q0Z Q1a Q2g (q5c 2) (q0b (q0m (q0H jam R (q0b q0P (q0b (q0a 3) (q0b (q0m (q9v [("value",7)] rfl sc_show_store.nd (q1O (q0a 6)) (sc_show_store.bo (by decide +kernel)) (fun _ _ _ _ _=>(q0t 7 sc_show_store.nd)) (fun _ _ _ _ _=>q4b) (fun _ _ _ _ _=>(q1i q9a (PureC.all z7V) (by rfl) T.b_str (by decide +kernel) (q0b (q0a 7) q0c))))) (q0b (q1D q0U q4y (q0m (q0H ja2 R (q0b (q0a 0) (q0b (q0a 3) q0c)))) q0k) q0c)))))) q0c))))))
  (q0h (q6x 2 (q0A (q0v (z0Y q0P (q0a 2))))))))
theorem z3B (ja6:DefP c base 1 "integer_in" [] q1w) (ja9:DefP c base 3 "is_table" [] q2w):OkP c base 4 "table_in" "table_in" q4L ["words"] 1 q3k:=fun z=>fgP z sc_table_in 1 fun A outer s H R=>
  (q0e (q2W (L2.PW.pt (q5s (q0L (q3M R.u64) z2I (q1p q4e (PureC.all q8B) (by rfl) T.b_len (by decide +kernel) (q0b (q0a 0) q0c)) q0k (by first | exact Q0F _ (by decide) (by decide) | rfl)) (q4r (q0L (q3M R.u64) z2I (q1D q0U q4y (q0a 0) q0k) q0P (by first | exact Q0F _ (by decide) (by decide) | rfl))))) (q0h (q0A (q0v q3h))) q1g)
  (q0e (q1s 1 sc_table_in.nd (q0v (q3Z (q0b (q1D q0U q4y (q0a 0) q0k) (q0b (q0m (q0H ja6 R (q0b (q1D q0U q4y (q0a 0) q0k) q0c))) (q0b (q0m (q0H ja6 R (q0b (q1D q0U q4y (q0a 0) q0k) q0c))) q0c))))))
  (q0h (q0A (q0v (z0n (q2S (q0m (q0H ja9 R (q0b (q0a 1) q0c)))) (q0a 1) q3h))))))
theorem z5M (ja2:DefP c base 1 "columns" [] q1z) (jan:DefP c base 2 "row_in" [] q6N) (ja6:DefP c base 1 "integer_in" [] q1w):OkP c base 3 "fact_in" "fact_in" q5x ["schema","words"] 2 q4V:=fun z=>fgP z sc_fact_in 2 fun A outer s H R=>
  (q0e (q1s 2 sc_fact_in.nd (q0v (z0n (q0L (z6K R.u64) x3p (q0a 1) (q0m (q2T q0c)) (by first | exact Q0F _ (by decide) (by decide) | rfl)) (q0m (q0H ja2 R (q0b (q0a 0) (q0b (q1D q0U q4y (q0a 1) q0k) q0c)))) q3h)))
  (q0e (q2W (q0L L2.op_isN x3e (q0a 2) q3h (by first | exact Q0F _ (by decide) (by decide) | rfl)) (q0h (q0A (q0v q3h))) q1g)
  (q0e (q1s 3 sc_fact_in.nd (q0v (q0m (q0H jan R (q0b (q1U (q0a 1) (q2Q q0k) q2P) (q0b (q1D q0U q4y (q0a 2) q0k) (q0b (q1D q0U q4y (q0a 2) q0k) (q0b (x7l ja6.mgf) q0c))))))))
  (q0h (q0A (q0v (z0n (q0L L2.op_isN x3e (q0a 3) q3h (by first | exact Q0F _ (by decide) (by decide) | rfl)) q3h (q3Z (q0b (q1D q0U q4y (q0a 1) q0k) (q0b (q0a 3) q0c))))))))))
theorem q7R  : OkP c base 1 "is_next_table" "is_next_table" q2k ["tables","table"] 2 q1A:=fun z=>fgP z q7Q 0 fun A outer s H R=>
  (q0e (q2W (L2.PW.pt (q5s (q0L L2.op_isN x3e (q0a 1) q3h (by first | exact Q0F _ (by decide) (by decide) | rfl)) (q4r (q0L (q4d R.u64) z2V (q1p q4e (PureC.all q8B) (by rfl) T.b_len (by decide +kernel) (q0b (q0a 0) q0c)) (q5A (fun _=>.int _) (z1F (by rfl) T.g_MOST_TABLES)) (by first | exact Q0F _ (by decide) (by decide) | rfl))))) (q0h (q0A (q0v q7N))) q1g)
  (q0h (q0A (q0v (x8R (q5B (z6J R.u64) x3o (q0a 0) (q0m (q2T q0c)) (by first | exact Q0F _ (by decide) (by decide) | rfl)) (q6c (q5B L2.op_lt_str x9m (q1D q0U q4y (q1D q0U q4y (q0a 0) (z9b L2.un_neg z9n q0k)) q0k) (q1D q0U q4y (q0a 1) q0k) (by first | exact Q0F _ (by decide) (by decide) | rfl))))))))
theorem z1f (jao:DefP c base 1 "lines_of" [] q4T) (jap:DefP c base 4 "table_in" [] q3k) (jaq:DefP c base 3 "fact_in" [] q4V) (jar:DefP c base 1 "is_next_table" [] q1A):OkP c base 5 "read_store" "read_store" q3r ["text"] 1 q3E:=fun z=>fgP z sc_read_store 7 fun A outer s H R=>
  (q0e (z1E 1 2 rfl sc_read_store.nd (q2T q0c) (q2T q0c))
  (q0e (q3v PySem.PassesOwn.never rfl (x3n (by rfl) T.b_enumerate (q0b (q0m (q0H jao R (q0b (q0a 0) q0c))) q0c)) (q6d rfl (q1b (q0t 3 sc_read_store.nd) (q1b (q0t 4 sc_read_store.nd) q4w))) (q0e (q1s 5 sc_read_store.nd (q0v (z3X (q0a 4) q0P)))
  (q0e (q1s 6 sc_read_store.nd (q0v (q0m (q0H jap R (q0b (q0a 5) q0c)))))
  (q0e (q1s 7 sc_read_store.nd (q0v (z0n (q0L (q4d R.u64) z2V (q1D q0U q4y (q0a 5) q0k) q0P (by first | exact Q0F _ (by decide) (by decide) | rfl)) (q0m (x2e 1 (q0H jaq R (q0b (q0a 1) (q0b (q1U (q0a 5) (q2Q q0k) q2P) q0c))))) q3h)))
  (q0h (q2W (L2.PW.pt (q9E (z0o (q0L (z6J R.u64) x3o (q0a 2) (q0m (q2T q0c)) (by first | exact Q0F _ (by decide) (by decide) | rfl))) (q8p (q2S (q0m (x2e 1 (q0H jar R (q0b (q0a 1) (q0b (q0a 6) q0c))))))))) (q0h (q4v (q0v (q6z q2u q2t Q0T Q0Z Q1a Q2g (q5c 1) (q0b (q0a 6) q0c))))) (q0h (q2W (L2.PW.pt (q9E (q0L L2.op_notN z6w (q0a 7) q3h (by first | exact Q0F _ (by decide) (by decide) | rfl)) (q8p (L2.PW.pt (q5s (z0o (q0L (z6J R.u64) x3o (q0a 2) (q0m (q2T q0c)) (by first | exact Q0F _ (by decide) (by decide) | rfl))) (q4r (z0o (q0L (x4e R.u64) x7h (q1D q0U q4y (q0a 2) (z9b L2.un_neg z9n q0k)) (q0a 7) (by first | exact Q0F _ (by decide) (by decide) | rfl))))))))) (q0h (q4v (q0v (q6z q2u q2t Q0T Q0Z Q1a Q2g (q5c 2) (q0b (q0a 7) q0c))))) (q0h q3P)))))))))
  (q0h (q6x 2 (q6x 1 (q0A (q0v (q3Z (q0b (q1i Q1u (PureC.all q8C) (by rfl) T.b_tuple (by decide +kernel) (q0b (q0a 1) q0c)) (q0b (q1i Q1u (PureC.all q8C) (by rfl) T.b_tuple (by decide +kernel) (q0b (q0a 2) q0c)) q0c))))))))))
theorem q7k (ja3:DefP c base 2 "block_in" [] q1H):OkP c base 3 "facts_by_block" "facts_by_block" q1V ["schema","facts"] 2 q2d:=fun z=>fgP z sc_facts_by_block 3 fun A outer s H R=>
  (q0e (q1s 2 sc_facts_by_block.nd z7c)
  (q0e (q3v PySem.PassesOwn.never rfl (q1O (q0a 1)) (q0t 3 sc_facts_by_block.nd) (q0h (q4v (q0v (z7b 2 R (q0m (q0H ja3 R (q0b (q0a 0) (q0b (q0a 3) q0c)))) (q0a 3))))))
  (q0h (q6x 2 (q0A (x6R [("block",4)] R rfl sc_facts_by_block.nd (q0a 2) (sc_facts_by_block.bo (by decide +kernel)) (fun _ _ _ _ _=>(q0t 4 sc_facts_by_block.nd)) (fun _ _ _ _ _=>q4b) (fun _ _ _ _ _=>(q0a 4)) (fun _ _ _ _ _=>(q1i Q1u (PureC.all q8C) (by rfl) T.b_tuple (by decide +kernel) (q0b (x6T R (q0a 2) (q0a 4)) q0c)))))))))
theorem z1g (jas:DefP c base 1 "has_size" [] q4S) (jat:DefP c base 4 "bad_parts" [] q4h) (ja7:DefP c base 3 "is_fact" [] q2J) (jau:DefP c base 3 "facts_by_block" [] q2d):OkO c base 5 "__init__" "Store.__init__" q0R ["self","schema","facts"] 2 q0K:=fun z=>fgO z sc_Store_init 2 fun A outer s H R=>
  (q0e (q2W (q3u (q2S (q0m (q0H jas R (q0b (q0a 1) q0c))))) (q0h q3P) q1g)
  (q0e (q3v PySem.PassesOwn.never rfl (q1O (q1U (q0m (q0H jat R (q0b (q0a 1) q0c))) q2P (q2Q q0k))) (q0t 3 sc_Store_init.nd) (q0h q3P))
  (q0e (q2W (q3u (q2S (q5m .tuple (by decide +kernel) (by rfl) T.b_isinstance (by rfl) T.b_tuple (q0a 2)))) (q0h q3P) q1g)
  (q0e (q3v PySem.PassesOwn.never rfl (q1O (q0a 2)) (q0t 4 sc_Store_init.nd) (q0h (q2W (q3u (q2S (q0m (q0H ja7 R (q0b (q0a 1) (q0b (q0a 4) q0c)))))) (q0h q3P) q1g)))
  (q0e (z6G 0 T.f_Store_schema (q0v (q0a 1)))
  (q0e (z6G 0 T.f_Store_all_facts (q0v (q1i Q1u (PureC.all q8C) (by rfl) T.b_tuple (by decide +kernel) (q0b (z4F rfl R.u64 (by rfl) T.b_sorted (by rfl) T.b_set (q0a 2)) q0c))))
  (q0h (z6G 0 T.f_Store_by_block (q0v (q0m (q0H jau R (q0b (q0a 1) (q0b (x3Z 0 T.f_Store_all_facts) q0c)))))))))))))
theorem q9z  : OkP c base 1 "facts" "Store.facts" q1I ["self"] 1 q2x:=fun z=>fgP z q9y 0 fun A outer s H R=>
  (q0h (q0A (q0v (q2o T.f_Store_all_facts (q0a 0)))))
theorem z1h (jav:DefP c base 2 "show_store" [] q3D):OkP c base 3 "text" "Store.text" q1S ["self"] 1 q1o:=fun z=>fgP z z1b 0 fun A outer s H R=>
  (q0h (q0A (q0H jav R (q0b (q2o T.f_Store_schema (q0a 0)) (q0b (q2o T.f_Store_all_facts (q0a 0)) q0c)))))
theorem q7l (ja7:DefP c base 3 "is_fact" [] q2J):OkP c base 4 "__contains__" "Store.__contains__" q1W ["self","fact"] 2 q0F:=fun z=>fgP z q7h 0 fun A outer s H R=>
  (q0h (q0A (q0v (q5C (q0m (q0H ja7 R (q0b (q2o T.f_Store_schema (q0a 0)) (q0b (q0a 1) q0c)))) (q6c (q5B (x3Y R.u65) x6Y (q0a 1) (q2o T.f_Store_all_facts (q0a 0)) (by rfl)))))))
theorem z3C  : OkP c base 1 "__eq__" "Store.__eq__" q4M ["self","other"] 2 q1y:=fun z=>fgP z z3u 0 fun A outer s H R=>
  (q0h (q0A (q0v (q5C (x6U T.O_Store T.m_Store (by rfl) T.b_isinstance (by rfl) (q0a 1)) (q6c (q5B (q4d R.u64) z2V (q3Z (q0b (q2o T.f_Store_schema (q0a 0)) (q0b (q2o T.f_Store_all_facts (q0a 0)) q0c))) (q3Z (q0b (q2o T.f_Store_schema (q0a 1)) (q0b (q2o T.f_Store_all_facts (q0a 1)) q0c))) (by first | exact Q0F _ (by decide) (by decide) | rfl)))))))
theorem q7m (ja7:DefP c base 3 "is_fact" [] q2J) (ja3:DefP c base 2 "block_in" [] q1H):OkP c base 4 "block_of" "Store.block_of" q1Y ["self","fact"] 2 q1q:=fun z=>fgP z q7i 0 fun A outer s H R=>
  (q0e (q2W (q3u (q2S (q0m (q0H ja7 R (q0b (q2o T.f_Store_schema (q0a 0)) (q0b (q0a 1) q0c)))))) (q0h q3P) q1g)
  (q0h (q0A (q0H ja3 R (q0b (q2o T.f_Store_schema (q0a 0)) (q0b (q0a 1) q0c))))))
theorem q7n (jac:DefP c base 3 "is_block" [] q2f):OkP c base 4 "facts_of" "Store.facts_of" q1Z ["self","block"] 2 q2e:=fun z=>fgP z q7j 0 fun A outer s H R=>
  (q0h (q0A (q0v (z0n (q2S (q0m (q0H jac R (q0b (q2o T.f_Store_schema (q0a 0)) (q0b (q0a 1) q0c))))) (x3J R (q2o T.f_Store_by_block (q0a 0)) (q0a 1) (q3Z q0c)) (q3Z q0c)))))
theorem q9k (ja1:z8T c base 5 "Store" q0K):x8E c base 7 "joined" "Store.joined" q2F q2g:=fun z=>z4K (ps:=["self"]) (pv:="facts") (F0:=q4k) z q9d 0 (fun us rest hl=>match us,hl,rest with | [_],_,[]=>rfl | [_],_,_ :: _=>rfl) fun A outer s H R=>
  (q0h (q0A (q8z ja1 R (q0b (q2o T.f_Store_schema (q0a 0)) (q0b (q1f z9A x6q (q2o T.f_Store_all_facts (q0a 0)) (q0a 1)) q0c)))))
theorem q7S (jad:q9r c base 4 "Store" "__contains__" q0F) (ja1:z8T c base 5 "Store" q0K):x8E c base 7 "without" "Store.without" q1k q0X:=fun z=>z4K (ps:=["self"]) (pv:="facts") (F0:=q2L) z sc_Store_without 1 (fun us rest hl=>match us,hl,rest with | [_],_,[]=>rfl | [_],_,_ :: _=>rfl) fun A outer s H R=>
  (q0e (q3v PySem.PassesOwn.never rfl (q1O (q0a 1)) (q0t 2 sc_Store_without.nd) (q0h (q2W (z7D jad T.C_Store T.m_Store R (q0a 2) (q0a 0)) (q0h q3P) q1g)))
  (q0h (q0A (q8z ja1 R (q0b (q2o T.f_Store_schema (q0a 0)) (q0b (q1i Q1u (PureC.all q8C) (by rfl) T.b_tuple (by decide +kernel) (q0b (q0m (q9v [("fact",2)] rfl sc_Store_without.nd (q1O (q2o T.f_Store_all_facts (q0a 0))) (sc_Store_without.bo (by decide +kernel)) (fun _ _ _ _ _=>(q0t 2 sc_Store_without.nd)) (fun _ _ _ _ _=>(Q2M (q0L (z6I R.u65) x6n (q0a 2) (q0a 1) (by rfl)))) (fun _ _ _ _ _=>(q0a 2)))) q0c)) q0c))))))
theorem q5Q (jaw:q9r c base 4 "Store" "facts_of" q2e) (ja3:DefP c base 2 "block_in" [] q1H) (DB_Store_without:MetB c base 7 "Store" "without" q0X):OkP c base 8 "settled_once" "Store.settled_once" q1r ["self","fact"] 2 q1t:=fun z=>fgP z sc_Store_settled_once 2 fun A outer s H R=>
  (q0e (q4t 2 [("one",3)] (made _) rfl sc_Store_settled_once.nd (q1O (q0m (q5b jaw T.C_Store T.m_Store R (q0a 0) (q0b (q0m (q0H ja3 R (q0b (q2o T.f_Store_schema (q0a 0)) (q0b (q0a 1) q0c)))) q0c)))) (sc_Store_settled_once.bo (by decide +kernel)) (fun _ _ _ _ _=>(q0t 3 sc_Store_settled_once.nd)) (fun _ _ _ _ _=>(Q2M (q0L (q3M R.u64) z2I (q0a 3) (q0a 1) (by first | exact Q0F _ (by decide) (by decide) | rfl)))) (fun _ _ _ _ _=>(q0a 3)))
  (q0h (q0A (x0A DB_Store_without T.C_Store T.m_Store R (q0a 0) (q0a 2)))))
theorem q7T (jad:q9r c base 4 "Store" "__contains__" q0F) (jax:q9r c base 8 "Store" "settled_once" q1t):x8E c base 9 "settled" "Store.settled" q2l q1Q:=fun z=>z4K (ps:=["self"]) (pv:="facts") (F0:=q3L) z sc_Store_settled 2 (fun us rest hl=>match us,hl,rest with | [_],_,[]=>rfl | [_],_,_ :: _=>rfl) fun A outer s H R=>
  (q0e (q1s 2 sc_Store_settled.nd (q0v (q0a 0)))
  (q0e (q3v PySem.PassesOwn.never rfl (q1O (q0a 1)) (q0t 3 sc_Store_settled.nd) (q0e (q2W (z7D jad T.C_Store T.m_Store R (q0a 3) (q0a 2)) (q0h q3P) q1g)
  (q0h (q1s 2 sc_Store_settled.nd (q0v (q0m (q5b jax T.C_Store T.m_Store R (q0a 2) (q0b (q0a 3) q0c))))))))
  (q0h (q0A (q0v (q0a 2))))))
theorem z1i (jac:DefP c base 3 "is_block" [] q2f) (ja1:z8T c base 5 "Store" q0K) (ja3:DefP c base 2 "block_in" [] q1H):x8E c base 7 "part" "Store.part" q3s q2U:=fun z=>z4K (ps:=["self"]) (pv:="blocks") (F0:=q5k) z sc_Store_part 3 (fun us rest hl=>match us,hl,rest with | [_],_,[]=>rfl | [_],_,_ :: _=>rfl) fun A outer s H R=>
  (q0e (q1s 2 sc_Store_part.nd (q0v (q0m (q9v [("block",3)] rfl sc_Store_part.nd (q1O (q0a 1)) (sc_Store_part.bo (by decide +kernel)) (fun _ _ _ _ _=>(q0t 3 sc_Store_part.nd)) (fun _ _ _ _ _=>(Q2M (q2S (q0m (q0H jac R (q0b (q2o T.f_Store_schema (q0a 0)) (q0b (q0a 3) q0c))))))) (fun _ _ _ _ _=>(q0a 3))))))
  (q0h (q0A (q8z ja1 R (q0b (q2o T.f_Store_schema (q0a 0)) (q0b (q1i Q1u (PureC.all q8C) (by rfl) T.b_tuple (by decide +kernel) (q0b (q0m (q9v [("fact",4)] rfl sc_Store_part.nd (q1O (q2o T.f_Store_all_facts (q0a 0))) (sc_Store_part.bo (by decide +kernel)) (fun _ _ _ _ _=>(q0t 4 sc_Store_part.nd)) (fun _ _ _ _ _=>(Q2M (q0L (z4o R.u65) x6A (q0m (q0H ja3 R (q0b (q2o T.f_Store_schema (q0a 0)) (q0b (q0a 4) q0c)))) (q0a 2) (by rfl)))) (fun _ _ _ _ _=>(q0a 4)))) q0c)) q0c))))))
theorem q6R (jah:DefP c base 5 "read_store" [] q3E) (ja1:z8T c base 5 "Store" q0K):OkP c base 7 "read" "Store.read" q1T ["cls","text"] 2 q1x:=fun z=>fgP z sc_Store_read 2 fun A outer s H R=>
  (q0e (z6F (q0m (q0H jah R (q0b (q0a 1) q0c))) (q6d rfl (q1b (q0t 2 sc_Store_read.nd) (q1b (q0t 3 sc_Store_read.nd) q4w))))
  (q0h (q0A (x0V ja1 R 0 (q0b (q0a 2) (q0b (q0a 3) q0c))))))
theorem z2q  : OkP c base 1 "_law_purse" "_law_purse" q3U ["_law_script"] 1 q4m:=fun z=>fgP z sc_law_purse 3 fun A outer s H R=>
  (q0e (z1E 1 2 rfl sc_law_purse.nd (q0v (q1i (z6A rfl) (PureC.all x6g) (by rfl) T.b_list (by decide +kernel) (q0b (q1U (q0a 0) q2P (q2Q q0k)) q0c))) (q0v q0k))
  (q0e (q3v PySem.PassesOwn.never rfl (q1O (q0a 1)) (q0t 3 sc_law_purse.nd) (q0h (q1s 2 sc_law_purse.nd (q0v (q1f Q2T z0u (q1f q0Y q2N (q1f q0Y q2N (q1f Q2U z0t (q0a 2) q0k) (q1f Q2T z0u (q0a 3) q0k)) q0k) q0k)))))
  (q0h (q0A (x0x q0P (x6k (q0a 1)) (z7A q0P (q0a 2) (z7A q0P q0k x6L)))))))
theorem z3D  : OkO c base 1 "_law_take" "_law_take" q4N ["_law_purse_here","_law_many"] 1 q1a:=fun z=>fgO z sc_law_take 2 fun A outer s H R=>
  (q0e (x0y 0 R (q1f q0Y q2N (q6S (q6T R (q0a 0) q0P)) q0k))
  (q0e (q1s 2 sc_law_take.nd (q0v (q1f q0Y q2N (q6S (q6T R (q0a 0) q0P)) (q1f Q2U z0t (q1f Q2U z0t q0k (q6S (q6T R (q0a 0) q0P))) (q6S (q6T R (q0a 0) q0P))))))
  (q0e (q2W (z0o (q0L (z6K R.u64) x3p (q6T R (q0a 0) q0P) (q0m (q2T q0c)) (by first | exact Q0F _ (by decide) (by decide) | rfl))) (q0e (q1s 3 sc_law_take.nd (q0v (x2U x2X x2W Q0T Q3U Q3V L2.mt_pop (x1X 0 R))))
  (q0e (q2W (q0L L2.op_ge (q4Q (p:=geI)) (q0a 3) (q1f L2.op_pow x3c q0k q0k) (by first | exact Q0F _ (by decide) (by decide) | rfl)) (q0e (q4v (q0v (q6z q2u q2t Q0T Q0Z Q1a Q2g (x1X 0 R) (q0b (q1f L2.op_fdiv x3b (q0a 3) (q0a 1)) q0c))))
  (q0h (q0A (q0v (q1f Q2T z0u (q0a 3) (q0a 1)))))) q1g)
  (q0h (q1s 2 sc_law_take.nd (q0v (q1f q0Y q2N (q0a 2) (q0a 3))))))) q1g)
  (q0e (q1s 2 sc_law_take.nd (q0v (q1f Q2T z0u (q1f Q2U z0t (q1f Q2T z0u (q0a 2) q0k) q0k) q0k)))
  (q0e (q1s 2 sc_law_take.nd (q0v (q1f Q2T z0u (q1f q0Y q2N (q1f q0Y q2N (q1f Q2U z0t (q0a 2) (q0a 2)) (q1f Q2U z0t q0k (q6S (q6T R (q0a 0) q0P)))) q0k) q0k)))
  (q0h (q0A (q0v (q1f Q2T z0u (q1f L2.op_fdiv x3b (q1f Q2T z0u (q1f Q2U z0t (q0a 2) q0k) q0k) q0k) (q0a 1))))))))))
theorem z5N (ja0:DefO c base 1 "_law_take" q1a):OkO c base 2 "_law_one" "_law_one" q5y ["_law_purse_here","_law_some"] 1 q1R:=fun z=>fgO z z5H 0 fun A outer s H R=>
  (q0h (q0A (q0v (q1D q0U q4y (q0a 1) (q0m (q1B ja0 R 0 (q0b (q1p q4e (PureC.all q8B) (by rfl) T.b_len (by decide +kernel) (q0b (q0a 1) q0c)) q0c)))))))
theorem z2r (ja0:DefO c base 1 "_law_take" q1a):OkO c base 2 "_law_names" "_law_names" q3V ["_law_purse_here","_law_many"] 1 q4n:=fun z=>fgO z sc_law_names 3 fun A outer s H R=>
  (q0e (q1s 2 sc_law_names.nd (q2T (q0b q0P (q0b q0P (q0b q0P (q0b q0P (q0b q0P (q0b q0P (q0b q0P (q0b q0P (q0b q0P (q0b q0P (q0b q0P (q0b q0P q0c))))))))))))))
  (q0e (q1s 3 sc_law_names.nd (q2T q0c))
  (q0e (q3v PySem.PassesOwn.never rfl (z0p (by rfl) T.b_range (q0b (q0a 1) q0c)) (q0t 4 sc_law_names.nd) (q0h (q4v (q0v (q6z q2u q2t Q0T Q0Z Q1a Q2g (q5c 3) (q0b (x3m z6r z6q Q0T Q3U Q3V L2.mt_popAt (q5c 2) (q0b (q0m (q1B ja0 R 0 (q0b (q6S (q1p q4e (PureC.all q8B) (by rfl) T.b_len (by decide +kernel) (q0b (q0a 2) q0c))) q0c))) q0c)) q0c))))))
  (q0h (q6x 3 (q0A (q0v (q1p (z9q rfl) (PureC.all x6h) (by rfl) T.b_sorted (by decide +kernel) (q0b (q0a 3) q0c)))))))))
theorem z1j (jay:DefO c base 2 "_law_names" q4n) (ja0:DefO c base 1 "_law_take" q1a):OkO c base 3 "_law_schema" "_law_schema" q3t ["_law_purse_here","_law_most"] 1 q3F:=fun z=>fgO z sc_law_schema 4 fun A outer s H R=>
  (q0e (q1s 2 sc_law_schema.nd (q2T q0c))
  (q0e (q3v PySem.PassesOwn.never rfl (q1O (q0m (q1B jay R 0 (q0b (q1f q0Y q2N q0k (q0m (q1B ja0 R 0 (q0b (q0a 1) q0c)))) q0c)))) (q0t 3 sc_law_schema.nd) (q0e (z1E 4 5 rfl sc_law_schema.nd (q0v (q0m (q1B ja0 R 0 (q0b q0k q0c)))) (q0v (q0m (q1B ja0 R 0 (q0b q0k q0c)))))
  (q0h (q4v (q0v (q6z q2u q2t Q0T Q0Z Q1a Q2g (q5c 2) (q0b (q3Z (q0b (q0a 3) (q0b (z0n (q0L L2.op_gt (q4Q (p:=gtI)) (q1f q0Y q2N (q0a 4) (q0a 5)) q0k (by first | exact Q0F _ (by decide) (by decide) | rfl)) (q0a 4) q0k) (q0b (q0a 5) q0c)))) q0c)))))))
  (q0h (q6x 2 (q0A (q0v (q1i Q1u (PureC.all q8C) (by rfl) T.b_tuple (by decide +kernel) (q0b (q0a 2) q0c))))))))
theorem q9A (ja5:DefO c base 2 "_law_one" q1R) (ja0:DefO c base 1 "_law_take" q1a):OkO c base 3 "_law_integer" "_law_integer" q2Y ["_law_purse_here"] 0 q3f:=fun z=>fgO z sc_law_integer 2 fun A outer s H R=>
  (q0e (q1s 1 sc_law_integer.nd (q0v (q0m (q1B ja5 R 0 (q0b (q0m (q2T (q0b q0k (q0b q0k (q0b q0k (q0b q0k (q0b q0k (q0b (q1f q0Y q2N (q1f L2.op_pow x3c q0k q0k) q0k) (q0b (q1f q0Y q2N (q1f L2.op_pow x3c q0k q0k) q0k) q0c))))))))) q0c)))))
  (q0e (q1s 2 sc_law_integer.nd (q0v (q1f q0Y q2N (q1f Q2U z0t (q0m (q1B ja0 R 0 (q0b (q0m (q1B ja5 R 0 (q0b (q0m (q2T (q0b q0k (q0b q0k (q0b q0k q0c))))) q0c))) q0c))) (q0a 1)) (q1f Q2U z0t (q0m (q1B ja0 R 0 (q0b q0k q0c))) (q1i L2.call_int1 (PureC.all x8V) (by rfl) T.b_int (by decide +kernel) (q0b (q5B L2.op_gt (q4Q (p:=gtI)) (q0a 1) q0k (by first | exact Q0F _ (by decide) (by decide) | rfl)) q0c))))))
  (q0h (q0A (q0v (z0n (q0L (q4d R.u64) z2V (q0m (q1B ja0 R 0 (q0b q0k q0c))) q0k (by first | exact Q0F _ (by decide) (by decide) | rfl)) (z9b L2.un_neg z9n (q0a 2)) (q0a 2)))))))
theorem z2s (ja5:DefO c base 2 "_law_one" q1R) (jaz:DefO c base 3 "_law_integer" q3f) (ja0:DefO c base 1 "_law_take" q1a):OkO c base 4 "_law_facts" "_law_facts" q3W ["_law_purse_here","_law_schema_here","_law_many"] 2 q4o:=fun z=>fgO z sc_law_facts 9 fun A outer s H R=>
  (q0e (q1s 3 sc_law_facts.nd (q2T q0c))
  (q0e (q3v PySem.PassesOwn.never rfl (z0p (by rfl) T.b_range (q0b (q0a 2) q0c)) (q0t 4 sc_law_facts.nd) (q0e (z6F (q0m (q1B ja5 R 0 (q0b (q0a 1) q0c))) (q6d rfl (q1b (q0t 5 sc_law_facts.nd) (q1b (q0t 6 sc_law_facts.nd) (q1b (q0t 7 sc_law_facts.nd) q4w)))))
  (q0e (q4t 8 [("_law_j",9)] (made _) rfl sc_law_facts.nd (z0p (by rfl) T.b_range (q0b (q1f q0Y q2N (q0a 6) (q0a 7)) q0c)) (sc_law_facts.bo (by decide +kernel)) (fun _ _ _ _ _=>(q0t 9 sc_law_facts.nd)) (fun _ _ _ _ _=>q4b) (fun _ _ _ _ _=>(q0m (z6p jaz R 0))))
  (q0e (q4t 10 [("_law_fact",11)] (j0w 3 _) rfl sc_law_facts.nd (q1O (q0a 3)) (sc_law_facts.bo (by decide +kernel)) (fun _ _ _ _ _=>(q0t 11 sc_law_facts.nd)) (fun _ _ _ _ _=>(Q2M (q0L (q4d R.u64) z2V (q1D q0U q4y (q0a 11) q0k) (q0a 5) (by first | exact Q0F _ (by decide) (by decide) | rfl)))) (fun _ _ _ _ _=>(q1D q0U q4y (q0a 11) q0k)))
  (q0e (q2W (L2.PW.pt (q9E (q0L (z6K R.u64) x3p (q0a 10) (q0m (q2T q0c)) (by first | exact Q0F _ (by decide) (by decide) | rfl)) (q8p (q0L (q4d R.u64) z2V (q0m (q1B ja0 R 0 (q0b q0k q0c))) q0k (by first | exact Q0F _ (by decide) (by decide) | rfl))))) (q0h (q1s 8 sc_law_facts.nd (q0v (q1f q0Y q2N (q1i (z6A rfl) (PureC.all x6g) (by rfl) T.b_list (by decide +kernel) (q0b (q1U (q0m (q1B ja5 R 0 (q0b (q0a 10) q0c))) q2P (q2Q (q0a 6))) q0c)) (q1U (q0a 8) (q2Q (q0a 6)) q2P))))) q1g)
  (q0h (q4v (q0v (q6z q2u q2t Q0T Q0Z Q1a Q2g (q5c 3) (q0b (q3Z (q0b (q0a 5) (q0b (q1i Q1u (PureC.all q8C) (by rfl) T.b_tuple (by decide +kernel) (q0b (q0a 8) q0c)) q0c))) q0c))))))))))
  (q0h (q6x 3 (q0A (q0v (z4F rfl R.u64 (by rfl) T.b_sorted (by rfl) T.b_set (q0a 3))))))))
theorem q9B  : OkP c base 1 "_law_written" "_law_written" q2Z ["_law_number"] 1 q2y:=fun z=>fgP z sc_law_written 2 fun A outer s H R=>
  (q0e (z1E 1 2 rfl sc_law_written.nd (q0v q0P) (q0v (q1p x7a (PureC.all x9n) (by rfl) T.b_abs (by decide +kernel) (q0b (q0a 0) q0c))))
  (q0e (z9f PySem.PassesOwn.never (L2.PW.pt (q5s (q0L L2.op_gt (q4Q (p:=gtI)) (q0a 2) q0k (by first | exact Q0F _ (by decide) (by decide) | rfl)) (q4r (q0L (q4d R.u64) z2V (q0a 1) q0P (by first | exact Q0F _ (by decide) (by decide) | rfl))))) (q0h (z1E 1 2 rfl sc_law_written.nd (q0v (q1f q0Y q2N (q1D L2.ix_str x7c q0P (q1f Q2T z0u (q0a 2) q0k)) (q0a 1))) (q0v (q1f L2.op_fdiv x3b (q0a 2) q0k)))))
  (q0h (q0A (q0v (z0n (q0L L2.op_lt (q4Q (p:=ltI)) (q0a 0) q0k (by first | exact Q0F _ (by decide) (by decide) | rfl)) (q1f q0Y q2N q0P (q0a 1)) (q0a 1)))))))
theorem z3E (jai:DefP c base 1 "_law_written" [] q2y):OkP c base 2 "_law_text" "_law_text" q4O ["_law_schema_here","_law_facts_here"] 2 q2z:=fun z=>fgP z sc_law_text 9 fun A outer s H R=>
  (q0e (q4t 2 [("_law_name",3),("_law_keys",4),("_law_others",5)] (x5H _) rfl sc_law_text.nd (q1O (q0a 0)) (sc_law_text.bo (by decide +kernel)) (fun _ _ _ _ _=>(q6d rfl (q1b (q0t 3 sc_law_text.nd) (q1b (q0t 4 sc_law_text.nd) (q1b (q0t 5 sc_law_text.nd) q4w))))) (fun _ _ _ _ _=>q4b) (fun _ _ _ _ _=>(q1f q0Y q2N (q1f q0Y q2N (q1f q0Y q2N (q1f q0Y q2N (q1f q0Y q2N q0P (q0a 3)) q0P) (q1i q9a (PureC.all z7V) (by rfl) T.b_str (by decide +kernel) (q0b (q0a 4) q0c))) q0P) (q1i q9a (PureC.all z7V) (by rfl) T.b_str (by decide +kernel) (q0b (q0a 5) q0c)))))
  (q0e (q3v PySem.PassesOwn.never rfl (q1O (q0a 1)) (q6d rfl (q1b (q0t 6 sc_law_text.nd) (q1b (q0t 7 sc_law_text.nd) q4w))) (q0e (q1s 4 sc_law_text.nd (q0v (q1D q0U q4y (q0m (q9v [("_law_one_here",8)] rfl sc_law_text.nd (q1O (q0a 0)) (sc_law_text.bo (by decide +kernel)) (fun _ _ _ _ _=>(q0t 8 sc_law_text.nd)) (fun _ _ _ _ _=>(Q2M (q0L (q4d R.u64) z2V (q1D q0U q4y (q0a 8) q0k) (q0a 6) (by first | exact Q0F _ (by decide) (by decide) | rfl)))) (fun _ _ _ _ _=>(q1D q0U q4y (q0a 8) q0k)))) q0k)))
  (q0e (q1s 9 sc_law_text.nd (q0v (q1f q0Y q2N (q1f q0Y q2N (q0m (q2T (q0b q0P (q0b (q0a 6) q0c)))) (q0m (q9v [("_law_value",10)] rfl sc_law_text.nd (q1O (q1U (q0a 7) q2P (q2Q (q0a 4)))) (sc_law_text.bo (by decide +kernel)) (fun _ _ _ _ _=>(q0t 10 sc_law_text.nd)) (fun _ _ _ _ _=>q4b) (fun _ _ _ _ _=>(q0m (q0H jai R (q0b (q0a 10) q0c))))))) (q0m (q2T (q0b q0P q0c))))))
  (q0h (q4v (q0v (q6z q2u q2t Q0T Q0Z Q1a Q2g (q5c 2) (q0b (z0Y q0P (q1f q0Y q2N (q0a 9) (q0m (q9v [("_law_value",10)] rfl sc_law_text.nd (q1O (q1U (q0a 7) (q2Q (q0a 4)) q2P)) (sc_law_text.bo (by decide +kernel)) (fun _ _ _ _ _=>(q0t 10 sc_law_text.nd)) (fun _ _ _ _ _=>q4b) (fun _ _ _ _ _=>(q0m (q0H jai R (q0b (q0a 10) q0c)))))))) q0c))))))))
  (q0h (q6x 2 (q0A (q0v (z0Y q0P (q0a 2))))))))
theorem z2t (jae:DefP c base 2 "_law_text" [] q2z) (ja1:z8T c base 5 "Store" q0K) (ja8:x5R c base 3 "Store" "text" q1o) (DCK_Store_read:x5g c base 7 "Store" "read" ["text"] q1x) (jaj:x5g c base 7 "Store" "read" [] q1x) (jak:q9r c base 1 "Store" "__eq__" q1y) (jb0:x5R c base 1 "Store" "facts" q2x) (jaf:q9r c base 4 "Store" "block_of" q1q) (jb1:q9r c base 7 "Store" "without" q0X) (jb2:q9r c base 9 "Store" "settled" q1Q) (jb3:q9r c base 7 "Store" "joined" q2g) (jb4:q9r c base 7 "Store" "part" q2U) (jb5:z8T c base 5 "Store" q4j):OkO c base 10 "_law_right" "_law_right" q3Y ["_law_purse_here","_law_schema_here","_law_facts_here"] 2 q4p:=fun z=>fgO z sc_law_right 9 fun A outer s H R=>
  (q0e (z6F (q3Z (q0b (q0m (q8z ja1 R (q0b (q0a 1) (q0b (q1i Q1u (PureC.all q8C) (by rfl) T.b_tuple (by decide +kernel) (q0b (x6d (q0a 2)) q0c)) q0c)))) (q0b (q0m (q0H jae R (q0b (q0a 1) (q0b (q0a 2) q0c)))) q0c))) (q6d rfl (q1b (q0t 3 sc_law_right.nd) (q1b (q0t 4 sc_law_right.nd) q4w))))
  (q0e (q2W (q0L (q3M R.u64) z2I (q1p (q7Z sy R.hg R.u64) (PureC.all z0y) (by rfl) T.b_repr (by decide +kernel) (q0b (q0m (q6l ja8 T.C_Store T.m_Store R (q0a 3))) q0c)) (q1p (q7Z sy R.hg R.u64) (PureC.all z0y) (by rfl) T.b_repr (by decide +kernel) (q0b (q0a 4) q0c)) (by first | exact Q0F _ (by decide) (by decide) | rfl)) (q0h (q0A (q0v q7N))) q1g)
  (q0e (q3v PySem.PassesOwn.never rfl (q1O (q3Z (q0b (q0m (z4N jaj R (q0b (q0a 4) q0c))) (q0b (q0m (z8b DCK_Store_read R (x2S (q0a 4) x5S) (hl:=q0Q))) q0c)))) (q0t 5 sc_law_right.nd) (q0e (q2W (L2.PW.pt (q5s (q3u (x6W jak T.C_Store T.O_Store T.m_Store R (q0a 5) (q0a 3))) (q4r (q0L (q3M R.u64) z2I (q1p (q7Z sy R.hg R.u64) (PureC.all z0y) (by rfl) T.b_repr (by decide +kernel) (q0b (q3Z (q0b (q2o T.f_Store_schema (q0a 5)) (q0b (q0m (q6l jb0 T.C_Store T.m_Store R (q0a 5))) q0c))) q0c)) (q1p (q7Z sy R.hg R.u64) (PureC.all z0y) (by rfl) T.b_repr (by decide +kernel) (q0b (q3Z (q0b (q0a 1) (q0b (q1i Q1u (PureC.all q8C) (by rfl) T.b_tuple (by decide +kernel) (q0b (q0a 2) q0c)) q0c))) q0c)) (by first | exact Q0F _ (by decide) (by decide) | rfl))))) (q0h (q0A (q0v q7N))) q1g)
  (q0h (q2W (q0L (q3M R.u64) z2I (q0m (q6l ja8 T.C_Store T.m_Store R (q0a 5))) (q0a 4) (by first | exact Q0F _ (by decide) (by decide) | rfl)) (q0h (q0A (q0v q7N))) q1g))))
  (q0e (q3v PySem.PassesOwn.never rfl (q1O (q1f q0Y q2N (q1U (q0a 2) q2P (q2Q q0k)) (q1U (q0a 2) (q2Q (z9b L2.un_neg z9n q0k)) q2P))) (q0t 6 sc_law_right.nd) (q0e (q1s 7 sc_law_right.nd (q0v (q0m (q5b jaf T.C_Store T.m_Store R (q0a 3) (q0b (q0a 6) q0c)))))
  (q0e (q4t 8 [("_law_one_here",9)] (made _) rfl sc_law_right.nd (q1O (q0a 2)) (sc_law_right.bo (by decide +kernel)) (fun _ _ _ _ _=>(q0t 9 sc_law_right.nd)) (fun _ _ _ _ _=>(Q2M (L2.PW.pt (q5s (q0L (q4d R.u64) z2V (q0a 9) (q0a 6) (by first | exact Q0F _ (by decide) (by decide) | rfl)) (q4r (q0L (q3M R.u64) z2I (q0m (q5b jaf T.C_Store T.m_Store R (q0a 3) (q0b (q0a 9) q0c))) (q0a 7) (by first | exact Q0F _ (by decide) (by decide) | rfl))))))) (fun _ _ _ _ _=>(q0a 9)))
  (q0e (q1s 10 sc_law_right.nd (q0v (q0m (q5b jb1 T.C_Store T.m_Store R (q0a 3) (q0b (q0a 6) q0c)))))
  (q0e (q2W (L2.PW.pt (q5s (q0L (q3M R.u64) z2I (q0m (q6l ja8 T.C_Store T.m_Store R (q0m (q5b jb2 T.C_Store T.m_Store R (q0a 3) (q0b (q0a 6) q0c))))) (q0m (q0H jae R (q0b (q0a 1) (q0b (q0a 8) q0c)))) (by first | exact Q0F _ (by decide) (by decide) | rfl)) (q5s (q0L (q4d R.u64) z2V (q0m (q6l ja8 T.C_Store T.m_Store R (q0a 10))) (q0a 4) (by first | exact Q0F _ (by decide) (by decide) | rfl)) (q4r (q0L (q3M R.u64) z2I (q0m (q6l ja8 T.C_Store T.m_Store R (q0m (q5b jb3 T.C_Store T.m_Store R (q0a 10) (q0b (q0a 6) q0c))))) (q0a 4) (by first | exact Q0F _ (by decide) (by decide) | rfl)))))) (q0h (q0A (q0v q7N))) q1g)
  (q0e (q4t 11 [("_law_one_here",9)] (made _) rfl sc_law_right.nd (q1O (q0a 2)) (sc_law_right.bo (by decide +kernel)) (fun _ _ _ _ _=>(q0t 9 sc_law_right.nd)) (fun _ _ _ _ _=>(Q2M (q0L (q4d R.u64) z2V (q0m (q5b jaf T.C_Store T.m_Store R (q0a 3) (q0b (q0a 9) q0c))) (q0a 7) (by first | exact Q0F _ (by decide) (by decide) | rfl)))) (fun _ _ _ _ _=>(q0a 9)))
  (q0h (q2W (q0L (q3M R.u64) z2I (q0m (q6l ja8 T.C_Store T.m_Store R (q0m (q5b jb4 T.C_Store T.m_Store R (q0a 3) (q0b (q0a 7) q0c))))) (q0m (q0H jae R (q0b (q0a 1) (q0b (q0a 11) q0c)))) (by first | exact Q0F _ (by decide) (by decide) | rfl)) (q0h (q0A (q0v q7N))) q1g))))))))
  (q0h (q0A (q0v (x6V jak T.C_Store T.O_Store T.m_Store R (q0m (z4N jaj R (q0b (q0m (q0H jae R (q0b (q0a 1) (q0b (q0m (q2T q0c)) q0c)))) q0c))) (q0m (q8z jb5 R (q0b (q0a 1) q0c)))))))))))
theorem x7r (jb7:DefP c base 1 "_law_purse" [] q4m) (jb8:DefO c base 3 "_law_schema" q3F) (jb9:DefO c base 10 "_law_right" q4p) (jba:DefO c base 4 "_law_facts" q4o) (ja5:DefO c base 2 "_law_one" q1R):OkP c base 11 "law" "law" z5k ["_law_script"] 1 z5I:=fun z=>fgP z sc_law 3 fun A outer s H R=>
  (q0e (q1s 1 sc_law.nd (q0H jb7 R (q0b (q0a 0) q0c)))
  (q0e (q3v PySem.PassesOwn.never rfl (z0p (by rfl) T.b_range (q0b q0k q0c)) (q0t 2 sc_law.nd) (q0e (q1s 3 sc_law.nd (q0v (q0m (q1B jb8 R 1 (q0b q0k q0c)))))
  (q0h (q2W (q3u (q2S (q0m (q1B jb9 R 1 (q0b (q0a 3) (q0b (q0m (q1B jba R 1 (q0b (q0a 3) (q0b (q0m (q1B ja5 R 1 (q0b (q0m (q2T (q0b q0k (q0b q0k (q0b q0k (q0b q0k (q0b q0k (q0b q0k q0c)))))))) q0c))) q0c)))) q0c)))))) (q0h (q0A (q0v q7N))) q1g))))
  (q0h (q0A (q0v q7N)))))
end
end K04

namespace K04
variable [DL.Tbls]
open PySem PySem.Spec DL
open L2 (Key)
def KS:List Key:=[.inr "cells",.inr "mixed",.inr "draws"]
def z5Z (c:List Int) (m n:Int):Cell:=.di KS [.ol (c.map .int),.im (.int m),.im (.int n)]
def x8H (c:List Int) (m n:Int):Dat:=.dic KS [.lst (c.map .int),.int m,.int n]
theorem z8i {c:List Int} {m n:Int}:(z5Z c m n).frz = x8H c m n:=rfl
theorem z2u {c:List Int} {m n:Int}:dgD (x8H c m n) (.str "draws") = some (.int n):=rfl
theorem z8j {c:List Int} {m n:Int}:dgD (x8H c m n) (.str "mixed") = some (.int m):=rfl
theorem z8k {c:List Int} {m n:Int}:dgD (x8H c m n) (.str "cells") = some (.lst (c.map .int)):=rfl
theorem z8l {b:Bool} {c:List Int} {m n k:Int}:x0J "draws" (.int k) (some (some ⟨b,z5Z c m n⟩)) = some ⟨b,z5Z c m k⟩:=by
 dsimp only [x0J,z5Z]
 rw [if_pos (show KS.Nodup∧KS.length < 1000 by decide +kernel)]
 rfl
theorem x2j {c:List Int} {m n:Int}:x2T (.key (.inr "cells")) (z5Z c m n) = some (.ol (c.map .int)):=rfl
theorem x7s {c c':List Int} {m n:Int}:x4V (.key (.inr "cells")) (.ol (c'.map .int)) (z5Z c m n) = z5Z c' m n:=rfl
theorem x4k {c c':List Int} {z m n:Int}:x4V (.key (.inr "cells")) (.ol (c'.map .int ++ [.int z])) (z5Z c m n) = z5Z (c' ++ [z]) m n:=by
 show Cell.di KS [_,_,_] = Cell.di KS [_,_,_]
 rw [Q0D]; rfl
def Deck (N:Nat) (k:Cell):Prop:=∃ (c:List Int) (m n:Int),k = z5Z c m n∧0 ≤ n∧n ≤ N∧c.length ≤ 63
theorem Deck.more {N M:Nat} {k:Cell} (h:Deck N k) (l:N ≤ M):Deck M k:=let ⟨c,m,n,e,h0,h1,h2⟩:=h; ⟨c,m,n,e,h0,by omega,h2⟩
theorem q7J {a k:Int} (h:0 < k):0 ≤ a % k∧a % k < k:=⟨Int.emod_nonneg a (by omega),Int.emod_lt_of_pos a h⟩
theorem q6i {N:Nat} {o:Cell} (ho:Deck N o) (hN:N < 1000000000) {k:Int} (h0:0 < k) (h1:k < 2000000) (P:Cell × Cell→Prop) (hP:∀ o' i,Deck (N + 1) o'→0 ≤ i→i < k→P (.atm (.im (.int i)),o')):Yd (q1a o [.int k]) P:=by
 obtain ⟨c,m,n,rfl,hn0,hn1,hc⟩:=ho
 unfold q1a z0d
 have b1:∀ a:Int,-2 ^ 64 < a % 2147483647∧a % 2147483647 < 2 ^ 64:=fun a=>by have:=q7J (a:=a) (k:=2147483647) (by omega); omega
 have b2:∀ a:Int,-2 ^ 64 < a % 2147483563∧a % 2147483563 < 2 ^ 64:=fun a=>by have:=q7J (a:=a) (k:=2147483563) (by omega); omega
 simp only [q6G,Q0d,Q0o,Q0z,Q0e,Q0w,Q0p,Q0x,Q0u,q0M,x0K,q0D,q1C,q2H,q4A,q0E,q2G,q0x,q1j,q0n,q5f,q0p,q0o,q1c,q3G,z4c,q1F,z4j,Int.reduceLE,true_and,q0N,Yd_some,q8F,q0r,q3x,q0l,q1v,Q0H,q6H,Q0n,q8d,z8i,z0A,z4h,q8c,Q0a,Q0j,q0g,q0f,q0q,Q0c,↓reduceIte,q0y,Q0b,q0j,q0d,q4f,q5G,z2u,z0B,q3d,z8l,x2j,q6f,q6J,z8k,z0N,q0s,Q0K,Q0Q,z8j,q8e,Q3W,z0C,and_self]
 refine ⟨.inl (by omega),.inr (by omega),fun hc0=>?_,fun _=>?_⟩
 ·obtain ⟨c',z,rfl⟩:∃ c' z,c = c' ++ [z]:=by
   have h:c ≠ []:=fun z=>by subst z; cases hc0
   exact ⟨c.dropLast,c.getLast h,(Q3e h).symm⟩
  simp only [Q0A,Q1r] at hc
  simp only [Q0D,Q0e,Q0w,x3y,Yd_some,q3m,x7s,x2j,z0C,q8e,q0N,q6f,q2v,x4k,true_and,q3d,z8i,z2u,z0B,q6J,Q3W,↓reduceIte,and_self,q0s,x3B,x3D]
  refine ⟨by decide,fun _=>⟨by omega,by rw [Q0f]; omega,h0,hP _ _ ⟨c' ++ [z / k],m,n + 1,rfl,by omega,by omega,by simp; omega⟩ (q7J h0).1 (q7J h0).2⟩,
   fun _=>⟨.inr (by omega),.inl (b1 _),.inl (by omega),.inr (by omega),h0,hP _ _ ⟨c',m,n + 1,rfl,by omega,by omega,by omega⟩ (q7J h0).1 (q7J h0).2⟩⟩
 ·exact ⟨.inr (by omega),.inl (b1 _),.inl (by omega),.inr (by omega),h0,hP _ _ ⟨c,m,n + 1,rfl,by omega,by omega,by omega⟩ (q7J h0).1 (q7J h0).2⟩
theorem z4Q {β:Type} {N:Nat} {o:Cell} (ho:Deck N o) (hN:N < 1000000000) (enc:β→Dat) {xs:List β} (h0:xs ≠ []) (h1:xs.length < 100000) (P:Cell × Cell→Prop) (hP:∀ o' x,Deck (N + 1) o'→x ∈ xs→P (.atm (.im (enc x)),o')):Yd (q1R o [.lst (xs.map enc)]) P:=by
 have hl:0 < xs.length:=Q3k.mpr h0
 unfold q1R q9f
 simp only [q6G,Q0d,Q0o,Q0z,Q0e,Q0w,Q0p,Q0i,q0E,q0x,q1j,q0r,q3y,q0p,q0o,q2j,q0I,q0n,Q0b,Q0a,q0d,Q0j,q4f,Yd_some,q3n,true_and]
 refine q6i ho hN (by simp; omega) (by simp; omega) _ fun o' i d' i0 i1=>?_
 simp only [Q0f] at i1
 have hi:i.toNat < xs.length:=by omega
 simp only [q0l,q0y,q4g]
 refine Yd.of_eq (q8H (n:=i.toNat) (z:=enc xs[i.toNat]) (by omega) (by simp [hi])) ?_
 exact hP _ _ d' (Q3K hi)
theorem x4l {β:Type} {N:Nat} {o:Cell} (ho:Deck N o) (hN:N < 1000000000) (enc:β→Dat) {xs:List β} (h0:xs ≠ []) (h1:xs.length < 100000) (P:Cell × Cell→Prop) (hP:∀ o' x,Deck (N + 1) o'→x ∈ xs→P (.atm (.im (enc x)),o')):Yd (q1R o [.tup (xs.map enc)]) P:=by
 have hl:0 < xs.length:=Q3k.mpr h0
 unfold q1R q9f
 simp only [q6G,Q0d,Q0o,Q0z,Q0e,Q0w,Q0p,Q0i,q0E,q0x,q1j,q0r,q3y,q0p,q0o,q2j,q0I,q0n,Q0b,Q0a,q0d,Q0j,q4f,Yd_some,q4u,true_and]
 refine q6i ho hN (by simp; omega) (by simp; omega) _ fun o' i d' i0 i1=>?_
 simp only [Q0f] at i1
 have hi:i.toNat < xs.length:=by omega
 simp only [q0l,q0y,q2C]
 refine Yd.of_eq (q8H (n:=i.toNat) (z:=enc xs[i.toNat]) (by omega) (by simp [hi])) ?_
 exact hP _ _ d' (Q3K hi)
theorem x4m {c:List Int} {m:Int}:x8C (.str "cells") (.ol (c.map .int)) [(.str "mixed",.int m),(.str "draws",.int 0)] = some (z5Z c m 0):=by
 show (if KS.Nodup∧(2:Nat) ≤ 14 then some (z5Z c m 0) else none) = _
 rw [if_pos (by decide +kernel)]
theorem x7t {ns:List Int} (hn:ns.length ≤ 63) (P:Cell→Prop) (hP:∀ o,Deck 0 o→P o):Yd (q4m [.fro (ns.map .int)]) P:=by
 unfold q4m q9e
 simp only [q0O,Q0d,Q0o,Q0z,Q0e,Q0w,Q0p,Q0x,Q0u,q0M,z1G,q0D,q3z,q1G,q0n,q0x,q3G,q2j,q0p,q0o,q0I,q5F,q2s,q2b,Yd_some,Ev_ret,Q0a,q0d,q0g,q0f,q0q,Q0c,↓reduceIte,Q0n,Q0b,q0j,x3z,z9R (show (0:Int) ≤ 63 by omega),z9O,q2c,true_and]
 rw [← Q1X]
 refine q2R (fun i:Int=>Dat.int i) (ns.take (Int.toNat 63)) (fun _ ρ=>∃ (m:Int) (w:Option Slot),q6a w = false∧ρ = [imS (.fro (ns.map .int)),some ⟨false,.atm (.im (.lst ((ns.take (Int.toNat 63)).map .int)))⟩,some ⟨false,.atm (.im (.int m))⟩,w]) ⟨_,none,rfl,rfl⟩ ?_ ?_
 ·rintro pre x post ρ hx ⟨m,w,hw,rfl⟩
  simp only [q0Z,q0g,q0f,hw,Q0c,↓reduceIte,Q0n,q1C,q1P,q0x,q1j,q3G,q0n,Yd_some,Q0b,Q0a,q0j,q5G,q8e,Q3W,q6J,q0N,q3d]
  exact ⟨.inr (by omega),_,_,rfl,rfl⟩
 ·rintro ρ ⟨m,w,hw,rfl⟩
  have hl:(List.take (Int.toNat 63) ns).length ≤ 63:=by rw [Q1f]; exact Q3T _ _
  simp only [q0D,q0E,q0u,z7O,x0w,x0v,q3G,q0n,z9E,z1L,Yd_some,Q0b,Q0a,q0j,z9K]
  rw [← List.map_reverse]
  refine ⟨by simp; omega,?_⟩
  rw [x4m,Yd_some]
  exact hP _ ⟨(List.take (Int.toNat 63) ns).reverse,m,0,rfl,by omega,by omega,by simpa using hl⟩
end K04

namespace K04
variable [DL.Tbls]
open PySem PySem.Spec DL
abbrev Tb:=Str × Nat × Nat
def tbD (t:Tb):Dat:=.tup [.str t.1,.int t.2.1,.int t.2.2]
def isS:Dat→Bool | .str _=>true | _=>false
def x9r:Dat→Bool | .bl _=>true | _=>false
def x8I:Dat→Bool | .bl _=>true | .int _=>true | _=>false
theorem x7u:∀ {d:Dat},okD d→isT .str d = some (.bl (isS d))
 | .non,_ | .bl _,_ | .int _,_ | .str _,_ | .tup _,_ | .lst _,_ | .dic _ _,_=>rfl
 | .fro _,h | .ins _ _ _,h | .opq _,h=>h.elim
theorem x9s:∀ {d:Dat},okD d→isT .bool d = some (.bl (x9r d))
 | .non,_ | .bl _,_ | .int _,_ | .str _,_ | .tup _,_ | .lst _,_ | .dic _ _,_=>rfl
 | .fro _,h | .ins _ _ _,h | .opq _,h=>h.elim
theorem x9t:∀ {d:Dat},okD d→isT .int d = some (.bl (x8I d))
 | .non,_ | .bl _,_ | .int _,_ | .str _,_ | .tup _,_ | .lst _,_ | .dic _ _,_=>rfl
 | .fro _,h | .ins _ _ _,h | .opq _,h=>h.elim
def LET:List Nat:=("abcdefghijklmnopqrstuvwxyz":Str).cps.toList
def x5h:Dat→Bool
 | .str x=>decide (1 ≤ x.length∧x.length ≤ 8) && x.cps.toList.all fun k=>decide (k ∈ LET)
 | _=>false
theorem q5V {x:Str}:x5h (.str x) = (decide (1 ≤ x.length∧x.length ≤ 8) && x.cps.toList.all fun k=>decide (k ∈ LET)):=rfl
abbrev ans (b:Bool):Option Cell:=some (.atm (.im (.bl b)))
theorem z8m {d:Dat} (h:okD d):q1n [d] = ans (x8I d && !x9r d):=by
 apply Yd.eq
 unfold q1n q5N
 simp only [q0O,Q0d,Q0o,Q0z,Q0e,Q0w,Q0p,Q0i,q0E,q0u,q0x,q3c,z6O,q2r,q0n,Q0a,q0d,Yd_some,x9s h,q0s,x9t h,true_and]
 cases x8I d <;> simp
theorem x7v {d:Dat} (h:okD d):q5O [d] = ans (x5h d):=by
 apply Yd.eq
 unfold q5O z2m
 cases d with
 | str x=>
  obtain ⟨h1,h2⟩:x.length ≤ 60∧PyData.strOk x = true:=h
  simp only [q0O,Q0d,Q0o,Q0z,Q0e,Q0w,Q0p,Q0x,Q0u,q0M,q2H,q0E,q2G,q0u,q0x,q3G,q1c,q0D,q2j,q0p,q0o,q0I,q0r,q1N,Q1k,Q1n,Q1b,q0B,q0l,q1v,z3b,q0n,q1J,forall_const,Q0v,false_implies,and_true,q1M,Q0K,Q0Q,q1F,q6D,q0s,Yd_some,Q0c,q2r,Q0a,q0d,q0W,q0V,q1u,Q0m,Q0j,true_and,z1J,q8f,q0N,q3m,z0G,z0E,q6Z]
  have no:∀ {z:Int},¬ (1 ≤ x.length∧x.length ≤ 8)→Cell.atm (.im (.bl false)) = Cell.atm (.im (.bl (x5h (.str x)))):=fun hz=>by
   rw [q5V,decide_eq_false hz,Q3Z]
  refine ⟨by omega,fun h0=>⟨fun h8=>no (z:=0) (by omega),fun h8=>?_⟩,fun h0=>no (z:=0) (by omega)⟩
  refine q3S (fun k:Nat=>Dat.str ⟨#[k]⟩) x.cps.toList (fun k=>.bl (decide (k ∈ LET))) (fun k hk=>?_) ?_
  ·simp only [q0Z,q0g,q0f,q0q,Q0c,↓reduceIte,Q0n,q0B,q1j,q3G,q0n,Yd_some,Q0b,Q0a,q0j,Q0m,Q0j,and_true,z1K]; rfl
  simp only [z0K,Yd_some]
  refine ⟨?_,?_⟩
  ·show _ ≤ _
   simp only [Q0f,Q1c]
   have:x.cps.size = x.length:=rfl
   omega
  ·rw [q5V,decide_eq_true (show 1 ≤ x.length∧x.length ≤ 8 by omega),Bool.true_and]
 | fro _=>exact h.elim
 | ins _ _ _=>exact h.elim
 | dix _ _=>exact h.elim
 | opq=>first | exact h.elim | exact h.ok.elim
 | _=>simp only [q0O,Q0d,Q0o,Q0z,Q0e,Q0w,Q0p,Q0x,Q0u,q0M,q2H,q0E,q2G,q0u,q0x,q3G,q1c,q0D,q2j,q0p,q0o,q0I,q0r,q1N,Q1k,Q1n,Q1b,q0B,q0l,q1v,z3b,q0n,q1J,forall_const,Q0v,false_implies,and_true,q1M,Q0K,Q0Q,q1F,q6D,q0s,Yd_some,Q0c,q2r,Q0a,q0d,q0W,q0V,q1u,Q0m,Q0j,true_and,z0I,z4k,q8J,q4u,q3m,z0G,z0E,q5J,q3n,z0J,q8g,q0N,z0L]; rfl
def q4D (ts:List Tb) (n:Str):Option (Nat × Nat):=(ts.find? fun t=>decide (t.1 = n)).map (·.2)
def z8V:Option (Nat × Nat)→Dat
 | some (k,o)=>.tup [.int k,.int o]
 | none=>.non
theorem q5R (ts:List Tb) (n:Str):q1z [.tup (ts.map tbD),.str n] = some (.atm (.im (z8V (q4D ts n)))):=by
 apply Yd.eq
 unfold q1z q9c
 simp only [q0O,Q0d,Q0o,Q0z,Q0e,Q0w,Q0p,Q0x,Q0u,q0M,q3z,q1G,q0n,Q0a,q0d,Yd_some,q1m,true_and]
 refine q2R tbD ts (fun pre ρ=>∃ (w2 w3 w4:Option DL.Slot),q6a w2 = false∧q6a w3 = false∧q6a w4 = false∧(∀ t ∈ pre,t.1 ≠ n)∧ρ = [imS (.tup (ts.map tbD)),imS (.str n),w2,w3,w4])
  ⟨none,none,none,rfl,rfl,rfl,(fun _ h=>nomatch h),rfl⟩ ?_ ?_
 ·rintro pre t post ρ hx ⟨w2,w3,w4,h2,h3,h4,hne,rfl⟩
  simp only [tbD,q5n,q2a,q0Z,q0g,q0f,h2,Q0c,↓reduceIte,Q0n,q2K,Q0U,h3,h4,ne_eq,q2H,q0E,q8G,q2G,q0u,q0x,q3K,q0p,Q0d,Q0H,q0o,Q0o,true_and,q0n,q1c,q1P,q1F,q1j,Yd_some,Q0b,Q0a,q0j,q0d,q4B,q0s,decide_eq_true_eq,decide_eq_false_iff_not]
  refine ⟨fun e=>?_,fun e=>⟨_,_,_,rfl,rfl,rfl,fun z hz=>?_,rfl⟩⟩
  ·unfold q4D
   rw [hx,Q3x,Q1U.mpr (fun z hz=>by simpa using hne z hz),Q1R (by simpa using e)]
   rfl
  ·rcases Q0k.mp hz with hz | hz
   ·exact hne z hz
   ·rw [Q0t.mp hz]; exact e
 ·rintro ρ ⟨w2,w3,w4,h2,h3,h4,hne,rfl⟩
  simp only [q0D,q0E,q0u,q0x,q3G]
  unfold q4D
  rw [Q1U.mpr (fun z hz=>by simpa using hne z hz)]
  rfl
abbrev Fa:=Str × List Int
def faD (f:Fa):Dat:=.tup [.str f.1,q8k f.2]
def isI (d:Dat):Bool:=x8I d && !x9r d
theorem z1k (r:List Int):(r.map Dat.int).all isI = true:=by
 rw [Q3n,Q1h]; intro _ _; rfl
theorem x9u (i:Int):q1n [.int i] = ans true:=by
 apply Yd.eq
 unfold q1n q5N
 simp only [q0O,Q0d,Q0o,Q0z,Q0e,Q0w,Q0p,Q0i,q0E,q0u,q0x,q3c,z6O,q2r,q0n,Q0a,q0d,Yd_some,q8J,q0s,Q4b,implies_true,true_and,Q0v,false_implies,and_self]
theorem z3F {i:Nat}:q0T [.int (i:Int)] = ans (decide (i ≤ 4)):=by
 apply Yd.eq
 unfold q0T q3j
 simp only [q0O,Q0d,Q0o,Q0z,Q0e,Q0w,Q0p,Q0i,q0E,q0u,q0x,q3c,q6D,q3G,q0n,q0r,q0C,q0p,q0o,Q0a,q0d,Yd_some,q3m,q0s,z0E,z0G,x9u,q0l,q0y,forall_const,Q0v,false_implies,and_true,true_and]
 refine ⟨fun _=>?_,fun h=>absurd h (by omega)⟩
 have:leI (i:Int) 4 = decide (i ≤ 4):=by unfold leI; by_cases h:i ≤ 4 <;> simp [h] <;> omega
 rw [this]
def x4n (n:Nat):Dat→Bool
 | .tup ds=>decide (ds.length = n) && ds.all isI
 | _=>false
theorem x4o {d:Dat} (h:okD d) {n:Nat} (hl:∀ ds,d = .tup ds→ds.length ≤ 10000):q1L [d,.int (n:Int)] = ans (x4n n d):=by
 apply Yd.eq
 unfold q1L q6g x4n
 cases d with
 | tup ds=>
  have hd:=okDs_mem.mp h
  have hl:=hl ds rfl
  simp only [q0O,Q0d,Q0o,Q0z,Q0e,Q0w,Q0p,Q0x,Q0u,q0E,q0u,q0x,q3c,q2j,q0p,q0o,q0I,q0r,q1N,Q1k,Q1n,Q1b,q0B,q0l,q1v,q1G,q0n,q1j,q2r,Q0a,q0d,Q0b,q0W,q0V,q1u,Q0m,Q0j,true_and,Yd_some,q1m,q4u,q8I,q0s,decide_eq_true_eq,decide_eq_false_iff_not,q5J,forall_const,Q0v,false_implies,and_true]
  refine ⟨fun e=>?_,fun e=>?_⟩
  ·have e':ds.length = n:=by omega
   rw [show q3H (.nm 2) z1y (q1d (q1l q1n [] (evs [q0i 2]))) [2] ds = q3H (.nm 2) z1y (q1d (q1l q1n [] (evs [q0i 2]))) [2] (ds.map id) by rw [List.map_id]]
   refine q3S id ds (fun d=>.bl (isI d)) (fun d hx=>?_) ?_
   ·simp only [id,q0Z,q0g,q0f,q0q,Q0c,↓reduceIte,Q0n,q0B,q0r,q0C,Q0i,q0p,q0o,q0n,Yd_some,Q0b,Q0a,q0j,Q0m,Q0j,and_true,z8m (hd d hx),q0l,q0y]; rfl
   simp only [z0K,e',decide_true,Bool.true_and,Yd_some,and_true]
   simp; omega
  ·rw [decide_eq_false (show ¬ ds.length = n by omega),Q3Z]
 | fro _=>exact h.elim
 | ins _ _ _=>exact h.elim
 | dix _ _=>exact h.elim
 | opq=>exact h.elim
 | _=>simp only [q0O,Q0d,Q0o,Q0z,Q0e,Q0w,Q0p,Q0x,Q0u,q0E,q0u,q0x,q3c,q2j,q0p,q0o,q0I,q0r,q1N,Q1k,Q1n,Q1b,q0B,q0l,q1v,q1G,q0n,implies_true,and_true,q1j,q2r,Q0a,q0d,Q0b,q0W,q0V,q1u,Q0m,Q0j,true_and,Yd_some,z0I,q0s,Q0c,false_implies,and_self,z4k,q8J,q8f,q0N,q8I,decide_eq_true_eq,q6Z,q2c,q3n,z0J,q8g,z0L]
structure TbOk (t:Tb):Prop where
 nm:x5h (.str t.1) = true
 sm:∀ c ∈ t.1.cps.toList,x5f c
 ok:okD (.str t.1)
 k:t.2.1 ≤ 4
 o:t.2.2 ≤ 4
 p:0 < t.2.1 + t.2.2
theorem z3G {t:Tb} (h:TbOk t):q2w [tbD t] = ans true:=by
 apply Yd.eq
 unfold q2w q9X tbD
 have:=h.p
 simp only [q0O,Q0d,Q0o,Q0z,Q0e,Q0w,Q0p,Q0i,q0M,q2H,q0E,q2G,q0u,q0x,q3G,q1c,q0D,q3c,q1j,q0n,q0r,q0C,q0p,q0o,q1J,forall_const,Q0v,false_implies,and_true,q1M,Q0K,Q0Q,q1F,q2j,q0I,q2r,Q0a,q0d,Yd_some,q2C,q1K,Q0b,q3d,q3m,z3F,decide_eq_true h.o,q0l,q0y,q0s,decide_eq_true h.k,x7v h.ok,h.nm,true_and,q4u,Q3p,q5g,decide_true,Q1v,Q0c,q5J]
 have:gtI ((t.2.1:Int) + (t.2.2:Int)) 0 = true:=by unfold gtI; simp; omega
 rw [this]
structure Sch (ts:List Tb):Prop where
 ok:∀ t ∈ ts,TbOk t
 asc:ts.Pairwise fun a b=>a.1.cps.toList < b.1.cps.toList
 ne:ts ≠ []
 le:ts.length ≤ 6
theorem x7w {ts:List Tb} (h:Sch ts):q4S [.tup (ts.map tbD)] = ans true:=by
 apply Yd.eq
 unfold q4S q9Y
 have h1:=h.le
 have h2:0 < ts.length:=Q3k.mpr h.ne
 simp only [q0O,Q0d,Q0o,Q0z,Q0e,Q0w,Q0p,Q0i,q0E,q0u,q0x,q3c,q6D,q3G,q2j,q0p,q0o,q0I,q0n,q2r,Q0a,q0d,Yd_some,q4u,q3m,q0s,z0E,z0G,q5J,forall_const,Q0v,false_implies,and_true,true_and]
 refine ⟨fun _=>?_,fun z=>absurd z (by simp; omega)⟩
 have:leI ((ts.map tbD).length:Int) 6 = true:=by unfold leI; simp; omega
 rw [this]
theorem x2k {α:Type} {l:List α} {pre post:List (α × Nat)} {x:α × Nat} (h:l.zipIdx = pre ++ x :: post):x.2 = pre.length∧l[pre.length]? = some x.1∧pre.length < l.length:=by
 have h1:(l.zipIdx)[pre.length]? = some x:=by rw [h]; simp
 rw [Q3b] at h1
 cases hg:l[pre.length]? with
 | none=>rw [hg] at h1; cases h1
 | some y=>
  rw [hg] at h1
  cases h1
  exact ⟨by simp,rfl,(Q0r.mp hg).1⟩
def enB (p:Tb × Nat):Dat:=.tup [.int (p.2:Nat),tbD p.1]
theorem x1a (ts:List Tb):q4z (ts.map tbD) = ts.zipIdx.map enB:=by
 unfold q4z
 rw [List.zipIdx_map,Q0R]; rfl
theorem x9v {ts:List Tb} (h:Sch ts):q4h [.tup (ts.map tbD)] = some (.atm (.im (.lst []))):=by
 apply Yd.eq
 unfold q4h q9b
 simp only [q0O,Q0d,Q0o,Q0z,Q0e,Q0w,Q0p,Q0x,Q0u,q0M,q1C,q0D,q3z,z7C,q0p,q0o,q0n,q3x,Q0H,q0g,q0f,q0q,Q0c,↓reduceIte,Q0n,Yd_some,Q0a,q0d,x0u,x1a,true_and]
 refine q2R enB ts.zipIdx (fun _ ρ=>∃ w2 w3:Option DL.Slot,Tmp w2∧Tmp w3∧ρ = [imS (.tup (ts.map tbD)),some ⟨false,.atm (.ol [])⟩,w2,w3]) ⟨none,none,.non,.non,rfl⟩ ?_ ?_
 ·rintro pre x post ρ hx ⟨w2,w3,h2,h3,rfl⟩
  obtain ⟨e1,e2,e3⟩:=x2k hx
  have tx:x.1 ∈ ts:=Q0N e2
  simp only [enB,e1,q5n,q2a,q0Z,q0g,q0f,h2.pin,Q0c,↓reduceIte,Q0n,q2K,Q0U,h3.pin,q2H,q4A,q1P,q0x,q5f,q0p,q0o,q0n,q1c,q1J,forall_const,Q0v,false_implies,and_true,q6C,q1F,q1j,q3G,true_and,q0r,q0C,Q0i,q1M,Q0K,Q0Q,Yd_some,Q0b,Q0a,q0j,Q0m,Q0j,q3B,q3C,q6f,q2v,Q0o,Q0u,q0N,q0d,z9N,q2C,q3m,q0s,z0F,z3c,z3G (h.ok _ tx),q0l,q0y]
  refine ⟨fun hp=>?_,fun hp=>⟨_,_,.im,.im,rfl⟩⟩
  obtain ⟨y,hy⟩:∃ y,ts[pre.length - 1]? = some y:=⟨ts[pre.length - 1]'(by omega),Q0G _⟩
  have ty:y ∈ ts:=Q0N hy
  have lt:y.1.cps.toList < x.1.1.cps.toList:=by
   obtain ⟨i1,g1⟩:=Q0r.mp hy
   obtain ⟨i2,g2⟩:=Q0r.mp e2
   have:=List.pairwise_iff_getElem.mp h.asc (pre.length - 1) pre.length i1 i2 (by omega)
   rw [g1,g2] at this
   exact this
  refine Yd.of_eq (q8H (n:=pre.length - 1) (z:=tbD y) (by omega) (by rw [Q0O,hy]; rfl)) ?_
  have ea:Q4n (ts.map tbD) ((pre.length:Int) - 1) = some (tbD y):=q8H (n:=pre.length - 1) (by omega) (by rw [Q0O,hy]; rfl)
  simp only [z3G (h.ok _ ty),ea,Yd_some,q0l,q0y,q0s,forall_const,Q0v,false_implies,and_true]
  unfold tbD
  simp only [q2C,q1K,Q0a,Yd_some,x0L,decide_eq_true lt,Q1v,q0s,Q0c,false_implies,forall_const,true_and]
  exact ⟨_,_,.im,.im,rfl⟩
 ·rintro ρ ⟨w2,w3,h2,h3,rfl⟩
  simp only [q0D,q7y,q3A,q5H,q0l,q1v,q0E,q0u,q0x,q0n,Q0b,Q0a,q0j,Yd_some]
def isFa (ts:List Tb):Dat→Bool
 | .tup [.str n,.tup es]=>match q4D ts n with
  | some (k,o)=>decide (es.length = k + o) && es.all isI
  | none=>false
 | _=>false
theorem x7x {ts:List Tb} {n:Str} {b:Dat}:isFa ts (.tup [.str n,b]) = match q4D ts n with
  | some (k,o)=>x4n (k + o) b
  | none=>false:=by
 cases b <;> simp only [isFa,x4n] <;> cases q4D ts n <;> rfl
theorem x7y {ts:List Tb} {a b:Dat} (h:isS a = false):isFa ts (.tup [a,b]) = false:=by
 cases a <;> first | rfl | cases h
theorem x4p {ts:List Tb} {ds:List Dat} (h:ds.length ≠ 2):isFa ts (.tup ds) = false:=by
 match ds,h with
 | [],_=>rfl
 | [.non],_ | [.bl _],_ | [.int _],_ | [.str _],_ | [.tup _],_ | [.lst _],_ | [.fro _],_ | [.dic _ _],_ | [.ins _ _ _],_ | [.dix _ _],_ | [.opq _],_=>rfl
 | [a,b],h=>exact absurd rfl h
 | a :: b :: c :: ds,_=>cases a <;> cases b <;> rfl
theorem x4q {ts:List Tb} {f:Fa} {k o:Nat} (h:q4D ts f.1 = some (k,o)) (hl:f.2.length = k + o):isFa ts (faD f) = true:=by
 show isFa ts (.tup [.str f.1,.tup (f.2.map .int)]) = true
 simp only [isFa,h,z1k,Q1b,Q0f,decide_eq_true_eq]
 exact hl
def shD:Dat→Nat
 | .tup [_,.tup es]=>es.length
 | _=>0
theorem x2l {ts:List Tb} {d:Dat} (h:okD d) (hs:shD d ≤ 10000):q2J [.tup (ts.map tbD),d] = ans (isFa ts d):=by
 apply Yd.eq
 unfold q2J z2n
 cases d with
 | tup ds=>
  simp only [q0O,Q0d,Q0o,Q0z,Q0e,Q0w,Q0p,Q0x,Q0u,q0M,q2H,q0E,q2G,q0u,q0x,q3G,q1c,q0D,q1C,q3c,q0r,q0C,Q0i,q0p,q0o,q1j,q0n,q1J,forall_const,Q0v,false_implies,and_true,q1M,Q0K,Q0Q,q1F,q2r,q2j,q0I,Q0b,Q0a,q0d,q0g,q0f,q0q,Q0c,↓reduceIte,Q0n,Yd_some,q0j,q2C,q1K,q4u,q5g,q0s,decide_eq_false_iff_not,decide_eq_true_eq,q5J,true_and]
  refine ⟨fun h2=>?_,fun h2=>?_⟩
  ·rw [x4p (by omega)]
  ·obtain ⟨a,b,rfl⟩:∃ a b,ds = [a,b]:=by
    match ds,(show ds.length = 2 by omega) with
    | [a,b],_=>exact ⟨a,b,rfl⟩
   obtain ⟨ha,hb,-⟩:=h
   simp only [Q0a,Q0b,Yd_some,x7u ha,q0s]
   refine ⟨fun e=>?_,fun e=>?_⟩
   ·rw [x7y e]
   cases a with
   | str n=>
    simp only [q5R,Yd_some,q0l,q0y]
    rw [x7x]
    cases hc:q4D ts n with
    | none=>simp only [z8V,q8i,implies_true,and_true,Yd_some,q0s,Q0c,false_implies]
    | some q=>
     obtain ⟨k,o⟩:=q
     have hcast:((k:Int) + (o:Int)) = ((k + o:Nat):Int):=by omega
     simp only [z8V,z0H,q2C,q1K,Q0a,Q0b,Yd_some,q3d,hcast,x4o hb (n:=k + o) (fun es e=>by subst e; exact hs),q0l,q0y,implies_true,true_and,q0s,Q0v,false_implies]
   | _=>cases e
 | fro _=>exact h.elim
 | ins _ _ _=>exact h.elim
 | dix _ _=>exact h.elim
 | opq=>first | exact h.elim | exact h.ok.elim
 | _=>simp only [q0O,Q0d,Q0o,Q0z,Q0e,Q0w,Q0p,Q0x,Q0u,q0M,q2H,q0E,q2G,q0u,q0x,q3G,q1c,q0D,q1C,q3c,q0r,q0C,Q0i,q0p,q0o,q1j,q0n,q1J,forall_const,Q0v,false_implies,and_true,q1M,Q0K,Q0Q,q1F,q2r,q2j,q0I,Q0b,Q0a,q0d,q0g,q0f,q0q,Q0c,↓reduceIte,Q0n,Yd_some,q0j,z0I,q0s,true_and,z4k,q8J,q8f,q0N,q5g,decide_eq_false_iff_not,decide_eq_true_eq,q6Z,q4g,q1K,q3n,z0J,q8g,z0L]; rfl
theorem x2m {f:Fa} (h1:okD (.str f.1)) (h2:∀ i ∈ f.2,i.natAbs < 10 ^ 50):okD (faD f):=⟨h1,okDs_mem.mpr fun d hd=>by
 obtain ⟨i,hi,rfl⟩:=Q0y.mp hd
 exact h2 i hi,trivial⟩
theorem x4r {ts:List Tb} {f:Fa} {k o:Nat} (h:okD (faD f)) (hc:q4D ts f.1 = some (k,o)) (hl:f.2.length = k) (h1:k ≤ 10000):q2f [.tup (ts.map tbD),faD f] = ans true:=by
 apply Yd.eq
 unfold q2f q7f faD q8k
 obtain ⟨ha,hb,-⟩:=h
 have hb':okD (.tup (f.2.map .int)):=hb
 simp only [q0O,Q0d,Q0o,Q0z,Q0e,Q0w,Q0p,Q0x,Q0u,q0M,q2H,q0E,q2G,q0u,q0x,q3G,q1c,q0D,q1C,q3c,q0r,q0C,Q0i,q0p,q0o,q1j,q0n,q1J,forall_const,Q0v,false_implies,and_true,q1M,Q0K,Q0Q,q1F,q2r,q2j,q0I,Q0b,Q0a,q0d,q0g,q0f,q0q,Q0c,↓reduceIte,Q0n,Yd_some,q0j,q2C,q1K,q5R,z8V,hc,q0l,q0y,z0H,x4o hb' (n:=k) (fun es e=>by cases e; simpa [hl] using h1),q0s,q6Z,true_and,q4u,Q3p,q5g,decide_true,Q1v,q5J]
 simp only [x4n,Q0f,hl,z1k,decide_true,Q1b]
end K04

namespace K04
variable [DL.Tbls]
open PySem PySem.Spec DL
open L2 (Key)
section
variable {κ α:Type} [DecidableEq κ]
def z0f (k:κ) (a:α):List (κ × List α)→List (κ × List α)
 | []=>[(k,[a])]
 | (l,as) :: gs=>if l = k then (l,as ++ [a]) :: gs else (l,as) :: z0f k a gs
def grp (xs:List (κ × α)):List (κ × List α):=xs.foldl (fun g p=>z0f p.1 p.2 g) []
theorem z4R (xs:List (κ × α)) (p:κ × α):grp (xs ++ [p]) = z0f p.1 p.2 (grp xs):=by unfold grp; rw [List.foldl_append]; rfl
def lkG (g:List (κ × List α)) (k:κ):List α:=match g.find? (fun p=>decide (p.1 = k)) with
 | some p=>p.2
 | none=>[]
theorem z8n (k:κ):lkG ([]:List (κ × List α)) k = []:=rfl
theorem q3g (p:κ × List α) (g:List (κ × List α)) (k:κ):lkG (p :: g) k = if p.1 = k then p.2 else lkG g k:=by
 unfold lkG
 rw [Q2s]
 by_cases h:p.1 = k
 ·simp [h]
 ·simp [h]
theorem z8o (k:κ) (a:α) (k':κ):∀ g:List (κ × List α),lkG (z0f k a g) k' = if k = k' then lkG g k' ++ [a] else lkG g k'
 | []=>by rw [z0f,q3g,z8n]; split <;> rfl
 | (l,as) :: g=>by
  rw [z0f]
  by_cases h:l = k
  ·subst h
   rw [if_pos rfl,q3g,q3g]
   by_cases h2:l = k'
   ·simp [h2]
   ·simp [h2]
  ·rw [if_neg h,q3g,q3g,z8o k a k' g]
   by_cases h2:l = k'
   ·subst h2
    rw [if_pos rfl,if_neg (fun z=>h z.symm),if_pos rfl]
   ·rw [if_neg h2,if_neg h2]
theorem z8p (xs:List (κ × α)) (k:κ):lkG (grp xs) k = (xs.filter fun p=>decide (p.1 = k)).map (·.2):=by
 have key:∀ (xs:List (κ × α)) (g:List (κ × List α)),lkG (xs.foldl (fun g p=>z0f p.1 p.2 g) g) k = lkG g k ++ (xs.filter fun p=>decide (p.1 = k)).map (·.2):=by
  intro xs
  induction xs with
  | nil=>intro g; simp
  | cons p xs ih=>
   intro g
   rw [Q3S,ih,z8o,List.filter_cons]
   by_cases h:p.1 = k
   ·simp [h]
   ·simp [h]
 have:=key xs []
 rw [z8n,Q0u] at this
 exact this
theorem z4S (k:κ) (a:α):∀ g:List (κ × List α),(z0f k a g).length ≤ g.length + 1
 | []=>by rw [z0f]; simp
 | (l,as) :: g=>by
  rw [z0f]
  split
  ·simp
  ·have:=z4S k a g; simp; omega
theorem z8q (xs:List (κ × α)):(grp xs).length ≤ xs.length:=by
 have key:∀ (xs:List (κ × α)) (g:List (κ × List α)),(xs.foldl (fun g p=>z0f p.1 p.2 g) g).length ≤ g.length + xs.length:=by
  intro xs
  induction xs with
  | nil=>intro g; simp
  | cons p xs ih=>
   intro g
   rw [Q3S]
   have:=ih (z0f p.1 p.2 g)
   have:=z4S p.1 p.2 g
   simp; omega
 have:=key xs []
 simpa [grp] using this
theorem x7z (xs:List (κ × α)) (k:κ):(lkG (grp xs) k).length ≤ xs.length:=by
 rw [z8p,Q0f]; exact Q1i _ _
theorem x4s (k:κ):∀ g:List (κ × List α),(∃ j,(g.findIdx? fun p=>decide (p.1 = k)) = some j∧g[j]? = some (k,lkG g k)∧∀ a,z0f k a g = g.set j (k,lkG g k ++ [a]))∨((g.findIdx? fun p=>decide (p.1 = k)) = none∧lkG g k = []∧∀ a,z0f k a g = g ++ [(k,[a])])
 | []=>.inr ⟨rfl,rfl,fun _=>rfl⟩
 | (l,as) :: g=>by
  by_cases h:l = k
  ·subst h
   exact .inl ⟨0,by simp [Q1p],by simp [q3g],fun a=>by simp [z0f,q3g]⟩
  ·rcases x4s k g with ⟨j,h1,h2,h3⟩ | ⟨h1,h2,h3⟩
   ·exact .inl ⟨j + 1,by simp [Q1p,h,h1],by rw [q3g,if_neg h]; simpa using h2,fun a=>by rw [z0f,if_neg h,h3,q3g,if_neg h]; rfl⟩
   ·exact .inr ⟨by simp [Q1p,h,h1],by rw [q3g,if_neg h]; exact h2,fun a=>by rw [z0f,if_neg h,h3]; rfl⟩
theorem z4L {β:Type} {l:List β} {j:Nat} {x:β} (h:l[j]? = some x):l.set j x = l:=by
 obtain ⟨hlt,e⟩:=Q0r.mp h
 rw [← e]; exact Q2S ..
end
theorem z2v:∀ r:List Int,q6u (r.map .int) = some (r.map .num)
 | []=>rfl
 | i :: r=>by
  show (match nkD (.int i),q6u (r.map .int) with | some k,some ks=>some (k :: ks) | _,_=>none) = _
  rw [z2v r]; rfl
theorem z0g:∀ r:List Int,NestedKey.depthAll (r.map .num) = 0
 | []=>rfl
 | i :: r=>by
  show max _ (NestedKey.depthAll (r.map .num)) = 0
  rw [z0g r]; rfl
theorem x4t {r q:List Int} (h:r.map NestedKey.num = q.map NestedKey.num):r = q:=by
 induction r generalizing q with
 | nil=>cases q with
  | nil=>rfl
  | cons _ _=>cases h
 | cons a r ih=>cases q with
  | nil=>cases h
  | cons b q=>
   injection h with h1 h2
   injection h1 with h1
   rw [h1,ih h2]
theorem z8r (f:Fa):kyD (faD f) = some (.tup [.text f.1,.tup (f.2.map .num)]):=by
 have e:nkD (faD f) = some (.tup [.text f.1,.tup (f.2.map .num)]):=by
  show (match q6u [.str f.1,q8k f.2] with | some ks=>some (NestedKey.tup ks) | none=>none) = _
  have e1:nkD (q8k f.2) = some (.tup (f.2.map .num)):=by
   show (match q6u (f.2.map .int) with | some ks=>some (NestedKey.tup ks) | none=>none) = _
   rw [z2v]
  have e2:q6u [.str f.1,q8k f.2] = some [.text f.1,.tup (f.2.map .num)]:=by
   show (match nkD (.str f.1),(match nkD (q8k f.2),q6u [] with | some k,some ks=>some (k :: ks) | _,_=>none) with | some k,some ks=>some (k :: ks) | _,_=>none) = _
   rw [e1]; rfl
  rw [e2]
 unfold kyD
 rw [e]
 exact if_pos (by show max 0 (max (NestedKey.depthAll (f.2.map .num) + 1) 0) + 1 ≤ 8; rw [z0g]; decide)
structure Kd {κ:Type} (ken:κ→Dat) (kk:κ→NestedKey):Prop where
 ky:∀ k,kyD (ken k) = some (kk k)
 inj:∀ k l,kk k = kk l→k = l
theorem x1b:Kd faD fun f:Fa=>.tup [.text f.1,.tup (f.2.map .num)]:=⟨z8r,fun k l e=>by
 injection e with e
 injection e with e1 e2
 injection e1 with e1
 injection e2 with e2 _
 injection e2 with e2
 exact Q4h e1 (x4t e2)⟩
section
variable {κ α:Type} [DecidableEq κ] {ken:κ→Dat} {kk:κ→NestedKey} {enc:α→Dat}
def dkC (ken:κ→Dat) (enc:α→Dat) (g:List (κ × List α)):Cell:=.dk (g.map fun p=>ken p.1) (g.map fun p=>.ol (p.2.map enc))
def dkD (ken:κ→Dat) (enc:α→Dat) (g:List (κ × List α)):Dat:=.dix (g.map fun p=>ken p.1) (g.map fun p=>.lst (p.2.map enc))
theorem x4u (g:List (κ × List α)):(dkC ken enc g).frz = dkD ken enc g:=by
 show Dat.dix _ (Q2G Atom.frz (g.map fun p=>Atom.ol (p.2.map enc))) = _
 rw [Q0R]; rfl
theorem x1c (g:List (κ × List α)):x8v (dkC ken enc g) = true:=rfl
theorem z4T (K:Kd ken kk) (g:List (κ × List α)) (k:κ):((g.map fun p=>ken p.1).findIdx? fun z=>decide (kyD z = some (kk k))) = g.findIdx? fun p=>decide (p.1 = k):=by
 rw [List.findIdx?_map]
 congr 1
 funext p
 show decide (kyD (ken p.1) = some (kk k)) = _
 rw [K.ky]
 by_cases h:p.1 = k
 ·rw [decide_eq_true h,decide_eq_true (by rw [h])]
 ·rw [decide_eq_false h,decide_eq_false fun e=>h (K.inj _ _ (Q1o.inj e))]
theorem x4v (K:Kd ken kk) {g:List (κ × List α)} {k:κ} {a:α} (hg:g.length < 100000) (hn:(lkG g k).length < 100000):x3H (dkC ken enc g) (ken k) (enc a) = some (dkC ken enc (z0f k a g)):=by
 have e0:x3H (dkC ken enc g) (ken k) (enc a) = match kyD (ken k) with
  | some q=>if (g.map fun p=>ken p.1).length = (g.map fun p=>Atom.ol (p.2.map enc)).length∧(g.map fun p=>ken p.1).length < 100000 then (match (g.map fun p=>ken p.1).findIdx? fun z=>decide (kyD z = some q) with
    | some j=>(z1N (g.map fun p=>Atom.ol (p.2.map enc)) j (enc a)).map (.dk (g.map fun p=>ken p.1))
    | none=>some (.dk ((g.map fun p=>ken p.1) ++ [ken k]) ((g.map fun p=>Atom.ol (p.2.map enc)) ++ [.ol [enc a]]))) else none
  | none=>none:=rfl
 rw [e0,K.ky]
 dsimp only
 rw [if_pos ⟨by simp,by simpa using hg⟩,z4T K]
 rcases x4s k g with ⟨j,h1,h2,h3⟩ | ⟨h1,h2,h3⟩
 ·rw [h1]
  have e:z1N (g.map fun p=>Atom.ol (p.2.map enc)) j (enc a) = some ((g.map fun p=>Atom.ol (p.2.map enc)).set j (.ol ((lkG g k).map enc ++ [enc a]))):=by
   unfold z1N
   rw [Q0O,h2]
   exact if_pos (by rw [Q0f]; exact hn)
  rw [h3]
  dsimp only
  rw [e]
  unfold dkC
  rw [List.map_set,List.map_set,z4L (l:=g.map fun p=>ken p.1) (by rw [Q0O,h2]; rfl),Q0D]
  rfl
 ·rw [h1,h3]
  unfold dkC
  rw [Q0D,Q0D]; rfl
end
def blk (k:Str→Nat) (f:Fa):Fa:=(f.1,f.2.take (k f.1))
def x9w (ts:List Tb) (k:Str→Nat) (n:Str):Prop:=∃ o,q4D ts n = some (k n,o)
theorem x7A (ds:List Dat) (k:Nat):q6B ds none (some (k:Int)) = ds.take k:=q6n
theorem q5W {ts:List Tb} {k:Str→Nat} {f:Fa} (h:x9w ts k f.1):q1H [.tup (ts.map tbD),faD f] = some (.atm (.im (faD (blk k f)))):=by
 obtain ⟨o,hc⟩:=h
 apply Yd.eq
 unfold q1H q9Z faD q8k
 simp only [q0O,Q0d,Q0o,Q0z,Q0e,Q0w,Q0p,Q0i,q0E,q0u,q0x,q3K,q0p,Q0H,q0o,true_and,q5F,q2s,q1j,q3G,q0r,q0C,q0n,Ev_ret,Q0b,Q0a,q0d,Yd_some,q2C,q1K,q5R,z8V,hc,q0l,q0y,q2b,z0D,x7A,← Q1X]
 rfl
section
variable {κ α:Type} [DecidableEq κ]
theorem z4U (k:κ) (a:α):∀ g:List (κ × List α),(z0f k a g).map (·.1) = if k ∈ g.map (·.1) then g.map (·.1) else g.map (·.1) ++ [k]
 | []=>rfl
 | (l,as) :: gs=>by
  rw [z0f]
  by_cases h:l = k
  ·rw [if_pos h,if_pos (by rw [← h]; exact Q0g)]; rfl
  ·rw [if_neg h,Q0e,z4U k a gs,Q0e]
   by_cases h2:k ∈ gs.map (·.1)
   ·rw [if_pos h2,if_pos (Q0h _ h2)]
   ·rw [if_neg h2,if_neg (fun z=>(Q0s.mp z).elim (fun e=>h e.symm) h2)]; rfl
theorem z4V {β:Type} {P:List β→Prop} (h0:P []) (h1:∀ l x,P l→P (l ++ [x])):∀ l,P l:=by
 have key:∀ n (l:List β),l.length = n→P l:=by
  intro n
  induction n with
  | zero=>intro l h; rw [List.length_eq_zero_iff.mp h]; exact h0
  | succ n ih=>
   intro l h
   have hne:l ≠ []:=fun z=>by subst z; cases h
   have:=h1 l.dropLast (l.getLast hne) (ih _ (by rw [List.length_dropLast,h]; rfl))
   rwa [Q3e] at this
 exact fun l=>key l.length l rfl
theorem x7B (xs:List (κ × α)):((grp xs).map (·.1)).Nodup:=by
 refine z4V (P:=fun xs:List (κ × α)=>((grp xs).map (·.1)).Nodup) Q1B (fun l x ih=>?_) xs
 rw [z4R,z4U]
 split
 ·exact ih
 ·rename_i h
  exact Q0E.mpr ⟨ih,by simp,fun a ha b hb e=>h (by rw [Q0t] at hb; subst hb; rw [← e]; exact ha)⟩
theorem x7C {g:List (κ × List α)} (nd:(g.map (·.1)).Nodup) {p:κ × List α} (hp:p ∈ g):lkG g p.1 = p.2:=by
 induction g with
 | nil=>cases hp
 | cons q g ih=>
  rw [q3g]
  rw [Q0e,Q0P] at nd
  rcases Q0s.mp hp with rfl | hp
  ·rw [if_pos rfl]
  ·rw [if_neg (fun e:q.1 = p.1=>nd.1 (by rw [e]; exact Q0J hp)),ih nd.2 hp]
end
section
variable {κ:Type} [DecidableEq κ] {ken:κ→Dat} {kk:κ→NestedKey}
theorem x4w (K:Kd ken kk) (l:List (κ × Dat)) (nd:(l.map (·.1)).Nodup):z3k (l.map fun p=>(ken p.1,p.2)) = (l.map fun p=>ken p.1,l.map (·.2)):=by
 refine z4V (P:=fun l:List (κ × Dat)=>(l.map (·.1)).Nodup→z3k (l.map fun p=>(ken p.1,p.2)) = (l.map fun p=>ken p.1,l.map (·.2))) (fun _=>rfl) (fun l x ih nd=>?_) l nd
 rw [Q0D,Q0E] at nd
 rw [Q0D,Q0e,Q0w,z2e,ih nd.1]
 unfold x6O
 have:((l.map fun p=>ken p.1).findIdx? fun z=>decide (kyD z = kyD (ken x.1))) = none:=by
  rw [Q3u]
  intro z hz
  obtain ⟨p,hp,rfl⟩:=Q0y.mp hz
  rw [K.ky,K.ky]
  exact decide_eq_false fun e=>nd.2.2 _ (Q0J hp) _ Q0g (K.inj _ _ (Q1o.inj e))
 rw [this]
 simp
theorem x7D {enc:α→Dat} (K:Kd ken kk) (g:List (κ × List α)) (k:κ) (h:k ∈ g.map (·.1)):dgX (dkD ken enc g) (ken k) = some (.lst ((lkG g k).map enc)):=by
 show (kyD (ken k)).bind (fun q=>atK (g.map fun p=>ken p.1) (g.map fun p=>.lst (p.2.map enc)) q) = _
 rw [K.ky,Q0U]
 unfold atK
 rw [z4T K]
 rcases x4s k g with ⟨j,h1,h2,h3⟩ | ⟨h1,h2,h3⟩
 ·rw [h1,Q0U,Q0O,h2]; rfl
 ·rw [Q3u] at h1
  obtain ⟨p,hp,e⟩:=Q0y.mp h
  have:=h1 p hp
  rw [decide_eq_true e] at this
  cases this
def dxD (ken:κ→Dat) (l:List (κ × Dat)):Dat:=.dix (l.map fun p=>ken p.1) (l.map (·.2))
def lkD (l:List (κ × Dat)) (k:κ) (z:Dat):Dat:=match l.find? (fun p=>decide (p.1 = k)) with
 | some p=>p.2
 | none=>z
theorem x1d (K:Kd ken kk) (l:List (κ × Dat)) (k:κ) (z:Dat):z3f (dxD ken l) (ken k) z = some (lkD l k z):=by
 have e0:z3f (dxD ken l) (ken k) z = (kyD (ken k)).map fun q=>(atK (l.map fun p=>ken p.1) (l.map (·.2)) q).getD z:=rfl
 rw [e0,K.ky]
 show some ((atK _ _ (kk k)).getD _) = _
 congr 1
 clear e0
 unfold atK lkD
 induction l with
 | nil=>rfl
 | cons p l ih=>
  rw [Q0e,Q0e,Q1p,Q2s,K.ky]
  by_cases h:p.1 = k
  ·rw [decide_eq_true h,decide_eq_true (by rw [h])]; rfl
  ·rw [decide_eq_false h,decide_eq_false fun e=>h (K.inj _ _ (Q1o.inj e))]
   dsimp only
   rw [← ih]
   cases hh:(l.map fun p=>ken p.1).findIdx? fun z=>decide (kyD z = some (kk k)) with
   | none=>rfl
   | some j=>rfl
end
def byB (k:Str→Nat) (fs:List Fa):List (Fa × List Fa):=grp (fs.map fun f=>(blk k f,f))
def bbD (g:List (Fa × List Fa)):Dat:=dxD faD (g.map fun p=>(p.1,.tup (p.2.map faD)))
def bbC (g:List (Fa × List Fa)):Cell:=.dk (g.map fun p=>faD p.1) (g.map fun p=>.im (.tup (p.2.map faD)))
theorem x4x (g:List (Fa × List Fa)):(bbC g).frz = bbD g:=by
 show Dat.dix _ (Q2G Atom.frz (g.map fun p=>Atom.im (.tup (p.2.map faD)))) = Dat.dix (Q2G _ (Q2G _ g)) (Q2G _ (Q2G _ g))
 rw [Q0R,Q0R,Q0R]; rfl
theorem z5O {ts:List Tb} {k:Str→Nat} {fs:List Fa} {sq:Dat} (hq:z6P sq = some (fs.map faD)) (hk:∀ f ∈ fs,x9w ts k f.1) (hl:fs.length ≤ 1000):q2d [.tup (ts.map tbD),sq] = some (bbC (byB k fs)):=by
 apply Yd.eq
 unfold q2d q5o
 simp only [q0O,Q0d,Q0o,Q0z,Q0e,Q0w,Q0p,Q0x,Q0u,q0M,q1C,q0D,q3z,q1G,q0n,x3P,q0g,q0f,q0q,Q0c,↓reduceIte,Q0n,Yd_some,Q0b,Q0a,q0d,hq,true_and]
 refine q2R faD fs (fun pre ρ=>∃ (w3:Option DL.Slot),Tmp w3∧ρ = [imS (.tup (ts.map tbD)),imS sq,some ⟨false,dkC faD faD (grp (pre.map fun f=>(blk k f,f)))⟩,w3,none]) ⟨none,.non,rfl⟩ ?_ ?_
 ·rintro pre f post ρ hx ⟨w3,h3,rfl⟩
  have hp:pre.length < fs.length:=by rw [hx]; simp
  have g1:=z8q (pre.map fun f=>(blk k f,f))
  have g2:=x7z (pre.map fun f=>(blk k f,f)) (blk k f)
  rw [Q0f] at g1 g2
  simp only [q0Z,q0g,q0f,h3.pin,Q0c,↓reduceIte,Q0n,q4A,q1P,q0x,z5F,q0n,q0r,q0C,Q0i,q0p,q0o,Yd_some,Q0b,Q0a,z3j,q0d,q0j,Q0m,Q0j,true_and,q5W (hk f (by rw [hx]; simp)),q0l,q0y,x4v x1b (enc:=faD) (g:=grp (pre.map fun f=>(blk k f,f))) (k:=blk k f) (a:=f) (by omega) (by omega),x1c]
  exact ⟨_,.im,by rw [Q0D,Q0e,Q0w,z4R]⟩
 ·rintro ρ ⟨w3,h3,rfl⟩
  simp only [q0D,q7y,q3A,q5H,x4u,q0E,q0u,x4b,Q1k,Q1n,Q1b,q0B,z7P,q0n,Q0b,Q0a,q0j,q0W,q0V,q1u,Q0m,Q0j,true_and,Yd_some]
  unfold dkD
  simp only [z7B,Yd_some]
  have hb:byB k fs = grp (fs.map fun f=>(blk k f,f)):=rfl
  rw [← hb]
  have nd:((byB k fs).map (·.1)).Nodup:=x7B _
  refine z9I (fun p:Fa × List Fa=>faD p.1) (byB k fs) (fun p=>[(faD p.1,.tup (p.2.map faD))]) (fun p hp=>?_) ?_
  ·have e:=x7D (enc:=faD) x1b (byB k fs) p.1 (Q0J hp)
   unfold dkD at e
   rw [x7C nd hp] at e
   have ky:(kyD (faD p.1)).isSome = true:=by rw [z8r]; rfl
   simp only [q0Z,q0g,q0f,q0q,Q0c,↓reduceIte,Q0n,q0B,z7Q,q2j,q0p,q0o,q0I,q1j,q0n,Yd_some,Q0b,Q0a,q0j,Q0m,Q0j,and_true,e,q3e]
   exact ky
  ·have e1:((byB k fs).flatMap fun p=>[(faD p.1,Dat.tup (p.2.map faD))]) = ((byB k fs).map fun p=>(p.1,Dat.tup (p.2.map faD))).map fun p=>(faD p.1,p.2):=by
    rw [Q0R,← List.map_eq_flatMap]; rfl
   have e2:=x4w x1b ((byB k fs).map fun p=>(p.1,Dat.tup (p.2.map faD))) (by rw [Q0R]; exact nd)
   rw [e1,e2]
   refine ⟨?_,?_⟩
   ·have:=z8q (fs.map fun f=>(blk k f,f))
    rw [← hb,Q0f] at this
    simp; omega
   ·unfold bbC
    rw [Q0R,Q0R,Q0R]; rfl
end K04

namespace K04
variable [DL.Tbls]
open PySem PySem.Spec DL
open L2 (Key)
open PySem.W (AllAlike Sortable dataLe)
theorem x1e (k:List Int):q4W (q8k k) = some (PyData.tuple (k.map .int)):=by
 show (q2O (k.map .int)).map _ = _
 rw [q6o]; rfl
theorem q4E (f:Fa):q4W (faD f) = some (.tuple [.str f.1,.tuple (f.2.map .int)]):=by
 show (q2O [.str f.1,q8k f.2]).map _ = _
 have:q2O [.str f.1,q8k f.2] = some [.str f.1,.tuple (f.2.map .int)]:=by
  show (match q4W (.str f.1),(match q4W (q8k f.2),q2O [] with | some x,some xs=>some (x :: xs) | _,_=>none) with | some x,some xs=>some (x :: xs) | _,_=>none) = _
  rw [x1e]; rfl
 rw [this]; rfl
theorem q9l (f:Fa):pyD (faD f) = .tuple [.str f.1,.tuple (f.2.map .int)]:=by
 unfold pyD
 rw [q4E]; rfl
theorem x7E (f:Fa):KOk (faD f):=⟨⟨_,z8r f⟩,_,q4E f,by
 show max 0 (max (PyData.depthAll (f.2.map .int) + 1) 0) + 1 ≤ 60
 rw [q5U]; decide⟩
theorem z3H {a b:Str} (h:a.cps.toList = b.cps.toList):a = b:=by
 cases a; cases b
 congr 1
 exact Array.ext' h
theorem x7F {f g:Fa} (h:tk (faD f) = tk (faD g)):f = g:=by
 unfold tk at h
 rw [q9l,q9l] at h
 simp only [Q3Q,Q1V,Q0x,Q0u,List.cons.injEq,true_and,Sum.inr.injEq] at h
 obtain ⟨h1,h2⟩:=h
 exact Q4h (z3H h1) (z4p (List.append_cancel_right h2))
theorem z1l {a b:Fa} (h1:leD (faD a) (faD b) = true) (h2:leD (faD b) (faD a) = true):a = b:=x7F (x0d h1 h2)
theorem z4W {fs:List Fa} (hl:fs.length ≤ 1000):z5D (fs.map faD):=by
 refine ⟨fun d hd=>?_,.inr ⟨?_,.inl ?_⟩,fun a ha b hb h1 h2=>?_,?_,by simp; omega⟩
 ·obtain ⟨k,_,rfl⟩:=Q0y.mp hd
  exact x7E k
 ·intro d hd d' hd'
  rw [Q0R] at hd hd'
  obtain ⟨k,_,rfl⟩:=Q0y.mp hd
  obtain ⟨l,_,rfl⟩:=Q0y.mp hd'
  show Q2H (pyD (faD k)) (pyD (faD l)) = true
  rw [q9l,q9l]
  show (true && (Q2k (k.2.map .int) (l.2.map .int) && true)) = true
  rw [q7b]; rfl
 ·intro d hd
  rw [Q0R] at hd
  obtain ⟨k,_,rfl⟩:=Q0y.mp hd
  exact ⟨_,_,q9l k⟩
 ·obtain ⟨k,_,rfl⟩:=Q0y.mp ha
  obtain ⟨l,_,rfl⟩:=Q0y.mp hb
  rw [z1l h1 h2]
 ·have:=q5L (z4C (fs.map faD)) fun x hx=>mem_ddD.mp hx
  rw [Q0f] at this
  omega
theorem x1f (fs:List Fa):∃ gs:List Fa,q8T (fs.map faD) = gs.map faD∧gs.Nodup∧∀ f,f ∈ gs ↔ f ∈ fs:=by
 have inj:∀ a b:Fa,faD a = faD b→a = b:=fun a b h=>x7F (by rw [h])
 have key:∀ l:List Dat,(∀ d ∈ l,∃ f ∈ fs,d = faD f)→∃ gs:List Fa,l = gs.map faD:=fun l=>by
  induction l with
  | nil=>exact fun _=>⟨[],rfl⟩
  | cons d l ih=>
   intro h
   obtain ⟨f,_,e⟩:=h d Q0g
   obtain ⟨gs,e2⟩:=ih fun x hx=>h x (Q0h _ hx)
   exact ⟨f :: gs,by rw [e,e2]; rfl⟩
 obtain ⟨gs,e⟩:=key (q8T (fs.map faD)) fun d hd=>by
  rw [q8U] at hd
  obtain ⟨f,h1,h2⟩:=Q0y.mp hd
  exact ⟨f,h1,h2.symm⟩
 refine ⟨gs,e,?_,fun f=>?_⟩
 ·have:=z4D (fs.map faD)
  rw [e] at this
  unfold List.Nodup at this ⊢
  rw [Q1I] at this
  exact this.imp fun {a b} h z=>h (congrArg faD z)
 ·have h:=q8U (x:=faD f) (ds:=fs.map faD)
  rw [e] at h
  constructor
  ·intro hf
   obtain ⟨g,hg,eg⟩:=Q0y.mp (h.mp (Q0J hf))
   rw [← inj g f eg]; exact hg
  ·intro hf
   obtain ⟨g,hg,eg⟩:=Q0y.mp (h.mpr (Q0J hf))
   rw [← inj g f eg]; exact hg
end K04

namespace K04
variable [DL.Tbls]
open PySem PySem.Spec DL
open L2 (Key)
abbrev leF (f g:Fa):Bool:=leD (faD f) (faD g)
theorem x7G (a:List Nat):¬ a < a:=List.lt_irrefl a
theorem x7H {a b:Str} (h:a ≠ b):a.cps.toList < b.cps.toList∨b.cps.toList < a.cps.toList:=by
 rcases Q2R (a.cps.toList < b.cps.toList) with h1 | h1
 ·exact .inl h1
 ·rcases Q2R (b.cps.toList < a.cps.toList) with h2 | h2
  ·exact .inr h2
  ·exact absurd (z3H (List.le_antisymm (List.not_lt.mp h2) (List.not_lt.mp h1))) h
structure Srt (fs:List Fa):Prop where
 pw:fs.Pairwise fun a b=>leF a b = true
 nd:fs.Nodup
theorem x2n (fs:List Fa):∃ gs:List Fa,q8T (fs.map faD) = gs.map faD∧Srt gs∧∀ f,f ∈ gs ↔ f ∈ fs:=by
 obtain ⟨gs,e,nd,hm⟩:=x1f fs
 refine ⟨gs,e,⟨?_,nd⟩,hm⟩
 have:=z4E (fs.map faD)
 rw [e,Q1I] at this
 exact this
theorem x7I {fs gs:List Fa} (h1:Srt fs) (h2:Srt gs) (h:∀ f,f ∈ fs ↔ f ∈ gs):fs = gs:=
 q6q h1.nd h2.nd h h1.pw h2.pw fun a _ b _=>z1l
theorem x1g {fs gs:List Fa} (h:Srt gs) (hm:∀ f,f ∈ gs ↔ f ∈ fs):q8T (fs.map faD) = gs.map faD:=by
 obtain ⟨hs,e,h1,h2⟩:=x2n fs
 rw [e,x7I h1 h fun f=>by rw [h2,hm]]
theorem Srt.filter {fs:List Fa} (h:Srt fs) (p:Fa→Bool):Srt (fs.filter p):=⟨h.pw.sublist List.filter_sublist,h.nd.sublist List.filter_sublist⟩
def inB (k:Str→Nat) (fs:List Fa) (b:Fa):List Fa:=fs.filter fun f=>decide (blk k f = b)
theorem x7J (k:Str→Nat) (fs:List Fa) (b:Fa):lkG (byB k fs) b = inB k fs b:=by
 unfold byB inB
 rw [z8p,List.filter_map,Q0R]
 show (fs.filter fun f=>decide (blk k f = b)).map (fun f=>f) = _
 exact List.map_id _
end K04

namespace K04
variable [DL.Tbls]
open PySem PySem.Spec DL
open L2 (Key)
def pyF (f:Fa):PyData:=.tuple [.str f.1,.tuple (f.2.map .int)]
def okF (f:Fa):Prop:=PyData.strOk f.1 = true
theorem q9m:∀ r:List Int,PyData.canLayAll0 (r.map PyData.int) = true
 | []=>rfl
 | i :: r=>by show (true && PyData.canLayAll0 (r.map PyData.int)) = true; rw [q9m r]; rfl
theorem z8s {f:Fa} (h:okF f):(pyF f).canLay0 = true:=by
 show (PyData.strOk f.1 && (PyData.canLayAll0 (f.2.map PyData.int) && true)) = true
 rw [q9m,show PyData.strOk f.1 = true from h]; rfl
theorem z4X (f:Fa):(pyF f).depth = 2:=by
 show max 0 (max (PyData.depthAll (f.2.map .int) + 1) 0) + 1 = 2
 rw [q5U]; rfl
theorem z2w {f:Fa} (h:okF f):SeqAt.shaped (pyF f) = true:=by
 unfold SeqAt.shaped
 rw [z8s h,z4X]; rfl
theorem q5S:∀ fs:List Fa,q2O (fs.map faD) = some (fs.map pyF)
 | []=>rfl
 | f :: fs=>by
  show (match q4W (faD f),q2O (fs.map faD) with | some x,some xs=>some (x :: xs) | _,_=>none) = _
  rw [q5S fs,q4E]; rfl
theorem z3I {fs:List Fa} (h:∀ f ∈ fs,okF f):SeqAt.shaped (.tuple (fs.map pyF)) = true:=by
 have h1:PyData.canLayAll0 (fs.map pyF) = true∧PyData.depthAll (fs.map pyF) ≤ 2:=by
  induction fs with
  | nil=>exact ⟨rfl,Q1H _⟩
  | cons f fs ih=>
   obtain ⟨a,b⟩:=ih fun g hg=>h g (Q0h _ hg)
   refine ⟨?_,?_⟩
   ·show ((pyF f).canLay0 && PyData.canLayAll0 (fs.map pyF)) = true
    rw [z8s (h f Q0g),a]; rfl
   ·show max (pyF f).depth (PyData.depthAll (fs.map pyF)) ≤ 2
    rw [z4X]; omega
 unfold SeqAt.shaped
 show (PyData.canLayAll0 (fs.map pyF) && decide (PyData.depthAll (fs.map pyF) + 1 ≤ 64)) = true
 rw [h1.1,decide_eq_true (by omega)]; rfl
theorem z4Y:∀ r q:List Int,PyData.eqvAll (r.map .int) (q.map .int) = decide (r = q)
 | [],[]=>by simp [PyData.eqvAll]
 | [],_ :: _=>by simp [PyData.eqvAll]
 | _ :: _,[]=>by simp [PyData.eqvAll]
 | a :: r,b :: q=>by
  show (PyData.eqv (.int a) (.int b) && PyData.eqvAll (r.map .int) (q.map .int)) = _
  rw [z4Y r q,show PyData.eqv (.int a) (.int b) = (a == b) from rfl,Q1L]
  simp
theorem z8t (f g:Fa):PyData.eqv (pyF f) (pyF g) = decide (f = g):=by
 show ((f.1 == g.1) && (PyData.eqvAll (f.2.map .int) (g.2.map .int) && true)) = _
 rw [z4Y,Q1b,Q1L]
 obtain ⟨a,b⟩:=f
 obtain ⟨c,d⟩:=g
 simp
theorem z8u (f:Fa) (gs:List Fa):((gs.map pyF).any fun z=>PyData.eqv z (pyF f)) = decide (f ∈ gs):=by
 rw [List.any_map,Q1L]
 simp only [Q2W,Function.comp,z8t,decide_eq_true_eq]
 exact ⟨fun ⟨g,h,e⟩=>e ▸ h,fun h=>⟨f,h,rfl⟩⟩
theorem x4y {f:Fa} {gs:List Fa} (h1:okF f) (h2:∀ g ∈ gs,okF g):x8B (faD f) (.tup (gs.map faD)) = some (.bl (decide (f ∈ gs))):=by
 have e0:x8B (faD f) (.tup (gs.map faD)) = match q4W (faD f),q2O (gs.map faD) with
  | some d,some ps=>if SeqAt.shaped d = true∧SeqAt.shaped (.tuple ps) = true then some (.bl (ps.any fun z=>PyData.eqv z d)) else none
  | _,_=>none:=rfl
 rw [e0,q4E,q5S]
 show (if SeqAt.shaped (pyF f) = true∧SeqAt.shaped (.tuple (gs.map pyF)) = true then some (Dat.bl ((gs.map pyF).any fun z=>PyData.eqv z (pyF f))) else none) = _
 rw [if_pos ⟨z2w h1,z3I h2⟩,z8u]
theorem z4Z {f:Fa} {gs:List Fa} (h1:okF f) (h2:∀ g ∈ gs,okF g):z9y (faD f) (.tup (gs.map faD)) = some (.bl (!decide (f ∈ gs))):=by
 have e0:z9y (faD f) (.tup (gs.map faD)) = match q4W (faD f),q2O (gs.map faD) with
  | some d,some ps=>if SeqAt.shaped d = true∧SeqAt.shaped (.tuple ps) = true then some (.bl (!ps.any fun z=>PyData.eqv z d)) else none
  | _,_=>none:=rfl
 rw [e0,q4E,q5S]
 show (if SeqAt.shaped (pyF f) = true∧SeqAt.shaped (.tuple (gs.map pyF)) = true then some (Dat.bl (!(gs.map pyF).any fun z=>PyData.eqv z (pyF f))) else none) = _
 rw [if_pos ⟨z2w h1,z3I h2⟩,z8u]
theorem z8v {f g:Fa} (h1:okF f) (h2:okF g):eqD (faD f) (faD g) = some (.bl (decide (f = g))):=by
 have e0:eqB (faD f) (faD g) = some (PyData.eqv (pyF f) (pyF g)):=by
  unfold eqB x3f
  rw [show x4Z (faD f) (faD g) = none from rfl,q4E,q4E]
  dsimp only
  exact if_pos ⟨z2w h1,z2w h2⟩
 unfold eqD
 rw [e0,z8t]; rfl
def kOf (ts:List Tb) (n:Str):Nat:=((q4D ts n).map (·.1)).getD 0
structure Fk (ts:List Tb) (f:Fa):Prop where
 col:∃ o,q4D ts f.1 = some (kOf ts f.1,o)∧f.2.length = kOf ts f.1 + o
 ok:okD (faD f)
 sm:sm (faD f)
 le:f.2.length ≤ 10
 vb:∀ i ∈ f.2,i.natAbs < 10 ^ 40
theorem Fk.okF {ts:List Tb} {f:Fa} (h:Fk ts f):okF f:=h.ok.1.2
theorem x4z {f:Fa} (h:okD (faD f)):okF f:=h.1.2
theorem q7o {k:Str→Nat} {f:Fa} (h:okF f):okF (blk k f):=h
theorem Fk.keys {ts:List Tb} {f:Fa} (h:Fk ts f):x9w ts (kOf ts) f.1:=let ⟨o,e,_⟩:=h.col; ⟨o,e⟩
theorem Fk.isFa {ts:List Tb} {f:Fa} (h:Fk ts f):isFa ts (faD f) = true:=let ⟨o,e,l⟩:=h.col; x4q e l
theorem Fk.fact {ts:List Tb} {f:Fa} (h:Fk ts f):q2J [.tup (ts.map tbD),faD f] = ans true:=by
 have h1:=h.le
 rw [x2l h.ok (by show (f.2.map Dat.int).length ≤ 10000; rw [Q0f]; omega),h.isFa]
theorem z5a {f:Fa} {n:Nat} (h:okD (faD f)):okD (faD (f.1,f.2.take n)):=x2m h.1 fun i hi=>by
 have h2:z8U (f.2.map Dat.int):=h.2.1
 exact okDs_mem.mp h2 (.int i) (Q0J (Q1x hi))
theorem Fk.block {ts:List Tb} {f:Fa} (h:Fk ts f):q2f [.tup (ts.map tbD),faD (blk (kOf ts) f)] = ans true:=by
 obtain ⟨o,e,l⟩:=h.col
 have h1:=h.le
 exact x4r (f:=blk (kOf ts) f) (z5a h.ok) e (by show (f.2.take _).length = _; rw [Q1f]; omega) (by omega)
structure St (ts:List Tb) (fs:List Fa):Prop where
 s:Sch ts
 o:Srt fs
 k:∀ f ∈ fs,Fk ts f
 l:fs.length ≤ 200
def stD (ts:List Tb) (fs:List Fa):Dat:=.ins "Store" ["schema","all_facts","by_block"] [.tup (ts.map tbD),.tup (fs.map faD),bbD (byB (kOf ts) fs)]
theorem z6a {ts:List Tb} {fs:List Fa}:q6y "Store" "schema" (stD ts fs) = some (.tup (ts.map tbD)):=rfl
theorem x2o {ts:List Tb} {fs:List Fa}:q6y "Store" "all_facts" (stD ts fs) = some (.tup (fs.map faD)):=rfl
theorem j0x {ts:List Tb} {fs:List Fa}:q6y "Store" "by_block" (stD ts fs) = some (bbD (byB (kOf ts) fs)):=rfl
theorem q9n {ts:List Tb} {gs fs:List Fa} (hs:Sch ts) (hk:∀ f ∈ gs,Fk ts f) (hl:gs.length ≤ 400) (hf:fs.length ≤ 200) (hg:Srt fs) (hm:∀ f,f ∈ fs ↔ f ∈ gs) (P:Cell→Prop) (hP:∀ k,k.frz = stD ts fs→P k) :
  Yd (mkK (q0K (.oi "Store" [] []) [.tup (ts.map tbD),.tup (gs.map faD)])) P:=by
 refine x6s ?_
 unfold q0K q7E
 have c0:q6B [] none (some (1:Int)) = []:=rfl
 simp only [q6G,Q0d,Q0o,Q0z,Q0e,Q0w,Q0p,Q0x,Q0u,q0M,q2H,z0z,q1c,q0D,q3z,q1G,q5F,q2s,q3G,q2b,Yd_some,Ev_ret,q0r,q0C,Q0i,q0p,q0o,q0n,q1M,Q0K,Q0Q,q1F,Q0b,Q0a,q0d,x9v hs,q0l,q0y,q5I,c0,q2c,q6F,q2r,q1m,q5J,q0s,Q0v,imp_self,forall_const,true_and,x7w hs]
 refine q2R faD gs (fun _ ρ=>∃ w4:Option DL.Slot,Tmp w4∧ρ = [some ⟨true,.oi "Store" [] []⟩,imS (.tup (ts.map tbD)),imS (.tup (gs.map faD)),none,w4]) ⟨none,.non,rfl⟩ ?_ ?_
 ·rintro pre f post ρ hx ⟨w4,h4,rfl⟩
  simp only [q0Z,q0g,q0f,h4.pin,Q0c,↓reduceIte,Q0n,q2H,z0z,q1c,q1P,q1M,Q0K,Q0Q,q1F,q0r,q0C,Q0i,q0p,q0o,q0n,Yd_some,Q0b,Q0a,q0d,q0j,(hk f (by rw [hx]; simp)).fact,q0l,q0y,q0s,Q0v,imp_self,forall_const,true_and]
  exact ⟨_,.im,rfl⟩
 ·rintro ρ ⟨w4,h4,rfl⟩
  have so:z5E (.tup (gs.map faD)) = some (gs.map faD):=if_pos (z4W (by omega))
  have tb:=z5O (ts:=ts) (k:=kOf ts) (fs:=fs) (sq:=.tup (fs.map faD)) rfl (fun f hf=>(hk f ((hm f).mp hf)).keys) (by omega)
  simp only [q0D,q0M,x3t,q0x,z1L,Yd_some,q0r,q0C,Q0i,q0p,q0o,x0H,q0n,q2j,q0I,z1Y,q3e,Q0b,Q0a,q0d,Q0j,x3v,true_and,so,x1g hg hm,x3w,Q0o,Q0u,q0N,Q0d,Q0z,Q0x,x0I,↓reduceIte]
  refine ⟨⟨by decide,by decide⟩,⟨by decide +kernel,by decide⟩,?_⟩
  show Yd (some (Dat.tup (fs.map faD))) _
  simp only [Yd_some,tb,x4x]
  exact ⟨⟨by decide +kernel,by decide⟩,hP _ rfl⟩
theorem q7p {ts:List Tb} {fs:List Fa} (h:∀ f ∈ fs,okF f) {f:Fa} (ok:okD (faD f)) (hl:f.2.length ≤ 10000):q0F [stD ts fs,faD f] = ans (isFa ts (faD f) && decide (f ∈ fs)):=by
 apply Yd.eq
 unfold q0F q5p
 simp only [q0O,Q0d,Q0o,Q0z,Q0e,Q0w,Q0p,Q0i,q0E,q0u,q0x,q3c,q1j,q2r,q0n,q0r,q0C,q0p,q0o,Q0a,q0d,Q0b,Yd_some,x2o,x4y (x4z ok) h,z6a,x2l (ts:=ts) ok (show shD (faD f) ≤ 10000 by show (f.2.map Dat.int).length ≤ 10000; rw [Q0f]; omega),q0l,q0y,q0s,true_and]
 cases isFa ts (faD f) <;> simp
theorem q7q {ts:List Tb} {fs:List Fa} {f:Fa} (h:Fk ts f):q1q [stD ts fs,faD f] = some (.atm (.im (faD (blk (kOf ts) f)))):=by
 apply Yd.eq
 unfold q1q q5q
 simp only [q0O,Q0d,Q0o,Q0z,Q0e,Q0w,Q0p,Q0i,q0M,q2H,z0z,q1c,q0D,q0E,q0u,q0C,q0p,q0o,q0n,q2r,q1M,Q0K,Q0Q,q1F,q0r,Q0a,q0d,Q0b,Yd_some,z6a,q5W h.keys,implies_true,and_true,h.fact,q0l,q0y,q0s,Q0v,imp_self,and_self]
theorem x7K (k:Str→Nat) (fs:List Fa) (b:Fa):lkD ((byB k fs).map fun p=>(p.1,Dat.tup (p.2.map faD))) b (.tup []) = .tup ((inB k fs b).map faD):=by
 rw [← x7J]
 unfold lkD lkG
 rw [List.find?_map]
 rw [show ((fun p:Fa × Dat=>decide (p.1 = b)) ∘ fun p:Fa × List Fa=>(p.1,Dat.tup (p.2.map faD))) = fun p=>decide (p.1 = b) from rfl]
 cases (byB k fs).find? fun p=>decide (p.1 = b) <;> rfl
theorem z5P {ts:List Tb} {fs:List Fa} {f:Fa} (h:Fk ts f):q2e [stD ts fs,faD (blk (kOf ts) f)] = some (.atm (.im (.tup ((inB (kOf ts) fs (blk (kOf ts) f)).map faD)))):=by
 apply Yd.eq
 unfold q2e q5r
 have e:z3f (bbD (byB (kOf ts) fs)) (faD (blk (kOf ts) f)) (.tup []) = some (.tup ((inB (kOf ts) fs (blk (kOf ts) f)).map faD)):=by
  unfold bbD
  rw [x1d x1b,x7K]
 simp only [q0O,Q0d,Q0o,Q0z,Q0e,Q0w,Q0p,Q0i,q0E,q0u,q0x,q6e,x9g,q3K,q0o,Q0H,true_and,q0n,q2r,q1F,q0r,q0C,q0p,Q0a,q0d,Q0b,Yd_some,j0x,e,implies_true,z6a,h.block,q0l,q0y,q0s,Q0v,false_implies,and_self]
theorem x1h {ts:List Tb} {fs gs:List Fa} (h:St ts fs) {f:Fa} (hf:Fk ts f) (hg:St ts gs) (hm:∀ x,x ∈ gs ↔ x ∈ fs∨x = f) (P:Cell→Prop) (hP:∀ k,k.frz = stD ts gs→P k):Yd (q2g [stD ts fs,faD f]) P:=by
 unfold q2g q4k q6h
 have e:z6L (.tup (fs.map faD)) (.tup [faD f]) = some (.tup ((fs ++ [f]).map faD)):=by
  rw [z6X,Q0D]
  exact if_pos (by have:=h.l; simp; omega)
 simp only [Q0d,Q0o,Q0z,Q0H,and_self,↓reduceIte,Q2i,Q2B,Q2j,Q2m,Q0x,Q0u,q0O,Q0e,Q0w,Q0p,Q0i,q0E,q0u,q5e,q0p,q0o,q1j,q0n,q2r,Q0a,q0d,Q0b,Yd_some,x2o,e,z6a,true_and]
 have l:=h.l
 refine q9n h.s (fun x hx=>?_) (by simp; omega) hg.l hg.o (fun x=>by rw [hm,Q0k,Q0t]) _ hP
 rcases Q0k.mp hx with hx | hx
 ·exact h.k x hx
 ·rw [Q0t.mp hx]; exact hf
theorem z8w {ts:List Tb} {fs gs:List Fa} (h:St ts fs) {f:Fa} (hf:f ∈ fs) (hg:gs = fs.filter fun x=>!decide (x = f)) (P:Cell→Prop) (hP:∀ k,k.frz = stD ts gs→P k):Yd (q0X [stD ts fs,faD f]) P:=by
 unfold q0X q2L q4l
 have l:=h.l
 have kf:=h.k f hf
 have e1:inI "Store" q0F true (faD f) (stD ts fs) = some (.bl false):=by
  show (if ("Store":Str) = "Store" then (q9x (q0F [stD ts fs,faD f])).map (fun b=>Dat.bl (b ^^ true)) else none) = _
  rw [if_pos rfl,q7p (fun x hx=>(h.k x hx).okF) kf.ok (by have:=kf.le; omega),kf.isFa,decide_eq_true hf]
  rfl
 simp only [Q0d,Q0o,Q0z,Q0H,and_self,↓reduceIte,Q2i,Q2B,Q2j,Q2m,Q0x,Q0u,q0O,Q0e,Q0w,Q0p,q0M,q3z,q1G,q0n,Q0b,Q0a,q0d,Yd_some,q1m,q8b,q0Z,q0g,q0f,q0q,Q0c,Q0n,q6F,q0D,q0E,q0u,q5e,q0p,q0o,q2j,q0I,q0r,q1N,Q1k,Q1n,Q1b,q0B,q0l,q1v,q3e,q2r,q2H,z0z,q1c,q1P,q1F,q1j,q0j,q0W,q0V,x6v,Q0m,Q0j,true_and,x2o,z6a,e1,q0s,imp_self,forall_const]
 refine q3R faD fs (fun x=>!decide (x = f)) faD (fun x hx=>?_) ?_
 ·have e2:=z4Z (gs:=[f]) (h.k x hx).okF (fun g hg=>by rw [Q0t.mp hg]; exact kf.okF)
  rw [Q0e,Q0w] at e2
  simp only [q0Z,q0g,q0f,q0q,Q0c,↓reduceIte,Q0n,q0B,q0n,q1F,q1j,Yd_some,Q0b,Q0a,q0j,q0d,Q0m,Q0j,and_true,implies_true,and_self,e2,Q0t,q0s]
 rw [← hg]
 have lg:gs.length ≤ fs.length:=by rw [hg]; exact Q1i _ _
 refine ⟨by simp; omega,q9n h.s (fun x hx=>h.k x ?_) (by omega) (by omega) (by rw [hg]; exact h.o.filter _) (fun _=>Iff.rfl) _ hP⟩
 rw [hg] at hx
 exact (Q1s.mp hx).1
end K04

namespace K04
variable [DL.Tbls]
open PySem PySem.Spec DL
open L2 (Key)
theorem mem_inB {k:Str→Nat} {fs:List Fa} {b f:Fa}:f ∈ inB k fs b ↔ f ∈ fs∧blk k f = b:=by
 unfold inB
 rw [Q1s,decide_eq_true_eq]
theorem x4A (k:Str→Nat) (fs:List Fa) (b:Fa):(inB k fs b).length ≤ fs.length:=Q1i _ _
theorem q9o {ts:List Tb} {fs:List Fa} {m:Str} (hm:((([("schema":Str),"all_facts","by_block"]:List Str).zip [Dat.tup (ts.map tbD),.tup (fs.map faD),bbD (byB (kOf ts) fs)]).lookup m).isNone = true):okM "Store" m (stD ts fs):=⟨rfl,hm⟩
theorem x7L {ts:List Tb} {fs:List Fa}:okM "Store" "facts_of" (stD ts fs):=q9o rfl
theorem z8x {ts:List Tb} {fs:List Fa}:okM "Store" "block_of" (stD ts fs):=q9o rfl
theorem x7M {ts:List Tb} {fs:List Fa}:okM "Store" "joined" (stD ts fs):=q9o rfl
theorem x2p {ts:List Tb} {fs:List Fa}:okM "Store" "without" (stD ts fs):=q9o rfl
theorem z2x {ts:List Tb} {fs:List Fa}:okI "Store" (stD ts fs):=rfl
theorem x7N {ts:List Tb} {fs:List Fa}:okM "Store" "settled" (stD ts fs):=q9o rfl
theorem x7O {ts:List Tb} {fs:List Fa}:okM "Store" "settled_once" (stD ts fs):=q9o rfl
theorem x7P {ts:List Tb} {fs:List Fa}:okM "Store" "part" (stD ts fs):=q9o rfl
end K04

namespace K04
variable [DL.Tbls]
open PySem PySem.Spec DL
open L2 (Key)
def W12:List Str:=["a","ab","abc","b","fact","row","table","want","z","zz","zzzzzzzy","zzzzzzzz"]
instance:DecidablePred x5f:=fun c=>by unfold x5f; infer_instance
theorem x7Q:∀ x ∈ W12,x5h (.str x) = true∧(∀ c ∈ x.cps.toList,x5f c)∧x.length ≤ 10∧PyData.strOk x = true:=by
 intro x h
 have h1:(W12.all fun x=>x5h (.str x) && (x.cps.toList.all fun c=>decide (x5f c)) && decide (x.length ≤ 10) && PyData.strOk x) = true:=by decide +kernel
 have:=Q1h.mp h1 x h
 simp only [Q1l,decide_eq_true_eq,Q1h] at this
 exact ⟨this.1.1.1,this.1.1.2,this.1.2,this.2⟩
theorem z2y {α β:Type} (f:α→β):∀ (l:List α) (i:Nat),(l.map f).eraseIdx i = (l.eraseIdx i).map f
 | [],_=>rfl
 | x :: l,0=>rfl
 | x :: l,i + 1=>by simp [z2y f l i]
theorem z0h {α:Type}:∀ (l:List α) (i:Nat) (h:i < l.length),(l[i] :: l.eraseIdx i).Perm l
 | [],i,h=>absurd h (by simp)
 | x :: l,0,_=>List.Perm.refl _
 | x :: l,i + 1,h=>have h':i < l.length:=by simpa using h
  (List.Perm.swap x l[i] (l.eraseIdx i)).trans (List.Perm.cons x (z0h l i h'))
theorem z5Q {xs:List Str} (h:xs.length ≤ 100000):z6C (.lst (xs.map .str)) = some (.lst ((srt xs).map .str)):=by
 show (z0s _).bind _ = _
 rw [z1B]
 exact if_pos h
def Nms (n:Nat) (ns:List Str):Prop:=ns.length = n∧(∀ x ∈ ns,x ∈ W12)∧ns.Pairwise fun a b=>a.cps.toList < b.cps.toList
theorem x4B {N:Nat} {o:Cell} (ho:Deck N o) (hN:N + 30 < 1000000000) {m:Nat} (hm:m ≤ 6) (P:Cell × Cell→Prop) (hP:∀ o' ns,Deck (N + 6) o'→Nms m ns→P (.atm (.im (.lst (ns.map .str))),o')):Yd (q4n o [.int (m:Int)]) P:=by
 unfold q4n q9g
 simp only [q6G,Q0d,Q0o,Q0z,Q0e,Q0w,Q0p,Q0x,Q0u,q0M,q1C,q0D,q3z,q8a,q0p,q0o,q0n,q3x,Q0H,true_and,q3G,q0g,q0f,q0q,Q0c,↓reduceIte,Q0n,Yd_some,Q0b,Q0a,q0d,q8h,Q1w,q0N]
 refine ⟨by omega,?_⟩
 rw [show rgD (m:Int) = (Q1e m).map (fun k:Nat=>Dat.int (k:Int)) from by unfold rgD; rw [Q2e]]
 refine q2R (fun k:Nat=>Dat.int k) (Q1e m) (fun pre ρ=>∃ (o':Cell) (ws fd:List Str) (w4:Option DL.Slot),Tmp w4∧Deck (N + pre.length) o'∧fd.length = pre.length∧(fd ++ ws).Perm W12 ∧
  ρ = [some ⟨true,o'⟩,imS (.int m),some ⟨false,.atm (.ol (ws.map .str))⟩,some ⟨false,.atm (.ol (fd.map .str))⟩,w4]) ⟨o,W12,[],none,.non,ho,rfl,List.Perm.refl _,rfl⟩ ?_ ?_
 ·rintro pre x post ρ hx ⟨o',ws,fd,w4,h4,dk,hfl,hp,rfl⟩
  have hl:=congrArg Q1Q hx
  rw [Q1D,Q0A,Q0d] at hl
  have hwl:pre.length + ws.length = 12:=by
   have:=hp.length_eq
   rw [Q0A,hfl] at this
   exact this
  simp only [q0Z,q0g,q0f,h4.pin,Q0c,↓reduceIte,Q0n,q4A,q1P,q0x,q5f,q0p,q0o,z9F,q0r,q3y,Q0i,z4c,q2j,q0I,q0n,Yd_some,Q0b,Q0a,Q0m,Q0j,z9L,q6H,q8d,z0A,q0l,q1v,z4h,q0y,q8c,q0j,true_and,z9M,q3n,z0B,q3B,q3C,q6f,q2v,q0N]
  refine q6i dk (by omega) (by simp; omega) (by simp; omega) _ fun o4 i d4 i0 i1=>?_
  simp only [Q0f] at i1
  have hi:i.toNat < ws.length:=by omega
  simp only [q0l,q0y,z6T,q0N]
  refine ⟨⟨i0,by omega⟩,?_⟩
  have e:(ws.map Dat.str)[i.toNat]? = some (Dat.str ws[i.toNat]):=by simp [hi]
  rw [e]
  simp only [Yd_some]
  refine ⟨by simp; omega,o4,ws.eraseIdx i.toNat,fd ++ [ws[i.toNat]],some ⟨false,.im (.int x)⟩,.im,d4.more (by simp; omega),by simp [hfl],?_,?_⟩
  ·refine List.Perm.trans ?_ hp
   rw [Q0C]
   exact List.Perm.append_left _ (z0h ws i.toNat hi)
  ·rw [z2y,Q0D]; rfl
 ·rintro ρ ⟨o',ws,fd,w4,h4,dk,hfl,hp,rfl⟩
  rw [Q1D] at hfl dk
  simp only [q0D,q7y,q3A,q5H,q0l,q1v,q0E,q0x,q2j,q0p,q0o,q0I,q0n,Q0b,Q0a,q0j,q4f,Yd_some,z5Q (xs:=fd) (by omega)]
  have nd:fd.Nodup:=(Q0E.mp (hp.nodup_iff.mpr (show W12.Nodup by decide +kernel))).1
  have pp:=z0r fd
  refine hP _ (srt fd) (dk.more (by omega)) ⟨by rw [pp.length_eq,hfl],fun x hx=>hp.mem_iff.mp (Q0q _ (pp.mem_iff.mp hx)),?_⟩
  have nd':(srt fd).Nodup:=pp.nodup_iff.mpr nd
  exact (List.pairwise_and_iff.mpr ⟨z6u fd,nd'⟩).imp fun {a b} h=>(x7H h.2).elim id fun k=>absurd k h.1
end K04

namespace K04
variable [DL.Tbls]
open PySem PySem.Spec DL
open L2 (Key)
theorem x2q {n:Str} (hn:n ∈ W12) {k o:Nat} (hk:k ≤ 4) (ho:o ≤ 4) (hp:0 < k + o):TbOk (n,k,o):=by
 obtain ⟨h1,h2,h3,h4⟩:=x7Q n hn
 exact ⟨h1,h2,⟨Q0S h3 (by decide),h4⟩,hk,ho,hp⟩
theorem x1i {N:Nat} {o:Cell} (ho:Deck N o) (hN:N + 60 < 1000000000) {mst:Nat} (h1:1 ≤ mst) (h6:mst ≤ 6) (P:Cell × Cell→Prop) (hP:∀ o' ts,Deck (N + 20) o'→Sch ts→(∀ t ∈ ts,t.1 ∈ W12)→P (.atm (.im (.tup (ts.map tbD))),o')):Yd (q3F o [.int (mst:Int)]) P:=by
 unfold q3F q7I
 simp only [q6G,Q0d,Q0o,Q0z,Q0e,Q0w,Q0p,Q0x,Q0u,q0M,q1C,q0D,q3z,q1G,q0r,q3y,Q0i,q0p,q0o,q1j,q0n,q3G,q3x,Q0H,q0g,q0f,q0q,Q0c,↓reduceIte,Q0n,Yd_some,Q0a,Q0b,q0d,Q0j,true_and]
 refine q6i ho (by omega) (by omega) (by omega) _ fun o1 i d1 i0 i1=>?_
 obtain ⟨m,rfl⟩:∃ m:Nat,i = m:=⟨i.toNat,by omega⟩
 simp only [q0l,q0y,q3d,Yd_some]
 rw [show (1 + (m:Int)) = ((1 + m:Nat):Int) from by omega]
 refine x4B d1 (by omega) (by omega) _ fun o2 ns d2 hns=>?_
 obtain ⟨hl,hw,hpw⟩:=hns
 simp only [q0l,q0y,q2c,Yd_some]
 refine q2R Dat.str ns (fun pre ρ=>∃ (o':Cell) (ts:List Tb) (w3 w4 w5:Option DL.Slot),Tmp w3∧Tmp w4∧Tmp w5∧Deck (N + 7 + 2 * pre.length) o'∧ts.map (·.1) = pre∧(∀ t ∈ ts,TbOk t) ∧
  ρ = [some ⟨true,o'⟩,imS (.int mst),some ⟨false,.atm (.ol (ts.map tbD))⟩,w3,w4,w5]) ⟨o2,[],none,none,none,.non,.non,.non,d2.more (by simp),rfl,(fun _ h=>nomatch h),rfl⟩ ?_ ?_
 ·rintro pre n post ρ hx ⟨o',ts,w3,w4,w5,h3,h4,h5,dk,hts,hok,rfl⟩
  have hxl:=congrArg Q1Q hx
  rw [Q0A,Q0d] at hxl
  have htl:=congrArg Q1Q hts
  rw [Q0f] at htl
  simp only [q0Z,q0g,q0f,h3.pin,Q0c,↓reduceIte,Q0n,q0M,z1G,q0D,q4A,q1P,q0x,q5f,q0p,q0o,q3K,Q0d,Q0H,Q0o,true_and,q0n,q6e,q3G,q1F,q1j,q0r,q3y,Q0i,Yd_some,Q0a,Q0j,h4.pin,h5.pin,Q0b,Q0m,q0j,q3B,q3C,q6f,q2v,q0N]
  refine q6i dk (by omega) (by omega) (by omega) _ fun o3 a d3 a0 a1=>?_
  obtain ⟨k,rfl⟩:∃ k:Nat,a = k:=⟨a.toNat,by omega⟩
  simp only [q0l,q0y]
  refine q6i d3 (by omega) (by omega) (by omega) _ fun o4 b d4 b0 b1=>?_
  obtain ⟨q,rfl⟩:∃ q:Nat,b = q:=⟨b.toNat,by omega⟩
  simp only [q0l,q0y,q3d,Yd_some,q3m,q0s,z0F,z3c]
  have hn:n ∈ W12:=hw n (by rw [hx]; simp)
  refine ⟨fun hp=>⟨by simp; omega,o4,ts ++ [(n,k,q)],some ⟨false,.im (.str n)⟩,some ⟨false,.im (.int k)⟩,some ⟨false,.im (.int q)⟩,.im,.im,.im,d4.more (by simp; omega),by rw [Q0D,hts]; rfl,fun t ht=>?_,?_⟩,fun hp=>⟨by simp; omega,o4,ts ++ [(n,1,q)],some ⟨false,.im (.str n)⟩,some ⟨false,.im (.int k)⟩,some ⟨false,.im (.int q)⟩,.im,.im,.im,d4.more (by simp; omega),by rw [Q0D,hts]; rfl,fun t ht=>?_,?_⟩⟩
  ·rcases Q0k.mp ht with ht | ht
   ·exact hok t ht
   ·rw [Q0t] at ht
    subst ht
    exact x2q hn (by omega) (by omega) (by omega)
  ·rw [Q0D]; rfl
  ·rcases Q0k.mp ht with ht | ht
   ·exact hok t ht
   ·rw [Q0t] at ht
    subst ht
    exact x2q hn (by omega) (by omega) (by omega)
  ·rw [Q0D]; rfl
 ·rintro ρ ⟨o',ts,w3,w4,w5,h3,h4,h5,dk,hts,hok,rfl⟩
  have htl:=congrArg Q1Q hts
  rw [Q0f] at htl
  simp only [q0D,q7y,q3A,q5H,q0l,q1v,q0E,q0x,q2j,q0p,q0o,q0I,q0n,Q0b,Q0a,q0j,q4f,Yd_some,q3e]
  refine hP _ ts (dk.more (by omega)) ⟨hok,?_,fun z=>?_,by omega⟩ (fun t ht=>hw _ (by rw [← hts]; exact Q0J ht))
  ·rw [← hts,Q1I] at hpw
   exact hpw
  ·subst z
   rw [Q0o] at htl
   omega
theorem z3J {ts:List Tb} (h:Sch ts) {t:Tb} (ht:t ∈ ts):q4D ts t.1 = some t.2:=by
 unfold q4D
 have nd:∀ l:List Tb,l.Pairwise (fun a b=>a.1.cps.toList < b.1.cps.toList)→t ∈ l→(l.find? fun u=>decide (u.1 = t.1)) = some t:=by
  intro l
  induction l with
  | nil=>intro _ h; cases h
  | cons u l ih=>
   intro pw hm
   rw [Q2s]
   rw [Q1F] at pw
   rcases Q0s.mp hm with rfl | hm
   ·rw [decide_eq_true rfl]
   ·have:=pw.1 t hm
    rw [decide_eq_false fun e=>by rw [e] at this; exact x7G _ this]
    exact ih pw.2 hm
 rw [nd ts h.asc ht]; rfl
end K04

namespace K04
variable [DL.Tbls]
open PySem PySem.Spec DL
open L2 (Key)
theorem z3K {ts:List Tb} (h:Sch ts) {t:Tb} (ht:t ∈ ts):kOf ts t.1 = t.2.1:=by
 unfold kOf; rw [z3J h ht]; rfl
theorem x9x {ts:List Tb} (h:Sch ts) {t:Tb} (ht:t ∈ ts) {r:List Int} (hl:r.length = t.2.1 + t.2.2) (hb:∀ i ∈ r,i.natAbs < 10 ^ 40):Fk ts (t.1,r):=by
 have ht':=h.ok t ht
 refine ⟨⟨t.2.2,by rw [z3J h ht,z3K h ht],by rw [z3K h ht]; exact hl⟩,x2m ht'.ok fun i hi=>Q1y (hb i hi) (by decide +kernel),⟨ht'.sm,?_,trivial⟩,?_,hb⟩
 ·exact sms_mem.mpr fun d hd=>by
   obtain ⟨i,_,rfl⟩:=Q0y.mp hd
   trivial
 ·have:=ht'.k
  have:=ht'.o
  show r.length ≤ 10
  omega
theorem x1j {ts:List Tb} {f:Fa} (h:Fk ts f):∃ t ∈ ts,t.1 = f.1∧t.2.1 = kOf ts f.1:=by
 obtain ⟨o,e,_⟩:=h.col
 unfold q4D at e
 cases hq:ts.find? fun t=>decide (t.1 = f.1) with
 | none=>rw [hq] at e; cases e
 | some t=>
  rw [hq] at e
  have h1:=List.find?_some hq
  refine ⟨t,Q3r hq,by simpa using h1,?_⟩
  have:t.2 = (kOf ts f.1,o):=Q1o.inj e
  rw [this]
end K04

namespace K04
variable [DL.Tbls]
open PySem PySem.Spec DL
open L2 (Key)
theorem x4C {ts:List Tb} {fs:List Fa}:q2x [stD ts fs] = some (.atm (.im (.tup (fs.map faD)))):=by
 apply Yd.eq
 unfold q2x q6O
 simp only [q0O,Q0d,Q0o,Q0z,Q0e,Q0w,Q0p,Q0i,q0E,q0u,q0x,q2r,q0n,Q0a,q0d,Yd_some,x2o,and_self]
def x4D (ts:List Tb):Dat→Bool
 | .tup [.str n,b]=>match q4D ts n with
  | some (k,_)=>x4n k b
  | none=>false
 | _=>false
theorem x2r {ts:List Tb} {n:Str} {b:Dat}:x4D ts (.tup [.str n,b]) = match q4D ts n with
  | some (k,_)=>x4n k b
  | none=>false:=rfl
theorem x7R {ts:List Tb} {a b:Dat} (h:isS a = false):x4D ts (.tup [a,b]) = false:=by
 cases a <;> first | rfl | cases h
theorem x4E {ts:List Tb} {ds:List Dat} (h:ds.length ≠ 2):x4D ts (.tup ds) = false:=by
 match ds,h with
 | [],_=>rfl
 | [.non],_ | [.bl _],_ | [.int _],_ | [.str _],_ | [.tup _],_ | [.lst _],_ | [.fro _],_ | [.dic _ _],_ | [.ins _ _ _],_ | [.dix _ _],_ | [.opq _],_=>rfl
 | [a,b],h=>exact absurd rfl h
 | a :: b :: c :: ds,_=>cases a <;> rfl
theorem z8y {ts:List Tb} {d:Dat} (h:okD d) (hs:shD d ≤ 10000):q2f [.tup (ts.map tbD),d] = ans (x4D ts d):=by
 apply Yd.eq
 unfold q2f q7f
 cases d with
 | tup ds=>
  simp only [q0O,Q0d,Q0o,Q0z,Q0e,Q0w,Q0p,Q0x,Q0u,q0M,q2H,q0E,q2G,q0u,q0x,q3G,q1c,q0D,q1C,q3c,q0r,q0C,Q0i,q0p,q0o,q1j,q0n,q1J,forall_const,Q0v,false_implies,and_true,q1M,Q0K,Q0Q,q1F,q2r,q2j,q0I,Q0b,Q0a,q0d,q0g,q0f,q0q,Q0c,↓reduceIte,Q0n,Yd_some,q0j,q2C,q1K,q4u,q5g,q0s,decide_eq_false_iff_not,decide_eq_true_eq,q5J,true_and]
  refine ⟨fun h2=>?_,fun h2=>?_⟩
  ·rw [x4E (by omega)]
  ·obtain ⟨a,b,rfl⟩:∃ a b,ds = [a,b]:=by
    match ds,(show ds.length = 2 by omega) with
    | [a,b],_=>exact ⟨a,b,rfl⟩
   obtain ⟨ha,hb,-⟩:=h
   simp only [Q0a,Q0b,Yd_some,x7u ha,q0s]
   refine ⟨fun e=>?_,fun e=>?_⟩
   ·rw [x7R e]
   cases a with
   | str n=>
    simp only [q5R,Yd_some,q0l,q0y]
    rw [x2r]
    cases hc:q4D ts n with
    | none=>simp only [z8V,q8i,implies_true,and_true,Yd_some,q0s,Q0c,false_implies]
    | some q=>
     obtain ⟨k,o⟩:=q
     simp only [z8V,z0H,q2C,q1K,Q0a,Yd_some,x4o hb (n:=k) (fun es e=>by subst e; exact hs),q0l,q0y,implies_true,true_and,q0s,Q0v,false_implies]
   | _=>cases e
 | fro _=>exact h.elim
 | ins _ _ _=>exact h.elim
 | dix _ _=>exact h.elim
 | opq=>first | exact h.elim | exact h.ok.elim
 | _=>simp only [q0O,Q0d,Q0o,Q0z,Q0e,Q0w,Q0p,Q0x,Q0u,q0M,q2H,q0E,q2G,q0u,q0x,q3G,q1c,q0D,q1C,q3c,q0r,q0C,Q0i,q0p,q0o,q1j,q0n,q1J,forall_const,Q0v,false_implies,and_true,q1M,Q0K,Q0Q,q1F,q2r,q2j,q0I,Q0b,Q0a,q0d,q0g,q0f,q0q,Q0c,↓reduceIte,Q0n,Yd_some,q0j,z0I,q0s,true_and,z4k,q8J,q8f,q0N,q5g,decide_eq_false_iff_not,decide_eq_true_eq,q6Z,q4g,q1K,q3n,z0J,q8g,z0L]; rfl
theorem x9y {ts:List Tb} {f:Fa} (h:Fk ts f):x4D ts (faD (blk (kOf ts) f)) = true:=by
 obtain ⟨o,e,l⟩:=h.col
 show x4D ts (.tup [.str f.1,.tup ((f.2.take (kOf ts f.1)).map .int)]) = true
 rw [x2r,e]
 show (decide _ && _) = true
 rw [z1k,Q1b,decide_eq_true_eq,Q0f,Q1f]
 omega
theorem x4F {f:Fa} {gs:List Fa} (h1:okF f) (h2:∀ g ∈ gs,okF g):x1Q (faD f) (.lst (gs.map faD)) = some (.bl (decide (f ∈ gs))):=by
 have e0:x1Q (faD f) (.lst (gs.map faD)) = match q4W (faD f),q2O (gs.map faD) with
  | some d,some ps=>if SeqAt.shaped d = true∧SeqAt.shaped (.list ps) = true then some (.bl (ps.any fun z=>PyData.eqv z d)) else none
  | _,_=>none:=rfl
 have hsl:SeqAt.shaped (.list (gs.map pyF)) = true:=z3I h2
 rw [e0,q4E,q5S]
 show (if SeqAt.shaped (pyF f) = true∧SeqAt.shaped (.list (gs.map pyF)) = true then some (Dat.bl ((gs.map pyF).any fun z=>PyData.eqv z (pyF f))) else none) = _
 rw [if_pos ⟨z2w h1,hsl⟩,z8u]
theorem x7S {ts:List Tb} {fs gs:List Fa} (h:St ts fs) {d:Dat} (ok:okD d) (hs:shD d ≤ 10000) (sel:List Fa) (hsel:(if x4D ts d = true then [d] else []) = sel.map faD) (hok:∀ b ∈ sel,okF b) (hg:gs = fs.filter fun f=>decide (blk (kOf ts) f ∈ sel)) (P:Cell→Prop) (hP:∀ k,k.frz = stD ts gs→P k):Yd (q2U [stD ts fs,d]) P:=by
 have l:=h.l
 have lg:gs.length ≤ fs.length:=by rw [hg]; exact Q1i _ _
 unfold q2U q5k q7G
 simp only [Q0d,Q0o,Q0z,Q0H,and_self,↓reduceIte,Q2i,Q2B,Q2j,Q2m,Q0x,Q0u,q0O,Q0e,Q0w,Q0p,q0M,q1C,q0D,q0E,q0u,q5e,q0p,q0o,q2j,q0I,q0r,q1N,Q1k,Q1n,Q1b,q0B,q0l,q1v,q3e,Yd_some,q1G,q2r,q0n,q0x,q2h,Q0b,Q0a,q0d,q0W,q0V,q1u,Q0m,Q0j,Q0X,Q0Y,true_and,q1m,z1I,q0Z,q0g,q0f,q0q,Q0c,Q0n,z1H,q1F,q0C,Q0i,q0j,x2o,z6a,z8y ok hs,q0y,q0s]
 have body:Ev (q3H (.nm 4) (eT (e2 x1Q (q1d (q1l q1H [] (evs [(e1 (q6y "Store" "schema") (q0i 0)),(q0i 4)]))) (q0i 2))) (q0i 4) [4] (fs.map faD)) [imS (stD ts fs),imS (.tup [d]),some ⟨false,.atm (.im (.lst (sel.map faD)))⟩,none,none] (fun ys ρ2=>ys.length ≤ 100000∧Yd (mkK (q0K (.oi "Store" [] []) [.tup (ts.map tbD),.tup ys])) fun k=>P k):=by
  refine q3R faD fs (fun f=>decide (blk (kOf ts) f ∈ sel)) faD (fun f hf=>?_) ?_
  ·simp only [q0Z,q0g,q0f,q0q,Q0c,↓reduceIte,Q0n,q0B,q0n,q1F,q1j,q0r,q0C,Q0i,q0p,q0o,q2r,Yd_some,Q0a,q0d,Q0b,q0j,Q0m,Q0j,and_true,implies_true,and_self,z6a,q5W (h.k f hf).keys,q0l,q0y,x4F (q7o (k:=kOf ts) (h.k f hf).okF) hok,q0s]
  ·rw [← hg]
   refine ⟨by simp; omega,q9n h.s (fun x hx=>h.k x ?_) (by omega) (by omega) (by rw [hg]; exact h.o.filter _) (fun _=>Iff.rfl) _ hP⟩
   rw [hg] at hx
   exact (Q1s.mp hx).1
 refine ⟨fun hb=>?_,fun hb=>?_⟩
 ·rw [if_pos hb] at hsel
  rw [← hsel] at body
  exact body
 ·rw [if_neg (by rw [hb]; simp)] at hsel
  rw [← hsel] at body
  exact body
theorem x2s {f g:Fa} (h1:okF f) (h2:okF g):neD (faD f) (faD g) = some (.bl (!decide (f = g))):=by
 have:=z8v h1 h2
 unfold eqD at this
 unfold neD
 cases hq:eqB (faD f) (faD g) with
 | none=>rw [hq] at this; cases this
 | some b=>
  rw [hq] at this
  have:b = decide (f = g):=by
   have h:=Q1o.inj this
   injection h
  rw [this]; rfl
theorem z5R {ts:List Tb} {fs gs ps:List Fa} (h:St ts fs) (hp:∀ f ∈ ps,f ∈ fs) (lp:ps.length ≤ 500) (hg:gs = fs.filter fun x=>!decide (x ∈ ps)) (P:Cell→Prop) (hP:∀ k,k.frz = stD ts gs→P k):Yd (q0X (stD ts fs :: ps.map faD)) P:=by
 unfold q0X q2L q4l
 have l:=h.l
 have okp:∀ f ∈ ps,okF f:=fun f hf=>(h.k f (hp f hf)).okF
 simp only [Q0d,Q0H,true_and,Q2i,Q2B,Q2j,Q2m,Q0x,Q0u,q0N,q0O,Q0o,Q0z,Q0e,Q0w,Q0p,q0M,q3z,q1G,q0n,Q0b,Q0a,q0d,Yd_some,q1m]
 refine ⟨by simp; omega,?_⟩
 refine q2R faD ps (fun _ ρ=>∃ w2:Option DL.Slot,Tmp w2∧ρ = [imS (stD ts fs),imS (.tup (ps.map faD)),w2]) ⟨none,.non,rfl⟩ ?_ ?_
 ·rintro pre f post ρ hx ⟨w2,h2,rfl⟩
  have hfp:f ∈ ps:=by rw [hx]; simp
  have hf:=hp f hfp
  have kf:=h.k f hf
  have e1:inI "Store" q0F true (faD f) (stD ts fs) = some (.bl false):=by
   show (if ("Store":Str) = "Store" then (q9x (q0F [stD ts fs,faD f])).map (fun b=>Dat.bl (b ^^ true)) else none) = _
   rw [if_pos rfl,q7p (fun x hx=>(h.k x hx).okF) kf.ok (by have:=kf.le; omega),kf.isFa,decide_eq_true hf]
   rfl
  simp only [q0Z,q0g,q0f,h2.pin,Q0c,↓reduceIte,Q0n,q2H,z0z,q1c,q1P,q1F,q1j,q0n,Yd_some,Q0b,Q0a,q0j,q0d,e1,q0s,imp_self,forall_const,true_and]
  exact ⟨_,.im,rfl⟩
 ·rintro ρ ⟨w2,h2,rfl⟩
  simp only [q0D,q0E,q0u,q5e,q0p,q0o,q2j,q0I,q0r,q1N,Q1k,Q1n,Q1b,q0B,q0l,q1v,q3e,Yd_some,q1G,q2r,q0n,Q0a,q0d,q0W,q0V,h2.imB,Q0m,Q0j,true_and,x2o,q1m,z6a]
  refine q3R faD fs (fun x=>!decide (x ∈ ps)) faD (fun x hx=>?_) ?_
  ·simp only [q0Z,q0g,q0f,q0q,Q0c,↓reduceIte,Q0n,q0B,q0n,q1F,q1j,Yd_some,Q0b,Q0a,q0j,q0d,Q0m,Q0j,and_true,implies_true,and_self,z4Z (h.k x hx).okF okp,q0s]
  ·rw [← hg]
   have lg:gs.length ≤ fs.length:=by rw [hg]; exact Q1i _ _
   refine ⟨by simp; omega,q9n h.s (fun x hx=>h.k x ?_) (by omega) (by omega) (by rw [hg]; exact h.o.filter _) (fun _=>Iff.rfl) _ hP⟩
   rw [hg] at hx
   exact (Q1s.mp hx).1
def x1k (k:Str→Nat) (fs:List Fa) (f:Fa):List Fa:=fs.filter fun x=>!decide (x ∈ (inB k fs (blk k f)).filter fun y=>!decide (y = f))
theorem x7T {ts:List Tb} {fs:List Fa} (h:St ts fs) {f:Fa} (hf:f ∈ fs) (P:Cell→Prop) (hP:∀ k,k.frz = stD ts (x1k (kOf ts) fs f)→P k):Yd (q1t [stD ts fs,faD f]) P:=by
 have l:=h.l
 have kf:=h.k f hf
 have lb:=x4A (kOf ts) fs (blk (kOf ts) f)
 unfold q1t q3N
 simp only [q0O,Q0d,Q0o,Q0z,Q0e,Q0w,Q0p,Q0x,Q0u,q0M,q1C,q0D,q0E,q0u,z7R,q0n,q0x,q0r,q1N,Q1k,Q1n,Q1b,q0B,q0l,q1v,q2h,q1G,q6E,q0p,q0o,q0C,Q0i,q2r,Q0a,q0d,Q0b,q0W,q0V,q1u,Q0m,Q0j,Q0X,Q0Y,true_and,Yd_some,z6a,q5W kf.keys,q0y,x7L,z5P kf,q1m]
 refine q3R faD (inB (kOf ts) fs (blk (kOf ts) f)) (fun x=>!decide (x = f)) faD (fun x hx=>?_) ?_
 ·simp only [q0Z,q0g,q0f,q0q,Q0c,↓reduceIte,Q0n,q0B,q0n,q1F,q1j,Yd_some,Q0b,Q0a,q0j,q0d,Q0m,Q0j,and_true,implies_true,and_self,x2s (h.k x (mem_inB.mp hx).1).okF kf.okF,q0s]
 ·have lf:=Q1i (fun x=>!decide (x = f)) (inB (kOf ts) fs (blk (kOf ts) f))
  refine ⟨by simp; omega,?_⟩
  simp only [Q0m,Q0j,q0g,q0f,q0q,Q0c,↓reduceIte,Q0n,Yd_some,Q0a,q0d,Q0b,q0j,x0M,x2p,true_and]
  exact z5R h (fun x hx=>(mem_inB.mp (Q1s.mp hx).1).1) (by omega) rfl _ hP
theorem z8z {ts:List Tb} {fs:List Fa} (h:St ts fs) {f:Fa} (hf:f ∈ fs) (P:Cell→Prop) (hP:∀ k,k.frz = stD ts (x1k (kOf ts) fs f)→P k):Yd (q1Q [stD ts fs,faD f]) P:=by
 have kf:=h.k f hf
 unfold q1Q q3L q5P
 have e1:inI "Store" q0F true (faD f) (stD ts fs) = some (.bl false):=by
  show (if ("Store":Str) = "Store" then (q9x (q0F [stD ts fs,faD f])).map (fun b=>Dat.bl (b ^^ true)) else none) = _
  rw [if_pos rfl,q7p (fun x hx=>(h.k x hx).okF) kf.ok (by have:=kf.le; omega),kf.isFa,decide_eq_true hf]
  rfl
 simp only [Q0d,Q0o,Q0z,Q0H,and_self,↓reduceIte,Q2i,Q2B,Q2j,Q2m,Q0x,Q0u,q0O,Q0e,Q0w,Q0p,q0M,q1C,q0D,q3z,q1G,q0n,q0x,Q0a,q0d,q0g,q0f,q0q,Q0c,Q0n,Yd_some,Q0b,q1m,q8b,q0Z,q6F,q0E,q0u,q2H,z0z,q1c,q1P,q0r,q6E,q0p,q0o,q1F,q1j,q0j,q5G,e1,x7O,true_and,q0s,imp_self,forall_const]
 refine x7T h hf _ fun k hk=>?_
 simp only [hk]
 exact hP _ rfl
end K04

set_option maxHeartbeats 4000000
namespace K04
variable [DL.Tbls]
open PySem PySem.Spec DL
open L2 (Key)
open TL (tl numL)
def nt (i:Int):Str:=Str.ofString (toString i)
theorem z5b {a b:Str} (h:tl a = tl b):a = b:=z3H h
theorem z0i (n:Nat):tl (nt (n:Int)) = numL n:=TL.tl_num n
theorem z2z {n:Nat} (h:0 < n):tl (nt (-(n:Int))) = 45 :: numL n:=by
 unfold nt
 have e:(0:Int) - -(n:Int) = (n:Int):=by omega
 have e2:(toString ((n:Nat):Int)).toList.map Char.toNat = numL n:=by rw [← TL.tl_ofString,TL.tl_num]
 rw [PyProof.Rows.toString_neg (by omega),TL.tl_ofString,String.toList_append,Q0D,e,e2]
 rfl
theorem q8m (i:Int):(∃ n:Nat,i = (n:Int))∨∃ n:Nat,0 < n∧i = -(n:Int):=by
 rcases Int.lt_or_le i 0 with h | h
 ·exact .inr ⟨i.natAbs,by omega,by omega⟩
 ·exact .inl ⟨i.natAbs,by omega⟩
theorem z5c (i:Int):∀ c ∈ tl (nt i),c = 45∨(48 ≤ c∧c ≤ 57):=by
 rcases q8m i with ⟨n,rfl⟩ | ⟨n,h,rfl⟩
 ·rw [z0i]; exact fun c hc=>.inr (TL.numL_digits n c hc)
 ·rw [z2z h]
  intro c hc
  rcases Q0s.mp hc with e | hc
  ·exact .inl e
  ·exact .inr (TL.numL_digits n c hc)
theorem z2A {i:Int} (h:i.natAbs < 10 ^ 40):(nt i).length ≤ 41:=by
 rw [TL.len_tl]
 rcases q8m i with ⟨n,rfl⟩ | ⟨n,h0,rfl⟩
 ·rw [z0i]
  have:=TL.numL_len (n:=n) (k:=40) (by decide) (by simpa using h)
  omega
 ·rw [z2z h0,Q0d]
  have:=TL.numL_len (n:=n) (k:=40) (by decide) (by simpa using h)
  omega
theorem z8A:tl ("-":Str) = [45]:=by decide +kernel
theorem z5d (x:Str):Builtin.Str.subAt x "-" 0 = decide ((tl x).take 1 = [45]):=by
 unfold Builtin.Str.subAt
 have e:("-":Str).length = 1:=by decide +kernel
 rw [Q1L,beq_iff_eq,decide_eq_true_eq,e]
 have k:∀ y:Array Nat,(x.cps.extract 0 (0 + 1) = y) ↔ (tl x).take 1 = y.toList:=fun y=>by
  rw [← Array.toList_inj,Array.toList_extract]
  rfl
 rw [k]
 exact Iff.of_eq (by rw [show ("-":Str).cps.toList = [45] from z8A])
theorem x7U {x:Str} (h:(tl x).take 1 ≠ [45]):Txt.removeprefix x "-" = x:=by
 unfold Txt.removeprefix
 rw [z5d,decide_eq_false h]; rfl
theorem x4G {x:Str} {r:List Nat} (h:tl x = 45 :: r):tl (Txt.removeprefix x "-") = r:=by
 unfold Txt.removeprefix
 have e:("-":Str).length = 1:=by decide +kernel
 have hl:x.length = r.length + 1:=by rw [TL.len_tl,h,Q0d]
 rw [z5d,h,decide_eq_true (show (45 :: r).take 1 = [45] from rfl),if_pos rfl,e]
 show tl (if (x.length - 1 == x.length) = true then x else Builtin.Str.strSub x 1 x.length) = r
 rw [if_neg (by rw [beq_iff_eq]; omega),TL.tl_strSub_end,h]; rfl
theorem x7V {i:Int} (h:i.natAbs < 10 ^ 40):Q2A (nt i) = some i:=by
 have hl:=z2A h
 rcases q8m i with ⟨n,rfl⟩ | ⟨n,h0,rfl⟩
 ·refine TL.int_num ?_
  rw [← z0i,← TL.len_tl]; omega
 ·rw [intText_neg (cs:=numL n) (z2z h0) (TL.numL_digits n) (TL.numL_ne n) (by omega),TL.numL_val]
theorem nt_zero {n:Nat}:(numL n).head? = some 48 ↔ n = 0:=by
 constructor
 ·intro h
  by_cases z:n = 0
  ·exact z
  ·exfalso
   have key:∀ m:Nat,0 < m→(numL m).head? ≠ some 48:=fun m=>by
    induction m using Nat.strongRecOn with
    | _ m ih=>
     intro hm
     by_cases h10:m < 10
     ·rw [TL.numL_lt h10]
      simp only [List.head?_cons,ne_eq,Q1o.injEq]
      omega
     ·rw [TL.numL_step (by omega)]
      have h1:=ih (m / 10) (by omega) (by omega)
      have h2:=TL.numL_ne (m / 10)
      cases q:numL (m / 10) with
      | nil=>exact absurd q h2
      | cons a r=>rw [q] at h1; simpa using h1
   exact key n (by omega) h
 ·rintro rfl
  rw [TL.numL_lt (by decide)]; rfl
def DG:List Nat:=("0123456789":Str).cps.toList
theorem mem_DG {c:Nat}:c ∈ DG ↔ 48 ≤ c∧c ≤ 57:=by
 have e:DG = [48,49,50,51,52,53,54,55,56,57]:=by decide +kernel
 rw [e]
 simp only [Q0s,Q1t,or_false]
 omega
theorem q7K {i:Int} (h:i.natAbs < 10 ^ 40):q1w [.str (nt i)] = some (.atm (.im (.int i))):=by
 apply Yd.eq
 unfold q1w q7B
 have hl:=z2A h
 obtain ⟨d,hd,dn⟩:∃ d:Str,Txt.removeprefix (nt i) "-" = d∧tl d = numL i.natAbs:=by
  rcases q8m i with ⟨n,rfl⟩ | ⟨n,h0,rfl⟩
  ·refine ⟨nt n,x7U ?_,by rw [z0i]; simp⟩
   rw [z0i]
   intro z
   have:45 ∈ numL n:=Q1x (by rw [z]; simp)
   have:=TL.numL_digits n 45 this
   omega
  ·exact ⟨_,rfl,by rw [x4G (z2z h0)]; simp⟩
 have d0:d ≠ "":=fun z=>by
  rw [z] at dn
  exact TL.numL_ne _ dn.symm
 have hdl:d.length ≤ 41:=by
  rw [TL.len_tl,dn]
  have:=TL.numL_len (n:=i.natAbs) (k:=40) (by decide) h
  omega
 simp only [q0O,Q0d,Q0o,Q0z,Q0e,Q0w,Q0p,Q0x,Q0u,q0M,q1C,q0D,q2H,q0E,q2G,q0u,q0x,q3G,q1c,q2j,q0p,q0o,q0I,q0n,q6C,q1F,q1j,Q0c,false_implies,forall_const,true_and,q1J,Q0v,and_true,q1M,Q0K,Q0Q,q0r,q1N,Q1k,Q1n,Q1b,q0B,q0l,q1v,q2h,z3b,x4h,Q0a,q0d,q0g,q0f,q0q,↓reduceIte,Q0n,Yd_some,Q0b,q0j,q0W,q0V,q1u,Q0m,Q0j,Q0X,Q0Y,x0W,hd,q0N,q4B,z1J,q0s,decide_eq_true_eq,decide_eq_false_iff_not]
 refine ⟨by omega,fun z=>absurd z d0,fun _=>?_⟩
 refine q3S (fun k:Nat=>Dat.str ⟨#[k]⟩) d.cps.toList (fun k=>.bl (decide (k ∈ DG))) (fun k hk=>?_) ?_
 ·simp only [q0Z,q0g,q0f,q0q,Q0c,↓reduceIte,Q0n,q0B,q1j,q3G,q0n,Yd_some,Q0b,Q0a,q0j,Q0m,Q0j,and_true,z1K]; rfl
 have al:x3h (.lst (d.cps.toList.map fun k=>Dat.bl (decide (k ∈ DG)))) = some (.bl true):=by
  rw [z0K]
  congr 2
  rw [Q1h]
  intro c hc
  have hc:c ∈ tl d:=hc
  rw [dn] at hc
  exact decide_eq_true (mem_DG.mpr (TL.numL_digits _ c hc))
 have i0:x4d (.str d) (.int 0) = some (.str ⟨#[(tl d).headD 0]⟩):=by
  show (if d.length ≤ 100000 then (Q4n d.cps.toList 0).map fun k=>Dat.str ⟨#[k]⟩ else none) = _
  rw [if_pos (by omega)]
  have dn0:tl d ≠ []:=by rw [dn]; exact TL.numL_ne _
  cases q:d.cps.toList with
  | nil=>exact absurd q dn0
  | cons a r=>
   have e1:Q4n (a :: r) (0:Int) = some a:=by unfold Q4n L2.ixN; simp
   have e2:(tl d).headD 0 = a:=by rw [show tl d = a :: r from q]; rfl
   rw [e1,e2]; rfl
 have fin:Yd (x8G (.str (nt i))) fun z=>Cell.atm (Atom.im z) = Cell.atm (Atom.im (Dat.int i)):=by
  rw [x0Z,if_pos (by omega),x7V h]
  exact Yd_some.mpr rfl
 simp only [al,Q0m,Q0j,Q0b,Q0a,q0j,q0d,Yd_some,q5h,q0s,Q0K,decide_eq_false_iff_not,Q0Q,decide_eq_true_eq,i0,q4B,Q0v,false_implies,forall_const,true_and]
 refine ⟨?_,fun hz=>⟨fun hne=>?_,fun _=>fin⟩,fun _=>fin⟩
 ·rw [Q0f]
  have:d.cps.toList.length = d.length:=(TL.len_tl d).symm
  omega
 ·exfalso
  have z1:(tl d).headD 0 = 48:=by
   have:=congrArg (fun x:Str=>x.cps.toList.headD 0) hz
   exact this
  have z2:(numL i.natAbs).head? = some 48:=by
   rw [← dn]
   cases q:tl d with
   | nil=>rw [q] at z1; cases z1
   | cons a r=>rw [q] at z1; exact congrArg some z1
  have z3:i = 0:=by have:=nt_zero.mp z2; omega
  apply hne
  subst z3
  decide +kernel
end K04

set_option maxHeartbeats 4000000
namespace K04
variable [DL.Tbls]
open PySem PySem.Spec DL
open L2 (Key)
open TL (tl numL)
theorem x1l {k:Nat} (h:k < 10):x4d (.str "0123456789") (.int (k:Nat)) = some (.str ⟨#[48 + k]⟩):=by
 have h':∀ k,k < 10→x4d (.str "0123456789") (.int (k:Nat)) = some (.str ⟨#[48 + k]⟩):=fun k hk=>by
  match k,hk with
  | 0,_=>rfl
  | 1,_=>rfl
  | 2,_=>rfl
  | 3,_=>rfl
  | 4,_=>rfl
  | 5,_=>rfl
  | 6,_=>rfl
  | 7,_=>rfl
  | 8,_=>rfl
  | 9,_=>rfl
 exact h' k h
def x4H (n:Nat):List Nat:=if n = 0 then [] else numL n
theorem z2B {n:Nat} (h:0 < n):x4H n = x4H (n / 10) ++ [48 + n % 10]:=by
 unfold x4H
 rw [if_neg (by omega)]
 by_cases z:n < 10
 ·rw [if_pos (by omega),TL.numL_lt z,Q2X z]; rfl
 ·rw [if_neg (by omega),TL.numL_step (by omega)]
theorem x7W {i:Int} {n:Nat} (hn:n = i.natAbs) (hi:i < 0):i = -(n:Int)∧0 < n:=by omega
theorem x7X {i:Int} {n:Nat} (hn:n = i.natAbs) (hi:0 ≤ i):i = (n:Int):=by omega
theorem z2C {i:Int} (h:i.natAbs < 10 ^ 40):q2y [.int i] = some (.atm (.im (.str (nt i)))):=by
 apply Yd.eq
 unfold q2y q6Q
 have lN:(numL i.natAbs).length ≤ 40:=TL.numL_len (by decide) h
 obtain ⟨n,hn⟩:∃ n,n = i.natAbs:=⟨_,rfl⟩
 have ab:x8D (.int i) = some (.int (n:Nat)):=by
  rw [x0O,show (n:Int) = (if i < 0 then -i else i) from by split <;> omega]
 rw [← hn] at lN
 simp only [q0O,Q0d,Q0o,Q0z,Q0e,Q0w,Q0p,Q0x,Q0u,q0M,z1G,q0D,q0x,q2j,q0p,q0o,q0I,q0n,q3G,Q0a,q0d,q0g,q0f,q0q,Q0c,↓reduceIte,Q0n,Yd_some,ab,true_and]
 refine z9G (fun m ρ=>∃ (ds:Str) (left:Nat),m = left + (if ds = "" then 1 else 0)∧(ds = ""∧left = n∨ds ≠ ""∧x4H left ++ tl ds = numL n)∧ρ = [imS (.int i),imS (.str ds),imS (.int (left:Nat))]) ?_ (n + 1) ⟨"",n,by rw [if_pos rfl],.inl ⟨rfl,rfl⟩,rfl⟩
 rintro m ρ ⟨ds,left,hm,hI,rfl⟩
 have e0:tl ("":Str) = []:=by decide +kernel
 have dl:ds.length ≤ 40:=by
  rw [TL.len_tl]
  rcases hI with ⟨rfl,_⟩ | ⟨_,e⟩
  ·rw [e0]; exact Q1H _
  ·have:=congrArg Q1Q e
   rw [Q0A] at this
   omega
 have hd:x4d (.str "0123456789") (.int ((left:Int) % 10)) = some (.str ⟨#[48 + left % 10]⟩):=by
  rw [show ((left:Int) % 10) = ((left % 10:Nat):Int) from by omega]
  exact x1l (Q4l _ (by decide))
 have tlc:tl ((⟨#[48 + left % 10]⟩:Str) ++ ds) = (48 + left % 10) :: tl ds:=by rw [TL.tl_append]; rfl
 have nec:((⟨#[48 + left % 10]⟩:Str) ++ ds) ≠ "":=fun z=>by
  rw [z,e0] at tlc; cases tlc
 have step:(left > 0∨ds = "")→x4H (left / 10) ++ tl ((⟨#[48 + left % 10]⟩:Str) ++ ds) = numL n:=fun hc=>by
  rw [tlc]
  rcases hI with ⟨rfl,rfl⟩ | ⟨hne,e⟩
  ·rw [e0]
   by_cases z:left = 0
   ·subst z; rfl
   ·rw [← z2B (by omega)]
    unfold x4H
    rw [if_neg z]
  ·have hl:0 < left:=hc.resolve_right hne
   rw [← e,z2B hl,Q0C]; rfl
 simp only [ne_eq,z1G,q1P,q0x,q1j,q3G,q0n,q0D,q0E,q0u,q6e,q1F,q1J,forall_const,Q0v,false_implies,and_true,Q0b,Q0a,q0d,q0g,q0f,z9J,Q0c,↓reduceIte,Q0n,Yd_some,z0C,Q3W,and_self,q8e,hd,z4i,q0N,q3m,q0s,x3A,x3C,q4B,decide_eq_true_eq,decide_eq_false_iff_not,z0F,z3c]
 have z4f:(left > 0∨ds = "")→(⟨#[48 + left % 10]⟩:Str).length + ds.length ≤ 1000000∧∃ m',m' < m∧∃ (ds':Str) (left':Nat),(m' = left' + if ds' = "" then 1 else 0)∧(ds' = ""∧left' = n∨¬ds' = ""∧x4H left' ++ tl ds' = numL n)∧[imS (.int i),imS (.str ((⟨#[48 + left % 10]⟩:Str) ++ ds)),imS (.int ((left:Int) / 10))] = [imS (.int i),imS (.str ds'),imS (.int (left':Nat))]:=fun hc=>by
  refine ⟨?_,left / 10,?_,_,left / 10,by rw [if_neg nec]; rfl,.inr ⟨nec,step hc⟩,by rw [show ((left:Int) / 10) = ((left / 10:Nat):Int) from by omega]⟩
  ·rw [show (⟨#[48 + left % 10]⟩:Str).length = 1 from rfl]; omega
  ·rw [hm]
   rcases Nat.eq_zero_or_pos left with z | z
   ·subst z
    rw [if_pos (hc.resolve_left (by omega))]; omega
   ·split <;> omega
 refine ⟨fun h0=>z4f (.inl (by omega)),fun h0=>⟨fun hz=>z4f (.inr hz),fun hz=>?_⟩⟩
 have l0:left = 0:=by omega
 have e:tl ds = numL n:=by
  rcases hI with ⟨rfl,_⟩ | ⟨_,e⟩
  ·exact absurd rfl hz
  ·rw [l0] at e; exact e
 refine ⟨fun hi=>⟨?_,?_⟩,fun hi=>?_⟩
 ·rw [show ("-":Str).length = 1 from by decide +kernel]; omega
 ·congr 3
  refine z5b ?_
  obtain ⟨hi',n0⟩:=x7W hn hi
  rw [hi',z2z n0,TL.tl_append,z8A,e]; rfl
 ·congr 3
  refine z5b ?_
  have hi':=x7X hn hi
  rw [hi',z0i,e]
end K04

set_option maxHeartbeats 4000000
namespace K04
variable [DL.Tbls]
open PySem PySem.Spec DL
open L2 (Key)
open TL (tl numL)
def wds (k:Nat) (f:Fa):List Str:=("fact":Str) :: f.1 :: ((f.2.take k).map nt ++ ("|":Str) :: (f.2.drop k).map nt)
def fln (ts:List Tb) (f:Fa):Str:=Txt.join " " (wds (kOf ts f.1) f)
def tlw (t:Tb):List Str:=["table",t.1,nt t.2.1,nt t.2.2]
def tln (t:Tb):Str:=Txt.join " " (tlw t)
def lns (ts:List Tb) (fs:List Fa):List Str:=ts.map tln ++ fs.map (fln ts)
def txt (ts:List Tb) (fs:List Fa):Str:=Txt.join "\n" (lns ts fs)
theorem z2D (S:List Nat):∀ ps:List (List Nat),(TL.joinL S ps).length ≤ (ps.map (·.length)).sum + ps.length * S.length
 | []=>by show 0 ≤ _; exact Q1H _
 | [p]=>by show p.length ≤ _; simp
 | p :: q :: r=>by
  have h:=z2D S (q :: r)
  refine Q0S (Q2O (Q0A (as:=p) (bs:=S ++ TL.joinL S (q :: r)))) ?_
  rw [Q0A]
  simp only [Q0e,List.sum_cons,Q0d,Nat.succ_mul] at h ⊢
  omega
theorem x1m (y:Str) (ps:List Str):tl (Txt.join y ps) = TL.joinL (tl y) (ps.map tl):=by rw [TL.join_eq,TL.tl_join]
theorem x1n (y:Str) (ps:List Str):(Txt.join y ps).length ≤ (ps.map (·.length)).sum + ps.length * y.length:=by
 rw [TL.len_tl,x1m]
 refine Q0S (z2D _ _) (Q2O ?_)
 rw [Q0R,Q0f,TL.len_tl y]
 rw [show (Q2G ((fun x=>x.length) ∘ tl) ps) = ps.map (·.length) from Q1P fun x _=>(TL.len_tl x).symm]
theorem x2t {α:Type} (g:α→Nat) (B:Nat):∀ l:List α,(∀ x ∈ l,g x ≤ B)→(l.map g).sum ≤ l.length * B
 | [],_=>by simp
 | x :: l,h=>by
  have h1:=h x (by simp)
  have h2:=x2t g B l fun y hy=>h y (by simp [hy])
  simp only [Q0e,List.sum_cons,Q0d,Nat.succ_mul]
  omega
theorem z8B:tl (" ":Str) = [32]:=by decide +kernel
theorem x9z:tl ("\n":Str) = [10]:=by decide +kernel
theorem q7L:(" ":Str).length = 1:=by decide +kernel
theorem x2u:("\n":Str).length = 1:=by decide +kernel
theorem q3l {ds:List Dat} {a:Int} (h:0 ≤ a) (h1:a.toNat ≤ ds.length):q6B ds (some a) none = ds.drop a.toNat:=by
 obtain ⟨n,rfl⟩:∃ n:Nat,a = n:=⟨a.toNat,by omega⟩
 rw [Q2e] at h1 ⊢
 unfold q6B
 rw [HT.sIx_nat,HT.sIx_none,Nat.min_eq_left h1]
 exact Q1A (by rw [Q1O]; omega)
theorem z5S {ts:List Tb} (hs:Sch ts) {f:Fa} (h:Fk ts f):f.2.length ≤ 8∧f.1.length ≤ 8∧kOf ts f.1 ≤ f.2.length:=by
 obtain ⟨t,ht,e1,e2⟩:=x1j h
 obtain ⟨o,e,l⟩:=h.col
 have hc:=z3J hs ht
 have ok:=hs.ok t ht
 rw [e1,e] at hc
 have ho:o = t.2.2:=by rw [← Q1o.inj hc]
 have h1:=ok.k
 have h2:=ok.o
 have h3:=ok.nm
 rw [q5V,Q1l,decide_eq_true_eq] at h3
 refine ⟨by omega,by rw [← e1]; exact h3.1.2,by omega⟩
theorem x4I {k:Nat} {f:Fa} (h:f.2.length ≤ 8):(wds k f).length ≤ 11:=by
 unfold wds
 simp only [Q0d,Q0A,Q0f,Q1f,Q1O]
 omega
theorem x4J {k:Nat} {f:Fa} (h1:f.1.length ≤ 8) (h2:∀ i ∈ f.2,i.natAbs < 10 ^ 40):∀ x ∈ wds k f,x.length ≤ 41:=fun x hx=>by
 unfold wds at hx
 have hi:∀ i ∈ f.2,(nt i).length ≤ 41:=fun i hi=>z2A (h2 i hi)
 simp only [Q0s,Q0k,Q0y] at hx
 rcases hx with rfl | rfl | ⟨i,m,rfl⟩ | rfl | ⟨i,m,rfl⟩
 ·decide +kernel
 ·omega
 ·exact hi i (Q1x m)
 ·decide +kernel
 ·exact hi i (Q2y m)
theorem x1o {y:Str} {ys:List Str} {n B:Nat} (hy:y.length = 1) (hn:ys.length ≤ n) (hB:∀ x ∈ ys,x.length ≤ B) (hb:n * (B + 1) ≤ 100000):(Txt.join y ys).length ≤ n * (B + 1)∧∀ P:Dat→Prop,P (.str (Txt.join y ys))→Yd (z3n y (.lst (ys.map .str))) P:=by
 have h1:=x2t (fun x:Str=>x.length) B ys hB
 have h2:=x1n y ys
 have h3:ys.length * (B + 1) ≤ n * (B + 1):=Nat.mul_le_mul_right _ hn
 rw [Nat.mul_succ] at h3
 rw [hy] at h2
 refine ⟨by omega,fun P hP=>?_⟩
 rw [z8g,hy,if_pos (by omega)]
 exact Yd_some.mpr hP
theorem x9A {k:Nat} {f:Fa} (h:k ≤ f.2.length):(Dat.str "fact" :: .str f.1 :: (q6B (f.2.map fun i=>.str (nt i)) none (some (k:Int)) ++ Dat.str "|" :: q6B (f.2.map fun i=>.str (nt i)) (some (k:Int)) none)) = (wds k f).map .str:=by
 rw [q6n,q3l (by omega) (by rw [Q0f]; omega)]
 unfold wds
 simp only [Q0e,Q0D,Q0R,Q1X,Q2w,Q2e]
 rfl
theorem z5T {f:Fa} {k:Nat} (h0:f.2.length ≤ 8) (h1:f.1.length ≤ 8) (hk:k ≤ f.2.length) (h2:∀ i ∈ f.2,i.natAbs < 10 ^ 40):q4U [.str "fact",.str f.1,.lst (f.2.map fun i=>.str (nt i)),.int (k:Nat)] = some (.atm (.im (.str (Txt.join " " (wds k f))))):=by
 apply Yd.eq
 unfold q4U z0b
 simp only [q0O,Q0d,Q0o,Q0z,Q0e,Q0w,Q0p,Q0i,q0E,q0u,q0x,q8l,q0r,q3x,q0l,q1v,z9D,Q0H,z6Q,q0o,q5F,Ev_ret,q2s,q0n,q3G,Q0a,q0d,Q0b,Yd_some,q2b,q5I,q2c,true_and]
 refine ⟨?_,?_⟩
 ·rw [q6n,q3l (by omega) (by rw [Q0f]; omega)]
  simp
  omega
 ·rw [x9A hk]
  exact (x1o (n:=11) (B:=41) q7L (x4I h0) (x4J h1 h2) (by omega)).2 _ rfl
theorem x7Y {i:Int} {n:Nat} (h:i.natAbs < 2 ^ n) (hn:0 < n):i.natAbs.log2 < n:=by
 by_cases z:i.natAbs = 0
 ·rw [z]; simpa using hn
 ·exact (Nat.log2_lt z).mpr h
theorem x9B:(10:Nat) ^ 40 ≤ 2 ^ 1920:=by decide +kernel
theorem l40 {i:Int} (h:i.natAbs < 10 ^ 40):i.natAbs.log2 < 1920:=x7Y (Q1y h x9B) (by decide)
theorem z3L (a b:Str):(a ++ b).length = a.length + b.length:=by rw [TL.len_tl,TL.tl_append,Q0A,← TL.len_tl,← TL.len_tl]
theorem x9C:Str.empty.length = 0:=rfl
theorem z8C:("table ":Str).length = 6:=by decide +kernel
theorem x7Z:tl ("table ":Str) = tl ("table":Str) ++ [32]:=by decide +kernel
theorem q5X {k:Nat} (h:k ≤ 4):(nt (k:Int)).length ≤ 41:=z2A (by
 rw [Q2a]
 exact Q1M h (by decide +kernel))
theorem x2v (t:Tb):tl (tln t) = tl ("table":Str) ++ ([32] ++ (tl t.1 ++ ([32] ++ (tl (nt t.2.1) ++ ([32] ++ tl (nt t.2.2)))))):=by
 unfold tln tlw
 rw [x1m,z8B]; rfl
theorem x9D (t:Tb):Str.empty ++ "table " ++ t.1 ++ " " ++ nt t.2.1 ++ " " ++ nt t.2.2 = tln t:=z5b (by
 rw [x2v]
 simp only [TL.tl_append,x7Z,z8B,Q0C]
 rfl)
theorem x8a (t:Tb):("table ":Str) ++ t.1 ++ " " ++ nt t.2.1 ++ " " ++ nt t.2.2 = tln t:=z5b (by
 rw [x2v]
 simp only [TL.tl_append,x7Z,z8B,Q0C])
theorem TbOk.len {t:Tb} (h:TbOk t):t.1.length ≤ 8:=by
 have h3:=h.nm
 rw [q5V,Q1l,decide_eq_true_eq] at h3
 exact h3.1.2
theorem z8D {t:Tb} (h:TbOk t):(tln t).length ≤ 100:=by
 have h1:=q5X h.k
 have h2:=q5X h.o
 have h3:=h.len
 rw [← x8a]
 simp only [z3L,z8C,q7L]
 omega
theorem z8E {ts:List Tb} (hs:Sch ts) {f:Fa} (h:Fk ts f):(fln ts f).length ≤ 462:=by
 obtain ⟨h1,h2,h3⟩:=z5S hs h
 exact (x1o (n:=11) (B:=41) q7L (x4I h1) (x4J h2 h.vb) (by omega)).1
theorem z5e {ts:List Tb} (hs:Sch ts) {fs:List Fa} (hk:∀ f ∈ fs,Fk ts f) (hl:fs.length ≤ 200):(txt ts fs).length ≤ 95400∧∀ P:Dat→Prop,P (.str (txt ts fs))→Yd (z3n "\n" (.lst ((lns ts fs).map .str))) P:=by
 have l6:=hs.le
 have hn:(lns ts fs).length ≤ 206:=by
  unfold lns
  rw [Q0A,Q0f,Q0f]; omega
 have hB:∀ x ∈ lns ts fs,x.length ≤ 462:=fun x hx=>by
  unfold lns at hx
  rcases Q0k.mp hx with h | h
  ·obtain ⟨t,ht,rfl⟩:=Q0y.mp h
   exact Q0S (z8D (hs.ok t ht)) (by omega)
  ·obtain ⟨f,hf,rfl⟩:=Q0y.mp h
   exact z8E hs (hk f hf)
 have:=x1o (n:=206) (B:=462) x2u hn hB (by omega)
 exact ⟨Q0S this.1 (by omega),this.2⟩
theorem z3M {i:Int} (h:i.natAbs < 10 ^ 40):x7d (.int i) = some (.str (nt i)):=by
 show (if i.natAbs.log2 < 1920 then _ else _) = _
 rw [if_pos (l40 h)]; rfl
theorem z5f {ts:List Tb} {pre:List Fa} {f:Fa}:(lns ts (pre ++ [f])).map Dat.str = (lns ts pre).map Dat.str ++ [.str (fln ts f)]:=by
 unfold lns
 rw [Q0D (l₁:=pre),← Q0C,Q0D]; rfl
theorem z2E {ts:List Tb} (hs:Sch ts) {fs:List Fa} (hk:∀ f ∈ fs,Fk ts f) (hl:fs.length ≤ 200):q3D [.tup (ts.map tbD),.tup (fs.map faD)] = some (.atm (.im (.str (txt ts fs)))):=by
 apply Yd.eq
 unfold q3D q7C
 have l6:=hs.le
 simp only [q0O,Q0d,Q0o,Q0z,Q0e,Q0w,Q0p,Q0x,Q0u,q0M,q1C,q0D,q3z,q1G,q0n,q1N,Q1k,Q1n,Q1b,q0B,q2h,Q0a,q0d,q0W,q0V,q1u,Q0m,Q0j,Q0X,Q0Y,true_and,Yd_some,q1m]
 refine q3S tbD ts (fun t=>.str (tln t)) (fun t ht=>?_) ?_
 ·have ok:=hs.ok t ht
  have h1:=ok.k
  have h2:=ok.o
  have h3:=ok.len
  have h4:(Str.ofString (toString (t.2.1:Int))).length ≤ 41:=q5X h1
  have h5:(Str.ofString (toString (t.2.2:Int))).length ≤ 41:=q5X h2
  have lg:∀ k:Nat,k ≤ 4→((k:Int)).natAbs.log2 < 1920:=fun k hk=>l40 (by
   rw [Q2a]
   exact Q1M hk (by decide +kernel))
  simp only [tbD,q5n,q2a,q0Z,q0g,q0f,q0q,Q0c,↓reduceIte,Q0n,q2K,Q0U,q0B,x4j,x4i,q2r,q0n,q3G,z8c,q0N,Yd_some,Q0b,Q0a,q0j,Q0m,Q0j,and_true,x0Y,x0X]
  simp only [z3L,x9C,z8C,q7L]
  exact ⟨by omega,by omega,by omega,by omega,lg _ h1,by omega,by omega,lg _ h2,by omega,congrArg Dat.str (x9D t)⟩
 simp only [Q0m,Q0j,q0g,q0f,q0q,Q0c,↓reduceIte,Q0n,Yd_some,Q0b,Q0a,q0d,q1m]
 refine ⟨by rw [Q0f]; omega,?_⟩
 refine q2R faD fs (fun pre ρ=>∃ w3 w6:Option DL.Slot,q6a w3 = false∧q6a w6 = false∧ρ = [imS (.tup (ts.map tbD)),imS (.tup (fs.map faD)),some ⟨false,.atm (.ol ((lns ts pre).map .str))⟩,w3,none,none,w6,none]) ?_ ?_ ?_
 ·refine ⟨none,none,rfl,rfl,?_⟩
  unfold lns
  rw [Q0w,Q0i,Q0R]; rfl
 ·rintro pre f post ρ hx ⟨w3,w6,h3,h6,rfl⟩
  have hf:=hk f (by rw [hx]; simp)
  obtain ⟨n8,m8,kl⟩:=z5S hs hf
  obtain ⟨o,hc,_⟩:=hf.col
  have hl:pre.length < 200:=by
   have:=congrArg Q1Q hx
   simp at this
   omega
  have row:=z5T n8 m8 kl hf.vb
  simp only [faD,q8k,q5n,q2a,q0Z,q0g,q0f,h3,Q0c,↓reduceIte,Q0n,q2K,Q0U,h6,q4A,q1P,q0x,q5f,q0p,q0o,q0r,q0C,Q0i,q1j,q3G,q0n,q1N,Q1k,Q1n,Q1b,q0B,q2h,q0l,q1v,q1G,Yd_some,Q0b,Q0a,Q0m,Q0j,q0j,q0W,q0V,q1u,Q0X,Q0Y,true_and,q1m,q3B,q3C,q6f,q2v,q0N]
  refine q3S Dat.int f.2 (fun i=>.str (nt i)) (fun i hi=>?_) ?_
  ·simp only [q0Z,q0g,q0f,q0q,Q0c,↓reduceIte,Q0n,q0B,q2j,q0p,q0o,q0I,q0n,Yd_some,Q0b,Q0a,q0j,Q0m,Q0j,and_true,z3M (hf.vb i hi)]
  simp only [Q0m,Q0j,Q0a,q0d,Q0b,q0j,true_and,Yd_some,q5R,z8V,hc,q0l,q0y,q2C,q1K,row]
  have ln:(lns ts pre).length ≤ 206:=by
   unfold lns
   rw [Q0A,Q0f,Q0f]; omega
  refine ⟨by rw [Q0f]; omega,by rw [Q0f]; omega,_,_,?_,?_,by rw [z5f]; rfl⟩ <;> rfl
 ·rintro ρ ⟨w3,w6,h3,h6,rfl⟩
  simp only [q0D,q7y,q3A,q5H,q0l,q1v,q0E,q0u,q0x,q8l,q0n,Q0b,Q0a,q0j,Yd_some]
  exact (z5e hs hk hl).2 _ rfl
theorem z5g {ts:List Tb} (hs:Sch ts) {fs:List Fa} (hk:∀ f ∈ fs,Fk ts f) (hl:fs.length ≤ 200):q1o [stD ts fs] = some (.atm (.im (.str (txt ts fs)))):=by
 apply Yd.eq
 unfold q1o q7F
 simp only [q0O,Q0d,Q0o,Q0z,Q0e,Q0w,Q0p,Q0i,q0E,q0u,q0C,q0p,q0o,q2r,q0n,Q0a,q0d,Yd_some,x2o,z6a,z2E hs hk hl,and_self]
end K04

set_option maxHeartbeats 4000000
namespace K04
variable [DL.Tbls]
open PySem PySem.Spec DL
open L2 (Key)
open TL (tl numL)
theorem x4K {ts:List Tb} (hs:Sch ts) {t:Tb} (ht:t ∈ ts):ts.filter (fun z=>decide (z.1 = t.1)) = [t]:=by
 have nd:(ts.map (·.1)).Nodup:=by
  rw [List.nodup_iff_pairwise_ne,Q1I]
  exact hs.asc.imp fun {a b} h e=>by rw [e] at h; exact List.lt_irrefl _ h
 obtain ⟨p,q,rfl⟩:=Q3o ht
 rw [Q0D,Q0e,Q0E] at nd
 obtain ⟨_,n2,n3⟩:=nd
 have n4:=(Q0P.mp n2).1
 rw [Q3l,Q2E (by simp)]
 rw [List.filter_eq_nil_iff.mpr fun z hz=>?_,List.filter_eq_nil_iff.mpr fun z hz=>?_,Q0u]
 ·intro e
  exact n4 (Q0y.mpr ⟨z,hz,by simpa using e⟩)
 ·intro e
  exact n3 z.1 (Q0J hz) t.1 (by simp) (by simpa using e)
theorem z5h {ts:List Tb} (hs:Sch ts) {fs:List Fa} (hk:∀ f ∈ fs,Fk ts f) (hl:fs.length ≤ 200):q2z [.tup (ts.map tbD),.lst (fs.map faD)] = some (.atm (.im (.str (txt ts fs)))):=by
 apply Yd.eq
 unfold q2z z0e
 have l6:=hs.le
 simp only [q0O,Q0d,Q0o,Q0z,Q0e,Q0w,Q0p,Q0x,Q0u,q0M,q1C,q0D,q3z,q1G,q0n,q1N,Q1k,Q1n,Q1b,q0B,q2h,Q0a,q0d,q0W,q0V,q1u,Q0m,Q0j,Q0X,Q0Y,true_and,Yd_some,q1m]
 refine q3S tbD ts (fun t=>.str (tln t)) (fun t ht=>?_) ?_
 ·have ok:=hs.ok t ht
  have h1:=ok.k
  have h2:=ok.o
  have h3:=ok.len
  have h4:=q5X h1
  have h5:=q5X h2
  have b:∀ k:Nat,k ≤ 4→((k:Int)).natAbs < 10 ^ 40:=fun k hk=>by
   rw [Q2a]
   exact Q1M hk (by decide +kernel)
  simp only [tbD,q5n,q2a,q0Z,q0g,q0f,q0q,Q0c,↓reduceIte,Q0n,q2K,Q0U,q0B,q1j,q2j,q0p,q0o,q0I,q0n,q3G,Yd_some,Q0b,Q0a,q0j,Q0m,Q0j,and_true,z3M (b _ h2),z3M (b _ h1),z4i,q0N]
  simp only [z3L,z8C,q7L]
  exact ⟨by omega,by omega,by omega,by omega,by omega,congrArg Dat.str (x8a t)⟩
 simp only [Q0m,Q0j,q0g,q0f,q0q,Q0c,↓reduceIte,Q0n,Yd_some,Q0b,Q0a,q0d,q2c]
 refine ⟨by rw [Q0f]; omega,?_⟩
 refine q2R faD fs (fun pre ρ=>∃ w4 w6 w7 w9:Option DL.Slot,q6a w4 = false∧q6a w6 = false∧q6a w7 = false∧q6a w9 = false∧ρ = [imS (.tup (ts.map tbD)),imS (.lst (fs.map faD)),some ⟨false,.atm (.ol ((lns ts pre).map .str))⟩,none,w4,none,w6,w7,none,w9,none]) ?_ ?_ ?_
 ·refine ⟨none,none,none,none,rfl,rfl,rfl,rfl,?_⟩
  unfold lns
  rw [Q0w,Q0i,Q0R]; rfl
 ·rintro pre f post ρ hx ⟨w4,w6,w7,w9,h4,h6,h7,h9,rfl⟩
  have hf:=hk f (by rw [hx]; simp)
  obtain ⟨n8,m8,kl⟩:=z5S hs hf
  obtain ⟨o,hc,lo⟩:=hf.col
  have hl:pre.length < 200:=by
   have:=congrArg Q1Q hx
   simp at this
   omega
  obtain ⟨t,ht,et,ek⟩:=x1j hf
  have fl:ts.filter (fun z=>decide (z.1 = f.1)) = [t]:=by rw [← et]; exact x4K hs ht
  have c1:q6B (f.2.map Dat.int) none (some ((kOf ts f.1:Nat):Int)) = (f.2.take (kOf ts f.1)).map .int:=by rw [q6n,Q1X]
  have c2:q6B (f.2.map Dat.int) (some ((kOf ts f.1:Nat):Int)) none = (f.2.drop (kOf ts f.1)).map .int:=by
   rw [q3l (by omega) (by rw [Q0f]; omega),Q2w,Q2e]
  simp only [faD,q8k,q5n,q2a,q0Z,q0g,q0f,h6,Q0c,↓reduceIte,Q0n,q2K,Q0U,h7,q0M,q1C,q0D,q4A,q1P,q0x,q5f,q0p,q0o,q8l,q1j,q0r,q1N,Q1k,Q1n,Q1b,q0B,q0l,q1v,q2h,q1G,q5F,Ev_ret,q2s,q0n,q3x,Q0d,Q0H,Q0o,true_and,q3G,q6I,q0N,Yd_some,Q0z,Q0x,Q0u,q4g,q1K,Q0a,q0d,q0W,q0V,q1u,Q0m,Q0j,Q0X,Q0Y,q1m]
  refine q3R tbD ts (fun z=>decide (z.1 = f.1)) (fun z=>.int (z.2.1:Nat)) (fun z hz=>?_) ?_
  ·simp only [tbD,q0Z,q0g,q0f,q0q,Q0c,↓reduceIte,Q0n,q0B,q1j,q3G,q0n,q1F,Yd_some,Q0b,Q0a,q0j,Q0m,Q0j,and_true,q2C,q1K,implies_true,and_self,q4B,q0s]
  rw [fl]
  simp only [Q0e,ek,Q0w,Q0d,Q0o,Q0z,Q0H,Q0a,Q0m,Q0j,q0g,q0f,h4,Q0c,↓reduceIte,Q0n,Yd_some,Q0b,q0j,q0W,q0V,q1u,Q0X,Q0Y,true_and,z0D,q1m,q2b,c1]
  refine q3S Dat.int (f.2.take (kOf ts f.1)) (fun i=>.str (nt i)) (fun i hi=>?_) ?_
  ·simp only [q0Z,q0g,q0f,q0q,Q0c,↓reduceIte,Q0n,q0B,q0r,q0C,Q0i,q0p,q0o,q0n,Yd_some,Q0b,Q0a,q0j,Q0m,Q0j,and_true,z2C (hf.vb i (Q1x hi)),q0l,q0y]
  simp only [Q0m,Q0j,q0g,q0f,h9,Q0c,↓reduceIte,Q0n,Yd_some,Q0b,Q0a,q0j,q0W,q0V,q1u,Q0X,Q0Y,true_and,q2b,z0D,c2,q1m,q6I,Q0d,Q0x,q0N,q3B,q3C,q6f,q2v]
  have tk:(f.2.take (kOf ts f.1)).length ≤ 8:=by rw [Q1f]; omega
  have dr:(f.2.drop (kOf ts f.1)).length ≤ 8:=by rw [Q1O]; omega
  simp only [Q0f,Q0A,Q1r]
  refine ⟨by omega,by omega,by omega,?_⟩
  refine q3S Dat.int (f.2.drop (kOf ts f.1)) (fun i=>.str (nt i)) (fun i hi=>?_) ?_
  ·simp only [q0Z,q0g,q0f,q0q,Q0c,↓reduceIte,Q0n,q0B,q0r,q0C,Q0i,q0p,q0o,q0n,Yd_some,Q0b,Q0a,q0j,Q0m,Q0j,and_true,z2C (hf.vb i (Q2y hi)),q0l,q0y]
  simp only [Q0f,Q0C,List.singleton_append]
  refine ⟨by omega,by omega,?_⟩
  have ew:(Dat.str "fact" :: .str f.1 :: ((f.2.take (kOf ts f.1)).map (fun i=>Dat.str (nt i)) ++ Dat.str "|" :: (f.2.drop (kOf ts f.1)).map (fun i=>Dat.str (nt i)))) = (wds (kOf ts f.1) f).map .str:=by
   unfold wds
   simp only [Q0e,Q0D,Q0R]
   rfl
  rw [ew]
  refine (x1o (n:=11) (B:=41) q7L (x4I n8) (x4J m8 hf.vb) (by omega)).2 _ ?_
  have ln:(lns ts pre).length ≤ 206:=by
   unfold lns
   rw [Q0A,Q0f,Q0f]; omega
  refine ⟨rfl,by omega,_,_,_,_,?_,?_,?_,?_,by rw [z5f]; rfl⟩ <;> rfl
 ·rintro ρ ⟨w4,w6,w7,w9,h4,h6,h7,h9,rfl⟩
  simp only [q0D,q7y,q3A,q5H,q0l,q1v,q0E,q0u,q0x,q8l,q0n,Q0b,Q0a,q0j,Yd_some]
  exact (z5e hs hk hl).2 _ rfl
end K04

set_option maxHeartbeats 4000000
namespace K04
variable [DL.Tbls]
open PySem PySem.Spec DL
open L2 (Key)
open TL (tl numL)
def Wd (x:Str):Prop:=∀ c ∈ tl x,32 < c
theorem x1p (i:Int):Wd (nt i):=fun c hc=>by
 rcases z5c i c hc with h | h <;> omega
theorem x8b {t:Tb} (h:TbOk t):Wd t.1:=fun c hc=>by
 have h1:=h.nm
 rw [q5V,Q1l,Q1h] at h1
 have h2:∀ k ∈ LET,32 < k:=by unfold LET; decide +kernel
 exact h2 c (by simpa using h1.2 c hc)
theorem x9E:Wd "table"∧Wd "fact"∧Wd "|":=by
 refine ⟨?_,?_,?_⟩ <;> (unfold Wd; decide +kernel)
theorem x2w {t:Tb} (h:TbOk t):∀ x ∈ tlw t,Wd x:=fun x hx=>by
 unfold tlw at hx
 simp only [Q0s,Q1t,or_false] at hx
 rcases hx with rfl | rfl | rfl | rfl
 ·exact x9E.1
 ·exact x8b h
 ·exact x1p _
 ·exact x1p _
theorem x2x {ts:List Tb} (hs:Sch ts) {f:Fa} (h:Fk ts f) {k:Nat}:∀ x ∈ wds k f,Wd x:=fun x hx=>by
 obtain ⟨t,ht,e,_⟩:=x1j h
 unfold wds at hx
 simp only [Q0s,Q0k,Q0y] at hx
 rcases hx with rfl | rfl | ⟨i,_,rfl⟩ | rfl | ⟨i,_,rfl⟩
 ·exact x9E.2.1
 ·rw [← e]; exact x8b (hs.ok t ht)
 ·exact x1p _
 ·exact x9E.2.2
 ·exact x1p _
theorem q9p {S:List Nat} {c:Nat}:∀ {ps:List (List Nat)},c ∈ TL.joinL S ps→c ∈ S∨∃ p ∈ ps,c ∈ p
 | [],h=>nomatch h
 | [p],h=>.inr ⟨p,by simp,h⟩
 | p :: q :: r,h=>by
  have h:c ∈ p ++ (S ++ TL.joinL S (q :: r)):=h
  rcases Q0k.mp h with h | h
  ·exact .inr ⟨p,by simp,h⟩
  ·rcases Q0k.mp h with h | h
   ·exact .inl h
   ·rcases q9p h with h | ⟨z,hz,h⟩
    ·exact .inl h
    ·exact .inr ⟨z,by simp [Q0s.mp hz],h⟩
theorem x8c {ws:List Str} (h:∀ x ∈ ws,Wd x):10 ∉ tl (Txt.join " " ws):=fun hm=>by
 rw [x1m,z8B] at hm
 rcases q9p hm with h1 | ⟨p,hp,h1⟩
 ·exact absurd h1 (by decide)
 ·obtain ⟨x,hx,rfl⟩:=Q0y.mp hp
  have:=h x hx 10 h1
  omega
theorem x2y {ws:List Str} (h:∀ x ∈ ws,Wd x) (hn:ws ≠ []):Txt.split (Txt.join " " ws) " " = ws:=
 TL.split_join z8B (by decide +kernel) hn fun p hp hm=>by have:=h p hp 32 hm; omega
theorem x8d {ts:List Tb} (hs:Sch ts) {fs:List Fa} (hk:∀ f ∈ fs,Fk ts f):Txt.split (txt ts fs) "\n" = lns ts fs:=by
 refine TL.split_join x9z (by decide +kernel) ?_ fun p hp=>?_
 ·unfold lns
  intro e
  exact hs.ne (List.map_eq_nil_iff.mp (List.append_eq_nil_iff.mp e).1)
 ·unfold lns at hp
  rcases Q0k.mp hp with h | h
  ·obtain ⟨t,ht,rfl⟩:=Q0y.mp h
   exact x8c (x2w (hs.ok t ht))
  ·obtain ⟨f,hf,rfl⟩:=Q0y.mp h
   exact x8c (x2x hs (hk f hf))
theorem x4L {ts:List Tb} (hs:Sch ts) {fs:List Fa} (hk:∀ f ∈ fs,Fk ts f) (hl:fs.length ≤ 200):q4T [.str (txt ts fs)] = some (.atm (.im (.lst ((lns ts fs).map .str)))):=by
 apply Yd.eq
 unfold q4T z0a
 have h1:=(z5e hs hk hl).1
 simp only [q0O,Q0d,Q0o,Q0z,Q0e,Q0w,Q0p,Q0i,q0M,q2H,z0z,q1c,q0D,q0E,q0u,q0x,q1j,q8D,ne_eq,q3G,q0n,q1M,Q0K,Q0Q,q1F,q2r,Q0a,q0d,Yd_some,x2u,reduceCtorEq,not_false_iff,true_and,x8d hs hk,q0N,and_true,q6Z,q0s,Q0v,imp_self,forall_const]
 omega
theorem z3N (ts:List Tb) (n:Str):q1z [.lst (ts.map tbD),.str n] = some (.atm (.im (z8V (q4D ts n)))):=by
 apply Yd.eq
 unfold q1z q9c
 simp only [q0O,Q0d,Q0o,Q0z,Q0e,Q0w,Q0p,Q0x,Q0u,q0M,q3z,q1G,q0n,Q0a,q0d,Yd_some,q2c,true_and]
 refine q2R tbD ts (fun pre ρ=>∃ (w2 w3 w4:Option DL.Slot),q6a w2 = false∧q6a w3 = false∧q6a w4 = false∧(∀ t ∈ pre,t.1 ≠ n)∧ρ = [imS (.lst (ts.map tbD)),imS (.str n),w2,w3,w4])
  ⟨none,none,none,rfl,rfl,rfl,(fun _ h=>nomatch h),rfl⟩ ?_ ?_
 ·rintro pre t post ρ hx ⟨w2,w3,w4,h2,h3,h4,hne,rfl⟩
  simp only [tbD,q5n,q2a,q0Z,q0g,q0f,h2,Q0c,↓reduceIte,Q0n,q2K,Q0U,h3,h4,ne_eq,q2H,q0E,q8G,q2G,q0u,q0x,q3K,q0p,Q0d,Q0H,q0o,Q0o,true_and,q0n,q1c,q1P,q1F,q1j,Yd_some,Q0b,Q0a,q0j,q0d,q4B,q0s,decide_eq_true_eq,decide_eq_false_iff_not]
  refine ⟨fun e=>?_,fun e=>⟨_,_,_,rfl,rfl,rfl,fun z hz=>?_,rfl⟩⟩
  ·unfold q4D
   rw [hx,Q3x,Q1U.mpr (fun z hz=>by simpa using hne z hz),Q1R (by simpa using e)]
   rfl
  ·rcases Q0k.mp hz with hz | hz
   ·exact hne z hz
   ·rw [Q0t.mp hz]; exact e
 ·rintro ρ ⟨w2,w3,w4,h2,h3,h4,hne,rfl⟩
  simp only [q0D,q0E,q0u,q0x,q3G]
  unfold q4D
  rw [Q1U.mpr (fun z hz=>by simpa using hne z hz)]
  rfl
theorem q9q {k:Nat} (h:k ≤ 4):q1w [.str (nt (k:Int))] = some (.atm (.im (.int (k:Int)))):=q7K (by
 rw [Q2a]
 exact Q1M h (by decide +kernel))
theorem z5U {t:Tb} (h:TbOk t):q3k [.lst ((tlw t).map .str)] = some (.atm (.im (tbD t))):=by
 apply Yd.eq
 unfold q3k q7g tlw
 have tt:q2w [Dat.tup [.str t.1,.int (t.2.1:Nat),.int (t.2.2:Nat)]] = ans true:=z3G h
 simp only [Q0e,Q0w,q0O,Q0d,Q0o,Q0z,Q0p,Q0x,Q0u,q0M,q2H,q0E,q2G,q0u,q0x,q3G,q1c,q0D,q1C,q6e,q0n,q1F,q0r,q0C,Q0i,q0p,q0o,q3K,Q0H,true_and,q1j,q1J,forall_const,Q0v,false_implies,and_true,q2j,q0I,Q0a,q0d,q0g,q0f,q0q,Q0c,↓reduceIte,Q0n,Yd_some,Q0b,q0j,q4g,q1K,q9q h.o,q0l,q0y,q9q h.k,tt,q0s,q5h,decide_true,Q1v,q3n,Q3p,q5g]
 rfl
theorem z5V {k:Nat} {f:Fa} (h:f.2.length ≤ 8):q3k [.lst ((wds k f).map .str)] = some (.atm (.im .non)):=by
 apply Yd.eq
 unfold q3k q7g wds
 simp only [Q0e,q0O,Q0d,Q0o,Q0z,Q0w,Q0p,Q0x,Q0u,q0M,q2H,q0E,q2G,q0u,q0x,q3G,implies_true,q1c,q0D,q1C,q6e,q0n,and_true,q1F,q0r,q0C,Q0i,q0p,q0o,q3K,Q0H,true_and,q1j,q1J,Q0v,false_implies,q2j,q0I,Q0a,q0d,q0g,q0f,q0q,Q0c,↓reduceIte,Q0n,Yd_some,Q0b,q0j,q4g,q1K,q5h,q0s,Q0Q,decide_eq_true_eq,q3n,q5g]
 exact fun _ e=>absurd e (by decide +kernel)
def wdr (k:Nat) (f:Fa):List Str:=(f.2.take k).map nt ++ ("|":Str) :: (f.2.drop k).map nt
theorem x9F {k:Nat} {f:Fa} (h:k ≤ f.2.length):(wdr k f).length = f.2.length + 1:=by
 unfold wdr
 simp only [Q0d,Q0A,Q0f,Q1f,Q1O]
 omega
theorem x1q (r:List Int):x1Q .non (.lst (r.map .int)) = some (.bl false):=by
 have e0:x1Q .non (.lst (r.map .int)) = match q4W Dat.non,q2O (r.map .int) with
  | some d,some ps=>if SeqAt.shaped d = true∧SeqAt.shaped (.list ps) = true then some (.bl (ps.any fun z=>PyData.eqv z d)) else none
  | _,_=>none:=rfl
 have h1:SeqAt.shaped (.list (r.map .int)) = true:=by
  show (PyData.canLayAll0 (r.map PyData.int) && decide (PyData.depthAll (r.map PyData.int) + 1 ≤ 64)) = true
  rw [q9m,q5U]; rfl
 rw [e0,q6o]
 show (if SeqAt.shaped .none = true∧SeqAt.shaped (.list (r.map .int)) = true then some (Dat.bl ((r.map PyData.int).any fun z=>PyData.eqv z .none)) else none) = _
 rw [if_pos ⟨rfl,h1⟩,List.any_map]
 congr 2
 rw [List.any_eq_false]
 intro i _
 exact Q1z
theorem x1r {f:Fa} {k o:Nat} (h:f.2.length = k + o) (hl:f.2.length ≤ 8) (hv:∀ i ∈ f.2,i.natAbs < 10 ^ 40):q6N [.lst ((wdr k f).map .str),.int (k:Nat),.int (o:Nat),.opq (some "integer_in")] = some (.atm (.im (.tup (f.2.map .int)))):=by
 apply Yd.eq
 unfold q6N z4P
 have n1:(wdr k f).length = k + 1 + o:=by rw [x9F (by omega)]; omega
 have tk:(f.2.take k).length = k:=by rw [Q1f]; omega
 have at_k:Q4n ((wdr k f).map Dat.str) ((k:Nat):Int) = some (.str "|"):=by
  refine q8H (n:=k) rfl ?_
  rw [Q0O]
  unfold wdr
  rw [Q1d (by rw [Q0f,tk]; exact Q0W _),Q0f,tk,Q3R]; rfl
 have c1:q6B ((wdr k f).map Dat.str) none (some ((k:Nat):Int)) = (f.2.take k).map fun i=>.str (nt i):=by
  rw [q6n,← Q1X]
  unfold wdr
  rw [List.take_left' (by rw [Q0f,tk]),Q0R]; rfl
 have c2:q6B ((wdr k f).map Dat.str) (some (((k:Nat):Int) + 1)) none = (f.2.drop k).map fun i=>.str (nt i):=by
  rw [q3l (by omega) (by rw [Q0f]; omega),← Q2w,show (((k:Nat):Int) + 1).toNat = k + 1 from by omega]
  unfold wdr
  rw [show k + 1 = ((f.2.take k).map nt).length + 1 from by rw [Q0f,tk],List.drop_length_add_append]
  show Q2G Dat.str ((f.2.drop k).map nt) = _
  rw [Q0R]; rfl
 simp only [q0O,Q0d,Q0o,Q0z,Q0e,Q0w,Q0p,Q0x,Q0u,q0M,q2H,q0E,q2G,q0u,q0x,q3G,q1c,q0D,q1C,q6e,q2j,q0p,q0o,q0I,q0n,q1F,q1j,q0r,q1N,Q1k,Q1n,Q1b,q0B,q0l,q1v,q2h,q1G,q5F,Ev_ret,q2s,q1J,forall_const,Q0v,false_implies,and_true,Q0a,q0d,Q0b,q0W,q0V,q1u,Q0m,Q0j,Q0X,Q0Y,true_and,Yd_some,q3d,q2b,q5I,c2,c1,q6I,q0N,q2c,q4g,at_k,q5h,decide_true,Q1v,q0s,Q0c,q3n,q5g,Q0K,decide_eq_false_iff_not,Q0Q,decide_eq_true_eq]
 rw [← Q0D,Q1Y]
 simp only [Q0f]
 refine ⟨fun z=>absurd (by rw [n1]; omega) z,fun _=>⟨?_,?_⟩⟩
 ·have:=Q1O (i:=k) (l:=f.2)
  omega
 refine q3S (fun i:Int=>Dat.str (nt i)) f.2 (fun i=>.int i) (fun i hi=>?_) ?_
 ·simp only [q0Z,q0g,q0f,q0q,Q0c,↓reduceIte,Q0n,q0B,q0r,z8e,q0C,Q0i,q0p,q0o,q0n,Yd_some,Q0b,Q0a,z4O,decide_true,q0j,Q0m,Q0j,and_true,q7K (hv i hi),q0l,q0y,and_self]
 simp only [Q0m,Q0j,q0g,q0f,q0q,Q0c,↓reduceIte,Q0n,Yd_some,Q0b,Q0a,q0j,q3e,implies_true,and_true,x1q,q0s,false_implies]
 rw [Q0f]
 omega
theorem z8F {ts:List Tb} (hs:Sch ts) {f:Fa} (hf:Fk ts f):q4V [.lst (ts.map tbD),.lst ((f.1 :: wdr (kOf ts f.1) f).map .str)] = some (.atm (.im (faD f))):=by
 apply Yd.eq
 unfold q4V z2o
 obtain ⟨n8,m8,kl⟩:=z5S hs hf
 obtain ⟨o,hc,lo⟩:=hf.col
 have c1:q6B (Dat.str f.1 :: (wdr (kOf ts f.1) f).map .str) (some 1) none = (wdr (kOf ts f.1) f).map .str:=by
  rw [q3l (by omega) (by simp)]; rfl
 simp only [Q0e,q0O,Q0d,Q0o,Q0z,Q0w,Q0p,Q0x,Q0u,q0M,q1C,q0D,q2H,q0E,q2G,q0u,q0x,q3G,q1c,q6e,q3K,q0p,Q0H,q0o,true_and,q0n,q1j,q1F,q0r,q0C,Q0i,q5F,Ev_ret,q2s,q2b,Yd_some,q3x,q0l,q1v,Q0b,Q0a,q0d,q0g,q0f,q0q,Q0c,↓reduceIte,Q0n,q0j,q4g,q1K,q5I,c1,z3N,z8V,hc,q0y,z6V,q2C,x1r lo n8 hf.vb,q0s,false_implies,forall_const,z6U,Q0v,and_true,z0N,Q0K,Q0Q]
 exact ⟨fun _=>rfl,fun z=>nomatch z⟩
theorem z5i {α:Type} (xs:List α) (x:α):Q4n (xs ++ [x]) (-1) = some x:=by
 unfold Q4n L2.ixN
 rw [if_neg (by omega),if_pos (by simp; omega),Q0U]
 have:((-1:Int) + (((xs ++ [x]).length:Nat):Int)).toNat = xs.length:=by simp; omega
 rw [this]; simp
theorem x8e {ts:List Tb} {t:Tb} (hl:ts.length < 6) (ha:∀ s ∈ ts,s.1.cps.toList < t.1.cps.toList):q1A [.lst (ts.map tbD),tbD t] = ans true:=by
 apply Yd.eq
 unfold q1A q4i
 simp only [tbD,q0O,Q0d,Q0o,Q0z,Q0e,Q0w,Q0p,Q0i,q0M,q2H,q0E,q2G,q0u,q0x,q3G,q1c,q0D,x1N,implies_true,q1j,q0n,q2r,q5T,Q1w,Yd_some,true_and,q0r,q3x,q0l,q1v,q0o,Q0H,q1J,forall_const,Q0v,false_implies,and_true,q1F,q2j,q0p,q0I,Q0b,Q0a,q0d,q2C,q1K,q4g,z0M,q0s,q3n,q8I,decide_eq_true_eq,decide_eq_false_iff_not,z6V,Q0c]
 refine ⟨fun z=>absurd z (by rw [Q0f]; omega),fun _ hne=>?_⟩
 rcases List.eq_nil_or_concat ts with rfl | ⟨p,s,rfl⟩
 ·cases hne
 have hs:=ha s (by simp)
 rw [List.concat_eq_append,Q0D]
 have e:Q4n (p.map tbD ++ [s].map tbD) (-1) = some (tbD s):=z5i _ _
 rw [e,Yd_some]
 simp only [tbD,q2C,q1K,Q0a,Yd_some,x0N]
 rw [decide_eq_true hs]
theorem z8G {d:Dat}:q1A [d,.non] = ans false:=by
 apply Yd.eq
 unfold q1A q4i
 simp only [q0O,Q0d,Q0o,Q0z,Q0e,Q0w,Q0p,Q0i,q0M,q2H,q0E,q2G,q0u,q0x,q3G,implies_true,q1c,q0D,x1N,q1j,q0n,q2r,q5T,Q1w,Yd_some,q0r,q3x,q0l,q1v,q0o,Q0H,true_and,q1J,Q0v,false_implies,q1F,q2j,q0p,q0I,Q0b,Q0a,q0d,z6U,q0s,and_self]
theorem x9G (f g:Fa):x7g (faD f) (faD g) = some (.bl (!leF g f)):=by
 have al:Q2H (pyF f) (pyF g) = true:=by
  show (true && (Q2k (f.2.map .int) (g.2.map .int) && true)) = true
  rw [q7b]; rfl
 have e:x7g (faD f) (faD g) = match q4W (faD f),q4W (faD g) with
  | some (.tuple as),some (.tuple bs)=>if Q2H (.tuple as) (.tuple bs) = true∧PyData.depth (.tuple as) ≤ 64 then some (.bl (Q3t (.tuple as) (.tuple bs))) else none
  | _,_=>none:=rfl
 rw [e,q4E,q4E]
 show (if Q2H (pyF f) (pyF g) = true∧(pyF f).depth ≤ 64 then some (Dat.bl (Q3t (pyF f) (pyF g))) else none) = _
 rw [if_pos ⟨al,by rw [z4X]; decide⟩]
 have e2:leF g f = !xLt (tk (faD f)) (tk (faD g)):=z1P
 rw [e2,Bool.not_not]
 unfold tk
 rw [q9l,q9l]
 rfl
end K04

set_option maxHeartbeats 4000000
namespace K04
variable [DL.Tbls]
open PySem PySem.Spec DL
open L2 (Key)
open TL (tl numL)
def enS (p:Str × Nat):Dat:=.tup [.int (p.2:Nat),.str p.1]
theorem z8H (ls:List Str):q4z (ls.map .str) = ls.zipIdx.map enS:=by
 unfold q4z
 rw [List.zipIdx_map,Q0R]; rfl
theorem x9H {t:Tb} (h:TbOk t):q8D (.str (tln t)) (.str " ") = some (.lst ((tlw t).map .str)):=by
 show (if _ then _ else _) = _
 rw [if_pos ⟨by rw [q7L]; decide,Q0S (z8D h) (by decide)⟩]
 unfold tln
 rw [x2y (x2w h) (fun z=>nomatch z)]
theorem x9I {ts:List Tb} (hs:Sch ts) {f:Fa} (h:Fk ts f):q8D (.str (fln ts f)) (.str " ") = some (.lst ((wds (kOf ts f.1) f).map .str)):=by
 show (if _ then _ else _) = _
 rw [if_pos ⟨by rw [q7L]; decide,Q0S (z8E hs h) (by decide)⟩]
 unfold fln
 rw [x2y (x2x hs h) (fun z=>nomatch z)]
theorem j0k (t:Tb):(tlw t).map Dat.str = .str "table" :: [.str t.1,.str (nt t.2.1),.str (nt t.2.2)]:=rfl
theorem j0l (k:Nat) (f:Fa):(wds k f).map Dat.str = .str "fact" :: .str f.1 :: (wdr k f).map .str:=rfl
theorem q8n:∀ r:List Int,Dat.tuys (r.map .int) = true
 | []=>rfl
 | i :: r=>by show (true && Dat.tuys (r.map .int)) = true; rw [q8n r]; rfl
theorem x2z (f:Fa):(faD f).tuy = true:=by
 show (true && (Dat.tuys (f.2.map .int) && true)) = true
 rw [q8n]; rfl
theorem z8I:∀ fs:List Fa,Dat.tuys (fs.map faD) = true
 | []=>rfl
 | f :: fs=>by show ((faD f).tuy && Dat.tuys (fs.map faD)) = true; rw [x2z,z8I fs]; rfl
theorem z3O (fs:List Fa) {o:Option DL.Slot}:z4I o (some ⟨false,.atm (.ol (fs.map faD))⟩):=.inl (z8I fs)
theorem q5i {d:Dat} {b:Bool}:z4I (some ⟨b,.atm (.im d)⟩) (some ⟨b,.atm (.im d)⟩):=.inr ⟨d,b,rfl,rfl⟩
theorem z8J {ts:List Tb} (hs:Sch ts) {fs:List Fa} (hk:∀ f ∈ fs,Fk ts f) (hl:fs.length ≤ 200) (hg:Srt fs):q3E [.str (txt ts fs)] = some (.atm (.im (.tup [.tup (ts.map tbD),.tup (fs.map faD)]))):=by
 apply Yd.eq
 unfold q3E q7D
 have l6:=hs.le
 have ll:(lns ts fs).length = ts.length + fs.length:=by unfold lns; rw [Q0A,Q0f,Q0f]
 simp only [q0O,Q0d,Q0o,Q0z,Q0e,Q0w,Q0p,Q0x,Q0u,q0M,z1G,q0D,q3z,z9T,q0p,q0o,q0r,q0C,Q0i,q0n,q3x,Q0H,true_and,q0g,q0f,q0q,Q0c,↓reduceIte,Q0n,Yd_some,Q0a,q0d,x4L hs hk hl,q0l,q0y,z9U,z8H]
 refine q2R enS (lns ts fs).zipIdx (fun pre ρ=>∃ w3 w4 w5 w6 w7:Option DL.Slot,q6a w3 = false∧q6a w4 = false∧q6a w5 = false∧q6a w6 = false∧q6a w7 = false∧z4I w7 w7∧ρ = [imS (.str (txt ts fs)),some ⟨false,.atm (.ol ((ts.take pre.length).map tbD))⟩,some ⟨false,.atm (.ol ((fs.take (pre.length - ts.length)).map faD))⟩,w3,w4,w5,w6,w7]) ?_ ?_ ?_
 ·exact ⟨none,none,none,none,none,rfl,rfl,rfl,rfl,rfl,trivial,by simp⟩
 ·rintro pre ⟨line,n⟩ post ρ hx ⟨w3,w4,w5,w6,w7,h3,h4,h5,h6,h7,k7,rfl⟩
  obtain ⟨e1,e2,e3⟩:=x2k hx
  dsimp only at e1 e2
  subst e1
  rw [ll] at e3
  by_cases hn:pre.length < ts.length
  ·have hm:pre.length - ts.length = 0:=by omega
   have hm1:pre.length + 1 - ts.length = 0:=by omega
   obtain ⟨t,et⟩:∃ t,ts[pre.length]? = some t:=⟨_,Q0G hn⟩
   have ht:t ∈ ts:=Q0N et
   have ok:=hs.ok t ht
   have el:line = tln t:=by
    unfold lns at e2
    rw [Q1j (by rw [Q0f]; exact hn),Q0O,et] at e2
    exact (Q1o.inj e2).symm
   subst el
   have ha:∀ s ∈ ts.take pre.length,s.1.cps.toList < t.1.cps.toList:=by
    have h:=hs.asc
    rw [← Q1Y pre.length ts,List.pairwise_append] at h
    refine fun s hs=>h.2.2 s hs t ?_
    rw [Q1K hn,← (Q0r.mp et).2]
    exact Q0g
   have hnx:=x8e (ts:=ts.take pre.length) (t:=t) (by rw [Q1f]; omega) ha
   have tk1:ts.take (pre.length + 1) = ts.take pre.length ++ [t]:=by rw [Q3s,et]; rfl
   have ti:=z5U ok
   rw [j0k] at ti
   rw [hm]
   have nf:("table":Str) ≠ "fact":=by decide +kernel
   simp only [enS,Q2B,Q0w,q5n,q2a,q0Z,q0g,q0f,h3,Q0c,↓reduceIte,Q0n,q2K,Q0U,h4,q0M,q1C,q0D,q2H,q4A,q1P,q0x,q5f,q0p,q0o,q0n,z0z,q6C,q1J,forall_const,Q0v,imp_self,and_true,q8F,q1F,q1j,q2r,q3G,q5T,Q1w,Yd_some,q0r,q3x,q0l,q1v,Q0o,Q0H,true_and,false_implies,z3m,q0C,Q0i,q6e,q5F,Ev_ret,q2s,q2b,Q0b,Q0a,q0j,h5,h6,Q0m,Q0j,q8Y,z0W,q8X,q7c,q5i,q8Z,h7,q6H,z0A,q8d,q0y,q8c,and_self,q3B,q3C,q6f,q2v,q0N,Q0u,q4g,z0M,q0s,q8i,x9H ok,j0k,ti,q1K,q5I,q4B,nf,decide_false]
   refine ⟨fun _=>⟨_,_,rfl,?_⟩,fun z=>nomatch z⟩
   simp only [hnx,Yd_some,q0l,q0y,q0s,forall_const,Q0v,imp_self,and_true]
   refine ⟨rfl,z3O [],by rw [Q0f,Q1f]; omega,_,_,_,_,_,?_,?_,?_,?_,?_,?_,by rw [Q0A,Q1r,tk1,hm1,Q0D]; rfl⟩
   ·rfl
   ·rfl
   ·rfl
   ·rfl
   ·rfl
   ·exact q5i
  ·have hm:pre.length - ts.length < fs.length:=by omega
   obtain ⟨m,em⟩:∃ m,m = pre.length - ts.length:=⟨_,rfl⟩
   obtain ⟨f,ef⟩:∃ f,fs[m]? = some f:=⟨_,Q0G (by omega)⟩
   have hf:f ∈ fs:=Q0N ef
   have fk:=hk f hf
   have el:line = fln ts f:=by
    unfold lns at e2
    rw [Q1d (by rw [Q0f]; omega),Q0f,← em,Q0O,ef] at e2
    exact (Q1o.inj e2).symm
   subst el
   have tk0:ts.take pre.length = ts:=Q1A (by omega)
   have tk1:fs.take (m + 1) = fs.take m ++ [f]:=by rw [Q3s,ef]; rfl
   have m1:pre.length + 1 - ts.length = m + 1:=by omega
   have lo:∀ g ∈ fs.take m,leF f g = false:=fun g hg'=>by
    have h:=hg.pw
    have nd:=hg.nd
    rw [← Q1Y m fs] at h nd
    rw [List.pairwise_append] at h
    rw [Q0E] at nd
    have hfd:f ∈ fs.drop m:=by
     rw [Q1K (by omega),← (Q0r.mp ef).2]
     exact Q0g
    cases q:leF f g with
    | false=>rfl
    | true=>exact absurd (z1l (h.2.2 g hg' f hfd) q) (nd.2.2 g hg' f hfd)
   obtain ⟨n8,m8,kl⟩:=z5S hs fk
   have ti:=z5V (k:=kOf ts f.1) n8
   rw [j0l] at ti
   have fi:q4V [.lst (ts.map tbD),.lst (.str f.1 :: (wdr (kOf ts f.1) f).map .str)] = some (.atm (.im (faD f))):=z8F hs fk
   have c1:q6B (Dat.str "fact" :: .str f.1 :: (wdr (kOf ts f.1) f).map .str) (some 1) none = .str f.1 :: (wdr (kOf ts f.1) f).map .str:=by
    rw [q3l (by omega) (by simp)]; rfl
   have nn:x3d (faD f) .non = some (.bl true):=rfl
   have gl:(fs.take m).length ≤ 200:=by rw [Q1f]; omega
   obtain ⟨gs,eg⟩:∃ gs,gs = fs.take m:=⟨_,rfl⟩
   rw [← em,tk0]
   rw [← eg] at gl lo tk1 ⊢
   simp only [enS,q5n,q2a,q0Z,q0g,q0f,h3,Q0c,↓reduceIte,Q0n,q2K,Q0U,h4,q0M,q1C,q0D,q2H,q4A,q1P,q0x,q5f,q0p,q0o,q0n,z0z,q6C,q1J,forall_const,Q0v,imp_self,and_true,q8F,q1F,q1j,q2r,q3G,q5T,Q1w,Yd_some,q0r,q3x,q0l,q1v,Q0o,Q0H,true_and,false_implies,z3m,q0C,Q0i,q6e,q5F,Ev_ret,q2s,q2b,Q0b,Q0a,q0j,h5,h6,Q0m,Q0j,q8Y,z0W,q8X,q7c,q5i,q8Z,h7,q6H,z0A,q8d,q0y,q8c,and_self,q3B,q3C,q6f,q2v,q0N,q4g,z0M,q0s,q8i,x9I hs fk,j0l,ti,q1K,q5I,c1,q4B,decide_true]
   refine ⟨_,_,rfl,?_⟩
   simp only [fi,Q1w,Yd_some,q0l,q0y]
   have endS:∀ {a b c d e:Option DL.Slot},[imS (.str (txt ts fs)),some ⟨false,.atm (.ol (ts.map tbD))⟩,some ⟨false,.atm (.ol (gs.map faD ++ [faD f]))⟩,a,b,c,d,e] = [imS (.str (txt ts fs)),some ⟨false,.atm (.ol ((ts.take (pre ++ [(fln ts f,pre.length)]).length).map tbD))⟩,some ⟨false,.atm (.ol ((fs.take ((pre ++ [(fln ts f,pre.length)]).length - ts.length)).map faD))⟩,a,b,c,d,e]:=fun {a b c d e}=>by
    rw [Q0A,Q1r,m1,tk1,Q0D,Q1A (show ts.length ≤ pre.length + 1 by omega)]; rfl
   have gm:(gs.map faD).length < 100000:=by rw [Q0f]; omega
   refine ⟨x2z f,⟨z3O gs,k7⟩,fun he=>⟨_,_,rfl,?_⟩,fun he=>?_⟩
   ·simp only [z8G,nn,Q1w,Yd_some,q0s,forall_const,Q0v,imp_self,and_true,q0l,q0y,Q0c,false_implies,true_and]
    refine ⟨rfl,z3O gs,fun _=>⟨gm,_,_,_,_,_,rfl,rfl,rfl,rfl,rfl,q5i,endS⟩,fun z=>(by rw [he] at z; cases z)⟩
   ·simp only [nn,Q1w,Yd_some,q0s,forall_const,Q0v,imp_self,and_true]
    refine ⟨fun z=>(by rw [he] at z; cases z),fun _=>?_⟩
    rcases List.eq_nil_or_concat gs with e0 | ⟨p,g,eg'⟩
    ·rw [e0] at he; cases he
    have hgf:=lo g (by rw [eg']; simp)
    have e:Q4n (gs.map faD) (-1) = some (faD g):=by
     rw [eg',List.concat_eq_append,Q0D]; exact z5i _ _
    rw [e,Yd_some]
    simp only [x9G,hgf,Q4b,Yd_some,q0s,forall_const,Q0v,imp_self,and_true]
    exact ⟨gm,_,_,_,_,_,rfl,rfl,rfl,rfl,rfl,q5i,endS⟩
 ·rintro ρ ⟨w3,w4,w5,w6,w7,h3,h4,h5,h6,h7,k7,rfl⟩
  rw [Q2q,ll,Q1A (by omega),Q1A (by omega)]
  simp only [q0D,q7y,q3A,q5H,q0l,q1v,q0E,q0u,q0x,q3K,q0p,Q0d,Q0H,q0o,Q0o,true_and,q2j,q0I,q0n,Q0b,Q0a,q0j,Yd_some,q3e]
theorem z8K {ts:List Tb} (hs:Sch ts) {fs:List Fa} (hk:∀ f ∈ fs,Fk ts f) (hl:fs.length ≤ 200) (hg:Srt fs) (P:Cell→Prop) (hP:∀ k,k.frz = stD ts fs→P k):Yd (q1x [.opq (some "Store"),.str (txt ts fs)]) P:=by
 unfold q1x q7H
 simp only [q0O,Q0d,Q0o,Q0z,Q0e,Q0w,Q0p,Q0x,Q0u,q0M,z6R,q0D,q0E,q0u,z8f,q5e,q0p,q0o,q0n,q0r,q0C,Q0i,Q0b,Q0a,q0d,Yd_some,z8J hs hk hl hg,q0l,q0y,q5n,q2a,q0Z,q0g,q0f,q0q,Q0c,↓reduceIte,Q0n,q2K,Q0U,z4O,decide_true,q0j,true_and]
 exact q9n hs hk (by omega) hl hg (fun _=>Iff.rfl) _ hP
end K04

set_option maxHeartbeats 4000000
namespace K04
variable [DL.Tbls]
open PySem PySem.Spec DL
open L2 (Key)
def SC:List Int:=[1,1,1,10,1000003,10 ^ 12 + 39,10 ^ 24 + 7]
def BG:List Int:=[2,10,1000000]
theorem z8L {N:Nat} {o:Cell} (ho:Deck N o) (hN:N + 5 < 1000000000) (P:Cell × Cell→Prop) (hP:∀ o' (i:Int),Deck (N + 5) o'→i.natAbs < 10 ^ 40→P (.atm (.im (.int i)),o')):Yd (q3f o []) P:=by
 unfold q3f q6P
 simp only [q6G,Q0o,Q0w,Q0p,Q0u,q0M,q1C,q0D,q0E,q0x,q6e,q2r,q0n,q1F,q1j,q3G,q0r,q3y,Q0i,q0p,q0o,q2j,q0I,q3x,q0l,q1v,Q0d,Q0H,true_and,Q0a,z4j,Int.reduceLE,q0N,Yd_some,q3d,Q0j,q0g,q0f,q0q,Q0c,↓reduceIte,Q0n,Q0b,q0j,q4f]
 refine ⟨by decide,by decide,?_⟩
 refine z4Q ho (by omega) Dat.int (xs:=SC) (by decide) (by decide) _ fun o1 sc d1 hsc=>?_
 refine z4Q d1 (by omega) Dat.int (xs:=BG) (by decide) (by decide) _ fun o2 bg d2 hbg=>?_
 have b1:0 < sc∧sc ≤ 10 ^ 24 + 7:=by
  unfold SC at hsc
  simp only [Q0s,Q1t,or_false] at hsc
  rcases hsc with rfl | rfl | rfl | rfl | rfl | rfl | rfl <;> decide
 have b2:0 < bg∧bg ≤ 1000000:=by
  unfold BG at hbg
  simp only [Q0s,Q1t,or_false] at hbg
  rcases hbg with rfl | rfl | rfl <;> decide
 simp only [q0l,q0y,q3m,Yd_some,x3E,z0F]
 refine q6i d2 (by omega) (by omega) (by omega) _ fun o3 i d3 i0 i1=>?_
 simp only [q0l,q0y,q6J,q0N,Yd_some]
 refine ⟨.inl (by omega),?_⟩
 refine q6i d3 (by omega) (by omega) (by omega) _ fun o4 j d4 j0 j1=>?_
 obtain ⟨g,eg,g0,g1⟩:∃ g:Int,(if 1 < sc then (1:Int) else 0) = g∧0 ≤ g∧g ≤ 1:=⟨_,rfl,by split <;> decide,by split <;> decide⟩
 rw [eg]
 have q0:0 ≤ i * sc:=Int.mul_nonneg i0 (by omega)
 have q1:i * sc ≤ 1000000 * (10 ^ 24 + 7):=Int.le_trans (Q2Z b1.2 i0) (Int.mul_le_mul_of_nonneg_right (by omega) (by decide))
 have q2:0 ≤ j * g:=Int.mul_nonneg j0 g0
 have q3:j * g ≤ 10:=by
  have:=Q2Z g1 j0
  omega
 have fin:∀ v:Int,(v = i * sc + j * g∨v = -(i * sc + j * g))→v.natAbs < 10 ^ 40:=fun v hv=>by
  have h:(v.natAbs:Int) < 10 ^ 40:=by
   have e:(10:Int) ^ 40 = 10000000000000000000000000000000000000000:=by decide
   have e2:(10:Int) ^ 24 = 1000000000000000000000000:=by decide
   rw [e2] at q1
   rw [e]
   generalize i * sc = a at *
   generalize j * g = b at *
   omega
  exact_mod_cast h
 simp only [q0l,q0y,q6J,q0N,Yd_some,q3d,q5T]
 refine ⟨.inl (by omega),?_⟩
 refine q6i d4 (by omega) (by omega) (by omega) _ fun o5 c d5 c0 c1=>?_
 simp only [q0l,q0y,q8I,Yd_some,q0s,decide_eq_true_eq,decide_eq_false_iff_not]
 exact ⟨fun _=>hP _ _ d5 (fin _ (.inr (by omega))),fun _=>hP _ _ d5 (fin _ (.inl rfl))⟩
end K04

set_option maxHeartbeats 4000000
namespace K04
variable [DL.Tbls]
open PySem PySem.Spec DL
open L2 (Key)
theorem z8M {N:Nat} {o:Cell} (h:Deck N o) {b:Bool} {s:Option DL.Slot}:z4I s (some ⟨b,o⟩):=by
 obtain ⟨c,m,n,rfl,_,_,_⟩:=h
 refine .inl ?_
 show (Dat.tuys (c.map .int) && _) = true
 rw [q8n]; rfl
theorem z4J {w:Option DL.Slot} (h:Tmp w):z4I w w:=by
 cases h with
 | non=>trivial
 | im=>exact q5i
theorem z2F:∀ gs:List Fa,Dat.tuys (gs.map fun g=>q8k g.2) = true
 | []=>rfl
 | g :: gs=>by
  show (Dat.tuys (g.2.map .int) && Dat.tuys (gs.map fun g=>q8k g.2)) = true
  rw [q8n,z2F gs]; rfl
theorem x4M {N:Nat} {o:Cell} (ho:Deck N o) (hN:N + 20000 < 1000000000) {ts:List Tb} (hs:Sch ts) {M:Nat} (hM:M ≤ 200) (P:Cell × Cell→Prop) (hP:∀ o' fs,Deck (N + 20000) o'→(∀ f ∈ fs,Fk ts f)→Srt fs→fs.length ≤ M→P (.atm (.im (.lst (fs.map faD))),o')):Yd (q4o o [.tup (ts.map tbD),.int (M:Nat)]) P:=by
 unfold q4o q9h
 have l6:=hs.le
 simp only [q6G,Q0d,Q0o,Q0z,Q0e,Q0w,Q0p,Q0x,Q0u,q0M,q1C,q0D,q3z,q8a,q0p,q0o,q0n,q3x,Q0H,q0g,q0f,q0q,Q0c,↓reduceIte,Q0n,Yd_some,Q0b,Q0a,q0d,q8h,Q1w,q0N,true_and]
 rw [show rgD ((M:Nat):Int) = (Q1e M).map (fun k:Nat=>Dat.int (k:Int)) from by unfold rgD; rw [Q2e]]
 refine ⟨by omega,?_⟩
 refine q2R (fun k:Nat=>Dat.int (k:Int)) (Q1e M) (fun pre ρ=>∃ (o':Cell) (fs:List Fa) (w4 w5 w6 w7 w8 w10:Option DL.Slot),Deck (N + 50 * pre.length) o'∧fs.length = pre.length∧(∀ f ∈ fs,Fk ts f)∧Tmp w4∧Tmp w5∧Tmp w6∧Tmp w7∧Tmp w8∧Tmp w10∧ρ = [some ⟨true,o'⟩,imS (.tup (ts.map tbD)),imS (.int (M:Nat)),some ⟨false,.atm (.ol (fs.map faD))⟩,w4,w5,w6,w7,w8,none,w10,none]) ⟨o,[],none,none,none,none,none,none,ho,rfl,(fun _ h=>nomatch h),.non,.non,.non,.non,.non,.non,rfl⟩ ?_ ?_
 ·rintro pre k post ρ hx ⟨o',fs,w4,w5,w6,w7,w8,w10,dk,hl,hk,h4,h5,h6,h7,h8,h10,rfl⟩
  have hxl:=congrArg Q1Q hx
  rw [Q1D,Q0A,Q0d] at hxl
  simp only [q0Z,q0g,q0f,h4.pin,Q0c,↓reduceIte,Q0n,q0M,z6R,q0D,q1C,q2H,q4A,q1P,q0x,q5f,q0p,q0o,q3K,Q0d,Q0H,Q0o,true_and,q2j,q0I,q0n,q1j,q5F,Ev_ret,q2s,q0r,q3y,Q0i,q1c,q6C,q1F,q3G,false_implies,forall_const,q3x,q0l,q1v,z3m,q1N,Q1k,Q1n,Q1b,q0B,q2h,q1G,q8a,Yd_some,Q0a,Q0b,q0d,Q0j]
  refine x4l dk (by omega) tbD (xs:=ts) hs.ne (by omega) _ fun o1 t d1 ht=>?_
  have ok:=hs.ok t ht
  have tk:=ok.k
  have to:=ok.o
  simp only [tbD,q0l,q0y,q5n,q2a,q0Z,q0g,q0f,h5.pin,Q0c,↓reduceIte,Q0n,q2K,Q0U,h6.pin,h7.pin,Yd_some,Q0b,Q0a,q0j,q0W,q0V,q1u,Q0m,Q0j,Q0X,Q0Y,true_and,q3d,q8h,Q1w,q0N]
  refine ⟨by omega,?_⟩
  rw [show rgD ((t.2.1:Int) + (t.2.2:Int)) = (Q1e (t.2.1 + t.2.2)).map (fun k:Nat=>Dat.int (k:Int)) from by unfold rgD; rw [show ((t.2.1:Int) + (t.2.2:Int)).toNat = t.2.1 + t.2.2 by omega]]
  refine z4g (fun k:Nat=>Dat.int (k:Int)) (Q1e (t.2.1 + t.2.2)) (fun pre2 ys ρ=>∃ (o2:Cell) (r:List Int),Deck (N + 50 * pre.length + 1 + 5 * pre2.length) o2∧r.length = pre2.length∧(∀ i ∈ r,i.natAbs < 10 ^ 40)∧ys = r.map .int∧ρ = [some ⟨true,o2⟩,imS (.tup (ts.map tbD)),imS (.int (M:Nat)),some ⟨false,.atm (.ol (fs.map faD))⟩,some ⟨false,.atm (.im (.int k))⟩,some ⟨false,.atm (.im (.str t.1))⟩,some ⟨false,.atm (.im (.int t.2.1))⟩,some ⟨false,.atm (.im (.int t.2.2))⟩,w8,none,w10,none]) ⟨o1,[],d1,rfl,(fun _ h=>nomatch h),rfl,rfl⟩ ?_ ?_
  ·rintro pre2 x post2 ys ρ hx2 ⟨o2,r,dk2,hrl,hr,rfl,rfl⟩
   have hxl2:=congrArg Q1Q hx2
   rw [Q1D,Q0A,Q0d] at hxl2
   simp only [q0Z,q0g,q0f,q0q,Q0c,↓reduceIte,Q0n,q0B,q0r,z5s,z3a,forall_const,Q0v,false_implies,and_true,Yd_some,Q0a,Q0j,Q0m]
   refine z8L dk2 (by omega) _ fun o3 i d3 hi=>?_
   simp only [q0l,q0y]
   refine ⟨o3,r ++ [i],d3.more (by simp; omega),by simp [hrl],fun j hj=>?_,by rw [Q0D]; rfl,rfl⟩
   rcases Q0k.mp hj with hj | hj
   ·exact hr j hj
   ·rw [Q0t.mp hj]; exact hi
  rintro ys ρ ⟨o2,r,d2,hrl,hr,rfl,rfl⟩
  rw [Q1D] at hrl d2
  simp only [Q0m,Q0j,q0g,q0f,h8.pin,Q0c,↓reduceIte,Q0n,Yd_some,Q0b,Q0a,q0j,q0W,q0V,q1u,Q0X,Q0Y,true_and,q2c]
  refine ⟨by rw [Q0f]; omega,_,_,rfl,?_⟩
  refine q3R faD fs (fun g=>decide (g.1 = t.1)) (fun g=>q8k g.2) (fun g hg=>?_) ?_
  ·simp only [faD,q0Z,q0g,q0f,q0q,Q0c,↓reduceIte,Q0n,q0B,q1j,q3G,q0n,q1F,Yd_some,Q0b,Q0a,q0j,Q0m,Q0j,and_true,q2C,q1K,implies_true,and_self,q4B,q0s]
  obtain ⟨sm,esm⟩:∃ sm,sm = fs.filter fun g=>decide (g.1 = t.1):=⟨_,rfl⟩
  have sml:sm.length ≤ fs.length:=by rw [esm]; exact Q1i _ _
  rw [← esm]
  simp only [Q0f,Q0m,Q0j,q8Y,z8M d2,z0W,q8X,q7c,q5i,z7S,q8Z,and_self,and_true,true_and,Q0b,Q0a,q0g,q0f,x6r,Yd_some,q3B,q3C,q6f,q2v,q0N,q0j,q2b,q5G,Q0c,↓reduceIte,q5I,q3e]
  have oT:=z4J h10
  refine ⟨by omega,z2F sm,oT,?_⟩
  have fin:∀ (oo:Cell) (q:List Int) (u8 u10:Option DL.Slot),Deck (N + 50 * pre.length + 50) oo→q.length = t.2.1 + t.2.2→(∀ i ∈ q,i.natAbs < 10 ^ 40)→Tmp u8→Tmp u10→fs.length < 100000∧∃ (o':Cell) (fs_1:List Fa) (w4 w5 w6 w7 w8 w10:Option DL.Slot),Deck (N + 50 * (pre ++ [k]).length) o'∧fs_1.length = (pre ++ [k]).length∧(∀ f ∈ fs_1,Fk ts f)∧Tmp w4∧Tmp w5∧Tmp w6∧Tmp w7∧Tmp w8∧Tmp w10∧[some ⟨true,oo⟩,imS (.tup (ts.map tbD)),imS (.int (M:Nat)),some ⟨false,.atm (.ol (fs.map faD ++ [Dat.tup [.str t.1,.tup (q.map .int)]]))⟩,some ⟨false,.atm (.im (.int k))⟩,some ⟨false,.atm (.im (.str t.1))⟩,some ⟨false,.atm (.im (.int t.2.1))⟩,some ⟨false,.atm (.im (.int t.2.2))⟩,u8,none,u10,none] = [some ⟨true,o'⟩,imS (.tup (ts.map tbD)),imS (.int (M:Nat)),some ⟨false,.atm (.ol (fs_1.map faD))⟩,w4,w5,w6,w7,w8,none,w10,none]:=fun oo q u8 u10 dq hq1 hq2 t8 t10=>by
   refine ⟨by omega,oo,fs ++ [(t.1,q)],_,_,_,_,u8,u10,dq.more (by rw [Q0A,Q1r]; omega),by simp [hl],fun f hf=>?_,.im,.im,.im,.im,t8,t10,by rw [Q0D]; rfl⟩
   rcases Q0k.mp hf with hf | hf
   ·exact hk f hf
   ·rw [Q0t.mp hf]
    exact x9x hs ht hq1 hq2
  simp only [h10.pin,Q0c,↓reduceIte,Yd_some,Q0a,q0j,z0N,q0s,Q0K,Q0Q]
  have e1:(sm.map fun g=>q8k g.2).isEmpty = sm.isEmpty:=by cases sm <;> rfl
  rw [e1]
  refine ⟨fun hne=>?_,fun _=>fin o2 r _ _ (d2.more (by omega)) hrl hr .im .im⟩
  refine q6i d2 (by omega) (by omega) (by omega) _ fun o3 c d3 c0 c1=>?_
  simp only [q0l,q0y,q8I,Yd_some,q0s,decide_eq_true_eq,decide_eq_false_iff_not]
  refine ⟨fun _=>?_,fun _=>fin o3 r _ _ (d3.more (by omega)) hrl hr .im .im⟩
  refine z4Q d3 (by omega) (fun g:Fa=>q8k g.2) (xs:=sm) (fun z=>by rw [z] at hne; cases hne) (by omega) _ fun o4 g d4 hg=>?_
  have hgf:g ∈ fs∧g.1 = t.1:=by
   rw [esm] at hg
   have:=Q1s.mp hg
   exact ⟨this.1,of_decide_eq_true this.2⟩
  have fkg:=hk g hgf.1
  have g40:=fkg.vb
  obtain ⟨og,hcg,lg⟩:=fkg.col
  have kg:kOf ts g.1 = t.2.1:=by rw [hgf.2,z3K hs ht]
  have cc1:q6B (g.2.map Dat.int) none (some ((t.2.1:Nat):Int)) = (g.2.take t.2.1).map .int:=by rw [q6n,Q1X]
  have cc2:q6B (r.map Dat.int) (some ((t.2.1:Nat):Int)) none = (r.drop t.2.1).map .int:=by
   rw [q3l (by omega) (by rw [Q0f]; omega),Q2w,Q2e]
  simp only [q8k,q0l,q0y,z0D,cc1,cc2,Yd_some,z9P,q6I,q0N,q3e]
  rw [← Q0D]
  have lt1:(g.2.take t.2.1).length = t.2.1:=by rw [Q1f]; omega
  have ld1:(r.drop t.2.1).length = t.2.2:=by rw [Q1O]; omega
  refine ⟨by rw [Q0f,Q0f]; omega,fin o4 (g.2.take t.2.1 ++ r.drop t.2.1) _ _ (d4.more (by omega)) (by rw [Q0A]; omega) (fun i hi=>?_) .im .im⟩
  rcases Q0k.mp hi with hi | hi
  ·exact g40 i (Q1x hi)
  ·exact hr i (Q2y hi)
 ·rintro ρ ⟨o',fs,w4,w5,w6,w7,w8,w10,dk,hl,hk,h4,h5,h6,h7,h8,h10,rfl⟩
  rw [Q1D] at hl dk
  have so:z5E (.lst (fs.map faD)) = some (fs.map faD):=if_pos (z4W (by omega))
  obtain ⟨gs,e1,e2,e3⟩:=x2n fs
  simp only [q0D,q7y,q3A,q5H,q0l,q1v,q0E,q0x,z1Y,q0n,Q0b,Q0a,q0j,q4f,Yd_some,so,e1]
  have hgl:gs.length ≤ fs.length:=q5L e2.nd fun x hx=>(e3 x).mp hx
  exact hP o' gs (dk.more (by omega)) (fun f hf=>hk f ((e3 f).mp hf)) e2 (by omega)
end K04

set_option maxHeartbeats 4000000
namespace K04
variable [DL.Tbls]
open PySem PySem.Spec DL
open L2 (Key)
open TL (tl numL)
def Sg (x:Str):Prop:=∀ c ∈ tl x,c < 200
theorem x1s (i:Int):Sg (nt i):=fun c hc=>by
 rcases z5c i c hc with h | h <;> omega
theorem x8f {t:Tb} (h:TbOk t):Sg t.1:=fun c hc=>by
 have h1:=h.nm
 rw [q5V,Q1l,Q1h] at h1
 have h2:∀ k ∈ LET,k < 200:=by unfold LET; decide +kernel
 exact h2 c (by simpa using h1.2 c hc)
theorem x9J:Sg "table"∧Sg "fact"∧Sg "|":=by
 refine ⟨?_,?_,?_⟩ <;> (unfold Sg; decide +kernel)
theorem z3P {y:Str} {ws:List Str} (hy:Sg y) (h:∀ x ∈ ws,Sg x):Sg (Txt.join y ws):=fun c hc=>by
 rw [x1m] at hc
 rcases q9p hc with h1 | ⟨p,hp,h1⟩
 ·exact hy c h1
 ·obtain ⟨x,hx,rfl⟩:=Q0y.mp hp
  exact h x hx c h1
theorem x4N:Sg " "∧Sg "\n":=by
 refine ⟨?_,?_⟩ <;> (unfold Sg; decide +kernel)
theorem x8g {ts:List Tb} (hs:Sch ts) {fs:List Fa} (hk:∀ f ∈ fs,Fk ts f):Sg (txt ts fs):=by
 refine z3P x4N.2 fun x hx=>?_
 unfold lns at hx
 rcases Q0k.mp hx with h | h
 ·obtain ⟨t,ht,rfl⟩:=Q0y.mp h
  refine z3P x4N.1 fun x hx=>?_
  unfold tlw at hx
  simp only [Q0s,Q1t,or_false] at hx
  rcases hx with rfl | rfl | rfl | rfl
  ·exact x9J.1
  ·exact x8f (hs.ok t ht)
  ·exact x1s _
  ·exact x1s _
 ·obtain ⟨f,hf,rfl⟩:=Q0y.mp h
  obtain ⟨t,ht,e,_⟩:=x1j (hk f hf)
  refine z3P x4N.1 fun x hx=>?_
  unfold wds at hx
  simp only [Q0s,Q0k,Q0y] at hx
  rcases hx with rfl | rfl | ⟨i,_,rfl⟩ | rfl | ⟨i,_,rfl⟩
  ·exact x9J.2.1
  ·rw [← e]; exact x8f (hs.ok t ht)
  ·exact x1s _
  ·exact x9J.2.2
  ·exact x1s _
theorem x8h {ts:List Tb} (hs:Sch ts) {fs:List Fa} (hk:∀ f ∈ fs,Fk ts f) (hl:fs.length ≤ 200):∃ t,rpA (.str (txt ts fs)) = some (.str t):=by
 have h1:=(z5e hs hk hl).1
 have h2:=StrLaws.reprText_len (txt ts fs) fun c hc=>Q1y (x8g hs hk c hc) (by decide +kernel)
 refine ⟨(PyData.str (txt ts fs)).shown,?_⟩
 unfold rpA q3J
 dsimp only
 rw [if_pos ⟨rfl,by show 0 ≤ 60; omega,by show (reprText (txt ts fs)).length ≤ 1000000; omega⟩]
theorem pil {ps:List PyData} {K:Nat} (h:∀ p ∈ ps,p.shown.length + 2 ≤ K):piled (PyData.shownAll ps) ≤ ps.length * K:=by
 induction ps with
 | nil=>simp [PyData.shownAll]; decide
 | cons p ps ih=>
  show piled (p.shown :: PyData.shownAll ps) ≤ _
  rw [piled_cons,Q0d,Nat.succ_mul]
  have h1:=h p Q0g
  have h2:=ih fun q hq=>h q (Q0h _ hq)
  omega
theorem z8N:∀ r:List Int,q2p (r.map .int) = some (r.map .int)
 | []=>rfl
 | i :: r=>by
  unfold Q2G q2p
  rw [z8N r]; rfl
theorem x8i (f:Fa):q3J (faD f) = some (pyF f):=by
 have e1:q3J (q8k f.2) = some (.tuple (f.2.map .int)):=by
  unfold q8k q3J
  rw [z8N]; rfl
 have e2:q2p [.str f.1,q8k f.2] = some [.str f.1,.tuple (f.2.map .int)]:=by
  have e3:q2p [q8k f.2] = some [.tuple (f.2.map .int)]:=by
   unfold q2p
   rw [e1]; rfl
  unfold q2p
  rw [e3]; rfl
 unfold faD q3J
 rw [e2]; rfl
def pyT (t:Tb):PyData:=.tuple [.str t.1,.int (t.2.1:Nat),.int (t.2.2:Nat)]
theorem x8j (t:Tb):q3J (tbD t) = some (pyT t):=rfl
theorem q7r {α:Type} {f:α→Dat} {g:α→PyData} (h:∀ a,q3J (f a) = some (g a)):∀ l:List α,q2p (l.map f) = some (l.map g)
 | []=>rfl
 | a :: l=>by
  have:=q7r h l
  unfold Q2G q2p
  rw [h,this]
theorem z0j {ps:List PyData} {n K:Nat} (hn:ps.length ≤ n) (h:∀ p ∈ ps,p.shown.length + 2 ≤ K):(PyData.tuple ps).shown.length + 2 ≤ n * K + 6:=by
 have h4:=pil h
 have h5:=z1M (PyData.shownAll ps)
 have h6:ps.length * K ≤ n * K:=Nat.mul_le_mul_right _ hn
 show (tupleText (PyData.shownAll ps)).length + 2 ≤ _
 omega
theorem z8O {i:Int} (h:i.natAbs < 10 ^ 40):(PyData.int i).shown.length + 2 ≤ 43:=by
 have:=z2A h
 show (nt i).length + 2 ≤ 43
 omega
theorem x1t {ts:List Tb} (hs:Sch ts) {f:Fa} (h:Fk ts f):(pyF f).shown.length + 2 ≤ 1000:=by
 obtain ⟨h1,h2,_⟩:=z5S hs h
 have s1:(PyData.str f.1).shown.length ≤ 102:=q8L (by omega) h.okF
 have s2:=z0j (ps:=f.2.map .int) (n:=8) (K:=43) (by rw [Q0f]; exact h1) fun p hp=>by
  obtain ⟨i,hi,rfl⟩:=Q0y.mp hp
  exact z8O (h.vb i hi)
 have:=z0j (ps:=[.str f.1,.tuple (f.2.map .int)]) (n:=2) (K:=400) (Q0W _) fun p hp=>by
  simp only [Q0s,Q1t,or_false] at hp
  rcases hp with rfl | rfl <;> omega
 exact Q0S this (by omega)
theorem x1u {t:Tb} (h:TbOk t):(pyT t).shown.length + 2 ≤ 1000:=by
 have h0:=h.len
 have s1:(PyData.str t.1).shown.length ≤ 102:=q8L (by omega) h.ok.2
 have b:∀ k:Nat,k ≤ 4→((k:Int)).natAbs < 10 ^ 40:=fun k hk=>by
  rw [Q2a]
  exact Q1M hk (by decide +kernel)
 have s2:=z8O (b _ h.k)
 have s3:=z8O (b _ h.o)
 have:=z0j (ps:=[.str t.1,.int (t.2.1:Nat),.int (t.2.2:Nat)]) (n:=3) (K:=200) (Q0W _) fun p hp=>by
  simp only [Q0s,Q1t,or_false] at hp
  rcases hp with rfl | rfl | rfl <;> omega
 exact Q0S this (by omega)
theorem x4O {ts:List Tb} (hs:Sch ts) {fs:List Fa} (hk:∀ f ∈ fs,Fk ts f) (hl:fs.length ≤ 200):∃ t,rpA (.tup [.tup (ts.map tbD),.tup (fs.map faD)]) = some (.str t):=by
 have l6:=hs.le
 have ok1:okD (.tup (ts.map tbD)):=okDs_mem.mpr fun d hd=>by
  obtain ⟨t,ht,rfl⟩:=Q0y.mp hd
  have b:∀ k:Nat,k ≤ 4→((k:Int)).natAbs < 10 ^ 50:=fun k hk=>by
   rw [Q2a]
   exact Q1M hk (by decide +kernel)
  exact ⟨(hs.ok t ht).ok,b _ (hs.ok t ht).k,b _ (hs.ok t ht).o,trivial⟩
 have ok2:okD (.tup (fs.map faD)):=okDs_mem.mpr fun d hd=>by
  obtain ⟨f,hf,rfl⟩:=Q0y.mp hd
  exact (hk f hf).ok
 obtain ⟨p,e,h2,h3,_⟩:=x6w (.tup [.tup (ts.map tbD),.tup (fs.map faD)]) ⟨ok1,ok2,trivial⟩
 have e1:q3J (.tup (ts.map tbD)) = some (.tuple (ts.map pyT)):=by
  unfold q3J
  rw [q7r x8j]; rfl
 have e2:q3J (.tup (fs.map faD)) = some (.tuple (fs.map pyF)):=by
  unfold q3J
  rw [q7r x8i]; rfl
 have e3:q3J (.tup [.tup (ts.map tbD),.tup (fs.map faD)]) = some (.tuple [.tuple (ts.map pyT),.tuple (fs.map pyF)]):=by
  unfold q3J
  unfold q2p
  rw [e1]
  unfold q2p
  rw [e2]
  rfl
 have s1:=z0j (ps:=ts.map pyT) (n:=6) (K:=1000) (by rw [Q0f]; exact l6) fun p hp=>by
  obtain ⟨t,ht,rfl⟩:=Q0y.mp hp
  exact x1u (hs.ok t ht)
 have s2:=z0j (ps:=fs.map pyF) (n:=200) (K:=1000) (by rw [Q0f]; exact hl) fun p hp=>by
  obtain ⟨f,hf,rfl⟩:=Q0y.mp hp
  exact x1t hs (hk f hf)
 have s3:=z0j (ps:=[.tuple (ts.map pyT),.tuple (fs.map pyF)]) (n:=2) (K:=300000) (Q0W _) fun p hp=>by
  simp only [Q0s,Q1t,or_false] at hp
  rcases hp with rfl | rfl <;> omega
 rw [e3] at e
 obtain rfl:=Q1o.inj e
 have dpl:dp (.tup [.tup (ts.map tbD),.tup (fs.map faD)]) ≤ 60:=by
  have d1:dps (ts.map tbD) ≤ 5:=dps_le.mpr fun d hd=>by
   obtain ⟨t,ht,rfl⟩:=Q0y.mp hd
   show 0 + 1 ≤ 5
   omega
  have d2:dps (fs.map faD) ≤ 5:=dps_le.mpr fun d hd=>by
   obtain ⟨f,hf,rfl⟩:=Q0y.mp hd
   show max 0 (max (dps (f.2.map .int) + 1) 0) + 1 ≤ 5
   have:dps (f.2.map Dat.int) ≤ 0:=dps_le.mpr fun d hd=>by
    obtain ⟨i,hi,rfl⟩:=Q0y.mp hd
    exact Q0W _
   omega
  show max (dps (ts.map tbD) + 1) (max (dps (fs.map faD) + 1) 0) + 1 ≤ 60
  omega
 refine ⟨(PyData.tuple [.tuple (ts.map pyT),.tuple (fs.map pyF)]).shown,?_⟩
 unfold rpA
 rw [e3]
 dsimp only
 rw [if_pos ⟨h2,by rw [h3]; exact dpl,by omega⟩]
end K04

set_option maxHeartbeats 4000000
namespace K04
variable [DL.Tbls]
open PySem PySem.Spec DL
open L2 (Key)
theorem z2G:∀ ts:List Tb,q2O (ts.map tbD) = some (ts.map pyT)
 | []=>rfl
 | t :: ts=>by
  show (match q4W (tbD t),q2O (ts.map tbD) with | some x,some xs=>some (x :: xs) | _,_=>none) = _
  rw [z2G ts]; rfl
theorem x8k (a b:Tb):PyData.eqv (pyT a) (pyT b) = decide (a = b):=by
 show ((a.1 == b.1) && (((a.2.1:Int) == (b.2.1:Int)) && (((a.2.2:Int) == (b.2.2:Int)) && true))) = _
 obtain ⟨n,k,o⟩:=a
 obtain ⟨n',k',o'⟩:=b
 rw [Q1L]
 simp
 omega
theorem z1m {α:Type} [DecidableEq α] (f:α→PyData) (h:∀ a b,PyData.eqv (f a) (f b) = decide (a = b)):∀ as bs:List α,PyData.eqvAll (as.map f) (bs.map f) = decide (as = bs)
 | [],[]=>by simp [PyData.eqvAll]
 | [],_ :: _=>by simp [PyData.eqvAll]
 | _ :: _,[]=>by simp [PyData.eqvAll]
 | a :: as,b :: bs=>by
  show (PyData.eqv (f a) (f b) && PyData.eqvAll (as.map f) (bs.map f)) = _
  rw [z1m f h as bs,h,Q1L]
  simp
theorem x4P {ts:List Tb} (h:Sch ts):PyData.canLayAll0 (ts.map pyT) = true∧PyData.depthAll (ts.map pyT) ≤ 1:=by
 have key:∀ l:List Tb,(∀ t ∈ l,TbOk t)→PyData.canLayAll0 (l.map pyT) = true∧PyData.depthAll (l.map pyT) ≤ 1:=by
  intro l
  induction l with
  | nil=>exact fun _=>⟨rfl,Q1H _⟩
  | cons t l ih=>
   intro hl
   obtain ⟨a,b⟩:=ih fun x hx=>hl x (Q0h _ hx)
   have ho:=(hl t Q0g).ok.2
   refine ⟨?_,?_⟩
   ·show ((PyData.strOk t.1 && (true && (true && true))) && PyData.canLayAll0 (l.map pyT)) = true
    rw [ho,a]; rfl
   ·show max (max 0 (max 0 (max 0 0)) + 1) (PyData.depthAll (l.map pyT)) ≤ 1
    omega
 exact key ts h.ok
theorem x4Q {fs:List Fa} (h:∀ f ∈ fs,okF f):PyData.canLayAll0 (fs.map pyF) = true∧PyData.depthAll (fs.map pyF) ≤ 2:=by
 induction fs with
 | nil=>exact ⟨rfl,Q1H _⟩
 | cons f fs ih=>
  obtain ⟨a,b⟩:=ih fun g hg=>h g (Q0h _ hg)
  refine ⟨?_,?_⟩
  ·show ((pyF f).canLay0 && PyData.canLayAll0 (fs.map pyF)) = true
   rw [z8s (h f Q0g),a]; rfl
  ·show max (pyF f).depth (PyData.depthAll (fs.map pyF)) ≤ 2
   rw [z4X]; omega
def prP (ts:List Tb) (fs:List Fa):PyData:=.tuple [.tuple (ts.map pyT),.tuple (fs.map pyF)]
def prD (ts:List Tb) (fs:List Fa):Dat:=.tup [.tup (ts.map tbD),.tup (fs.map faD)]
theorem z8P (ts:List Tb) (fs:List Fa):q4W (prD ts fs) = some (prP ts fs):=by
 show (match (q2O (ts.map tbD)).map PyData.tuple,(match (q2O (fs.map faD)).map PyData.tuple,some [] with | some x,some xs=>some (x :: xs) | _,_=>none) with | some x,some xs=>some (x :: xs) | _,_=>none).map PyData.tuple = _
 rw [z2G,q5S]; rfl
theorem x2A {ts:List Tb} {fs:List Fa} (h:St ts fs):SeqAt.shaped (prP ts fs) = true:=by
 obtain ⟨a,b⟩:=x4P h.s
 obtain ⟨c,d⟩:=x4Q fun f hf=>(h.k f hf).okF
 unfold SeqAt.shaped
 show ((PyData.canLayAll0 (ts.map pyT) && (PyData.canLayAll0 (fs.map pyF) && true)) && decide (max (PyData.depthAll (ts.map pyT) + 1) (max (PyData.depthAll (fs.map pyF) + 1) 0) + 1 ≤ 64)) = true
 rw [a,c,decide_eq_true (by omega)]; rfl
theorem x8l {ts us:List Tb} {fs gs:List Fa} (h:St ts fs) (h':St us gs):eqD (prD ts fs) (prD us gs) = some (.bl (decide (ts = us∧fs = gs))):=by
 have e0:eqB (prD ts fs) (prD us gs) = some (PyData.eqv (prP ts fs) (prP us gs)):=by
  unfold eqB x3f
  rw [show x4Z (prD ts fs) (prD us gs) = none from rfl,z8P,z8P]
  dsimp only
  exact if_pos ⟨x2A h,x2A h'⟩
 have e1:PyData.eqv (prP ts fs) (prP us gs) = decide (ts = us∧fs = gs):=by
  show (PyData.eqvAll (ts.map pyT) (us.map pyT) && (PyData.eqvAll (fs.map pyF) (gs.map pyF) && true)) = _
  rw [z1m pyT x8k,z1m pyF z8t,Q1L]
  simp
 unfold eqD
 rw [e0,e1]; rfl
theorem x2B {ts:List Tb} {fs:List Fa}:DL.isI "Store" (stD ts fs) = some (.bl true):=by
 unfold stD
 rw [DL.z3l]
 rfl
theorem x9K {ts us:List Tb} {fs gs:List Fa} (h:St ts fs) (h':St us gs):q1y [stD ts fs,stD us gs] = ans (decide (ts = us∧fs = gs)):=by
 apply Yd.eq
 unfold q1y z0c
 have e:=x8l h h'
 unfold prD at e
 simp only [q0O,Q0d,Q0o,Q0z,Q0e,Q0w,Q0p,Q0i,q0E,q0u,q0x,q3c,q1j,q3K,q0p,Q0H,q0o,true_and,q2r,q0n,Q0b,Q0a,q0d,Yd_some,x2o,z6a,e,implies_true,x2B,q0s,Q0v,false_implies,and_self]
theorem j0y {ts:List Tb} {fs:List Fa} {d:Dat} {b:Bool} (n:Bool) (h:(DL.isI "Store" d).isSome = true) (e:q1y [stD ts fs,d] = ans b):eqI "Store" q1y n (stD ts fs) d = some (.bl (b ^^ n)):=by
 show (if ("Store":Str) = "Store"∧(DL.isI "Store" d).isSome = true then (q9x (q1y [stD ts fs,d])).map (fun b=>Dat.bl (b ^^ n)) else none) = _
 rw [if_pos ⟨rfl,h⟩,e]; rfl
theorem x8m {ts us:List Tb} {fs gs:List Fa} (h:St ts fs) (h':St us gs):eqI "Store" q1y false (stD ts fs) (stD us gs) = some (.bl (decide (ts = us∧fs = gs))):=by
 rw [j0y false (by rw [x2B]; rfl) (x9K h h'),Bool.xor_false]
def x1v {α:Type} (xs:List α) (lo hi:Option Int):List α:=(xs.drop (HT.sIx xs.length 0 lo)).take (HT.sIx xs.length xs.length hi - HT.sIx xs.length 0 lo)
theorem z5j {α:Type} (f:α→Dat) (xs:List α) (lo hi:Option Int):q6B (xs.map f) lo hi = (x1v xs lo hi).map f:=by
 unfold q6B x1v
 rw [Q0f,Q1X,Q2w]
theorem x1w {α:Type} {xs:List α} {lo hi:Option Int} {x:α} (h:x ∈ x1v xs lo hi):x ∈ xs:=Q2y (Q1x h)
theorem z8Q {α:Type} {xs:List α} {lo hi:Option Int}:(x1v xs lo hi).length ≤ xs.length:=by
 unfold x1v
 rw [Q1f,Q1O]; omega
theorem x4R {f g:Fa} (h:faD f = faD g):f = g:=by
 unfold faD q8k at h
 injection h with h
 injection h with h1 h2
 injection h1 with h1
 injection h2 with h2
 injection h2 with h2
 have:f.2 = g.2:=List.map_inj_right (fun a b e=>Dat.int.inj e) |>.mp h2
 exact Q4h h1 this
theorem x4S {ts:List Tb} (hs:Sch ts) {fs gs:List Fa} (hk:∀ f ∈ fs,Fk ts f) (hl:fs.length ≤ 200) (hg:Srt fs) (hk':∀ f ∈ gs,Fk ts f) (hl':gs.length ≤ 200) (hg':Srt gs) (h:txt ts fs = txt ts gs):fs = gs:=by
 have h1:=z8J hs hk hl hg
 have h2:=z8J hs hk' hl' hg'
 rw [h,h2] at h1
 injection h1 with h1
 injection h1 with h1
 injection h1 with h1
 injection h1 with h1
 injection h1 with h1 h3
 injection h3 with h3 _
 injection h3 with h3
 exact (List.map_inj_right (fun a b e=>x4R e)).mp h3 |>.symm
end K04

set_option maxHeartbeats 4000000
namespace K04
variable [DL.Tbls]
open PySem PySem.Spec DL
open L2 (Key)
theorem x4T {N:Nat} {o:Cell} (ho:Deck N o) {ts:List Tb} (hs:Sch ts) {fs:List Fa} (hk:∀ f ∈ fs,Fk ts f) (hg:Srt fs) (hl:fs.length ≤ 200) (P:Cell × Cell→Prop) (hP:∀ o',Deck N o'→P (.atm (.im (.bl true)),o')):Yd (q4p o [.tup (ts.map tbD),.lst (fs.map faD)]) P:=by
 unfold q4p q9i
 obtain ⟨x1,r1⟩:=x8h hs hk hl
 obtain ⟨x2,r2⟩:=x4O hs hk hl
 have st:St ts fs:=⟨hs,hg,hk,hl⟩
 have e1:=z5h hs hk hl
 have e2:=z5g hs hk hl
 have e3:eqI "Store" q1y false (stD ts fs) (stD ts fs) = some (.bl true):=by rw [x8m st st,decide_eq_true ⟨rfl,rfl⟩]
 simp only [q6G,Q0d,Q0o,Q0z,Q0e,Q0w,Q0p,Q0x,Q0u,q0M,z6R,q0D,q2H,q0E,q2G,q0x,q3G,q1c,q3z,q1G,q3K,q1m,Yd_some,q0p,Q0H,q8b,q0Z,q8G,q1P,q1F,q1j,q0n,q0r,z4d,q1J,forall_const,Q0v,false_implies,and_true,q2j,q0o,q0I,true_and,q2r,q1M,Q0K,Q0Q,q6F,q5F,Ev_ret,q2s,q5T,Q1w,q2b,z2l,q5n,q2a,x3r,q2K,q0C,Q0i,q5e,Q0b,Q0a,q0d,q0g,q0f,q0q,Q0c,↓reduceIte,Q0n,q0j,q4f,q5G,q5I,q6I,q0N,q2c,q3e,z9Q,← List.map_reverse]
 refine q9n hs (fun f hf=>hk f (List.mem_reverse.mp hf)) (by rw [Q3g]; omega) hl hg (fun f=>List.mem_reverse.symm) _ fun k0 k0e=>?_
 simp only [e1,k0e,z2x,e2,Q1w,Yd_some,q0l,q0y,r1,true_and,q5h,decide_true,Q1v,q0s,Q0c,false_implies,forall_const]
 refine z8K hs hk hl hg _ fun k1 k1e=>?_
 refine z8K hs hk hl hg _ fun k2 k2e=>?_
 simp only [k1e,e3,z6a,z2x,x4C,r2,e2,k2e,Q1w,Yd_some,q0l,q0y,q5h,decide_true,Q1v,q0s,Q0c,false_implies,forall_const,true_and,Q0v]
 rw [z5j,z5j,← Q0D]
 obtain ⟨q,eq⟩:∃ q,q = x1v fs none (some 3) ++ x1v fs (some (-1)) none:=⟨_,rfl⟩
 have hq:∀ f ∈ q,f ∈ fs:=fun f hf=>by
  rw [eq] at hf
  rcases Q0k.mp hf with h | h <;> exact x1w h
 have q1:(x1v fs none (some 3)).length ≤ 200:=Q0S z8Q hl
 have q2:(x1v fs (some (-1)) none).length ≤ 200:=Q0S z8Q hl
 refine ⟨by rw [Q0f,Q0f]; omega,?_⟩
 rw [← eq]
 refine q2R faD q (fun pre ρ=>∃ w6 w7 w8 w10 w11:Option DL.Slot,q6a w6 = false∧q6a w7 = false∧q6a w8 = false∧q6a w10 = false∧q6a w11 = false∧ρ = [some ⟨true,o⟩,imS (.tup (ts.map tbD)),imS (.lst (fs.map faD)),some ⟨false,.atm (.im (stD ts fs))⟩,some ⟨false,.atm (.im (.str (txt ts fs)))⟩,some ⟨false,.atm (.im (stD ts fs))⟩,w6,w7,w8,none,w10,w11]) ⟨none,none,none,none,none,rfl,rfl,rfl,rfl,rfl,rfl⟩ ?_ ?_
 ·rintro pre f post ρ hx ⟨w6,w7,w8,w10,w11,h6,h7,h8,h10,h11,rfl⟩
  have hf:f ∈ fs:=hq f (by rw [hx]; simp)
  have kf:=hk f hf
  have okf:=kf.okF
  simp only [q0Z,q0g,q0f,h6,Q0c,↓reduceIte,Q0n,q0M,q1C,q0D,q2H,q0E,q2G,q8G,q0x,q3G,q1c,q1P,q1F,q1j,q0r,q0C,Q0i,q0p,q0o,q0n,z4d,q6E,q1N,Q1k,Q1n,Q1b,q0B,q0l,q1v,q2h,q1G,q1J,forall_const,Q0v,false_implies,and_true,Yd_some,Q0b,Q0a,q0j,h7,q0d,q0W,q0V,q1u,Q0m,Q0j,Q0X,Q0Y,true_and,q2c,z8x,q7q kf,q0y]
  refine q3R faD fs (fun x=>decide (x = f) || !decide (blk (kOf ts) x = blk (kOf ts) f)) faD (fun x hx=>?_) ?_
  ·have kx:=hk x hx
   simp only [q0Z,q0g,q0f,q0q,Q0c,↓reduceIte,Q0n,q0B,q0n,q1J,forall_const,Q0v,false_implies,and_true,q1F,q1j,q0r,q6E,q0p,q0o,Yd_some,Q0b,Q0a,q0j,Q0m,Q0j,implies_true,and_self,z8x,q7q kx,q0l,q0y,x2s (q7o kx.okF) (q7o okf),q0s,true_and,z8v kx.okF okf,decide_eq_true_eq,decide_eq_false_iff_not]
   exact ⟨fun e=>by rw [decide_eq_true e,Bool.true_or],fun e=>by rw [decide_eq_false e,Bool.false_or]⟩
  obtain ⟨lf,elf⟩:∃ lf,lf = fs.filter fun x=>decide (x = f) || !decide (blk (kOf ts) x = blk (kOf ts) f):=⟨_,rfl⟩
  rw [← elf]
  have lfl:lf.length ≤ fs.length:=by rw [elf]; exact Q1i _ _
  have lfk:∀ x ∈ lf,Fk ts x:=fun x hx=>hk x (by rw [elf] at hx; exact (Q1s.mp hx).1)
  have al:x1k (kOf ts) fs f = lf:=by
   rw [elf]
   unfold x1k
   refine List.filter_congr fun x hx=>?_
   rw [Q1L]
   unfold inB
   simp only [Q1s,decide_eq_true_eq,Q0K,decide_eq_false_iff_not,Bool.or_eq_true,not_and,Decidable.not_not]
   exact ⟨fun h=>(Q2R (x = f)).elim .inl fun n=>.inr fun e=>n (h ⟨hx,e⟩),fun h e=>h.elim id fun n=>absurd e.2 n⟩
  simp only [Q0f,Q0m,Q0j,q0g,q0f,h8,Q0c,↓reduceIte,Q0n,Yd_some,Q0b,Q0a,q0j,h10,q0d,q4f,q0W,q0V,q1u,Q0X,Q0Y,true_and,q2c,x2p]
  refine ⟨by omega,?_⟩
  obtain ⟨fw,efw⟩:∃ fw,fw = fs.filter fun x=>!decide (x = f):=⟨_,rfl⟩
  have fwl:fw.length ≤ fs.length:=by rw [efw]; exact Q1i _ _
  have stw:St ts fw:=⟨hs,by rw [efw]; exact hg.filter _,fun x hx=>hk x (by rw [efw] at hx; exact (Q1s.mp hx).1),by omega⟩
  have stl:St ts lf:=⟨hs,by rw [elf]; exact hg.filter _,lfk,by omega⟩
  have x1:=z5g hs lfk stl.l
  have x2:=z5h hs lfk stl.l
  have x3:=z5g hs stw.k stw.l
  have x4:eqD (.str (txt ts fw)) (.str (txt ts fs)) = some (.bl false):=by
   have:txt ts fw ≠ txt ts fs:=fun e=>by
    have e':=x4S hs stw.k stw.l stw.o hk hl hg e
    rw [← e',efw] at hf
    have:=(Q1s.mp hf).2
    simp at this
   simp only [q4B,this,decide_false]
  refine z8w st hf efw _ fun k3 k3e=>?_
  refine ⟨x7N,?_⟩
  refine z8z st hf _ fun k4 k4e=>?_
  rw [al] at k4e
  simp only [k4e,z2x,x1,x2,k3e,x3,x7M,true_and,Yd_some,q0l,q0y,x4,q0s,Q0c,false_implies,forall_const,q5h,decide_true,Q1v]
  refine x1h stw kf st (fun x=>?_) _ fun k5 k5e=>?_
  ·rw [efw,Q1s]
   simp only [Q0K,decide_eq_false_iff_not]
   exact ⟨fun h=>(Q2R (x = f)).elim .inr fun n=>.inl ⟨h,n⟩,fun h=>h.elim (·.1) fun e=>by rw [e]; exact hf⟩
  simp only [k5e,z2x,e2,Yd_some,q0l,q0y,q5h,decide_true,Q1v,q0s,Q0c,false_implies,forall_const,true_and]
  refine q3R faD fs (fun x=>decide (blk (kOf ts) x = blk (kOf ts) f)) faD (fun x hx=>?_) ?_
  ·have kx:=hk x hx
   simp only [q0Z,q0g,q0f,q0q,Q0c,↓reduceIte,Q0n,q0B,q0n,q1F,q1j,q0r,q6E,q0p,q0o,Yd_some,Q0b,Q0a,q0j,Q0m,Q0j,and_true,implies_true,and_self,z8x,q7q kx,q0l,q0y,z8v (q7o kx.okF) (q7o okf),q0s]
  obtain ⟨sf,esf⟩:∃ sf,sf = fs.filter fun x=>decide (blk (kOf ts) x = blk (kOf ts) f):=⟨_,rfl⟩
  rw [← esf]
  have sfl:sf.length ≤ fs.length:=by rw [esf]; exact Q1i _ _
  have stf:St ts sf:=⟨hs,by rw [esf]; exact hg.filter _,fun x hx=>hk x (by rw [esf] at hx; exact (Q1s.mp hx).1),by omega⟩
  have y1:=z5g hs stf.k stf.l
  have y2:=z5h hs stf.k stf.l
  simp only [Q0f,Q0m,Q0j,q0g,q0f,h11,Q0c,↓reduceIte,Q0n,Yd_some,Q0b,Q0a,q0j,q0d,q4f,x7P,true_and]
  refine ⟨by omega,?_⟩
  have okb:okD (faD (blk (kOf ts) f)):=z5a kf.ok
  refine x7S (gs:=sf) st okb ?_ [blk (kOf ts) f] (by rw [x9y kf]; rfl) (fun b hb=>by rw [Q0t.mp hb]; exact q7o okf) (by rw [esf]; refine List.filter_congr fun x _=>?_; simp) _ fun k6 k6e=>?_
  ·show ((f.2.take (kOf ts f.1)).map Dat.int).length ≤ 10000
   rw [Q0f,Q1f]
   have:=kf.le
   omega
  simp only [k6e,z2x,y1,y2,Yd_some,q0l,q0y,q5h,decide_true,Q1v,q0s,Q0c,false_implies,forall_const,true_and]
  exact ⟨_,_,_,_,_,rfl,rfl,rfl,rfl,rfl,rfl⟩
 ·rintro ρ ⟨w6,w7,w8,w10,w11,h6,h7,h8,h10,h11,rfl⟩
  have hs0:∀ f ∈ ([]:List Fa),Fk ts f:=fun _ h=>nomatch h
  have r0:=z8K hs hs0 (by simp) ⟨List.Pairwise.nil,Q1B⟩
  have t0:q2z [.tup (ts.map tbD),.lst []] = some (.atm (.im (.str (txt ts [])))):=z5h hs hs0 (by simp)
  have st0:St ts []:=⟨hs,⟨List.Pairwise.nil,Q1B⟩,hs0,by simp⟩
  have e0:eqI "Store" q1y false (stD ts []) (stD ts []) = some (.bl true):=by rw [x8m st0 st0,decide_eq_true ⟨rfl,rfl⟩]
  simp only [q0D,q0E,q0x,q1j,q0r,q5e,q0p,q0o,q0n,z2l,q0C,Q0i,q3x,q0l,q1v,Q0o,Q0H,true_and,Q0b,Q0a,q0d,q4f,Yd_some,t0,q0y]
  refine r0 _ fun k7 k7e=>?_
  have i0:=q9n hs (gs:=[]) (fs:=[]) hs0 (by simp) (by simp) ⟨List.Pairwise.nil,Q1B⟩ (fun _=>Iff.rfl) (fun k=>Yd (eqI "Store" q1y false k7.frz k.frz) fun z=>P (Cell.atm (Atom.im z),o)) fun k8 k8e=>by
   rw [k7e,k8e,e0]
   exact Yd_some.mpr (hP o ho)
  exact i0
end K04

set_option maxHeartbeats 4000000
namespace K04
variable [DL.Tbls]
open PySem PySem.Spec DL
open L2 (Key)
def MA:List Int:=[0,1,6,18,40,200]
theorem z8R:∀ ns:List Int,ns.length ≤ 63→z5I [.fro (ns.map .int)] = some (.atm (.im (.bl true))):=by
 intro ns hn
 apply Yd.eq
 unfold z5I x7q
 simp only [q0O,Q0d,Q0o,Q0z,Q0e,Q0w,Q0p,Q0x,Q0u,q0M,q1C,q0D,q3z,q8a,q0p,q0o,q3G,q8h,Q1w,Int.reduceLE,and_self,↓reduceIte,Yd_some,q0C,Q0i,q0n,Q0a,q0d,q0g,q0f,q0q,Q0c,Q0n,true_and]
 refine x7t hn _ fun o d0=>?_
 rw [show rgD (4:Int) = (Q1e 4).map (fun k:Nat=>Dat.int (k:Int)) from rfl]
 refine q2R (fun k:Nat=>Dat.int (k:Int)) (Q1e 4) (fun pre ρ=>∃ (o':Cell) (w2 w3:Option DL.Slot),q6a w2 = false∧q6a w3 = false∧Deck (21000 * pre.length) o'∧ρ = [imS (.fro (ns.map .int)),some ⟨false,o'⟩,w2,w3]) ⟨o,none,none,rfl,rfl,d0,rfl⟩ ?_ ?_
 ·rintro pre k post ρ hx ⟨o',w2,w3,h2,h3,dk,rfl⟩
  have hxl:=congrArg Q1Q hx
  rw [Q1D,Q0A,Q0d] at hxl
  simp only [q0Z,q0g,q0f,h2,Q0c,↓reduceIte,Q0n,q0M,q1C,q0D,q2H,q0E,q8G,q2G,q0u,q0x,q3G,q1c,q1P,q1M,Q0K,Q0Q,q1F,q0r,q3y,Q0i,q0p,q0o,q3x,q0l,q1v,Q0d,Q0H,Q0o,true_and,q0n,Yd_some,Q0b,Q0a,Q0m,Q0j,h3,q0j]
  refine x1i dk (by omega) (mst:=6) (by decide) (by decide) _ fun o1 ts d1 hs hw=>?_
  simp only [q0l,q0y]
  refine z4Q d1 (by omega) Dat.int (xs:=MA) (by decide) (by decide) _ fun o2 m d2 hm=>?_
  obtain ⟨M,rfl,hM⟩:∃ M:Nat,m = (M:Int)∧M ≤ 200:=by
   unfold MA at hm
   simp only [Q0s,Q1t,or_false] at hm
   rcases hm with rfl | rfl | rfl | rfl | rfl | rfl
   ·exact ⟨0,rfl,by decide⟩
   ·exact ⟨1,rfl,by decide⟩
   ·exact ⟨6,rfl,by decide⟩
   ·exact ⟨18,rfl,by decide⟩
   ·exact ⟨40,rfl,by decide⟩
   ·exact ⟨200,rfl,by decide⟩
  simp only [q0l,q0y]
  refine x4M d2 (by omega) hs hM _ fun o3 fs d3 hk hg hl=>?_
  simp only [q0l,q0y]
  refine x4T d3 hs hk hg (by omega) _ fun o4 d4=>?_
  simp only [q0l,q0y,q0s,Yd_some,Q0v,false_implies,forall_const,true_and]
  exact ⟨o4,_,_,rfl,rfl,d4.more (by simp; omega),rfl⟩
 ·rintro ρ ⟨o',w2,w3,h2,h3,dk,rfl⟩
  simp only [q0D,q0E,q0u,q0x,q3G]
end K04

namespace K04
variable [DL.Tbls]
open PySem PySem.Spec DL PySem.W
theorem x8n {l:PySem.W.OpenLaw} {w:World} {K:JFr} {h:Heap} {mg:Str→Option Value} {fa:Addr} (X:K.In h) (G:h.Ns jbd mg) (hfa:mg "law" = some (.ref fa))
  {C_Store:Addr}
  {A_Store_init:Addr} {oc_Store_init kV_Store_init dc_Store_init pm_Store_init cd_Store_init ct_Store_init:Value} {od_Store_init an_Store_init:Option Addr} {sl_Store_init:Array (Option Value)}
  {DT_Store_init:Addr} {DTd_Store_init:Option Addr} {DTn_Store_init:Nat} {DTs_Store_init:Array (Option Value)}
  {E0_Store_init:Addr} {Ed0_Store_init:Option Addr} {En0_Store_init:Nat} {Es0_Store_init:Array (Option Value)}
  {A_Store_facts:Addr} {oc_Store_facts kV_Store_facts dc_Store_facts pm_Store_facts cd_Store_facts ct_Store_facts:Value} {od_Store_facts an_Store_facts:Option Addr} {sl_Store_facts:Array (Option Value)}
  {P_Store_facts:Addr} {rest_Store_facts:List Value}
  {A_Store_text:Addr} {oc_Store_text kV_Store_text dc_Store_text pm_Store_text cd_Store_text ct_Store_text:Value} {od_Store_text an_Store_text:Option Addr} {sl_Store_text:Array (Option Value)}
  {P_Store_text:Addr} {rest_Store_text:List Value}
  {A_Store_without:Addr} {oc_Store_without kV_Store_without dc_Store_without pm_Store_without cd_Store_without ct_Store_without:Value} {od_Store_without an_Store_without:Option Addr} {sl_Store_without:Array (Option Value)}
  {A_Store_read:Addr} {oc_Store_read kV_Store_read dc_Store_read pm_Store_read cd_Store_read ct_Store_read:Value} {od_Store_read an_Store_read:Option Addr} {sl_Store_read:Array (Option Value)}
  {P_Store_read:Addr} {rest_Store_read:List Value}
  {t_BAR:Tok}
  {t_DIGITS:Tok}
  {t_LETTERS:Tok}
  {t_LONGEST_NAME:Tok}
  {t_MOST_COLUMNS:Tok}
  {t_MOST_TABLES:Tok}
  (aC_Store:nsIn K jbd "Store" = some (some (.ref C_Store)))
  (oa_Store:findIn K (.ref C_Store) "__class__" = some (some (.builtin "object.__class__")))
  (oo_Store:mroIn K C_Store (.type "object") = some true)
  (oi_Store:isClsIn K C_Store = true)
  (ot_Store:typeIn K (.ref C_Store) = some (.type "type"))
  (os_Store:selfFirst K C_Store = true)
  (on_Store:findIn K (.ref C_Store) "__ne__" = some (some (.builtin "object.__ne__")))
  (x_gs:specialIn K (.builtin "object.__class__") "__get__" = some (some (.builtin "getset_descriptor.__get__")))
  (x_tk:takesIn K (.builtin "object.__class__") = some true)
  (v_is_integer:Hv K "is_integer" "is_integer" q3o)
  (v_is_name:Hv K "is_name" "is_name" q5u)
  (v_is_number_of_columns:Hv K "is_number_of_columns" "is_number_of_columns" q1h)
  (v_is_table:Hv K "is_table" "is_table" q4F)
  (v_has_size:Hv K "has_size" "has_size" q4G)
  (v_bad_parts:Hv K "bad_parts" "bad_parts" q3T)
  (v_columns:Hv K "columns" "columns" q5v)
  (v_are_integers:Hv K "are_integers" "are_integers" q2E)
  (v_is_fact:Hv K "is_fact" "is_fact" q5w)
  (v_is_block:Hv K "is_block" "is_block" q4H)
  (v_block_in:Hv K "block_in" "block_in" q4I)
  (v_integer_in:Hv K "integer_in" "integer_in" q3p)
  (v_lines_of:Hv K "lines_of" "lines_of" q4J)
  (v_show_row:Hv K "show_row" "show_row" q4K)
  (v_row_in:Hv K "row_in" "row_in" q6s)
  (v_show_store:Hv K "show_store" "show_store" q3q)
  (v_table_in:Hv K "table_in" "table_in" q4L)
  (v_fact_in:Hv K "fact_in" "fact_in" q5x)
  (v_is_next_table:Hv K "is_next_table" "is_next_table" q2k)
  (v_read_store:Hv K "read_store" "read_store" q3r)
  (v_facts_by_block:Hv K "facts_by_block" "facts_by_block" q1V)
  (a_Store_init:findIn K (.ref C_Store) "__init__" = some (some (.ref A_Store_init)))
  (i_Store_init:isFn K (.ref A_Store_init) = true)
  (l_Store_init:K.lookup A_Store_init = some ⟨oc_Store_init,od_Store_init,.func (fnOf "__init__" "Store.__init__" (Q1C q0R) (Q1q q0R) (Q0B q0R) (.ref DT_Store_init) kV_Store_init dc_Store_init pm_Store_init an_Store_init cd_Store_init ct_Store_init),sl_Store_init⟩)
  (c_Store_init:codeIn K cd_Store_init "Store.__init__" = true)
  (k_Store_init:keepIn K (.ref A_Store_init) = true)
  (q_Store_init:K.lookup DT_Store_init = some ⟨.type "tuple",DTd_Store_init,.seq #[.ref E0_Store_init] DTn_Store_init,DTs_Store_init⟩)
  (e0_Store_init:K.lookup E0_Store_init = some ⟨.type "tuple",Ed0_Store_init,.seq #[] En0_Store_init,Es0_Store_init⟩)
  (a_Store_facts:findIn K (.ref C_Store) "facts" = some (some (.ref P_Store_facts)))
  (g_Store_facts:specialIn K (.ref P_Store_facts) "__get__" = some (some (.builtin "property.__get__")))
  (t_Store_facts:takesIn K (.ref P_Store_facts) = some true)
  (r_Store_facts:recIn K P_Store_facts "property" = some (.ref A_Store_facts :: rest_Store_facts))
  (l_Store_facts:K.lookup A_Store_facts = some ⟨oc_Store_facts,od_Store_facts,.func (fnOf "facts" "Store.facts" (Q1C q1I) (Q1q q1I) (Q0B q1I) .none kV_Store_facts dc_Store_facts pm_Store_facts an_Store_facts cd_Store_facts ct_Store_facts),sl_Store_facts⟩)
  (c_Store_facts:codeIn K cd_Store_facts "Store.facts" = true)
  (k_Store_facts:keepIn K (.ref A_Store_facts) = true)
  (a_Store_text:findIn K (.ref C_Store) "text" = some (some (.ref P_Store_text)))
  (g_Store_text:specialIn K (.ref P_Store_text) "__get__" = some (some (.builtin "property.__get__")))
  (t_Store_text:takesIn K (.ref P_Store_text) = some true)
  (r_Store_text:recIn K P_Store_text "property" = some (.ref A_Store_text :: rest_Store_text))
  (l_Store_text:K.lookup A_Store_text = some ⟨oc_Store_text,od_Store_text,.func (fnOf "text" "Store.text" (Q1C q1S) (Q1q q1S) (Q0B q1S) .none kV_Store_text dc_Store_text pm_Store_text an_Store_text cd_Store_text ct_Store_text),sl_Store_text⟩)
  (c_Store_text:codeIn K cd_Store_text "Store.text" = true)
  (k_Store_text:keepIn K (.ref A_Store_text) = true)
  (v_Store_contains:Hm K C_Store "__contains__" "Store.__contains__" q1W)
  (v_Store_eq:Hm K C_Store "__eq__" "Store.__eq__" q4M)
  (v_Store_block_of:Hm K C_Store "block_of" "Store.block_of" q1Y)
  (v_Store_facts_of:Hm K C_Store "facts_of" "Store.facts_of" q1Z)
  (v_Store_joined:Hm K C_Store "joined" "Store.joined" q2F)
  (a_Store_without:findIn K (.ref C_Store) "without" = some (some (.ref A_Store_without)))
  (i_Store_without:isFn K (.ref A_Store_without) = true)
  (bg_Store_without:specialIn K (.ref A_Store_without) "__get__" = some (some (.builtin "function.__get__")))
  (bt_Store_without:takesIn K (.ref A_Store_without) = some false)
  (bf_Store_without:fnIn K A_Store_without = true)
  (l_Store_without:K.lookup A_Store_without = some ⟨oc_Store_without,od_Store_without,.func (fnOf "without" "Store.without" (Q1C q1k) (Q1q q1k) (Q0B q1k) .none kV_Store_without dc_Store_without pm_Store_without an_Store_without cd_Store_without ct_Store_without),sl_Store_without⟩)
  (c_Store_without:codeIn K cd_Store_without "Store.without" = true)
  (k_Store_without:keepIn K (.ref A_Store_without) = true)
  (v_Store_settled_once:Hm K C_Store "settled_once" "Store.settled_once" q1r)
  (v_Store_settled:Hm K C_Store "settled" "Store.settled" q2l)
  (v_Store_part:Hm K C_Store "part" "Store.part" q3s)
  (cra_Store:readsIn K C_Store (.type "type") = true)
  (crb_Store:specialIn K (.ref C_Store) "__getattribute__" = some (some (.builtin "type.__getattribute__")))
  (a_Store_read:findCls K (.ref C_Store) (.type "type") "read" = some (.get (.builtin "classmethod.__get__") (.ref P_Store_read) .none (.ref C_Store)))
  (r_Store_read:recIn K P_Store_read "classmethod" = some (.ref A_Store_read :: rest_Store_read))
  (f_Store_read:fnIn K A_Store_read = true)
  (l_Store_read:K.lookup A_Store_read = some ⟨oc_Store_read,od_Store_read,.func (fnOf "read" "Store.read" (Q1C q1T) (Q1q q1T) (Q0B q1T) .none kV_Store_read dc_Store_read pm_Store_read an_Store_read cd_Store_read ct_Store_read),sl_Store_read⟩)
  (c_Store_read:codeIn K cd_Store_read "Store.read" = true)
  (k_Store_read:keepIn K (.ref A_Store_read) = true)
  (v_law_purse:Hv K "_law_purse" "_law_purse" q3U)
  (v_law_take:Hv K "_law_take" "_law_take" q4N)
  (v_law_one:Hv K "_law_one" "_law_one" q5y)
  (v_law_names:Hv K "_law_names" "_law_names" q3V)
  (v_law_schema:Hv K "_law_schema" "_law_schema" q3t)
  (v_law_integer:Hv K "_law_integer" "_law_integer" q2Y)
  (v_law_facts:Hv K "_law_facts" "_law_facts" q3W)
  (v_law_written:Hv K "_law_written" "_law_written" q2Z)
  (v_law_text:Hv K "_law_text" "_law_text" q4O)
  (v_law_right:Hv K "_law_right" "_law_right" q3Y)
  (v_law:Hv K "law" "law" z5k)
  (pg_Store:plainGet K C_Store Str.empty = true)
  (hd_Store:hasDictIn K C_Store = true)
  (po_Store:plainOver K C_Store = true)
  (sa_Store:findIn K (.ref C_Store) "__setattr__" = some (some (.builtin "object.__setattr__")))
  (mk_Store:makesIn K C_Store = true)
  (kc_Store:keepIn K (.ref C_Store) = true)
  (n_Store_schema:findIn K (.ref C_Store) "schema" = some none)
  (n_Store_all_facts:findIn K (.ref C_Store) "all_facts" = some none)
  (n_Store_by_block:findIn K (.ref C_Store) "by_block" = some none)
  (z_abs:nsIn K jbd "abs" = some none)
  (z_all:nsIn K jbd "all" = some none)
  (z_bool:nsIn K jbd "bool" = some none)
  (z_enumerate:nsIn K jbd "enumerate" = some none)
  (z_int:nsIn K jbd "int" = some none)
  (z_isinstance:nsIn K jbd "isinstance" = some none)
  (z_len:nsIn K jbd "len" = some none)
  (z_list:nsIn K jbd "list" = some none)
  (z_range:nsIn K jbd "range" = some none)
  (z_repr:nsIn K jbd "repr" = some none)
  (z_set:nsIn K jbd "set" = some none)
  (z_sorted:nsIn K jbd "sorted" = some none)
  (z_str:nsIn K jbd "str" = some none)
  (z_tuple:nsIn K jbd "tuple" = some none)
  (g_BAR:nsIn K jbd "BAR" = some (some (.str "|" t_BAR)))
  (g_DIGITS:nsIn K jbd "DIGITS" = some (some (.str "0123456789" t_DIGITS)))
  (g_LETTERS:nsIn K jbd "LETTERS" = some (some (.str "abcdefghijklmnopqrstuvwxyz" t_LETTERS)))
  (g_LONGEST_NAME:nsIn K jbd "LONGEST_NAME" = some (some (.int 8 t_LONGEST_NAME)))
  (g_MOST_COLUMNS:nsIn K jbd "MOST_COLUMNS" = some (some (.int 4 t_MOST_COLUMNS)))
  (g_MOST_TABLES:nsIn K jbd "MOST_TABLES" = some (some (.int 6 t_MOST_TABLES)))
  : ∃ fd:FuncData,(∀ (s:Shared) (u:Value),BindsTo s fd ⟨[u],[]⟩ [("_law_script",u)])∧∀ base:Heap,K.In base→base.Ns jbd mg→x1L base→FG ⟨l.prog,w,K,mg⟩ base 11 fa fd ["_law_script"] (spP ⟨l.prog,w,K,mg⟩ 1 z5I):=by
 obtain ⟨A_law,kV_law,b_law,a_law,z_law,k_law⟩:=v_law
 cases hfa.symm.trans (mg_of X G a_law)
 refine ⟨(fnS "law" "law" z5k .none kV_law b_law),fun s v=>.of_eq rfl,fun base _ _ sy=>?_⟩
 have cls_Store:L2.Cls K C_Store:=⟨pg_Store,hd_Store,po_Store,sa_Store⟩
 have T:Txt ⟨l.prog,w,K,mg⟩:={
  b_abs:=mg_none_of X G z_abs
  b_all:=mg_none_of X G z_all
  b_bool:=mg_none_of X G z_bool
  b_enumerate:=mg_none_of X G z_enumerate
  b_int:=mg_none_of X G z_int
  b_isinstance:=mg_none_of X G z_isinstance
  b_len:=mg_none_of X G z_len
  b_list:=mg_none_of X G z_list
  b_range:=mg_none_of X G z_range
  b_repr:=mg_none_of X G z_repr
  b_set:=mg_none_of X G z_set
  b_sorted:=mg_none_of X G z_sorted
  b_str:=mg_none_of X G z_str
  b_tuple:=mg_none_of X G z_tuple
  g_BAR:=⟨_,mg_of X G g_BAR,⟨t_BAR,rfl⟩⟩
  g_DIGITS:=⟨_,mg_of X G g_DIGITS,⟨t_DIGITS,rfl⟩⟩
  g_LETTERS:=⟨_,mg_of X G g_LETTERS,⟨t_LETTERS,rfl⟩⟩
  g_LONGEST_NAME:=⟨_,mg_of X G g_LONGEST_NAME,⟨t_LONGEST_NAME,rfl⟩⟩
  g_MOST_COLUMNS:=⟨_,mg_of X G g_MOST_COLUMNS,⟨t_MOST_COLUMNS,rfl⟩⟩
  g_MOST_TABLES:=⟨_,mg_of X G g_MOST_TABLES,⟨t_MOST_TABLES,rfl⟩⟩
  C_Store:=C_Store
  m_Store:=mg_of X G aC_Store
  O_Store:=⟨cls_Store,oa_Store,x_gs,x_tk,oo_Store,oi_Store,ot_Store⟩
  sf_Store:=os_Store
  ne_Store:=on_Store
  f_Store_schema:=fun C hC=>(by cases hC.symm.trans (mg_of X G aC_Store); exact ⟨cls_Store,n_Store_schema⟩)
  f_Store_all_facts:=fun C hC=>(by cases hC.symm.trans (mg_of X G aC_Store); exact ⟨cls_Store,n_Store_all_facts⟩)
  f_Store_by_block:=fun C hC=>(by cases hC.symm.trans (mg_of X G aC_Store); exact ⟨cls_Store,n_Store_by_block⟩) }
 have jaa:=v_is_integer.dp X G (z1c T sy ) (bn1 fun _=>rfl) q0Q
 have jal:=v_is_name.dp X G (z5J T sy ) (bn1 fun _=>rfl) q0Q
 have jag:=v_is_number_of_columns.dp X G (q5l T sy jaa) (bn1 fun _=>rfl) q0Q
 have ja9:=v_is_table.dp X G (z3v T sy jal jag) (bn1 fun _=>rfl) q0Q
 have jas:=v_has_size.dp X G (z3w T sy ) (bn1 fun _=>rfl) q0Q
 have jat:=v_bad_parts.dp X G (z2p T sy ja9) (bn1 fun _=>rfl) q0Q
 have ja2:=v_columns.dp X G (z5K T sy ) (bn2 fun _ _=>rfl) q0Q
 have jab:=v_are_integers.dp X G (q9j T sy jaa) (bn2 fun _ _=>rfl) q0Q
 have ja7:=v_is_fact.dp X G (z5L T sy ja2 jab) (bn2 fun _ _=>rfl) q0Q
 have jac:=v_is_block.dp X G (z3x T sy ja2 jab) (bn2 fun _ _=>rfl) q0Q
 have ja3:=v_block_in.dp X G (z3y T sy ja2) (bn2 fun _ _=>rfl) q0Q
 have ja6:=v_integer_in.dp X G (z1d T sy ) (bn1 fun _=>rfl) q0Q
 have jao:=v_lines_of.dp X G (z3z T sy ) (bn1 fun _=>rfl) q0Q
 have jam:=v_show_row.dp X G (z3A T sy ) (bn4 fun _ _ _ _=>rfl) q0Q
 have jan:=v_row_in.dp X G (z8h T sy ja6) (bn4 fun _ _ _ _=>rfl) q0Q
 have jav:=v_show_store.dp X G (z1e T sy jam ja2) (bn2 fun _ _=>rfl) q0Q
 have jap:=v_table_in.dp X G (z3B T sy ja6 ja9) (bn1 fun _=>rfl) q0Q
 have jaq:=v_fact_in.dp X G (z5M T sy ja2 jan ja6) (bn2 fun _ _=>rfl) q0Q
 have jar:=v_is_next_table.dp X G (q7R T sy ) (bn2 fun _ _=>rfl) q0Q
 have jah:=v_read_store.dp X G (z1f T sy jao jap jaq jar) (bn1 fun _=>rfl) q0Q
 have jau:=v_facts_by_block.dp X G (q7k T sy ja3) (bn2 fun _ _=>rfl) q0Q
 have z_Store_init:=x7i l_Store_init c_Store_init
 have FD_Store_init:L2.FunD K "__init__" "Store.__init__" (Q1C q0R) (Q1q q0R) (Q0B q0R) [L2.V.ref E0_Store_init] ([]:List (Str × L2.V)) A_Store_init (fnOf "__init__" "Store.__init__" (Q1C q0R) (Q1q q0R) (Q0B q0R) (.ref DT_Store_init) kV_Store_init dc_Store_init pm_Store_init an_Store_init cd_Store_init ct_Store_init):=⟨⟨_,_,_,_,_,_,_,_,_,_,rfl,l_Store_init,c_Store_init,.inr ⟨by simp,DT_Store_init,_,[.ref E0_Store_init],_,rfl,q_Store_init,rfl,.cons rfl (.nil)⟩,.inl rfl⟩,k_Store_init⟩
 have hFG_Store_init:=z1g T sy jas jat ja7 jau z_Store_init
 obtain ⟨ds0_Store_init,r0_Store_init,hb0_Store_init⟩:=FD_Store_init.binds1 (ps:=(["self","schema","facts"]:List Str)) 3 1 (by simp) rfl fun T kV doc pm an cdv ct us its h1 h2=>match us,h1,its,h2 with | [_,_,_],_,[_],_=>⟨_,rfl,rfl⟩
 have ja1:z8T ⟨l.prog,w,K,mg⟩ base 5 "Store" q0K:=⟨_,_,mg_of X G aC_Store,⟨mk_Store,a_Store_init,i_Store_init,kc_Store⟩,(hFG_Store_init.cl hb0_Store_init r0_Store_init).imp fun vs zs H Q _ h=>(by rw [show List.drop 1 [L2.V.ref E0_Store_init] = [] from rfl,Q0i]; exact z2T q5a h)⟩
 obtain ⟨ds1_Store_init,r1_Store_init,hb1_Store_init⟩:=FD_Store_init.binds1 (ps:=(["self","schema","facts"]:List Str)) 2 0 (by simp) rfl fun T kV doc pm an cdv ct us its h1 h2=>match us,h1,its,h2 with | [_,_],_,[_],_=>⟨_,rfl,rfl⟩
 have jb5:z8T ⟨l.prog,w,K,mg⟩ base 5 "Store" q4j:=⟨_,_,mg_of X G aC_Store,⟨mk_Store,a_Store_init,i_Store_init,kc_Store⟩,(hFG_Store_init.cl hb1_Store_init r1_Store_init).imp fun vs zs H Q _ h=>z2T q5a (x4c (fun S=>.cons (.tup (.inr ⟨_,_,_,e0_Store_init,rfl,rfl,Q1H _,.nil⟩) .nil) (.nil)) h)⟩
 have z_Store_facts:=x7i l_Store_facts c_Store_facts
 have jb0:x5R ⟨l.prog,w,K,mg⟩ base 1 "Store" "facts" q2x:=⟨fun C hC=>by cases hC.symm.trans (mg_of X G aC_Store); exact ⟨cls_Store,_,_,⟨a_Store_facts,g_Store_facts,t_Store_facts,_,r_Store_facts⟩,((((q9z T sy  z_Store_facts)).cl0 (.all fun us hl=>match us,hl with | [_],_=>rfl)).imp fun vs zs H Q _ h=>q6k q0Q h)⟩⟩
 have z_Store_text:=x7i l_Store_text c_Store_text
 have ja8:x5R ⟨l.prog,w,K,mg⟩ base 3 "Store" "text" q1o:=⟨fun C hC=>by cases hC.symm.trans (mg_of X G aC_Store); exact ⟨cls_Store,_,_,⟨a_Store_text,g_Store_text,t_Store_text,_,r_Store_text⟩,((((z1h T sy jav z_Store_text)).cl0 (.all fun us hl=>match us,hl with | [_],_=>rfl)).imp fun vs zs H Q _ h=>q6k q0Q h)⟩⟩
 have jad:=v_Store_contains.met X G aC_Store cls_Store (q7l T sy ja7) (bn2 fun _ _=>rfl) q0Q
 have jak:=v_Store_eq.met X G aC_Store cls_Store (z3C T sy ) (bn2 fun _ _=>rfl) q0Q
 have jaf:=v_Store_block_of.met X G aC_Store cls_Store (q7m T sy ja7 ja3) (bn2 fun _ _=>rfl) q0Q
 have jaw:=v_Store_facts_of.met X G aC_Store cls_Store (q7n T sy jac) (bn2 fun _ _=>rfl) q0Q
 obtain ⟨A_Store_joined,kV_Store_joined,b_Store_joined,a_Store_joined,i_Store_joined,z_Store_joined,k_Store_joined⟩:=v_Store_joined
 have jb3:q9r ⟨l.prog,w,K,mg⟩ base 7 "Store" "joined" q2g:=⟨fun C hC=>by cases hC.symm.trans (mg_of X G aC_Store); exact ⟨cls_Store,_,⟨a_Store_joined,i_Store_joined,k_Store_joined⟩,(q9k T sy ja1 z_Store_joined)⟩⟩
 have z_Store_without:=x7i l_Store_without c_Store_without
 have DB_Store_without:MetB ⟨l.prog,w,K,mg⟩ base 7 "Store" "without" q0X:=⟨fun C hC=>by cases hC.symm.trans (mg_of X G aC_Store); exact ⟨cls_Store,_,⟨⟨a_Store_without,i_Store_without,k_Store_without⟩,bg_Store_without,bt_Store_without,(by decide +kernel),bf_Store_without⟩,(q7S T sy jad ja1 z_Store_without)⟩⟩
 have jb1:=DB_Store_without.met
 have jax:=v_Store_settled_once.met X G aC_Store cls_Store (q5Q T sy jaw ja3 DB_Store_without) (bn2 fun _ _=>rfl) q0Q
 obtain ⟨A_Store_settled,kV_Store_settled,b_Store_settled,a_Store_settled,i_Store_settled,z_Store_settled,k_Store_settled⟩:=v_Store_settled
 have jb2:q9r ⟨l.prog,w,K,mg⟩ base 9 "Store" "settled" q1Q:=⟨fun C hC=>by cases hC.symm.trans (mg_of X G aC_Store); exact ⟨cls_Store,_,⟨a_Store_settled,i_Store_settled,k_Store_settled⟩,(q7T T sy jad jax z_Store_settled)⟩⟩
 obtain ⟨A_Store_part,kV_Store_part,b_Store_part,a_Store_part,i_Store_part,z_Store_part,k_Store_part⟩:=v_Store_part
 have jb4:q9r ⟨l.prog,w,K,mg⟩ base 7 "Store" "part" q2U:=⟨fun C hC=>by cases hC.symm.trans (mg_of X G aC_Store); exact ⟨cls_Store,_,⟨a_Store_part,i_Store_part,k_Store_part⟩,(z1i T sy jac ja1 ja3 z_Store_part)⟩⟩
 have z_Store_read:=x7i l_Store_read c_Store_read
 have jaj:x5g ⟨l.prog,w,K,mg⟩ base 7 "Store" "read" [] q1x:=⟨C_Store,P_Store_read,A_Store_read,.type "type",mg_of X G aC_Store,⟨cra_Store,crb_Store⟩,⟨a_Store_read,⟨_,r_Store_read⟩,f_Store_read⟩,(FG.cl0 (q6R T sy jah ja1 z_Store_read) (.all fun us hl=>match us,hl with | [_,_],_=>rfl)).imp fun vs zs H Q hz h=>by cases zs with | nil=>(have h:=h.2; rw [Q0i] at h; exact q6k q0Q h) | cons _ _=>cases hz⟩
 have DCK_Store_read:x5g ⟨l.prog,w,K,mg⟩ base 7 "Store" "read" ["text"] q1x:=⟨C_Store,P_Store_read,A_Store_read,.type "type",mg_of X G aC_Store,⟨cra_Store,crb_Store⟩,⟨a_Store_read,⟨_,r_Store_read⟩,f_Store_read⟩,(FG.clk (n:=1) (g:=fun us ws=>us ++ ws) (gV:=fun vs zs=>vs ++ zs) (q6R T sy jah ja1 z_Store_read) ⟨fun s us ws _ h1 h2=>match us,h1,ws,h2 with | [_],_,[_],_=>.of_eq rfl,fun r z=>r.append z⟩).imp fun vs zs H Q _ h=>⟨h.1.resolve_left (by simp),q6k q0Q h.2⟩⟩
 have jb7:=v_law_purse.dp X G (z2q T sy ) (bn1 fun _=>rfl) q0Q
 have ja0:=v_law_take.do_ X G (z3D T sy ) (bn2 fun _ _=>rfl) q5a
 have ja5:=v_law_one.do_ X G (z5N T sy ja0) (bn2 fun _ _=>rfl) q5a
 have jay:=v_law_names.do_ X G (z2r T sy ja0) (bn2 fun _ _=>rfl) q5a
 have jb8:=v_law_schema.do_ X G (z1j T sy jay ja0) (bn2 fun _ _=>rfl) q5a
 have jaz:=v_law_integer.do_ X G (q9A T sy ja5 ja0) (bn1 fun _=>rfl) q5a
 have jba:=v_law_facts.do_ X G (z2s T sy ja5 jaz ja0) (bn3 fun _ _ _=>rfl) q5a
 have jai:=v_law_written.dp X G (q9B T sy ) (bn1 fun _=>rfl) q0Q
 have jae:=v_law_text.dp X G (z3E T sy jai) (bn2 fun _ _=>rfl) q0Q
 have jb9:=v_law_right.do_ X G (z2t T sy jae ja1 ja8 DCK_Store_read jaj jak jb0 jaf jb1 jb2 jb3 jb4 jb5) (bn3 fun _ _ _=>rfl) q5a
 exact x7r T sy jb7 jb8 jb9 jba ja5 z_law
end K04

namespace K04
open PySem PySem.Spec PySem.W DL DLE
theorem x1x {w:World} {K:JFr} {h:Heap} {mg:Str→Option Value} {fa:Addr} (X:K.In h) (G:h.Ns jbd mg) (hfa:mg "law" = some (.ref fa)) (cc:∀ p ∈ psl,SaysH p.1 p.2 K) :
  ∃ fd:FuncData,(∀ (s:Shared) (u:Value),BindsTo s fd ⟨[u],[]⟩ [("_law_script",u)])∧∀ base:Heap,K.In base→base.Ns jbd mg→x1L base→FG ⟨PySem.Challenge.rw_whichrow_k04_texts_of_stores.prog,w,K,mg⟩ base 11 fa fd ["_law_script"] (@spP ⟨[]⟩ ⟨PySem.Challenge.rw_whichrow_k04_texts_of_stores.prog,w,K,mg⟩ 1 z5I):=by
 letI:DL.Tbls:=⟨[]⟩
 have c0:SaysH x9R x9S K:=cc P0 (Q0N (i:=0) rfl)
 have c1:SaysH x9T x9U K:=cc P1 (Q0N (i:=1) rfl)
 obtain ⟨_,_,_,_,_,_,_,_,_,l_Store_init,c_Store_init⟩:=c0.def_ 21 (d:=q7s) rfl
 obtain ⟨_,_,_,_,_,_,_,_,_,l_Store_facts,c_Store_facts⟩:=c0.def_ 22 (d:=q6t) rfl
 obtain ⟨_,_,_,_,_,_,_,_,_,l_Store_text,c_Store_text⟩:=c1.def_ 0 (d:=q7t) rfl
 obtain ⟨_,_,_,_,_,_,_,_,_,l_Store_without,c_Store_without⟩:=c1.def_ 6 (d:=q5z) rfl
 obtain ⟨_,_,_,_,_,_,_,_,_,l_Store_read,c_Store_read⟩:=c1.def_ 10 (d:=q7u) rfl
 obtain ⟨_,_,_,q_Store_init⟩:=q9C (K:=K) (rs:=[(x8L K (dtR K (He.ma K (He.ga K "Store") "__init__")) 0)]) (c0.fact 33 (f:=B33) rfl)
 obtain ⟨_,_,_,e0_Store_init⟩:=q9C (K:=K) (rs:=[]) (c0.fact 34 (f:=B34) rfl)
 obtain ⟨_,r_Store_facts⟩:=z2J (K:=K) (c0.fact 38 (f:=B38) rfl)
 obtain ⟨_,r_Store_text⟩:=z2J (K:=K) (c0.fact 43 (f:=B43) rfl)
 obtain ⟨_,r_Store_read⟩:=z2J (K:=K) (c1.fact 9 (f:=B62) rfl)
 obtain ⟨t_BAR,g_BAR⟩:=z2K (c1.fact 46 (f:=B99) rfl)
 obtain ⟨t_DIGITS,g_DIGITS⟩:=z2K (c1.fact 47 (f:=x9M) rfl)
 obtain ⟨t_LETTERS,g_LETTERS⟩:=z2K (c1.fact 48 (f:=x9N) rfl)
 obtain ⟨t_LONGEST_NAME,g_LONGEST_NAME⟩:=z2L (c1.fact 49 (f:=x9O) rfl)
 obtain ⟨t_MOST_COLUMNS,g_MOST_COLUMNS⟩:=z2L (c1.fact 50 (f:=x9P) rfl)
 obtain ⟨t_MOST_TABLES,g_MOST_TABLES⟩:=z2L (c1.fact 51 (f:=x9Q) rfl)
 exact x8n (l:=PySem.Challenge.rw_whichrow_k04_texts_of_stores) X G hfa (of_decide_eq_true (c0.fact 0 (f:=B0) rfl)) (of_decide_eq_true (c0.fact 1 (f:=B1) rfl)) (of_decide_eq_true (c0.fact 2 (f:=B2) rfl)) (c0.fact 3 (f:=B3) rfl) (of_decide_eq_true (c0.fact 4 (f:=B4) rfl)) (c0.fact 5 (f:=B5) rfl) (of_decide_eq_true (c0.fact 6 (f:=B6) rfl)) (of_decide_eq_true (c0.fact 7 (f:=B7) rfl)) (of_decide_eq_true (c0.fact 8 (f:=B8) rfl)) (q2I (c0.def_ 0 (d:=gF "is_integer" "is_integer" q3o) rfl) (c0.fact 9 (f:=B9) rfl)) (q2I (c0.def_ 1 (d:=gF "is_name" "is_name" q5u) rfl) (c0.fact 10 (f:=B10) rfl)) (q2I (c0.def_ 2 (d:=gF "is_number_of_columns" "is_number_of_columns" q1h) rfl) (c0.fact 11 (f:=B11) rfl)) (q2I (c0.def_ 3 (d:=gF "is_table" "is_table" q4F) rfl) (c0.fact 12 (f:=B12) rfl)) (q2I (c0.def_ 4 (d:=gF "has_size" "has_size" q4G) rfl) (c0.fact 13 (f:=B13) rfl)) (q2I (c0.def_ 5 (d:=gF "bad_parts" "bad_parts" q3T) rfl) (c0.fact 14 (f:=B14) rfl)) (q2I (c0.def_ 6 (d:=gF "columns" "columns" q5v) rfl) (c0.fact 15 (f:=B15) rfl)) (q2I (c0.def_ 7 (d:=gF "are_integers" "are_integers" q2E) rfl) (c0.fact 16 (f:=B16) rfl)) (q2I (c0.def_ 8 (d:=gF "is_fact" "is_fact" q5w) rfl) (c0.fact 17 (f:=B17) rfl)) (q2I (c0.def_ 9 (d:=gF "is_block" "is_block" q4H) rfl) (c0.fact 18 (f:=B18) rfl)) (q2I (c0.def_ 10 (d:=gF "block_in" "block_in" q4I) rfl) (c0.fact 19 (f:=B19) rfl)) (q2I (c0.def_ 11 (d:=gF "integer_in" "integer_in" q3p) rfl) (c0.fact 20 (f:=B20) rfl)) (q2I (c0.def_ 12 (d:=gF "lines_of" "lines_of" q4J) rfl) (c0.fact 21 (f:=B21) rfl)) (q2I (c0.def_ 13 (d:=gF "show_row" "show_row" q4K) rfl) (c0.fact 22 (f:=B22) rfl)) (q2I (c0.def_ 14 (d:=gF "row_in" "row_in" q6s) rfl) (c0.fact 23 (f:=B23) rfl)) (q2I (c0.def_ 15 (d:=gF "show_store" "show_store" q3q) rfl) (c0.fact 24 (f:=B24) rfl)) (q2I (c0.def_ 16 (d:=gF "table_in" "table_in" q4L) rfl) (c0.fact 25 (f:=B25) rfl)) (q2I (c0.def_ 17 (d:=gF "fact_in" "fact_in" q5x) rfl) (c0.fact 26 (f:=B26) rfl)) (q2I (c0.def_ 18 (d:=gF "is_next_table" "is_next_table" q2k) rfl) (c0.fact 27 (f:=B27) rfl)) (q2I (c0.def_ 19 (d:=gF "read_store" "read_store" q3r) rfl) (c0.fact 28 (f:=B28) rfl)) (q2I (c0.def_ 20 (d:=gF "facts_by_block" "facts_by_block" q1V) rfl) (c0.fact 29 (f:=B29) rfl)) (of_decide_eq_true (c0.fact 30 (f:=B30) rfl)) (c0.fact 31 (f:=B31) rfl) l_Store_init c_Store_init (c0.fact 32 (f:=B32) rfl) q_Store_init e0_Store_init (of_decide_eq_true (c0.fact 35 (f:=B35) rfl)) (of_decide_eq_true (c0.fact 36 (f:=B36) rfl)) (of_decide_eq_true (c0.fact 37 (f:=B37) rfl)) r_Store_facts l_Store_facts c_Store_facts (c0.fact 39 (f:=B39) rfl) (of_decide_eq_true (c0.fact 40 (f:=B40) rfl)) (of_decide_eq_true (c0.fact 41 (f:=B41) rfl)) (of_decide_eq_true (c0.fact 42 (f:=B42) rfl)) r_Store_text l_Store_text c_Store_text (c0.fact 44 (f:=B44) rfl) (z2i (c1.def_ 1 (d:=mF (fun K=>(He.ga K "Store")) "__contains__" "Store.__contains__" q1W) rfl) (c0.fact 45 (f:=B45) rfl)) (z2i (c1.def_ 2 (d:=mF (fun K=>(He.ga K "Store")) "__eq__" "Store.__eq__" q4M) rfl) (c0.fact 46 (f:=B46) rfl)) (z2i (c1.def_ 3 (d:=mF (fun K=>(He.ga K "Store")) "block_of" "Store.block_of" q1Y) rfl) (c0.fact 47 (f:=B47) rfl)) (z2i (c1.def_ 4 (d:=mF (fun K=>(He.ga K "Store")) "facts_of" "Store.facts_of" q1Z) rfl) (c0.fact 48 (f:=B48) rfl)) (z2i (c1.def_ 5 (d:=mF (fun K=>(He.ga K "Store")) "joined" "Store.joined" q2F) rfl) (c0.fact 49 (f:=B49) rfl)) (of_decide_eq_true (c0.fact 50 (f:=B50) rfl)) (c0.fact 51 (f:=B51) rfl) (of_decide_eq_true (c0.fact 52 (f:=B52) rfl)) (of_decide_eq_true (c1.fact 0 (f:=B53) rfl)) (c1.fact 1 (f:=B54) rfl) l_Store_without c_Store_without (c1.fact 2 (f:=B55) rfl) (z2i (c1.def_ 7 (d:=mF (fun K=>(He.ga K "Store")) "settled_once" "Store.settled_once" q1r) rfl) (c1.fact 3 (f:=B56) rfl)) (z2i (c1.def_ 8 (d:=mF (fun K=>(He.ga K "Store")) "settled" "Store.settled" q2l) rfl) (c1.fact 4 (f:=B57) rfl)) (z2i (c1.def_ 9 (d:=mF (fun K=>(He.ga K "Store")) "part" "Store.part" q3s) rfl) (c1.fact 5 (f:=B58) rfl)) (c1.fact 6 (f:=B59) rfl) (of_decide_eq_true (c1.fact 7 (f:=B60) rfl)) (x5o (c1.fact 8 (f:=B61) rfl)) r_Store_read (c1.fact 10 (f:=B63) rfl) l_Store_read c_Store_read (c1.fact 11 (f:=B64) rfl) (q2I (c1.def_ 11 (d:=gF "_law_purse" "_law_purse" q3U) rfl) (c1.fact 12 (f:=B65) rfl)) (q2I (c1.def_ 12 (d:=gF "_law_take" "_law_take" q4N) rfl) (c1.fact 13 (f:=B66) rfl)) (q2I (c1.def_ 13 (d:=gF "_law_one" "_law_one" q5y) rfl) (c1.fact 14 (f:=B67) rfl)) (q2I (c1.def_ 14 (d:=gF "_law_names" "_law_names" q3V) rfl) (c1.fact 15 (f:=B68) rfl)) (q2I (c1.def_ 15 (d:=gF "_law_schema" "_law_schema" q3t) rfl) (c1.fact 16 (f:=B69) rfl)) (q2I (c1.def_ 16 (d:=gF "_law_integer" "_law_integer" q2Y) rfl) (c1.fact 17 (f:=B70) rfl)) (q2I (c1.def_ 17 (d:=gF "_law_facts" "_law_facts" q3W) rfl) (c1.fact 18 (f:=B71) rfl)) (q2I (c1.def_ 18 (d:=gF "_law_written" "_law_written" q2Z) rfl) (c1.fact 19 (f:=B72) rfl)) (q2I (c1.def_ 19 (d:=gF "_law_text" "_law_text" q4O) rfl) (c1.fact 20 (f:=B73) rfl)) (q2I (c1.def_ 20 (d:=gF "_law_right" "_law_right" q3Y) rfl) (c1.fact 21 (f:=B74) rfl)) (q2I (c1.def_ 21 (d:=gF "law" "law" z5k) rfl) (c1.fact 22 (f:=B75) rfl)) (c1.fact 23 (f:=B76) rfl) (c1.fact 24 (f:=B77) rfl) (c1.fact 25 (f:=B78) rfl) (of_decide_eq_true (c1.fact 26 (f:=B79) rfl)) (c1.fact 27 (f:=B80) rfl) (c1.fact 28 (f:=B81) rfl) (of_decide_eq_true (c1.fact 29 (f:=B82) rfl)) (of_decide_eq_true (c1.fact 30 (f:=B83) rfl)) (of_decide_eq_true (c1.fact 31 (f:=B84) rfl)) (of_decide_eq_true (c1.fact 32 (f:=B85) rfl)) (of_decide_eq_true (c1.fact 33 (f:=B86) rfl)) (of_decide_eq_true (c1.fact 34 (f:=B87) rfl)) (of_decide_eq_true (c1.fact 35 (f:=B88) rfl)) (of_decide_eq_true (c1.fact 36 (f:=B89) rfl)) (of_decide_eq_true (c1.fact 37 (f:=B90) rfl)) (of_decide_eq_true (c1.fact 38 (f:=B91) rfl)) (of_decide_eq_true (c1.fact 39 (f:=B92) rfl)) (of_decide_eq_true (c1.fact 40 (f:=B93) rfl)) (of_decide_eq_true (c1.fact 41 (f:=B94) rfl)) (of_decide_eq_true (c1.fact 42 (f:=B95) rfl)) (of_decide_eq_true (c1.fact 43 (f:=B96) rfl)) (of_decide_eq_true (c1.fact 44 (f:=B97) rfl)) (of_decide_eq_true (c1.fact 45 (f:=B98) rfl)) g_BAR g_DIGITS g_LETTERS g_LONGEST_NAME g_MOST_COLUMNS g_MOST_TABLES
end K04
open PySem PySem.W PySem.Calls PyProof.Rows
theorem PySem.Challenge.cw_whichrow_k04_texts_of_stores_holds : PySem.Challenge.rw_whichrow_k04_texts_of_stores.Holds := by
 refine K04.x8Q ?hc
 letI:DL.Tbls:=⟨[]⟩
 refine DLE.x9o (l:=PySem.Challenge.rw_whichrow_k04_texts_of_stores) (n:=63) (k:=11) (x:="_law_script") (Fw:=K04.z5I) rfl (by decide) K04.j0p ⟨rfl,by decide,by decide⟩ rfl K04.j0q rfl ?F (@K04.z8R ⟨[]⟩)
 intro w mg fa h Y G hmg0
 obtain ⟨K,KX,c⟩:=Y
 rw [K04.j0r] at hmg0
 exact ⟨K,KX,K04.x1x KX G hmg0 c⟩

