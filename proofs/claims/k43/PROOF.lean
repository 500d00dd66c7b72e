import PyProof.Rows.All
import Wide.All
import OpenK.AllK
import Wide.FinOn
import HandS.ForMost
import HandS.Style
import HandS.IsInst
import HandS.OwnEq
import HandS.TupLen
import HandS.Conv
import HandS.DictComp
import HandS.TupSets
import HandS.Wide
import HandS.Walk
import HandS.Zip
import HandS.Evl
import HandS.TupAny
import HandS.Deep
import HandS.DictTup
import KE.KDictCopyH
import KE.KDictSum
import PyProof.InstNe
import HandS.Defaults
import HandS.Star
import KE.GoesMore
import KE.GoesZip
import KE.GoesEnum
import HandS.TupMul
import HandS.TupLe
import HandS.SortOrd
import HandS.SortRule
import HandS.SortInts
import HandS.SortKw
import HandS.Strs
import HandS.SetKeys
import HandS.FStr
import HandS.StrMore
import HandS.StrSplit
import HandS.Property
import HandS.NoneIn
import HandS.Flow
import HandS.Replace
import HandS.SetFor
import HandS.ListItems
import KE.GoesEnumKw
import KE.KeyNested
import PyProof.DictMoreH
import KE.DataCmp
import HandS.Exc
import HandS.ExcOwn
import HandS.ExcIs
import KE.DataMinMax
import HandS.ExcSuper
import KE.KExcSuper
import HandS.ExcField
import KE.KExcIs
import HandS.Text
import KE.SortData
import KE.KExcPX
import HandS.TryOnly
import HandS.Small
import KE.KDictZip
import PyProof.WalksMore
import KE.KEqNest
import KE.KDictWalk
import HandS.SetBool
import HandS.GenList
import HandS.Keys
import KE.KDictDisplayH
import KE.KStateDown
import HandS.Head0
import HandS.Head1
import HandS.Head2
import HandS.HeadHook1
import HandS.HeadHook2
import PySem.Challenge.RW_bytoldways_k43_whether_order_counts
set_option Elab.async false
set_option linter.all false
set_option maxRecDepth 100000
set_option maxHeartbeats 4000000
theorem oa:type_of% @Array.getElem?_toList:=@Array.getElem?_toList
theorem hY:type_of% @Array.length_toList:=@Array.length_toList
theorem q5:type_of% @Array.mem_toList_iff:=@Array.mem_toList_iff
theorem bN:type_of% @Bool.and_eq_true:=@Bool.and_eq_true
theorem kn:type_of% @Bool.false_ne_true:=@Bool.false_ne_true
theorem i3:type_of% @Bool.or_eq_true:=@Bool.or_eq_true
theorem qZ:type_of% @Bool.true_or:=@Bool.true_or
theorem pD:type_of% @Int.toNat_natCast:=@Int.toNat_natCast
theorem nZ:type_of% @Int.zero_add:=@Int.zero_add
theorem dv:type_of% @List.all_eq_true:=@List.all_eq_true
theorem iK:type_of% @List.any_eq_true:=@List.any_eq_true
theorem dI:type_of% @List.append_assoc:=@List.append_assoc
theorem b6:type_of% @List.append_nil:=@List.append_nil
theorem u7:type_of% @List.drop_eq_getElem_cons:=@List.drop_eq_getElem_cons
theorem mK:type_of% @List.ext_getElem?:=@List.ext_getElem?
theorem xS:type_of% @List.filterMap_cons_none:=@List.filterMap_cons_none
theorem xR:type_of% @List.filterMap_cons_some:=@List.filterMap_cons_some
theorem jL:type_of% @List.filter_cons_of_neg:=@List.filter_cons_of_neg
theorem jK:type_of% @List.filter_cons_of_pos:=@List.filter_cons_of_pos
theorem u6:type_of% @List.find?_cons:=@List.find?_cons
theorem u5:type_of% @List.getElem?_append_left:=@List.getElem?_append_left
theorem c8:type_of% @List.getElem?_eq_getElem:=@List.getElem?_eq_getElem
theorem gB:type_of% @List.getElem?_eq_none:=@List.getElem?_eq_none
theorem fE:type_of% @List.getElem?_eq_some_iff:=@List.getElem?_eq_some_iff
theorem cB:type_of% @List.getElem?_map:=@List.getElem?_map
theorem uZ:type_of% @List.getElem?_of_mem:=@List.getElem?_of_mem
theorem cG:type_of% @List.getElem?_set_ne:=@List.getElem?_set_ne
theorem ig:type_of% @List.getElem?_set_self:=@List.getElem?_set_self
theorem cX:type_of% @List.length_append:=@List.length_append
theorem cR:type_of% @List.length_cons:=@List.length_cons
theorem uY:type_of% @List.length_filter_le:=@List.length_filter_le
theorem aT:type_of% @List.length_map:=@List.length_map
theorem xQ:type_of% @List.length_replicate:=@List.length_replicate
theorem nY:type_of% @List.length_reverse:=@List.length_reverse
theorem gG:type_of% @List.length_set:=@List.length_set
theorem jX:type_of% @List.lookup_cons:=@List.lookup_cons
theorem dA:type_of% @List.map_append:=@List.map_append
theorem jJ:type_of% @List.map_congr_left:=@List.map_congr_left
theorem bU:type_of% @List.map_cons:=@List.map_cons
theorem cF:type_of% @List.map_map:=@List.map_map
theorem bc:type_of% @List.mem_append:=@List.mem_append
theorem au:type_of% @List.mem_append_left:=@List.mem_append_left
theorem aJ:type_of% @List.mem_append_right:=@List.mem_append_right
theorem aU:type_of% @List.mem_cons:=@List.mem_cons
theorem aE:type_of% @List.mem_cons_of_mem:=@List.mem_cons_of_mem
theorem ao:type_of% @List.mem_cons_self:=@List.mem_cons_self
theorem gL:type_of% @List.mem_filter:=@List.mem_filter
theorem aW:type_of% @List.mem_map:=@List.mem_map
theorem pC:type_of% @List.mem_map_of_mem:=@List.mem_map_of_mem
theorem fP:type_of% @List.mem_of_getElem?:=@List.mem_of_getElem?
theorem bm:type_of% @List.mem_singleton:=@List.mem_singleton
theorem cA:type_of% @List.nodup_append:=@List.nodup_append
theorem bT:type_of% @List.nodup_cons:=@List.nodup_cons
theorem b5:type_of% @List.nodup_nil:=@List.nodup_nil
theorem jI:type_of% @List.pairwise_cons:=@List.pairwise_cons
theorem nX:type_of% @List.pairwise_map:=@List.pairwise_map
theorem pB:type_of% @List.reverse_cons:=@List.reverse_cons
theorem pA:type_of% @List.size_toArray:=@List.size_toArray
theorem pz:type_of% @Nat.add_right_comm:=@Nat.add_right_comm
theorem uX:type_of% @Nat.le_add_right:=@Nat.le_add_right
theorem iY:type_of% @Nat.le_of_lt:=@Nat.le_of_lt
theorem bS:type_of% @Nat.le_refl:=@Nat.le_refl
theorem dH:type_of% @Nat.le_trans:=@Nat.le_trans
theorem mJ:type_of% @Nat.lt_of_lt_of_le:=@Nat.lt_of_lt_of_le
theorem kj:type_of% @Nat.lt_or_ge:=@Nat.lt_or_ge
theorem uW:type_of% @Nat.lt_succ_of_lt:=@Nat.lt_succ_of_lt
theorem uV:type_of% @Nat.lt_succ_self:=@Nat.lt_succ_self
theorem jk:type_of% @Nat.ne_of_lt:=@Nat.ne_of_lt
theorem uU:type_of% @Nat.not_lt_zero:=@Nat.not_lt_zero
theorem uT:type_of% @Nat.succ_le_succ:=@Nat.succ_le_succ
theorem nW:type_of% @Nat.zero_add:=@Nat.zero_add
theorem eR:type_of% @Nat.zero_le:=@Nat.zero_le
theorem du:type_of% @Option.bind_some:=@Option.bind_some
theorem jH:type_of% @Option.map_eq_some_iff:=@Option.map_eq_some_iff
theorem qY:type_of% @Option.none_or:=@Option.none_or
namespace Mp
open PySem PySem.Spec PyProof.Rows L2
def ft (i:Nat):Stmt:=PySem.Challenge.pw_bytoldways_k43_whether_order_counts.main.body.getD i (.Pass ⟨0,0,0,0⟩)
abbrev vQ:Stmt:=ft 32
abbrev vP:Stmt:=ft 33
abbrev sv:Stmt:=ft 35
abbrev oB:Stmt:=ft 42
abbrev sA:Stmt:=ft 36
abbrev vN:Stmt:=ft 39
abbrev oC:Stmt:=ft 40
abbrev vR:Stmt:=ft 13
abbrev vT:Stmt:=ft 14
abbrev sD:Stmt:=ft 22
abbrev sF:Stmt:=ft 15
abbrev sG:Stmt:=inClass (ft 26) 0
abbrev sJ:Stmt:=inClass (ft 26) 3
abbrev vU:Stmt:=ft 7
abbrev sH:Stmt:=inClass (ft 26) 8
abbrev vK:Stmt:=ft 28
abbrev mZ:Stmt:=ft 29
abbrev sq:Stmt:=ft 30
abbrev vL:Stmt:=ft 37
abbrev sB:Stmt:=ft 38
abbrev sy:Stmt:=ft 43
abbrev sw:Stmt:=ft 41
abbrev vO:Stmt:=ft 44
abbrev vM:Stmt:=ft 45
abbrev jw:Stmt:=ft 46
end Mp
namespace Mp
open PySem PySem.Spec PyProof.Rows L2
def dM (K:PySem.W.Frag) (a:Addr):He.FnW:=match K.lookup a with
 | some ⟨_,_,.func fd,_⟩=>some (fd.name,fd.qualname,fd.params,fd.body,fd.scope,fd.globals,fd.closure,fd.builtins)
 | _=>none
def EO (K:PySem.W.Frag) (a:Addr):Value:=match K.lookup a with
 | some ⟨c,_,_,_⟩=>c
 | none=>.none
def EN (K:PySem.W.Frag) (a:Addr):Option Addr:=match K.lookup a with
 | some ⟨_,d,_,_⟩=>d
 | none=>none
def Dt (K:PySem.W.Frag) (a:Addr):Array (Option Value):=match K.lookup a with
 | some ⟨_,_,_,s⟩=>s
 | none=>#[]
def mG {β:Type} (K:PySem.W.Frag) (a:Addr) (g:FuncData->β) (d:β):β:=match K.lookup a with
 | some ⟨_,_,.func fd,_⟩=>g fd
 | _=>d
abbrev uG (K:PySem.W.Frag) (a:Addr):Value:=mG K a (fun f=>f.defaults) .none
abbrev FF (K:PySem.W.Frag) (a:Addr):Value:=mG K a (fun f=>f.kwdefaults) .none
abbrev GA (K:PySem.W.Frag) (a:Addr):Value:=mG K a (fun f=>f.doc) .none
abbrev Eh (K:PySem.W.Frag) (a:Addr):Value:=mG K a (fun f=>f.pyModule) .none
abbrev GT (K:PySem.W.Frag) (a:Addr):Option Addr:=mG K a (fun f=>f.annotations) none
abbrev uM (K:PySem.W.Frag) (a:Addr):Value:=mG K a (fun f=>f.code) .none
abbrev GF (K:PySem.W.Frag) (a:Addr):Value:=mG K a (fun f=>f.closureTuple) .none
def JO (K:PySem.W.Frag) (x:Str):Tok:=match PySem.W.nsIn K mainGlobals x with
 | some (some (.str _ t))=>t
 | some (some (.int _ t))=>t
 | _=>default
theorem Gj {K:PySem.W.Frag} {a:Addr} {n q:Str} {ps:Arguments} {bd:List Stmt} {sc:Scope} (e:dM K a=some (n,q,ps,.stmts bd,sc,mainGlobals,[],builtinsNs)) (d:uG K a=.none):K.lookup a=some ⟨EO K a,EN K a,.func (PySem.W.fnOf n q ps bd sc .none (FF K a) (GA K a) (Eh K a) (GT K a) (uM K a) (GF K a)),Dt K a⟩:=by
 unfold dM at e;unfold uG mG at d;unfold EO EN Dt FF GA Eh GT uM GF mG
 cases h:K.lookup a with
 | none =>
  rw[h] at e
  cases e
 | some o =>
  obtain⟨oc,od,dt,sl⟩:=o;rw[h] at e d
  cases dt with
  | func fd =>
   obtain⟨n1,n2,n3,n4,n5,n6,n7,n8,n9,n10,n11,n12,n13,n14,n15⟩:=fd;have e2:(some (n1,n2,n3,n4,n5,n6,n7,n15):He.FnW)=some (n,q,ps,.stmts bd,sc,mainGlobals,[],builtinsNs):=e;have d2:n8=.none:=d;simp only[Option.some.injEq,Prod.mk.injEq] at e2;obtain⟨h1,h2,h3,h4,h5,h6,h7,h8⟩:=e2;subst h1 h2 h3 h4 h5 h6 h7 h8 d2;rfl
  | _=>cases e
def Ah (n:Nat) (chk:PySem.W.Frag->List Bool) (fs:PySem.W.Frag->List He.FnW) (g:Addr->Option Obj):He.AlD:=((chk (He.frG g (List.range n))).all id,fs (He.frG g (List.range n)))
def Gb (n:Nat) (chk:PySem.W.Frag->List Bool) (fs:PySem.W.Frag->List He.FnW) (vs:List He.FnW):PySem.W.Hook where
 α:=He.AlD
 obs:=fun s=>Ah n chk fs s.heap.get?
 val:=fun _=>(true,vs)
 says:=fun _ h=>∃K:PySem.W.Frag,K.In h/\(((chk K).all id,fs K):He.AlD)=(true,vs)
 of:=fun _ _ e=>⟨_,He.frG_in,e⟩
 keeps:=fun _ _ _ ⟨K,hK,c⟩ k=>⟨K,PySem.W.Frag.In.keeps hK k,c⟩
theorem Nv {n:Nat} {chk:PySem.W.Frag->List Bool} {fs:PySem.W.Frag->List He.FnW} {vs:List He.FnW} {g:Addr->Option Obj} {s:Shared} (h:∀a,g a=s.heap.get? a):Ah n chk fs g=(Gb n chk fs vs).obs s:=by
 have e:g=s.heap.get?:=funext h;rw[e]<;>rfl
def fM (K:PySem.W.Frag) (a:Addr) (q:Str):Bool:=decide (uG K a=.none/\PySem.W.codeIn K (uM K a) q=true/\PySem.W.keepIn K (.ref a)=true)
def fv (n q:Str) (st:Stmt):He.FnW:=some (n,q,defArgs st,.stmts (defBody st),defScope st,mainGlobals,[],builtinsNs)
theorem ck {l:List Bool} (c:l.all id=true) (i:Nat) {p:Prop} [Decidable p] (e:l[i]?=some (decide p)):p:=of_decide_eq_true (dv.mp c _ (fP e))
theorem fk {α:Type} {l m:List α} (c:l=m) (i:Nat) {o v:α} (h1:l[i]?=some o) (h2:m[i]?=some v):o=v:=by
 subst c;exact Option.some.inj (h1.symm.trans h2)
end Mp
namespace Mp
open PySem PySem.Spec PyProof.Rows L2
def iE (K:PySem.W.Frag):Addr:=He.ga K "Policy"
def tR (K:PySem.W.Frag):Addr:=He.ga K "_law_deck"
def tH (K:PySem.W.Frag):Addr:=He.ga K "_law_draw"
def sZ (K:PySem.W.Frag):Addr:=He.ga K "_law_ties"
def sY (K:PySem.W.Frag):Addr:=He.ga K "_law_some"
def sX (K:PySem.W.Frag):Addr:=He.ga K "_law_ears"
def sW (K:PySem.W.Frag):Addr:=He.ga K "_law_more"
def sV (K:PySem.W.Frag):Addr:=He.ga K "_law_gap"
def sU (K:PySem.W.Frag):Addr:=He.ga K "is_integer"
def sT (K:PySem.W.Frag):Addr:=He.ga K "is_below"
def tQ (K:PySem.W.Frag):Addr:=He.ga K "is_pair"
def tP (K:PySem.W.Frag):Addr:=He.ga K "do_rise"
def qe (K:PySem.W.Frag):Addr:=He.ma K (iE K) "__init__"
def qd (K:PySem.W.Frag):Addr:=He.ma K (iE K) "__contains__"
def tN (K:PySem.W.Frag):Addr:=He.ga K "hear_neither"
def qc (K:PySem.W.Frag):Addr:=He.ma K (iE K) "hearers"
def tM (K:PySem.W.Frag):Addr:=He.ga K "with_hearers"
def tL (K:PySem.W.Frag):Addr:=He.ga K "order_gap"
def tK (K:PySem.W.Frag):Addr:=He.ga K "order_counts"
def tJ (K:PySem.W.Frag):Addr:=He.ga K "_law_told"
def tF (K:PySem.W.Frag):Addr:=He.ga K "_law_come"
def tD (K:PySem.W.Frag):Addr:=He.ga K "_law_is_gap"
def tx (K:PySem.W.Frag):Addr:=He.ga K "_law_rows"
def tj (K:PySem.W.Frag):Addr:=He.ga K "_law_has_none"
def s9 (K:PySem.W.Frag):Addr:=He.ga K "_law_right"
def oI (K:PySem.W.Frag):Addr:=He.ga K "law"
def DV (K:PySem.W.Frag):Tok:=JO K "PAIR"
def AX (K:PySem.W.Frag):List Bool:=[decide (PySem.W.nsIn K mainGlobals "Policy"=some (some (.ref (iE K)))),decide (PySem.W.plainGet K (iE K) Str.empty=true),decide (PySem.W.hasDictIn K (iE K)=true),decide (PySem.W.plainOver K (iE K)=true),decide (PySem.W.findIn K (.ref (iE K)) "__setattr__"=some (some (.builtin "object.__setattr__"))),decide (PySem.W.makesIn K (iE K)=true),decide (PySem.W.keepIn K (.ref (iE K))=true),decide (PySem.W.findIn K (.ref (iE K)) "pairs"=some none),decide (PySem.W.findIn K (.ref (iE K)) "users"=some none),decide (PySem.W.nsIn K mainGlobals "_law_deck"=some (some (.ref (tR K)))),fM K (tR K) "_law_deck",decide (PySem.W.nsIn K mainGlobals "_law_draw"=some (some (.ref (tH K)))),fM K (tH K) "_law_draw",decide (PySem.W.nsIn K mainGlobals "_law_ties"=some (some (.ref (sZ K)))),fM K (sZ K) "_law_ties",decide (PySem.W.nsIn K mainGlobals "_law_some"=some (some (.ref (sY K)))),fM K (sY K) "_law_some",decide (PySem.W.nsIn K mainGlobals "_law_ears"=some (some (.ref (sX K)))),fM K (sX K) "_law_ears",decide (PySem.W.nsIn K mainGlobals "_law_more"=some (some (.ref (sW K)))),fM K (sW K) "_law_more",decide (PySem.W.nsIn K mainGlobals "_law_gap"=some (some (.ref (sV K)))),fM K (sV K) "_law_gap",decide (PySem.W.nsIn K mainGlobals "is_integer"=some (some (.ref (sU K)))),fM K (sU K) "is_integer"]
def AW (K:PySem.W.Frag):List Bool:=[decide (PySem.W.nsIn K mainGlobals "is_below"=some (some (.ref (sT K)))),fM K (sT K) "is_below",decide (PySem.W.nsIn K mainGlobals "is_pair"=some (some (.ref (tQ K)))),fM K (tQ K) "is_pair",decide (PySem.W.nsIn K mainGlobals "do_rise"=some (some (.ref (tP K)))),fM K (tP K) "do_rise",decide (PySem.W.findIn K (.ref (iE K)) "__init__"=some (some (.ref (qe K)))),decide (PySem.W.isFn K (.ref (qe K))=true),fM K (qe K) "Policy.__init__",decide (PySem.W.findIn K (.ref (iE K)) "__contains__"=some (some (.ref (qd K)))),decide (PySem.W.isFn K (.ref (qd K))=true),fM K (qd K) "Policy.__contains__",decide (PySem.W.nsIn K mainGlobals "hear_neither"=some (some (.ref (tN K)))),fM K (tN K) "hear_neither",decide (PySem.W.findIn K (.ref (iE K)) "hearers"=some (some (.ref (qc K)))),decide (PySem.W.isFn K (.ref (qc K))=true),fM K (qc K) "Policy.hearers",decide (PySem.W.nsIn K mainGlobals "with_hearers"=some (some (.ref (tM K)))),fM K (tM K) "with_hearers",decide (PySem.W.nsIn K mainGlobals "order_gap"=some (some (.ref (tL K)))),fM K (tL K) "order_gap",decide (PySem.W.nsIn K mainGlobals "order_counts"=some (some (.ref (tK K)))),fM K (tK K) "order_counts",decide (PySem.W.nsIn K mainGlobals "_law_told"=some (some (.ref (tJ K)))),fM K (tJ K) "_law_told"]
def AV (K:PySem.W.Frag):List Bool:=[decide (PySem.W.nsIn K mainGlobals "_law_come"=some (some (.ref (tF K)))),fM K (tF K) "_law_come",decide (PySem.W.nsIn K mainGlobals "_law_is_gap"=some (some (.ref (tD K)))),fM K (tD K) "_law_is_gap",decide (PySem.W.nsIn K mainGlobals "_law_rows"=some (some (.ref (tx K)))),fM K (tx K) "_law_rows",decide (PySem.W.nsIn K mainGlobals "_law_has_none"=some (some (.ref (tj K)))),fM K (tj K) "_law_has_none",decide (PySem.W.nsIn K mainGlobals "_law_right"=some (some (.ref (s9 K)))),fM K (s9 K) "_law_right",decide (PySem.W.nsIn K mainGlobals "law"=some (some (.ref (oI K)))),decide (uG K (oI K)=.none),decide (PySem.W.codeIn K (uM K (oI K)) "law"=true),decide (PySem.W.keepIn K (.ref (oI K))=true),decide (PySem.W.nsIn K mainGlobals "all"=some none),decide (PySem.W.nsIn K mainGlobals "bool"=some none),decide (PySem.W.nsIn K mainGlobals "int"=some none),decide (PySem.W.nsIn K mainGlobals "isinstance"=some none),decide (PySem.W.nsIn K mainGlobals "len"=some none),decide (PySem.W.nsIn K mainGlobals "list"=some none),decide (PySem.W.nsIn K mainGlobals "range"=some none),decide (PySem.W.nsIn K mainGlobals "repr"=some none),decide (PySem.W.nsIn K mainGlobals "set"=some none),decide (PySem.W.nsIn K mainGlobals "sorted"=some none),decide (PySem.W.nsIn K mainGlobals "tuple"=some none)]
def AU (K:PySem.W.Frag):List Bool:=[decide (PySem.W.nsIn K mainGlobals "zip"=some none),decide (PySem.W.nsIn K mainGlobals "PAIR"=some (some (.int 2 (DV K))))]
def jC (K:PySem.W.Frag):List Bool:=[(AX K).all id,(AW K).all id,(AV K).all id,(AU K).all id]
def P6 (K:PySem.W.Frag):List He.FnW:=[dM K (tR K),dM K (tH K),dM K (sZ K),dM K (sY K),dM K (sX K),dM K (sW K),dM K (sV K),dM K (sU K),dM K (sT K),dM K (tQ K),dM K (tP K),dM K (qe K),dM K (qd K),dM K (tN K),dM K (qc K),dM K (tM K),dM K (tL K),dM K (tK K),dM K (tJ K),dM K (tF K),dM K (tD K),dM K (tx K),dM K (tj K),dM K (s9 K),dM K (oI K)]
def PU:List He.FnW:=[fv "_law_deck" "_law_deck" vQ,fv "_law_draw" "_law_draw" vP,fv "_law_ties" "_law_ties" sv,fv "_law_some" "_law_some" oB,fv "_law_ears" "_law_ears" sA,fv "_law_more" "_law_more" vN,fv "_law_gap" "_law_gap" oC,fv "is_integer" "is_integer" vR,fv "is_below" "is_below" vT,fv "is_pair" "is_pair" sD,fv "do_rise" "do_rise" sF,fv "__init__" "Policy.__init__" sG,fv "__contains__" "Policy.__contains__" sJ,fv "hear_neither" "hear_neither" vU,fv "hearers" "Policy.hearers" sH,fv "with_hearers" "with_hearers" vK,fv "order_gap" "order_gap" mZ,fv "order_counts" "order_counts" sq,fv "_law_told" "_law_told" vL,fv "_law_come" "_law_come" sB,fv "_law_is_gap" "_law_is_gap" sy,fv "_law_rows" "_law_rows" sw,fv "_law_has_none" "_law_has_none" vO,fv "_law_right" "_law_right" vM,some ("law", "law",defArgs jw,.stmts (defBody jw),defScope jw,mainGlobals,[],builtinsNs)]
def ut (K:PySem.W.Frag):List He.FnW:=P6 K
def xc:List He.FnW:=PU
def P3:List Str:=["_wall", "__name__", "ToldError", "BadPolicy", "BadText", "OtherUsers", "hear_neither", "DIGITS", "MOST_DIGITS", "BREAK", "BLANK", "is_integer", "is_below", "do_rise", "number_in", "numbers_in"]
def jS:List Str:=["count_in", "PAIR", "PAIR_WORDS", "is_pair", "pair_in", "policy_parts", "check_alike", "Policy", "with_hearers", "order_gap", "order_counts", "_law_deck", "_law_draw", "_law_pick", "_law_ties", "_law_ears"]
def gD:List Str:=["_law_told", "_law_come", "_law_more", "_law_gap", "_law_rows", "_law_some", "_law_is_gap", "_law_has_none", "_law_right"]
def nN:List Str:=P3++jS++gD
abbrev hR:PySem.W.OpenRow:=PySem.W.OpenLaw.row PySem.Challenge.rw_bytoldways_k43_whether_order_counts
abbrev xf:PySem.W.Hook:=Gb 1000 jC ut xc
def AQ (s:PySem.W.SharedT):He.AlD:=Ah 1000 jC ut (HandSHeadRun.getT s)
theorem P0 (s:PySem.W.SharedT):AQ s=xf.obs s.abs:=Nv (HandSHeadRun.getT_eq s)
def P9 (s:PySem.W.SharedT):Bool:=let K:=He.frG (HandSHeadRun.getT s) (List.range 1000); [(AX K).all id,(AW K).all id].all id
def P8 (s:PySem.W.SharedT):Bool:=let K:=He.frG (HandSHeadRun.getT s) (List.range 1000); [(AV K).all id,(AU K).all id].all id
def P4 (s:PySem.W.SharedT):List He.FnW:=ut (He.frG (HandSHeadRun.getT s) (List.range 1000))
noncomputable def uu (w:World) (os:OsState):Option PySem.W.SharedT:=HandSHeadRun.endF (HandSHeadRun.stepQ (HandSHeadRun.denQ HandSHeadRun.tabQ) hR.prog w) 8000 hR.prog w os
set_option maxHeartbeats 0 in
theorem PY (w:World) (os:OsState):(uu w os).map (fun s=>(HandSHeadRun.looksF hR.prog (PySem.W.boot_heap w.params) s.abs,HandSHeadRun.seenQ (PySem.W.view hR.prog [46]) nN (importedModules hR.prog.main.body) (fun s=>PySem.W.xlAt (PySem.W.view hR.prog [46]) [] s && PySem.W.recOk hR.toRowW.records s) s.abs,P9 s))=some (true,PySem.W.openGood (PySem.W.view hR.prog [46]) nN,true):=by kernel_rfl
set_option maxHeartbeats 0 in
theorem PX (w:World) (os:OsState):(uu w os).map P8=some true:=by kernel_rfl
set_option maxHeartbeats 0 in
theorem PV (w:World) (os:OsState):(uu w os).map P4=some xc:=by kernel_rfl
theorem P7 (K:PySem.W.Frag):(jC K).all id=([(AX K).all id,(AW K).all id].all id && [(AV K).all id,(AU K).all id].all id):=by
 unfold jC;simp only[List.all_cons,List.all_nil,Bool.and_true,Bool.and_assoc]
theorem PZ (w:World):HandSHeadRun.RunEq hR (PySem.W.view hR.prog [46]) xf AQ 8000 nN w:=by
 intro os;have a:=PY w os;have b:=PX w os;have c:=PV w os
 show(uu w os).map _=_
 generalize uu w os=e at a b c ⊢
 cases e with
 | none=>cases a
 | some s =>
  have a:=Option.some.inj a;have b:=Option.some.inj b;have c:=Option.some.inj c;have a1:=congrArg (fun p=>p.1) a;have a2:=congrArg (fun p=>p.2.1) a;have a3:=congrArg (fun p=>p.2.2) a;refine congrArg some (Prod.ext a1 (Prod.ext a2 (Prod.ext ?_ c)))
  show(jC (He.frG (HandSHeadRun.getT s) (List.range 1000))).all id=true
  rw[P7];exact Bool.and_eq_true_iff.mpr ⟨a3,b⟩
set_option maxHeartbeats 0 in
open PySem.W PySem.Calls in
theorem Qd (call:PySem.W.WalkO (PySem.W.view hR.prog [46]) nN (PySem.W.XL (PySem.W.view hR.prog [46]) []) xf.says hR.toRowW (HandSHeadRun.topDef hR.prog 46) [] fun f vs=>PySem.call f vs):PySem.Challenge.rw_bytoldways_k43_whether_order_counts.Holds:=by
 w_on; o_law
 refine HandSHeadRun.head_any (r:=OpenLaw.row PySem.Challenge.rw_bytoldways_k43_whether_order_counts) (q:=view (OpenLaw.row PySem.Challenge.rw_bytoldways_k43_whether_order_counts).prog [46]) (H:=xf) (ob:=AQ) (M:=8000) (loose:=nN) (d:=HandSHeadRun.topDef (OpenLaw.row PySem.Challenge.rw_bytoldways_k43_whether_order_counts).prog 46) (kwd:=[]) P0
  (by kernel_rfl) (fun s=>by kernel_rfl) PZ (by kernel_rfl) (by kernel_rfl) (by kernel_rfl) (by rfl) (by first|assumption|decide +kernel) (by decide +kernel) ⟨rfl,rfl,rfl,rfl,rfl,by decide +kernel⟩ ?hw call
 case hw=>w_witness2
end Mp
namespace Tw
open PySem
end Tw
namespace Tw
open PySem L2
theorem iP {H:Hp} {p:Addr} {o:HO} (h:H p=none):Same H (upd H p o):=fun b u e=>by
 rw[upd_ne (ne_of_none e h)]; exact e
theorem Lr {H H':Hp} {a:Addr} {u:HO} (e:Same H H') (h:Rd H a u):Rd H' a u:=by
 rcases h with h|⟨o,h⟩
 ·exact .inl (e a _ h)
 ·exact .inr ⟨o,e a _ h⟩
section
variable {K:PySem.W.Frag} {H H':Hp}
def gA (H H':Hp):Prop:=∀a xs,(Rd H a (.tup xs)->Rd H' a (.tup xs))/\(H a=some (.tup xs)->H' a=some (.tup xs))
theorem gA.refl (H:Hp):gA H H:=fun _ _=>⟨fun h=>h,fun h=>h⟩
theorem gA.trans {H1 H2 H3:Hp} (a:gA H1 H2) (b:gA H2 H3):gA H1 H3:=fun x xs=>⟨fun h=>(b x xs).1 ((a x xs).1 h),fun h=>(b x xs).2 ((a x xs).2 h)⟩
theorem Same.tups (e:Same H H'):gA H H':=fun _ _=>⟨fun h=>Lr e h,fun h=>e _ _ h⟩
theorem CZ {p:Addr} {o u:HO} (h:H p=some o) (h1:∀xs,o≠.tup xs) (h2:∀f xs,o≠.frz f (.tup xs)):gA H (upd H p u):=fun a xs=>by
 have ne:Rd H a (.tup xs)->a≠p:=fun r e=>by
  subst e
  rcases r with r|⟨f,r⟩
  ·rw[h] at r; exact h1 xs (Option.some.inj r)
  ·rw[h] at r; exact h2 f xs (Option.some.inj r)
 refine⟨fun r=>?_,fun r=>by rw[upd_ne (ne (.inl r))]; exact r⟩;have n:=ne r
 rcases r with r|⟨f,r⟩
 ·exact .inl (by rw[upd_ne n]; exact r)
 ·exact .inr ⟨f,by rw[upd_ne n]; exact r⟩
mutual
def Td (H:Hp):V->PyData->Prop
 | v,.none=>v=.non
 | v,.bool b=>v=.bl b
 | v,.int i=>v=.int i
 | v,.str x=>v=.str x
 | _,.list _=>False
 | v,.tuple ds=>∃a xs,v=.ref a/\H a=some (.tup xs)/\TdAll H xs ds
 | _,.dict _=>False
def TdAll (H:Hp):List V->List PyData->Prop
 | [],[]=>True
 | v::vs,d::ds=>Td H v d/\TdAll H vs ds
 | [],_::_=>False
 | _::_,[]=>False
end
mutual
theorem zf (e:gA H H'):∀{v:V} (d:PyData),Td H v d->Td H' v d
 | _,.none,h=>h
 | _,.bool _,h=>h
 | _,.int _,h=>h
 | _,.str _,h=>h
 | _,.list _,h=>h.elim
 | _,.tuple ds,h=>by
  obtain⟨a,xs,e1,h1,h2⟩:=h;exact⟨a,xs,e1,(e _ _).2 h1,tdAll_tups e ds h2⟩
 | _,.dict _,h=>h.elim
theorem tdAll_tups (e:gA H H'):∀{vs:List V} (ds:List PyData),TdAll H vs ds->TdAll H' vs ds
 | [],[],_=>trivial
 | _::_,d::ds,h=>⟨zf e d h.1,tdAll_tups e ds h.2⟩
 | [],_::_,h=>h.elim
 | _::_,[],h=>h.elim
end
mutual
theorem zg:∀{v:V} (d:PyData),Td H v d->Dp K H v d
 | _,.none,h=>by obtain rfl:=h; exact .non
 | _,.bool _,h=>by obtain rfl:=h; exact .bl _
 | _,.int _,h=>by obtain rfl:=h; exact .int _
 | _,.str _,h=>by obtain rfl:=h; exact .str _
 | _,.list _,h=>h.elim
 | _,.tuple ds,h=>by
  obtain⟨a,xs,e1,h1,h2⟩:=h;subst e1;exact .tup (.inl (.inl h1)) (tdAll_dp ds h2)
 | _,.dict _,h=>h.elim
theorem tdAll_dp:∀{vs:List V} (ds:List PyData),TdAll H vs ds->DpAll K H vs ds
 | [],[],_=>.nil
 | _::_,d::ds,h=>.cons (zg d h.1) (tdAll_dp ds h.2)
 | [],_::_,h=>h.elim
 | _::_,[],h=>h.elim
end
end
theorem sz {n:Nat} (h:n<=100000):n<=sizeLine:=dH h (by decide)
def Gy (c:Addr) (s n:Int):List (Key×V):=[(Sum.inr "cells",.ref c),(Sum.inr "stir",.int s),(Sum.inr "draws",.int n)]
structure DeckAt (H:Hp) (dk cl:Addr) (m:Nat):Prop where
 ne:dk≠cl
 ex:∃(s n:Int) (cs:List Int),0<=s/\s<2147483647/\0<=n/\n<=m/\cs.length<=63/\H dk=some (.dK (Gy cl s n))/\H cl=some (.lst (cs.map V.int))
theorem DeckAt.mono {H:Hp} {dk cl:Addr} {m m':Nat} (D:DeckAt H dk cl m) (h:m<=m'):DeckAt H dk cl m':=by
 obtain⟨ne,s,n,cs,a,b,c,d,f,h1,h2⟩:=D;exact⟨ne,s,n,cs,a,b,c,by omega,f,h1,h2⟩
def lB (dk cl:Addr) (H H':Hp):Prop:=∀b o,H b=some o->b≠dk->b≠cl->H' b=some o
theorem lB.refl (dk cl:Addr) (H:Hp):lB dk cl H H:=fun _ _ h _ _=>h
theorem lB.trans {dk cl:Addr} {H1 H2 H3:Hp} (a:lB dk cl H1 H2) (b:lB dk cl H2 H3):lB dk cl H1 H3:=fun x o h n m=>b x o (a x o h n m) n m
theorem Same.but {dk cl:Addr} {H H':Hp} (e:Same H H'):lB dk cl H H':=fun b o h _ _=>e b o h
theorem lB.tups {dk cl:Addr} {H H':Hp} (D:∃o u,H dk=some (.dK o)/\H cl=some (.lst u)) (e:lB dk cl H H'):gA H H':=fun a xs=>by
 obtain⟨o,u,h1,h2⟩:=D
 have n1:Rd H a (.tup xs)->a≠dk:=fun r z=>by
  subst z
  rcases r with r|⟨f,r⟩<;>(rw[h1] at r; cases r)
 have n2:Rd H a (.tup xs)->a≠cl:=fun r z=>by
  subst z
  rcases r with r|⟨f,r⟩<;>(rw[h2] at r; cases r)
 refine⟨fun r=>?_,fun r=>e _ _ r (n1 (.inl r)) (n2 (.inl r))⟩;have m1:=n1 r;have m2:=n2 r
 rcases r with r|⟨f,r⟩
 ·exact .inl (e _ _ r m1 m2)
 ·exact .inr ⟨f,e _ _ r m1 m2⟩
theorem DeckAt.hs {H:Hp} {dk cl:Addr} {m:Nat} (D:DeckAt H dk cl m):∃o u,H dk=some (.dK o)/\H cl=some (.lst u):=by
 obtain⟨_,s,n,cs,_,_,_,_,_,h1,h2⟩:=D;exact⟨_,_,h1,h2⟩
theorem DeckAt.same {H H':Hp} {dk cl:Addr} {m:Nat} (D:DeckAt H dk cl m) (e:Same H H'):DeckAt H' dk cl m:=by
 obtain⟨ne,s,n,cs,a,b,c,d,f,h1,h2⟩:=D;exact⟨ne,s,n,cs,a,b,c,d,f,e _ _ h1,e _ _ h2⟩
end Tw
namespace Tw
open PySem L2
inductive SV where
 | d (x:PyData)|m (a:Addr)|o
inductive MO where
 | lst (xs:List SV)|tup (xs:List SV)|dK (kvs:List (Key×SV))|dT (kvs:List (List Key×SV))|ins (C:Addr) (fs:List (Str×SV))|raw (o:HO)|deck (cl:Addr) (m:Nat)|cells|rL (xs:List SV)|rK (kvs:List (Key×SV))|wins (C:Addr) (fs:List (Str×SV))
def MO.wr:MO->Bool
 | .lst _=>true|.dK _=>true|.dT _=>true|.deck _ _=>true|.cells=>true|.wins _ _=>true
 | .tup _=>false|.ins _ _=>false|.raw _=>false|.rL _=>false|.rK _=>false
abbrev Sl:=List (Option SV)
abbrev Ml:=List (Addr×MO)
section
variable (K:PySem.W.Frag) (H:Hp)
def jG:V->SV->Prop
 | v,.d x=>Dp K H v x/\Td H v x
 | v,.m a=>v=.ref a
 | _,.o=>True
def iW:List V->List SV->Prop
 | [],[]=>True
 | v::vs,s::ss=>jG K H v s/\iW vs ss
 | _,_=>False
def mL {κ:Type}:List (κ×V)->List (κ×SV)->Prop
 | [],[]=>True
 | v::vs,s::ss=>v.1=s.1/\jG K H v.2 s.2/\mL vs ss
 | _,_=>False
def kh (a:Addr):MO->Prop
 | .lst xs=>∃vs,H a=some (.lst vs)/\iW K H vs xs
 | .tup xs=>∃vs,H a=some (.tup vs)/\iW K H vs xs
 | .dK ks=>∃vs,H a=some (.dK vs)/\mL K H vs ks
 | .dT ks=>∃vs,H a=some (.dT vs)/\mL K H vs ks
 | .ins C fs=>∃dx vs,H a=some (.ins C dx vs)/\mL K H vs fs
 | .raw o=>H a=some o
 | .deck cl m=>∃s n:Int,0<=s/\s<2147483647/\0<=n/\n<=m/\H a=some (.dK (Gy cl s n))
 | .cells=>∃cs:List Int,cs.length<=63/\H a=some (.lst (cs.map V.int))
 | .rL xs=>∃vs,H a=some (.lst vs)/\iW K H vs xs
 | .rK ks=>∃vs,H a=some (.dK vs)/\mL K H vs ks
 | .wins C fs=>∃dx vs,H a=some (.ins C dx vs)/\mL K H vs fs
end
section
variable {K:PySem.W.Frag} {H H':Hp}
theorem rR (e:gA H H') {v:V} {s:SV} (h:jG K H v s):jG K H' v s:=by
 cases s with
 | d x=>exact⟨zg x (zf e x h.2),zf e x h.2⟩
 | m a=>exact h
 | o=>trivial
theorem Cy (e:Same H H') {v:V} {s:SV} (h:jG K H v s):jG K H' v s:=rR (Same.tups e) h
theorem pO (e:gA H H'):∀{vs:List V} {ss:List SV},iW K H vs ss->iW K H' vs ss
 | [],[],_=>trivial
 | _::_,_::_,h=>⟨rR e h.1,pO e h.2⟩
 | [],_::_,h=>h.elim
 | _::_,[],h=>h.elim
theorem qx {κ:Type} (e:gA H H'):∀{vs:List (κ×V)} {ss:List (κ×SV)},mL K H vs ss->mL K H' vs ss
 | [],[],_=>trivial
 | _::_,_::_,h=>⟨h.1,rR e h.2.1,qx e h.2.2⟩
 | [],_::_,h=>h.elim
 | _::_,[],h=>h.elim
theorem rQ:∀{vs:List V} {ss:List SV},iW K H vs ss->vs.length=ss.length
 | [],[],_=>rfl
 | _::_,_::_,h=>by rw[cR,cR,rQ h.2]
 | [],_::_,h=>h.elim
 | _::_,[],h=>h.elim
theorem Cw:∀{vs ws:List V} {ss ts:List SV},iW K H vs ss->iW K H ws ts->iW K H (vs++ws) (ss++ts)
 | [],_,[],_,_,b=>b
 | _::_,_,_::_,_,h,b=>⟨h.1,Cw h.2 b⟩
 | [],_,_::_,_,h,_=>h.elim
 | _::_,_,[],_,h,_=>h.elim
theorem Ju {v:V} {x:PyData} (h:Td H v x):jG K H v (.d x):=⟨zg x h,h⟩
theorem Cv:∀{vs:List V} {ds:List PyData},iW K H vs (ds.map SV.d)->DpAll K H vs ds/\TdAll H vs ds
 | [],[],_=>⟨.nil,trivial⟩
 | _::_,_::_,h=>by
  obtain⟨a,b⟩:=Cv h.2;exact⟨.cons h.1.1 a,h.1.2,b⟩
 | [],_::_,h=>h.elim
 | _::_,[],h=>h.elim
theorem JE {a:Addr} {vs:List V} {ds:List PyData} (h:H a=some (.tup vs)) (o:iW K H vs (ds.map SV.d)):jG K H (.ref a) (.d (.tuple ds)):=Ju ⟨a,vs,rfl,h,(Cv o).2⟩
theorem wK (e:gA H H') {a:Addr} {o:MO} (h:kh K H a o) (k:∀u,H a=some u->H' a=some u):kh K H' a o:=by
 cases o with
 | lst xs=>obtain⟨vs,h1,h2⟩:=h; exact⟨vs,k _ h1,pO e h2⟩
 | tup xs=>obtain⟨vs,h1,h2⟩:=h; exact⟨vs,k _ h1,pO e h2⟩
 | dK ks=>obtain⟨vs,h1,h2⟩:=h; exact⟨vs,k _ h1,qx e h2⟩
 | dT ks=>obtain⟨vs,h1,h2⟩:=h; exact⟨vs,k _ h1,qx e h2⟩
 | ins C fs=>obtain⟨dx,vs,h1,h2⟩:=h; exact⟨dx,vs,k _ h1,qx e h2⟩
 | raw o=>exact k _ h
 | deck cl m=>obtain⟨s,n,a,b,c,d,e⟩:=h; exact⟨s,n,a,b,c,d,k _ e⟩
 | cells=>obtain⟨cs,a,e⟩:=h; exact⟨cs,a,k _ e⟩
 | rL xs=>obtain⟨vs,h1,h2⟩:=h; exact⟨vs,k _ h1,pO e h2⟩
 | rK ks=>obtain⟨vs,h1,h2⟩:=h; exact⟨vs,k _ h1,qx e h2⟩
 | wins C fs=>obtain⟨dx,vs,h1,h2⟩:=h; exact⟨dx,vs,k _ h1,qx e h2⟩
theorem E8 {a:Addr} {o:MO} (h:kh K H a o):∃u,H a=some u:=by
 cases o with
 | lst xs=>obtain⟨vs,h1,h2⟩:=h; exact⟨_,h1⟩
 | tup xs=>obtain⟨vs,h1,h2⟩:=h; exact⟨_,h1⟩
 | dK ks=>obtain⟨vs,h1,h2⟩:=h; exact⟨_,h1⟩
 | dT ks=>obtain⟨vs,h1,h2⟩:=h; exact⟨_,h1⟩
 | ins C fs=>obtain⟨dx,vs,h1,h2⟩:=h; exact⟨_,h1⟩
 | raw o=>exact⟨_,h⟩
 | deck cl m=>obtain⟨s,n,a,b,c,d,e⟩:=h; exact⟨_,e⟩
 | cells=>obtain⟨cs,a,e⟩:=h; exact⟨_,e⟩
 | rL xs=>obtain⟨vs,h1,h2⟩:=h; exact⟨_,h1⟩
 | rK ks=>obtain⟨vs,h1,h2⟩:=h; exact⟨_,h1⟩
 | wins C fs=>obtain⟨dx,vs,h1,h2⟩:=h; exact⟨_,h1⟩
end
structure Sat (K:PySem.W.Frag) (B:Hp) (X:List Addr) (T:Hp) (S:Sl) (M:Ml) (σ:St) (H:Hp):Prop where
 len:σ.length=S.length
 sl:∀(i:Nat) s,S[i]?=some (some s)->∃v,σ[i]?=some (some v)/\jG K H v s
 mem:∀p∈M,kh K H p.1 p.2
 nod:(M.map (·.1)).Nodup
 own:∀p∈M,p.2.wr=true->B p.1=none\/p.1∈X
 old:∀b o,B b=some o->b∉X->H b=some o
 kp:∀a∈X,∃o,H a=some o
 tp:gA T H
section
variable {K:PySem.W.Frag} {B:Hp} {X:List Addr} {T:Hp} {S:Sl} {M:Ml} {σ:St} {H H':Hp}
theorem Sat.same (a:Sat K B X T S M σ H) (e:Same H H'):Sat K B X T S M σ H' where
 len:=a.len
 sl:=fun i s h=>let ⟨v,h1,h2⟩:=a.sl i s h; ⟨v,h1,Cy e h2⟩
 mem:=fun p hp=>wK (Same.tups e) (a.mem p hp) fun u h=>e _ _ h
 nod:=a.nod
 own:=a.own
 old:=fun b o h n=>e _ _ (a.old b o h n)
 kp:=fun x hx=>let ⟨o,h⟩:=a.kp x hx; ⟨o,e _ _ h⟩
 tp:=a.tp.trans (Same.tups e)
theorem Sat.fresh (a:Sat K B X T S M σ H) {p:Addr} (h:H p=none):B p=none/\p∉X/\p∉M.map (·.1):=by
 have hx:p∉X:=fun z=>by
  obtain⟨o,e⟩:=a.kp p z;rw[h] at e; cases e
 refine⟨?_,hx,fun z=>?_⟩
 ·cases q:B p with
  | none=>rfl
  | some o =>
   have e:=a.old p o q hx;rw[h] at e; cases e
 ·obtain⟨q,hq,e⟩:=aW.mp z;obtain⟨u,hu⟩:=E8 (a.mem q hq);rw[e,h] at hu; cases hu
theorem Sat.set (a:Sat K B X T S M σ H) {v:V} {s:SV} (h:jG K H v s) (j:Nat):Sat K B X T (S.set j (some s)) M (σ.set j (some v)) H where
 len:=by rw[gG,gG,a.len]
 sl := fun i s' hs => by
  by_cases e:j=i
  ·subst e
   by_cases hj:j<S.length
   ·rw[ig hj] at hs;have e2:s=s':=Option.some.inj (Option.some.inj hs);subst e2;exact⟨v,ig (by rw[a.len]; exact hj),h⟩
   ·rw[gB (by rw[gG]; omega)] at hs; cases hs
  ·rw[cG e] at hs;obtain⟨w,h1,h2⟩:=a.sl i s' hs;exact⟨w,by rw[cG e]; exact h1,h2⟩
 mem:=a.mem
 nod:=a.nod
 own:=a.own
 old:=a.old
 kp:=a.kp
 tp:=a.tp
theorem Sat.weak (a:Sat K B X T S M σ H) {S':Sl} {M':Ml} (hl:S'.length=S.length) (hs:∀(i:Nat) s,S'[i]?=some (some s)->S[i]?=some (some s)) (hm:M'.Sublist M):Sat K B X T S' M' σ H where
 len:=by rw[a.len,hl]
 sl:=fun i s h=>a.sl i s (hs i s h)
 mem:=fun p hp=>a.mem p (hm.subset hp)
 nod:=(hm.map _).nodup a.nod
 own:=fun p hp=>a.own p (hm.subset hp)
 old:=a.old
 kp:=a.kp
 tp:=a.tp
theorem Sat.drop (a:Sat K B X T S M σ H) {M':Ml} (hm:M'.Sublist M):Sat K B X T S M' σ H:=a.weak rfl (fun _ _ h=>h) hm
theorem Sat.new (a:Sat K B X T S M σ H) {p:Addr} {o:HO} {mo:MO} (h:H p=none) (ok:kh K (upd H p o) p mo):Sat K B X T S ((p,mo)::M) σ (upd H p o):=by
 have b:=a.same (iP (o:=o) h);refine⟨b.len,b.sl,fun q hq=>?_,?_,fun q hq hw=>?_,b.old,b.kp,b.tp⟩
 ·rcases aU.mp hq with e|e
  ·subst e; exact ok
  ·exact b.mem q e
 ·rw[bU];exact bT.mpr ⟨(a.fresh h).2.2,a.nod⟩
 ·rcases aU.mp hq with e|e
  ·subst e; exact .inl (a.fresh h).1
  ·exact a.own q e hw
theorem Sat.wr (a:Sat K B X T S M σ H) {n:Nat} {l:Addr} {o:HO} {mo mo':MO} (hn:M[n]?=some (l,mo)) (hw':mo.wr=true) (nt:∀u,H l=some u->(∀xs,u≠.tup xs)/\∀f xs,u≠.frz f (.tup xs))
  (ok:kh K (upd H l o) l mo'):Sat K B X T S (M.set n (l,mo')) σ (upd H l o):=by
 have hmem:(l,mo)∈M:=fP hn;have hw:B l=none\/l∈X:=a.own _ hmem hw';obtain⟨u,hu⟩:=E8 (a.mem _ hmem);have tp:gA H (upd H l o):=CZ hu (nt u hu).1 (nt u hu).2;have hlt:n<M.length:=(fE.mp hn).1;refine⟨a.len,fun i s h=>let ⟨v,h1,h2⟩:=a.sl i s h; ⟨v,h1,rR tp h2⟩,fun q hq=>?_,?_,fun q hq hwq=>?_,fun b o' h nx=>?_,fun x hx=>?_,a.tp.trans tp⟩
 ·obtain⟨i,hi⟩:=List.mem_iff_getElem?.mp hq
  by_cases e:n=i
  ·subst e;rw[ig hlt] at hi;have e2:=Option.some.inj hi;subst e2;exact ok
  ·rw[cG e] at hi;have hqm:q∈M:=fP hi
   refine wK tp (a.mem q hqm) fun u' h'=>?_
   have ne:q.1≠l:=fun z=>by
    refine e (nd_ix a.nod (i:=n) (j:=i) (x:=l) ?_ ?_)
    ·rw[cB,hn]<;>rfl
    ·rw[cB,hi]
     show some q.1=some l
     rw[z]
   rw[upd_ne ne];exact h'
 ·have e:(M.set n (l,mo')).map (·.1)=M.map (·.1):=by
   apply mK;intro i;rw[cB,cB]
   by_cases e:n=i
   ·subst e;rw[ig hlt,hn]<;>rfl
   ·rw[cG e]
  rw[e];exact a.nod
 ·obtain⟨i,hi⟩:=List.mem_iff_getElem?.mp hq
  by_cases e:n=i
  ·subst e;rw[ig hlt] at hi;have e2:=Option.some.inj hi;subst e2;exact hw
  ·rw[cG e] at hi;exact a.own q (fP hi) hwq
 ·have ne:b≠l:=fun z=>by
   subst z
   rcases hw with w|w
   ·rw[h] at w; cases w
   ·exact nx w
  rw[upd_ne ne];exact a.old b o' h nx
 ·by_cases e:x=l
  ·subst e; exact⟨o,upd_same⟩
  ·obtain⟨u',h'⟩:=a.kp x hx;exact⟨u',by rw[upd_ne e]; exact h'⟩
theorem Sat.at (a:Sat K B X T S M σ H) {p:Addr} {o:MO} (h:(p,o)∈M):kh K H p o:=a.mem _ h
end
section
variable (K:PySem.W.Frag)
def Ev (te:TE) (S:Sl) (M:Ml) (s:SV):Prop:=∀B X T σ H,Sat K B X T S M σ H->∀Q:VK,(∀v H',Same H H'->Sat K B X T S M σ H'->jG K H' v s->Q v H')->te σ H Q
def RU (ta:TA) (S:Sl) (M:Ml) (ss:List SV):Prop:=∀B X T σ H,Sat K B X T S M σ H->∀Q:List V->Hp->Prop,(∀vs H',Same H H'->Sat K B X T S M σ H'->iW K H' vs ss->Q vs H')->ta σ H Q
end
section
variable {K:PySem.W.Frag} {S:Sl} {M:Ml} {d:PyData}
theorem ev_tup {tas:TA} {ds:List PyData} (h:RU K tas S M (ds.map SV.d)) (hl:ds.length<=100000):Ev K (tTup tas) S M (.d (.tuple ds)):=fun B X T σ H st Q q =>
 h B X T σ H st _ fun vs H1 e1 st1 o1=>⟨by rw[rQ o1,aT]; exact sz hl,fun p hp=>by
  have e:Same H1 (upd H1 p (.tup vs)):=iP hp
  exact q _ _ (e1.trans e) (st1.same e) (JE upd_same (pO (Same.tups e) o1))⟩
end
end Tw
namespace Tw
open PySem L2
def om (S:Sl):List Nat->Sl
 | []=>S
 | v::vs=>(om S vs).set v none
theorem j3 {σ:St}:∀(vs:List Nat) (i:Nat),(wipe σ vs)[i]?=if i∈vs/\i<σ.length then some none else σ[i]?
 | [],i=>by simp[wipe]
 | v :: vs, i => by
  show((wipe σ vs).set v none)[i]?=_
  by_cases e:v=i
  ·subst e
   by_cases h:v<σ.length
   ·rw[ig (by rw[wipe_length]; exact h),if_pos ⟨ao ..,h⟩]
   ·rw[gB (by rw[gG,wipe_length]; omega),if_neg (fun z=>h z.2),gB (by omega)]
  ·rw[cG e,j3 vs i]
   have e':¬i=v:=fun z=>e z.symm
   simp[List.mem_cons,e']
theorem Jo {σ:St} {vs:List Nat} {j:Nat} {x:Option V} (hj:j∈vs):wipe (σ.set j x) vs=wipe σ vs:=by
 apply mK;intro i;rw[j3,j3,gG]
 by_cases e:j=i
 ·subst e
  by_cases h:j<σ.length
  ·rw[if_pos ⟨hj,h⟩,if_pos ⟨hj,h⟩]
  ·rw[if_neg (fun z=>h z.2),if_neg (fun z=>h z.2),gB (by rw[gG]; omega),gB (by omega)]
 ·rw[cG e]
theorem pN {σ:St} {vs:List Nat}:wipe (wipe σ vs) vs=wipe σ vs:=by
 apply mK;intro i;rw[j3,j3,wipe_length];split<;>rfl
theorem Cs (S:Sl):∀vs,(om S vs).length=S.length
 | []=>rfl
 | v::vs=>by show((om S vs).set v none).length=_; rw[gG,Cs S vs]
theorem Cr {S:Sl} {i:Nat} {s:SV}:∀{vs:List Nat},(om S vs)[i]?=some (some s)->S[i]?=some (some s)/\i∉vs
 | [],h=>⟨h,by simp⟩
 | v :: vs, h => by
  have h:((om S vs).set v none)[i]?=some (some s):=h
  by_cases e:v=i
  ·subst e
   by_cases hv:v<(om S vs).length
   ·rw[ig hv] at h; cases h
   ·rw[gB (by rw[gG]; omega)] at h; cases h
  ·rw[cG e] at h;obtain⟨h1,h2⟩:=Cr h;exact⟨h1,by simp only[List.mem_cons,not_or]; exact⟨fun z=>e z.symm,h2⟩⟩
section
variable {K:PySem.W.Frag} {B:Hp} {X:List Addr} {T:Hp} {S:Sl} {M:Ml} {σ:St} {H H':Hp}
theorem Sat.wipe (a:Sat K B X T S M σ H) (vs:List Nat):Sat K B X T (om S vs) M (wipe σ vs) H where
 len:=by rw[wipe_length,Cs,a.len]
 sl:=fun i s h=>by
  obtain⟨h1,h2⟩:=Cr h;obtain⟨v,g1,g2⟩:=a.sl i s h1;exact⟨v,by rw[j3,if_neg (fun z=>h2 z.1)]; exact g1,g2⟩
 mem:=a.mem
 nod:=a.nod
 own:=a.own
 old:=a.old
 kp:=a.kp
 tp:=a.tp
theorem Sat.slots (a:Sat K B X T S M σ H) {S':Sl} {σ':St} {H':Hp} {M':Ml} {X':List Addr} {B' T':Hp} (b:Sat K B' X' T' S' M' σ' H') (e:Same H' H):Sat K B X T S' M σ' H :=
 ⟨b.len,fun i s h=>let ⟨v,h1,h2⟩:=b.sl i s h; ⟨v,h1,Cy e h2⟩,a.mem,a.nod,a.own,a.old,a.kp,a.tp⟩
end
end Tw
namespace Tw
open PySem L2
section
variable (K:PySem.W.Frag)
def xV (te:TE) (S:Sl) (M:Ml) (R:SV->Ml->Prop):Prop:=∀B X T σ H F,Sat K B X T S (F++M) σ H->∀Q:VK,
 (∀v H' s M',R s M'->gA H H'->Sat K B X T S (F++M') σ H'->jG K H' v s->Q v H')->te σ H Q
def xU (tt:TT) (S:Sl) (M:Ml) (R:Bool->Ml->Prop):Prop:=∀B X T σ H F,Sat K B X T S (F++M) σ H->∀Q:Bool->Hp->Prop,
 (∀H' b M',R b M'->gA H H'->Sat K B X T S (F++M') σ H'->Q b H')->tt σ H Q
def BM (ta:TA) (S:Sl) (M:Ml) (R:List SV->Ml->Prop):Prop:=∀B X T σ H F,Sat K B X T S (F++M) σ H->∀Q:List V->Hp->Prop,
 (∀vs H' ss M',R ss M'->gA H H'->Sat K B X T S (F++M') σ H'->iW K H' vs ss->Q vs H')->ta σ H Q
end
def xC (dk cl:Addr) (m:Nat) (M:Ml):Ml:=(dk,.deck cl m)::(cl,.cells)::M
section
variable {K:PySem.W.Frag} {B:Hp} {X:List Addr} {T:Hp} {S:Sl} {M M' F:Ml} {σ:St} {H H':Hp} {dk cl:Addr} {m m':Nat}
theorem Sat.deckAt (st:Sat K B X T S (F++xC dk cl m M) σ H):DeckAt H dk cl m:=by
 have h1:kh K H dk (.deck cl m):=st.at (aJ _ (ao ..));have h2:kh K H cl .cells:=st.at (aJ _ (aE _ (ao ..)));obtain⟨s,n,a,b,c,d,e⟩:=h1;obtain⟨cs,f,g⟩:=h2;exact⟨ne_of e g (by intro z; cases z),s,n,cs,a,b,c,d,f,e,g⟩
theorem Sat.drawn (st:Sat K B X T S (F++xC dk cl m M) σ H) (e:lB dk cl H H') (D:DeckAt H' dk cl m'):Sat K B X T S (F++xC dk cl m' M) σ H'/\gA H H':=by
 have tp:gA H H':=e.tups st.deckAt.hs;have hn:=st.nod;have o1:B dk=none\/dk∈X:=st.own (dk,.deck cl m) (aJ _ (ao ..)) rfl;have o2:B cl=none\/cl∈X:=st.own (cl,.cells) (aJ _ (aE _ (ao ..))) rfl
 have hdk:∀p∈F++M,p.1≠dk/\p.1≠cl:=fun p hp=>by
  rw[dA] at hn;have hm:(xC dk cl m M).map (·.1)=dk::cl::M.map (·.1):=rfl;rw[hm] at hn;obtain⟨n1,n2,n3⟩:=cA.mp hn
  rcases bc.mp hp with q|q
  ·have q':p.1∈F.map (·.1):=aW.mpr ⟨p,q,rfl⟩;exact⟨n3 _ q' _ (ao ..),n3 _ q' _ (aE _ (ao ..))⟩
  ·have q':p.1∈M.map (·.1):=aW.mpr ⟨p,q,rfl⟩;obtain⟨a1,a2⟩:=bT.mp n2;obtain⟨b1,b2⟩:=bT.mp a2;exact⟨fun z=>a1 (aE _ (z▸q')),fun z=>b1 (z▸q')⟩
 obtain⟨ne,s,n,cs,a,b,c,d,f,g1,g2⟩:=D;refine⟨⟨st.len,fun i s h=>let ⟨v,h1,h2⟩:=st.sl i s h; ⟨v,h1,rR tp h2⟩,fun p hp=>?_,(by have z:=hn; rw[dA] at z ⊢; exact z),fun p hp hw=>?_,fun x o hx nx=>?_,fun x hx=>?_,st.tp.trans tp⟩,tp⟩
 ·rcases bc.mp hp with q|q
  ·have h0:p∈F++M:=au _ q
   exact wK tp (st.mem p (au _ q)) fun u hu=>e _ _ hu (hdk p h0).1 (hdk p h0).2
  ·rcases aU.mp q with z|q
   ·subst z; exact⟨s,n,a,b,c,d,g1⟩
   ·rcases aU.mp q with z|q
    ·subst z; exact⟨cs,f,g2⟩
    ·have h0:p∈F++M:=aJ _ q
     exact wK tp (st.mem p (aJ _ (aE _ (aE _ q)))) fun u hu=>e _ _ hu (hdk p h0).1 (hdk p h0).2
 ·rcases bc.mp hp with q|q
  ·exact st.own p (au _ q) hw
  ·rcases aU.mp q with z|q
   ·subst z; exact o1
   ·exact st.own p (aJ _ (aE _ q)) hw
 ·have hx':=st.old x o hx nx;refine e x o hx' (fun z=>?_) (fun z=>?_)
  ·subst z
   rcases o1 with w|w
   ·rw[hx] at w; cases w
   ·exact nx w
  ·subst z
   rcases o2 with w|w
   ·rw[hx] at w; cases w
   ·exact nx w
 ·obtain⟨o,ho⟩:=st.kp x hx
  by_cases z1:x=dk
  ·subst z1; exact⟨_,g1⟩
  ·by_cases z2:x=cl
   ·subst z2; exact⟨_,g2⟩
   ·exact⟨o,e x o ho z1 z2⟩
variable {te ta:TE} {tt:TT} {z s:SV} {r:R2} {R R':SV->Ml->Prop} {tas:TA}
theorem xV.mono (h:xV K te S M R) (hr:∀s M',R s M'->R' s M'):xV K te S M R':=fun B X T σ H F st Q q=>h B X T σ H F st Q fun v H' s M' r=>q v H' s M' (hr _ _ r)
theorem xU.mono {R R':Bool->Ml->Prop} (h:xU K tt S M R) (hr:∀s M',R s M'->R' s M'):xU K tt S M R':=fun B X T σ H F st Q q=>h B X T σ H F st Q fun H' s M' r=>q H' s M' (hr _ _ r)
theorem BM.mono {R R':List SV->Ml->Prop} (h:BM K tas S M R) (hr:∀s M',R s M'->R' s M'):BM K tas S M R':=fun B X T σ H F st Q q=>h B X T σ H F st Q fun v H' s M' r=>q v H' s M' (hr _ _ r)
variable {D:Ends} {tz tv tw:TS}
theorem x_if {Rb:Bool->Ml->Prop} (F:Ml) (st:Sat K B X T S (F++M) σ H) (h:xU K tt S M Rb) (h1:∀M' H',Rb true M'->Sat K B X T S (F++M') σ H'->tv { D with nx:=tz D } σ H') (h2:∀M' H',Rb false M'->Sat K B X T S (F++M') σ H'->tw { D with nx:=tz D } σ H'):tSeq (tIfS tt tv tw) tz D σ H :=
 h B X T σ H F st _ fun H1 b M1 rb t1 st1=>by
  cases b with
  | true=>exact iteT (h1 M1 H1 rb st1)
  | false=>exact iteF (h2 M1 H1 rb st1)
theorem x_extend {l:Addr} {xs:List SV} (F:Ml) (st:Sat K B X T S ((l,.lst xs)::(F++M)) σ H) (ho:Ev K ta S ((l,.lst xs)::(F++M)) (.m l)) (h:xV K te S M R)
  (k:∀s M',R s M'->∃p ys M1,s=.m p/\M'=(p,.lst ys)::M1/\xs.length+ys.length<=100000/\∀H',Sat K B X T S ((l,.lst (xs++ys))::(F++M1)) σ H'->tz D σ H'):tSeq (tDrop (tBM K "list" rExtend ta (tCons te tNil))) tz D σ H :=
 ho B X T σ H st _ fun v H1 e1 st1 o1=>by
  have hv:v=.ref l:=o1;subst hv;obtain⟨vs,h1,h2⟩:=st1.at (ao ..);refine⟨Or.inl ⟨rfl,_,.inl (.inl h1)⟩,h B X T σ H1 ((l,.lst xs)::F) st1 _ fun u H2 s M2 r2 t2 st2 o2=>?_⟩;obtain⟨p,ys,M1,rfl,rfl,hl,kk⟩:=k s M2 r2;have hu:u=.ref p:=o2;subst hu;obtain⟨ws,g1,g2⟩:=st2.at (show(p,MO.lst ys)∈_ from aJ _ (ao ..));obtain⟨vs',h1',h2'⟩:=st2.at (show(l,MO.lst xs)∈_ from au _ (ao ..));refine⟨l,p,vs',ws,rfl,rfl,h1',g1,by rw[rQ h2',rQ g2]; exact sz hl,kk _ ?_⟩;have st3:Sat K B X T S ((l,.lst xs)::(F++M1)) σ H2:=st2.drop (List.Sublist.cons_cons _ (List.Sublist.append_left (List.sublist_cons_self _ _) F))
  exact st3.wr (n:=0) (mo':=.lst (xs++ys)) rfl rfl (fun u hu=>by rw[h1'] at hu; cases hu; exact⟨fun _ z=>(nomatch z),fun _ _ z=>(nomatch z)⟩)
   ⟨_,upd_same,pO (CZ h1' (fun _ z=>(nomatch z)) (fun _ _ z=>(nomatch z))) (Cw h2' g2)⟩
end
end Tw
namespace Tw
open PySem L2
section
variable (K:PySem.W.Frag)
def K4 (ok:List SV->Ml->MO->Prop):Sp:=fun vs H Q _=>∃ss M0 o,iW K H vs ss/\(∀p∈M0,kh K H p.1 p.2)/\(M0.map (·.1)).Nodup/\(∀p∈M0,p.2.wr=false)/\ok ss M0 o/\∀p H',Same H H'->H p=none->kh K H' p o->Q (.ref p) H'
end
section
variable {K:PySem.W.Frag} {B:Hp} {X:List Addr} {T:Hp} {S:Sl} {M:Ml} {σ:St} {H:Hp}
variable {ta:TE} {s r x z:SV} {C a:Addr} {fs:List (Str×SV)}
theorem FG {κ:Type} [BEq κ] [LawfulBEq κ] {k:κ}:∀{vs:List (κ×V)} {fs:List (κ×SV)},mL K H vs fs->(fs.lookup k=none->vs.lookup k=none)/\∀s,fs.lookup k=some s->∃v,vs.lookup k=some v/\jG K H v s
 | [],[],_=>⟨fun _=>rfl,fun s h=>by simp at h⟩
 | v::vs,f::fs,h=>by
  obtain⟨h1,h2,h3⟩:=h;obtain⟨i1,i2⟩:=FG (k:=k) h3;obtain⟨a,va⟩:=v;obtain⟨b,sb⟩:=f;simp only at h1 h2;subst h1;rw[jX,jX]
  cases q:(k==a) with
  | true => exact ⟨fun z => (nomatch z), fun s z => by
    have e:sb=s:=Option.some.inj z;subst e
    exact⟨va,rfl,h2⟩⟩
  | false=>exact⟨i1,i2⟩
 | [],_::_,h=>h.elim
 | _::_,[],h=>h.elim
theorem ev_fld {f:Str} (ho:Ev K ta S M (.m a)) (hi:(a,MO.ins C fs)∈M) (c:Cls K C) (n:NoAttr K C f) (hf:fs.lookup f=some s):Ev K (tFld K ta f) S M s:=fun B X T σ H st Q q =>
 ho B X T σ H st _ fun v H1 e1 st1 o1=>by
  have hv:v=.ref a:=o1;subst hv;obtain⟨dx,vs,g1,g2⟩:=st1.at hi;obtain⟨w,k1,k2⟩:=(FG g2).2 s hf;exact⟨a,C,dx,vs,w,rfl,g1,c,n,k1,q w H1 e1 st1 k2⟩
def putS (f:Str) (v:SV):List (Str×SV)->List (Str×SV)
 | []=>[(f,v)]
 | (g,x)::r=>if g=f then (g,v)::r else (g,x)::putS f v r
structure ClsI (K:PySem.W.Frag) (C:Addr):Prop where
 cl:Cls K C
 ha:PySem.W.findIn K (.ref C) "__class__"=some (some (.builtin "object.__class__"))
 hn:PySem.W.specialIn K (.builtin "object.__class__") "__get__"=some (some (.builtin "getset_descriptor.__get__"))
 htk:PySem.W.takesIn K (.builtin "object.__class__")=some true
 hm:PySem.W.mroIn K C (.type "object")=some true
 one:PySem.W.kitOne K (.ref C) (.ref C)=some true
end
end Tw
namespace Tw
open PySem L2 PyProof.Rows
structure FnG (P:Program) (w:World) (K:PySem.W.Frag) (mg:Str->Option Value) (base:Heap) (CX:CXT) (k:Nat) (f:Addr) (fd:FuncData) (ps:List Str) (sp:Sp):Prop where
 len:∀vs H Q E,sp vs H Q E->vs.length=ps.length
 run:∀(A:Around) (outer:List Env) (s:Shared) (H:Hp) (args:Args) (us:List Value) (vs:List V) (Q:VK) (E:XK),A.guards=some []->Room k A->Env0 P w K mg base A outer s H ->
  BindsTo s fd args (ps.zip us)->Vals vs us->sp vs H Q E->codeAny (model P w) A (.call (.ref f) args) (CR CX outer P w H s Q E) s
section
variable {P:Program} {w:World} {K:PySem.W.Frag} {mg:Str->Option Value} {base:Heap} {CX:CXT}
theorem FnG.mono {j k:Nat} {f:Addr} {fd:FuncData} {ps:List Str} {sp:Sp} (F:FnG P w K mg base CX j f fd ps sp) (h:j<=k):FnG P w K mg base CX k f fd ps sp :=
 ⟨F.len,fun A o s H a us vs Q E g r=>F.run A o s H a us vs Q E g (r.mono h)⟩
theorem Qe {A:Around} {C:Addr} {us:List Value} {kw:List (Str×Value)} (h:A.guards=some []):(A.under (.builtin "type.__call__" ⟨.ref C::us,kw⟩)).guards=some []:=by
 have e:Code.guards (.builtin "type.__call__" ⟨.ref C::us,kw⟩)=[]:=by
  unfold Code.guards;rw[if_neg];simp[Code.isGuard,guardIds]
 show pushGuards (Code.guards (.builtin "type.__call__" ⟨.ref C::us,kw⟩)) A.guards=some []
 rw[e,h]<;>rfl
theorem xr {k:Nat} {x qual:Str} {st:Stmt} {f:Addr} {fd:FuncData} {N ps:List Str} {sp:Sp} (F:Fun K x qual st f fd) (S:FnScope N ps (defScope st)) (len:∀vs H Q E,sp vs H Q E->vs.length=ps.length)
  (hbody:∀(cdv:Value) (A:Around) (outer:List Env) (s:Shared) (H:Hp) (vs:List V) (Q:VK) (E:XK),A.guards=some []->Room k (A.deeper (envOfC qual (defScope st) s.heap.objs.size f cdv))->sp vs H Q E ->
   ∃t,PSs (cxOf CX P w K mg base N qual (defScope st) f cdv A outer s H E) (defBody st) t/\t { nx:=fun _ H1=>Q .non H1,rt:=Q } (L2.start N vs) H):FnG P w K mg base CX (k+1) f fd ps sp:=by
 obtain⟨oc,od,kV,doc,pm,an,cdv,ct,osl,rfl,lk,hcd⟩:=F.ex;refine⟨len,fun A outer s H args us vs Q E hg hr e0 hb r hsp=>?_⟩
 have KX:K.In s.heap:=e0.mod.kin.keeps fun b o z=>(e0.bs b o z).1
 have lm:s.heap.NoLimit:=e0.mod.nolimit.keeps fun b o z=>(e0.bs b o z).1
 have kinds:∀y∈ps.zip us,(defScope st).names.lookup y.1=some .local \/
   ((defScope st).names.lookup y.1=some .cell/\((cellsFrom (s.heap.objs.size+1) (defScope st).names []).lookup y.1).isSome=true):=by
  intro y hy;obtain⟨n,v⟩:=y
  exact(S.par n (List.of_mem_zip hy).1).elim .inl fun q=>.inr ⟨q,PySem.W.cellsFrom_some _ _ _ (.inl q)⟩
 refine codeAny_call_function hr.depth (KX _ _ lk) rfl S.co S.gen rfl (PySem.W.codeRec_of KX hcd) (hb _ _ _ _ ?_)
 refine wpAny_newFunctionEnv_cells S.kind kinds fun env he s1 ic=>?_
 subst he;refine⟨lm.keeps ic.toInCall.keep,codeAny_func ?_⟩;obtain⟨t,ht,hq⟩:=hbody cdv A outer s H vs Q E hg (hr.deeper _) hsp;have I0:=inv_start (CX:=CX) (E:=E) S hr.hd e0 (len _ _ _ _ hsp) r ic
 refine wpAny_mono (ht.run [] s1 (L2.start N vs) H _ I0 hq) (fun fl s2 h2=>?_) fun _ _ z=>z
 cases fl with
 | ret u=>obtain⟨v,σ2,H2,J,rv,q⟩:=h2; exact⟨v,H2,J.os,J.bare,J.base,J.hok,rv,q⟩
 | next=>obtain⟨σ2,H2,J,q⟩:=h2; exact⟨V.non,H2,J.os,J.bare,J.base,J.hok,rfl,q⟩
 | brk=>obtain⟨_,_,_,q⟩:=h2; exact q.elim
 | cont=>obtain⟨_,_,_,q⟩:=h2; exact q.elim
end
section
variable {X:Cx} {CX:CXT} {k:Nat} {f C:Addr} {fd:FuncData} {ps:List Str} {sp:Sp} {E:XK} {x m:Str} {p pos apos:Pos} {e o:Expr} {es:List Expr} {ta:TE} {t:TA}
theorem DB {pins:List (Addr×Obj)} {σ:L2.St} {H:Hp} {s:Shared} {Q:VK} {us:List Value} {vs:List V} (F:FnG X.prog X.w X.K X.mg X.base CX k f fd ps sp) (hg:X.A.guards=some []) (hr:Room k X.A) (hb:Binds X.K fd ps []) (hx:Passes CX X E)
  (I:Inv X pins σ H s) (r:Vals vs us) (h:sp (vs++[]) H Q E):wpAny (model X.prog X.w) X.A (call (.ref f) us) (EP X pins σ Q) X.xe s:=by
 rw[b6] at h
 have hl:us.length=ps.length:=by rw[←r.length]; exact F.len _ _ _ _ h
 have hbi:=hb s us I.kIn (by rw[b6]; exact hl);rw[b6] at hbi;refine wpAny_call (codeAny_mono (F.run X.A X.stack s H ⟨us,[]⟩ us vs Q E hg hr I.env0 hbi r h) fun rr s2 hq=>?_)
 cases rr with
 | error z=>exact hx pins σ H s z s2 I hq
 | ok fl =>
  cases fl with
  | ret u=>exact I.after hq
  | next=>exact hq.elim
  | brk=>exact hq.elim
  | cont=>exact hq.elim
theorem Mq (F:FnG X.prog X.w X.K X.mg X.base CX k f fd ps sp) (hg:X.A.guards=some []) (hr:Room k X.A) (gl:Gl X x) (hm:X.mg x=some (.ref f)) (hk:PySem.W.keepIn X.K (.ref f)=true) (hb:Binds X.K fd ps []) (hx:Passes CX X E)
  (ha:PA X (e::es) t) (h1:(x==("__debug__":Str))=false) (h2:starEach (e::es) X.env=(false,eval e X.env)::starEach es X.env) (h3:(backTo pos (starEach es X.env)).any (·.1)=false) :
  PE X (.Call (.Name x p) (e::es) [] pos) (tCall sp [] E t):=⟨fun pins s σ H Q I h =>
 wpAny_Call_Name_kw (ld_glob I gl hm (PySem.W.callWith_K (h₀:=X.base) I.ok.mod.kin hk (thn (ha.run pos pins s σ H _ I h) fun us s1 ⟨vs,H1,I1,r,q⟩=>⟨I1.kIn,DB F hg hr hb hx I1 r q⟩) h2 h3) h1)⟩
theorem Mn {pl:Sem Bool} (he:PE X o ta) (c:Cls X.K C) (hm:Meth X.K C m f) (F:FnG X.prog X.w X.K X.mg X.base CX k f fd ps sp) (hg:X.A.guards=some []) (hr:Room k X.A) (hb:Binds X.K fd ps []) (hx:Passes CX X E) (ha:PA X (e::es) t)
  (h2:starEach (e::es) X.env=(false,eval e X.env)::starEach es X.env) (h3:(backTo pos (starEach es X.env)).any (·.1)=false)
  (ht:eval (.Call (.Attribute o m apos) (e::es) [] pos) X.env=(do let ov ←eval o X.env; standAt apos.atName; let (f,first) ←holding [ov] (getMethod ov m pl); callWith pos f first (backTo pos (starEach (e::es) X.env)) (backToKw pos (keywordEach [] X.env)))) :
  PE X (.Call (.Attribute o m apos) (e::es) [] pos) (tMeth C m sp [] E ta t):=by
 refine⟨fun pins s σ H Q I h=>PySem.W.methodCall_KW (pl:=pl) (thn (he.run pins s σ H _ I h) fun u s1 hh=>?_) ht⟩;obtain⟨y,H1,I1,rx,a,dx,fs,rfl,ea,l,q⟩:=hh;obtain rfl:u=Value.ref a:=rx;refine getmeth_ok I1 ea c hm l (PySem.W.callWith_K (first:=[.ref a]) (h₀:=X.base) I.ok.mod.kin hm.kp (thn (ha.run pos pins s1 σ H1 _ I1 q) fun us s2 hh2=>?_) h2 h3);obtain⟨vs,H2,I2,r,q2⟩:=hh2;exact⟨I2.kIn,DB (us:=.ref a::us) (vs:=.ref a::vs) F hg hr hb hx I2 (.cons rfl r) q2⟩
theorem Lz {pins:List (Addr×Obj)} {σ:L2.St} {H:Hp} {s:Shared} {Q:VK} {us:List Value} {vs:List V} (M:Mk X.K C f) (F:FnG X.prog X.w X.K X.mg X.base CX k f fd ps sp) (hg:X.A.guards=some []) (hr:Room (k+1) X.A) (hb:Binds X.K fd ps [])
  (hx:Passes CX X E) (I:Inv X pins σ H s) (r:Vals vs us)
  (h:∀x dx,H x=none->H dx=none->dx≠x->sp (.ref x::(vs++[])) (upd (upd H dx (.own x)) x (.ins C dx [])) (fun v H2=>v=.non/\Q (.ref x) H2) E):wpAny (model X.prog X.w) X.A (call (.ref C) us) (EP X pins σ Q) X.xe s:=by
 have hq:=h (s.heap.objs.size+1) s.heap.objs.size (I.hok.fresh (Nat.le_succ _)) (I.hok.fresh (bS _)) (jk (uV _));rw[b6] at hq;have I2:=Inv.made (C:=C) I;have r2:Vals (V.ref (s.heap.objs.size+1)::vs) (Value.ref (s.heap.objs.size+1)::us):=.cons rfl r
 have hl:(Value.ref (s.heap.objs.size+1)::us).length=ps.length:=by rw[←r2.length]; exact F.len _ _ _ _ hq
 have hbi:=hb _ (Value.ref (s.heap.objs.size+1)::us) I2.kIn (by rw[b6]; exact hl);rw[b6] at hbi;refine wpAny_call (make_map (f:=f) I.kIn M.makes M.init (beq_iff_eq.mp M.fn) (codeAny_mono (F.run _ X.stack _ _ ⟨Value.ref (s.heap.objs.size+1)::us,[]⟩ _ _ _ E (Qe hg) (hr.make C us []) (I2.env0.make C us []) hbi r2 hq) fun rr s2 h2=>?_))
 cases rr with
 | error z=>exact hx pins σ _ _ z s2 I2 h2
 | ok fl =>
  cases fl with
  | ret u =>
   obtain⟨v,H3,I3,rv,ev,q3⟩:=I2.after h2;subst ev;exact⟨rv,V.ref (s.heap.objs.size+1),H3,I3,rfl,q3⟩
  | next=>exact h2.elim
  | brk=>exact h2.elim
  | cont=>exact h2.elim
theorem Mo (M:Mk X.K C f) (F:FnG X.prog X.w X.K X.mg X.base CX k f fd ps sp) (hg:X.A.guards=some []) (hr:Room (k+1) X.A) (gl:Gl X x) (hm:X.mg x=some (.ref C)) (hb:Binds X.K fd ps []) (hx:Passes CX X E)
  (ha:PA X (e::es) t) (h1:(x==("__debug__":Str))=false) (h2:starEach (e::es) X.env=(false,eval e X.env)::starEach es X.env) (h3:(backTo pos (starEach es X.env)).any (·.1)=false) :
  PE X (.Call (.Name x p) (e::es) [] pos) (tMake C sp [] E t):=⟨fun pins s σ H Q I h =>
 wpAny_Call_Name_kw (ld_glob I gl hm (PySem.W.callWith_K (h₀:=X.base) I.ok.mod.kin M.kp (thn (ha.run pos pins s σ H _ I h) fun us s1 ⟨vs,H1,I1,r,q⟩=>⟨I1.kIn,Lz M F hg hr hb hx I1 r q⟩) h2 h3) h1)⟩
end
theorem Ou {P:Program} {w:World} {K:PySem.W.Frag} {mg mb:Str->Option Value} {CX:CXT} {k:Nat} {fa a:Addr} {fd:FuncData} {x:Str} {sp:Sp} {s₁:Shared} {vs:List Value} {ns:List Int}
  (KX:K.In s₁.heap) (nN:s₁.heap.Ns mainGlobals mg) (hb:s₁.heap.Ns builtinsNs mb) (hbb:∀y:Str,y ≠ "__name__"->mb y=bootBuiltins y) (hlim:s₁.heap.NoLimit) (hgen:s₁.gens=#[])
  (ha:s₁.heap.get? a=some { cls:=.type "list",data:=.seq vs.toArray }) (hi:IntsAre vs ns) (hl:ns.length<=sizeLine) (hr:Room k callerA)
  (F:∀base:Heap,K.In base->base.Ns mainGlobals mg->FnG P w K mg base CX k fa fd [x] sp) (hbind:∀(s:Shared) (u:Value),BindsTo s fd ⟨[u],[]⟩ [(x,u)])
  (hsp:∀H:Hp,SqL K H a (ns.map V.int)->sp [.ref a] H (fun v _=>v=.bl true) fun _ _ _=>False) (hCX:∀H e s2,CX [] H s₁ (fun _ _ _=>False) e s2->False) :
  codeAny (model P w) callerA (.call (.ref fa) ⟨[.ref a],[]⟩) (fun r s2=>r=.ok (.ret (.bool true))/\OldK s₁.heap s2.heap/\s2.os=s₁.os/\AllBare s2.gens) s₁:=by
 have rv:=vals_ints hi;have hlen:=hi.length
 -- H holds the script alone,or nothing
 suffices core:∀H:Hp,(∀b u,H b=some u->b=a/\∃ob xs,u=.frz ob (.lst xs))->SqL K H a (ns.map V.int)->HOk P w H s₁.heap->(H a≠none->K.lookup a=none) ->
   codeAny (model P w) callerA (.call (.ref fa) ⟨[.ref a],[]⟩) (fun r s2=>r=.ok (.ret (.bool true))/\OldK s₁.heap s2.heap/\s2.os=s₁.os/\AllBare s2.gens) s₁ by
  cases hk:K.lookup a with
  | some o =>
   have z:=KX a o hk;rw[ha] at z
   cases z
   exact core (fun _=>none) (fun b u q=>nomatch q) (.inr ⟨_,vs.toArray,_,hk,rfl,rfl,rfl,by rw[pA,hlen]; exact hl,by simpa using rv⟩) (fun b u q=>nomatch q) fun q=>absurd rfl q
  | none =>
   let u0:HO:=.frz { cls:=.type "list",data:=.seq vs.toArray } (.lst (ns.map V.int))
   refine core (upd (fun _=>none) a u0) (fun b u q=>?_) (.inl (.inr ⟨_,upd_same⟩)) (fun b u q=>?_) fun _=>hk
   ·by_cases z:b=a
    ·subst z; rw[upd_same] at q; cases q; exact⟨rfl,_,_,rfl⟩
    ·rw[upd_ne z] at q; cases q
   ·by_cases z:b=a
    ·subst z; rw[upd_same] at q; cases q;exact⟨ha,by rw[aT]; exact hl,vs,_,rv,ha⟩
    ·rw[upd_ne z] at q; cases q
 intro H hO hS hok hK
 have dictN:∀{b:Addr} {o:Obj} {es:Array DictEntry} {ep:Nat},s₁.heap.get? b=some o->o.data=.dict es ep->H b=none:=fun {b o es ep} e d=>by
  cases q:H b with
  | none=>rfl
  | some u =>
   obtain⟨rfl,_⟩:=hO b u q;rw[ha] at e
   cases e
   exact nomatch (show Data.seq vs.toArray _=Data.dict es ep from d)
 have nsH:∀{b:Addr} {m:Str->Option Value},s₁.heap.Ns b m->(hidT s₁.heap H).Ns b m:=fun {b m} ⟨o,es,ep,e,d,r⟩=>⟨o,es,ep,hidT_get e (dictN e d),d,r⟩
 have kH:K.In (hidT s₁.heap H):=fun b o e=>hidT_get (KX b o e) (by
  cases q:H b with
  | none=>rfl
  | some u =>
   obtain⟨rfl,_⟩:=hO b u q;rw[hK (by rw[q]; exact fun z=>nomatch z)] at e
   cases e)
 have e0:Env0 P w K mg (hidT s₁.heap H) callerA [] s₁ H:=⟨rfl,⟨kH,nsH nN,⟨mb,nsH hb,hbb⟩,by obtain⟨mc,h1,h2⟩:=hlim; exact⟨mc,nsH h1,h2⟩⟩,fun b o e=>of_hidT e,Nat.le_of_eq (hidT_size _ _),trivial,(fun b z=>absurd (show b∈([]:List Addr) from z) (by simp)),hok,.of_eq hgen⟩
 refine codeAny_mono ((F _ kH (nsH nN)).run callerA [] s₁ H ⟨[.ref a],[]⟩ [.ref a] [.ref a] _ _ rfl hr e0 (hbind s₁ (.ref a)) (.cons rfl .nil) (hsp H hS)) fun r s2 h=>?_
 cases r with
 | error e=>exact(hCX H e s2 h).elim
 | ok fl =>
  cases fl with
  | next=>exact h.elim
  | brk=>exact h.elim
  | cont=>exact h.elim
  | ret u =>
   obtain⟨v,H2,os,bare,un,hok2,r2,q2⟩:=h;have q3:v=.bl true:=q2;subst q3;obtain rfl:u=Value.bool true:=r2;refine⟨rfl,OldK.of_keep fun b o e=>?_,os,bare⟩
   cases q:H b with
   | none=>exact un.keep b o e q (fun z=>absurd (show b∈([]:List Addr) from z) (by simp)) (by simp)
   | some u =>
    obtain⟨rfl,ob,xs,rfl⟩:=hO b u q;have z1:=(hok _ _ q).1;have z2:=(hok2 _ _ (un.frzs _ _ _ q)).1;rw[e] at z1
    cases z1
    exact z2
end Tw
namespace Tw
open PySem L2
def G3 (mg:Str->Option Value) (x:Str) (v:V):Prop:=∃u,mg x=some u/\RelV v u
def jf (a:Arguments):List Str:=a.posonlyargs.map (·.arg)++a.args.map (·.arg)
def LK (K:PySem.W.Frag) (f:Addr) (fd:FuncData) (ps:List Str):Prop:=(∃oc od osl,K.lookup f=some ⟨oc,od,.func fd,osl⟩)/\jf fd.params=ps
theorem Ax {K:PySem.W.Frag} {x qual:Str} {st:Stmt} {f:Addr} {fd:FuncData} {ps:List Str} (F:Fun K x qual st f fd) (hp:jf (defArgs st)=ps):LK K f fd ps:=by
 obtain⟨oc,od,kV,doc,pm,an,cdv,ct,osl,rfl,lk,_⟩:=F.ex;exact⟨⟨oc,od,osl,lk⟩,hp⟩
section
variable (P:Program) (w:World) (K:PySem.W.Frag) (mg:Str->Option Value) (base:Heap)
structure Cal (k:Nat) (x:Str) (sp:Sp):Prop where
 ex:∃f fd ps,FnG P w K mg base CX0 k f fd ps sp/\mg x=some (.ref f)/\PySem.W.keepIn K (.ref f)=true/\Binds K fd ps []/\LK K f fd ps
structure Met (k:Nat) (C:Addr) (m:Str) (sp:Sp):Prop where
 ex:∃f fd ps,Cls K C/\Meth K C m f/\FnG P w K mg base CX0 k f fd ps sp/\Binds K fd ps []/\LK K f fd ps
structure Mak (k:Nat) (x:Str) (C:Addr) (sp:Sp):Prop where
 ex:∃f fd ps,Mk K C f/\FnG P w K mg base CX0 k f fd ps sp/\mg x=some (.ref C)/\Binds K fd ps []/\LK K f fd ps
structure Def (x:Str) (st:Stmt) (ps:List Str):Prop where
 ex:∃f fd,Fun K x x st f fd/\mg x=some (.ref f)/\Binds K fd ps []
structure MDef (C:Addr) (m qual:Str) (st:Stmt) (ps:List Str):Prop where
 ex:∃f fd,Fun K m qual st f fd/\Meth K C m f/\Binds K fd ps []
 cl:Cls K C
structure IDef (x:Str) (C:Addr) (qual:Str) (st:Stmt) (ps:List Str):Prop where
 ex:∃f fd,Fun K "__init__" qual st f fd/\Mk K C f/\Binds K fd ps []
 g:mg x=some (.ref C)
 cl:Cls K C
end
section
variable {X:Cx} {x m:Str} {p pos apos:Pos} {e o:Expr} {es:List Expr} {t:TA} {ta:TE} {sp:Sp} {k j:Nat} {C:Addr} {v:V}
theorem Ep (h:G3 X.mg x v) (hg:Gl X x) (hd:(x==("__debug__":Str))=false:=by decide):PE X (.Name x pos) (tC v):=by
 obtain⟨u,h1,h2⟩:=h;exact pe_glob hg h1 h2 hd
theorem Mw (c:Cal X.prog X.w X.K X.mg X.base k x sp) (hg:X.A.guards=some []) (hr:Room j X.A) (hk:k<=j) (gl:Gl X x) (ha:PA X (e::es) t)
  (h1:(x==("__debug__":Str))=false:=by decide) (h2:starEach (e::es) X.env=(false,eval e X.env)::starEach es X.env:=by rfl) (h3:(backTo pos (starEach es X.env)).any (·.1)=false:=by rfl):PE X (.Call (.Name x p) (e::es) [] pos) (tCall sp [] E0 t):=by
 obtain⟨f,fd,ps,F,hm,kp,b,_⟩:=c.ex;exact Mq F hg (hr.mono hk) gl hm kp b pass0 ha h1 h2 h3
theorem Eo (c:Mak X.prog X.w X.K X.mg X.base k x C sp) (hg:X.A.guards=some []) (hr:Room j X.A) (hk:k+1<=j) (gl:Gl X x) (ha:PA X (e::es) t)
  (h1:(x==("__debug__":Str))=false:=by decide) (h2:starEach (e::es) X.env=(false,eval e X.env)::starEach es X.env:=by rfl) (h3:(backTo pos (starEach es X.env)).any (·.1)=false:=by rfl):PE X (.Call (.Name x p) (e::es) [] pos) (tMake C sp [] E0 t):=by
 obtain⟨f,fd,ps,M,F,hm,b,_⟩:=c.ex;exact Mo M F hg (hr.mono hk) gl hm b pass0 ha h1 h2 h3
theorem tU {pl:Sem Bool} (c:Met X.prog X.w X.K X.mg X.base k C m sp) (hg:X.A.guards=some []) (hr:Room j X.A) (hk:k<=j) (he:PE X o ta) (ha:PA X (e::es) t)
  (h2:starEach (e::es) X.env=(false,eval e X.env)::starEach es X.env:=by rfl) (h3:(backTo pos (starEach es X.env)).any (·.1)=false:=by rfl)
  (ht:eval (.Call (.Attribute o m apos) (e::es) [] pos) X.env=(do let ov ←eval o X.env; standAt apos.atName; let (f,first) ←holding [ov] (getMethod ov m pl); callWith pos f first (backTo pos (starEach (e::es) X.env)) (backToKw pos (keywordEach [] X.env))):=by rfl) :
  PE X (.Call (.Attribute o m apos) (e::es) [] pos) (tMeth C m sp [] E0 ta t):=by
 obtain⟨f,fd,ps,c,me,F,b,_⟩:=c.ex;exact Mn he c me F hg (hr.mono hk) b pass0 ha h2 h3 ht
end
section
variable {P:Program} {w:World} {K:PySem.W.Frag} {mg:Str->Option Value} {base:Heap} {x m qual:Str} {st:Stmt} {N ps:List Str} {k:Nat} {C:Addr}
def xW (P:Program) (w:World) (K:PySem.W.Frag) (mg:Str->Option Value) (base:Heap) (k:Nat) (qual:Str) (st:Stmt) (N:List Str) (sp:Sp):Prop :=
 ∀(f:Addr) (cdv:Value) (A:Around) (outer:List Env) (s:Shared) (H:Hp) (vs:List V) (Q:VK) (E:XK),A.guards=some []->Room k (A.deeper (PyProof.Rows.envOfC qual (defScope st) s.heap.objs.size f cdv))->sp vs H Q E ->
  ∃t,PSs (cxOf CX0 P w K mg base N qual (defScope st) f cdv A outer s H E).nox (defBody st) t/\t { nx:=fun _ H'=>Q .non H',rt:=Q } (L2.start N vs) H
theorem Rv {sp:Sp} (D:Def K mg x st ps) (S:FnScope N ps (defScope st)) (len:∀vs H Q E,sp vs H Q E->vs.length=ps.length) (b:xW P w K mg base k x st N sp) (hp:jf (defArgs st)=ps:=by rfl):Cal P w K mg base (k+1) x sp:=by
 obtain⟨f,fd,F,g,bi⟩:=D.ex;exact⟨f,fd,ps,xr F S len (fun cdv A outer s H vs Q E hg hr h=>let ⟨t,h1,q⟩:=b f cdv A outer s H vs Q E hg hr h; ⟨t,h1.nox,q⟩),g,F.kp,bi,Ax F hp⟩
theorem NX {sp:Sp} (D:MDef K C m qual st ps) (S:FnScope N ps (defScope st)) (len:∀vs H Q E,sp vs H Q E->vs.length=ps.length) (b:xW P w K mg base k qual st N sp) (hp:jf (defArgs st)=ps:=by rfl):Met P w K mg base (k+1) C m sp:=by
 obtain⟨f,fd,F,me,bi⟩:=D.ex;exact⟨f,fd,ps,D.cl,me,xr F S len (fun cdv A outer s H vs Q E hg hr h=>let ⟨t,h1,q⟩:=b f cdv A outer s H vs Q E hg hr h; ⟨t,h1.nox,q⟩),bi,Ax F hp⟩
theorem N4 {sp:Sp} (D:IDef K mg x C qual st ps) (S:FnScope N ps (defScope st)) (len:∀vs H Q E,sp vs H Q E->vs.length=ps.length) (b:xW P w K mg base k qual st N sp) (hp:jf (defArgs st)=ps:=by rfl):Mak P w K mg base (k+1) x C sp:=by
 obtain⟨f,fd,F,me,bi⟩:=D.ex;exact⟨f,fd,ps,me,xr F S len (fun cdv A outer s H vs Q E hg hr h=>let ⟨t,h1,q⟩:=b f cdv A outer s H vs Q E hg hr h; ⟨t,h1.nox,q⟩),D.g,bi,Ax F hp⟩
abbrev Hs (P:Program) (w:World) (K:PySem.W.Frag) (mg:Str->Option Value) (base:Heap) (N:List Str) (qual:Str) (st:Stmt) (f:Addr) (cdv:Value) (A:Around) (outer:List Env) (s:Shared) (H:Hp) (E:XK):Cx:=(cxOf CX0 P w K mg base N qual (defScope st) f cdv A outer s H E).nox
theorem lenN {ok:List SV->Ml->MO->Prop} {n:Nat} (h:∀ss M r,ok ss M r->ss.length=n):∀vs H Q E,K4 K ok vs H Q E->vs.length=n:=fun vs H Q E ⟨ss,M0,r,h1,_,_,_,h2,_⟩=>by rw[rQ h1]; exact h _ _ _ h2
end
end Tw
namespace Tw
open PySem L2 PySem.Spec PyProof.Rows
section
variable {X:Cx}
def DQ (K:PySem.W.Frag):List V->Hp->VK->Prop:=fun xs H Q=>∃v d,xs=[v]/\Dp K H v d/\d.canLay0=true/\d.depth<=60/\d.showable=true/\d.shown.length<=sizeLine/\Q (.str d.shown) H
theorem Bo (hg:X.A.guards=some []) (hu:X.A.units+64<cLine):CallR X (.builtin "repr") (DQ X.K):=by
 intro pins s σ H xs us Q I r h;obtain⟨v,d,rfl,hd,hl,hp,hs,hz,q⟩:=h;obtain⟨u,rfl,rx⟩:=vals1 r
 have fin:∀h' t tk,(∀b o,s.heap.get? b=some o->h'.get? b=some o)->EP X pins σ Q (.str d.shown t) { s with heap:=h',toks:=tk }:=fun h' t tk hk=>⟨.str d.shown,H,I.kept (t':=tk) hk,⟨_,rfl⟩,q⟩
 have nd:=PyData.noDict_hsm (as:=[]) (PyData.hasDict_of_canLay d hl)
 cases hd with
 | non =>
  cases rx
  rw[PyData.shown_none] at fin;exact PySem.P.repr_of_none (fin _ _ _ fun _ _ e=>e)
 | bl b =>
  cases rx
  rw[PyData.shown_bool] at fin;exact PySem.P.repr_of_bool (fin _ _ _ fun _ _ e=>e)
 | int i =>
  obtain⟨t,rfl⟩:=rx;rw[PyData.shown_int] at fin;exact PySem.P.repr_of_int (by simpa [PyData.showable] using hs) (fin _ _ _ fun _ _ e=>e)
 | str x =>
  obtain⟨t,rfl⟩:=rx;rw[PyData.shown_str] at fin hz;exact PySem.P.repr_of_str (fin _ _ _ fun _ _ e=>e) hz
 | lst h1 h2 =>
  obtain⟨as,r1⟩:=Dp.reads I _ _ _ (.lst h1 h2) rx
  cases rx
  exact repr_of_reads' r1 hs (PyData.noDict_hsm (PyData.hasDict_of_canLay _ hl)) hg (by omega) (fun _ _ e=>e) fin hz
 | tup h1 h2 =>
  obtain⟨as,r1⟩:=Dp.reads I _ _ _ (.tup h1 h2) rx
  cases rx
  exact repr_of_reads' r1 hs (PyData.noDict_hsm (PyData.hasDict_of_canLay _ hl)) hg (by omega) (fun _ _ e=>e) fin hz
def oG (K:PySem.W.Frag) (neg:Bool):R2:=fun x y H Q=>∃d ds,Dp K H x d/\Dp K H y (.tuple ds)/\SeqAt.shaped d=true/\SeqAt.shaped (.tuple ds)=true/\Q (.bl (if neg then !(ds.any fun e=>PyData.eqv e d) else ds.any fun e=>PyData.eqv e d)) H
def oH (K:PySem.W.Frag) (neg:Bool):R2:=fun x y H Q=>∃d ds,Dp K H x d/\Dp K H y (.list ds)/\SeqAt.shaped d=true/\SeqAt.shaped (.list ds)=true/\Q (.bl (if neg then !(ds.any fun e=>PyData.eqv e d) else ds.any fun e=>PyData.eqv e d)) H
theorem MX (hu:X.A.units+65<cLine):OpR X (compareOp .In) (oG X.K false):=by
 intro pins s σ H x y v u Q I rx ry h;obtain⟨d,ds,hd,he,sd,se,q⟩:=h;obtain⟨as,r1⟩:=Dp.reads I d x v hd rx;obtain⟨bs,r2⟩:=Dp.reads I _ y u he ry
 exact SeqAt.in_tuple_reads r2 r1 (SeqAt.canLay_of_shaped se) (SeqAt.canLay_of_shaped sd) (by
  unfold SeqAt.shaped at sd;simp only[Bool.and_eq_true,decide_eq_true_eq] at sd
  omega) ⟨.bl _,H,I,rfl,q⟩
theorem MP (hu:X.A.units+65<cLine):OpR X (compareOp .NotIn) (oG X.K true):=by
 intro pins s σ H x y v u Q I rx ry h;obtain⟨d,ds,hd,he,sd,se,q⟩:=h;obtain⟨as,r1⟩:=Dp.reads I d x v hd rx;obtain⟨bs,r2⟩:=Dp.reads I _ y u he ry
 exact SeqAt.notIn_tuple_reads r2 r1 (SeqAt.canLay_of_shaped se) (SeqAt.canLay_of_shaped sd) (by
  unfold SeqAt.shaped at sd;simp only[Bool.and_eq_true,decide_eq_true_eq] at sd
  omega) ⟨.bl _,H,I,rfl,q⟩
theorem MY (hu:X.A.units+65<cLine):OpR X (compareOp .In) (oH X.K false):=by
 intro pins s σ H x y v u Q I rx ry h;obtain⟨d,ds,hd,he,sd,se,q⟩:=h;obtain⟨as,r1⟩:=Dp.reads I d x v hd rx;obtain⟨bs,r2⟩:=Dp.reads I _ y u he ry
 exact SeqAt.in_list_reads r2 r1 (SeqAt.canLay_of_shaped se) (SeqAt.canLay_of_shaped sd) (by
  unfold SeqAt.shaped at sd;simp only[Bool.and_eq_true,decide_eq_true_eq] at sd
  omega) ⟨.bl _,H,I,rfl,q⟩
theorem MQ (hu:X.A.units+65<cLine):OpR X (compareOp .NotIn) (oH X.K true):=by
 intro pins s σ H x y v u Q I rx ry h;obtain⟨d,ds,hd,he,sd,se,q⟩:=h;obtain⟨as,r1⟩:=Dp.reads I d x v hd rx;obtain⟨bs,r2⟩:=Dp.reads I _ y u he ry
 exact SeqAt.notIn_list_reads r2 r1 (SeqAt.canLay_of_shaped se) (SeqAt.canLay_of_shaped sd) (by
  unfold SeqAt.shaped at sd;simp only[Bool.and_eq_true,decide_eq_true_eq] at sd
  omega) ⟨.bl _,H,I,rfl,q⟩
end
end Tw
namespace Tw
open PySem L2 PySem.Spec PyProof.Rows
end Tw
namespace Tw
open PySem L2 PySem.Spec PyProof.Rows
end Tw
namespace Tw
open PySem L2 PySem.Spec PyProof.Rows
section
variable {X:Cx} {CX:CXT} {k:Nat} {f:Addr} {fd:FuncData} {ps:List Str} {sp:Sp} {E:XK}
theorem LB {A:Around} {pins:List (Addr×Obj)} {σ:L2.St} {H:Hp} {s:Shared} {Q:VK} {us:List Value} {vs:List V} (F:FnG X.prog X.w X.K X.mg X.base CX k f fd ps sp) (hg:A.guards=some []) (hr:Room k A) (fr:A.frames=X.A.frames) (hb:Binds X.K fd ps []) (hx:Passes CX X E)
  (I:Inv X pins σ H s) (r:Vals vs us) (h:sp vs H Q E):wpAny (model X.prog X.w) A (call (.ref f) us) (EP X pins σ Q) X.xe s:=by
 have hl:us.length=ps.length:=by rw[←r.length]; exact F.len _ _ _ _ h
 have hbi:=hb s us I.kIn (by rw[b6]; exact hl);rw[b6] at hbi;have e:=I.env0
 have e0:Env0 X.prog X.w X.K X.mg X.base A X.stack s H:=⟨by rw[fr]; exact e.frames,e.mod,e.bs,e.bsz,e.funs,e.frf,e.hok,e.bare⟩
 refine wpAny_call (codeAny_mono (F.run A X.stack s H ⟨us,[]⟩ us vs Q E hg hr e0 hbi r h) fun rr s2 hq=>?_)
 cases rr with
 | error z=>exact hx pins σ H s z s2 I hq
 | ok fl =>
  cases fl with
  | ret u=>exact I.after hq
  | next=>exact hq.elim
  | brk=>exact hq.elim
  | cont=>exact hq.elim
end
end Tw
namespace Tw
open PySem L2 PySem.Spec PyProof.Rows
end Tw
namespace Tw
open PySem L2
theorem gK {A:Around} {k:Nat} (hr:Room k A):A.units+65<cLine:=by have:=hr.un; omega
end Tw
namespace Tw
open PySem L2
def leP (a b:Int×Int):Bool:=decide (a.1<b.1\/(a.1=b.1/\a.2<=b.2))
end Tw
namespace Tw
open PySem L2
def cutG {α:Type} (xs:List α) (lo hi:Option Int):List α:=(xs.drop (HT.sIx xs.length 0 lo)).take (HT.sIx xs.length xs.length hi - HT.sIx xs.length 0 lo)
structure NeO (K:PySem.W.Frag) (C:Addr):Prop where
 ne:PySem.W.findIn K (.ref C) "__ne__"=some (some (.builtin "object.__ne__"))
 ob:PySem.W.mroIn K C (.type "object")=some true
end Tw
namespace Tw
open PySem L2
end Tw
namespace Tw
open PySem L2
theorem KZ (a b:Str):(a++b).length=a.length+b.length:=strLen_append a b
end Tw
namespace Tw
open PySem L2 PyProof.Rows
structure KFact (K:PySem.W.Frag) (mg:Str->Option Value) (x:Str) (n:Nat) (ks:List Str) (gV:List V->List V->List V):Prop where
 ex:∃f fd oc od osl g,mg x=some (.ref f)/\K.lookup f=some ⟨oc,od,.func fd,osl⟩/\KBn K fd (jf fd.params) n ks g gV
structure KMeth (K:PySem.W.Frag) (C:Addr) (m:Str) (n:Nat) (ks:List Str) (gV:List V->List V->List V):Prop where
 ex:∃f fd oc od osl g,PySem.W.findIn K (.ref C) m=some (some (.ref f))/\K.lookup f=some ⟨oc,od,.func fd,osl⟩/\KBn K fd (jf fd.params) n ks g gV
def zn (n m:Nat) (sp:Sp) (gV:List V->List V->List V) (E:XK) (t tk:TA):TE:=fun σ H Q=>t σ H fun vs H1=>tk σ H1 fun zs H2=>vs.length=n/\zs.length=m/\sp (gV vs zs) H2 Q E
section
variable {X:Cx} {CX:CXT} {k j n:Nat} {f:Addr} {fd:FuncData} {ps ks:List Str} {sp:Sp} {E:XK} {x:Str} {p pos:Pos} {kws:List Keyword} {tk:TA} {g:List Value->List Value->List Value} {gV:List V->List V->List V}
theorem LA {pins:List (Addr×Obj)} {σ:L2.St} {H:Hp} {s:Shared} {Q:VK} {us ws:List Value} {vs zs:List V} (F:FnG X.prog X.w X.K X.mg X.base CX k f fd ps sp) (hg:X.A.guards=some []) (hr:Room k X.A) (hb:KBn X.K fd ps n ks g gV) (hx:Passes CX X E)
  (I:Inv X pins σ H s) (r:Vals vs us) (rz:Vals zs ws) (l1:vs.length=n) (l2:zs.length=ks.length) (h:sp (gV vs zs) H Q E):wpAny (model X.prog X.w) X.A (call (.ref f) us (ks.zip ws)) (EP X pins σ Q) X.xe s:=by
 refine wpAny_call (codeAny_mono (F.run X.A X.stack s H ⟨us,ks.zip ws⟩ (g us ws) (gV vs zs) Q E hg hr I.env0 (hb.to s us ws I.kIn (r.length.symm.trans l1) (rz.length.symm.trans l2)) (hb.rel r rz) h) fun rr s2 hq=>?_)
 cases rr with
 | error z=>exact hx pins σ H s z s2 I hq
 | ok fl =>
  cases fl with
  | ret u=>exact I.after hq
  | next=>exact hq.elim
  | brk=>exact hq.elim
  | cont=>exact hq.elim
theorem Mv (c:Cal X.prog X.w X.K X.mg X.base k x sp) (kf:KFact X.K X.mg x 0 ks gV) (hg:X.A.guards=some []) (hr:Room j X.A) (hk:k<=j) (gl:Gl X x) (hkw:PK X kws tk)
  (hall:(backToKw pos (keywordEach kws X.env)).all (·.1.isSome)=true:=by rfl) (hks:(backToKw pos (keywordEach kws X.env)).filterMap (·.1)=ks:=by rfl) (h1:(x==("__debug__":Str))=false:=by decide)
  (hpl:((backTo pos (starEach [] X.env)).any (·.1) || (backToKw pos (keywordEach kws X.env)).any (·.1.isNone))=false:=by rfl):PE X (.Call (.Name x p) [] kws pos) (zn 0 ks.length sp gV E0 tNil tk):=by
 obtain⟨f,fd,ps,F,hm,kp,b,⟨oc,od,osl,lk⟩,hp⟩:=c.ex;obtain⟨f2,fd2,oc2,od2,osl2,g,hm2,lk2,kb⟩:=kf.ex
 cases hm.symm.trans hm2
 cases lk.symm.trans lk2
 rw[hp] at kb;refine⟨fun pins s σ H Q I h=>wpAny_Call_Name_kw (ld_glob I gl hm (PySem.W.callWith_KW0 (h₀:=X.base) I.ok.mod.kin kp hall (thn (hkw.run pos pins s σ H _ I h) fun ws s2 hh=>?_) hpl) h1)⟩;obtain⟨zs,H2,I2,rz,l1,l2,q2⟩:=hh;refine⟨I2.kIn,?_⟩;rw[hks];exact LA (us:=[]) (vs:=[]) F hg (hr.mono hk) kb pass0 I2 .nil rz rfl l2 q2
end
end Tw
namespace Tw
open PySem L2 PyProof.Rows
structure CalS (P:Program) (w:World) (K:PySem.W.Frag) (mg:Str->Option Value) (base:Heap) (k:Nat) (x:Str) (sp:Sp):Prop where
 ex:∃f,(∀(A:Around) (outer:List Env) (s:Shared) (H:Hp) (us:List Value) (vs:List V) (Q:VK) (E:XK),A.guards=some []->Room k A->Env0 P w K mg base A outer s H->Vals vs us->sp vs H Q E ->
  codeAny (model P w) A (.call (.ref f) ⟨us,[]⟩) (CR CX0 outer P w H s Q E) s)/\mg x=some (.ref f)/\PySem.W.keepIn K (.ref f)=true
end Tw
namespace Tw
open PySem L2
end Tw
namespace Tw
open PySem L2
end Tw
namespace Tw
open PySem PySem.Spec PyProof.Rows L2
inductive ZS where
 | txt (z:Str)|tup (a:Addr)
def ZS.len (K:PySem.W.Frag) (H:Hp):ZS->Nat->Prop
 | .txt z,n=>n=z.cps.size
 | .tup a,n=>∃xs,SqT K H a xs/\n=xs.length
def ZS.at (K:PySem.W.Frag) (H:Hp):ZS->Nat->V->Prop
 | .txt z,i,x=>∃c,z.cps[i]?=some c/\x=.str ⟨#[c]⟩
 | .tup a,i,x=>∀xs,SqT K H a xs->xs[i]?=some x
def ZS.ne:ZS->Addr->Prop
 | .txt _,_=>True
 | .tup a,b=>a≠b
def ZS.It (h:Heap):ZS->Addr->Nat->Prop
 | .txt z,it,i=>∃t,h.IsStrIter it (strIterType z) z t i
 | .tup a,it,i=>h.IsTupleIter it a i
def ZS.v:ZS->V
 | .txt z=>.str z
 | .tup a=>.ref a
theorem ZS.draws {X:Cx} {pins:List (Addr×Obj)} {σ:L2.St} {H:Hp} {s:Shared} (I:Inv X pins σ H s) {A:Around} (hh:A.handled=none) {p:ZS} {it:Addr} {i n:Nat} (hi:p.It s.heap it i) (hl:p.len X.K H n) (hne:p.ne it) :
  ∃(fp:List Addr) (P:Nat->Value->Prop) (St:Nat->Heap->Prop),Draws X.prog X.w A it fp n P St/\St i s.heap/\it∈fp/\(∀b∈fp,b=it\/∃a,p=.tup a/\b=a)/\(∀h' k,St k h'->p.It h' it k)/\∀u,P i u->∃x,RelV x u/\p.at X.K H i x:=by
 cases p with
 | txt z =>
  obtain⟨t,hi⟩:=hi;have hl:n=z.cps.size:=hl;subst hl;refine⟨_,_,_,Draws.text hh it z t,hi,by simp,fun b hb=>.inl (by simpa using hb),fun h' k st=>⟨t,st⟩,fun u hu=>?_⟩;obtain⟨c,u',hc,rfl⟩:=hu;exact⟨.str ⟨#[c]⟩,⟨u',rfl⟩,c,hc,rfl⟩
 | tup a =>
  obtain⟨xs,hx,rfl⟩:=hl;obtain⟨its,rv,p1,_⟩:=I.tuple hx;have D:=Draws.tuple (prog:=X.prog) (w:=X.w) hh it a hne its.toArray;rw[pA,←rv.length] at D;refine⟨_,_,_,D,⟨hi,p1⟩,by simp,fun b hb=>?_,fun h' k st=>st.1,fun u hu=>?_⟩
  ·rcases aU.mp hb with e|hb
   ·exact .inl e
   ·exact .inr ⟨a,rfl,bm.mp hb⟩
  ·have hu:its[i]?=some u:=by simpa using hu
   have hlt:i<xs.length:=by
    rw[rv.length]
    rcases kj i its.length with h|h
    ·exact h
    ·rw[gB h] at hu; cases hu
   obtain⟨u',e1,r⟩:=rv.get (c8 hlt);rw[hu] at e1;rw[←Option.some.inj e1] at r;exact⟨xs[i],r,fun ys hy=>by rw[I.tuple_inj hy hx]; exact c8 hlt⟩
structure ZA (z TI TO i1 i2:Addr) (p q:ZS):Prop where
 TIz:TI≠z
 TOz:TO≠z
 i1z:i1≠z
 i2z:i2≠z
 TITO:TI≠TO
 TIi1:TI≠i1
 TIi2:TI≠i2
 TOi1:TO≠i1
 TOi2:TO≠i2
 i12:i1≠i2
 p4:p.ne z/\p.ne TO/\p.ne i1/\p.ne i2
 q4:q.ne z/\q.ne TO/\q.ne i1/\q.ne i2
end Tw
namespace Tw
open PySem PySem.Spec PyProof.Rows L2
theorem ZS.begins {X:Cx} {pins:List (Addr×Obj)} {σ:L2.St} {H:Hp} {s:Shared} (I:Inv X pins σ H s) {p:ZS} {u:Value} {n:Nat} (r:RelV p.v u) (hl:p.len X.K H n) :
  ∃(o:Obj) (H1:Heap->Prop),Begins u o H1/\H1 s.heap/\(∀h it,h.get? it=some o->p.It h it 0)/\∀b,s.heap.objs.size<=b->p.ne b:=by
 cases p with
 | txt z =>
  obtain⟨t,rfl⟩:=r;exact⟨_,_,begins_text z t,trivial,fun h it e=>⟨t,_,e,rfl,rfl⟩,fun _ _=>trivial⟩
 | tup a =>
  cases r
  obtain⟨xs,hx,rfl⟩:=hl;obtain⟨its,rv,p1,_⟩:=I.tuple hx;obtain⟨o,ho,_⟩:=id p1;exact⟨_,_,begins_tuple a its.toArray,p1,fun h it e=>⟨_,e,rfl,rfl⟩,fun b hb=>jk (mJ (Heap.lt_size ho) hb)⟩
end Tw
namespace Tw
open PySem L2 PySem.Spec PyProof.Rows
structure Ct where
 f:Str->Addr
 hs:Str->Int
instance:CoeFun Ct (fun _=>Str->Addr):=⟨Ct.f⟩
abbrev dh (ct:Ct):Str->Int:=ct.hs
mutual
def nE (hs:Str->Int):NestedKey->Int
 | .none=>reduceHash 0xFCA86420
 | .num i=>hashInt i
 | .text x=>hs x
 | .tup ks=>reduceHash (Builtin.Tuple.tupleHashOf (nhashes hs ks))
def nhashes (hs:Str->Int):List NestedKey->List Int
 | []=>[]
 | k::ks=>nE hs k::nhashes hs ks
end
mutual
theorem Ai (w:World):∀k,nE (hashStr w) k=k.hash w
 | .none=>rfl
 | .num i=>rfl
 | .text x=>rfl
 | .tup ks=>by
  unfold nE NestedKey.hash;rw[nhashes_w w ks]
theorem nhashes_w (w:World):∀ks,nhashes (hashStr w) ks=NestedKey.hashes w ks
 | []=>rfl
 | k::ks=>by
  unfold nhashes NestedKey.hashes;rw[Ai w k,nhashes_w w ks]
end
section
variable (H:Hp)
mutual
def NV:NestedKey->V->Prop
 | .none,v=>v=.non
 | .num i,v=>v=.int i
 | .text x,v=>v=.str x
 | .tup ks,v=>∃a vs,v=.ref a/\H a=some (.tup vs)/\NVs ks vs
def NVs:List NestedKey->List V->Prop
 | [],[]=>True
 | k::ks,v::vs=>NV k v/\NVs ks vs
 | [],_::_=>False
 | _::_,[]=>False
end
end
mutual
theorem NV.keep {H H':Hp} (k:∀a vs,H a=some (.tup vs)->H' a=some (.tup vs)):∀(x:NestedKey) (v:V),NV H x v->NV H' x v
 | .none,_,h=>h
 | .num _,_,h=>h
 | .text _,_,h=>h
 | .tup ks,_,h=>by
  obtain⟨a,vs,e,h1,h2⟩:=h;exact⟨a,vs,e,k _ _ h1,NVs.keep k ks vs h2⟩
theorem NVs.keep {H H':Hp} (k:∀a vs,H a=some (.tup vs)->H' a=some (.tup vs)):∀(xs:List NestedKey) (vs:List V),NVs H xs vs->NVs H' xs vs
 | [],[],_=>trivial
 | x::xs,v::vs,h=>⟨NV.keep k x v h.1,NVs.keep k xs vs h.2⟩
 | [],_::_,h=>h.elim
 | _::_,[],h=>h.elim
end
mutual
theorem NV.inj {H:Hp}:∀(x y:NestedKey) (v:V),NV H x v->NV H y v->x=y
 | .none,y,v,h1,h2=>by
  have h1:v=.non:=h1;subst h1
  cases y with
  | none=>rfl
  | num i=>cases (show V.non=.int i from h2)
  | text x=>cases (show V.non=.str x from h2)
  | tup ks=>obtain⟨_,_,e,_⟩:=h2; cases e
 | .num i,y,v,h1,h2=>by
  have h1:v=.int i:=h1;subst h1
  cases y with
  | none=>cases (show V.int i=.non from h2)
  | num j=>cases (show V.int i=.int j from h2); rfl
  | text x=>cases (show V.int i=.str x from h2)
  | tup ks=>obtain⟨_,_,e,_⟩:=h2; cases e
 | .text x,y,v,h1,h2=>by
  have h1:v=.str x:=h1;subst h1
  cases y with
  | none=>cases (show V.str x=.non from h2)
  | num j=>cases (show V.str x=.int j from h2)
  | text z=>cases (show V.str x=.str z from h2); rfl
  | tup ks=>obtain⟨_,_,e,_⟩:=h2; cases e
 | .tup ks, y, v, h1, h2 => by
  obtain⟨a,vs,rfl,h3,h4⟩:=h1
  cases y with
  | none=>cases (show V.ref a=.non from h2)
  | num j=>cases (show V.ref a=.int j from h2)
  | text z=>cases (show V.ref a=.str z from h2)
  | tup ls =>
   obtain⟨a',vs',e,h5,h6⟩:=h2
   cases e
   rw[h3] at h5
   cases h5
   rw[NVs.inj ks ls vs h4 h6]
theorem NVs.inj {H:Hp}:∀(xs ys:List NestedKey) (vs:List V),NVs H xs vs->NVs H ys vs->xs=ys
 | [],[],[],_,_=>rfl
 | x::xs,y::ys,v::vs,h1,h2=>by rw[NV.inj x y v h1.1 h2.1,NVs.inj xs ys vs h1.2 h2.2]
 | [],[],_::_,h,_=>h.elim
 | [],_::_,[],_,h=>h.elim
 | [],_::_,_::_,h,_=>h.elim
 | _::_,_,[],h,_=>h.elim
 | _::_,[],_::_,_,h=>h.elim
end
mutual
theorem NV.is {P:Program} {w:World} {H:Hp} {h:Heap} (ok:HOk P w H h):∀(x:NestedKey) (v:V) (u:Value),NV H x v->RelV v u->NestedIs h x u
 | .none,v,u,e,r=>by
  have e:v=.non:=e;subst e;rw[show u=Value.none from r];exact .none
 | .num i,v,u,e,r=>by
  have e:v=.int i:=e;subst e
  obtain⟨t,rfl⟩:=(show ∃t,u=Value.int i t from r)
  exact .int i t
 | .text x,v,u,e,r=>by
  have e:v=.str x:=e;subst e
  obtain⟨t,rfl⟩:=(show ∃t,u=Value.str x t from r)
  exact .text x t
 | .tup ks,v,u,e,r=>by
  obtain⟨a,vs,rfl,h1,h2⟩:=e;rw[show u=Value.ref a from r];obtain⟨_,its,vv,o,ho,hc,n,hd⟩:=ok a _ h1;exact .tup ho hc hd (NVs.is ok ks vs its h2 vv)
theorem NVs.is {P:Program} {w:World} {H:Hp} {h:Heap} (ok:HOk P w H h):∀(xs:List NestedKey) (vs:List V) (us:List Value),NVs H xs vs->Vals vs us->NestedAll h xs us
 | [],[],us,_,r=>by cases r; exact .nil
 | x::xs,v::vs,us,e,r=>by
  cases r with
  | cons r1 r2=>exact .cons (NV.is ok x v _ e.1 r1) (NVs.is ok xs vs _ e.2 r2)
 | [],_::_,_,h,_=>h.elim
 | _::_,[],_,h,_=>h.elim
end
abbrev ji:List (NestedKey×Addr×V)->List (NestedKey×Addr×Value)->Prop:=Paired fun p q=>p.1=q.1/\p.2.1=q.2.1/\RelV p.2.2 q.2.2
def uS (hs:Str->Int) (a:Addr) (xs:List (NestedKey×Addr×V)) (h:Heap):Prop :=
 (a==sysModules)=false/\∃ys,ji xs ys/\∃o es ep,h.get? a=some o/\o.ExactDict/\o.data=.dict es ep/\es.toList=ys.map (fun x=>(⟨nE hs x.1,.ref x.2.1,x.2.2⟩:DictEntry))
def eQ (hs:Str->Int) (a:Addr) (xs:List (NestedKey×Addr×V)):HO:=.ext (uS hs a xs)
theorem Al {P:Program} {w:World} {H:Hp} {h:Heap} {hs:Str->Int} {a b:Addr} {xs:List (NestedKey×Addr×V)} (ok:HOk P w H h) (r:Rd H b (eQ hs a xs)):uS hs a xs h:=(r.ok ok).1
theorem E4 {P:Program} {w:World} {H:Hp} {h:Heap} {hs:Str->Int} {a:Addr} {xs:List (NestedKey×Addr×V)} (x:uS hs a xs h):ObjOk P w H h a (eQ hs a xs):=by
 refine⟨x,?_,fun h1 h2 q k=>?_⟩
 ·obtain⟨_,ys,_,o,_,_,e,_⟩:=x;exact⟨o,e⟩
 ·obtain⟨z,ys,p,o,es,ep,e,r⟩:=q;exact⟨z,ys,p,o,es,ep,k o e,r⟩
def iJ (H:Hp) (xs:List (NestedKey×Addr×V)):Prop:=xs.length<=sizeLine/\(xs.map (·.1)).Nodup/\∀q∈xs,NV H q.1 (.ref q.2.1)/\q.1.depth<=8
theorem iJ.keep {H H':Hp} {xs:List (NestedKey×Addr×V)} (k:∀a vs,H a=some (.tup vs)->H' a=some (.tup vs)) (x:iJ H xs):iJ H' xs:=⟨x.1,x.2.1,fun q hq=>⟨NV.keep k _ _ (x.2.2 q hq).1,(x.2.2 q hq).2⟩⟩
theorem ES:∀{xs:List (NestedKey×Addr×V)} {ys:List (NestedKey×Addr×Value)},ji xs ys->∀y∈ys,∃x∈xs,x.1=y.1/\x.2.1=y.2.1
 | _,_,.nil,_,h=>nomatch h
 | _, _, .cons r t, y, h => by
  rcases aU.mp h with rfl|h
  ·exact⟨_,ao ..,r.1,r.2.1⟩
  ·obtain⟨x,hx,e⟩:=ES t y h;exact⟨x,aE _ hx,e⟩
theorem EU:∀{xs:List (NestedKey×Addr×V)} {ys:List (NestedKey×Addr×Value)},ji xs ys->xs.map (·.1)=ys.map (·.1)
 | _,_,.nil=>rfl
 | _,_,.cons r t=>by rw[bU,bU,r.1,EU t]
theorem NL {P:Program} {w:World} {H:Hp} {h:Heap} {hs:Str->Int} {a:Addr} {xs:List (NestedKey×Addr×V)} (ok:HOk P w H h) (hw:hs=hashStr w) (k:iJ H xs) (x:uS hs a xs h) :
  (a==sysModules)=false/\∃ys,ji xs ys/\h.DictOfH (nestedKind P w) a ys:=by
 obtain⟨z,ys,p,o,es,ep,h1,h2,h3,h4⟩:=x;refine⟨z,ys,p,o,es,ep,h1,h2,h3,?_,fun y hy=>?_,?_⟩
 ·rw[h4]
  refine jJ fun y _=>?_
  subst hw
  show(⟨nE (hashStr w) y.1,_,_⟩:DictEntry)=⟨y.1.hash w,_,_⟩
  rw[Ai]
 ·obtain⟨x,hx,e1,e2⟩:=ES p y hy;obtain⟨n1,n2⟩:=k.2.2 x hx;rw[e1,e2] at n1;rw[e1] at n2;exact⟨NV.is ok _ _ _ n1 rfl,n2⟩
 ·rw[←EU p];exact k.2.1
theorem E2 {P:Program} {w:World} {h:Heap} {hs:Str->Int} {a:Addr} {xs:List (NestedKey×Addr×V)} {ys:List (NestedKey×Addr×Value)} (hw:hs=hashStr w) (z:(a==sysModules)=false) (p:ji xs ys) (d:h.DictOfH (nestedKind P w) a ys):uS hs a xs h:=by
 obtain⟨o,es,ep,h1,h2,h3,h4,_⟩:=d;refine⟨z,ys,p,o,es,ep,h1,h2,h3,?_⟩;rw[h4]
 refine jJ fun y _=>?_
 subst hw
 show(⟨y.1.hash w,_,_⟩:DictEntry)=⟨nE (hashStr w) y.1,_,_⟩
 rw[Ai]
def iF (xs:List (NestedKey×Addr×V)) (k:NestedKey):Option V:=(xs.find? fun x=>decide (x.1=k)).map (·.2.2)
def cv (xs:List (NestedKey×Addr×V)) (k:NestedKey) (b:Addr) (v:V):List (NestedKey×Addr×V):=if (iF xs k).isSome then xs.map (fun x=>if x.1=k then (x.1,x.2.1,v) else x) else xs++[(k,b,v)]
theorem wH {k:NestedKey}:∀{xs:List (NestedKey×Addr×V)} {ys:List (NestedKey×Addr×Value)},ji xs ys->RelO (iF xs k) ((atKey ys k).map (·.2))
 | _,_,.nil=>by unfold iF atKey; exact trivial
 | x :: xs, y :: ys, .cons r t => by
  have ih:=wH (k:=k) t;unfold iF atKey at ih ⊢;rw[u6,u6,←r.1]
  by_cases e:x.1=k
  ·rw[decide_eq_true e];exact r.2.2
  ·rw[decide_eq_false e];exact ih
theorem ET {k:NestedKey} {v:V} {u:Value} (rv:RelV v u):∀{xs:List (NestedKey×Addr×V)} {ys:List (NestedKey×Addr×Value)},ji xs ys->ji (xs.map fun x=>if x.1=k then (x.1,x.2.1,v) else x) (ys.map (putAt k u))
 | _,_,.nil=>.nil
 | x :: xs, y :: ys, .cons r t => by
  rw[bU,bU];refine .cons ?_ (ET rv t);unfold putAt
  by_cases e:x.1=k
  ·rw[if_pos e,if_pos (r.1▸e)];exact⟨r.1,r.2.1,rv⟩
  ·rw[if_neg e,if_neg (r.1▸e)];exact r
theorem EQ {p:NestedKey×Addr×V} {q:NestedKey×Addr×Value} (h:p.1=q.1/\p.2.1=q.2.1/\RelV p.2.2 q.2.2):∀{xs:List (NestedKey×Addr×V)} {ys:List (NestedKey×Addr×Value)},ji xs ys->ji (xs++[p]) (ys++[q])
 | _,_,.nil=>.cons h .nil
 | _,_,.cons r t=>.cons r (EQ h t)
theorem ER {k:NestedKey} {b:Addr} {v:V} {u:Value} (rv:RelV v u) {xs:List (NestedKey×Addr×V)} {ys:List (NestedKey×Addr×Value)} (p:ji xs ys):ji (cv xs k b v) (storedH ys k b u):=by
 have q:=(wH (k:=k) p).isSome_eq;rw[Option.isSome_map] at q;unfold cv storedH;rw[q];split
 ·exact ET rv p
 ·exact EQ ⟨rfl,rfl,rv⟩ p
theorem D8 {xs:List (NestedKey×Addr×V)} {k:NestedKey} {b:Addr} {v:V}:(cv xs k b v).map (·.1)=if (iF xs k).isSome then xs.map (·.1) else xs.map (·.1)++[k]:=by
 unfold cv;split
 ·rw[cF];apply jJ;intro p _
  show(if p.1=k then (p.1,p.2.1,v) else p).1=p.1
  split<;>rfl
 ·rw[dA]<;>rfl
theorem Of {k:NestedKey}:∀{xs:List (NestedKey×Addr×V)},(iF xs k).isSome=false->k∉xs.map (·.1):=fun {xs} h m=>by
 obtain⟨x,hx,e⟩:=aW.mp m;unfold iF at h;rw[Option.isSome_map] at h
 have:(xs.find? fun x=>decide (x.1=k))=none:=by simpa using h
 rw[List.find?_eq_none] at this;exact this x hx (decide_eq_true e)
theorem iJ.put {H:Hp} {xs:List (NestedKey×Addr×V)} {k:NestedKey} {b:Addr} {v:V} (x:iJ H xs) (hl:xs.length<sizeLine) (hb:NV H k (.ref b)) (hd:k.depth<=8):iJ H (cv xs k b v):=by
 obtain⟨x1,x2,x3⟩:=x;refine⟨?_,?_,fun q hq=>?_⟩
 ·unfold cv;split
  ·rw[aT]; exact x1
  ·rw[cX]; exact hl
 ·rw[D8];split
  ·exact x2
  ·rename_i h
   have h:(iF xs k).isSome=false:=by simpa using h
   exact cA.mpr ⟨x2,by simp,fun a ha b hb e=>by
    rw[bm.mp hb] at e;subst e
    exact Of h ha⟩
 ·unfold cv at hq;split at hq
  ·obtain⟨p,hp,rfl⟩:=aW.mp hq;have:=x3 p hp;split
   ·exact this
   ·exact this
  ·rcases bc.mp hq with z|z
   ·exact x3 q z
   ·rw[bm.mp z];exact⟨hb,hd⟩
def xP (H:Hp) (hs:Str->Int) (a:Addr) (xs:List (NestedKey×Addr×V)):Prop:=iJ H xs/\(Rd H a (eQ hs a xs)\/(xs=[]/\(Rd H a (.dK [])\/Rd H a (.dT []))))
def uR (H:Hp) (hs:Str->Int) (a:Addr) (y:V) (o:Option V):Prop:=∃xs k,xP H hs a xs/\NV H k y/\(∃b,y=.ref b)/\k.depth<=8/\o=iF xs k
def qX (H:Hp) (hs:Str->Int) (a:Addr) (y v:V) (H':Hp):Prop:=∃xs k b,iJ H xs/\(H a=some (eQ hs a xs)\/(xs=[]/\(H a=some (.dK [])\/H a=some (.dT []))))/\y=.ref b/\NV H k y/\k.depth<=8/\xs.length<sizeLine/\H'=upd H a (eQ hs a (cv xs k b v))
section
variable {X:Cx} {pins:List (Addr×Obj)} {σ:L2.St} {H:Hp} {s:Shared} {a:Addr} {u r:Value} {y v:V} {o:Option V} {A:Around} {E:Value->Shared->Prop} {hs:Str->Int} {xs:List (NestedKey×Addr×V)}
theorem uc (I:Inv X pins σ H s) (hw:hs=hashStr X.w) (d:xP H hs a xs):(a==sysModules)=false/\∃ys,ji xs ys/\s.heap.DictOfH (nestedKind X.prog X.w) a ys:=by
 obtain⟨k,d|⟨rfl,d|d⟩⟩:=d
 ·exact NL I.hok hw k (Al I.hok d)
 ·obtain⟨_,z,vs,rel,ob,es,ep,h1,h2,h3,h4⟩:=dk_rd I.hok d
  cases rel
  refine⟨z,[],.nil,ob,es,ep,h1,h2,h3,?_,fun x hx=>(nomatch hx),b5⟩;obtain⟨_,pp,_⟩:=h4
  cases es with
  | mk l=>cases l with
   | nil=>rfl
   | cons e l=>cases pp
 ·obtain⟨_,z,ys,rel,ob,es,ep,h1,h2,h3,h4,_⟩:=dt_rd I.hok d
  cases rel
  exact⟨z,[],.nil,ob,es,ep,h1,h2,h3,h4,fun x hx=>(nomatch hx),b5⟩
theorem wI:∀{xs:List (NestedKey×Addr×V)} {ys:List (NestedKey×Addr×Value)},ji xs ys->xs.length=ys.length
 | _,_,.nil=>rfl
 | _,_,.cons _ t=>by rw[cR,cR,wI t]
theorem NP {Q:Value->Shared->Prop} (hu:A.units+9<cLine) (I:Inv X pins σ H s) (hw:hs=hashStr X.w) (g:uR H hs a y (some v)) (ry:RelV y u) (h:∀w' s',Inv X pins σ H s'->RelV v w'->Q w' s') :
  wpAny (model X.prog X.w) A (getItem (.ref a) u) Q E s:=by
 obtain⟨xs,k,d,n,⟨b,rfl⟩,dp,l⟩:=g;obtain⟨hd,ys,rel,dd⟩:=uc I hw d
 cases (show u=Value.ref b from ry)
 obtain⟨w',hw',rw'⟩:=RelO.some_of (v:=v) (o:=(atKey ys k).map (·.2)) (by rw[l]; exact wH rel);obtain⟨p,hp,hp2⟩:=jH.mp hw';refine wpAny_getItem_heap (knd:=nestedKind X.prog X.w) (by show A.in1.units+8<cLine; exact hu) ⟨NV.is I.hok _ _ _ n rfl,dp⟩ dd hp ?_;rw[hp2];exact h w' _ (I.tok _) rw'
theorem NO {Q:Value->Shared->Prop} (hu:A.units+9<cLine) (I:Inv X pins σ H s) (hw:hs=hashStr X.w) (g:uR H hs a y o) (ry:RelV y u) (h:∀s',Inv X pins σ H s'->Q (.bool (!o.isSome)) s') :
  wpAny (model X.prog X.w) A (compareOp .NotIn u (.ref a)) Q E s:=by
 obtain⟨xs,k,d,n,⟨b,rfl⟩,dp,l⟩:=g;obtain⟨hd,ys,rel,dd⟩:=uc I hw d
 cases (show u=Value.ref b from ry)
 refine wpAny_notIn_heap (knd:=nestedKind X.prog X.w) (by show A.in1.units+8<cLine; exact hu) ⟨NV.is I.hok _ _ _ n rfl,dp⟩ hd dd ?_;have q:=(wH (k:=k) rel).isSome_eq;rw[Option.isSome_map] at q;rw[←q,←l];exact h _ (I.tok _)
theorem Nz {H':Hp} (I:Inv X pins σ H s) (hw:hs=hashStr X.w) (g:qX H hs a y v H') (ry:RelV y u) (rv:RelV v r) :
  ∃(b:Addr) (k:NestedKey) (ys:List (NestedKey×Addr×Value)),u=.ref b/\(nestedKind X.prog X.w).is s.heap k b/\(a==sysModules)=false/\s.heap.DictOfH (nestedKind X.prog X.w) a ys/\ys.length<=sizeLine /\
   ∀h' t',h'.DictOfH (nestedKind X.prog X.w) a (storedH ys k b r)->Heap.SameBut a s.heap h'->Inv X pins σ H' { s with heap:=h',toks:=t' }:=by
 obtain⟨xs,k,b,kk,d,rfl,n,dp,hl,eH⟩:=g;subst eH
 have d':xP H hs a xs:=⟨kk,d.imp .inl fun⟨e,z⟩=>⟨e,z.imp .inl .inl⟩⟩
 obtain⟨hd,ys,rel,dd⟩:=uc I hw d'
 cases (show u=Value.ref b from ry)
 refine⟨b,k,ys,rfl,⟨NV.is I.hok _ _ _ n rfl,dp⟩,hd,dd,by rw[←wI rel]; exact kk.1,fun h' t' dd' hs'=>?_⟩;have nd:=E2 (hs:=hs) (xs:=cv xs k b v) hw hd (ER rv rel) dd'
 have he:∃q,h'.get? a=some q:=let ⟨q,_,_,hq,_⟩:=dd'; ⟨q,hq⟩
 exact d_write I (by
  rcases d with d|⟨_,d|d⟩
  ·rw[d]; exact True.intro
  ·rw[d]; exact True.intro
  ·rw[d]; exact True.intro) hs' he (E4 nd)
theorem NM {H':Hp} {Q:Unit->Shared->Prop} (hu:A.units+9<cLine) (I:Inv X pins σ H s) (hw:hs=hashStr X.w) (g:qX H hs a y v H') (ry:RelV y u) (rv:RelV v r) (h:∀s',Inv X pins σ H' s'->Q () s') :
  wpAny (model X.prog X.w) A (setItem (.ref a) u r) Q E s:=by
 obtain⟨b,k,ys,rfl,ki,hd,dd,hz,wr⟩:=Nz I hw g ry rv
 exact wpAny_setItem_heap (hsz:=hz) (knd:=nestedKind X.prog X.w) (by show A.in1.units+8<cLine; exact hu) ki dd fun h' dd' hs'=>h _ (wr h' _ dd' hs')
end
def zl (hs:Str->Int) (neg:Bool) (ty td:TE):TE:=fun σ H Q=>ty σ H fun y H1=>td σ H1 fun x H2=>∃a o,x=.ref a/\uR H2 hs a y o/\Q (.bl (if neg then !o.isSome else o.isSome)) H2
def zI (hs:Str->Int) (td ty tv:TE):TS:=fun D σ H=>tv σ H fun v H1=>td σ H1 fun x H2=>ty σ H2 fun y H3=>∃a H4,x=.ref a/\qX H3 hs a y v H4/\D.nx σ H4
section
variable {X:Cx} {o i value:Expr} {pos pos':Pos} {td ty tv:TE} {hs:Str->Int}
theorem Eq (hu:X.A.units+9<cLine) (hw:hs=hashStr X.w) (hi:PE X i ty) (ho:PE X o td):PC X .NotIn i o (zl hs true ty td):=by
 refine⟨fun pins s σ H Q I h=>?_⟩
 refine thn (hi.run pins s σ H _ I h) fun iv s1 ⟨y,H1,I1,ry,q1⟩=>thn (ho.run pins s1 σ H1 _ I1 q1) fun u s2 ⟨x,H2,I2,rx,a,ov,ex,g,q2⟩=>?_
 subst ex;obtain rfl:u=Value.ref a:=rx
 exact NO hu I2 hw g ry fun s3 I3=>⟨.bl (!ov.isSome),H2,I3,rfl,q2⟩
theorem Ed (hu:X.A.units+9<cLine) (hw:hs=hashStr X.w) (ho:PE X o td) (hi:PE X i ty) (hv:PE X value tv) (hsw:swapsWith value (some (.Subscript o i pos')) pos.line X.env=pure false) :
  PS X (.Assign [.Subscript o i pos'] value pos) (zI hs td ty tv):=by
 refine⟨fun pins s σ H D I h=>?_⟩;refine wpAny_Assign_Subscript (thn (hv.run pins s σ H _ I h) fun r s1 ⟨v,H1,I1,rv,q1⟩=>thn (ho.run pins s1 σ H1 _ I1 q1) fun u s2 ⟨x,H2,I2,rx,q2⟩=>thn (hi.run pins s2 σ H2 _ I2 q2) fun iv s3 ⟨y,H3,I3,ry,a,H4,ex,g,q3⟩=>?_) hsw;subst ex;obtain rfl:u=Value.ref a:=rx
 exact NM hu I3 hw g ry rv fun s4 I4=>⟨σ,H4,I4,q3⟩
end
end Tw
namespace PySem
open Sem (wp)
section
variable {prog:Program} {w:World} {A:Around} {E:Value->Shared->Prop} {s:Shared}
theorem JB (d:Addr) (hd:(d==sysModules)=false) :
  MeetsIn prog w (Builtin.«dict.__len__» ⟨[.ref d],[]⟩) (fun _ R s=>∃o es ep,s.heap.get? d=some o/\o.ExactDict/\o.data=.dict es ep/\R (.ok (.ret (.int es.size s.toks))) { s with toks:=s.toks+1 }) :=
 .of_wp fun A R s ⟨o,es,ep,ho,hc,hdat,h⟩=>by
  show wpAny _ _ (dictSize d >>= _) _ _ s
  unfold dictSize;refine wpAny_bind (wpAny_bind (wpAny_dictEntries ho hdat (wpAny_pure ?_)))
  show wpAny _ _ (Builtin.Dict.pendingCount d >>= _) _ _ s
  refine wpAny_bind (wpAny_pendingCount_other hd ?_);refine wpAny_ret_mkInt ?_;rw[Nat.add_zero]; exact h
theorem JC {d:Addr} {o:Obj} {es:Array DictEntry} {ep:Nat} {Q:Value->Shared->Prop} (hd:(d==sysModules)=false) (ho:s.heap.get? d=some o) (hc:o.ExactDict) (hdat:o.data=.dict es ep) (hfit:(es.size:Int)<2 ^ 63)
  (h:Q (.int es.size (s.toks+1)) { s with toks:=s.toks+1+1 }):wpAny (model prog w) A (Builtin.«len» ⟨[.ref d],[]⟩) (fun fin s'=>∃r,fin=.done (.ret r)/\Q r s') E s:=by
 have ty:s.TypeIs (.ref d) "dict":=⟨o,ho,hc.1⟩
 unfold Builtin.«len»;refine wpAny_bind (m:=oneArg "len" _) (wpAny_pure ?_)
 refine wpAny_bind (m:=callSpecial? (.ref d) (Str.ofString "__len__")) (wpAny_callSpecial?_slot (name:=Str.ofString "__len__") ty F.slot_dict_len
  (call_meetsIn F.slot_dict_len ty F.entry_dict_len (F.args_dict_len_1 _) (JB d hd) ⟨o,es,ep,ho,hc,hdat,?_⟩))
 show wpAny _ _ _ _ _ { s with toks:=s.toks+1 }
 refine wpAny_bind (wpAny_holding (wpAny_pure ?_));refine wpAny_bind (wpAny_letGo ?_)
 show wpAny _ _ (if ((es.size:Nat):Int)<0 then _ else _) _ _ _
 rw[if_neg (by omega)]
 show wpAny _ _ (if ((es.size:Nat):Int)≥2 ^ 63 then _ else _) _ _ _
 rw[if_neg (by omega)];exact wpAny_bind (wpAny_mkInt (wpAny_pure ⟨_,rfl,h⟩))
end
end PySem
namespace Tw
open PySem L2 PySem.Spec PyProof.Rows
def DR:List V->Hp->VK->Prop:=fun xs H Q=>∃(p:Addr) (hs:Str->Int) (kvs:List (NestedKey×Addr×V)),xs=[.ref p]/\H p=some (eQ hs p kvs)/\kvs.length<=sizeLine/\Q (.int ((kvs.length:Nat):Int)) H
theorem Rt {X:Cx}:CallR X (.builtin "len") DR:=by
 intro pins s σ H xs us Q I r h;obtain⟨p,hs,kvs,rfl,hp,hl,q⟩:=h;obtain⟨u,rfl,rx⟩:=vals1 r;obtain rfl:u=.ref p:=rx;obtain⟨hd,ys,rel,o,es,ep,h1,h2,h3,h4⟩:=Al I.hok (.inl hp)
 have e:es.size=kvs.length:=by rw[←hY,h4,aT,wI rel]
 refine Calls.call_function_entry kind_len plain_len entry_len (args_len1 _) (JC hd h1 h2 h3 (by rw[e]; rw[sizeLine_eq] at hl; omega) ?_);rw[e];exact⟨.int ((kvs.length:Nat):Int),H,I.tok _,⟨_,rfl⟩,q⟩
def we:List V->Hp->VK->Prop:=fun xs H Q=>rLenT xs H Q\/DR xs H Q
theorem Ru {X:Cx}:CallR X (.builtin "len") we:=fun pins s σ H xs us Q I rv q=>q.elim (call_len_dT pins s σ H xs us Q I rv) (Rt pins s σ H xs us Q I rv)
def qo:NestedKey->Bool
 | .num _=>true
 | .text _=>true
 | _=>false
def j8:NestedKey->Bool
 | .tup ks=>ks.all qo
 | .none=>false
 | _=>true
end Tw
namespace Mp
open PySem L2
inductive Val where
 | none|bool (b:Bool)|int (i:Int)|str (s:Str)
 | tup (xs:List Val)|lst (xs:List Val)|dict (kvs:List (Val×Val))|obj (c:Str) (fs:List (Str×Val))|scr (ns:List Int)
inductive OV where
 | fz (x:Val)|lst (xs:List OV)|dict (kvs:List (Val×OV))|obj (c:Str) (fs:List (Str×OV))
mutual
def OV.val:OV->Val
 | .fz x=>x
 | .lst xs=>.lst (OV.vals xs)
 | .dict kvs=>.dict (OV.valP kvs)
 | .obj c fs=>.obj c (OV.valF fs)
def OV.vals:List OV->List Val
 | []=>[]
 | o::os=>o.val::OV.vals os
def OV.valP:List (Val×OV)->List (Val×Val)
 | []=>[]
 | (k,o)::os=>(k,o.val)::OV.valP os
def OV.valF:List (Str×OV)->List (Str×Val)
 | []=>[]
 | (k,o)::os=>(k,o.val)::OV.valF os
end
def bM:Key->Val
 | .inl i=>.int i
 | .inr s=>.str s
def gZ (k:List Key):Val:=.tup (k.map bM)
def ia (s:Str):Prop:=PyData.strOk s=true/\s.length<=sizeLine
def nJ:Key->Prop
 | .inl _=>True
 | .inr s=>ia s
mutual
def dw:NestedKey->Val
 | .none=>.none
 | .num i=>.int i
 | .text x=>.str x
 | .tup ks=>.tup (nVals ks)
def nVals:List NestedKey->List Val
 | []=>[]
 | k::ks=>dw k::nVals ks
end
def hZ (ct:Tw.Ct) (H:Hp) (l:Addr) (R:HO->Prop) (ps:List (Val×V)):Prop :=
 (∃vs:List (Key×V),R (.dK vs)/\ps=vs.map (fun p=>(bM p.1,p.2))/\vs.length<=sizeLine/\(vs.map (·.1)).Nodup/\∀p∈vs,nJ p.1) \/
 (∃vs:List (List Key×V),R (.dT vs)/\ps=vs.map (fun p=>(gZ p.1,p.2))/\vs.length<=sizeLine/\(vs.map (·.1)).Nodup/\∀p∈vs,∀k∈p.1,nJ k) \/
 (∃q xs,R (Tw.eQ (Tw.dh ct) l (q::xs))/\ps=(q::xs).map (fun z=>(dw z.1,z.2.2))/\Tw.iJ H (q::xs)/\∀z∈q::xs,Tw.j8 z.1=false)
section
variable (K:PySem.W.Frag) (ct:Tw.Ct) (P:Addr->Prop) (H:Hp)
mutual
def bw:V->Val->Prop
 | v,.none=>v=.non
 | v,.bool b=>v=.bl b
 | v,.int i=>v=.int i
 | v,.str s=>v=.str s/\ia s
 | v,.tup xs=>∃a vs,v=.ref a/\H a=some (.tup vs)/\vs.length<=sizeLine/\ViewL vs xs
 | v,.lst xs=>∃a vs,v=.ref a/\P a/\H a=some (.lst vs)/\vs.length<=sizeLine/\ViewL vs xs
 | v,.dict kvs=>∃a ps,v=.ref a/\P a/\hZ ct H a (Rd H a) ps/\ViewP ps kvs
 | v,.obj c fs=>∃a dx vs,v=.ref a/\P a/\H a=some (.ins (ct c) dx vs)/\ViewF vs fs
 | v,.scr ns=>∃a,v=.ref a/\((P a/\Rd H a (.lst (ns.map V.int)))\/SqL K (fun _=>none) a (ns.map V.int))/\ns.length<=sizeLine
def ViewL:List V->List Val->Prop
 | [],[]=>True
 | v::vs,x::xs=>bw v x/\ViewL vs xs
 | _,_=>False
def ViewP:List (Val×V)->List (Val×Val)->Prop
 | [],[]=>True
 | p::ps,(k,x)::kvs=>p.1=k/\bw p.2 x/\ViewP ps kvs
 | _,_=>False
def ViewF:List (Str×V)->List (Str×Val)->Prop
 | [],[]=>True
 | p::ps,(k,x)::kvs=>p.1=k/\bw p.2 x/\ViewF ps kvs
 | _,_=>False
end
mutual
def aR:V->OV->List Addr->Prop
 | v,.fz x,F=>bw K ct P H v x/\F=[]
 | v,.lst xs,F=>∃a vs F',v=.ref a/\H a=some (.lst vs)/\vs.length<=sizeLine/\ORepL vs xs F'/\F=a::F'
 | v,.dict kvs,F=>∃a ps F',v=.ref a/\hZ ct H a (fun o=>H a=some o) ps/\ORepP ps kvs F'/\F=a::F'
 | v,.obj c fs,F=>∃a dx vs F',v=.ref a/\H a=some (.ins (ct c) dx vs)/\ORepF vs fs F'/\F=a::F'
def ORepL:List V->List OV->List Addr->Prop
 | [],[],F=>F=[]
 | v::vs,x::xs,F=>∃F1 F2,F=F1++F2/\aR v x F1/\ORepL vs xs F2
 | _,_,_=>False
def ORepP:List (Val×V)->List (Val×OV)->List Addr->Prop
 | [],[],F=>F=[]
 | p::ps,(k,x)::kvs,F=>∃F1 F2,F=F1++F2/\p.1=k/\aR p.2 x F1/\ORepP ps kvs F2
 | _,_,_=>False
def ORepF:List (Str×V)->List (Str×OV)->List Addr->Prop
 | [],[],F=>F=[]
 | p::ps,(k,x)::kvs,F=>∃F1 F2,F=F1++F2/\p.1=k/\aR p.2 x F1/\ORepF ps kvs F2
 | _,_,_=>False
end
end
end Mp
namespace Mp
open PySem L2
def o5:HO->Prop
 | .dK _=>True
 | .dT _=>True
 | .ext _=>True
 | _=>False
def uk:HO->Prop
 | .tup _=>True
 | _=>False
def vF (u u':HO):Prop:=u'=u\/(∃o,u'=.frz o u/\o5 u)\/(∃o,u=.frz o u'/\o5 u')
def cg (P:Addr->Prop) (H H':Hp):Prop:=∀b u,H b=some u->(P b\/uk u)->∃u',H' b=some u'/\vF u u'
theorem zy {xs:List V} {u:HO} (h:vF (.tup xs) u):u=.tup xs:=by
 rcases h with h|⟨o,_,h⟩|⟨o,h,_⟩
 ·exact h
 ·exact h.elim
 ·cases h
theorem Lg {C dx:Addr} {fs:List (Str×V)} {u:HO} (h:vF (.ins C dx fs) u):u=.ins C dx fs:=by
 rcases h with h|⟨o,_,h⟩|⟨o,h,_⟩
 ·exact h
 ·exact h.elim
 ·cases h
section
variable {K:PySem.W.Frag} {ct:Tw.Ct} {P P' Φ Φ':Addr->Prop} {H H':Hp}
theorem Dv {xs:List V} {u:HO} (h:vF (.lst xs) u):u=.lst xs:=by
 rcases h with h|⟨o,_,h⟩|⟨o,h,_⟩
 ·exact h
 ·exact h.elim
 ·cases h
theorem zP {a:Addr} {vs:List V} (k:cg P H H') (p:P a) (h:Rd H a (.lst vs)):Rd H' a (.lst vs):=by
 rcases h with h|⟨o,h⟩
 ·obtain⟨u',e,s⟩:=k _ _ h (.inl p);rw[Dv s] at e;exact .inl e
 ·obtain⟨u',e,s⟩:=k _ _ h (.inl p)
  rcases s with s|⟨o',s,d⟩|⟨o',s,d⟩
  ·rw[s] at e; exact .inr ⟨_,e⟩
  ·exact d.elim
  ·cases s; exact d.elim
theorem LX {a:Addr} {u:HO} (k:cg P H H') (p:P a) (d:o5 u) (h:Rd H a u):Rd H' a u:=by
 rcases h with h|⟨o,h⟩
 ·obtain⟨u',e,s⟩:=k _ _ h (.inl p)
  rcases s with s|⟨o,s,_⟩|⟨o,s,_⟩
  ·rw[s] at e; exact .inl e
  ·rw[s] at e; exact .inr ⟨_,e⟩
  ·subst s; exact d.elim
 ·obtain⟨u',e,s⟩:=k _ _ h (.inl p)
  rcases s with s|⟨o',s,d'⟩|⟨o',s,d'⟩
  ·rw[s] at e; exact .inr ⟨_,e⟩
  ·exact d'.elim
  ·cases s; exact .inl e
theorem hV {l:Addr} {R R':HO->Prop} {ps:List (Val×V)} (h:hZ ct H l R ps) (kt:∀a vs,H a=some (.tup vs)->H' a=some (.tup vs)) (k:∀u,o5 u->R u->R' u):hZ ct H' l R' ps:=by
 rcases h with⟨vs,h,e⟩|⟨vs,h,e⟩|⟨q,xs,h,e,n,f⟩
 ·exact .inl ⟨vs,k _ trivial h,e⟩
 ·exact .inr (.inl ⟨vs,k _ trivial h,e⟩)
 ·exact .inr (.inr ⟨q,xs,k _ trivial h,e,n.keep kt,f⟩)
theorem cg.tup (k:cg P H H'):∀a vs,H a=some (.tup vs)->H' a=some (.tup vs):=fun a vs e=>by
 obtain⟨u',e',s⟩:=k _ _ e (.inr trivial);rw[zy s] at e';exact e'
theorem lY:∀a vs,H a=some (.tup vs)->H a=some (.tup vs):=fun _ _ z=>z
mutual
theorem bw.keep (hP:∀a,P a->P' a) (k:cg P H H'):∀(x:Val) {v:V},bw K ct P H v x->bw K ct P' H' v x
 | .none,_,h=>h
 | .bool _,_,h=>h
 | .int _,_,h=>h
 | .str _,_,h=>h
 | .tup xs,_,h=>by
  obtain⟨a,vs,e,h1,hl,h2⟩:=h;obtain⟨u',e',s⟩:=k _ _ h1 (.inr trivial);rw[zy s] at e';exact⟨a,vs,e,e',hl,ViewL.keep hP k xs h2⟩
 | .lst xs,_,h=>by
  obtain⟨a,vs,e,p,h1,hl,h2⟩:=h;obtain⟨u',e',s⟩:=k _ _ h1 (.inl p);rw[Dv s] at e';exact⟨a,vs,e,hP a p,e',hl,ViewL.keep hP k xs h2⟩
 | .dict kvs,_,h=>by
  obtain⟨a,ps,e,p,h1,h2⟩:=h;exact⟨a,ps,e,hP a p,hV h1 k.tup fun u d r=>LX k p d r,ViewP.keep hP k kvs h2⟩
 | .obj c fs,_,h=>by
  obtain⟨a,dx,vs,e,p,h1,h2⟩:=h;obtain⟨u',e',s⟩:=k _ _ h1 (.inl p);rw[Lg s] at e';exact⟨a,dx,vs,e,hP a p,e',ViewF.keep hP k fs h2⟩
 | .scr ns,_,h=>by
  obtain⟨a,e,h,hl⟩:=h;exact⟨a,e,h.imp (fun⟨p,r⟩=>⟨hP a p,zP k p r⟩) id,hl⟩
theorem ViewL.keep (hP:∀a,P a->P' a) (k:cg P H H'):∀(xs:List Val) {vs:List V},ViewL K ct P H vs xs->ViewL K ct P' H' vs xs
 | [],[],_=>trivial
 | x::xs,_::_,h=>⟨bw.keep hP k x h.1,ViewL.keep hP k xs h.2⟩
 | [],_::_,h=>h.elim
 | _::_,[],h=>h.elim
theorem ViewP.keep (hP:∀a,P a->P' a) (k:cg P H H'):∀(xs:List (Val×Val)) {vs:List (Val×V)},ViewP K ct P H vs xs->ViewP K ct P' H' vs xs
 | [],[],_=>trivial
 | (_,x)::xs,_::_,h=>⟨h.1,bw.keep hP k x h.2.1,ViewP.keep hP k xs h.2.2⟩
 | [],_::_,h=>h.elim
 | _::_,[],h=>h.elim
theorem ViewF.keep (hP:∀a,P a->P' a) (k:cg P H H'):∀(xs:List (Str×Val)) {vs:List (Str×V)},ViewF K ct P H vs xs->ViewF K ct P' H' vs xs
 | [],[],_=>trivial
 | (_,x)::xs,_::_,h=>⟨h.1,bw.keep hP k x h.2.1,ViewF.keep hP k xs h.2.2⟩
 | [],_::_,h=>h.elim
 | _::_,[],h=>h.elim
end
mutual
theorem aR.keep (hP:∀a,Φ a->Φ' a) (k:cg Φ H H'):∀(x:OV) {v:V} {F:List Addr},(∀b∈F,H' b=H b)->aR K ct Φ H v x F->aR K ct Φ' H' v x F
 | .fz x,_,_,_,h=>⟨bw.keep hP k x h.1,h.2⟩
 | .lst xs,_,_,e,h=>by
  obtain⟨a,vs,F',e1,h1,hl,h2,rfl⟩:=h;exact⟨a,vs,F',e1,by rw[e a (ao ..)]; exact h1,hl,ORepL.keep hP k xs (fun b hb=>e b (aE _ hb)) h2,rfl⟩
 | .dict xs,_,_,e,h=>by
  obtain⟨a,vs,F',e1,h1,h2,rfl⟩:=h;exact⟨a,vs,F',e1,hV h1 k.tup fun u _ r=>by rw[e a (ao ..)]; exact r,ORepP.keep hP k xs (fun b hb=>e b (aE _ hb)) h2,rfl⟩
 | .obj c xs,_,_,e,h=>by
  obtain⟨a,dx,vs,F',e1,h1,h2,rfl⟩:=h;exact⟨a,dx,vs,F',e1,by rw[e a (ao ..)]; exact h1,ORepF.keep hP k xs (fun b hb=>e b (aE _ hb)) h2,rfl⟩
theorem ORepL.keep (hP:∀a,Φ a->Φ' a) (k:cg Φ H H'):∀(xs:List OV) {vs:List V} {F:List Addr},(∀b∈F,H' b=H b)->ORepL K ct Φ H vs xs F->ORepL K ct Φ' H' vs xs F
 | [],[],_,_,h=>h
 | x::xs,_::_,_,e,h=>by
  obtain⟨F1,F2,rfl,h1,h2⟩:=h;exact⟨F1,F2,rfl,aR.keep hP k x (fun b hb=>e b (au _ hb)) h1,ORepL.keep hP k xs (fun b hb=>e b (aJ _ hb)) h2⟩
 | [],_::_,_,_,h=>h.elim
 | _::_,[],_,_,h=>h.elim
theorem ORepP.keep (hP:∀a,Φ a->Φ' a) (k:cg Φ H H'):∀(xs:List (Val×OV)) {vs:List (Val×V)} {F:List Addr},(∀b∈F,H' b=H b)->ORepP K ct Φ H vs xs F->ORepP K ct Φ' H' vs xs F
 | [],[],_,_,h=>h
 | (_,x)::xs,_::_,_,e,h=>by
  obtain⟨F1,F2,rfl,h0,h1,h2⟩:=h;exact⟨F1,F2,rfl,h0,aR.keep hP k x (fun b hb=>e b (au _ hb)) h1,ORepP.keep hP k xs (fun b hb=>e b (aJ _ hb)) h2⟩
 | [],_::_,_,_,h=>h.elim
 | _::_,[],_,_,h=>h.elim
theorem ORepF.keep (hP:∀a,Φ a->Φ' a) (k:cg Φ H H'):∀(xs:List (Str×OV)) {vs:List (Str×V)} {F:List Addr},(∀b∈F,H' b=H b)->ORepF K ct Φ H vs xs F->ORepF K ct Φ' H' vs xs F
 | [],[],_,_,h=>h
 | (_,x)::xs,_::_,_,e,h=>by
  obtain⟨F1,F2,rfl,h0,h1,h2⟩:=h;exact⟨F1,F2,rfl,h0,aR.keep hP k x (fun b hb=>e b (au _ hb)) h1,ORepF.keep hP k xs (fun b hb=>e b (aJ _ hb)) h2⟩
 | [],_::_,_,_,h=>h.elim
 | _::_,[],_,_,h=>h.elim
end
theorem kR:cg P H H:=fun b u h _=>⟨u,h,.inl rfl⟩
mutual
theorem aR.view (hP:∀a,Φ a->P a):∀(x:OV) {v:V} {F:List Addr},(∀b∈F,P b)->aR K ct Φ H v x F->bw K ct P H v x.val
 | .fz x,_,_,_,h=>bw.keep hP kR x h.1
 | .lst xs,_,_,e,h=>by
  obtain⟨a,vs,F',e1,h1,hl,h2,rfl⟩:=h;exact⟨a,vs,e1,e a (ao ..),h1,hl,ORepL.view hP xs (fun b hb=>e b (aE _ hb)) h2⟩
 | .dict xs,_,_,e,h=>by
  obtain⟨a,vs,F',e1,h1,h2,rfl⟩:=h;exact⟨a,vs,e1,e a (ao ..),hV h1 lY fun u _ r=>.inl r,ORepP.view hP xs (fun b hb=>e b (aE _ hb)) h2⟩
 | .obj c xs,_,_,e,h=>by
  obtain⟨a,dx,vs,F',e1,h1,h2,rfl⟩:=h;exact⟨a,dx,vs,e1,e a (ao ..),h1,ORepF.view hP xs (fun b hb=>e b (aE _ hb)) h2⟩
theorem ORepL.view (hP:∀a,Φ a->P a):∀(xs:List OV) {vs:List V} {F:List Addr},(∀b∈F,P b)->ORepL K ct Φ H vs xs F->ViewL K ct P H vs (OV.vals xs)
 | [],[],_,_,h=>trivial
 | x::xs,_::_,_,e,h=>by
  obtain⟨F1,F2,rfl,h1,h2⟩:=h;exact⟨aR.view hP x (fun b hb=>e b (au _ hb)) h1,ORepL.view hP xs (fun b hb=>e b (aJ _ hb)) h2⟩
 | [],_::_,_,_,h=>h.elim
 | _::_,[],_,_,h=>h.elim
theorem ORepP.view (hP:∀a,Φ a->P a):∀(xs:List (Val×OV)) {vs:List (Val×V)} {F:List Addr},(∀b∈F,P b)->ORepP K ct Φ H vs xs F->ViewP K ct P H vs (OV.valP xs)
 | [],[],_,_,h=>trivial
 | (_,x)::xs,_::_,_,e,h=>by
  obtain⟨F1,F2,rfl,h0,h1,h2⟩:=h;exact⟨h0,aR.view hP x (fun b hb=>e b (au _ hb)) h1,ORepP.view hP xs (fun b hb=>e b (aJ _ hb)) h2⟩
 | [],_::_,_,_,h=>h.elim
 | _::_,[],_,_,h=>h.elim
theorem ORepF.view (hP:∀a,Φ a->P a):∀(xs:List (Str×OV)) {vs:List (Str×V)} {F:List Addr},(∀b∈F,P b)->ORepF K ct Φ H vs xs F->ViewF K ct P H vs (OV.valF xs)
 | [],[],_,_,h=>trivial
 | (_,x)::xs,_::_,_,e,h=>by
  obtain⟨F1,F2,rfl,h0,h1,h2⟩:=h;exact⟨h0,aR.view hP x (fun b hb=>e b (au _ hb)) h1,ORepF.view hP xs (fun b hb=>e b (aJ _ hb)) h2⟩
 | [],_::_,_,_,h=>h.elim
 | _::_,[],_,_,h=>h.elim
end
def q6 (H:Hp) (a:Addr):Prop:=∃u,H a=some u/\¬uk u
theorem Q0 {a:Addr} {ps:List (Val×V)} (h:hZ ct H a (fun o=>H a=some o) ps):q6 H a:=by
 rcases h with⟨vs,h,_⟩|⟨vs,h,_⟩|⟨q,xs,h,_⟩
 ·exact⟨_,h,id⟩
 ·exact⟨_,h,id⟩
 ·exact⟨_,h,id⟩
mutual
theorem aR.live:∀(x:OV) {v:V} {F:List Addr},aR K ct Φ H v x F->∀b∈F,q6 H b
 | .fz x,_,_,h,b,hb=>by rw[h.2] at hb; cases hb
 | .lst xs,_,_,h,b,hb=>by
  obtain⟨a,vs,F',e1,h1,hl,h2,rfl⟩:=h
  rcases aU.mp hb with rfl|hb
  ·exact⟨_,h1,id⟩
  ·exact ORepL.live xs h2 b hb
 | .dict xs,_,_,h,b,hb=>by
  obtain⟨a,vs,F',e1,h1,h2,rfl⟩:=h
  rcases aU.mp hb with rfl|hb
  ·exact Q0 h1
  ·exact ORepP.live xs h2 b hb
 | .obj c xs,_,_,h,b,hb=>by
  obtain⟨a,dx,vs,F',e1,h1,h2,rfl⟩:=h
  rcases aU.mp hb with rfl|hb
  ·exact⟨_,h1,id⟩
  ·exact ORepF.live xs h2 b hb
theorem ORepL.live:∀(xs:List OV) {vs:List V} {F:List Addr},ORepL K ct Φ H vs xs F->∀b∈F,q6 H b
 | [],[],_,h,b,hb=>by rw[show _=_ from h] at hb; cases hb
 | x::xs,_::_,_,h,b,hb=>by
  obtain⟨F1,F2,rfl,h1,h2⟩:=h
  rcases bc.mp hb with hb|hb
  ·exact aR.live x h1 b hb
  ·exact ORepL.live xs h2 b hb
 | [],_::_,_,h,_,_=>h.elim
 | _::_,[],_,h,_,_=>h.elim
theorem ORepP.live:∀(xs:List (Val×OV)) {vs:List (Val×V)} {F:List Addr},ORepP K ct Φ H vs xs F->∀b∈F,q6 H b
 | [],[],_,h,b,hb=>by rw[show _=_ from h] at hb; cases hb
 | (_,x)::xs,_::_,_,h,b,hb=>by
  obtain⟨F1,F2,rfl,_,h1,h2⟩:=h
  rcases bc.mp hb with hb|hb
  ·exact aR.live x h1 b hb
  ·exact ORepP.live xs h2 b hb
 | [],_::_,_,h,_,_=>h.elim
 | _::_,[],_,h,_,_=>h.elim
theorem ORepF.live:∀(xs:List (Str×OV)) {vs:List (Str×V)} {F:List Addr},ORepF K ct Φ H vs xs F->∀b∈F,q6 H b
 | [],[],_,h,b,hb=>by rw[show _=_ from h] at hb; cases hb
 | (_,x)::xs,_::_,_,h,b,hb=>by
  obtain⟨F1,F2,rfl,_,h1,h2⟩:=h
  rcases bc.mp hb with hb|hb
  ·exact aR.live x h1 b hb
  ·exact ORepF.live xs h2 b hb
 | [],_::_,_,h,_,_=>h.elim
 | _::_,[],_,h,_,_=>h.elim
end
end
end Mp
namespace Mp
open PySem L2
abbrev Env:=List (Option OV)
structure Exn where
 cls:Str
 args:List (Str×Val)
inductive Out (α:Type) where
 | ok (a:α) (S:Env)|ex (e:Exn) (S:Env)|no
def Out.bind {α β:Type}:Out α->(α->Env->Out β)->Out β
 | .ok a S,k=>k a S
 | .ex e S,_=>.ex e S
 | .no,_=>.no
theorem Out.bind_ok {α β:Type} (a:α) (S:Env) (k:α->Env->Out β):(Out.ok a S).bind k=k a S:=rfl
def Out.of {α:Type} (o:Option α) (S:Env):Out α:=match o with
 | some a=>.ok a S
 | none=>.no
theorem Out.of_some {α:Type} (a:α) (S:Env):Out.of (some a) S=.ok a S:=rfl
abbrev Ef:=Env->Out OV
abbrev Af:=Env->Out (List Val)
structure Wd where
 S:Env
 Fs:Nat->List Addr
 Φ:Addr->Prop
 H:Hp
def Own (Fs:Nat->List Addr) (wr:List Nat) (a:Addr):Prop:=∃k∈wr,a∈Fs k
structure Sat (K:PySem.W.Frag) (ct:Tw.Ct) (B:Hp) (X:List Addr) (Φ0:Addr->Prop) (σ:St) (W:Wd):Prop where
 len:σ.length=W.S.length
 sl:∀(i:Nat) o,W.S[i]?=some (some o)->∃v,σ[i]?=some (some v)/\aR K ct W.Φ W.H v o (W.Fs i)
 em:∀i:Nat,(∀o,W.S[i]?≠some (some o))->W.Fs i=[]
 nd:∀i,(W.Fs i).Nodup
 dj:∀i j a,a∈W.Fs i->a∈W.Fs j->i=j
 nph:∀i a,a∈W.Fs i->¬W.Φ a
 own:∀i a,a∈W.Fs i->B a=none\/a∈X
 old:∀b o,B b=some o->b∉X->W.H b=some o
 lv:∀b,B b≠none->W.H b≠none
 phl:∀a,W.Φ a->W.H a≠none
 phn:∀a,W.Φ a->Φ0 a\/a∈X\/B a=none
 xl:∀a∈X,B a≠none
structure Step (wr:List Nat) (W W':Wd):Prop where
 fr:∀b u,W.H b=some u->¬Own W.Fs wr b->W'.H b=some u
 lv:∀b,W.H b≠none->W'.H b≠none
 ph:∀a,W.Φ a->W'.Φ a
 pn:∀a,W'.Φ a->W.Φ a\/Own W.Fs wr a\/W.H a=none
 kf:∀k,k∉wr->W'.Fs k=W.Fs k
 nf:∀k a,a∈W'.Fs k->a∈W.Fs k\/Own W.Fs wr a\/W.H a=none
 ks:∀k,k∉wr->W'.S[k]?=W.S[k]?
structure Tmp (K:PySem.W.Frag) (ct:Tw.Ct) (js wr:List Nat) (W W':Wd) (v:V) (r:OV) (D:List Addr):Prop where
 rep:aR K ct W'.Φ W'.H v r D
 nd:D.Nodup
 nph:∀a∈D,¬W'.Φ a
 dj:∀a∈D,∀k,a∈W'.Fs k->k∈js
 src:∀a∈D,Own W.Fs wr a\/Own W.Fs js a\/W.H a=none
section
variable {K:PySem.W.Frag} {ct:Tw.Ct} {B:Hp} {X:List Addr} {Φ0:Addr->Prop} {σ:St} {W W' W'':Wd} {js wr wr':List Nat} {v:V} {r:OV} {D:List Addr}
theorem eG {Fs:Nat->List Addr} {a:Addr}:Own Fs (wr++wr') a↔Own Fs wr a\/Own Fs wr' a:=by
 constructor
 ·rintro ⟨k,hk,h⟩
  rcases bc.mp hk with hk|hk
  ·exact .inl ⟨k,hk,h⟩
  ·exact .inr ⟨k,hk,h⟩
 ·rintro (⟨k,hk,h⟩|⟨k,hk,h⟩)
  ·exact⟨k,au _ hk,h⟩
  ·exact⟨k,aJ _ hk,h⟩
theorem Step.refl (W:Wd):Step [] W W where
 fr:=fun _ _ h _=>h
 lv:=fun _ h=>h
 ph:=fun _ h=>h
 pn:=fun _ h=>.inl h
 kf:=fun _ _=>rfl
 nf:=fun _ _ h=>.inl h
 ks:=fun _ _=>rfl
theorem Step.own (a:Step wr W W') {b:Addr} (h:Own W'.Fs wr' b):Own W.Fs (wr++wr') b\/W.H b=none:=by
 obtain⟨k,hk,hb⟩:=h
 rcases a.nf k b hb with h|h|h
 ·exact .inl (eG.mpr (.inr ⟨k,hk,h⟩))
 ·exact .inl (eG.mpr (.inl h))
 ·exact .inr h
theorem Step.trans (a:Step wr W W') (b:Step wr' W' W''):Step (wr++wr') W W'' where
 fr:=fun x u h n=>b.fr x u (a.fr x u h fun z=>n (eG.mpr (.inl z))) fun z=>by
  rcases a.own z with q|q
  ·exact n q
  ·rw[h] at q; cases q
 lv:=fun x h=>b.lv x (a.lv x h)
 ph:=fun x h=>b.ph x (a.ph x h)
 pn:=fun x h=>by
  rcases b.pn x h with q|q|q
  ·rcases a.pn x q with z|z|z
   ·exact .inl z
   ·exact .inr (.inl (eG.mpr (.inl z)))
   ·exact .inr (.inr z)
  ·rcases a.own q with z|z
   ·exact .inr (.inl z)
   ·exact .inr (.inr z)
  ·refine .inr (.inr ?_)
   cases e:W.H x with
   | none=>rfl
   | some u=>exact absurd q (a.lv x (by rw[e]; exact fun z=>nomatch z))
 kf:=fun k hk=>by
  rw[bc,not_or] at hk;rw[b.kf k hk.2,a.kf k hk.1]
 nf:=fun k x h=>by
  rcases b.nf k x h with q|q|q
  ·rcases a.nf k x q with z|z|z
   ·exact .inl z
   ·exact .inr (.inl (eG.mpr (.inl z)))
   ·exact .inr (.inr z)
  ·rcases a.own q with z|z
   ·exact .inr (.inl z)
   ·exact .inr (.inr z)
  ·refine .inr (.inr ?_)
   cases e:W.H x with
   | none=>rfl
   | some u=>exact absurd q (a.lv x (by rw[e]; exact fun z=>nomatch z))
 ks:=fun k hk=>by
  rw[bc,not_or] at hk;rw[b.ks k hk.2,a.ks k hk.1]
theorem Step.mono (a:Step wr W W') (h:∀k∈wr,k∈wr'):Step wr' W W' where
 fr:=fun x u e n=>a.fr x u e fun⟨k,hk,z⟩=>n ⟨k,h k hk,z⟩
 lv:=a.lv
 ph:=a.ph
 pn:=fun x e=>(a.pn x e).imp id (Or.imp (fun⟨k,hk,z⟩=>⟨k,h k hk,z⟩) id)
 kf:=fun k hk=>a.kf k fun z=>hk (h k z)
 nf:=fun k x e=>(a.nf k x e).imp id (Or.imp (fun⟨k,hk,z⟩=>⟨k,h k hk,z⟩) id)
 ks:=fun k hk=>a.ks k fun z=>hk (h k z)
theorem Sat.liveF (s:Sat K ct B X Φ0 σ W) {i:Nat} {a:Addr} (h:a∈W.Fs i):q6 W.H a:=by
 have e:¬∀o,W.S[i]?≠some (some o):=fun z=>by rw[s.em i z] at h; cases h
 cases q:W.S[i]? with
 | none=>exact absurd (fun o z=>by rw[q] at z; cases z) e
 | some x =>
  cases x with
  | none=>exact absurd (fun o z=>by rw[q] at z; cases z) e
  | some o =>
   obtain⟨v,_,r⟩:=s.sl i o q;exact r.live o a h
theorem Sat.keeps (s:Sat K ct B X Φ0 σ W) (a:Step wr W W'):cg W.Φ W.H W'.H:=fun b u h p=>by
 refine⟨u,a.fr b u h fun⟨k,_,hb⟩=>?_,.inl rfl⟩
 rcases p with p|p
 ·exact s.nph k b hb p
 ·obtain⟨u',e,n⟩:=s.liveF hb;rw[h] at e
  cases e
  exact n p
theorem Tmp.step (t:Tmp K ct js wr W W' v r D) (s:Sat K ct B X Φ0 σ W') (a:Step wr W W') (b:Step wr' W' W'') (h:∀k∈js,k∉wr'):Tmp K ct js (wr++wr') W W'' v r D:=by
 have no:∀x∈D,¬Own W'.Fs wr' x:=fun x hx ⟨k,hk,hx'⟩=>h k (t.dj x hx k hx') hk
 refine⟨t.rep.keep b.ph (s.keeps b) r fun x hx=>?_,t.nd,fun x hx z=>?_,fun x hx k hk=>?_,fun x hx=>?_⟩
 ·obtain⟨u,e,_⟩:=t.rep.live r x hx;rw[e,b.fr x u e (no x hx)]
 ·rcases b.pn x z with q|q|q
  ·exact t.nph x hx q
  ·exact no x hx q
  ·obtain⟨u,e,_⟩:=t.rep.live r x hx;rw[e] at q; cases q
 ·by_cases hw:k∈wr'
  ·rcases b.nf k x hk with q|q|q
   ·exact t.dj x hx k q
   ·exact absurd q (no x hx)
   ·obtain⟨u,e,_⟩:=t.rep.live r x hx;rw[e] at q; cases q
  ·rw[b.kf k hw] at hk;exact t.dj x hx k hk
 ·rcases t.src x hx with q|q|q
  ·exact .inl (eG.mpr (.inl q))
  ·exact .inr (.inl q)
  ·exact .inr (.inr q)
theorem Sat.share (s:Sat K ct B X Φ0 σ W') (s0:Sat K ct B X Φ0 σ W) (a:Step wr W W') (t:Tmp K ct [] wr W W' v r D) :
  Sat K ct B X Φ0 σ { W' with Φ:=fun x=>W'.Φ x\/x∈D }/\Step wr W { W' with Φ:=fun x=>W'.Φ x\/x∈D }/\bw K ct (fun x=>W'.Φ x\/x∈D) W'.H v r.val:=by
 have nk:∀x∈D,∀k,x∉W'.Fs k:=fun x hx k hk=>by cases t.dj x hx k hk
 refine⟨⟨s.len,fun i o h=>?_,s.em,s.nd,s.dj,fun i x h z=>?_,s.own,s.old,s.lv,fun x h=>?_,fun x h=>?_,s.xl⟩,⟨a.fr,a.lv,fun x h=>.inl (a.ph x h),fun x h=>?_,a.kf,a.nf,a.ks⟩,t.rep.view (fun _=>.inl) r fun _=>.inr⟩
 ·obtain⟨w,h1,h2⟩:=s.sl i o h;exact⟨w,h1,h2.keep (fun _=>.inl) kR o fun _ _=>rfl⟩
 ·rcases z with z|z
  ·exact s.nph i x h z
  ·exact nk x z i h
 ·rcases h with h|h
  ·exact s.phl x h
  ·obtain⟨u,e,_⟩:=t.rep.live r x h
   show W'.H x≠none
   rw[e]; exact fun z=>nomatch z
 ·rcases h with h|h
  ·exact s.phn x h
  ·rcases t.src x h with⟨k,_,q⟩|⟨k,q,_⟩|q
   ·exact .inr ((s0.own k x q).symm)
   ·cases q
   ·refine .inr (.inr ?_)
    cases e:B x with
    | none=>rfl
    | some u=>exact absurd q (s0.lv x (by rw[e]; exact fun z=>nomatch z))
 ·rcases h with h|h
  ·exact a.pn x h
  ·rcases t.src x h with q|⟨k,q,_⟩|q
   ·exact .inr (.inl q)
   ·cases q
   ·exact .inr (.inr q)
end
section
variable (K:PySem.W.Frag) (ct:Tw.Ct) (E:Exn->St->Hp->Prop)
def tE (f:Ef) (js wr:List Nat):TE:=fun σ H Q=>∃B X Φ0 W,W.H=H/\Sat K ct B X Φ0 σ W/\match f W.S with
 | .ok r S'=>∀v W' D,Sat K ct B X Φ0 σ W'->W'.S=S'->Step wr W W'->Tmp K ct js wr W W' v r D->Q v W'.H
 | .ex e S'=>∀W',Sat K ct B X Φ0 σ W'->W'.S=S'->Step wr W W'->E e σ W'.H
 | .no=>False
def tA (f:Af) (wr:List Nat):TA:=fun σ H Q=>∃B X Φ0 W,W.H=H/\Sat K ct B X Φ0 σ W/\match f W.S with
 | .ok r S'=>∀vs W',Sat K ct B X Φ0 σ W'->W'.S=S'->Step wr W W'->ViewL K ct W'.Φ W'.H vs r->Q vs W'.H
 | .ex e S'=>∀W',Sat K ct B X Φ0 σ W'->W'.S=S'->Step wr W W'->E e σ W'.H
 | .no=>False
end
theorem cr {X:Cx} {e:Expr} {t t':TE} (h:PE X e t) (m:∀σ H Q,t' σ H Q->t σ H Q):PE X e t':=⟨fun pins s σ H Q I q=>h.run pins s σ H Q I (m σ H Q q)⟩
theorem qh {X:Cx} {e:List Expr} {t t':TA} (h:PA X e t) (m:∀σ H Q,t' σ H Q->t σ H Q):PA X e t':=⟨fun pos pins s σ H Q I q=>h.run pos pins s σ H Q I (m σ H Q q)⟩
def ac (i:Nat):Ef:=fun S=>match S[i]? with
 | some (some o)=>.ok o S
 | _=>.no
def dY (i:Nat):Ef:=fun S=>match S[i]? with
 | some (some o)=>.ok (.fz o.val) (S.set i (some (.fz o.val)))
 | _=>.no
def cP (i:Nat):Ef:=fun S=>match S[i]? with
 | some (some o)=>.ok o (S.set i none)
 | _=>.no
def eC (x:Val):Ef:=fun S=>.ok (.fz x) S
section
variable {K:PySem.W.Frag} {ct:Tw.Ct} {E:Exn->St->Hp->Prop} {B:Hp} {X:List Addr} {Φ0:Addr->Prop} {σ:St} {W W':Wd} {H:Hp} {Q:VK} {i:Nat} {x:Val} {v:V}
theorem Sat.tmp (s:Sat K ct B X Φ0 σ W) {o:OV} (h:W.S[i]?=some (some o)) (h1:aR K ct W.Φ W.H v o (W.Fs i)):Tmp K ct [i] [] W W v o (W.Fs i) :=
 ⟨h1,s.nd i,s.nph i,fun a ha k hk=>by rw[s.dj i k a ha hk]; exact ao ..,fun a ha=>.inr (.inl ⟨i,ao ..,ha⟩)⟩
theorem iy {wr:List Nat} (h:bw K ct W'.Φ W'.H v x):Tmp K ct [] wr W W' v (.fz x) []:=⟨⟨h,rfl⟩,b5,fun _ z=>(nomatch z),fun _ z=>(nomatch z),fun _ z=>(nomatch z)⟩
theorem JU (q:tE K ct E (ac i) [i] [] σ H Q):tVar i σ H Q:=by
 obtain⟨B,X,Φ0,W,rfl,s,q⟩:=q;unfold ac at q
 cases h:W.S[i]? with
 | none=>rw[h] at q; exact q.elim
 | some x =>
  cases x with
  | none=>rw[h] at q; exact q.elim
  | some o =>
   rw[h] at q;obtain⟨v,h1,h2⟩:=s.sl i o h;exact⟨v,h1,q v W (W.Fs i) s rfl (Step.refl W) (s.tmp h h2)⟩
theorem KN (hv:∀W:Wd,bw K ct W.Φ W.H v x) (q:tE K ct E (eC x) [] [] σ H Q):tC v σ H Q:=by
 obtain⟨B,X,Φ0,W,rfl,s,q⟩:=q;exact q v W [] s rfl (Step.refl W) (iy (hv W))
def bv (Fs:Nat->List Addr) (i:Nat) (F:List Addr):Nat->List Addr:=fun k=>if k=i then F else Fs k
theorem eX {Fs:Nat->List Addr} {F:List Addr}:bv Fs i F i=F:=by unfold bv; rw[if_pos rfl]
theorem b7 {Fs:Nat->List Addr} {F:List Addr} {k:Nat} (h:k≠i):bv Fs i F k=Fs k:=by unfold bv; rw[if_neg h]
theorem Sat.forget (s:Sat K ct B X Φ0 σ W) (i:Nat):Sat K ct B X Φ0 σ { W with S:=W.S.set i none,Fs:=bv W.Fs i [] }:=by
 refine⟨by rw[s.len]; exact(gG ..).symm,fun k o h=>?_,fun k h=>?_,fun k=>?_,fun a b c h1 h2=>?_,fun k a h=>?_,fun k a h=>?_,s.old,s.lv,s.phl,s.phn,s.xl⟩
 ·have h:(W.S.set i none)[k]?=some (some o):=h
  by_cases e:i=k
  ·subst e
   by_cases hi:i<W.S.length
   ·rw[ig hi] at h; cases h
   ·rw[gB (by rw[gG]; omega)] at h; cases h
  ·rw[cG e] at h
   show ∃v,_/\aR K ct W.Φ W.H v o (bv W.Fs i [] k)
   rw[b7 (Ne.symm e)];exact s.sl k o h
 ·show bv W.Fs i [] k=[]
  by_cases e:k=i
  ·subst e; exact eX
  ·rw[b7 e]
   refine s.em k fun o z=>h o ?_
   show(W.S.set i none)[k]?=_
   rw[cG (Ne.symm e)];exact z
 ·show(bv W.Fs i [] k).Nodup
  by_cases e:k=i
  ·subst e; rw[eX]; exact b5
  ·rw[b7 e]; exact s.nd k
 ·have h1:c∈bv W.Fs i [] a:=h1;have h2:c∈bv W.Fs i [] b:=h2
  by_cases e:a=i
  ·subst e; rw[eX] at h1; cases h1
  ·by_cases e':b=i
   ·subst e'; rw[eX] at h2; cases h2
   ·rw[b7 e] at h1; rw[b7 e'] at h2;exact s.dj a b c h1 h2
 ·have h:a∈bv W.Fs i [] k:=h
  by_cases e:k=i
  ·subst e; rw[eX] at h; cases h
  ·rw[b7 e] at h; exact s.nph k a h
 ·have h:a∈bv W.Fs i [] k:=h
  by_cases e:k=i
  ·subst e; rw[eX] at h; cases h
  ·rw[b7 e] at h; exact s.own k a h
theorem zp (W:Wd) (i:Nat):Step [i] W { W with S:=W.S.set i none,Fs:=bv W.Fs i [] } where
 fr:=fun _ _ h _=>h
 lv:=fun _ h=>h
 ph:=fun _ h=>h
 pn:=fun _ h=>.inl h
 kf:=fun k hk=>b7 fun z=>hk (by rw[z]; exact ao ..)
 nf:=fun k a h=>by
  have h:a∈bv W.Fs i [] k:=h
  by_cases e:k=i
  ·subst e; rw[eX] at h; cases h
  ·rw[b7 e] at h; exact .inl h
 ks:=fun k hk=>cG fun(z:i=k)=>hk (by rw[z]; exact ao ..)
theorem Ko (q:tE K ct E (cP i) [] [i] σ H Q):tVar i σ H Q:=by
 obtain⟨B,X,Φ0,W,rfl,s,q⟩:=q;unfold cP at q
 cases h:W.S[i]? with
 | none=>rw[h] at q; exact q.elim
 | some x =>
  cases x with
  | none=>rw[h] at q; exact q.elim
  | some o =>
   rw[h] at q;obtain⟨v,h1,h2⟩:=s.sl i o h;refine⟨v,h1,q v { W with S:=W.S.set i none,Fs:=bv W.Fs i [] } (W.Fs i) (s.forget i) rfl (zp W i) ⟨h2,s.nd i,s.nph i,fun a ha k hk=>?_,fun a ha=>.inl ⟨i,ao ..,ha⟩⟩⟩;have hk:a∈bv W.Fs i [] k:=hk
   by_cases e:k=i
   ·subst e; rw[eX] at hk; cases hk
   ·rw[b7 e] at hk;exact absurd (s.dj i k a ha hk).symm e
theorem Sat.put (s:Sat K ct B X Φ0 σ W) {o:OV} {D:List Addr} (hr:aR K ct W.Φ W.H v o D) (hd:D.Nodup) (hp:∀a∈D,¬W.Φ a) (hj:∀a∈D,∀k,a∈W.Fs k->k=i) (ho:∀a∈D,B a=none\/a∈X) (hi:i<W.S.length) :
  Sat K ct B X Φ0 (σ.set i (some v)) { W with S:=W.S.set i (some o),Fs:=bv W.Fs i D }:=by
 refine⟨by rw[gG,s.len]; exact(gG ..).symm,fun k o' h=>?_,fun k h=>?_,fun k=>?_,fun a b c h1 h2=>?_,fun k a h=>?_,fun k a h=>?_,s.old,s.lv,s.phl,s.phn,s.xl⟩
 ·have h:(W.S.set i (some o))[k]?=some (some o'):=h
  show ∃w,_/\aR K ct W.Φ W.H w o' (bv W.Fs i D k)
  by_cases e:i=k
  ·subst e;rw[ig hi] at h;have e2:o=o':=Option.some.inj (Option.some.inj h);subst e2;rw[eX];exact⟨v,ig (by rw[s.len]; exact hi),hr⟩
  ·rw[cG e] at h;rw[b7 (Ne.symm e),cG e];exact s.sl k o' h
 ·show bv W.Fs i D k=[]
  by_cases e:k=i
  ·subst e;exact absurd (ig hi) (h o)
  ·rw[b7 e]
   refine s.em k fun o' z=>h o' ?_
   show(W.S.set i (some o))[k]?=_
   rw[cG (Ne.symm e)];exact z
 ·show(bv W.Fs i D k).Nodup
  by_cases e:k=i
  ·subst e; rw[eX]; exact hd
  ·rw[b7 e]; exact s.nd k
 ·have g1:c∈bv W.Fs i D a:=h1;have g2:c∈bv W.Fs i D b:=h2
  clear h1 h2
  by_cases e:a=i
  ·by_cases e':b=i
   ·rw[e,e']
   ·rw[e,eX] at g1;rw[b7 e'] at g2;rw[e,hj c g1 b g2]
  ·rw[b7 e] at g1
   by_cases e':b=i
   ·rw[e',eX] at g2;rw[e',hj c g2 a g1]
   ·rw[b7 e'] at g2;exact s.dj a b c g1 g2
 ·have h:a∈bv W.Fs i D k:=h
  by_cases e:k=i
  ·subst e; rw[eX] at h; exact hp a h
  ·rw[b7 e] at h; exact s.nph k a h
 ·have h:a∈bv W.Fs i D k:=h
  by_cases e:k=i
  ·subst e; rw[eX] at h; exact ho a h
  ·rw[b7 e] at h; exact s.own k a h
end
end Mp
namespace Mp
open PySem L2
def OV.fzv:OV->Option Val
 | .fz x=>some x
 | _=>none
def aI (js:List Nat) (o:OV):Option Val:=match js with
 | []=>some o.val
 | _::_=>o.fzv
def az:Af:=fun S=>.ok [] S
def ah (js:List Nat) (f:Ef) (g:Af):Af:=fun S=>(f S).bind fun o S1=>(Out.of (aI js o) S1).bind fun x S2=>(g S2).bind fun xs S3=>.ok (x::xs) S3
section
variable {K:PySem.W.Frag} {ct:Tw.Ct} {E:Exn->St->Hp->Prop} {B:Hp} {X:List Addr} {Φ0:Addr->Prop} {σ:St} {W W':Wd} {H:Hp} {Q:VK} {i:Nat} {x:Val} {v:V} {js wr js1 wr1 js2 wr2:List Nat} {o r:OV} {D:List Addr} {f g:Ef}
theorem Tmp.mono (t:Tmp K ct js wr W W' v r D) (h1:∀k∈js,k∈js1) (h2:∀k∈wr,k∈wr1):Tmp K ct js1 wr1 W W' v r D :=
 ⟨t.rep,t.nd,t.nph,fun a ha k hk=>h1 k (t.dj a ha k hk),fun a ha=>(t.src a ha).imp (fun⟨k,hk,z⟩=>⟨k,h2 k hk,z⟩) (Or.imp (fun⟨k,hk,z⟩=>⟨k,h1 k hk,z⟩) id)⟩
theorem jt (s0:Sat K ct B X Φ0 σ W) (s:Sat K ct B X Φ0 σ W') (a:Step wr W W') (t:Tmp K ct js wr W W' v o D) (h:aI js o=some x) :
  ∃Φ',Sat K ct B X Φ0 σ { W' with Φ:=Φ' }/\Step wr W { W' with Φ:=Φ' }/\bw K ct Φ' W'.H v x:=by
 match js,h with
 | [],h =>
  obtain⟨h1,h2,h3⟩:=s.share s0 a t;have e:o.val=x:=Option.some.inj h;rw[e] at h3;exact⟨_,h1,h2,h3⟩
 | _ :: _, h =>
  cases o with
  | fz y =>
   have e:y=x:=Option.some.inj h;subst e;exact⟨W'.Φ,s,a,t.rep.1⟩
  | lst _=>cases h
  | dict _=>cases h
  | obj _ _=>cases h
theorem zA {i:Nat} {v:V}:∀{σ:St},σ[i]?=some (some v)->σ.set i (some v)=σ:=fun {σ} h=>by
 apply mK;intro k
 by_cases e:i=k
 ·subst e
  have hi:i<σ.length:=by
   rcases kj i σ.length with q|q
   ·exact q
   ·rw[gB q] at h; cases h
  rw[ig hi,h]
 ·rw[cG e]
theorem Kz (q:tE K ct E (dY i) [] [i] σ H Q):tVar i σ H Q:=by
 obtain⟨B,X,Φ0,W,rfl,s,q⟩:=q;unfold dY at q
 cases h:W.S[i]? with
 | none=>rw[h] at q; exact q.elim
 | some x =>
  cases x with
  | none=>rw[h] at q; exact q.elim
  | some o =>
   rw[h] at q;obtain⟨v,h1,h2⟩:=s.sl i o h
   have hi:i<W.S.length:=by
    rcases kj i W.S.length with z|z
    ·exact z
    ·rw[gB z] at h; cases h
   have t:Tmp K ct [] [i] W { W with S:=W.S.set i none,Fs:=bv W.Fs i [] } v o (W.Fs i):=⟨h2,s.nd i,s.nph i,fun a ha k hk=>by
    have hk:a∈bv W.Fs i [] k:=hk
    by_cases e:k=i
    ·subst e; rw[eX] at hk; cases hk
    ·rw[b7 e] at hk
     exact absurd (s.dj i k a ha hk).symm e,fun a ha=>.inl ⟨i,ao ..,ha⟩⟩
   obtain⟨s1,a1,v1⟩:=(s.forget i).share s (zp W i) t;have s2:=s1.put (i:=i) (o:=.fz o.val) (D:=[]) ⟨v1,rfl⟩ b5 (fun _ z=>nomatch z) (fun _ z=>nomatch z) (fun _ z=>nomatch z) (by rw[gG]; exact hi);rw[zA h1] at s2
   have eS:(W.S.set i none).set i (some (OV.fz o.val))=W.S.set i (some (.fz o.val)):=by rw[List.set_set]
   refine⟨v,h1,q v { S:=(W.S.set i none).set i (some (.fz o.val)),Fs:=bv (bv W.Fs i []) i [],Φ:=_,H:=W.H } [] s2 eS ⟨a1.fr,a1.lv,a1.ph,a1.pn,fun k hk=>?_,fun k a ha=>?_,fun k hk=>?_⟩ (iy v1)⟩
   ·show bv (bv W.Fs i []) i [] k=_
    have e:k≠i:=fun z=>hk (by rw[z]; exact ao ..)
    rw[b7 e,b7 e]
   ·have ha:a∈bv (bv W.Fs i []) i [] k:=ha
    by_cases e:k=i
    ·subst e; rw[eX] at ha; cases ha
    ·rw[b7 e,b7 e] at ha; exact .inl ha
   ·have e:i≠k:=fun z=>hk (by rw[z]; exact ao ..)
    show((W.S.set i none).set i (some (OV.fz o.val)))[k]?=_
    rw[cG e,cG e]
theorem Sat.grow (s:Sat K ct B X Φ0 σ W) {H':Hp} (e:Same W.H H'):Sat K ct B X Φ0 σ { W with H:=H' } where
 len:=s.len
 sl:=fun i o h=>let ⟨v,h1,h2⟩:=s.sl i o h; ⟨v,h1,h2.keep (fun _ z=>z) (fun b u z _=>⟨u,e _ _ z,.inl rfl⟩) o fun b hb=>by
  obtain⟨u,z,_⟩:=h2.live o b hb
  rw[z,e _ _ z]⟩
 em:=s.em
 nd:=s.nd
 dj:=s.dj
 nph:=s.nph
 own:=s.own
 old:=fun b o h n=>e _ _ (s.old b o h n)
 lv:=fun b h z=>by
  have h':=s.lv b h
  cases q:W.H b with
  | none=>exact h' q
  | some u=>exact(nomatch (show H' b=none from z).symm.trans (e _ _ q))
 phl:=fun b h z=>by
  have h':=s.phl b h
  cases q:W.H b with
  | none=>exact h' q
  | some u=>exact(nomatch (show H' b=none from z).symm.trans (e _ _ q))
 phn:=s.phn
 xl:=s.xl
theorem gU {H':Hp} (e:Same W.H H'):Step [] W { W with H:=H' } where
 fr:=fun b u h _=>e b u h
 lv:=fun b h z=>by
  cases q:W.H b with
  | none=>exact h q
  | some u=>exact(nomatch (show H' b=none from z).symm.trans (e _ _ q))
 ph:=fun _ h=>h
 pn:=fun _ h=>.inl h
 kf:=fun _ _=>rfl
 nf:=fun _ _ h=>.inl h
 ks:=fun _ _=>rfl
theorem ja (a:Step wr W W') {b:Addr} (h:W'.H b=none):W.H b=none:=by
 cases q:W.H b with
 | none=>rfl
 | some u=>exact absurd h (a.lv b (by rw[q]; exact fun z=>nomatch z))
theorem ot (a:Step wr W W') (s:Sat K ct B X Φ0 σ W') {H':Hp} (e:Same W'.H H') (h:aR K ct W'.Φ H' v r D) (hd:D.Nodup) (hn:∀x∈D,W'.H x=none):Tmp K ct [] wr W { W' with H:=H' } v r D :=
 ⟨h,hd,fun x hx z=>s.phl x z (hn x hx),fun x hx k hk=>by
  obtain⟨u,z,_⟩:=s.liveF hk
  exact(nomatch (hn x hx).symm.trans z),fun x hx=>.inr (.inr (ja a (hn x hx)))⟩
def cf (K:PySem.W.Frag) (ct:Tw.Ct) (r:R2) (g:OV->OV->Option OV):Prop:=∀(Φ:Addr->Prop) (H:Hp) (v w:V) (o1 o2 z:OV) (D1 D2:List Addr) (Q:VK),aR K ct Φ H v o1 D1->aR K ct Φ H w o2 D2->g o1 o2=some z ->
 (∀u H' D,Same H H'->aR K ct Φ H' u z D->D.Nodup->(∀x∈D,H x=none)->Q u H')->r v w H Q
def lj (K:PySem.W.Frag) (ct:Tw.Ct) (r:V->Hp->VK->Prop) (g:OV->Option OV):Prop:=∀(Φ:Addr->Prop) (H:Hp) (v:V) (o z:OV) (D:List Addr) (Q:VK),aR K ct Φ H v o D->g o=some z ->
 (∀u H' D,Same H H'->aR K ct Φ H' u z D->D.Nodup->(∀x∈D,H x=none)->Q u H')->r v H Q
def uQ (K:PySem.W.Frag) (ct:Tw.Ct) (r:List V->Hp->VK->Prop) (g:List Val->Option OV):Prop:=∀(Φ:Addr->Prop) (H:Hp) (vs:List V) (xs:List Val) (z:OV) (Q:VK),ViewL K ct Φ H vs xs->g xs=some z ->
 (∀u H' D,Same H H'->aR K ct Φ H' u z D->D.Nodup->(∀x∈D,H x=none)->Q u H')->r vs H Q
def ae (g:OV->OV->Option OV) (a b:Ef):Ef:=fun S=>(a S).bind fun x S1=>(b S1).bind fun y S2=>Out.of (g x y) S2
def aC (g:OV->Option OV) (a:Ef):Ef:=fun S=>(a S).bind fun x S1=>Out.of (g x) S1
def c6 (g:List Val->Option OV) (a:Af):Ef:=fun S=>(a S).bind fun x S1=>Out.of (g x) S1
theorem C9 {r:R2} {g:OV->OV->Option OV} {a b:Ef} (hr:cf K ct r g) (hd:∀k∈js1,k∉wr2) (q:tE K ct E (ae g a b) [] (wr1++wr2) σ H Q):tOp r (tE K ct E a js1 wr1) (tE K ct E b js2 wr2) σ H Q:=by
 obtain⟨B,X,Φ0,W,rfl,s,q⟩:=q;unfold ae at q;refine⟨B,X,Φ0,W,rfl,s,?_⟩
 cases ha:a W.S with
 | no=>rw[ha] at q; exact q.elim
 | ex e S' =>
  rw[ha] at q
  exact fun W' s' e' a'=>q W' s' e' (a'.mono fun k hk=>au _ hk)
 | ok x S1 =>
  rw[ha] at q;intro v W1 D1 s1 e1 a1 t1;subst e1;refine⟨B,X,Φ0,W1,rfl,s1,?_⟩;rw[Out.bind_ok] at q
  cases hb:b W1.S with
  | no=>rw[hb] at q; exact q.elim
  | ex e S' =>
   rw[hb] at q
   exact fun W' s' e' a'=>q W' s' e' (a1.trans a')
  | ok y S2 =>
   rw[hb] at q;intro w W2 D2 s2 e2 a2 t2;subst e2;rw[Out.bind_ok] at q
   cases hg:g x y with
   | none=>rw[hg] at q; exact q.elim
   | some z =>
    rw[hg] at q;have t1':=t1.step s1 a1 a2 hd
    refine hr W2.Φ W2.H v w x y z D1 D2 Q t1'.rep t2.rep hg fun u H' D e h1 h2 h3=>?_
    have aa:=a1.trans a2
    have st:Step (wr1++wr2) W { W2 with H:=H' }:=by
     have:=aa.trans (gU e);rw[b6] at this;exact this
    exact q u { W2 with H:=H' } D (s2.grow e) rfl st (ot aa s2 e h1 h2 h3)
theorem pS {r:V->Hp->VK->Prop} {g:OV->Option OV} {a:Ef} (hr:lj K ct r g) (q:tE K ct E (aC g a) [] wr σ H Q):tE K ct E a js wr σ H fun v H1=>r v H1 Q:=by
 obtain⟨B,X,Φ0,W,rfl,s,q⟩:=q;unfold aC at q;refine⟨B,X,Φ0,W,rfl,s,?_⟩
 cases ha:a W.S with
 | no=>rw[ha] at q; exact q.elim
 | ex e S'=>rw[ha] at q; exact q
 | ok x S1 =>
  rw[ha] at q;intro v W1 D1 s1 e1 a1 t1;subst e1;rw[Out.bind_ok] at q
  cases hg:g x with
  | none=>rw[hg] at q; exact q.elim
  | some z =>
   rw[hg] at q
   refine hr W1.Φ W1.H v x z D1 Q t1.rep hg fun u H' D e h1 h2 h3=>?_
   have st:Step wr W { W1 with H:=H' }:=by
    have:=a1.trans (gU e);rw[b6] at this;exact this
   exact q u { W1 with H:=H' } D (s1.grow e) rfl st (ot a1 s1 e h1 h2 h3)
theorem C8 {r:List V->Hp->VK->Prop} {g:List Val->Option OV} {a:Af} (hr:uQ K ct r g) (q:tE K ct E (c6 g a) [] wr σ H Q):tA K ct E a wr σ H fun v H1=>r v H1 Q:=by
 obtain⟨B,X,Φ0,W,rfl,s,q⟩:=q;unfold c6 at q;refine⟨B,X,Φ0,W,rfl,s,?_⟩
 cases ha:a W.S with
 | no=>rw[ha] at q; exact q.elim
 | ex e S'=>rw[ha] at q; exact q
 | ok x S1 =>
  rw[ha] at q;intro v W1 s1 e1 a1 t1;subst e1;rw[Out.bind_ok] at q
  cases hg:g x with
  | none=>rw[hg] at q; exact q.elim
  | some z =>
   rw[hg] at q
   refine hr W1.Φ W1.H v x z Q t1 hg fun u H' D e h1 h2 h3=>?_
   have st:Step wr W { W1 with H:=H' }:=by
    have:=a1.trans (gU e);rw[b6] at this;exact this
   exact q u { W1 with H:=H' } D (s1.grow e) rfl st (ot a1 s1 e h1 h2 h3)
theorem zj {Q:List V->Hp->Prop} (q:tA K ct E az [] σ H Q):tNil σ H Q:=by
 obtain⟨B,X,Φ0,W,rfl,s,q⟩:=q;exact q [] W s rfl (Step.refl W) trivial
theorem Db {Q:List V->Hp->Prop} {g:Af} (q:tA K ct E (ah js f g) (wr1++wr2) σ H Q):tCons (tE K ct E f js wr1) (tA K ct E g wr2) σ H Q:=by
 obtain⟨B,X,Φ0,W,rfl,s,q⟩:=q;unfold ah at q;refine⟨B,X,Φ0,W,rfl,s,?_⟩
 cases ha:f W.S with
 | no=>rw[ha] at q; exact q.elim
 | ex e S' =>
  rw[ha] at q
  exact fun W' s' e' a'=>q W' s' e' (a'.mono fun k hk=>au _ hk)
 | ok o S1 =>
  rw[ha] at q;intro v W1 D1 s1 e1 a1 t1;subst e1;rw[Out.bind_ok] at q
  cases hx:aI js o with
  | none=>rw[hx] at q; exact q.elim
  | some x =>
   rw[hx,Out.of_some,Out.bind_ok] at q;obtain⟨Φ',s1',a1',v1⟩:=jt s s1 a1 t1 hx;refine⟨B,X,Φ0,{ W1 with Φ:=Φ' },rfl,s1',?_⟩
   show match g W1.S with|.ok r S'=>_|.ex e S'=>_|.no=>False
   cases hb:g W1.S with
   | no=>rw[hb] at q; exact q.elim
   | ex e S' =>
    rw[hb] at q
    exact fun W' s' e' a'=>q W' s' e' (a1'.trans a')
   | ok xs S2 =>
    rw[hb] at q;intro vs W2 s2 e2 a2 vl;exact q (v::vs) W2 s2 e2 (a1'.trans a2) ⟨v1.keep a2.ph (s1'.keeps a2) x,vl⟩
abbrev Tf:=Env->Out Bool
def tT (K:PySem.W.Frag) (ct:Tw.Ct) (E:Exn->St->Hp->Prop) (f:Tf) (wr:List Nat):TT:=fun σ H Q=>∃B X Φ0 W,W.H=H/\Sat K ct B X Φ0 σ W/\match f W.S with
 | .ok r S'=>∀W',Sat K ct B X Φ0 σ W'->W'.S=S'->Step wr W W'->Q r W'.H
 | .ex e S'=>∀W',Sat K ct B X Φ0 σ W'->W'.S=S'->Step wr W W'->E e σ W'.H
 | .no=>False
def cU:OV->Option Bool
 | .fz (.bool b)=>some b
 | _=>none
def eB (f:Ef):Tf:=fun S=>(f S).bind fun o S1=>Out.of (cU o) S1
theorem uq {b:Bool} (h:cU o=some b):o=.fz (.bool b):=by
 cases o with
 | fz x =>
  cases x with
  | bool c=>cases h; rfl
  | _=>cases h
 | _=>cases h
theorem zh {Q:Bool->Hp->Prop} (q:tT K ct E (eB f) wr σ H Q):tB (tE K ct E f js wr) σ H Q:=by
 obtain⟨B,X,Φ0,W,rfl,s,q⟩:=q;unfold eB at q;refine⟨B,X,Φ0,W,rfl,s,?_⟩
 cases ha:f W.S with
 | no=>rw[ha] at q; exact q.elim
 | ex e S'=>rw[ha] at q; exact q
 | ok o S1 =>
  rw[ha] at q;intro v W1 D1 s1 e1 a1 t1;subst e1;rw[Out.bind_ok] at q
  cases hb:cU o with
  | none=>rw[hb] at q; exact q.elim
  | some b =>
   rw[hb] at q;rw[uq hb] at t1;have e:v=.bl b:=t1.rep.1;exact⟨b,e,q W1 s1 rfl a1⟩
def dX (c:Tf) (a b:Ef):Ef:=fun S=>(c S).bind fun k S1=>match k with
 | true=>a S1
 | false=>b S1
theorem Kx {c:Tf} {a b:Ef} {wc:List Nat} (q:tE K ct E (dX c a b) (js1++js2) (wc++(wr1++wr2)) σ H Q):tIf (tT K ct E c wc) (tE K ct E a js1 wr1) (tE K ct E b js2 wr2) σ H Q:=by
 obtain⟨B,X,Φ0,W,rfl,s,q⟩:=q;unfold dX at q;refine⟨B,X,Φ0,W,rfl,s,?_⟩
 cases ha:c W.S with
 | no=>rw[ha] at q; exact q.elim
 | ex e S' =>
  rw[ha] at q
  exact fun W' s' e' a'=>q W' s' e' (a'.mono fun k hk=>au _ hk)
 | ok k S1 =>
  rw[ha] at q;intro W1 s1 e1 a1;subst e1;rw[Out.bind_ok] at q
  cases k with
  | true =>
   refine iteT ⟨B,X,Φ0,W1,rfl,s1,?_⟩
   have q:match a W1.S with|.ok r S'=>_|.ex e S'=>_|.no=>False:=q
   cases hb:a W1.S with
   | no=>rw[hb] at q; exact q.elim
   | ex e S' =>
    rw[hb] at q
    exact fun W' s' e' a'=>q W' s' e' (a1.trans (a'.mono fun k hk=>au _ hk))
   | ok y S2 =>
    rw[hb] at q;intro v W2 D2 s2 e2 a2 t2;refine q v W2 D2 s2 e2 (a1.trans (a2.mono fun k hk=>au _ hk)) ⟨t2.rep,t2.nd,t2.nph,fun a ha k hk=>au _ (t2.dj a ha k hk),fun x hx=>?_⟩
    rcases t2.src x hx with z|z|z
    ·rcases a1.own z with z|z
     ·exact .inl (let ⟨k,hk,h⟩:=z; ⟨k,(bc.mp hk).elim (fun h=>au _ h) (fun h=>aJ _ (au _ h)),h⟩)
     ·exact .inr (.inr z)
    ·obtain⟨k,hk,h⟩:=z
     rcases a1.nf k x h with z|z|z
     ·exact .inr (.inl ⟨k,au _ hk,z⟩)
     ·exact .inl (eG.mpr (.inl z))
     ·exact .inr (.inr z)
    ·exact .inr (.inr (ja a1 z))
  | false =>
   refine iteF ⟨B,X,Φ0,W1,rfl,s1,?_⟩
   have q:match b W1.S with|.ok r S'=>_|.ex e S'=>_|.no=>False:=q
   cases hb:b W1.S with
   | no=>rw[hb] at q; exact q.elim
   | ex e S' =>
    rw[hb] at q
    exact fun W' s' e' a'=>q W' s' e' (a1.trans (a'.mono fun k hk=>aJ _ hk))
   | ok y S2 =>
    rw[hb] at q;intro v W2 D2 s2 e2 a2 t2;refine q v W2 D2 s2 e2 (a1.trans (a2.mono fun k hk=>aJ _ hk)) ⟨t2.rep,t2.nd,t2.nph,fun a ha k hk=>aJ _ (t2.dj a ha k hk),fun x hx=>?_⟩
    rcases t2.src x hx with z|z|z
    ·rcases a1.own z with z|z
     ·exact .inl (let ⟨k,hk,h⟩:=z; ⟨k,(bc.mp hk).elim (fun h=>au _ h) (fun h=>aJ _ (aJ _ h)),h⟩)
     ·exact .inr (.inr z)
    ·obtain⟨k,hk,h⟩:=z
     rcases a1.nf k x h with z|z|z
     ·exact .inr (.inl ⟨k,aJ _ hk,z⟩)
     ·exact .inl (eG.mpr (.inl z))
     ·exact .inr (.inr z)
    ·exact .inr (.inr (ja a1 z))
def dF (a b:Ef):Ef:=fun S=>(eB a S).bind fun k S1=>match k with
 | true=>b S1
 | false=>.ok (.fz (.bool false)) S1
def fh (a b:Ef):Ef:=fun S=>(eB a S).bind fun k S1=>match k with
 | true=>.ok (.fz (.bool true)) S1
 | false=>b S1
def fj (a:Ef):Ef:=fun S=>(eB a S).bind fun k S1=>.ok (.fz (.bool (!k))) S1
theorem Tmp.behind (a1:Step wr1 W W') (t:Tmp K ct js2 wr2 W' W'' v r D):Tmp K ct js2 (wr1++wr2) W W'' v r D:=by
 refine⟨t.rep,t.nd,t.nph,t.dj,fun x hx=>?_⟩
 rcases t.src x hx with z|z|z
 ·rcases a1.own z with z|z
  ·exact .inl z
  ·exact .inr (.inr z)
 ·obtain⟨k,hk,h⟩:=z
  rcases a1.nf k x h with z|z|z
  ·exact .inr (.inl ⟨k,hk,z⟩)
  ·exact .inl (eG.mpr (.inl z))
  ·exact .inr (.inr z)
 ·exact .inr (.inr (ja a1 z))
theorem KV {a b:Ef} (q:tE K ct E (dF a b) js2 (wr1++wr2) σ H Q):tAndV (tE K ct E a js1 wr1) (tE K ct E b js2 wr2) σ H Q:=by
 obtain⟨B,X,Φ0,W,rfl,s,q⟩:=q;unfold dF eB at q;refine⟨B,X,Φ0,W,rfl,s,?_⟩
 cases ha:a W.S with
 | no=>rw[ha] at q; exact q.elim
 | ex e S' =>
  rw[ha] at q
  exact fun W' s' e' a'=>q W' s' e' (a'.mono fun k hk=>au _ hk)
 | ok o S1 =>
  rw[ha] at q;intro v W1 D1 s1 e1 a1 t1;subst e1;rw[Out.bind_ok] at q
  cases hk:cU o with
  | none=>rw[hk] at q; exact q.elim
  | some k =>
   rw[hk,Out.of_some,Out.bind_ok] at q;rw[uq hk] at t1;refine⟨k,t1.rep.1,?_⟩
   cases k with
   | false =>
    refine iteF (q _ W1 [] s1 rfl (a1.mono fun k hk=>au _ hk) ((iy (x:=.bool false) rfl).mono (fun _ z=>nomatch z) fun _ z=>z))
   | true =>
    refine iteT ⟨B,X,Φ0,W1,rfl,s1,?_⟩
    have q:match b W1.S with|.ok r S'=>_|.ex e S'=>_|.no=>False:=q
    cases hb:b W1.S with
    | no=>rw[hb] at q; exact q.elim
    | ex e S' =>
     rw[hb] at q
     exact fun W' s' e' a'=>q W' s' e' (a1.trans a')
    | ok y S2 =>
     rw[hb] at q
     exact fun v W2 D2 s2 e2 a2 t2=>q v W2 D2 s2 e2 (a1.trans a2) (t2.behind a1)
theorem Kf {a b:Ef} (q:tE K ct E (fh a b) js2 (wr1++wr2) σ H Q):tOrV (tE K ct E a js1 wr1) (tE K ct E b js2 wr2) σ H Q:=by
 obtain⟨B,X,Φ0,W,rfl,s,q⟩:=q;unfold fh eB at q;refine⟨B,X,Φ0,W,rfl,s,?_⟩
 cases ha:a W.S with
 | no=>rw[ha] at q; exact q.elim
 | ex e S' =>
  rw[ha] at q
  exact fun W' s' e' a'=>q W' s' e' (a'.mono fun k hk=>au _ hk)
 | ok o S1 =>
  rw[ha] at q;intro v W1 D1 s1 e1 a1 t1;subst e1;rw[Out.bind_ok] at q
  cases hk:cU o with
  | none=>rw[hk] at q; exact q.elim
  | some k =>
   rw[hk,Out.of_some,Out.bind_ok] at q;rw[uq hk] at t1;refine⟨k,t1.rep.1,?_⟩
   cases k with
   | true =>
    refine iteT (q _ W1 [] s1 rfl (a1.mono fun k hk=>au _ hk) ((iy (x:=.bool true) rfl).mono (fun _ z=>nomatch z) fun _ z=>z))
   | false =>
    refine iteF ⟨B,X,Φ0,W1,rfl,s1,?_⟩
    have q:match b W1.S with|.ok r S'=>_|.ex e S'=>_|.no=>False:=q
    cases hb:b W1.S with
    | no=>rw[hb] at q; exact q.elim
    | ex e S' =>
     rw[hb] at q
     exact fun W' s' e' a'=>q W' s' e' (a1.trans a')
    | ok y S2 =>
     rw[hb] at q
     exact fun v W2 D2 s2 e2 a2 t2=>q v W2 D2 s2 e2 (a1.trans a2) (t2.behind a1)
theorem Ki {a:Ef} (q:tE K ct E (fj a) [] wr1 σ H Q):tNotV (tE K ct E a js1 wr1) σ H Q:=by
 obtain⟨B,X,Φ0,W,rfl,s,q⟩:=q;unfold fj eB at q;refine⟨B,X,Φ0,W,rfl,s,?_⟩
 cases ha:a W.S with
 | no=>rw[ha] at q; exact q.elim
 | ex e S'=>rw[ha] at q; exact q
 | ok o S1 =>
  rw[ha] at q;intro v W1 D1 s1 e1 a1 t1;subst e1;rw[Out.bind_ok] at q
  cases hk:cU o with
  | none=>rw[hk] at q; exact q.elim
  | some k =>
   rw[hk,Out.of_some,Out.bind_ok] at q;rw[uq hk] at t1;exact⟨k,t1.rep.1,q _ W1 [] s1 rfl a1 (iy (x:=.bool (!k)) rfl)⟩
end
end Mp
namespace Mp
open PySem L2
inductive Fl where
 | nx|bk|ct|rt (o:OV)
abbrev Sf:=Env->Out Fl
def bO (js:List Nat) (o:OV):Option OV:=match js with
 | []=>some o
 | _::_=>o.fzv.map .fz
def b4 (pin:List Nat) (σ σ':St):Prop:=∀i∈pin,σ'[i]?=σ[i]?
theorem b4.refl (pin:List Nat) (σ:St):b4 pin σ σ:=fun _ _=>rfl
theorem b4.trans {pin:List Nat} {σ σ' σ'':St} (a:b4 pin σ σ') (b:b4 pin σ' σ''):b4 pin σ σ'':=fun i h=>(b i h).trans (a i h)
def tS (K:PySem.W.Frag) (ct:Tw.Ct) (E:Exn->St->Hp->Prop) (pin:List Nat) (f:Sf) (wr:List Nat):TS:=fun D σ H=>∃B X Φ0 W,W.H=H/\Sat K ct B X Φ0 σ W/\match f W.S with
 | .ok .nx S'=>∀σ' W',b4 pin σ σ'->Sat K ct B X Φ0 σ' W'->W'.S=S'->Step wr W W'->D.nx σ' W'.H
 | .ok .bk S'=>∀σ' W',b4 pin σ σ'->Sat K ct B X Φ0 σ' W'->W'.S=S'->Step wr W W'->D.bk σ' W'.H
 | .ok .ct S'=>∀σ' W',b4 pin σ σ'->Sat K ct B X Φ0 σ' W'->W'.S=S'->Step wr W W'->D.ct σ' W'.H
 | .ok (.rt o) S'=>∀σ' v W' D',b4 pin σ σ'->Sat K ct B X Φ0 σ' W'->W'.S=S'->Step wr W W'->Tmp K ct [] wr W W' v o D'->D.rt v W'.H
 | .ex e S'=>∀σ' W',Sat K ct B X Φ0 σ' W'->W'.S=S'->Step wr W W'->E e σ' W'.H
 | .no=>False
def dG (K:PySem.W.Frag) (ct:Tw.Ct) (E:Exn->St->Hp->Prop) (B:Hp) (X:List Addr) (Φ0:Addr->Prop) (pin wr:List Nat) (σ:St) (W:Wd) (D:Ends):Out Fl->Prop
 | .ok .nx S'=>∀σ' W',b4 pin σ σ'->Sat K ct B X Φ0 σ' W'->W'.S=S'->Step wr W W'->D.nx σ' W'.H
 | .ok .bk S'=>∀σ' W',b4 pin σ σ'->Sat K ct B X Φ0 σ' W'->W'.S=S'->Step wr W W'->D.bk σ' W'.H
 | .ok .ct S'=>∀σ' W',b4 pin σ σ'->Sat K ct B X Φ0 σ' W'->W'.S=S'->Step wr W W'->D.ct σ' W'.H
 | .ok (.rt o) S'=>∀σ' v W' D',b4 pin σ σ'->Sat K ct B X Φ0 σ' W'->W'.S=S'->Step wr W W'->Tmp K ct [] wr W W' v o D'->D.rt v W'.H
 | .ex e S'=>∀σ' W',Sat K ct B X Φ0 σ' W'->W'.S=S'->Step wr W W'->E e σ' W'.H
 | .no=>False
section
variable {K:PySem.W.Frag} {ct:Tw.Ct} {E:Exn->St->Hp->Prop} {B:Hp} {X:List Addr} {Φ0:Addr->Prop} {σ:St} {W W':Wd} {H:Hp} {i:Nat} {x:Val} {v:V} {js wr wr1 wr2 pin:List Nat} {o r:OV} {D:Ends} {σ1:St} {f g:Sf} {a:Ef} {c:Tf}
theorem fT:tS K ct E pin f wr D σ H↔∃B X Φ0 W,W.H=H/\Sat K ct B X Φ0 σ W/\dG K ct E B X Φ0 pin wr σ W D (f W.S):=by
 unfold tS dG;exact Iff.rfl
theorem dG.behind {D D':Ends} {r:Out Fl} (h:dG K ct E B X Φ0 pin (wr1++wr2) σ W D r) (a:Step wr1 W W') (p:b4 pin σ σ1) (h1:∀σ W'',Step (wr1++wr2) W W''->D.nx σ W''.H->D'.nx σ W''.H:=by exact fun _ _ _ z=>z) (h2:∀σ W'',Step (wr1++wr2) W W''->D.bk σ W''.H->D'.bk σ W''.H:=by exact fun _ _ _ z=>z)
  (h3:∀σ W'',Step (wr1++wr2) W W''->D.ct σ W''.H->D'.ct σ W''.H:=by exact fun _ _ _ z=>z) (h4:∀v H,D.rt v H->D'.rt v H:=by exact fun _ _ z=>z):dG K ct E B X Φ0 pin wr2 σ1 W' D' r:=by
 match r,h with
 | .ok .nx _,h=>exact fun σ' W' pe s e t=>h1 _ _ (a.trans t) (h σ' W' (p.trans pe) s e (a.trans t))
 | .ok .bk _,h=>exact fun σ' W' pe s e t=>h2 _ _ (a.trans t) (h σ' W' (p.trans pe) s e (a.trans t))
 | .ok .ct _,h=>exact fun σ' W' pe s e t=>h3 _ _ (a.trans t) (h σ' W' (p.trans pe) s e (a.trans t))
 | .ok (.rt o) _,h=>exact fun σ' v W' D' pe s e t tm=>h4 _ _ (h σ' v W' D' (p.trans pe) s e (a.trans t) (tm.behind a))
 | .ex _ _,h=>exact fun σ' W' s e t=>h σ' W' s e (a.trans t)
theorem dG.mono {D D':Ends} {r:Out Fl} (h:dG K ct E B X Φ0 pin wr1 σ W D r) (hw:∀k∈wr,k∈wr1) (h1:∀σ H,D.nx σ H->D'.nx σ H:=by exact fun _ _ z=>z) (h2:∀σ H,D.bk σ H->D'.bk σ H:=by exact fun _ _ z=>z)
  (h3:∀σ H,D.ct σ H->D'.ct σ H:=by exact fun _ _ z=>z) (h4:∀v H,D.rt v H->D'.rt v H:=by exact fun _ _ z=>z):dG K ct E B X Φ0 pin wr σ W D' r:=by
 match r,h with
 | .ok .nx _,h=>exact fun σ' W' pe s e t=>h1 _ _ (h σ' W' pe s e (t.mono hw))
 | .ok .bk _,h=>exact fun σ' W' pe s e t=>h2 _ _ (h σ' W' pe s e (t.mono hw))
 | .ok .ct _,h=>exact fun σ' W' pe s e t=>h3 _ _ (h σ' W' pe s e (t.mono hw))
 | .ok (.rt o) _,h=>exact fun σ' v W' D' pe s e t tm=>h4 _ _ (h σ' v W' D' pe s e (t.mono hw) (tm.mono (fun _ z=>z) hw))
 | .ex _ _,h=>exact fun σ' W' s e t=>h σ' W' s e (t.mono hw)
def af (f g:Sf):Sf:=fun S=>(f S).bind fun fl S1=>match fl with
 | .nx=>g S1
 | .bk=>.ok .bk S1
 | .ct=>.ok .ct S1
 | .rt o=>.ok (.rt o) S1
def aj:Sf:=fun S=>.ok .nx S
theorem J6 (q:tS K ct E pin (af f g) (wr1++wr2) D σ H):tSeq (tS K ct E pin f wr1) (tS K ct E pin g wr2) D σ H:=by
 obtain⟨B,X,Φ0,W,rfl,s,q⟩:=fT.mp q;refine fT.mpr ⟨B,X,Φ0,W,rfl,s,?_⟩;unfold af at q
 have hl:∀k∈wr1,k∈wr1++wr2:=fun k hk=>au _ hk
 match h:f W.S,q with
 | .ok .nx S1,q =>
  intro σ' W' pe s' e t;subst e;exact fT.mpr ⟨B,X,Φ0,W',rfl,s',dG.behind (r:=g W'.S) q t pe⟩
 | .ok .bk S1,q=>exact fun σ' W' pe s' e t=>q σ' W' pe s' e (t.mono hl)
 | .ok .ct S1,q=>exact fun σ' W' pe s' e t=>q σ' W' pe s' e (t.mono hl)
 | .ok (.rt o) S1,q=>exact fun σ' v W' D' pe s' e t tm=>q σ' v W' D' pe s' e (t.mono hl) (tm.mono (fun _ z=>z) hl)
 | .ex e S1,q=>exact fun σ' W' s' e t=>q σ' W' s' e (t.mono hl)
theorem JY (q:tS K ct E pin aj [] D σ H):tNext D σ H:=by
 obtain⟨B,X,Φ0,W,rfl,s,q⟩:=q;exact q σ W (b4.refl pin σ) s rfl (Step.refl W)
def gq:Sf:=fun S=>.ok .bk S
def gm:Sf:=fun S=>.ok .ct S
theorem oX {D:List Addr} (t:Tmp K ct js wr W W' v o D) (h:bO js o=some r):∃D',Tmp K ct [] wr W W' v r D'/\∀x∈D',x∈D:=by
 match js,h with
 | [],h=>cases h; exact⟨D,t,fun _ z=>z⟩
 | _::_,h =>
  cases o with
  | fz y=>cases h; exact⟨[],iy t.rep.1,fun _ z=>nomatch z⟩
  | lst _=>cases h
  | dict _=>cases h
  | obj _ _=>cases h
theorem Tmp.owner {D:List Addr} (s0:Sat K ct B X Φ0 σ W) (t:Tmp K ct [] wr W W' v o D):∀a∈D,B a=none\/a∈X:=fun a ha=>by
 rcases t.src a ha with⟨k,_,q⟩|⟨k,q,_⟩|q
 ·exact s0.own k a q
 ·cases q
 ·left
  cases e:B a with
  | none=>rfl
  | some u=>exact absurd q (s0.lv a (by rw[e]; exact fun z=>nomatch z))
theorem Tmp.put {σ':St} {D:List Addr} (s0:Sat K ct B X Φ0 σ' W) (s:Sat K ct B X Φ0 σ W') (a:Step wr W W') (t:Tmp K ct [] wr W W' v o D) (hi:i<W'.S.length) :
  Sat K ct B X Φ0 (σ.set i (some v)) { W' with S:=W'.S.set i (some o),Fs:=bv W'.Fs i D }/\Step (wr++[i]) W { W' with S:=W'.S.set i (some o),Fs:=bv W'.Fs i D }:=by
 refine⟨s.put t.rep t.nd t.nph (fun x hx k hk=>by cases t.dj x hx k hk) (t.owner s0) hi,?_⟩
 have m:=a.mono (wr':=wr++[i]) fun k hk=>au _ hk
 refine⟨m.fr,m.lv,m.ph,m.pn,fun k hk=>?_,fun k x hx=>?_,fun k hk=>?_⟩
 ·show bv W'.Fs i D k=_
  have e:k≠i:=fun z=>hk (aJ _ (by rw[z]; exact ao ..))
  rw[b7 e];exact m.kf k hk
 ·have hx:x∈bv W'.Fs i D k:=hx
  by_cases e:k=i
  ·subst e;rw[eX] at hx
   rcases t.src x hx with q|⟨_,q,_⟩|q
   ·exact .inr (.inl (eG.mpr (.inl q)))
   ·cases q
   ·exact .inr (.inr q)
  ·rw[b7 e] at hx;exact m.nf k x hx
 ·have e:i≠k:=fun z=>hk (aJ _ (by rw[z]; exact ao ..))
  show(W'.S.set i (some o))[k]?=_
  rw[cG e];exact m.ks k hk
def putS (S:Env) (i:Nat) (o:OV):Option Env:=if i<S.length then some (S.set i (some o)) else none
def ci (i:Nat) (js:List Nat) (a:Ef):Sf:=fun S=>(a S).bind fun o S1=>(Out.of (bO js o) S1).bind fun o' S2=>(Out.of (putS S2 i o') S2).bind fun S3 _=>.ok .nx S3
theorem m9 {S S':Env} (h:putS S i o=some S'):i<S.length/\S'=S.set i (some o):=by
 unfold putS at h;split at h
 ·exact⟨by assumption,(Option.some.inj h).symm⟩
 ·cases h
theorem C7 (hp:i∉pin) (q:tS K ct E pin (ci i js a) (wr++[i]) D σ H):tAsg (tE K ct E a js wr) (gName i) D σ H:=by
 obtain⟨B,X,Φ0,W,rfl,s,q⟩:=fT.mp q;unfold ci at q;refine⟨B,X,Φ0,W,rfl,s,?_⟩
 cases ha:a W.S with
 | no=>rw[ha] at q; exact q.elim
 | ex e S' =>
  rw[ha] at q
  exact fun W' s' e' a'=>q σ W' s' e' (a'.mono fun k hk=>au _ hk)
 | ok o S1 =>
  rw[ha] at q;intro v W1 D1 s1 e1 a1 t1;subst e1;rw[Out.bind_ok] at q
  cases hk:bO js o with
  | none=>rw[hk] at q; exact q.elim
  | some o' =>
   rw[hk,Out.of_some,Out.bind_ok] at q;obtain⟨D',t',_⟩:=oX t1 hk
   cases hq:putS W1.S i o' with
   | none=>rw[hq] at q; exact q.elim
   | some S3 =>
    rw[hq] at q;obtain⟨hi,rfl⟩:=m9 hq;obtain⟨s2,a2⟩:=t'.put s s1 a1 hi;exact q _ { W1 with S:=W1.S.set i (some o'),Fs:=bv W1.Fs i D' } (fun k hk=>cG fun(z:i=k)=>hp (z▸hk)) s2 rfl a2
def aX (js:List Nat) (a:Ef):Sf:=fun S=>(a S).bind fun o S1=>(Out.of (bO js o) S1).bind fun o' S2=>.ok (.rt o') S2
theorem J8 (q:tS K ct E pin (aX js a) wr D σ H):tRet (tE K ct E a js wr) D σ H:=by
 obtain⟨B,X,Φ0,W,rfl,s,q⟩:=fT.mp q;unfold aX at q;refine⟨B,X,Φ0,W,rfl,s,?_⟩
 cases ha:a W.S with
 | no=>rw[ha] at q; exact q.elim
 | ex e S'=>rw[ha] at q; exact fun W' s' e' a'=>q σ W' s' e' a'
 | ok o S1 =>
  rw[ha] at q;intro v W1 D1 s1 e1 a1 t1;subst e1;rw[Out.bind_ok] at q
  cases hk:bO js o with
  | none=>rw[hk] at q; exact q.elim
  | some o' =>
   rw[hk] at q;obtain⟨D',t',_⟩:=oX t1 hk;exact q σ v W1 D' (b4.refl pin σ) s1 rfl a1 t'
def fV:Sf:=fun S=>.ok (.rt (.fz .none)) S
def cC (a:Ef):Sf:=fun S=>(a S).bind fun _ S1=>.ok .nx S1
theorem KJ (q:tS K ct E pin (cC a) wr D σ H):tDrop (tE K ct E a js wr) D σ H:=by
 obtain⟨B,X,Φ0,W,rfl,s,q⟩:=fT.mp q;unfold cC at q;refine⟨B,X,Φ0,W,rfl,s,?_⟩
 cases ha:a W.S with
 | no=>rw[ha] at q; exact q.elim
 | ex e S'=>rw[ha] at q; exact fun W' s' e' a'=>q σ W' s' e' a'
 | ok o S1 =>
  rw[ha] at q;intro v W1 D1 s1 e1 a1 t1;exact q σ W1 (b4.refl pin σ) s1 e1 a1
def bj (c:Tf) (f g:Sf):Sf:=fun S=>(c S).bind fun k S1=>match k with
 | true=>f S1
 | false=>g S1
theorem Kw {wc:List Nat} (q:tS K ct E pin (bj c f g) (wc++(wr1++wr2)) D σ H):tIfS (tT K ct E c wc) (tS K ct E pin f wr1) (tS K ct E pin g wr2) D σ H:=by
 obtain⟨B,X,Φ0,W,rfl,s,q⟩:=fT.mp q;unfold bj at q;refine⟨B,X,Φ0,W,rfl,s,?_⟩
 cases ha:c W.S with
 | no=>rw[ha] at q; exact q.elim
 | ex e S'=>rw[ha] at q; exact fun W' s' e' a'=>q σ W' s' e' (a'.mono fun k hk=>au _ hk)
 | ok k S1 =>
  rw[ha] at q;intro W1 s1 e1 a1;subst e1
  cases k with
  | true=>exact iteT (fT.mpr ⟨B,X,Φ0,W1,rfl,s1,(dG.behind (r:=f W1.S) q a1 (b4.refl pin σ)).mono fun k hk=>au _ hk⟩)
  | false=>exact iteF (fT.mpr ⟨B,X,Φ0,W1,rfl,s1,(dG.behind (r:=g W1.S) q a1 (b4.refl pin σ)).mono fun k hk=>aJ _ hk⟩)
def jp (c:Tf) (f:Sf):Nat->Env->Out Fl
 | 0,_=>.no
 | n + 1, S => (c S).bind fun k S1 => match k with
  | false=>.ok .nx S1
  | true=>(f S1).bind fun fl S2=>match fl with
   | .nx=>jp c f n S2
   | .ct=>jp c f n S2
   | .bk=>.ok .nx S2
   | .rt o=>.ok (.rt o) S2
theorem fD {wr:List Nat} {W W':Wd} (a:Step (wr++wr) W W'):Step wr W W':=a.mono fun k hk=>(bc.mp hk).elim id id
theorem JT {n:Nat} {σ0:St} (q:tS K ct E pin (jp c f n) (wr1++wr2) D σ0 H):tWhile (tT K ct E c wr1) (tS K ct E pin f wr2) D σ0 H:=by
 obtain⟨B,X,Φ0,W0,rfl,s0,q⟩:=fT.mp q;refine⟨fun m σ H=>∃W,W.H=H/\Sat K ct B X Φ0 σ W/\Step (wr1++wr2) W0 W/\b4 pin σ0 σ/\dG K ct E B X Φ0 pin (wr1++wr2) σ W D (jp c f m W.S),⟨n,W0,rfl,s0,(Step.refl W0).mono fun _ z=>(nomatch z),b4.refl pin σ0,q⟩,?_⟩
 rintro m σ1 _ ⟨W,rfl,s,st,p1,q⟩
 cases m with
 | zero=>exact q.elim
 | succ m =>
 unfold jp at q;refine⟨B,X,Φ0,W,rfl,s,?_⟩
 cases ha:c W.S with
 | no=>rw[ha] at q; exact q.elim
 | ex e S'=>rw[ha] at q; exact fun W' s' e' a'=>q σ1 W' s' e' (a'.mono fun k hk=>au _ hk)
 | ok k S1 =>
  rw[ha,Out.bind_ok] at q;intro W1 s1 e1 a1;subst e1
  have a1':=a1.mono (wr':=wr1++wr2) fun k hk=>au _ hk
  cases k with
  | false=>exact iteF (q σ1 W1 (b4.refl pin σ1) s1 rfl a1')
  | true =>
   refine iteT ⟨fun σ' H'=>∃m',m'<m+1/\∃W,W.H=H'/\Sat K ct B X Φ0 σ' W/\Step (wr1++wr2) W0 W/\b4 pin σ0 σ'/\dG K ct E B X Φ0 pin (wr1++wr2) σ' W D (jp c f m' W.S),fun _ _ z=>z,?_⟩;refine fT.mpr ⟨B,X,Φ0,W1,rfl,s1,?_⟩
   have hr:∀k∈wr2,k∈wr1++wr2:=fun k hk=>aJ _ hk
   match hf:f W1.S,q with
   | .ok .nx S2,q =>
    intro σ2 W2 p2 s2 e2 a2;subst e2;have a3:=fD (a1'.trans (a2.mono hr));refine⟨m,uV m,W2,rfl,s2,fD (st.trans a3),p1.trans p2,?_⟩;exact(dG.behind (r:=jp c f m W2.S) (wr2:=wr1++wr2) (dG.mono (wr:=(wr1++wr2)++(wr1++wr2)) q fun k hk=>(bc.mp hk).elim id id) a3 p2)
   | .ok .ct S2,q =>
    intro σ2 W2 p2 s2 e2 a2;subst e2;have a3:=fD (a1'.trans (a2.mono hr));refine⟨m,uV m,W2,rfl,s2,fD (st.trans a3),p1.trans p2,?_⟩;exact(dG.behind (r:=jp c f m W2.S) (wr2:=wr1++wr2) (dG.mono (wr:=(wr1++wr2)++(wr1++wr2)) q fun k hk=>(bc.mp hk).elim id id) a3 p2)
   | .ok .bk S2,q =>
    exact fun σ2 W2 p2 s2 e2 a2=>q σ2 W2 p2 s2 e2 (fD (a1'.trans (a2.mono hr)))
   | .ok (.rt o) S2,q =>
    exact fun σ2 v W2 D2 p2 s2 e2 a2 t2=>q σ2 v W2 D2 p2 s2 e2 (fD (a1'.trans (a2.mono hr))) ((t2.behind a1).mono (fun _ z=>z) fun _ z=>z)
   | .ex e S2,q =>
    exact fun σ2 W2 s2 e2 a2=>q σ2 W2 s2 e2 (fD (a1'.trans (a2.mono hr)))
end
end Mp
namespace Mp
open PySem L2
abbrev Gf:=Val->Env->Option Env
abbrev iM:=List Val->Env->Option Env
def gN (i:Nat):Gf:=fun x S=>putS S i (.fz x)
def jc:iM:=fun xs S=>match xs with
 | []=>some S
 | _::_=>none
def dS (g:Gf) (gs:iM):iM:=fun xs S=>match xs with
 | []=>none
 | x::xs=>(g x S).bind fun S1=>gs xs S1
def gT (n:Nat) (gs:iM):Gf:=fun x S=>match x with
 | .tup xs=>if xs.length=n then gs xs S else none
 | _=>none
def tG (K:PySem.W.Frag) (ct:Tw.Ct) (pin:List Nat) (g:Gf) (ws:List Nat):TG:=fun v σ H Q=>∃B X Φ0 W x S',W.H=H/\Sat K ct B X Φ0 σ W/\bw K ct W.Φ W.H v x/\g x W.S=some S' /\
 ∀σ' W',b4 pin σ σ'->Sat K ct B X Φ0 σ' W'->W'.S=S'->W'.H=W.H->W'.Φ=W.Φ->Step ws W W'->(∀vs:List Nat,(∀j∈ws,j∈vs)->wipe σ' vs=wipe σ vs)->Q σ' W'.H
def kB (K:PySem.W.Frag) (ct:Tw.Ct) (pin:List Nat) (g:iM) (ws:List Nat):TGs:=fun v σ H Q=>∃B X Φ0 W x S',W.H=H/\Sat K ct B X Φ0 σ W/\ViewL K ct W.Φ W.H v x/\g x W.S=some S' /\
 ∀σ' W',b4 pin σ σ'->Sat K ct B X Φ0 σ' W'->W'.S=S'->W'.H=W.H->W'.Φ=W.Φ->Step ws W W'->(∀vs:List Nat,(∀j∈ws,j∈vs)->wipe σ' vs=wipe σ vs)->Q σ' W'.H
section
variable {K:PySem.W.Frag} {ct:Tw.Ct} {E:Exn->St->Hp->Prop} {B:Hp} {X:List Addr} {Φ0:Addr->Prop} {σ:St} {W W' W1:Wd} {H:Hp} {i j:Nat} {x:Val} {v:V} {js wr wr1 wr2 ws pin:List Nat} {o r:OV} {f:Sf} {a b:Ef} {c:Tf} {g:Gf} {gs:iM}
theorem xh {Q:St->Hp->Prop} (hp:i∉pin) (q:tG K ct pin (gN i) [i] v σ H Q):gName i v σ H Q:=by
 obtain⟨B,X,Φ0,W,x,S',rfl,s,hv,h,q⟩:=q;obtain⟨hi,rfl⟩:=m9 h
 refine q _ { W with S:=W.S.set i (some (.fz x)),Fs:=bv W.Fs i [] } (fun k hk=>cG fun(z:i=k)=>hp (z▸hk)) (s.put (i:=i) (o:=.fz x) (D:=[]) ⟨hv,rfl⟩ b5 (fun _ z=>nomatch z) (fun _ z=>nomatch z) (fun _ z=>nomatch z) hi) rfl rfl rfl ?_ fun vs hw=>Tw.Jo (hw i (ao ..))
 refine⟨fun _ _ h _=>h,fun _ h=>h,fun _ h=>h,fun _ h=>.inl h,fun k hk=>b7 fun z=>hk (by rw[z]; exact ao ..),fun k a ha=>?_,fun k hk=>cG fun(z:i=k)=>hk (by rw[z]; exact ao ..)⟩;have ha:a∈bv W.Fs i [] k:=ha
 by_cases e:k=i
 ·subst e; rw[eX] at ha; cases ha
 ·rw[b7 e] at ha; exact .inl ha
theorem Qk {vs:List V} {Q:St->Hp->Prop} (q:kB K ct pin jc [] vs σ H Q):gNil vs σ H Q:=by
 obtain⟨B,X,Φ0,W,x,S',rfl,s,hv,h,q⟩:=q
 cases x with
 | cons _ _=>cases h
 | nil =>
  cases h
  cases vs with
  | cons _ _=>exact hv.elim
  | nil=>exact⟨rfl,q σ W (b4.refl pin σ) s rfl rfl rfl (Step.refl W) fun _ _=>rfl⟩
theorem Ql {ws1 ws2:List Nat} {vs:List V} {Q:St->Hp->Prop} (q:kB K ct pin (dS g gs) (ws1++ws2) vs σ H Q):gCons (tG K ct pin g ws1) (kB K ct pin gs ws2) vs σ H Q:=by
 obtain⟨B,X,Φ0,W,x,S',rfl,s,hv,h,q⟩:=q
 cases x with
 | nil=>cases h
 | cons x xs =>
  cases vs with
  | nil=>exact hv.elim
  | cons v vs =>
   have h:(g x W.S).bind (fun S1=>gs xs S1)=some S':=h
   cases h1:g x W.S with
   | none=>rw[h1] at h; cases h
   | some S1 =>
    rw[h1] at h;refine⟨v,vs,rfl,B,X,Φ0,W,x,S1,rfl,s,hv.1,h1,fun σ1 W1 p1 s1 e1 eh ep st hw=>?_⟩;subst e1;refine⟨B,X,Φ0,W1,xs,S',rfl,s1,by rw[eh,ep]; exact hv.2,h,fun σ2 W2 p2 s2 e2 eh2 ep2 st2 hw2=>?_⟩
    exact q σ2 W2 (p1.trans p2) s2 e2 (eh2.trans eh) (ep2.trans ep) (st.trans st2) fun us hu=>by rw[hw2 us fun j hj=>hu j (aJ _ hj),hw us fun j hj=>hu j (au _ hj)]
theorem Qj {n:Nat} {Q:St->Hp->Prop} (q:tG K ct pin (gT n gs) ws v σ H Q):gTup K n (kB K ct pin gs ws) v σ H Q:=by
 obtain⟨B,X,Φ0,W,x,S',rfl,s,hv,h,q⟩:=q
 cases x with
 | tup xs =>
  obtain⟨a,vs,rfl,h1,hl,h2⟩:=hv;have h:(if xs.length=n then gs xs W.S else none)=some S':=h;split at h
  ·rename_i hn
   have hlen:∀{vs:List V} {xs:List Val},ViewL K ct W.Φ W.H vs xs->vs.length=xs.length:=fun {vs xs} h=>by
    induction vs generalizing xs with
    | nil=>cases xs with
     | nil=>rfl
     | cons _ _=>exact h.elim
    | cons v vs ih=>cases xs with
     | nil=>exact h.elim
     | cons x xs=>rw[cR,cR,ih h.2]
   exact⟨a,vs,rfl,.inl (.inl h1),by rw[hlen h2,hn],B,X,Φ0,W,xs,S',rfl,s,h2,h,q⟩
  ·cases h
 | _=>cases h
structure Iter (K:PySem.W.Frag) (ct:Tw.Ct) (Φ:Addr->Prop) (H:Hp) (D:List Addr) (its:List Val) (J:It):Prop where
 len:its.length<=sizeLine
 go:∀H2,cg Φ H H2->(∀a∈D,H2 a=H a)->∀i,i<its.length->J.go i H2
 stop:∀H2,cg Φ H H2->(∀a∈D,H2 a=H a)->J.stop its.length H2
 yld:∀H2,cg Φ H H2->(∀a∈D,H2 a=H a)->∀i v H3,J.yld i H2 v H3->Same H2 H3/\∀x,its[i]?=some x->bw K ct Φ H3 v x
def tI (K:PySem.W.Frag) (ct:Tw.Ct) (E:Exn->St->Hp->Prop) (it:Af) (js wr:List Nat):TI:=fun σ H R=>∃B X Φ0 W,W.H=H/\Sat K ct B X Φ0 σ W/\match it W.S with
 | .ok its S'=>∀J W' D,Sat K ct B X Φ0 σ W'->W'.S=S'->Step wr W W'->(∀a∈D,W'.H a≠none)->(∀a∈D,∀k,a∈W'.Fs k->k∈js)->Iter K ct W'.Φ W'.H D its J->R J W'.H
 | .ex e S'=>∀W',Sat K ct B X Φ0 σ W'->W'.S=S'->Step wr W W'->E e σ W'.H
 | .no=>False
def iH (g:Gf) (f:Sf):List Val->Env->Out Fl
 | [],S=>.ok .nx S
 | x::xs,S=>(Out.of (g x S) S).bind fun S1 _=>(f S1).bind fun fl S2=>match fl with
  | .nx=>iH g f xs S2
  | .ct=>iH g f xs S2
  | .bk=>.ok .nx S2
  | .rt o=>.ok (.rt o) S2
def cT (it:Af) (g:Gf) (f:Sf):Sf:=fun S=>(it S).bind fun its S1=>iH g f its S1
theorem Dj {wr wr':List Nat} (h:∀k∈wr,k∈wr') (a:Step wr' W W') (b:Step wr W' W1):Step wr' W W1:=fD (a.trans (b.mono h))
def Dd (K:PySem.W.Frag) (ct:Tw.Ct) (E:Exn->St->Hp->Prop) (B:Hp) (X:List Addr) (Φ0:Addr->Prop) (σ:St) (W:Wd) (it:Af) (js wr:List Nat):TI:=fun _ _ R=>match it W.S with
 | .ok its S'=>∀J W' D,Sat K ct B X Φ0 σ W'->W'.S=S'->Step wr W W'->(∀a∈D,W'.H a≠none)->(∀a∈D,∀k,a∈W'.Fs k->k∈js)->Iter K ct W'.Φ W'.H D its J->R J W'.H
 | .ex e S'=>∀W',Sat K ct B X Φ0 σ W'->W'.S=S'->Step wr W W'->E e σ W'.H
 | .no=>False
theorem KB {σ0:St} {D:Ends} {it:Af} {wri wrb:List Nat} (hj:∀k∈js,k∉ws++wrb) (s:Sat K ct B X Φ0 σ0 W) (q:dG K ct E B X Φ0 pin (wri++(ws++wrb)) σ0 W D (cT it g f W.S)):tFor (Dd K ct E B X Φ0 σ0 W it js wri) (tG K ct pin g ws) (tS K ct E pin f wrb) D σ0 W.H:=by
 unfold cT at q;unfold tFor Dd
 cases hi:it W.S with
 | no=>rw[hi] at q; exact q.elim
 | ex e S'=>rw[hi] at q; exact fun W' s' e' a'=>q σ0 W' s' e' (a'.mono fun k hk=>au _ hk)
 | ok its S1 =>
 rw[hi,Out.bind_ok] at q;intro J W1 Dl s1 e1 a1 dl dj I;subst e1;have q1:=dG.behind q a1 (b4.refl pin σ0)
 have same:∀W2,Step (ws++wrb) W1 W2->∀a∈Dl,W2.H a=W1.H a:=fun W2 st a ha=>by
  cases e:W1.H a with
  | none=>exact absurd e (dl a ha)
  | some u=>exact st.fr a u e fun⟨k,hk,hm⟩=>hj k (dj a ha k hm) hk
 refine⟨fun i m σ H=>m=its.length - i/\i<=its.length/\∃W,W.H=H/\Sat K ct B X Φ0 σ W/\Step (ws++wrb) W1 W/\b4 pin σ0 σ/\dG K ct E B X Φ0 pin (ws++wrb) σ W D (iH g f (its.drop i) W.S),⟨its.length,by simp,eR _,W1,rfl,s1,(Step.refl W1).mono fun _ z=>(nomatch z),b4.refl pin σ0,q1⟩,?_⟩
 rintro i m σ2 _ ⟨rfl,hi',W2,rfl,s2,st2,p2,q2⟩
 have k2:=s1.keeps st2;have d2:=same W2 st2
 by_cases hlt:i<its.length
 ·refine .inr ⟨I.go _ k2 d2 i hlt,fun σ' H'=>∃m',m'<its.length - i/\(m'=its.length - (i+1)/\i+1<=its.length/\∃W,W.H=H'/\Sat K ct B X Φ0 σ' W/\Step (ws++wrb) W1 W/\b4 pin σ0 σ'/\dG K ct E B X Φ0 pin (ws++wrb) σ' W D (iH g f (its.drop (i+1)) W.S)),fun _ _ z=>z,fun v H3 y=>?_⟩;obtain⟨e3,hv⟩:=I.yld _ k2 d2 i v H3 y;have hv:=hv its[i] (c8 hlt);rw[u7 hlt] at q2;unfold iH at q2;have s3:=s2.grow e3
  have a3:Step (ws++wrb) W2 { W2 with H:=H3 }:=(gU e3).mono fun _ z=>(nomatch z)
  cases hg:g its[i] W2.S with
  | none=>rw[hg] at q2; exact q2.elim
  | some S4 =>
   rw[hg,Out.of_some,Out.bind_ok] at q2;refine⟨B,X,Φ0,{ W2 with H:=H3 },its[i],S4,rfl,s3,hv.keep st2.ph kR _,hg,fun σ4 W4 p4 s4 e4 eh ep a4 _=>?_⟩;subst e4;have a4':Step (ws++wrb) W2 W4:=Dj (fun k hk=>au _ hk) a3 a4;have q4:=dG.behind (wr1:=ws++wrb) (wr2:=ws++wrb) (q2.mono fun k hk=>(bc.mp hk).elim id id) a4' p4
   have hb:∀k∈wrb,k∈ws++wrb:=fun k hk=>aJ _ hk
   refine fT.mpr ⟨B,X,Φ0,W4,rfl,s4,?_⟩
   match hf:f W4.S,q4 with
   | .ok .nx S5,q4 =>
    intro σ5 W5 p5 s5 e5 a5;subst e5;have a5':=a5.mono hb;exact⟨its.length - (i+1),by omega,rfl,hlt,W5,rfl,s5,fD (st2.trans (fD (a4'.trans a5'))),p2.trans (p4.trans p5),dG.behind (wr1:=ws++wrb) (wr2:=ws++wrb) (dG.mono (r:=iH g f (its.drop (i+1)) W5.S) q4 fun k hk=>(bc.mp hk).elim id id) a5' p5⟩
   | .ok .ct S5,q4 =>
    intro σ5 W5 p5 s5 e5 a5;subst e5;have a5':=a5.mono hb;exact⟨its.length - (i+1),by omega,rfl,hlt,W5,rfl,s5,fD (st2.trans (fD (a4'.trans a5'))),p2.trans (p4.trans p5),dG.behind (wr1:=ws++wrb) (wr2:=ws++wrb) (dG.mono (r:=iH g f (its.drop (i+1)) W5.S) q4 fun k hk=>(bc.mp hk).elim id id) a5' p5⟩
   | .ok .bk S5,q4=>exact fun σ5 W5 p5 s5 e5 a5=>q4 σ5 W5 p5 s5 e5 (a5.mono hb)
   | .ok (.rt o) S5,q4=>exact fun σ5 v W5 D5 p5 s5 e5 a5 t5=>q4 σ5 v W5 D5 p5 s5 e5 (a5.mono hb) (t5.mono (fun _ z=>z) hb)
   | .ex e S5,q4=>exact fun σ5 W5 s5 e5 a5=>q4 σ5 W5 s5 e5 (a5.mono hb)
 ·have e:i=its.length:=by omega
  subst e;rw[List.drop_length] at q2;exact .inl ⟨I.stop _ k2 d2,q2 σ2 W2 (b4.refl pin σ2) s2 rfl ((Step.refl W2).mono fun _ z=>nomatch z)⟩
theorem KC {σ0:St} {D:Ends} {it:Af} {wri wrb:List Nat} (hj:∀k∈js,k∉ws++wrb) (q:tS K ct E pin (cT it g f) (wri++(ws++wrb)) D σ0 H):tFor (tI K ct E it js wri) (tG K ct pin g ws) (tS K ct E pin f wrb) D σ0 H:=by
 obtain⟨B,X,Φ0,W,rfl,s,q⟩:=fT.mp q;exact⟨B,X,Φ0,W,rfl,s,KB hj s q⟩
def aA (S:Env):List Nat->Env
 | []=>S
 | v::vs=>(aA S vs).set v none
def db (S0 S:Env):List Nat->Env
 | []=>S
 | v::vs=>(db S0 S vs).set v (S0[v]?.join)
def b9 (g:Gf) (c:Tf) (js:List Nat) (a:Ef) (vs:List Nat):List Val->Env->Out (List Val)
 | [],S=>.ok [] S
 | x::xs,S=>(Out.of (g x S) S).bind fun S1 _=>(c S1).bind fun k S2=>match k with
  | false=>b9 g c js a vs xs (aA S2 vs)
  | true=>(a S2).bind fun o S3=>(Out.of (aI js o) S3).bind fun y S4=>(b9 g c js a vs xs (aA S4 vs)).bind fun ys S5=>.ok (y::ys) S5
def aF (xs:List Val):List OV:=xs.map .fz
def ag (xs:List Val):OV:=.lst (aF xs)
def dN {α:Type}:Out α->Out α
 | .ok a S=>.ok a S
 | .ex _ _=>.no
 | .no=>.no
def cu (it:Af) (g:Gf) (c:Tf) (js:List Nat) (a:Ef) (vs:List Nat):Ef:=fun S=>(it S).bind fun its S1=>(dN (b9 g c js a vs its (aA S1 vs))).bind fun ys S2=>.ok (ag ys) (db S1 S2 vs)
theorem jo {S:Env}:∀(vs:List Nat) (i:Nat),(aA S vs)[i]?=if i∈vs/\i<S.length then some none else S[i]?
 | [],i=>by simp[aA]
 | v :: vs, i => by
  have hl:(aA S vs).length=S.length:=by
   clear i
   induction vs with
   | nil=>rfl
   | cons w vs ih=>show((aA S vs).set w none).length=_; rw[gG,ih]
  show((aA S vs).set v none)[i]?=_
  by_cases e:v=i
  ·subst e
   by_cases h:v<S.length
   ·rw[ig (by rw[hl]; exact h),if_pos ⟨ao ..,h⟩]
   ·rw[gB (by rw[gG,hl]; omega),if_neg (fun z=>h z.2),gB (by omega)]
  ·rw[cG e,jo vs i]
   have e':¬i=v:=fun z=>e z.symm
   simp[List.mem_cons,e']
theorem yI (S:Env):∀vs,(aA S vs).length=S.length
 | []=>rfl
 | v::vs=>by show((aA S vs).set v none).length=_; rw[gG,yI S vs]
theorem vY (S0 S:Env):∀vs,(db S0 S vs).length=S.length
 | []=>rfl
 | v::vs=>by show((db S0 S vs).set v _).length=_; rw[gG,vY S0 S vs]
theorem pY {S0 S:Env} (hl:S.length=S0.length):∀(vs:List Nat) (i:Nat),(db S0 S vs)[i]?=if i∈vs then S0[i]? else S[i]?
 | [],i=>by simp[db]
 | v :: vs, i => by
  show((db S0 S vs).set v _)[i]?=_
  by_cases e:v=i
  ·subst e;rw[if_pos (ao ..)]
   by_cases h:v<S.length
   ·rw[ig (by rw[vY]; exact h)];rw[c8 (by omega)];rfl
   ·rw[gB (by rw[gG,vY]; omega),gB (by omega)]
  ·rw[cG e,pY hl vs i]
   have e':¬i=v:=fun z=>e z.symm
   simp[List.mem_cons,e']
def bV (Fs:Nat->List Addr) (vs:List Nat):Nat->List Addr:=fun k=>if k∈vs then [] else Fs k
def Wd.wiped (W:Wd) (vs:List Nat):Wd:={ W with S:=aA W.S vs,Fs:=bV W.Fs vs }
theorem Sat.wiped {σ2:St} (s:Sat K ct B X Φ0 σ2 W) (vs:List Nat) (hw:wipe σ2 vs=wipe σ vs):Sat K ct B X Φ0 (wipe σ vs) (W.wiped vs):=by
 have hf:∀k a,a∈bV W.Fs vs k->a∈W.Fs k/\k∉vs:=fun k a h=>by
  unfold bV at h;split at h
  ·cases h
  ·exact⟨h,by assumption⟩
 refine⟨?_,fun i o h=>?_,fun i h=>?_,fun i=>?_,fun i j a h1 h2=>s.dj i j a (hf i a h1).1 (hf j a h2).1,fun i a h=>s.nph i a (hf i a h).1,fun i a h=>s.own i a (hf i a h).1,s.old,s.lv,s.phl,s.phn,s.xl⟩
 ·rw[←hw,wipe_length,s.len];exact(yI _ _).symm
 ·have h:(aA W.S vs)[i]?=some (some o):=h;rw[jo] at h;split at h
  ·cases h
  ·rename_i n
   obtain⟨v,h1,h2⟩:=s.sl i o h
   have hi:i<W.S.length:=by
    rcases kj i W.S.length with z|z
    ·exact z
    ·rw[gB z] at h; cases h
   have hn:i∉vs:=fun z=>n ⟨z,hi⟩
   refine⟨v,by rw[←hw,Tw.j3,if_neg (fun z=>hn z.1)]; exact h1,?_⟩
   show aR K ct W.Φ W.H v o (bV W.Fs vs i)
   unfold bV;rw[if_neg hn];exact h2
 ·show bV W.Fs vs i=[]
  unfold bV;split
  ·rfl
  ·rename_i hn
   refine s.em i fun o z=>h o ?_
   show(aA W.S vs)[i]?=_
   rw[jo,if_neg (fun z=>hn z.1)];exact z
 ·show(bV W.Fs vs i).Nodup
  unfold bV;split
  ·exact b5
  ·exact s.nd i
theorem Sat.wrD (s:Sat K ct B X Φ0 σ W) {D:Addr} {o:HO} (hf:∀k,D∉W.Fs k) (hp:¬W.Φ D) (hb:B D=none) (hd:∀u,W.H D=some u->¬uk u):Sat K ct B X Φ0 σ { W with H:=upd W.H D o }:=by
 have ks:cg W.Φ W.H (upd W.H D o):=fun b u h p=>by
  refine⟨u,?_,.inl rfl⟩;rw[upd_ne fun z=>?_]
  ·exact h
  ·subst z
   rcases p with p|p
   ·exact hp p
   ·exact hd u h p
 have lv:∀b,W.H b≠none->upd W.H D o b≠none:=fun b h=>by
  by_cases e:b=D
  ·subst e; rw[upd_same]; exact fun z=>nomatch z
  ·rw[upd_ne e]; exact h
 refine⟨s.len,fun i o' h=>?_,s.em,s.nd,s.dj,s.nph,s.own,fun b u h n=>?_,fun b h=>lv b (s.lv b h),fun a h=>lv a (s.phl a h),s.phn,s.xl⟩
 ·obtain⟨v,h1,h2⟩:=s.sl i o' h;exact⟨v,h1,h2.keep (fun _ z=>z) ks o' fun b hb=>upd_ne fun z=>hf i (z▸hb)⟩
 ·show upd W.H D o b=some u
  rw[upd_ne fun z=>?_]
  ·exact s.old b u h n
  ·subst z; rw[hb] at h; cases h
theorem r6 {D:Addr} {o:HO} (a:Step wr W W') (h:W.H D=none):Step wr W { W' with H:=upd W'.H D o } where
 fr:=fun b u e n=>by
  show upd W'.H D o b=some u
  rw[upd_ne fun z=>?_]
  ·exact a.fr b u e n
  ·subst z; rw[h] at e; cases e
 lv:=fun b e=>by
  show upd W'.H D o b≠none
  by_cases z:b=D
  ·subst z; rw[upd_same]; exact fun z=>nomatch z
  ·rw[upd_ne z]; exact a.lv b e
 ph:=a.ph
 pn:=a.pn
 kf:=a.kf
 nf:=a.nf
 ks:=a.ks
theorem Sat.rest (s1:Sat K ct B X Φ0 σ W1) (vs:List Nat) {wrb:List Nat} (hws:∀k∈wr,k∈vs\/k∈wrb) (s2:Sat K ct B X Φ0 (wipe σ vs) W) (a:Step wr (W1.wiped vs) W) :
  Sat K ct B X Φ0 σ { W with S:=db W1.S W.S vs,Fs:=fun k=>if k∈vs then W1.Fs k else W.Fs k }/\Step wrb W1 { W with S:=db W1.S W.S vs,Fs:=fun k=>if k∈vs then W1.Fs k else W.Fs k }:=by
 have hwf:∀k a,a∈(W1.wiped vs).Fs k->a∈W1.Fs k/\k∉vs:=fun k a h=>by
  have h:a∈bV W1.Fs vs k:=h;unfold bV at h;split at h
  ·cases h
  ·exact⟨h,by assumption⟩
 have hown:∀b,Own (W1.wiped vs).Fs wr b->Own W1.Fs wrb b:=fun b ⟨k,hk,hb⟩=>by
  obtain⟨h1,h2⟩:=hwf k b hb;exact⟨k,(hws k hk).resolve_left h2,h1⟩
 have hno:∀k∈vs,∀x∈W1.Fs k,¬Own (W1.wiped vs).Fs wr x:=fun k hk x hx ⟨k',hk',hx'⟩=>by
  obtain⟨h1,h2⟩:=hwf k' x hx';rw[s1.dj k k' x hx h1] at hk;exact h2 hk
 have hl1:W1.S.length=W.S.length:=by
  have z:=s2.len;rw[wipe_length,s1.len] at z;exact z
 have hH:∀k∈vs,∀x∈W1.Fs k,W.H x=W1.H x:=fun k hk x hx=>by
  obtain⟨u,e,_⟩:=s1.liveF hx;rw[e];exact a.fr x u e (hno k hk x hx)
 have hnd:∀k∈vs,∀x∈W1.Fs k,∀j,x∉W.Fs j:=fun k hk x hx j z=>by
  rcases a.nf j x z with q|q|q
  ·obtain⟨h1,h2⟩:=hwf j x q;rw[s1.dj k j x hx h1] at hk;exact h2 hk
  ·exact hno k hk x hx q
  ·obtain⟨u,e,_⟩:=s1.liveF hx
   exact nomatch (show W1.H x=none from q).symm.trans e
 have kp:cg W1.Φ W1.H W.H:=fun b u h p=>by
  refine⟨u,a.fr b u h fun⟨k,_,hb⟩=>?_,.inl rfl⟩;obtain⟨h1,_⟩:=hwf k b hb
  rcases p with p|p
  ·exact s1.nph k b h1 p
  ·obtain⟨u',e,n⟩:=s1.liveF h1;rw[h] at e; cases e; exact n p
 refine⟨⟨?_,fun i o h=>?_,fun i h=>?_,fun i=>?_,fun i j x h1 h2=>?_,fun i x h=>?_,fun i x h=>?_,s2.old,s2.lv,s2.phl,s2.phn,s2.xl⟩,⟨fun b u h n=>a.fr b u h fun z=>n (hown b z),a.lv,a.ph,fun x h=>?_,fun k hk=>?_,fun k x h=>?_,fun k hk=>?_⟩⟩
 ·show σ.length=(db W1.S W.S vs).length
  rw[vY,←hl1,s1.len]
 ·have h:(db W1.S W.S vs)[i]?=some (some o):=h;rw[pY hl1.symm] at h
  show ∃v,_/\aR K ct W.Φ W.H v o (if i∈vs then W1.Fs i else W.Fs i)
  split at h
  ·rename_i hi
   obtain⟨v,h1,h2⟩:=s1.sl i o h;rw[if_pos hi];exact⟨v,h1,h2.keep a.ph kp o fun b hb=>hH i hi b hb⟩
  ·rename_i hi
   obtain⟨v,h1,h2⟩:=s2.sl i o h;rw[if_neg hi];rw[Tw.j3,if_neg (fun z=>hi z.1)] at h1;exact⟨v,h1,h2⟩
 ·show(if i∈vs then W1.Fs i else W.Fs i)=[]
  split
  ·rename_i hi
   refine s1.em i fun o z=>h o ?_
   show(db W1.S W.S vs)[i]?=_
   rw[pY hl1.symm,if_pos hi];exact z
  ·rename_i hi
   refine s2.em i fun o z=>h o ?_
   show(db W1.S W.S vs)[i]?=_
   rw[pY hl1.symm,if_neg hi];exact z
 ·show(if i∈vs then W1.Fs i else W.Fs i).Nodup
  split
  ·exact s1.nd i
  ·exact s2.nd i
 ·have h1:x∈(if i∈vs then W1.Fs i else W.Fs i):=h1;have h2:x∈(if j∈vs then W1.Fs j else W.Fs j):=h2;split at h1<;>split at h2
  ·exact s1.dj i j x h1 h2
  ·rename_i hi _; exact absurd h2 (hnd i hi x h1 j)
  ·rename_i hj; exact absurd h1 (hnd j hj x h2 i)
  ·exact s2.dj i j x h1 h2
 ·have h:x∈(if i∈vs then W1.Fs i else W.Fs i):=h;split at h
  ·rename_i hi
   intro z
   rcases a.pn x z with q|q|q
   ·exact s1.nph i x h q
   ·exact hno i hi x h q
   ·obtain⟨u,e,_⟩:=s1.liveF h
    exact nomatch (show W1.H x=none from q).symm.trans e
  ·exact s2.nph i x h
 ·have h:x∈(if i∈vs then W1.Fs i else W.Fs i):=h;split at h
  ·exact s1.own i x h
  ·exact s2.own i x h
 ·exact(a.pn x h).imp id (Or.imp (hown x) id)
 ·show(if k∈vs then W1.Fs k else W.Fs k)=_
  split
  ·rfl
  ·rename_i hv
   have hk':k∉wr:=fun z=>(hws k z).elim hv hk
   rw[a.kf k hk']
   show bV W1.Fs vs k=_
   unfold bV;rw[if_neg hv]
 ·have h:x∈(if k∈vs then W1.Fs k else W.Fs k):=h;split at h
  ·exact .inl h
  ·rcases a.nf k x h with q|q|q
   ·exact .inl (hwf k x q).1
   ·exact .inr (.inl (hown x q))
   ·exact .inr (.inr q)
 ·show(db W1.S W.S vs)[k]?=_
  rw[pY hl1.symm];split
  ·rfl
  ·rename_i hv
   rw[a.ks k fun z=>(hws k z).elim hv hk]
   show(aA W1.S vs)[k]?=_
   rw[jo,if_neg fun z=>hv z.1]
end
end Mp
namespace Mp
open PySem L2
def E0:Exn->St->Hp->Prop:=fun _ _ _=>False
section
variable {K:PySem.W.Frag} {ct:Tw.Ct} {E:Exn->St->Hp->Prop} {B:Hp} {X:List Addr} {Φ0:Addr->Prop} {σ:St} {W W' W1:Wd} {H:Hp} {i:Nat} {x:Val} {v:V} {js wr ws:List Nat} {o:OV} {a b:Ef} {c:Tf} {g:Gf}
theorem yV {P:Addr->Prop} {vs:List V} {xs:List Val} (h:ViewL K ct P H vs xs) (hv:bw K ct P H v x):ViewL K ct P H (vs++[v]) (xs++[x]):=by
 induction vs generalizing xs with
 | nil=>cases xs with
  | nil=>exact⟨hv,trivial⟩
  | cons _ _=>exact h.elim
 | cons u vs ih=>cases xs with
  | nil=>exact h.elim
  | cons y xs=>exact⟨h.1,ih h.2⟩
theorem fG {P:Addr->Prop}:∀{vs:List V} {xs:List Val},ViewL K ct P H vs xs->vs.length=xs.length
 | [],[],_=>rfl
 | _::_,_::_,h=>by rw[cR,cR,fG h.2]
 | [],_::_,h=>h.elim
 | _::_,[],h=>h.elim
theorem ny {Φ:Addr->Prop}:∀{vs:List V} {xs:List Val},ViewL K ct Φ H vs xs->ORepL K ct Φ H vs (aF xs) []
 | [],[],_=>rfl
 | _::_,_::_,h=>⟨[],[],rfl,⟨h.1,rfl⟩,ny h.2⟩
 | [],_::_,h=>h.elim
 | _::_,[],h=>h.elim
theorem lO {P P':Addr->Prop} {H H':Hp} (hP:∀a,P a->P' a) (k:cg P H H') {vs:List V} {xs:List Val} (h:ViewL K ct P H vs xs):ViewL K ct P' H' vs xs:=ViewL.keep hP k xs h
structure LcAt (K:PySem.W.Frag) (ct:Tw.Ct) (B:Hp) (X:List Addr) (Φ0:Addr->Prop) (σ:St) (vs wr:List Nat) (W1:Wd) (Dn:Addr) (ys:List Val) (W:Wd):Prop where
 s:Sat K ct B X Φ0 (wipe σ vs) W
 st:Step wr (W1.wiped vs) W
 nf:∀k,Dn∉W.Fs k
 np:¬W.Φ Dn
 acc:∃acc,W.H Dn=some (.lst acc)/\ViewL K ct W.Φ W.H acc ys
theorem zk {it : Af} {wri wc wa vs jsa : List Nat} (hw : ∀ k ∈ ws, k ∈ vs) (hj : ∀ k ∈ js, k ∉ wc ++ wa) {Q : VK} (q : tE K ct E (cu it g c jsa a vs) [] (wri ++ (wc ++ wa)) σ H Q) :
  tLc (tI K ct E it js wri) (tG K ct [] g ws) (tT K ct E0 c wc) (tE K ct E0 a jsa wa) vs σ H Q:=by
 obtain⟨B,X,Φ0,W,rfl,s,q⟩:=q;unfold cu at q;refine⟨B,X,Φ0,W,rfl,s,?_⟩
 cases hi:it W.S with
 | no=>rw[hi] at q; exact q.elim
 | ex e S'=>rw[hi] at q; exact fun W' s' e' a'=>q W' s' e' (a'.mono fun k hk=>au _ hk)
 | ok its S1 =>
 rw[hi,Out.bind_ok] at q;intro J W1 Dl s1 e1 a1 dl dj I Dn hDn;subst e1
 have hr:∀k∈ws++(wc++wa),k∈vs\/k∈wc++wa:=fun k hk=>(bc.mp hk).imp (hw k) id
 have hwf:∀k a,a∈(W1.wiped vs).Fs k->a∈W1.Fs k/\k∉vs:=fun k a h=>by
  have h:a∈bV W1.Fs vs k:=h;unfold bV at h;split at h
  ·cases h
  ·exact⟨h,by assumption⟩
 have same:∀W2,Step (ws++(wc++wa)) (W1.wiped vs) W2->∀a∈Dl,W2.H a=W1.H a:=fun W2 st a ha=>by
  cases e:W1.H a with
  | none=>exact absurd e (dl a ha)
  | some u=>exact st.fr a u e fun⟨k,hk,hm⟩=>hj k (dj a ha k (hwf k a hm).1) ((hr k hk).resolve_left (hwf k a hm).2)
 have s1w:Sat K ct B X Φ0 (wipe σ vs) (W1.wiped vs):=s1.wiped vs rfl
 -- what is wanted at the end
 let Fin:List Val->Out (List Val)->Prop:=fun ys out=>match out with
  | .ok zs S'=>∀W',LcAt K ct B X Φ0 σ vs (ws++(wc++wa)) W1 Dn (ys++zs) W'->W'.S=S'->Q (.ref Dn) W'.H
  | .ex _ _=>False
  | .no=>False
 have bD:B Dn=none:=by
  cases e:B Dn with
  | none=>rfl
  | some u=>exact absurd hDn (s1.lv Dn (by rw[e]; exact fun z=>nomatch z))
 have q0 : its.length <= sizeLine -> Fin [] (b9 g c jsa a vs its (aA W1.S vs)) := fun hl => by
  show match b9 g c jsa a vs its (aA W1.S vs) with|.ok zs S'=>_|.ex _ _=>False|.no=>False
  cases hl':b9 g c jsa a vs its (aA W1.S vs) with
  | no=>rw[hl'] at q; exact q.elim
  | ex e S'=>rw[hl'] at q; exact q.elim
  | ok zs S' =>
   rw[hl'] at q;intro W' L e;subst e;obtain⟨s3,st3⟩:=s1.rest vs hr L.s L.st;obtain⟨acc,h1,h2⟩:=L.acc
   have q:∀v W'' D,Sat K ct B X Φ0 σ W''->W''.S=db W1.S W'.S vs->Step (wri++(wc++wa)) W W''->Tmp K ct [] (wri++(wc++wa)) W W'' v (ag zs) D->Q v W''.H:=q
   refine q (.ref Dn) { W' with S:=db W1.S W'.S vs,Fs:=fun k=>if k∈vs then W1.Fs k else W'.Fs k } [Dn] s3 rfl (a1.trans st3) ⟨?_,by simp,fun x hx=>?_,fun x hx k hk=>?_,fun x hx=>?_⟩
   ·have hz : zs.length <= its.length := by
     have : ∀ (its : List Val) (S : Env) (zs : List Val) (S' : Env), b9 g c jsa a vs its S = .ok zs S' -> zs.length <= its.length := by
      intro its
      induction its with
      | nil=>intro S zs S' h; cases h; exact bS _
      | cons x xs ih =>
       intro S zs S' h;unfold b9 at h
       cases hg:g x S with
       | none=>rw[hg] at h; cases h
       | some S1 =>
        rw[hg,Out.of_some,Out.bind_ok] at h
        cases hc:c S1 with
        | no=>rw[hc] at h; cases h
        | ex e S2=>rw[hc] at h; cases h
        | ok k S2 =>
         rw[hc,Out.bind_ok] at h
         cases k with
         | false=>exact Nat.le_succ_of_le (ih _ _ _ h)
         | true =>
          have h:(a S2).bind (fun o S3=>(Out.of (aI jsa o) S3).bind fun y S4=>(b9 g c jsa a vs xs (aA S4 vs)).bind fun ys S5=>.ok (y::ys) S5)=.ok zs S':=h
          cases ha:a S2 with
          | no=>rw[ha] at h; cases h
          | ex e S3=>rw[ha] at h; cases h
          | ok o S3 =>
           rw[ha,Out.bind_ok] at h
           cases ht:aI jsa o with
           | none=>rw[ht] at h; cases h
           | some y =>
            rw[ht,Out.of_some,Out.bind_ok] at h
            cases hl:b9 g c jsa a vs xs (aA S3 vs) with
            | no=>rw[hl] at h; cases h
            | ex e S4=>rw[hl] at h; cases h
            | ok ys S4 =>
             rw[hl,Out.bind_ok] at h
             cases h
             exact uT (ih _ _ _ hl)
     exact this its _ _ _ hl'
    exact⟨Dn,acc,[],rfl,h1,by rw[fG h2]; exact dH hz hl,ny h2,rfl⟩
   ·rw[bm.mp hx]; exact L.np
   ·rw[bm.mp hx] at hk;have hk:Dn∈(if k∈vs then W1.Fs k else W'.Fs k):=hk;split at hk
    ·obtain⟨u,e,_⟩:=s1.liveF hk;exact(nomatch hDn.symm.trans e)
    ·exact absurd hk (L.nf k)
   ·rw[bm.mp hx]; exact .inr (.inr (ja a1 hDn))
 refine⟨fun i m H=>m=its.length - i/\i<=its.length/\∃W ys,W.H=H/\LcAt K ct B X Φ0 σ vs (ws++(wc++wa)) W1 Dn ys W/\ys.length<=i/\Fin ys (b9 g c jsa a vs (its.drop i) W.S),⟨its.length,by simp,eR _,?_⟩,?_⟩
 ·refine⟨{ (W1.wiped vs) with H:=upd W1.H Dn (.lst []) },[],rfl,⟨?_,?_,?_,?_,[],upd_same,trivial⟩,bS _,q0 I.len⟩
  ·refine s1w.grow ?_;exact Tw.iP hDn
  ·exact(gU (W:=W1.wiped vs) (Tw.iP hDn)).mono fun _ z=>nomatch z
  ·intro k hk;obtain⟨u,e,_⟩:=s1w.liveF hk;exact(nomatch hDn.symm.trans e)
  ·exact fun z=>s1.phl Dn z hDn
 ·rintro i m _ ⟨rfl,hi',W2,ys,rfl,L,hy,q2⟩
  have st2:=L.st;have k2:cg W1.Φ W1.H W2.H:=s1w.keeps st2;have d2:=same W2 st2
  by_cases hlt:i<its.length
  ·refine .inr ⟨I.go _ k2 d2 i hlt,fun H'=>∃m',m'<its.length - i/\(m'=its.length - (i+1)/\i+1<=its.length/\∃W ys,W.H=H'/\LcAt K ct B X Φ0 σ vs (ws++(wc++wa)) W1 Dn ys W/\ys.length<=i+1/\Fin ys (b9 g c jsa a vs (its.drop (i+1)) W.S)),fun _ z=>z,fun v H3 y=>?_⟩;obtain⟨e3,hv⟩:=I.yld _ k2 d2 i v H3 y;have hv:=hv its[i] (c8 hlt);rw[u7 hlt] at q2;unfold b9 at q2;have s3:=L.s.grow e3
   have a3:Step (ws++(wc++wa)) (W1.wiped vs) { W2 with H:=H3 }:=by
    have:=st2.trans (gU e3);rw[b6] at this;exact this
   cases hg:g its[i] W2.S with
   | none=>rw[hg] at q2; exact q2.elim
   | some S4 =>
    rw[hg,Out.of_some,Out.bind_ok] at q2;refine⟨B,X,Φ0,{ W2 with H:=H3 },its[i],S4,rfl,s3,hv.keep st2.ph kR _,hg,fun σ4 W4 _ s4 e4 eh ep a4 hwp=>⟨?_,?_⟩⟩
    ·rw[hwp vs hw,Tw.pN]
    subst e4
    have hwp4:wipe σ4 vs=wipe σ vs:=by rw[hwp vs hw,Tw.pN]
    have a4':=Dj (fun k hk=>au _ hk) a3 a4
    have a4l:Step (ws++(wc++wa)) { W2 with H:=H3 } W4:=a4.mono fun k hk=>au _ hk
    -- the accumulator is untouched by a step of the block
    have keepD:∀(Wx:Wd),Step (ws++(wc++wa)) { W2 with H:=H3 } Wx->(∀k,Dn∉Wx.Fs k)/\¬Wx.Φ Dn/\∃acc,Wx.H Dn=some (.lst acc)/\ViewL K ct Wx.Φ Wx.H acc ys:=fun Wx ax=>by
     obtain⟨acc,h1,h2⟩:=L.acc;have h1':H3 Dn=some (.lst acc):=e3 _ _ h1
     have no:¬Own { W2 with H:=H3 }.Fs (ws++(wc++wa)) Dn:=fun⟨k,_,hk⟩=>L.nf k hk
     refine⟨fun k hk=>?_,fun z=>?_,acc,ax.fr Dn _ h1' no,?_⟩
     ·rcases ax.nf k Dn hk with z|z|z
      ·exact L.nf k z
      ·exact no z
      ·exact(nomatch (show H3 Dn=none from z).symm.trans h1')
     ·rcases ax.pn Dn z with z|z|z
      ·exact L.np z
      ·exact no z
      ·exact(nomatch (show H3 Dn=none from z).symm.trans h1')
     ·have h2':ViewL K ct W2.Φ H3 acc ys:=lO (fun _ z=>z) (fun b u z _=>⟨u,e3 _ _ z,.inl rfl⟩) h2;exact lO ax.ph (s3.keeps ax) h2'
    refine⟨B,X,Φ0,W4,rfl,s4,?_⟩
    cases hc:c W4.S with
    | no=>rw[hc] at q2; exact q2.elim
    | ex e S5=>rw[hc] at q2; exact q2.elim
    | ok k S5 =>
     rw[hc,Out.bind_ok] at q2;intro W5 s5 e5 a5;subst e5
     have a5l:Step (ws++(wc++wa)) W4 W5:=a5.mono fun k hk=>aJ _ (au _ hk)
     have a5':=fD (a4'.trans a5l)
     cases k with
     | false =>
      refine iteF ⟨its.length - (i+1),by omega,rfl,hlt,W5.wiped vs,ys,rfl,⟨s5.wiped vs hwp4,?_,fun k hk=>?_,?_,?_⟩,Nat.le_succ_of_le hy,q2⟩
      ·-- the step to the wiped state
       refine⟨a5'.fr,a5'.lv,a5'.ph,a5'.pn,fun k hk=>?_,fun k x hx=>?_,fun k hk=>?_⟩
       ·show bV W5.Fs vs k=bV W1.Fs vs k
        have z:=a5'.kf k hk;unfold bV;split
        ·rfl
        ·rw[z]; show bV W1.Fs vs k=_; unfold bV; rw[if_neg (by assumption)]
       ·have hx:x∈bV W5.Fs vs k:=hx;unfold bV at hx;split at hx
        ·cases hx
        ·exact a5'.nf k x hx
       ·show(aA W5.S vs)[k]?=(aA W1.S vs)[k]?
        have z:=a5'.ks k hk;have z:W5.S[k]?=(aA W1.S vs)[k]?:=z
        have l5:W5.S.length=W1.S.length:=by
         have y:=s5.len;have y1:=s1.len;have y2:=congrArg List.length hwp4;rw[wipe_length,wipe_length] at y2;omega
        rw[jo,jo,l5];rw[jo] at z;split
        ·rfl
        ·rename_i hn; rw[if_neg hn] at z; exact z
      ·have hk:Dn∈bV W5.Fs vs k:=hk;unfold bV at hk;split at hk
       ·cases hk
       ·exact(keepD W5 (fD (a4l.trans a5l))).1 k hk
      ·exact(keepD W5 (fD (a4l.trans a5l))).2.1
      ·exact(keepD W5 (fD (a4l.trans a5l))).2.2
     | true =>
      refine iteT ⟨B,X,Φ0,W5,rfl,s5,?_⟩;have q2:Fin ys ((a W5.S).bind fun o S3=>(Out.of (aI jsa o) S3).bind fun y S4=>(b9 g c jsa a vs (its.drop (i+1)) (aA S4 vs)).bind fun ys S5=>.ok (y::ys) S5):=q2
      cases ha:a W5.S with
      | no=>rw[ha] at q2; exact q2.elim
      | ex e S6=>rw[ha] at q2; exact q2.elim
      | ok o S6 =>
       rw[ha,Out.bind_ok] at q2;intro u W6 D6 s6 e6 a6 t6;subst e6
       cases hx:aI jsa o with
       | none=>rw[hx] at q2; exact q2.elim
       | some x =>
        rw[hx,Out.of_some,Out.bind_ok] at q2;obtain⟨Φ',s6',a6',v6⟩:=jt s5 s6 a6 t6 hx
        have a6l:Step (ws++(wc++wa)) W5 { W6 with Φ:=Φ' }:=a6'.mono fun k hk=>aJ _ (aJ _ hk)
        obtain⟨k1,k3,acc,k4,k5⟩:=keepD _ (fD (fD (a4l.trans a5l) |>.trans a6l));have k4:W6.H Dn=some (.lst acc):=k4
        have hacc:acc.length<sizeLine:=by
         rw[fG k5];have:=I.len;omega
        refine⟨acc,k4,hacc,its.length - (i+1),by omega,rfl,hlt,{ S:=aA W6.S vs,Fs:=bV W6.Fs vs,Φ:=Φ',H:=upd W6.H Dn (.lst (acc++[u])) },ys++[x],rfl,?_,by rw[cX]; exact uT hy,?_⟩
        ·have kp:cg Φ' W6.H (upd W6.H Dn (.lst (acc++[u]))):=fun b w h p=>by
          refine⟨w,?_,.inl rfl⟩;rw[upd_ne fun z=>?_]
          ·exact h
          ·subst z
           rcases p with p|p
           ·exact k3 p
           ·rw[k4] at h; cases h; exact p
         have s7:=(s6'.wiped vs hwp4).wrD (D:=Dn) (o:=.lst (acc++[u])) (fun k hk=>by
          have hk:Dn∈bV W6.Fs vs k:=hk;unfold bV at hk;split at hk
          ·cases hk
          ·exact k1 k hk) k3 bD (fun w h z=>by
          have h:W6.H Dn=some w:=h
          rw[k4] at h; cases h; exact z)
         have a7:Step (ws++(wc++wa)) (W1.wiped vs) { W6 with Φ:=Φ' }:=fD (a5'.trans a6l);have a8:=r6 (D:=Dn) (o:=.lst (acc++[u])) a7 hDn;refine⟨s7,⟨a8.fr,a8.lv,a8.ph,a8.pn,fun k hk=>?_,fun k y hy=>?_,fun k hk=>?_⟩,fun k hk=>?_,k3,acc++[u],upd_same,yV (lO (fun _ z=>z) kp k5) (v6.keep (fun _ z=>z) kp _)⟩
         ·show bV W6.Fs vs k=bV W1.Fs vs k
          have z:=a8.kf k hk;have z:W6.Fs k=bV W1.Fs vs k:=z;unfold bV at z ⊢;split
          ·rfl
          ·rename_i hn; rw[if_neg hn] at z; exact z
         ·have hy:y∈bV W6.Fs vs k:=hy;unfold bV at hy;split at hy
          ·cases hy
          ·exact a8.nf k y hy
         ·show(aA W6.S vs)[k]?=(aA W1.S vs)[k]?
          have z:W6.S[k]?=(aA W1.S vs)[k]?:=a8.ks k hk
          have l5:W6.S.length=W1.S.length:=by
           have y:=s6.len;have y1:=s1.len;have y2:=congrArg List.length hwp4;rw[wipe_length,wipe_length] at y2;omega
          rw[jo,jo,l5];rw[jo] at z;split
          ·rfl
          ·rename_i hn; rw[if_neg hn] at z; exact z
         ·have hk:Dn∈bV W6.Fs vs k:=hk;unfold bV at hk;split at hk
          ·cases hk
          ·exact k1 k hk
        ·show Fin (ys++[x]) (b9 g c jsa a vs (its.drop (i+1)) (aA W6.S vs))
         cases hl:b9 g c jsa a vs (its.drop (i+1)) (aA W6.S vs) with
         | no=>rw[hl] at q2; exact q2.elim
         | ex e S7=>rw[hl] at q2; exact q2.elim
         | ok zs S7 =>
          rw[hl] at q2;intro W' L' e';rw[dI] at L';exact q2 W' L' e'
  ·have e:i=its.length:=by omega
   subst e;rw[List.drop_length] at q2;refine .inl ⟨I.stop _ k2 d2,?_⟩
   have q2:∀W',LcAt K ct B X Φ0 σ vs (ws++(wc++wa)) W1 Dn (ys++[]) W'->W'.S=W2.S->Q (.ref Dn) W'.H:=q2
   exact q2 W2 (by rw[b6]; exact L) rfl
end
end Mp
namespace Mp
open PySem L2
abbrev be:=List OV->Out OV
structure FPost (K:PySem.W.Frag) (ct:Tw.Ct) (io:List Nat) (Φ:Addr->Prop) (H:Hp) (vs:List V) (D:List Addr) (r:OV) (outs:Env) (v:V) (H':Hp) (Φ':Addr->Prop) (Dr:List Addr) (Do:Nat->List Addr):Prop where
 fr:∀b u,H b=some u->b∉D->H' b=some u
 lv:∀b,H b≠none->H' b≠none
 ph:∀a,Φ a->Φ' a
 pn:∀a,Φ' a->Φ a\/a∈D\/H a=none
 phl:∀a,Φ' a->H' a≠none
 rep:aR K ct Φ' H' v r Dr
 out:∀(j i:Nat) o,io[j]?=some i->outs[j]?=some (some o)->∃w,vs[i]?=some w/\aR K ct Φ' H' w o (Do j)
 nd:Dr.Nodup
 ndo:∀j,(Do j).Nodup
 dj:∀i j a,a∈Do i->a∈Do j->i=j
 djr:∀a∈Dr,∀j,a∉Do j
 src:∀a,a∈Dr\/(∃j,a∈Do j)->¬Φ' a/\(a∈D\/H a=none)
def bh (K:PySem.W.Frag) (ct:Tw.Ct) (io:List Nat) (F:be):Sp:=fun vs H Q E=>∃Φ os D,ORepL K ct Φ H vs os D/\D.Nodup/\(∀a∈D,¬Φ a)/\(∀a,Φ a->H a≠none)/\match F os with
 | .ok r outs=>∀v H' Φ' Dr Do,FPost K ct io Φ H vs D r outs v H' Φ' Dr Do->Q v H'
 | .ex _ _=>False
 | .no=>False
def oM (io:List Nat) (S:Env):Env:=io.map fun i=>S[i]?.join
def kC (n:Nat) (os:List OV):Env:=os.map some++List.replicate (n - os.length) none
def hI (io:List Nat):Out Fl->Out OV
 | .ok (.rt o) S=>.ok o (oM io S)
 | .ok .nx S=>.ok (.fz .none) (oM io S)
 | .ok .bk _=>.no
 | .ok .ct _=>.no
 | .ex e S=>.ex e (oM io S)
 | .no=>.no
def cm (np n:Nat) (io:List Nat) (g:Sf):be:=fun os=>if os.length=np then hI io (g (kC n os)) else .no
section
variable {K:PySem.W.Frag} {ct:Tw.Ct} {E:Exn->St->Hp->Prop} {B:Hp} {X:List Addr} {Φ0:Addr->Prop} {σ:St} {W W' W1:Wd} {H:Hp} {i j:Nat} {x:Val} {v:V} {js wr wr1 wr2 pin io:List Nat} {o r:OV} {f g:Sf} {a b:Ef} {F:be} {np n:Nat}
theorem Eu {Φ:Addr->Prop}:∀{vs:List V} {os:List OV} {D:List Addr},ORepL K ct Φ H vs os D->D.Nodup->∃Fs:Nat->List Addr,(∀(i:Nat) o,os[i]?=some o->∃v,vs[i]?=some v/\aR K ct Φ H v o (Fs i))/\(∀i,os.length<=i->Fs i=[])/\(∀i a,a∈Fs i->a∈D)/\(∀i,(Fs i).Nodup)/\(∀i j a,a∈Fs i->a∈Fs j->i=j)/\vs.length=os.length
 | [],[],D,_,_=>⟨fun _=>[],fun i o h=>by simp at h,fun _ _=>rfl,fun _ _ h=>(nomatch h),fun _=>b5,fun _ _ _ h=>(nomatch h),rfl⟩
 | v :: vs, o :: os, D, h, nd => by
  obtain⟨F1,F2,rfl,h1,h2⟩:=h;obtain⟨n1,n2,n3⟩:=cA.mp nd;obtain⟨Fs,a1,a2,a3,a4,a5,a6⟩:=Eu h2 n2;refine⟨fun|0=>F1|i+1=>Fs i,fun i o' hi=>?_,fun i hi=>?_,fun i a ha=>?_,fun i=>?_,fun i j a ha hb=>?_,by rw[cR,cR,a6]⟩
  ·cases i with
   | zero=>simp at hi; subst hi; exact⟨v,rfl,h1⟩
   | succ i=>simpa using a1 i o' (by simpa using hi)
  ·cases i with
   | zero=>simp at hi
   | succ i=>exact a2 i (by simpa using hi)
  ·cases i with
   | zero=>exact au _ ha
   | succ i=>exact aJ _ (a3 i a ha)
  ·cases i with
   | zero=>exact n1
   | succ i=>exact a4 i
  ·cases i with
   | zero=>cases j with
    | zero=>rfl
    | succ j=>exact absurd rfl (n3 a ha a (a3 j a hb))
   | succ i=>cases j with
    | zero=>exact absurd rfl (n3 a hb a (a3 i a ha))
    | succ j=>exact congrArg _ (a5 i j a ha hb)
 | [],_::_,_,h,_=>h.elim
 | _::_,[],_,h,_=>h.elim
theorem lZ {Φ:Addr->Prop}:∀{vs:List V} {os:List OV} {D:List Addr},ORepL K ct Φ H vs os D->vs.length=os.length
 | [],[],_,_=>rfl
 | _::_,_::_,_,h=>by
  obtain⟨F1,F2,rfl,h1,h2⟩:=h;rw[cR,cR,lZ h2]
 | [],_::_,_,h=>h.elim
 | _::_,[],_,h=>h.elim
theorem AA:∀vs H Q E,bh K ct io (cm np n io g) vs H Q E->vs.length=np:=fun vs H Q E h=>by
 obtain⟨Φ,os,D,h1,_,_,_,h2⟩:=h;rw[lZ h1];unfold cm at h2
 by_cases e:os.length=np
 ·exact e
 ·rw[if_neg e] at h2; exact h2.elim
theorem RC {N:List Str} {vs:List V} {Q:VK} {EE:XK} (hN:N.length=n) (hp:np<=n) (hio:∀i∈io,i∈pin) (hlt:∀i∈io,i<np) (hnd:io.Nodup) (h:bh K ct io (cm np n io g) vs H Q EE):tS K ct E0 pin g wr { nx:=fun _ H'=>Q .non H',rt:=Q } (L2.start N vs) H:=by
 obtain⟨Φ,os,D,h1,nd,np',pl,h2⟩:=h;unfold cm at h2
 by_cases e:os.length=np
 case neg=>rw[if_neg e] at h2; exact h2.elim
 rw[if_pos e] at h2;obtain⟨Fs,a1,a2,a3,a4,a5,a6⟩:=Eu h1 nd;have live:=ORepL.live os h1
 let W:Wd:={ S:=kC n os,Fs:=Fs,Φ:=Φ,H:=H }
 have hS:∀(i:Nat) o,(kC n os)[i]?=some (some o)->os[i]?=some o:=fun i o h=>by
  unfold kC at h
  by_cases hi:i<os.length
  ·rw[u5 (by rw[aT]; exact hi),cB] at h
   cases q:os[i]? with
   | none=>rw[q] at h; cases h
   | some y=>rw[q] at h; exact congrArg some (Option.some.inj (Option.some.inj h))
  ·rw[List.getElem?_append_right (by rw[aT]; omega),List.getElem?_replicate] at h;split at h
   ·cases h
   ·cases h
 have hvl:∀(i:Nat) v,vs[i]?=some v->(L2.start N vs)[i]?=some (some v):=fun i v h=>by
  unfold L2.start
  have hi:i<vs.length:=by
   rcases kj i vs.length with z|z
   ·exact z
   ·rw[gB z] at h; cases h
  rw[u5 (by rw[aT]; exact hi),cB,h]<;>rfl
 have s:Sat K ct H D Φ (L2.start N vs) W:=by
  refine⟨?_,fun i o h=>?_,fun i h=>?_,a4,a5,fun i a h=>np' a (a3 i a h),fun i a h=>.inr (a3 i a h),fun b o h _=>h,fun b h=>h,pl,fun a h=>.inl h,fun a h=>?_⟩
  ·show(L2.start N vs).length=(kC n os).length
   unfold L2.start kC;rw[cX,cX,aT,aT,xQ,xQ,a6,hN]
  ·obtain⟨v,h1,h2⟩:=a1 i o (hS i o h);exact⟨v,hvl i v h1,h2⟩
  ·by_cases hi:i<os.length
   ·refine absurd ?_ (h os[i])
    show(kC n os)[i]?=_
    unfold kC;rw[u5 (by rw[aT]; exact hi),cB,c8 hi]<;>rfl
   ·exact a2 i (by omega)
  ·obtain⟨u,e,_⟩:=live a h
   rw[e]; exact fun z=>nomatch z
 -- what the end has
 have fin:∀{σ':St} {W':Wd} {v:V} {o:OV} {Dr:List Addr},b4 pin (L2.start N vs) σ'->Sat K ct H D Φ σ' W'->Step wr W W'->Tmp K ct [] wr W W' v o Dr->FPost K ct io Φ H vs D o (oM io W'.S) v W'.H W'.Φ Dr (fun j=>match io[j]? with|some i=>W'.Fs i|none=>[]):=fun {σ' W' v o Dr} p s' st t=>by
  have hget:∀(j:Nat) a,a∈(match io[j]? with|some i=>W'.Fs i|none=>[])->∃i,io[j]?=some i/\a∈W'.Fs i:=fun j a h=>by
   cases q:io[j]? with
   | none=>rw[q] at h; cases h
   | some i=>rw[q] at h; exact⟨i,rfl,h⟩
  have own:∀a,H a=none\/a∈D->a∈D\/H a=none:=fun a h=>h.symm
  refine⟨fun b u h n=>s'.old b u h n,fun b h=>s'.lv b h,st.ph,fun a h=>(s'.phn a h),s'.phl,t.rep,fun j i o' hi ho=>?_,t.nd,fun j=>?_,fun i j a h1 h2=>?_,fun a ha j hj=>?_,fun a h=>?_⟩
  ·have hi':i∈io:=fP hi;unfold oM at ho;rw[cB,hi] at ho;have ho:W'.S[i]?.join=some o':=Option.some.inj ho
   have ho2:W'.S[i]?=some (some o'):=by
    cases q:W'.S[i]? with
    | none=>rw[q] at ho; cases ho
    | some y=>rw[q] at ho; exact congrArg some ho
   obtain⟨w,h1,h2⟩:=s'.sl i o' ho2;rw[p i (hio i hi')] at h1
   have hlt':i<vs.length:=by rw[a6,e]; exact hlt i hi'
   have hv:vs[i]?=some vs[i]:=c8 hlt';rw[hvl i _ hv] at h1;have ew:vs[i]=w:=Option.some.inj (Option.some.inj h1);refine⟨w,by rw[hv,ew],?_⟩
   show aR K ct W'.Φ W'.H w o' (match io[j]? with|some i=>W'.Fs i|none=>[])
   rw[hi];exact h2
  ·cases q:io[j]? with
   | none=>exact b5
   | some i=>exact s'.nd i
  ·obtain⟨k1,e1,m1⟩:=hget i a h1;obtain⟨k2,e2,m2⟩:=hget j a h2;have ek:=s'.dj k1 k2 a m1 m2;subst ek;exact nd_ix hnd e1 e2
  ·obtain⟨k,_,m⟩:=hget j a hj
   cases t.dj a ha k m
  ·rcases h with h|⟨j,h⟩
   ·refine⟨t.nph a h,?_⟩;exact(t.owner s a h).symm
   ·obtain⟨k,_,m⟩:=hget j a h;exact⟨s'.nph k a m,(s'.own k a m).symm⟩
 refine fT.mpr ⟨H,D,Φ,W,rfl,s,?_⟩
 have h2:match hI io (g W.S) with|.ok r outs=>∀v H' Φ' Dr Do,FPost K ct io Φ H vs D r outs v H' Φ' Dr Do->Q v H'|.ex _ _=>False|.no=>False:=h2
 match g W.S,h2 with
 | .ok .nx S',h2 =>
  intro σ' W' p s' e' st;subst e';exact h2 .non W'.H W'.Φ [] _ (fin p s' st (iy (x:=.none) rfl))
 | .ok (.rt o) S',h2 =>
  intro σ' v W' D' p s' e' st t;subst e';exact h2 v W'.H W'.Φ D' _ (fin p s' st t)
abbrev Cf:=Env->Out (List OV)
def aS:Cf:=fun S=>.ok [] S
def cK (k:Nat) (g:Cf):Cf:=fun S=>(cP k S).bind fun o S1=>(g S1).bind fun os S2=>.ok (o::os) S2
def aq (js:List Nat) (a:Ef) (g:Cf):Cf:=fun S=>(a S).bind fun o S1=>(Out.of (aI js o) S1).bind fun x S2=>(g S2).bind fun os S3=>.ok (.fz x::os) S3
structure TmpL (K:PySem.W.Frag) (ct:Tw.Ct) (wr:List Nat) (W W':Wd) (vs:List V) (os:List OV) (D:List Addr):Prop where
 rep:ORepL K ct W'.Φ W'.H vs os D
 nd:D.Nodup
 nph:∀a∈D,¬W'.Φ a
 dj:∀a∈D,∀k,a∉W'.Fs k
 src:∀a∈D,Own W.Fs wr a\/W.H a=none
def eD (K:PySem.W.Frag) (ct:Tw.Ct) (E:Exn->St->Hp->Prop) (f:Cf) (ks:List (Option Nat)) (wr:List Nat):TA:=fun σ H Q=>∃B X Φ0 W,W.H=H/\Sat K ct B X Φ0 σ W/\match f W.S with
 | .ok os S'=>∀vs W' D,Sat K ct B X Φ0 σ W'->W'.S=S'->Step wr W W'->TmpL K ct wr W W' vs os D->(∀(i k:Nat),ks[i]?=some (some k)->∃v,vs[i]?=some v/\σ[k]?=some (some v))->Q vs W'.H
 | .ex e S'=>∀W',Sat K ct B X Φ0 σ W'->W'.S=S'->Step wr W W'->E e σ W'.H
 | .no=>False
theorem Rx {Q:List V->Hp->Prop} (q:eD K ct E aS [] [] σ H Q):tNil σ H Q:=by
 obtain⟨B,X,Φ0,W,rfl,s,q⟩:=q
 exact q [] W [] s rfl (Step.refl W) ⟨rfl,b5,fun _ z=>(nomatch z),fun _ z=>(nomatch z),fun _ z=>(nomatch z)⟩ fun i k h=>by simp at h
theorem Rz {k:Nat} {g:Cf} {ks:List (Option Nat)} {Q:List V->Hp->Prop} (q:eD K ct E (cK k g) (some k::ks) ([k]++wr) σ H Q):tCons (tVar k) (eD K ct E g ks wr) σ H Q:=by
 obtain⟨B,X,Φ0,W,rfl,s,q⟩:=q;unfold cK cP at q
 cases h:W.S[k]? with
 | none=>rw[h] at q; exact q.elim
 | some y =>
  cases y with
  | none=>rw[h] at q; exact q.elim
  | some o =>
   rw[h,Out.bind_ok] at q;obtain⟨v,h1,h2⟩:=s.sl k o h;have sf:=s.forget k;have tf:=zp W k
   have t1:Tmp K ct [] [k] W { W with S:=W.S.set k none,Fs:=bv W.Fs k [] } v o (W.Fs k):=⟨h2,s.nd k,s.nph k,fun a ha j hj=>by
    have hj:a∈bv W.Fs k [] j:=hj
    by_cases e:j=k
    ·subst e; rw[eX] at hj; cases hj
    ·rw[b7 e] at hj; exact absurd (s.dj k j a ha hj).symm e,fun a ha=>.inl ⟨k,ao ..,ha⟩⟩
   refine⟨v,h1,B,X,Φ0,{ W with S:=W.S.set k none,Fs:=bv W.Fs k [] },rfl,sf,?_⟩
   show match g (W.S.set k none) with|.ok os S'=>_|.ex e S'=>_|.no=>False
   cases hg:g (W.S.set k none) with
   | no=>rw[hg] at q; exact q.elim
   | ex e S'=>rw[hg] at q; exact fun W' s' e' a'=>q W' s' e' (tf.trans a')
   | ok os S' =>
    rw[hg] at q;intro vs W2 D2 s2 e2 a2 t2 hk
    have t1':=t1.step sf tf a2 fun _ z=>nomatch z
    refine q (v::vs) W2 (W.Fs k++D2) s2 e2 (tf.trans a2) ⟨⟨W.Fs k,D2,rfl,t1'.rep,t2.rep⟩,cA.mpr ⟨s.nd k,t2.nd,fun a ha b hb e=>?_⟩,fun a ha=>?_,fun a ha j hj=>?_,fun a ha=>?_⟩ fun i j hi=>?_
    ·subst e
     rcases t2.src a hb with z|z
     ·obtain⟨j,_,z⟩:=z
      cases t1.dj a ha j z
     ·obtain⟨u,e,_⟩:=s.liveF ha;exact(nomatch (show W.H a=none from z).symm.trans e)
    ·exact(bc.mp ha).elim (t1'.nph a) (t2.nph a)
    ·rcases bc.mp ha with z|z
     ·cases t1'.dj a z j hj
     ·exact t2.dj a z j hj
    ·rcases bc.mp ha with z|z
     ·exact .inl ⟨k,au _ (ao ..),z⟩
     ·rcases t2.src a z with z|z
      ·exact(tf.own z)
      ·exact .inr z
    ·cases i with
     | zero=>cases hi; exact⟨v,rfl,h1⟩
     | succ i=>simpa using hk i j (by simpa using hi)
theorem RA {a:Ef} {g:Cf} {ks:List (Option Nat)} {Q:List V->Hp->Prop} (q:eD K ct E (aq js a g) (none::ks) (wr1++wr2) σ H Q):tCons (tE K ct E a js wr1) (eD K ct E g ks wr2) σ H Q:=by
 obtain⟨B,X,Φ0,W,rfl,s,q⟩:=q;unfold aq at q;refine⟨B,X,Φ0,W,rfl,s,?_⟩
 cases ha:a W.S with
 | no=>rw[ha] at q; exact q.elim
 | ex e S'=>rw[ha] at q; exact fun W' s' e' a'=>q W' s' e' (a'.mono fun k hk=>au _ hk)
 | ok o S1 =>
  rw[ha] at q;intro v W1 D1 s1 e1 a1 t1;subst e1;rw[Out.bind_ok] at q
  cases hx:aI js o with
  | none=>rw[hx] at q; exact q.elim
  | some x =>
   rw[hx,Out.of_some,Out.bind_ok] at q;obtain⟨Φ',s1',a1',v1⟩:=jt s s1 a1 t1 hx;refine⟨B,X,Φ0,{ W1 with Φ:=Φ' },rfl,s1',?_⟩
   show match g W1.S with|.ok r S'=>_|.ex e S'=>_|.no=>False
   cases hb:g W1.S with
   | no=>rw[hb] at q; exact q.elim
   | ex e S'=>rw[hb] at q; exact fun W' s' e' a'=>q W' s' e' (a1'.trans a')
   | ok os S2 =>
    rw[hb] at q;intro vs W2 D2 s2 e2 a2 t2 hk
    refine q (v::vs) W2 D2 s2 e2 (a1'.trans a2) ⟨⟨[],D2,rfl,⟨v1.keep a2.ph (s1'.keeps a2) x,rfl⟩,t2.rep⟩,t2.nd,t2.nph,t2.dj,fun a ha=>?_⟩ fun i j hi=>?_
    ·rcases t2.src a ha with z|z
     ·exact a1'.own z
     ·exact .inr (ja a1' z)
    ·cases i with
     | zero=>cases hi
     | succ i=>simpa using hk i j (by simpa using hi)
def jy:List (Option Nat)->Env->Env->Env
 | some k::ks,o::os,S=>jy ks os (S.set k o)
 | none::ks,_::os,S=>jy ks os S
 | _,_,S=>S
def ke (ks:List (Option Nat)) (io:List Nat):List (Option Nat):=io.map fun i=>ks[i]?.join
def bo (F:be) (fa:Cf) (ks:List (Option Nat)) (io:List Nat):Ef:=fun S=>(fa S).bind fun os S1=>match F os with
 | .ok r outs=>.ok r (jy (ke ks io) outs S1)
 | .ex _ _=>.no
 | .no=>.no
theorem Sat.back (s:Sat K ct B X Φ0 σ W) {k:Nat} {o:Option OV} {D:List Addr} (hv:σ[k]?=some (some v)) (hr:∀y,o=some y->aR K ct W.Φ W.H v y D) (hn:o=none->D=[]) (hd:D.Nodup) (hp:∀a∈D,¬W.Φ a) (hj:∀a∈D,∀j,a∉W.Fs j) (ho:∀a∈D,B a=none\/a∈X) :
  Sat K ct B X Φ0 σ { W with S:=W.S.set k o,Fs:=bv W.Fs k D }:=by
 have hk:k<W.S.length:=by
  rw[←s.len]
  rcases kj k σ.length with z|z
  ·exact z
  ·rw[gB z] at hv; cases hv
 cases o with
 | none=>rw[hn rfl]; exact s.forget k
 | some y =>
  have z:=s.put (i:=k) (hr y rfl) hd hp (fun a ha j h=>absurd h (hj a ha j)) ho hk;rw[zA hv] at z;exact z
theorem zH {vs:List V} {Do:Nat->List Addr}:∀(ks:List (Option Nat)) (outs:Env) (m:Nat) {W:Wd},Sat K ct B X Φ0 σ W ->
  (∀(j k:Nat),ks[j]?=some (some k)->∃v,σ[k]?=some (some v)/\∀y,outs[j]?=some (some y)->aR K ct W.Φ W.H v y (Do (m+j)))->(∀j:Nat,(∀y,outs[j]?≠some (some y))->Do (m+j)=[])->(∀j,(Do j).Nodup)->(∀j a,a∈Do j->¬W.Φ a) ->
  (∀j a,a∈Do (m+j)->∀k,a∉W.Fs k)->(∀i j a,a∈Do i->a∈Do j->i=j)->(∀j a,a∈Do j->B a=none\/a∈X) ->
  ∃W',Sat K ct B X Φ0 σ W'/\W'.S=jy ks outs W.S/\W'.H=W.H/\W'.Φ=W.Φ/\(∀k,(∀j:Nat,ks[j]?≠some (some k))->W'.Fs k=W.Fs k)/\∀k a,a∈W'.Fs k->a∈W.Fs k\/∃j,a∈Do (m+j)
 | [],outs,m,W,s,_,_,_,_,_,_,_=>⟨W,s,rfl,rfl,rfl,fun _ _=>rfl,fun _ _ h=>.inl h⟩
 | some k::ks,[],m,W,s,_,_,_,_,_,_,_=>⟨W,s,rfl,rfl,rfl,fun _ _=>rfl,fun _ _ h=>.inl h⟩
 | none::ks,[],m,W,s,_,_,_,_,_,_,_=>⟨W,s,rfl,rfl,rfl,fun _ _=>rfl,fun _ _ h=>.inl h⟩
 | none :: ks, o :: outs, m, W, s, h1, h2, h3, h4, h5, h6, h7 => by
  obtain⟨W',a1,a2,a3,a4,a5,a6⟩:=zH (vs:=vs) ks outs (m+1) s (fun j k h=>by
   obtain⟨v,e,r⟩:=h1 (j+1) k (by simpa using h)
   exact⟨v,e,fun y hy=>by rw[pz]; exact r y (by simpa using hy)⟩) (fun j h=>by
   rw[pz]; exact h2 (j+1) (by simpa using h)) h3 h4 (fun j a ha=>h5 (j+1) a (by rw[←Nat.add_assoc,Nat.add_right_comm]; exact ha)) h6 h7
  refine⟨W',a1,a2,a3,a4,fun k hk=>a5 k fun j=>by simpa using hk (j+1),fun k a ha=>?_⟩
  rcases a6 k a ha with z|⟨j,z⟩
  ·exact .inl z
  ·exact .inr ⟨j+1,by rw[←Nat.add_assoc,pz]; exact z⟩
 | some k0 :: ks, o :: outs, m, W, s, h1, h2, h3, h4, h5, h6, h7 => by
  obtain⟨v,hv,hr⟩:=h1 0 k0 rfl;have s1:=s.back (k:=k0) (o:=o) (D:=Do m) hv (fun y hy=>hr y (by rw[hy]; rfl)) (fun hn=>h2 0 fun y z=>by rw[hn] at z; cases z) (h3 m) (fun a ha=>h4 m a ha) (fun a ha j=>h5 0 a ha j) (fun a ha=>h7 m a ha)
  obtain⟨W',a1,a2,a3,a4,a5,a6⟩:=zH (vs:=vs) ks outs (m+1) s1 (fun j k h=>by
   obtain⟨v,e,r⟩:=h1 (j+1) k (by simpa using h)
   exact⟨v,e,fun y hy=>by rw[pz]; exact r y (by simpa using hy)⟩) (fun j h=>by
   rw[pz]; exact h2 (j+1) (by simpa using h)) h3 h4 (fun j a ha k hk=>by
   have hk:a∈bv W.Fs k0 (Do m) k:=hk
   by_cases e:k=k0
   ·subst e;rw[eX] at hk;have:=h6 _ _ a hk ha;omega
   ·rw[b7 e] at hk
    exact h5 (j+1) a (by rw[←Nat.add_assoc,pz]; exact ha) k hk) h6 h7
  refine⟨W',a1,a2,a3,a4,fun k hk=>?_,fun k a ha=>?_⟩
  ·rw[a5 k fun j=>by simpa using hk (j+1)]
   exact b7 fun z=>hk 0 (by rw[z]; rfl)
  ·rcases a6 k a ha with z|⟨j,z⟩
   ·have z:a∈bv W.Fs k0 (Do m) k:=z
    by_cases e:k=k0
    ·subst e; rw[eX] at z; exact .inr ⟨0,z⟩
    ·rw[b7 e] at z; exact .inl z
   ·exact .inr ⟨j+1,by rw[←Nat.add_assoc,pz]; exact z⟩
theorem zY {k:Nat}:∀(ks:List (Option Nat)) (outs S:Env),(∀j:Nat,ks[j]?≠some (some k))->(jy ks outs S)[k]?=S[k]?
 | [],_,_,_=>rfl
 | some i::ks,[],_,_=>rfl
 | none::ks,[],_,_=>rfl
 | none::ks,o::outs,S,h=>zY ks outs S fun j=>by simpa using h (j+1)
 | some i::ks,o::outs,S,h=>by
  have e:i≠k:=fun z=>h 0 (by rw[z]; rfl)
  show(jy ks outs (S.set i o))[k]?=_
  rw[zY ks outs _ fun j=>by simpa using h (j+1),cG e]
theorem xH {io:List Nat} {ks:List (Option Nat)} {vs:List V} {os:List OV} {Da:List Addr} {Q:VK} {W0:Wd} {EE:XK} (s0:Sat K ct B X Φ0 σ W0) (s:Sat K ct B X Φ0 σ W) (a:Step wr W0 W) (t:TmpL K ct wr W0 W vs os Da) (hk:∀(i k:Nat),ks[i]?=some (some k)->∃v,vs[i]?=some v/\σ[k]?=some (some v))
  (q:match F os with
   | .ok r outs=>∀v W' D,Sat K ct B X Φ0 σ W'->W'.S=jy (ke ks io) outs W.S->Step (wr++ks.filterMap id) W0 W'->Tmp K ct [] (wr++ks.filterMap id) W0 W' v r D->Q v W'.H
   | .ex _ _=>False
   | .no=>False):bh K ct io F vs W.H Q EE:=by
 refine⟨W.Φ,os,Da,t.rep,t.nd,t.nph,s.phl,?_⟩
 cases hF:F os with
 | no=>rw[hF] at q; exact q.elim
 | ex e outs=>rw[hF] at q; exact q.elim
 | ok r outs =>
  rw[hF] at q;intro v H' Φ' Dr Do P;have live:=ORepL.live os t.rep
  -- the world behind the call
  have nD:∀i a,a∈W.Fs i->a∉Da:=fun i a h z=>t.dj a z i h
  have kp:cg W.Φ W.H H':=fun b u h p=>by
   refine⟨u,P.fr b u h fun z=>?_,.inl rfl⟩
   rcases p with p|p
   ·exact t.nph b z p
   ·obtain⟨u',e,n⟩:=live b z;rw[h] at e; cases e; exact n p
  have owner:∀x∈Da,B x=none\/x∈X:=fun x hx=>by
   rcases t.src x hx with⟨k,_,z⟩|z
   ·exact s0.own k x z
   ·left
    cases e:B x with
    | none=>rfl
    | some u=>exact absurd z (s0.lv x (by rw[e]; exact fun z=>nomatch z))
  have fresh:∀x,W.H x=none->B x=none:=fun x z=>by
   cases e:B x with
   | none=>rfl
   | some u=>exact absurd z (s.lv x (by rw[e]; exact fun z=>nomatch z))
  have s1:Sat K ct B X Φ0 σ { W with Φ:=Φ',H:=H' }:=by
   refine⟨s.len,fun i o h=>?_,s.em,s.nd,s.dj,fun i x h z=>?_,s.own,fun b o h n=>?_,fun b h=>P.lv b (s.lv b h),P.phl,fun x h=>?_,s.xl⟩
   ·obtain⟨v,h1,h2⟩:=s.sl i o h
    exact⟨v,h1,h2.keep P.ph kp o fun b hb=>by
     obtain⟨u,e,_⟩:=h2.live o b hb
     rw[e,P.fr b u e (nD i b hb)]⟩
   ·rcases P.pn x z with z|z|z
    ·exact s.nph i x h z
    ·exact nD i x h z
    ·obtain⟨u,e,_⟩:=s.liveF h;exact(nomatch (show W.H x=none from z).symm.trans e)
   ·exact P.fr b o (s.old b o h n) fun z=>(owner b z).elim (fun e=>by rw[h] at e; cases e) n
   ·rcases P.pn x h with z|z|z
    ·exact s.phn x z
    ·exact .inr ((owner x z).symm)
    ·exact .inr (.inr (fresh x z))
  have st1:∀b u,W0.H b=some u->¬Own W0.Fs wr b->H' b=some u:=fun b u h n=>by
   refine P.fr b u (a.fr b u h n) fun z=>?_
   rcases t.src b z with z|z
   ·exact n z
   ·rw[h] at z; cases z
  have Fo:∀x,x∈Dr\/(∃j,x∈Do j)->(x∈Da\/W.H x=none):=fun x h=>(P.src x h).2
  have Fn:∀x,x∈Dr\/(∃j,x∈Do j)->∀k,x∉W.Fs k:=fun x h k z=>by
   rcases Fo x h with y|y
   ·exact nD k x z y
   ·obtain⟨u,e,_⟩:=s.liveF z;exact(nomatch y.symm.trans e)
  have Fs0:∀x,x∈Dr\/(∃j,x∈Do j)->Own W0.Fs wr x\/W0.H x=none:=fun x h=>by
   rcases Fo x h with y|y
   ·exact t.src x y
   ·exact .inr (ja a y)
  have Fw:∀x,x∈Dr\/(∃j,x∈Do j)->B x=none\/x∈X:=fun x h=>by
   rcases Fo x h with y|y
   ·exact owner x y
   ·exact .inl (fresh x y)
  let Do':Nat->List Addr:=fun j=>match outs[j]? with
   | some (some _)=>Do j
   | _=>[]
  have dsub:∀j x,x∈Do' j->x∈Do j:=fun j x h=>by
   have h:x∈(match outs[j]? with|some (some _)=>Do j|_=>[]):=h;split at h
   ·exact h
   ·cases h
  have hb:∀(j k:Nat),(ke ks io)[j]?=some (some k)->∃i,io[j]?=some i/\ks[i]?=some (some k):=fun j k h=>by
   unfold ke at h;rw[cB] at h
   cases e:io[j]? with
   | none=>rw[e] at h; cases h
   | some i =>
    rw[e] at h;have h:ks[i]?.join=some k:=Option.some.inj h
    cases e2:ks[i]? with
    | none=>rw[e2] at h; cases h
    | some y=>rw[e2] at h; exact⟨i,rfl,by rw[show y=some k from h] at e2; exact e2⟩
  obtain⟨W2,s2,e2,eh,ep,ef,en⟩:=zH (vs:=vs) (Do:=Do') (ke ks io) outs 0 s1 (fun j k h=>by
    obtain⟨i,h1,h2⟩:=hb j k h;obtain⟨w,h3,h4⟩:=hk i k h2;refine⟨w,h4,fun y hy=>?_⟩;obtain⟨w',h5,h6⟩:=P.out j i y h1 hy;rw[h3] at h5;have ew:w=w':=Option.some.inj h5;subst ew
    show aR K ct Φ' H' w y (Do' (0+j))
    rw[nW]
    show aR K ct Φ' H' w y (match outs[j]? with|some (some _)=>Do j|_=>[])
    rw[hy]
    exact h6) (fun j h=>by
    rw[nW]
    show(match outs[j]? with|some (some _)=>Do j|_=>[])=[]
    split
    ·rename_i y hy; exact absurd hy (h y)
    ·rfl) (fun j=>by
    show(match outs[j]? with|some (some _)=>Do j|_=>[]).Nodup
    split
    ·exact P.ndo j
    ·exact b5) (fun j x h=>(P.src x (.inr ⟨j,dsub j x h⟩)).1) (fun j x h k=>Fn x (.inr ⟨_,dsub _ x h⟩) k) (fun i j x h1 h2=>P.dj i j x (dsub i x h1) (dsub j x h2)) (fun j x h=>Fw x (.inr ⟨j,dsub j x h⟩))
  have hks:∀(j k:Nat),(ke ks io)[j]?=some (some k)->k∈ks.filterMap id:=fun j k h=>by
   obtain⟨i,_,h2⟩:=hb j k h;exact List.mem_filterMap.mpr ⟨some k,fP h2,rfl⟩
  have eh':H'=W2.H:=eh.symm;rw[eh'];refine q v W2 Dr s2 e2 ⟨fun b u h n=>?_,fun b h=>?_,fun x h=>?_,fun x h=>?_,fun k hk'=>?_,fun k x h=>?_,fun k hk'=>?_⟩ ⟨?_,P.nd,fun x h=>?_,fun x h k z=>?_,fun x h=>?_⟩
  ·rw[eh]; exact st1 b u h fun z=>n (eG.mpr (.inl z))
  ·rw[eh]; exact P.lv b (a.lv b h)
  ·rw[ep]; exact P.ph x (a.ph x h)
  ·rw[ep] at h
   rcases P.pn x h with z|z|z
   ·exact(a.pn x z).imp id (Or.imp (fun z=>eG.mpr (.inl z)) id)
   ·rcases t.src x z with y|y
    ·exact .inr (.inl (eG.mpr (.inl y)))
    ·exact .inr (.inr y)
   ·exact .inr (.inr (ja a z))
  ·rw[bc,not_or] at hk';rw[ef k fun j z=>hk'.2 (hks j k z)];exact a.kf k hk'.1
  ·rcases en k x h with z|⟨j,z⟩
   ·exact(a.nf k x z).imp id (Or.imp (fun z=>eG.mpr (.inl z)) id)
   ·rcases Fs0 x (.inr ⟨_,dsub _ x z⟩) with y|y
    ·exact .inr (.inl (eG.mpr (.inl y)))
    ·exact .inr (.inr y)
  ·rw[bc,not_or] at hk';rw[e2,zY _ _ _ fun j z=>hk'.2 (hks j k z)];exact a.ks k hk'.1
  ·rw[eh,ep]; exact P.rep
  ·rw[ep]; exact(P.src x (.inl h)).1
  ·rcases en k x z with y|⟨j,y⟩
   ·exact absurd y (Fn x (.inl h) k)
   ·exact absurd (dsub _ x y) (P.djr x h _)
  ·rcases Fs0 x (.inl h) with y|y
   ·exact .inl (eG.mpr (.inl y))
   ·exact .inr (.inr y)
theorem KR {fa:Cf} {ks:List (Option Nat)} {Q:VK} {EE:XK} (q:tE K ct E (bo F fa ks io) [] (wr++ks.filterMap id) σ H Q):tCall (bh K ct io F) [] EE (eD K ct E fa ks wr) σ H Q:=by
 obtain⟨B,X,Φ0,W,rfl,s,q⟩:=q;unfold bo at q;refine⟨B,X,Φ0,W,rfl,s,?_⟩
 cases ha:fa W.S with
 | no=>rw[ha] at q; exact q.elim
 | ex e S'=>rw[ha] at q; exact fun W' s' e' a'=>q W' s' e' (a'.mono fun k hk=>au _ hk)
 | ok os S1 =>
  rw[ha,Out.bind_ok] at q;intro vs W1 D1 s1 e1 a1 t1 hk;subst e1;rw[b6];refine xH s s1 a1 t1 hk ?_
  cases hF:F os with
  | no=>rw[hF] at q; exact q.elim
  | ex e outs=>rw[hF] at q; exact q.elim
  | ok r outs=>rw[hF] at q; exact q
end
end Mp
namespace Mp
open PySem L2
mutual
def Val.beq:Val->Val->Bool
 | .none,.none=>true
 | .bool a,.bool b=>a==b
 | .int a,.int b=>a==b
 | .str a,.str b=>decide (a=b)
 | .tup a,.tup b=>Val.beqL a b
 | .lst a,.lst b=>Val.beqL a b
 | .dict a,.dict b=>Val.beqP a b
 | .obj c a,.obj d b=>decide (c=d) && Val.beqF a b
 | .scr a,.scr b=>decide (a=b)
 | _,_=>false
def Val.beqL:List Val->List Val->Bool
 | [],[]=>true
 | a::as,b::bs=>Val.beq a b && Val.beqL as bs
 | _,_=>false
def Val.beqP:List (Val×Val)->List (Val×Val)->Bool
 | [],[]=>true
 | (k,a)::as,(j,b)::bs=>Val.beq k j && Val.beq a b && Val.beqP as bs
 | _,_=>false
def Val.beqF:List (Str×Val)->List (Str×Val)->Bool
 | [],[]=>true
 | (k,a)::as,(j,b)::bs=>decide (k=j) && Val.beq a b && Val.beqF as bs
 | _,_=>false
end
mutual
theorem Val.beq_eq:∀{a b:Val},Val.beq a b=true->a=b
 | .none,.none,_=>rfl
 | .bool a,.bool b,h=>by simp[Val.beq] at h; rw[h]
 | .int a,.int b,h=>by simp[Val.beq] at h; rw[h]
 | .str a,.str b,h=>by simp[Val.beq] at h; rw[h]
 | .tup a,.tup b,h=>by rw[Val.beqL_eq (a:=a) (b:=b) (by simpa [Val.beq] using h)]
 | .lst a,.lst b,h=>by rw[Val.beqL_eq (a:=a) (b:=b) (by simpa [Val.beq] using h)]
 | .dict a,.dict b,h=>by rw[Val.beqP_eq (a:=a) (b:=b) (by simpa [Val.beq] using h)]
 | .obj c a,.obj d b,h=>by
  have h:c=d/\Val.beqF a b=true:=by simpa [Val.beq] using h
  rw[h.1,Val.beqF_eq h.2]
 | .scr a,.scr b,h=>by simp[Val.beq] at h; rw[h]
 | .none,.bool _,h|.none,.int _,h|.none,.str _,h|.none,.tup _,h|.none,.lst _,h|.none,.dict _,h|.none,.obj _ _,h|.none,.scr _,h=>by simp[Val.beq] at h
 | .bool _,.none,h|.bool _,.int _,h|.bool _,.str _,h|.bool _,.tup _,h|.bool _,.lst _,h|.bool _,.dict _,h|.bool _,.obj _ _,h|.bool _,.scr _,h=>by simp[Val.beq] at h
 | .int _,.none,h|.int _,.bool _,h|.int _,.str _,h|.int _,.tup _,h|.int _,.lst _,h|.int _,.dict _,h|.int _,.obj _ _,h|.int _,.scr _,h=>by simp[Val.beq] at h
 | .str _,.none,h|.str _,.bool _,h|.str _,.int _,h|.str _,.tup _,h|.str _,.lst _,h|.str _,.dict _,h|.str _,.obj _ _,h|.str _,.scr _,h=>by simp[Val.beq] at h
 | .tup _,.none,h|.tup _,.bool _,h|.tup _,.int _,h|.tup _,.str _,h|.tup _,.lst _,h|.tup _,.dict _,h|.tup _,.obj _ _,h|.tup _,.scr _,h=>by simp[Val.beq] at h
 | .lst _,.none,h|.lst _,.bool _,h|.lst _,.int _,h|.lst _,.str _,h|.lst _,.tup _,h|.lst _,.dict _,h|.lst _,.obj _ _,h|.lst _,.scr _,h=>by simp[Val.beq] at h
 | .dict _,.none,h|.dict _,.bool _,h|.dict _,.int _,h|.dict _,.str _,h|.dict _,.tup _,h|.dict _,.lst _,h|.dict _,.obj _ _,h|.dict _,.scr _,h=>by simp[Val.beq] at h
 | .obj _ _,.none,h|.obj _ _,.bool _,h|.obj _ _,.int _,h|.obj _ _,.str _,h|.obj _ _,.tup _,h|.obj _ _,.lst _,h|.obj _ _,.dict _,h|.obj _ _,.scr _,h=>by simp[Val.beq] at h
 | .scr _,.none,h|.scr _,.bool _,h|.scr _,.int _,h|.scr _,.str _,h|.scr _,.tup _,h|.scr _,.lst _,h|.scr _,.dict _,h|.scr _,.obj _ _,h=>by simp[Val.beq] at h
theorem Val.beqL_eq:∀{a b:List Val},Val.beqL a b=true->a=b
 | [],[],_=>rfl
 | a::as,b::bs,h=>by
  have h:Val.beq a b=true/\Val.beqL as bs=true:=by simpa [Val.beqL] using h
  rw[Val.beq_eq h.1,Val.beqL_eq h.2]
 | [],_::_,h=>by simp[Val.beqL] at h
 | _::_,[],h=>by simp[Val.beqL] at h
theorem Val.beqP_eq:∀{a b:List (Val×Val)},Val.beqP a b=true->a=b
 | [],[],_=>rfl
 | (k,a)::as,(j,b)::bs,h=>by
  have h:(Val.beq k j=true/\Val.beq a b=true)/\Val.beqP as bs=true:=by simpa [Val.beqP] using h
  rw[Val.beq_eq h.1.1,Val.beq_eq h.1.2,Val.beqP_eq h.2]
 | [],_::_,h=>by simp[Val.beqP] at h
 | _::_,[],h=>by simp[Val.beqP] at h
theorem Val.beqF_eq:∀{a b:List (Str×Val)},Val.beqF a b=true->a=b
 | [],[],_=>rfl
 | (k,a)::as,(j,b)::bs,h=>by
  have h:(k=j/\Val.beq a b=true)/\Val.beqF as bs=true:=by simpa [Val.beqF] using h
  rw[h.1.1,Val.beq_eq h.1.2,Val.beqF_eq h.2]
 | [],_::_,h=>by simp[Val.beqF] at h
 | _::_,[],h=>by simp[Val.beqF] at h
end
mutual
theorem Val.beq_refl:∀(a:Val),Val.beq a a=true
 | .none=>by simp[Val.beq]
 | .bool _=>by simp[Val.beq]
 | .int _=>by simp[Val.beq]
 | .str _=>by simp[Val.beq]
 | .tup a=>by simp[Val.beq,Val.beqL_refl a]
 | .lst a=>by simp[Val.beq,Val.beqL_refl a]
 | .dict a=>by simp[Val.beq,Val.beqP_refl a]
 | .obj c a=>by simp[Val.beq,Val.beqF_refl a]
 | .scr _=>by simp[Val.beq]
theorem Val.beqL_refl:∀(a:List Val),Val.beqL a a=true
 | []=>by simp[Val.beqL]
 | a::as=>by simp[Val.beqL,Val.beq_refl a,Val.beqL_refl as]
theorem Val.beqP_refl:∀(a:List (Val×Val)),Val.beqP a a=true
 | []=>by simp[Val.beqP]
 | (k,a)::as=>by simp[Val.beqP,Val.beq_refl k,Val.beq_refl a,Val.beqP_refl as]
theorem Val.beqF_refl:∀(a:List (Str×Val)),Val.beqF a a=true
 | []=>by simp[Val.beqF]
 | (k,a)::as=>by simp[Val.beqF,Val.beq_refl a,Val.beqF_refl as]
end
instance:DecidableEq Val:=fun a b=>decidable_of_iff (Val.beq a b=true) ⟨Val.beq_eq,fun h=>h▸Val.beq_refl a⟩
def eK {α:Type}:List (Str×α)->Str->Option α
 | [],_=>none
 | (g,x)::r,f=>if g=f then some x else eK r f
def gW {α:Type}:List (Str×α)->Str->α->List (Str×α)
 | [],f,x=>[(f,x)]
 | (g,y)::r,f,x=>if g=f then (g,x)::r else (g,y)::gW r f x
def aG {α:Type}:List (Val×α)->Val->Option α
 | [],_=>none
 | (k,x)::r,j=>if k=j then some x else aG r j
def bJ {α:Type}:List (Val×α)->Val->α->List (Val×α)
 | [],k,x=>[(k,x)]
 | (j,y)::r,k,x=>if j=k then (j,x)::r else (j,y)::bJ r k x
inductive PStep where
 | fld (f:Str)|key (s:Str)|ix (n:Nat)|kk (q:Key)
def fN (ct:Tw.Ct) (H:Hp):List PStep->V->V->Prop
 | [],v,w=>w=v
 | .fld f::p,v,w=>∃a c dx fs v1,v=.ref a/\H a=some (.ins (ct c) dx fs)/\fs.lookup f=some v1/\fN ct H p v1 w
 | .key s::p,v,w=>∃a v1,v=.ref a/\DGet H a (.str s) (some v1)/\fN ct H p v1 w
 | .ix n::p,v,w=>∃a vs v1,v=.ref a/\H a=some (.lst vs)/\vs[n]?=some v1/\fN ct H p v1 w
 | .kk q::p,v,w=>∃a v1,v=.ref a/\DGet H a (kV q) (some v1)/\fN ct H p v1 w
def bZ:List PStep->OV->Option OV
 | [],o=>some o
 | .fld f::p,.obj _ fs=>(eK fs f).bind fun o=>bZ p o
 | .key s::p,.dict kvs=>(aG kvs (.str s)).bind fun o=>bZ p o
 | .ix n::p,.lst os=>(os[n]?).bind fun o=>bZ p o
 | .kk q::p,.dict kvs=>(aG kvs (bM q)).bind fun o=>bZ p o
 | _,_=>none
def cq:List PStep->OV->OV->OV
 | [],_,c=>c
 | .fld f::p,.obj k fs,c=>match eK fs f with
  | some o=>.obj k (gW fs f (cq p o c))
  | none=>.obj k fs
 | .key s::p,.dict kvs,c=>match aG kvs (.str s) with
  | some o=>.dict (bJ kvs (.str s) (cq p o c))
  | none=>.dict kvs
 | .ix n::p,.lst os,c=>match os[n]? with
  | some o=>.lst (os.set n (cq p o c))
  | none=>.lst os
 | .kk q::p,.dict kvs,c=>match aG kvs (bM q) with
  | some o=>.dict (bJ kvs (bM q) (cq p o c))
  | none=>.dict kvs
 | _,o,_=>o
section
variable {K:PySem.W.Frag} {ct:Tw.Ct} {Φ:Addr->Prop} {H H':Hp}
theorem vj : ∀ {vs : List (Str × V)} {fs : List (Str × OV)} {F : List Addr} {f : Str} {o : OV}, ORepF K ct Φ H vs fs F -> F.Nodup -> eK fs f = some o -> ∃ v Fc, vs.lookup f = some v /\ aR K ct Φ H v o Fc /\ (∀ a ∈ Fc, a ∈ F) /\ Fc.Nodup /\
  ∀H' o' Fc',cg Φ H H'->(∀b∈F,b∉Fc->H' b=H b)->aR K ct Φ H' v o' Fc'->Fc'.Nodup->(∀a∈Fc',a∈F->a∈Fc)->∃F',ORepF K ct Φ H' vs (gW fs f o') F'/\F'.Nodup/\∀a∈F',(a∈F/\a∉Fc)\/a∈Fc'
 | [],[],_,_,_,_,_,h=>by cases h
 | (g', v) :: vs, (g, x) :: fs, F, f, o, r, nd, h => by
  obtain⟨F1,F2,rfl,e,r1,r2⟩:=r;have e:g'=g:=e;subst e;obtain⟨n1,n2,n3⟩:=cA.mp nd;unfold eK at h
  by_cases e:g'=f
  ·rw[if_pos e] at h
   cases h
   refine⟨v,F1,by rw[jX]; simp[e],r1,fun a ha=>au _ ha,n1,fun H' o' Fc' kp hk hr hn hd=>?_⟩;refine⟨Fc'++F2,?_,?_,fun a ha=>?_⟩
   ·unfold gW;rw[if_pos e];exact⟨Fc',F2,rfl,rfl,hr,r2.keep (fun _ z=>z) kp fs fun b hb=>hk b (aJ _ hb) fun z=>n3 b z b hb rfl⟩
   ·exact cA.mpr ⟨hn,n2,fun a ha b hb z=>by subst z; exact n3 a (hd a ha (aJ _ hb)) a hb rfl⟩
   ·rcases bc.mp ha with z|z
    ·exact .inr z
    ·exact .inl ⟨aJ _ z,fun y=>n3 a y a z rfl⟩
  ·rw[if_neg e] at h;obtain⟨w,Fc,h1,h2,h3,h4,h5⟩:=vj r2 n2 h
   refine ⟨w, Fc, by rw [jX]; have : (f == g') = false := by simpa using fun z => e z.symm
                     rw[this]; exact h1,h2,fun a ha=>aJ _ (h3 a ha),h4,fun H' o' Fc' kp hk hr hn hd=>?_⟩
   obtain⟨F',g1,g2,g3⟩:=h5 H' o' Fc' kp (fun b hb n=>hk b (aJ _ hb) n) hr hn fun a ha hb=>hd a ha (aJ _ hb)
   refine⟨F1++F',?_,?_,fun a ha=>?_⟩
   ·unfold gW;rw[if_neg e];exact⟨F1,F',rfl,rfl,r1.keep (fun _ z=>z) kp x fun b hb=>hk b (au _ hb) fun z=>n3 b hb b (h3 b z) rfl,g1⟩
   ·refine cA.mpr ⟨n1,g2,fun a ha b hb z=>?_⟩;subst z
    rcases g3 a hb with y|y
    ·exact n3 a ha a y.1 rfl
    ·exact n3 a ha a (h3 a (hd a y (au _ ha))) rfl
   ·rcases bc.mp ha with z|z
    ·exact .inl ⟨au _ z,fun y=>n3 a z a (h3 a y) rfl⟩
    ·rcases g3 a z with y|y
     ·exact .inl ⟨aJ _ y.1,y.2⟩
     ·exact .inr y
 | [],_::_,_,_,_,r,_,_=>r.elim
 | _::_,[],_,_,_,r,_,_=>r.elim
theorem ye:∀{vs:List V} {os:List OV} {F:List Addr} {n:Nat} {o:OV},ORepL K ct Φ H vs os F->F.Nodup->os[n]?=some o->∃v Fc,vs[n]?=some v/\aR K ct Φ H v o Fc/\(∀a∈Fc,a∈F)/\Fc.Nodup /\
  ∀H' o' Fc',cg Φ H H'->(∀b∈F,b∉Fc->H' b=H b)->aR K ct Φ H' v o' Fc'->Fc'.Nodup->(∀a∈Fc',a∈F->a∈Fc)->∃F',ORepL K ct Φ H' vs (os.set n o') F'/\F'.Nodup/\∀a∈F',(a∈F/\a∉Fc)\/a∈Fc'
 | [],[],_,_,_,_,_,h=>by cases h
 | v :: vs, x :: os, F, 0, o, r, nd, h => by
  obtain⟨F1,F2,rfl,r1,r2⟩:=r;obtain⟨n1,n2,n3⟩:=cA.mp nd
  have e:x=o:=by simpa using h
  subst e;refine⟨v,F1,rfl,r1,fun a ha=>au _ ha,n1,fun H' o' Fc' kp hk hr hn hd=>?_⟩;refine⟨Fc'++F2,?_,?_,fun a ha=>?_⟩
  ·exact⟨Fc',F2,rfl,hr,r2.keep (fun _ z=>z) kp os fun b hb=>hk b (aJ _ hb) fun z=>n3 b z b hb rfl⟩
  ·exact cA.mpr ⟨hn,n2,fun a ha b hb z=>by subst z; exact n3 a (hd a ha (aJ _ hb)) a hb rfl⟩
  ·rcases bc.mp ha with z|z
   ·exact .inr z
   ·exact .inl ⟨aJ _ z,fun y=>n3 a y a z rfl⟩
 | v :: vs, x :: os, F, n + 1, o, r, nd, h => by
  obtain⟨F1,F2,rfl,r1,r2⟩:=r;obtain⟨n1,n2,n3⟩:=cA.mp nd
  have h:os[n]?=some o:=by simpa using h
  obtain⟨w,Fc,h1,h2,h3,h4,h5⟩:=ye r2 n2 h;refine⟨w,Fc,by simpa using h1,h2,fun a ha=>aJ _ (h3 a ha),h4,fun H' o' Fc' kp hk hr hn hd=>?_⟩
  obtain⟨F',g1,g2,g3⟩:=h5 H' o' Fc' kp (fun b hb n=>hk b (aJ _ hb) n) hr hn fun a ha hb=>hd a ha (aJ _ hb)
  refine⟨F1++F',?_,?_,fun a ha=>?_⟩
  ·exact⟨F1,F',rfl,r1.keep (fun _ z=>z) kp x fun b hb=>hk b (au _ hb) fun z=>n3 b hb b (h3 b z) rfl,g1⟩
  ·refine cA.mpr ⟨n1,g2,fun a ha b hb z=>?_⟩;subst z
   rcases g3 a hb with y|y
   ·exact n3 a ha a y.1 rfl
   ·exact n3 a ha a (h3 a (hd a y (au _ ha))) rfl
  ·rcases bc.mp ha with z|z
   ·exact .inl ⟨au _ z,fun y=>n3 a z a (h3 a y) rfl⟩
   ·rcases g3 a z with y|y
    ·exact .inl ⟨aJ _ y.1,y.2⟩
    ·exact .inr y
 | [],_::_,_,_,_,r,_,_=>r.elim
 | _::_,[],_,_,_,r,_,_=>r.elim
theorem rB:∀{ps:List (Val×V)} {kvs:List (Val×OV)} {F:List Addr} {k:Val} {o:OV},ORepP K ct Φ H ps kvs F->F.Nodup->aG kvs k=some o->∃v Fc,aG ps k=some v/\aR K ct Φ H v o Fc/\(∀a∈Fc,a∈F)/\Fc.Nodup /\
  ∀H' o' Fc',cg Φ H H'->(∀b∈F,b∉Fc->H' b=H b)->aR K ct Φ H' v o' Fc'->Fc'.Nodup->(∀a∈Fc',a∈F->a∈Fc)->∃F',ORepP K ct Φ H' ps (bJ kvs k o') F'/\F'.Nodup/\∀a∈F',(a∈F/\a∉Fc)\/a∈Fc'
 | [],[],_,_,_,_,_,h=>by cases h
 | (g', v) :: vs, (g, x) :: fs, F, f, o, r, nd, h => by
  obtain⟨F1,F2,rfl,e,r1,r2⟩:=r;have e:g'=g:=e;subst e;obtain⟨n1,n2,n3⟩:=cA.mp nd;unfold aG at h
  by_cases e:g'=f
  ·rw[if_pos e] at h
   cases h
   refine⟨v,F1,by unfold aG; rw[if_pos e],r1,fun a ha=>au _ ha,n1,fun H' o' Fc' kp hk hr hn hd=>?_⟩;refine⟨Fc'++F2,?_,?_,fun a ha=>?_⟩
   ·unfold bJ;rw[if_pos e];exact⟨Fc',F2,rfl,rfl,hr,r2.keep (fun _ z=>z) kp fs fun b hb=>hk b (aJ _ hb) fun z=>n3 b z b hb rfl⟩
   ·exact cA.mpr ⟨hn,n2,fun a ha b hb z=>by subst z; exact n3 a (hd a ha (aJ _ hb)) a hb rfl⟩
   ·rcases bc.mp ha with z|z
    ·exact .inr z
    ·exact .inl ⟨aJ _ z,fun y=>n3 a y a z rfl⟩
  ·rw[if_neg e] at h;obtain⟨w,Fc,h1,h2,h3,h4,h5⟩:=rB r2 n2 h;refine⟨w,Fc,by unfold aG; rw[if_neg e]; exact h1,h2,fun a ha=>aJ _ (h3 a ha),h4,fun H' o' Fc' kp hk hr hn hd=>?_⟩
   obtain⟨F',g1,g2,g3⟩:=h5 H' o' Fc' kp (fun b hb n=>hk b (aJ _ hb) n) hr hn fun a ha hb=>hd a ha (aJ _ hb)
   refine⟨F1++F',?_,?_,fun a ha=>?_⟩
   ·unfold bJ;rw[if_neg e];exact⟨F1,F',rfl,rfl,r1.keep (fun _ z=>z) kp x fun b hb=>hk b (au _ hb) fun z=>n3 b hb b (h3 b z) rfl,g1⟩
   ·refine cA.mpr ⟨n1,g2,fun a ha b hb z=>?_⟩;subst z
    rcases g3 a hb with y|y
    ·exact n3 a ha a y.1 rfl
    ·exact n3 a ha a (h3 a (hd a y (au _ ha))) rfl
   ·rcases bc.mp ha with z|z
    ·exact .inl ⟨au _ z,fun y=>n3 a z a (h3 a y) rfl⟩
    ·rcases g3 a z with y|y
     ·exact .inl ⟨aJ _ y.1,y.2⟩
     ·exact .inr y
 | [],_::_,_,_,_,r,_,_=>r.elim
 | _::_,[],_,_,_,r,_,_=>r.elim
theorem qA {k j:Key} (h:bM k=bM j):k=j:=by
 cases k<;>cases j<;>cases h<;>rfl
theorem AG {k j:List Key} (h:gZ k=gZ j):k=j:=by
 induction k generalizing j with
 | nil=>cases j with
  | nil=>rfl
  | cons _ _=>cases Val.tup.inj h
 | cons a k ih => cases j with
  | nil=>cases Val.tup.inj h
  | cons b j =>
   have e:=List.cons.inj (Val.tup.inj h);rw[qA e.1,ih (congrArg Val.tup e.2)]
theorem oV {κ:Type} [DecidableEq κ] (f:κ->Val) (hf:∀a b,f a=f b->a=b) (k:κ):∀vs:List (κ×V),aG (vs.map fun p=>(f p.1,p.2)) (f k)=valV vs k
 | []=>rfl
 | p :: r => by
  rw[bU];unfold aG
  by_cases e:p.1=k
  ·rw[if_pos (by rw[e]),valV_pos e]
  ·rw[if_neg fun z=>e (hf _ _ z),valV_neg e];exact oV f hf k r
theorem As (k:Key):∀vs:List (List Key×V),aG (vs.map fun p=>(gZ p.1,p.2)) (bM k)=none
 | []=>rfl
 | p::r=>by
  rw[bU];unfold aG;rw[if_neg fun z=>by cases k<;>cases z];exact As k r
theorem xG {a:Addr} {ps:List (Val×V)} {s:Str} {v:V} (h:hZ ct H a (Rd H a) ps) (l:aG ps (.str s)=some v):DGet H a (.str s) (some v):=by
 rcases h with⟨vs,h,rfl,_⟩|⟨vs,h,rfl,_⟩|⟨q,xs,h,rfl,_,f⟩
 ·refine .inl ⟨vs,.inr s,h,rfl,?_⟩;rw[←oV bM (fun _ _=>qA)];exact l.symm
 ·exact nomatch (As (.inr s) vs).symm.trans l
 ·exfalso
  have go:∀zs:List (NestedKey×Addr×V),(∀z∈zs,Tw.j8 z.1=false)->aG (zs.map fun z=>(dw z.1,z.2.2)) (.str s)=none:=by
   intro zs hz
   induction zs with
   | nil=>rfl
   | cons z zs ih =>
    rw[bU];unfold aG
    rw[if_neg fun e=>by
     have fz:=hz z (ao ..)
     cases hk:z.1 with
     | none=>rw[hk] at e; cases e
     | num i=>rw[hk] at e; cases e
     | text x=>rw[hk] at fz; cases fz
     | tup ks=>rw[hk] at e; cases e]
    exact ih fun y hy=>hz y (aE _ hy)
  exact nomatch (go _ f).symm.trans l
theorem xF {a:Addr} {ps:List (Val×V)} {q:Key} {v:V} (h:hZ ct H a (Rd H a) ps) (l:aG ps (bM q)=some v):DGet H a (kV q) (some v):=by
 rcases h with⟨vs,h,rfl,_⟩|⟨vs,h,rfl,_⟩|⟨_,xs,h,rfl,_,f⟩
 ·refine .inl ⟨vs,q,h,rfl,?_⟩;rw[←oV bM (fun _ _=>qA)];exact l.symm
 ·exact nomatch (As q vs).symm.trans l
 ·exfalso
  have go:∀zs:List (NestedKey×Addr×V),(∀z∈zs,Tw.j8 z.1=false)->aG (zs.map fun z=>(dw z.1,z.2.2)) (bM q)=none:=by
   intro zs hz
   induction zs with
   | nil=>rfl
   | cons z zs ih =>
    rw[bU];unfold aG
    rw[if_neg fun e=>by
     have fz:=hz z (ao ..)
     cases hk:z.1 with
     | none=>rw[hk] at e; cases q<;>cases e
     | num i=>rw[hk] at fz; cases fz
     | text x=>rw[hk] at fz; cases fz
     | tup ks=>rw[hk] at e; cases q<;>cases e]
    exact ih fun y hy=>hz y (aE _ hy)
  exact nomatch (go _ f).symm.trans l
theorem mO:∀(p:List PStep) {o:OV} {v:V} {F:List Addr} {c:OV},aR K ct Φ H v o F->F.Nodup->bZ p o=some c->∃vc Fc,fN ct H p v vc/\aR K ct Φ H vc c Fc/\(∀a∈Fc,a∈F)/\Fc.Nodup /\
  ∀H' c' Fc',cg Φ H H'->(∀b∈F,b∉Fc->H' b=H b)->aR K ct Φ H' vc c' Fc'->Fc'.Nodup->(∀a∈Fc',a∈F->a∈Fc)->∃F',aR K ct Φ H' v (cq p o c') F'/\fN ct H' p v vc/\F'.Nodup/\∀a∈F',(a∈F/\a∉Fc)\/a∈Fc'
 | [],o,v,F,c,r,nd,h=>by
  cases h
  exact⟨v,F,rfl,r,fun _ z=>z,nd,fun H' c' Fc' _ _ hr hn _=>⟨Fc',hr,rfl,hn,fun _ z=>.inr z⟩⟩
 | .fld f :: p, o, v, F, c, r, nd, h => by
  cases o with
  | obj k fs =>
   have h:(eK fs f).bind (fun o=>bZ p o)=some c:=h
   cases hl:eK fs f with
   | none=>rw[hl] at h; cases h
   | some o1 =>
    rw[hl] at h;obtain⟨a,dx,vs,F1,rfl,h1,r1,rfl⟩:=r;obtain⟨na,nd1⟩:=bT.mp nd;obtain⟨v1,Fc1,g1,g2,g3,g4,g5⟩:=vj r1 nd1 hl;obtain⟨vc,Fc,k1,k2,k3,k4,k5⟩:=mO p g2 g4 h;refine⟨vc,Fc,⟨a,k,dx,vs,v1,rfl,h1,g1,k1⟩,k2,fun b hb=>aE _ (g3 b (k3 b hb)),k4,fun H' c' Fc' kp hk hr hn hd=>?_⟩
    have an:a∉Fc:=fun z=>na (g3 a (k3 a z))
    obtain⟨F2,m1,mp,m2,m3⟩:=k5 H' c' Fc' kp (fun b hb n=>hk b (aE _ (g3 b hb)) n) hr hn fun b hb hb'=>hd b hb (aE _ (g3 b hb'))
    have s2:∀b∈F2,b∈F1->b∈Fc1:=fun b hb hb'=>by
     rcases m3 b hb with z|z
     ·exact z.1
     ·exact k3 b (hd b z (aE _ hb'))
    obtain⟨F3,l1,l2,l3⟩:=g5 H' (cq p o1 c') F2 kp (fun b hb n=>hk b (aE _ hb) fun z=>n (k3 b z)) m1 m2 s2
    have a3:a∉F3:=fun z=>by
     rcases l3 a z with y|y
     ·exact na y.1
     ·rcases m3 a y with x|x
      ·exact na (g3 a x.1)
      ·exact an (hd a x (ao ..))
    refine⟨a::F3,?_,?_,bT.mpr ⟨a3,l2⟩,fun b hb=>?_⟩
    ·show aR K ct Φ H' (.ref a) (match eK fs f with|some o=>.obj k (gW fs f (cq p o c'))|none=>.obj k fs) (a::F3)
     rw[hl];exact⟨a,dx,vs,F3,rfl,by rw[hk a (ao ..) an]; exact h1,l1,rfl⟩
    ·exact⟨a,k,dx,vs,v1,rfl,by rw[hk a (ao ..) an]; exact h1,g1,mp⟩
    ·rcases aU.mp hb with z|z
     ·subst z; exact .inl ⟨ao ..,an⟩
     ·rcases l3 b z with y|y
      ·exact .inl ⟨aE _ y.1,fun x=>y.2 (k3 b x)⟩
      ·rcases m3 b y with x|x
       ·exact .inl ⟨aE _ (g3 b x.1),x.2⟩
       ·exact .inr x
  | fz _=>cases h
  | lst _=>cases h
  | dict _=>cases h
 | .key f :: p, o, v, F, c, r, nd, h => by
  cases o with
  | dict kvs =>
   have h:(aG kvs (.str f)).bind (fun o=>bZ p o)=some c:=h
   cases hl:aG kvs (.str f) with
   | none=>rw[hl] at h; cases h
   | some o1 =>
    rw[hl] at h;obtain⟨a,ps,F1,rfl,h1,r1,rfl⟩:=r;obtain⟨na,nd1⟩:=bT.mp nd;obtain⟨v1,Fc1,g1,g2,g3,g4,g5⟩:=rB r1 nd1 hl;obtain⟨vc,Fc,k1,k2,k3,k4,k5⟩:=mO p g2 g4 h;refine⟨vc,Fc,⟨a,v1,rfl,xG (hV h1 lY fun _ _ z=>.inl z) g1,k1⟩,k2,fun b hb=>aE _ (g3 b (k3 b hb)),k4,fun H' c' Fc' kp hk hr hn hd=>?_⟩
    have an:a∉Fc:=fun z=>na (g3 a (k3 a z))
    obtain⟨F2,m1,mp,m2,m3⟩:=k5 H' c' Fc' kp (fun b hb n=>hk b (aE _ (g3 b hb)) n) hr hn fun b hb hb'=>hd b hb (aE _ (g3 b hb'))
    have s2:∀b∈F2,b∈F1->b∈Fc1:=fun b hb hb'=>by
     rcases m3 b hb with z|z
     ·exact z.1
     ·exact k3 b (hd b z (aE _ hb'))
    obtain⟨F3,l1,l2,l3⟩:=g5 H' (cq p o1 c') F2 kp (fun b hb n=>hk b (aE _ hb) fun z=>n (k3 b z)) m1 m2 s2
    have a3:a∉F3:=fun z=>by
     rcases l3 a z with y|y
     ·exact na y.1
     ·rcases m3 a y with x|x
      ·exact na (g3 a x.1)
      ·exact an (hd a x (ao ..))
    refine⟨a::F3,?_,?_,bT.mpr ⟨a3,l2⟩,fun b hb=>?_⟩
    ·show aR K ct Φ H' (.ref a) (match aG kvs (.str f) with|some o=>.dict (bJ kvs (.str f) (cq p o c'))|none=>.dict kvs) (a::F3)
     rw[hl];exact⟨a,ps,F3,rfl,hV h1 kp.tup fun u _ z=>by rw[hk a (ao ..) an]; exact z,l1,rfl⟩
    ·exact⟨a,v1,rfl,xG (hV h1 kp.tup fun u _ z=>.inl (by rw[hk a (ao ..) an]; exact z)) g1,mp⟩
    ·rcases aU.mp hb with z|z
     ·subst z; exact .inl ⟨ao ..,an⟩
     ·rcases l3 b z with y|y
      ·exact .inl ⟨aE _ y.1,fun x=>y.2 (k3 b x)⟩
      ·rcases m3 b y with x|x
       ·exact .inl ⟨aE _ (g3 b x.1),x.2⟩
       ·exact .inr x
  | fz _=>cases h
  | lst _=>cases h
  | obj _ _=>cases h
 | .ix f :: p, o, v, F, c, r, nd, h => by
  cases o with
  | lst os =>
   have h:(os[f]?).bind (fun o=>bZ p o)=some c:=h
   cases hl:os[f]? with
   | none=>rw[hl] at h; cases h
   | some o1 =>
    rw[hl] at h;obtain⟨a,vs,F1,rfl,h1,hz,r1,rfl⟩:=r;obtain⟨na,nd1⟩:=bT.mp nd;obtain⟨v1,Fc1,g1,g2,g3,g4,g5⟩:=ye r1 nd1 hl;obtain⟨vc,Fc,k1,k2,k3,k4,k5⟩:=mO p g2 g4 h;refine⟨vc,Fc,⟨a,vs,v1,rfl,h1,g1,k1⟩,k2,fun b hb=>aE _ (g3 b (k3 b hb)),k4,fun H' c' Fc' kp hk hr hn hd=>?_⟩
    have an:a∉Fc:=fun z=>na (g3 a (k3 a z))
    obtain⟨F2,m1,mp,m2,m3⟩:=k5 H' c' Fc' kp (fun b hb n=>hk b (aE _ (g3 b hb)) n) hr hn fun b hb hb'=>hd b hb (aE _ (g3 b hb'))
    have s2:∀b∈F2,b∈F1->b∈Fc1:=fun b hb hb'=>by
     rcases m3 b hb with z|z
     ·exact z.1
     ·exact k3 b (hd b z (aE _ hb'))
    obtain⟨F3,l1,l2,l3⟩:=g5 H' (cq p o1 c') F2 kp (fun b hb n=>hk b (aE _ hb) fun z=>n (k3 b z)) m1 m2 s2
    have a3:a∉F3:=fun z=>by
     rcases l3 a z with y|y
     ·exact na y.1
     ·rcases m3 a y with x|x
      ·exact na (g3 a x.1)
      ·exact an (hd a x (ao ..))
    refine⟨a::F3,?_,?_,bT.mpr ⟨a3,l2⟩,fun b hb=>?_⟩
    ·show aR K ct Φ H' (.ref a) (match os[f]? with|some o=>.lst (os.set f (cq p o c'))|none=>.lst os) (a::F3)
     rw[hl];exact⟨a,vs,F3,rfl,by rw[hk a (ao ..) an]; exact h1,hz,l1,rfl⟩
    ·exact⟨a,vs,v1,rfl,by rw[hk a (ao ..) an]; exact h1,g1,mp⟩
    ·rcases aU.mp hb with z|z
     ·subst z; exact .inl ⟨ao ..,an⟩
     ·rcases l3 b z with y|y
      ·exact .inl ⟨aE _ y.1,fun x=>y.2 (k3 b x)⟩
      ·rcases m3 b y with x|x
       ·exact .inl ⟨aE _ (g3 b x.1),x.2⟩
       ·exact .inr x
  | fz _=>cases h
  | dict _=>cases h
  | obj _ _=>cases h
 | .kk f :: p, o, v, F, c, r, nd, h => by
  cases o with
  | dict kvs =>
   have h:(aG kvs (bM f)).bind (fun o=>bZ p o)=some c:=h
   cases hl:aG kvs (bM f) with
   | none=>rw[hl] at h; cases h
   | some o1 =>
    rw[hl] at h;obtain⟨a,ps,F1,rfl,h1,r1,rfl⟩:=r;obtain⟨na,nd1⟩:=bT.mp nd;obtain⟨v1,Fc1,g1,g2,g3,g4,g5⟩:=rB r1 nd1 hl;obtain⟨vc,Fc,k1,k2,k3,k4,k5⟩:=mO p g2 g4 h;refine⟨vc,Fc,⟨a,v1,rfl,xF (hV h1 lY fun _ _ z=>.inl z) g1,k1⟩,k2,fun b hb=>aE _ (g3 b (k3 b hb)),k4,fun H' c' Fc' kp hk hr hn hd=>?_⟩
    have an:a∉Fc:=fun z=>na (g3 a (k3 a z))
    obtain⟨F2,m1,mp,m2,m3⟩:=k5 H' c' Fc' kp (fun b hb n=>hk b (aE _ (g3 b hb)) n) hr hn fun b hb hb'=>hd b hb (aE _ (g3 b hb'))
    have s2:∀b∈F2,b∈F1->b∈Fc1:=fun b hb hb'=>by
     rcases m3 b hb with z|z
     ·exact z.1
     ·exact k3 b (hd b z (aE _ hb'))
    obtain⟨F3,l1,l2,l3⟩:=g5 H' (cq p o1 c') F2 kp (fun b hb n=>hk b (aE _ hb) fun z=>n (k3 b z)) m1 m2 s2
    have a3:a∉F3:=fun z=>by
     rcases l3 a z with y|y
     ·exact na y.1
     ·rcases m3 a y with x|x
      ·exact na (g3 a x.1)
      ·exact an (hd a x (ao ..))
    refine⟨a::F3,?_,?_,bT.mpr ⟨a3,l2⟩,fun b hb=>?_⟩
    ·show aR K ct Φ H' (.ref a) (match aG kvs (bM f) with|some o=>.dict (bJ kvs (bM f) (cq p o c'))|none=>.dict kvs) (a::F3)
     rw[hl];exact⟨a,ps,F3,rfl,hV h1 kp.tup fun u _ z=>by rw[hk a (ao ..) an]; exact z,l1,rfl⟩
    ·exact⟨a,v1,rfl,xF (hV h1 kp.tup fun u _ z=>.inl (by rw[hk a (ao ..) an]; exact z)) g1,mp⟩
    ·rcases aU.mp hb with z|z
     ·subst z; exact .inl ⟨ao ..,an⟩
     ·rcases l3 b z with y|y
      ·exact .inl ⟨aE _ y.1,fun x=>y.2 (k3 b x)⟩
      ·rcases m3 b y with x|x
       ·exact .inl ⟨aE _ (g3 b x.1),x.2⟩
       ·exact .inr x
  | fz _=>cases h
  | lst _=>cases h
  | obj _ _=>cases h
end
end Mp
namespace Mp
open PySem L2
def og (K:PySem.W.Frag) (ct:Tw.Ct) (f:Str):Prop:=∀c,Cls K (ct c)/\NoAttr K (ct c) f
def dJ (K:PySem.W.Frag):TE->List PStep->TE
 | t,[]=>t
 | t,.fld f::p=>dJ K (tFld K t f) p
 | t,.key s::p=>dJ K (tDGet t (tC (.str s))) p
 | t,.ix n::p=>dJ K (tOp (rIxL K) t (tC (.int (n:Nat)))) p
 | t,.kk q::p=>dJ K (tDGet t (tC (kV q))) p
def fO (K:PySem.W.Frag) (ct:Tw.Ct):List PStep->Prop
 | []=>True
 | .fld f::p=>og K ct f/\fO K ct p
 | .key _::p=>fO K ct p
 | .ix _::p=>fO K ct p
 | .kk _::p=>fO K ct p
def bH (k:Nat) (p:List PStep) (m:OV->Option OV) (S:Env):Option Env:=match S[k]? with
 | some (some o)=>(bZ p o).bind fun c=>(m c).bind fun c'=>some (S.set k (some (cq p o c')))
 | _=>none
def bF (k:Nat) (p:List PStep) (S:Env):Option OV:=match S[k]? with
 | some (some o)=>bZ p o
 | _=>none
section
variable {K:PySem.W.Frag} {ct:Tw.Ct} {E:Exn->St->Hp->Prop} {B:Hp} {X:List Addr} {Φ0:Addr->Prop} {σ:St} {W W' W1:Wd} {H H':Hp} {i j k:Nat} {x:Val} {v w:V} {js wr:List Nat} {o r c c':OV} {f:Sf} {a b:Ef} {p:List PStep} {Q:VK} {D:List Addr}
theorem rY:∀{p:List PStep} {t:TE} {v w:V},(∀Q:VK,Q v H->t σ H Q)->fO K ct p->fN ct H p v w->Q w H->dJ K t p σ H Q
 | [],t,v,w,ht,_,hp,q=>by
  have e:w=v:=hp;subst e;exact ht Q q
 | .fld f::p,t,v,w,ht,ok,hp,q=>by
  obtain⟨a,c,dx,fs,v1,rfl,h1,h2,h3⟩:=hp;exact rY (t:=tFld K t f) (fun Q q=>ht _ ⟨a,ct c,dx,fs,v1,rfl,h1,(ok.1 c).1,(ok.1 c).2,h2,q⟩) ok.2 h3 q
 | .key s::p,t,v,w,ht,ok,hp,q=>by
  obtain⟨a,v1,rfl,h1,h2⟩:=hp;exact rY (t:=tDGet t (tC (.str s))) (fun Q q=>ht _ ⟨a,v1,rfl,h1,q⟩) ok h2 q
 | .ix n::p,t,v,w,ht,ok,hp,q=>by
  obtain⟨a,vs,v1,rfl,h1,h2,h3⟩:=hp;exact rY (t:=tOp (rIxL K) t (tC (.int (n:Nat)))) (fun Q q=>ht _ ⟨a,vs,(n:Nat),v1,rfl,rfl,.inl (.inl h1),atI_nat h2,q⟩) ok h3 q
 | .kk s::p,t,v,w,ht,ok,hp,q=>by
  obtain⟨a,v1,rfl,h1,h2⟩:=hp;exact rY (t:=tDGet t (tC (kV s))) (fun Q q=>ht _ ⟨a,v1,rfl,h1,q⟩) ok h2 q
theorem Sat.modify {W0:Wd} (s:Sat K ct B X Φ0 σ W) (st:Step wr W0 W) (hk:W.S[k]?=some (some o)) (hg:bZ p o=some c):∃v vc Fc,σ[k]?=some (some v)/\fN ct W.H p v vc/\aR K ct W.Φ W.H vc c Fc/\(∀a∈Fc,a∈W.Fs k)/\Fc.Nodup /\
  ∀(H':Hp) (c':OV) (Fc' D:List Addr),(∀b u,W.H b=some u->b∉Fc->H' b=some u)->(∀b,W.H b≠none->H' b≠none)->aR K ct W.Φ H' vc c' Fc'->Fc'.Nodup->(∀a∈Fc',a∈Fc\/a∈D)->(∀a∈D,¬W.Φ a/\(∀j,a∉W.Fs j)/\(B a=none\/a∈X)/\(Own W0.Fs wr a\/W0.H a=none)) ->
   ∃W',Sat K ct B X Φ0 σ W'/\W'.S=W.S.set k (some (cq p o c'))/\W'.H=H'/\fN ct H' p v vc/\Step (wr++[k]) W0 W'/\∀j,j≠k->W'.Fs j=W.Fs j:=by
 obtain⟨v,h1,h2⟩:=s.sl k o hk;obtain⟨vc,Fc,z1,z2,z3,z4,z5⟩:=mO p h2 (s.nd k) hg;refine⟨v,vc,Fc,h1,z1,z2,z3,z4,fun H' c' Fc' D fr lv hr hn hs hD=>?_⟩
 have kp:cg W.Φ W.H H':=fun b u h q=>by
  refine⟨u,fr b u h fun z=>?_,.inl rfl⟩
  rcases q with q|q
  ·exact s.nph k b (z3 b z) q
  ·obtain⟨u',e,n⟩:=s.liveF (z3 b z);rw[h] at e; cases e; exact n q
 have eqF:∀j,∀b∈W.Fs j,b∉Fc->H' b=W.H b:=fun j b hb n=>by
  obtain⟨u,e,_⟩:=s.liveF hb;rw[e,fr b u e n]
 obtain⟨F',g1,gp,g2,g3⟩:=z5 H' c' Fc' kp (eqF k) hr hn fun a ha hb=>(hs a ha).resolve_right fun z=>(hD a z).2.1 k hb
 have hF:∀a∈F',a∈W.Fs k\/a∈D:=fun a ha=>by
  rcases g3 a ha with z|z
  ·exact .inl z.1
  ·exact(hs a z).imp (z3 a) id
 have hi:k<W.S.length:=by
  rcases kj k W.S.length with z|z
  ·exact z
  ·rw[gB z] at hk; cases hk
 -- the slot forgotten,the heap changed,the slot put
 have s1:=s.forget k
 have s2:Sat K ct B X Φ0 σ { S:=W.S.set k none,Fs:=bv W.Fs k [],Φ:=W.Φ,H:=H' }:=by
  refine⟨s1.len,fun i o' h=>?_,s1.em,s1.nd,s1.dj,s1.nph,s1.own,fun b u h n=>?_,fun b h=>lv b (s.lv b h),fun a h=>lv a (s.phl a h),s.phn,s.xl⟩
  ·obtain⟨w,e1,e2⟩:=s1.sl i o' h;refine⟨w,e1,e2.keep (fun _ z=>z) kp o' fun b hb=>?_⟩;have hb:b∈bv W.Fs k [] i:=hb
   by_cases e:i=k
   ·subst e; rw[eX] at hb; cases hb
   ·rw[b7 e] at hb
    exact eqF i b hb fun z=>e (s.dj i k b hb (z3 b z))
  ·exact fr b u (s.old b u h n) fun z=>by
    rcases s.own k b (z3 b z) with y|y
    ·rw[h] at y; cases y
    ·exact n y
 have s3:=s2.put (i:=k) (v:=v) (o:=cq p o c') (D:=F') g1 g2 (fun a ha=>(hF a ha).elim (s.nph k a) fun z=>(hD a z).1) (fun a ha j hj=>by
  have hj:a∈bv W.Fs k [] j:=hj
  by_cases e:j=k
  ·exact e
  ·rw[b7 e] at hj
   rcases hF a ha with z|z
   ·exact s.dj j k a hj z
   ·exact absurd hj ((hD a z).2.1 j)) (fun a ha=>(hF a ha).elim (s.own k a) fun z=>(hD a z).2.2.1) (by rw[gG]; exact hi)
 rw[zA h1] at s3;refine⟨_,s3,by show(W.S.set k none).set k _=_; rw[List.set_set],rfl,gp,⟨fun b u h n=>?_,fun b h=>lv b (st.lv b h),st.ph,fun a h=>?_,fun j hj=>?_,fun j a ha=>?_,fun j hj=>?_⟩,fun j hj=>?_⟩
 ·refine fr b u (st.fr b u h fun z=>n (eG.mpr (.inl z))) fun z=>?_
  rcases st.nf k b (z3 b z) with y|y|y
  ·exact n (eG.mpr (.inr ⟨k,ao ..,y⟩))
  ·exact n (eG.mpr (.inl y))
  ·rw[h] at y; cases y
 ·exact(st.pn a h).imp id (Or.imp (fun z=>eG.mpr (.inl z)) id)
 ·have e:j≠k:=fun z=>hj (aJ _ (by rw[z]; exact ao ..))
  show bv (bv W.Fs k []) k F' j=_
  rw[b7 e,b7 e]
  exact st.kf j fun z=>hj (au _ z)
 ·have ha:a∈bv (bv W.Fs k []) k F' j:=ha
  by_cases e:j=k
  ·subst e;rw[eX] at ha
   rcases hF a ha with z|z
   ·exact(st.nf j a z).imp id (Or.imp (fun z=>eG.mpr (.inl z)) id)
   ·rcases (hD a z).2.2.2 with y|y
    ·exact .inr (.inl (eG.mpr (.inl y)))
    ·exact .inr (.inr y)
  ·rw[b7 e,b7 e] at ha;exact(st.nf j a ha).imp id (Or.imp (fun z=>eG.mpr (.inl z)) id)
 ·have e:k≠j:=fun z=>hj (aJ _ (by rw[z]; exact ao ..))
  show((W.S.set k none).set k _)[j]?=_
  rw[cG e,cG e]
  exact st.ks j fun z=>hj (au _ z)
 ·show bv (bv W.Fs k []) k F' j=_
  rw[b7 hj,b7 hj]
theorem nG {m:OV->Option OV} {S S':Env} (h:bH k p m S=some S'):∃o c c',S[k]?=some (some o)/\bZ p o=some c/\m c=some c'/\S'=S.set k (some (cq p o c')):=by
 unfold bH at h
 cases h1:S[k]? with
 | none=>rw[h1] at h; cases h
 | some y =>
  cases y with
  | none=>rw[h1] at h; cases h
  | some o =>
   rw[h1] at h;have h:(bZ p o).bind (fun c=>(m c).bind fun c'=>some (S.set k (some (cq p o c'))))=some S':=h
   cases h2:bZ p o with
   | none=>rw[h2] at h; cases h
   | some c =>
    rw[h2] at h;have h:(m c).bind (fun c'=>some (S.set k (some (cq p o c'))))=some S':=h
    cases h3:m c with
    | none=>rw[h3] at h; cases h
    | some c'=>rw[h3] at h; cases h; exact⟨o,c,c',rfl,h2,h3,rfl⟩
theorem iQ:∀{p:List PStep} {v w w':V},fN ct H p v w->fN ct H p v w'->w=w'
 | [],v,w,w',h,h'=>by rw[show w=v from h,show w'=v from h']
 | .fld f::p,v,w,w',h,h'=>by
  obtain⟨a,c,dx,fs,v1,rfl,h1,h2,h3⟩:=h;obtain⟨a',c',dx',fs',v1',e,h1',h2',h3'⟩:=h'
  cases e
  rw[h1] at h1';obtain⟨_,_,e3⟩:=HO.ins.inj (Option.some.inj h1');subst e3;rw[h2] at h2'
  cases h2'
  exact iQ h3 h3'
 | .key s :: p, v, w, w', h, h' => by
  obtain⟨a,v1,rfl,h1,h2⟩:=h;obtain⟨a',v1',e,h1',h2'⟩:=h'
  cases e
  have e1:v1=v1':=by
   have rd:∀{u u':HO},Rd H a u->Rd H a u'->(∀o w,u≠.frz o w)->(∀o w,u'≠.frz o w)->u=u':=fun {u u'} r r' n n'=>by
    rcases r with r|⟨o,r⟩<;>rcases r' with r'|⟨o',r'⟩
    ·rw[r] at r'; exact Option.some.inj r'
    ·rw[r] at r'; exact absurd (Option.some.inj r') (n o' u')
    ·rw[r] at r'; exact absurd (Option.some.inj r').symm (n' o u)
    ·rw[r] at r'; cases Option.some.inj r'; rfl
   rcases h1 with⟨kvs,k,r,e,l⟩|⟨kvs,k,b,r,e,_,_⟩
   ·rcases h1' with⟨kvs',k',r',e',l'⟩|⟨_,_,_,_,e',_⟩
    ·have ek:=rd r r' (fun _ _ z=>nomatch z) (fun _ _ z=>nomatch z)
     cases ek
     have e2:k=k':=by
      have z:kV k=kV k':=e.symm.trans e'
      cases k<;>cases k'<;>cases z<;>rfl
     subst e2;exact Option.some.inj (l.trans l'.symm)
    ·cases e'
   ·cases e
  subst e1;exact iQ h2 h2'
 | .ix n::p,v,w,w',h,h'=>by
  obtain⟨a,vs,v1,rfl,h1,h2,h3⟩:=h;obtain⟨a',vs',v1',e,h1',h2',h3'⟩:=h'
  cases e
  rw[h1] at h1'
  cases h1'
  rw[h2] at h2'
  cases h2'
  exact iQ h3 h3'
 | .kk s :: p, v, w, w', h, h' => by
  obtain⟨a,v1,rfl,h1,h2⟩:=h;obtain⟨a',v1',e,h1',h2'⟩:=h'
  cases e
  have e1:v1=v1':=by
   have rd:∀{u u':HO},Rd H a u->Rd H a u'->(∀o w,u≠.frz o w)->(∀o w,u'≠.frz o w)->u=u':=fun {u u'} r r' n n'=>by
    rcases r with r|⟨o,r⟩<;>rcases r' with r'|⟨o',r'⟩
    ·rw[r] at r'; exact Option.some.inj r'
    ·rw[r] at r'; exact absurd (Option.some.inj r') (n o' u')
    ·rw[r] at r'; exact absurd (Option.some.inj r').symm (n' o u)
    ·rw[r] at r'; cases Option.some.inj r'; rfl
   rcases h1 with⟨kvs,k,r,e,l⟩|⟨kvs,k,b,r,e,_,_⟩
   ·rcases h1' with⟨kvs',k',r',e',l'⟩|⟨_,_,_,_,e',_⟩
    ·have ek:=rd r r' (fun _ _ z=>nomatch z) (fun _ _ z=>nomatch z)
     cases ek
     have e2:k=k':=by
      have z:kV k=kV k':=e.symm.trans e'
      cases k<;>cases k'<;>cases z<;>rfl
     subst e2;exact Option.some.inj (l.trans l'.symm)
    ·cases s<;>cases e'
   ·cases s<;>cases e
  subst e1;exact iQ h2 h2'
theorem Sat.pathV (s:Sat K ct B X Φ0 σ W) (st:Step wr W W1) (s1:Sat K ct B X Φ0 σ W1) (hn:k∉wr) (hk:W1.S[k]?=some (some o)) (hg:bZ p o=some c) (hv:σ[k]?=some (some v)) (h1:fN ct W1.H p v w):fN ct W.H p v w:=by
 rw[st.ks k hn] at hk;obtain⟨v',h2,h3⟩:=s.sl k o hk;rw[hv] at h2
 cases h2
 obtain⟨vc,Fc,z1,_⟩:=mO p h3 (s.nd k) hg
 -- the same in W1
 have kp:=s.keeps st
 have e:aR K ct W1.Φ W1.H v o (W.Fs k):=h3.keep st.ph kp o fun b hb=>by
  obtain⟨u,e,_⟩:=s.liveF hb;rw[e]
  exact st.fr b u e fun⟨j,hj,hb'⟩=>hn (by rw[s.dj k j b hb hb']; exact hj)
 obtain⟨vc',Fc',y1,_⟩:=mO p e (s.nd k) hg
 have gen : ∀ (p : List PStep) (v w : V) (o c : OV) (F : List Addr), aR K ct W.Φ W.H v o F -> F.Nodup -> bZ p o = some c -> (∀ b ∈ F, W1.H b = W.H b) -> fN ct W.H p v w -> fN ct W1.H p v w := by
  intro p
  induction p with
  | nil=>intro v w o c F _ _ _ _ h; exact h
  | cons st p ih =>
   intro v w o c F r nd hg hF h
   cases st with
   | fld f =>
    cases o with
    | obj k fs =>
     have hg:(eK fs f).bind (fun o=>bZ p o)=some c:=hg
     cases hl:eK fs f with
     | none=>rw[hl] at hg; cases hg
     | some o1 =>
      rw[hl] at hg;obtain⟨a,dx,vs,F1,rfl,r1,r2,rfl⟩:=r;obtain⟨v1,Fc1,g1,g2,g3,g4,_⟩:=vj r2 (bT.mp nd).2 hl;obtain⟨a',c',dx',fs',v1',e,h1,h2,h3⟩:=h
      cases e
      rw[r1] at h1;obtain⟨_,_,e3⟩:=HO.ins.inj (Option.some.inj h1);subst e3;rw[g1] at h2
      cases h2
      exact⟨a,k,dx,vs,v1,rfl,by rw[hF a (ao ..)]; exact r1,g1,ih v1 w o1 c Fc1 g2 g4 hg (fun b hb=>hF b (aE _ (g3 b hb))) h3⟩
    | fz _=>cases hg
    | lst _=>cases hg
    | dict _=>cases hg
   | key f =>
    cases o with
    | dict kvs =>
     have hg:(aG kvs (.str f)).bind (fun o=>bZ p o)=some c:=hg
     cases hl:aG kvs (.str f) with
     | none=>rw[hl] at hg; cases hg
     | some o1 =>
      rw[hl] at hg;obtain⟨a,ps,F1,rfl,r1,r2,rfl⟩:=r;obtain⟨v1,Fc1,g1,g2,g3,g4,_⟩:=rB r2 (bT.mp nd).2 hl;obtain⟨a',v1',e,h1,h2⟩:=h
      cases e
      have d0:=xG (hV r1 lY fun _ _ z=>.inl z) g1
      have ev:v1'=v1:=by
       have:=iQ (ct:=ct) (p:=[.key f]) (v:=.ref a) (w:=v1') (w':=v1) ⟨a,v1',rfl,h1,rfl⟩ ⟨a,v1,rfl,d0,rfl⟩;exact this
      subst ev
      have r1':hZ ct W1.H a (fun o=>W1.H a=some o) ps:=hV r1 (fun b vs hb=>st.fr b _ hb fun⟨j,_,hj⟩=>by
       obtain⟨u,e,n⟩:=s.liveF hj;rw[hb] at e
       cases e
       exact n trivial) fun u _ z=>by rw[hF a (ao ..)]; exact z
      exact⟨a,v1',rfl,xG (hV r1' lY fun _ _ z=>.inl z) g1,ih v1' w o1 c Fc1 g2 g4 hg (fun b hb=>hF b (aE _ (g3 b hb))) h2⟩
    | fz _=>cases hg
    | lst _=>cases hg
    | obj _ _=>cases hg
   | ix f =>
    cases o with
    | lst os =>
     have hg:(os[f]?).bind (fun o=>bZ p o)=some c:=hg
     cases hl:os[f]? with
     | none=>rw[hl] at hg; cases hg
     | some o1 =>
      rw[hl] at hg;obtain⟨a,vs,F1,rfl,r1,rz,r2,rfl⟩:=r;obtain⟨v1,Fc1,g1,g2,g3,g4,_⟩:=ye r2 (bT.mp nd).2 hl;obtain⟨a',vs',v1',e,h1,h2,h3⟩:=h
      cases e
      rw[r1] at h1
      cases h1
      rw[g1] at h2
      cases h2
      exact⟨a,vs,v1,rfl,by rw[hF a (ao ..)]; exact r1,g1,ih v1 w o1 c Fc1 g2 g4 hg (fun b hb=>hF b (aE _ (g3 b hb))) h3⟩
    | fz _=>cases hg
    | dict _=>cases hg
    | obj _ _=>cases hg
   | kk f =>
    cases o with
    | dict kvs =>
     have hg:(aG kvs (bM f)).bind (fun o=>bZ p o)=some c:=hg
     cases hl:aG kvs (bM f) with
     | none=>rw[hl] at hg; cases hg
     | some o1 =>
      rw[hl] at hg;obtain⟨a,ps,F1,rfl,r1,r2,rfl⟩:=r;obtain⟨v1,Fc1,g1,g2,g3,g4,_⟩:=rB r2 (bT.mp nd).2 hl;obtain⟨a',v1',e,h1,h2⟩:=h
      cases e
      have d0:=xF (hV r1 lY fun _ _ z=>.inl z) g1
      have ev:v1'=v1:=by
       have:=iQ (ct:=ct) (p:=[.kk f]) (v:=.ref a) (w:=v1') (w':=v1) ⟨a,v1',rfl,h1,rfl⟩ ⟨a,v1,rfl,d0,rfl⟩;exact this
      subst ev
      have r1':hZ ct W1.H a (fun o=>W1.H a=some o) ps:=hV r1 (fun b vs hb=>st.fr b _ hb fun⟨j,_,hj⟩=>by
       obtain⟨u,e,n⟩:=s.liveF hj;rw[hb] at e
       cases e
       exact n trivial) fun u _ z=>by rw[hF a (ao ..)]; exact z
      exact⟨a,v1',rfl,xF (hV r1' lY fun _ _ z=>.inl z) g1,ih v1' w o1 c Fc1 g2 g4 hg (fun b hb=>hF b (aE _ (g3 b hb))) h2⟩
    | fz _=>cases hg
    | lst _=>cases hg
    | obj _ _=>cases hg
 have q:=gen p v vc o c (W.Fs k) h3 (s.nd k) hg (fun b hb=>by
  obtain⟨u,e,_⟩:=s.liveF hb;rw[e]
  exact st.fr b u e fun⟨j,hj,hb'⟩=>hn (by rw[s.dj k j b hb hb']; exact hj)) z1
 rw[iQ h1 q];exact z1
def bL:Nat:=1000000
theorem gY {n:Nat} (h:n<bL):n<sizeLine:=mJ h (by decide)
def wM (x:Val):OV->Option OV
 | .lst xs=>if xs.length<bL then some (.lst (xs++[.fz x])) else none
 | _=>none
def o4:OV->Option Unit
 | .lst _=>some ()
 | _=>none
def cW (k:Nat) (p:List PStep) (js:List Nat) (a:Ef):Ef:=fun S=>(Out.of ((bF k p S).bind o4) S).bind fun _ _=>(a S).bind fun o S1=>(Out.of (aI js o) S1).bind fun x S2=>(Out.of (bH k p (wM x) S2) S2).bind fun S3 _=>.ok (.fz .none) S3
theorem qg {S:Env} {m:OV->Option Unit} {u:Unit} (h:(bF k p S).bind m=some u):∃o c,S[k]?=some (some o)/\bZ p o=some c/\m c=some u:=by
 unfold bF at h
 cases h1:S[k]? with
 | none=>rw[h1] at h; cases h
 | some y =>
  cases y with
  | none=>rw[h1] at h; cases h
  | some o =>
   rw[h1] at h;have h:(bZ p o).bind m=some u:=h
   cases h2:bZ p o with
   | none=>rw[h2] at h; cases h
   | some c=>rw[h2] at h; exact⟨o,c,rfl,h2,h⟩
theorem Sat.recv (s:Sat K ct B X Φ0 σ W) (hk:W.S[k]?=some (some o)) (hg:bZ p o=some c):∃v w F,σ[k]?=some (some v)/\fN ct W.H p v w/\aR K ct W.Φ W.H w c F:=by
 obtain⟨v,h1,h2⟩:=s.sl k o hk;obtain⟨w,F,z1,z2,_⟩:=mO p h2 (s.nd k) hg;exact⟨v,w,F,h1,z1,z2⟩
theorem lQ {R:VK} (ok:fO K ct p) (hv:σ[k]?=some (some v)) (h:fN ct H p v w) (q:R w H):dJ K (tVar k) p σ H R :=
 rY (t:=tVar k) (fun Q q=>⟨v,hv,q⟩) ok h q
theorem MG {Φ:Addr->Prop} {vs:List V} {xs:List OV} {F:List Addr} (h:ORepL K ct Φ H vs xs F) (hx:bw K ct Φ H v x):ORepL K ct Φ H (vs++[v]) (xs++[.fz x]) F:=by
 induction vs generalizing xs F with
 | nil => cases xs with
  | nil =>
   have e:F=[]:=h;subst e;exact⟨[],[],rfl,⟨hx,rfl⟩,rfl⟩
  | cons _ _=>exact h.elim
 | cons u vs ih => cases xs with
  | nil=>exact h.elim
  | cons y xs =>
   obtain⟨F1,F2,rfl,h1,h2⟩:=h;exact⟨F1,F2,rfl,h1,ih h2⟩
theorem yY {a:Addr} {vs:List V} (h:H a=some (.lst vs)):tyV K "list" (.ref a) H:=.inl ⟨rfl,vs,.inl (.inl h)⟩
theorem KU (ok : fO K ct p) (hn : k ∉ wr) (q : tE K ct E (cW k p js a) [] (wr ++ [k]) σ H Q) : tBM K "list" rAppend (dJ K (tVar k) p) (tCons (tE K ct E a js wr) tNil) σ H Q := by
 obtain⟨B,X,Φ0,W,rfl,s,q⟩:=q;unfold cW at q
 cases hp:(bF k p W.S).bind o4 with
 | none=>rw[hp] at q; exact q.elim
 | some u =>
 rw[hp,Out.of_some,Out.bind_ok] at q;obtain⟨o,c,k1,k2,k3⟩:=qg hp;obtain⟨v,w,F,r1,r2,r3⟩:=s.recv k1 k2
 cases c with
 | lst xs =>
  obtain⟨l,vs,F1,rfl,l1,l2,l3,rfl⟩:=r3;refine lQ ok r1 r2 ⟨yY l1,B,X,Φ0,W,rfl,s,?_⟩
  cases ha:a W.S with
  | no=>rw[ha] at q; exact q.elim
  | ex e S'=>rw[ha] at q; exact fun W' s' e' a'=>q W' s' e' (a'.mono fun k hk=>au _ hk)
  | ok y S1 =>
   rw[ha] at q;intro u W1 D1 s1 e1 a1 t1;subst e1;rw[Out.bind_ok] at q
   cases hx:aI js y with
   | none=>rw[hx] at q; exact q.elim
   | some x =>
    rw[hx,Out.of_some,Out.bind_ok] at q;obtain⟨Φ',s1',a1',v1⟩:=jt s s1 a1 t1 hx
    cases hm:bH k p (wM x) W1.S with
    | none=>rw[hm] at q; exact q.elim
    | some S3 =>
     rw[hm,Out.of_some,Out.bind_ok] at q;obtain⟨o',c',c'',g1,g2,g3,rfl⟩:=nG hm;obtain⟨v',w',Fc,y1,y2,y3,y4,y5,mk⟩:=s1'.modify a1' g1 g2;rw[r1] at y1
     cases y1
     have ew:=iQ r2 (s.pathV a1' s1' hn g1 g2 r1 y2);subst ew
     cases c' with
     | lst ys =>
      unfold wM at g3;have g3:(if ys.length<bL then some (OV.lst (ys++[.fz x])) else none)=some c'':=g3;split at g3
      ·rename_i hlim
       cases g3
       obtain⟨a',vs',F',e',b1,b2,b3,rfl⟩:=y3
       cases e'
       have b1:W1.H l=some (.lst vs'):=b1;refine⟨l,vs',u,rfl,rfl,b1,by rw[lZ b3]; exact gY hlim,?_⟩;have lF:l∉F':=(bT.mp y5).1
       have fr:∀b z,W1.H b=some z->b∉l::F'->upd W1.H l (.lst (vs'++[u])) b=some z:=fun b z hb hn'=>by
        rw[upd_ne fun e=>hn' (by rw[e]; exact ao ..)]; exact hb
       have kp:cg Φ' W1.H (upd W1.H l (.lst (vs'++[u]))):=fun b z hb hp'=>by
        refine⟨z,?_,.inl rfl⟩;rw[upd_ne fun e=>?_]
        ·exact hb
        ·subst e
         rcases hp' with hp'|hp'
         ·exact s1'.nph k b (y4 b (ao ..)) hp'
         ·rw[b1] at hb; cases hb; exact hp'
       obtain⟨W',m1,m2,m3,m4,m5,_⟩:=mk (upd W1.H l (.lst (vs'++[u]))) (.lst (ys++[.fz x])) (l::F') [] fr (fun b hb=>by
        by_cases e:b=l
        ·subst e; rw[upd_same]; exact fun z=>nomatch z
        ·rw[upd_ne e]; exact hb) ⟨l,vs'++[u],F',rfl,upd_same,by
         rw[cX,lZ b3]; exact gY hlim,MG (ORepL.keep (fun _ z=>z) kp ys (fun b hb=>upd_ne fun e=>lF (e▸hb)) b3) (v1.keep (fun _ z=>z) kp x),rfl⟩ y5 (fun _ z=>.inl z) fun _ z=>nomatch z
       rw[←m3];exact q .non W' [] m1 m2 m5 (iy (x:=.none) rfl)
      ·cases g3
     | fz _=>cases g3
     | dict _=>cases g3
     | obj _ _=>cases g3
 | fz _=>cases k3
 | dict _=>cases k3
 | obj _ _=>cases k3
end
end Mp
namespace Mp
open PySem L2
theorem Inv.kt {X:Cx} {pins:List (Addr×Obj)} {σ:L2.St} {H:Hp} {s:Shared} {a:Addr} (I:Inv X pins σ H s) (h:H a=some (.dK [])):Inv X pins σ (upd H a (.dT [])) s:=by
 obtain⟨z,y,vs,r,o,es,ep,e,x1,x2,x3,x4,x5⟩:=I.hok a _ h
 cases r
 have e0:es.toList=[]:=by
  generalize es.toList=l at x4
  cases x4
  rfl
 exact I.write (x:=a) (e:=a) (t':=s.toks) (h':=s.heap) (by rw[h]; trivial) (.inl rfl) (fun b v _ q=>q) ⟨o,e⟩ ⟨eR _,y,[],.nil,o,es,ep,e,x1,x2,by rw[e0]; rfl,b5⟩
theorem Inv.tk {X:Cx} {pins:List (Addr×Obj)} {σ:L2.St} {H:Hp} {s:Shared} {a:Addr} (I:Inv X pins σ H s) (h:H a=some (.dT [])):Inv X pins σ (upd H a (.dK [])) s:=by
 obtain⟨z,y,vs,r,o,es,ep,e,x1,x2,x3,x4⟩:=I.hok a _ h
 cases r
 have e0:es=#[]:=by
  have:es.toList=[]:=x3;exact Array.toList_eq_nil_iff.mp this
 subst e0;exact I.write (x:=a) (e:=a) (t':=s.toks) (h':=s.heap) (by rw[h]; trivial) (.inl rfl) (fun b v _ q=>q) ⟨o,e⟩ ⟨eR _,y,[],.nil,o,#[],ep,e,x1,x2,by intro i hi; simp at hi,by exact .nil,b5⟩
def alt (t:TS):TS:=fun D σ H=>t D σ H\/∃a,(H a=some (.dK [])/\t D σ (upd H a (.dT [])))\/(H a=some (.dT [])/\t D σ (upd H a (.dK [])))
theorem Mg {X:Cx} {st:Stmt} {t:TS} (h:PS X st t):PS X st (alt t):=⟨fun pins s σ H D I q=>by
 rcases q with q|⟨a,⟨e,q⟩|⟨e,q⟩⟩
 ·exact h.run pins s σ H D I q
 ·exact h.run pins s σ _ D (Inv.kt I e) q
 ·exact h.run pins s σ _ D (Inv.tk I e) q⟩
def Bt (t:TE):TE:=fun σ H Q=>t σ H Q\/∃a,(H a=some (.dK [])/\t σ (upd H a (.dT [])) Q)\/(H a=some (.dT [])/\t σ (upd H a (.dK [])) Q)
theorem My {X:Cx} {st:Expr} {t:TE} (h:PE X st t):PE X st (Bt t):=⟨fun pins s σ H D I q=>by
 rcases q with q|⟨a,⟨e,q⟩|⟨e,q⟩⟩
 ·exact h.run pins s σ H D I q
 ·exact h.run pins s σ _ D (Inv.kt I e) q
 ·exact h.run pins s σ _ D (Inv.tk I e) q⟩
section
variable {K:PySem.W.Frag} {ct:Tw.Ct} {B:Hp} {X:List Addr} {Φ Φ0:Addr->Prop} {σ:St} {W W':Wd} {H H':Hp} {i k:Nat} {x:Val} {v w:V} {o r c:OV} {f g:Sf} {a b:Ef} {p:List PStep} {D:List Addr}
theorem Dy:∀{fs:List (Str×OV)} {f:Str},eK fs f=some o->gW fs f o=fs
 | [],_,h=>by cases h
 | (g,y)::r,f,h=>by
  unfold eK at h;unfold gW
  by_cases e:g=f
  ·rw[if_pos e] at h ⊢; cases h; rfl
  ·rw[if_neg e] at h ⊢; rw[Dy h]
theorem zC:∀{fs:List (Val×OV)} {f:Val},aG fs f=some o->bJ fs f o=fs
 | [],_,h=>by cases h
 | (g,y)::r,f,h=>by
  unfold aG at h;unfold bJ
  by_cases e:g=f
  ·rw[if_pos e] at h ⊢; cases h; rfl
  ·rw[if_neg e] at h ⊢; rw[zC h]
theorem qf:∀{p:List PStep} {o c:OV},bZ p o=some c->cq p o c=o
 | [],o,c,h=>by cases h; rfl
 | .fld f :: p, o, c, h => by
  cases o with
  | obj k fs =>
   have h:(eK fs f).bind (fun o=>bZ p o)=some c:=h
   cases hl:eK fs f with
   | none=>rw[hl] at h; cases h
   | some o1 =>
    rw[hl] at h
    show(match eK fs f with|some o=>OV.obj k (gW fs f (cq p o c))|none=>.obj k fs)=_
    rw[hl]
    show OV.obj k (gW fs f (cq p o1 c))=_
    rw[qf h,Dy hl]
  | fz _=>cases h
  | lst _=>cases h
  | dict _=>cases h
 | .key f :: p, o, c, h => by
  cases o with
  | dict kvs =>
   have h:(aG kvs (.str f)).bind (fun o=>bZ p o)=some c:=h
   cases hl:aG kvs (.str f) with
   | none=>rw[hl] at h; cases h
   | some o1 =>
    rw[hl] at h
    show(match aG kvs (.str f) with|some o=>OV.dict (bJ kvs (.str f) (cq p o c))|none=>.dict kvs)=_
    rw[hl]
    show OV.dict (bJ kvs (.str f) (cq p o1 c))=_
    rw[qf h,zC hl]
  | fz _=>cases h
  | lst _=>cases h
  | obj _ _=>cases h
 | .ix f :: p, o, c, h => by
  cases o with
  | lst os =>
   have h:(os[f]?).bind (fun o=>bZ p o)=some c:=h
   cases hl:os[f]? with
   | none=>rw[hl] at h; cases h
   | some o1 =>
    rw[hl] at h
    show(match os[f]? with|some o=>OV.lst (os.set f (cq p o c))|none=>.lst os)=_
    rw[hl]
    show OV.lst (os.set f (cq p o1 c))=_
    rw[qf h];refine congrArg OV.lst (mK fun i=>?_)
    by_cases e:f=i
    ·subst e;rw[ig (fE.mp hl).1,hl]
    ·rw[cG e]
  | fz _=>cases h
  | dict _=>cases h
  | obj _ _=>cases h
 | .kk f :: p, o, c, h => by
  cases o with
  | dict kvs =>
   have h:(aG kvs (bM f)).bind (fun o=>bZ p o)=some c:=h
   cases hl:aG kvs (bM f) with
   | none=>rw[hl] at h; cases h
   | some o1 =>
    rw[hl] at h
    show(match aG kvs (bM f) with|some o=>OV.dict (bJ kvs (bM f) (cq p o c))|none=>.dict kvs)=_
    rw[hl]
    show OV.dict (bJ kvs (bM f) (cq p o1 c))=_
    rw[qf h,zC hl]
  | fz _=>cases h
  | lst _=>cases h
  | obj _ _=>cases h
theorem Dw {S:Env} {y:Option OV} (h:S[k]?=some y):S.set k y=S:=by
 apply mK;intro i
 by_cases e:k=i
 ·subst e
  have hi:k<S.length:=by
   rcases kj k S.length with q|q
   ·exact q
   ·rw[gB q] at h; cases h
  rw[ig hi,h]
 ·rw[cG e]
theorem Sat.alt (s:Sat K ct B X Φ0 σ W) (hk:W.S[k]?=some (some o)) (hg:bZ p o=some (.dict [])) (T:Bool):∃v l W',σ[k]?=some (some v)/\fN ct W.H p v (.ref l)/\Sat K ct B X Φ0 σ W'/\W'.S=W.S/\Step [k] W W'/\fN ct W'.H p v (.ref l) /\
  (W'.H=W.H\/(W.H l=some (.dK [])/\W'.H=upd W.H l (.dT []))\/(W.H l=some (.dT [])/\W'.H=upd W.H l (.dK [])))/\W'.H l=some (if T then .dT [] else .dK []):=by
 obtain⟨v,vc,Fc,y1,y2,y3,y4,y5,mk⟩:=s.modify (Step.refl W) hk hg;obtain⟨l,ps,F',rfl,h1,h2,rfl⟩:=y3
 cases ps with
 | cons _ _=>exact h2.elim
 | nil =>
 have e0:F'=[]:=h2;subst e0
 have go:∀u u':HO,W.H l=some u->hZ ct W.H l (fun z=>z=u') []->¬uk u->∃W',Sat K ct B X Φ0 σ W'/\W'.S=W.S/\Step [k] W W'/\W'.H=upd W.H l u'/\fN ct W'.H p v (.ref l):=fun u u' e d n=>by
  obtain⟨W',m1,m2,m3,m4,m5,_⟩:=mk (upd W.H l u') (.dict []) [l] [] (fun b z hb hn=>by
   rw[upd_ne fun e=>hn (by rw[e]; exact ao ..)]; exact hb) (fun b hb=>by
   by_cases e:b=l
   ·subst e; rw[upd_same]; exact fun z=>nomatch z
   ·rw[upd_ne e]; exact hb) ⟨l,[],[],rfl,hV d (fun b vs hb=>by
   rw[upd_ne fun z=>by subst z; rw[e] at hb; cases hb; exact n trivial]
   exact hb) fun z _ e=>by subst e; exact upd_same,rfl,rfl⟩ y5 (fun _ z=>.inl z) fun _ z=>nomatch z
  rw[qf hg,Dw hk] at m2;exact⟨W',m1,m2,m5.mono (by simp),m3,by rw[m3]; exact m4⟩
 rcases h1 with⟨vs,h1,e,_⟩|⟨vs,h1,e,_⟩|⟨q,xs,_,e,_⟩
 rotate_right
 ·cases e
 ·cases vs with
  | cons _ _=>cases e
  | nil =>
   cases T with
   | false=>exact⟨v,l,W,y1,y2,s,rfl,(Step.refl W).mono fun _ z=>(nomatch z),y2,.inl rfl,h1⟩
   | true =>
    obtain⟨W',m1,m2,m3,m4,m5⟩:=go _ (.dT []) h1 (.inr (.inl ⟨[],rfl,rfl,eR _,b5,fun _ z=>nomatch z⟩)) id;exact⟨v,l,W',y1,y2,m1,m2,m3,m5,.inr (.inl ⟨h1,m4⟩),by rw[m4]; exact upd_same⟩
 ·cases vs with
  | cons _ _=>cases e
  | nil =>
   cases T with
   | true=>exact⟨v,l,W,y1,y2,s,rfl,(Step.refl W).mono fun _ z=>(nomatch z),y2,.inl rfl,h1⟩
   | false =>
    obtain⟨W',m1,m2,m3,m4,m5⟩:=go _ (.dK []) h1 (.inl ⟨[],rfl,rfl,eR _,b5,fun _ z=>nomatch z⟩) id;exact⟨v,l,W',y1,y2,m1,m2,m3,m5,.inr (.inr ⟨h1,m4⟩),by rw[m4]; exact upd_same⟩
def pr:Val->Option Key
 | .int i=>some (.inl i)
 | .str s=>some (.inr s)
 | _=>none
def fC:List Val->Option (List Key)
 | []=>some []
 | x::xs=>(pr x).bind fun k=>(fC xs).bind fun ks=>some (k::ks)
theorem RE {q:Key} (h:pr x=some q):x=bM q:=by
 cases x<;>cases h<;>rfl
theorem Br:∀{xs:List Val} {q:List Key},fC xs=some q->xs=q.map bM
 | [],_,h=>by cases h; rfl
 | x :: xs, q, h => by
  unfold fC at h
  cases h1:pr x with
  | none=>rw[h1] at h; cases h
  | some k =>
   rw[h1] at h;have h:(fC xs).bind (fun ks=>some (k::ks))=some q:=h
   cases h2:fC xs with
   | none=>rw[h2] at h; cases h
   | some ks =>
    rw[h2] at h
    cases h
    rw[RE h1,Br h2]<;>rfl
theorem vq {P:Addr->Prop} {q:Key} (h:bw K ct P H v (bM q)):v=kV q/\nJ q:=by
 cases q with
 | inl i=>exact⟨h,trivial⟩
 | inr s=>exact⟨h.1,h.2⟩
theorem CJ {P:Addr->Prop}:∀{q:List Key} {vs:List V},ViewL K ct P H vs (q.map bM)->vs=q.map kV/\∀k∈q,nJ k
 | [],[],_=>⟨rfl,fun _ z=>nomatch z⟩
 | k::q,v::vs,h=>by
  obtain⟨e1,e2⟩:=vq h.1;obtain⟨e3,e4⟩:=CJ h.2;refine⟨by rw[e1,e3]<;>rfl,fun z hz=>?_⟩
  rcases aU.mp hz with y|y
  ·rw[y]; exact e2
  ·exact e4 z y
 | [],_::_,h=>h.elim
 | _::_,[],h=>h.elim
theorem yL {P:Addr->Prop} {q:List Key} (h:bw K ct P H v (gZ q)):∃b,v=.ref b/\H b=some (.tup (q.map kV))/\∀k∈q,nJ k:=by
 obtain⟨b,vs,e,h1,_,h2⟩:=h;obtain⟨e1,e2⟩:=CJ h2;exact⟨b,e,by rw[h1,e1],e2⟩
def kindOf:Val->Option Bool
 | .int _=>some false
 | .str _=>some false
 | .tup xs=>(fC xs).map fun _=>true
 | _=>none
theorem Bs:∀{ks:List NestedKey},ks.all Tw.qo=false->fC (nVals ks)=none
 | [],h=>by cases h
 | k :: ks, h => by
  show(pr (dw k)).bind _=_
  rw[List.all_cons] at h
  cases hk:k with
  | none=>rfl
  | tup _=>rfl
  | num i =>
   rw[hk] at h
   show(fC (nVals ks)).bind _=_
   rw[Bs (ks:=ks) (by simpa [Tw.qo] using h)]<;>rfl
  | text x =>
   rw[hk] at h
   show(fC (nVals ks)).bind _=_
   rw[Bs (ks:=ks) (by simpa [Tw.qo] using h)]<;>rfl
theorem wS {k:NestedKey} (h:Tw.j8 k=false):kindOf (dw k)=none:=by
 cases k with
 | none=>rfl
 | num i=>cases h
 | text x=>cases h
 | tup ks =>
  show(fC (nVals ks)).map _=_
  rw[Bs h]<;>rfl
def fits {α:Type} (kvs:List (Val×α)) (key:Val):Bool:=match kvs with
 | []=>(kindOf key).isSome
 | (k,_)::_=>decide (kindOf k=kindOf key) && (kindOf key).isSome
section put
variable {κ:Type} [DecidableEq κ]
theorem zX {q:κ} {v:V} {vs:List (κ×V)}:(putK vs q v).map (·.1)=if q∈vs.map (·.1) then vs.map (·.1) else vs.map (·.1)++[q]:=by
 unfold putK
 have e:(vs.any fun kv=>decide (kv.1=q))=decide (q∈vs.map (·.1)):=by
  rw[Bool.eq_iff_iff];simp only[List.any_eq_true,decide_eq_true_eq,List.mem_map]
 rw[e]
 by_cases h:q∈vs.map (·.1)
 ·rw[if_pos (by simpa using h),if_pos h,cF];apply jJ;intro p _
  show(if p.1=q then (p.1,v) else p).1=p.1
  split<;>rfl
 ·rw[if_neg (by simpa using h),if_neg h,dA]<;>rfl
theorem D9 {q:κ} {v:V} {vs:List (κ×V)} (h:(vs.map (·.1)).Nodup):((putK vs q v).map (·.1)).Nodup:=by
 rw[zX];split
 ·exact h
 ·rename_i n
  exact cA.mpr ⟨h,by simp,fun a ha b hb e=>by
   rw[bm.mp hb] at e;subst e
   exact n ha⟩
theorem Ea {q:κ} {v:V} {vs:List (κ×V)}:(putK vs q v).length<=vs.length+1:=by
 unfold putK;split
 ·rw[aT]; omega
 ·rw[cX]; simp
theorem zW (f:κ->Val) (hf:∀a b,f a=f b->a=b) {q:κ} {v:V}:∀{vs:List (κ×V)},(vs.map (·.1)).Nodup->(putK vs q v).map (fun p=>(f p.1,p.2))=bJ (vs.map fun p=>(f p.1,p.2)) (f q) v
 | [],_=>rfl
 | p :: r, nd => by
  rw[bU] at nd;obtain⟨n1,n2⟩:=bT.mp nd;have ih:=zW f hf (q:=q) (v:=v) n2
  by_cases e:p.1=q
  ·have hq:∀z∈r,¬z.1=q:=fun z hz e'=>n1 (by rw[e,←e']; exact pC hz)
   have e1:putK (p::r) q v=(p.1,v)::r:=by
    unfold putK;rw[List.any_cons,decide_eq_true e,qZ,if_pos rfl,bU,if_pos e]
    congr 1
    conv=>rhs; rw[←List.map_id' r]
    apply jJ;intro z hz;rw[if_neg (hq z hz)]
   rw[e1,bU,bU];unfold bJ;rw[if_pos (by rw[e])]
  ·have e1:putK (p::r) q v=p::putK r q v:=by
    unfold putK;rw[List.any_cons,decide_eq_false e,Bool.false_or];split
    ·rw[bU,if_neg e]
    ·rfl
   rw[e1,bU,bU,ih]
   show _=bJ ((f p.1,p.2)::r.map _) (f q) v
   conv=>rhs; unfold bJ
   rw[if_neg fun z=>e (hf _ _ z)]
end put
theorem ww {key:Val}:∀{ps:List (Val×V)} {kvs:List (Val×OV)} {F:List Addr},ORepP K ct Φ H ps kvs F->F.Nodup->aR K ct Φ H v o D->D.Nodup->(∀a∈D,a∉F)->∃F',ORepP K ct Φ H (bJ ps key v) (bJ kvs key o) F'/\F'.Nodup/\∀a∈F',a∈F\/a∈D
 | [],[],F,r,nd,ro,dn,dj=>by
  have e:F=[]:=r;subst e;exact⟨D,⟨D,[],(b6 D).symm,rfl,ro,rfl⟩,dn,fun _ z=>.inr z⟩
 | (g', u) :: ps, (g, y) :: kvs, F, r, nd, ro, dn, dj => by
  obtain⟨F1,F2,rfl,e,r1,r2⟩:=r;have e:g'=g:=e;subst e;obtain⟨n1,n2,n3⟩:=cA.mp nd;unfold bJ
  by_cases e:g'=key
  ·rw[if_pos e,if_pos e];refine⟨D++F2,⟨D,F2,rfl,rfl,ro,r2⟩,cA.mpr ⟨dn,n2,fun a ha b hb z=>dj a ha (aJ _ (z▸hb))⟩,fun a ha=>?_⟩
   rcases bc.mp ha with z|z
   ·exact .inr z
   ·exact .inl (aJ _ z)
  ·rw[if_neg e,if_neg e]
   obtain⟨F',m1,m2,m3⟩:=ww (key:=key) r2 n2 ro dn fun a ha z=>dj a ha (aJ _ z)
   refine⟨F1++F',⟨F1,F',rfl,rfl,r1,m1⟩,cA.mpr ⟨n1,m2,fun a ha b hb z=>?_⟩,fun a ha=>?_⟩
   ·subst z
    rcases m3 a hb with y|y
    ·exact n3 a ha a y rfl
    ·exact dj a y (au _ ha)
   ·rcases bc.mp ha with z|z
    ·exact .inl (au _ z)
    ·exact(m3 a z).imp (aJ _) id
 | [],_::_,_,r,_,_,_,_=>r.elim
 | _::_,[],_,r,_,_,_,_=>r.elim
theorem wy {ps:List (Val×V)} {kvs:List (Val×OV)} {F:List Addr} (h:ORepP K ct Φ H ps kvs F):ps.length=kvs.length:=by
 induction ps generalizing kvs F with
 | nil=>cases kvs with
  | nil=>rfl
  | cons _ _=>exact h.elim
 | cons p ps ih => cases kvs with
  | nil=>exact h.elim
  | cons q kvs =>
   obtain⟨F1,F2,rfl,_,_,h2⟩:=h;rw[cR,cR,ih h2]
theorem GB {l : Addr} {ps : List (Val × V)} {kvs : List (Val × OV)} {F : List Addr} {P : Addr -> Prop} {key : Val} {y : V} (h : hZ ct H l (fun o => H l = some o) ps) (hr : ORepP K ct Φ H ps kvs F) (hf : fits kvs key = true) (hl : kvs.length < bL) (hk : bw K ct P H y key) (he : kvs = [] -> H l = some (if kindOf key = some true then .dT [] else .dK [])) :
  ∃u,DPut H l y v (upd H l u)/\o5 u/\∀{H':Hp} {l':Addr} (R:HO->Prop),R u->hZ ct H' l' R (bJ ps key v):=by
 have hlen:=wy hr
 have main : (∃ q, key = bM q /\ ∃ vs : List (Key × V), H l = some (.dK vs) /\ ps = vs.map (fun p => (bM p.1, p.2)) /\ vs.length <= sizeLine /\ (vs.map (·.1)).Nodup /\ ∀ p ∈ vs, nJ p.1) \/
   (∃q,key=gZ q/\∃vs:List (List Key×V),H l=some (.dT vs)/\ps=vs.map (fun p=>(gZ p.1,p.2))/\vs.length<=sizeLine/\(vs.map (·.1)).Nodup/\∀p∈vs,∀k∈p.1,nJ k):=by
  have kk:∀{z:Val} {b:Bool},kindOf z=some b->(b=false/\∃q,z=bM q)\/(b=true/\∃q,z=gZ q):=fun {z b} e=>by
   cases z with
   | int i=>cases e; exact .inl ⟨rfl,.inl i,rfl⟩
   | str s=>cases e; exact .inl ⟨rfl,.inr s,rfl⟩
   | tup xs =>
    have e:(fC xs).map (fun _=>true)=some b:=e
    cases q:fC xs with
    | none=>rw[q] at e; cases e
    | some ks=>rw[q] at e; cases e; exact .inr ⟨rfl,ks,congrArg Val.tup (Br q)⟩
   | _=>cases e
  cases kvs with
  | nil =>
   have hs:(kindOf key).isSome=true:=hf
   cases hkd:kindOf key with
   | none=>rw[hkd] at hs; cases hs
   | some b =>
    have he:=he rfl;rw[hkd] at he
    cases ps with
    | cons _ _=>exact hr.elim
    | nil =>
     rcases kk hkd with⟨rfl,q,e⟩|⟨rfl,q,e⟩
     ·exact .inl ⟨q,e,[],he,rfl,eR _,b5,fun _ z=>nomatch z⟩
     ·exact .inr ⟨q,e,[],he,rfl,eR _,b5,fun _ z=>nomatch z⟩
  | cons z kvs =>
   have hf:(decide (kindOf z.1=kindOf key) && (kindOf key).isSome)=true:=hf;rw[bN,decide_eq_true_eq] at hf;obtain⟨h1,h2⟩:=hf
   cases hkd:kindOf key with
   | none=>rw[hkd] at h2; cases h2
   | some b =>
    rw[hkd] at h1
    cases ps with
    | nil=>exact hr.elim
    | cons p ps =>
     obtain⟨F1,F2,_,hp,_,_⟩:=hr;have hp:p.1=z.1:=hp
     rcases h with⟨vs,g1,g2,g3⟩|⟨vs,g1,g2,g3⟩|⟨q,xs,g1,g2,g3,g4⟩
     rotate_right
     ·exfalso
      have e2:p=(dw q.1,q.2.2):=(List.cons.inj g2).1;rw[←hp,e2,wS (g4 q (ao ..))] at h1
      cases h1
     ·refine .inl ?_
      rcases kk hkd with⟨_,q,e⟩|⟨eb,q,e⟩
      ·exact⟨q,e,vs,g1,g2,g3⟩
      ·exfalso
       cases vs with
       | nil=>cases g2
       | cons w vs =>
        have e2:p=(bM w.1,w.2):=(List.cons.inj g2).1;rw[←hp,e2,eb] at h1;have h1:kindOf (bM w.1)=some true:=h1
        cases hw:w.1<;>rw[hw] at h1<;>cases h1
     ·refine .inr ?_
      rcases kk hkd with⟨eb,q,e⟩|⟨_,q,e⟩
      ·exfalso
       cases vs with
       | nil=>cases g2
       | cons w vs =>
        have e2:p=(gZ w.1,w.2):=(List.cons.inj g2).1;rw[←hp,e2,eb] at h1;have h1:(fC (w.1.map bM)).map (fun _=>true)=some false:=h1
        cases hw:fC (w.1.map bM)<;>rw[hw] at h1<;>cases h1
      ·exact⟨q,e,vs,g1,g2,g3⟩
 rcases main with⟨q,rfl,vs,g1,rfl,g3,g4,g5⟩|⟨q,rfl,vs,g1,rfl,g3,g4,g5⟩
 ·obtain⟨e1,e2⟩:=vq hk;rw[aT] at hlen;refine⟨.dK (putK vs q v),by rw[e1]; exact DPut.k g1 (by rw[hlen]; exact gY hl),trivial,fun {H' l'} R r=>.inl ⟨putK vs q v,r,(zW bM (fun _ _=>qA) g4).symm,?_,D9 g4,fun z hz=>?_⟩⟩
  ·have:=Ea (q:=q) (v:=v) (vs:=vs);have:=gY hl;omega
  ·have hz1:z.1∈(putK vs q v).map (·.1):=pC hz;rw[zX] at hz1;split at hz1
   ·obtain⟨y,hy,ey⟩:=aW.mp hz1; rw[←ey]; exact g5 y hy
   ·rcases bc.mp hz1 with y|y
    ·obtain⟨y,hy,ey⟩:=aW.mp y; rw[←ey]; exact g5 y hy
    ·rw[bm.mp y]; exact e2
 ·obtain⟨b,e1,e2,e3⟩:=yL hk;rw[aT] at hlen;refine⟨.dT (putK vs q v),by rw[e1]; exact DPut.t g1 e2 (by rw[hlen]; exact gY hl),trivial,fun {H' l'} R r=>.inr <| .inl ⟨putK vs q v,r,(zW gZ (fun _ _=>AG) g4).symm,?_,D9 g4,fun z hz=>?_⟩⟩
  ·have:=Ea (q:=q) (v:=v) (vs:=vs);have:=gY hl;omega
  ·have hz1:z.1∈(putK vs q v).map (·.1):=pC hz;rw[zX] at hz1;split at hz1
   ·obtain⟨y,hy,ey⟩:=aW.mp hz1; rw[←ey]; exact g5 y hy
   ·rcases bc.mp hz1 with y|y
    ·obtain⟨y,hy,ey⟩:=aW.mp y; rw[←ey]; exact g5 y hy
    ·rw[bm.mp y]; exact e3
end
end Mp
namespace Mp
open PySem L2
def qD:OV->Option Unit
 | .dict _=>some ()
 | _=>none
def iR (key:Val) (o:OV):OV->Option OV
 | .dict kvs=>if kvs.length<bL/\fits kvs key=true then some (.dict (bJ kvs key o)) else none
 | _=>none
def dL (k:Nat) (p:List PStep) (js:List Nat) (a b:Ef):Sf:=fun S=>(Out.of ((bF k p S).bind qD) S).bind fun _ _=>(a S).bind fun o S1=>(Out.of (bO js o) S1).bind fun o' _=>(b S1).bind fun kx S2=>(Out.of kx.fzv S2).bind fun key _=>(Out.of (bH k p (iR key o') S2) S2).bind fun S3 _=>.ok .nx S3
section
variable {K:PySem.W.Frag} {ct:Tw.Ct} {E:Exn->St->Hp->Prop} {B:Hp} {X:List Addr} {Φ Φ0:Addr->Prop} {σ:St} {W W' W1:Wd} {H:Hp} {j k:Nat} {x:Val} {v:V} {js wr1 js2 wr2 pin:List Nat} {o c:OV} {a b:Ef} {p:List PStep} {D:Ends}
theorem qO (h:o.fzv=some x):o=.fz x:=by
 cases o with
 | fz y=>cases h; rfl
 | _=>cases h
theorem rW {l:Addr} {u:HO}:∀b,H b≠none->upd H l u b≠none:=fun b hb=>by
 by_cases e:b=l
 ·subst e; rw[upd_same]; exact fun z=>nomatch z
 ·rw[upd_ne e]; exact hb
theorem Sat.wrote (s:Sat K ct B X Φ0 σ W) {l:Addr} {u:HO} (hl:l∈W.Fs k):cg W.Φ W.H (upd W.H l u):=fun b z hb hp=>by
 refine⟨z,?_,.inl rfl⟩;rw[upd_ne fun e=>?_]
 ·exact hb
 ·subst e
  rcases hp with hp|hp
  ·exact s.nph k b hl hp
  ·obtain⟨u',e,n⟩:=s.liveF hl;rw[hb] at e; cases e; exact n hp
theorem J9 (ok:fO K ct p) (jS:k∉wr1) (gD:k∉wr2) (q:tS K ct E pin (dL k p js a b) (wr1++wr2++[k]) D σ H):alt (sDPut (dJ K (tVar k) p) (tE K ct E b js2 wr2) (tE K ct E a js wr1)) D σ H:=by
 obtain⟨B,X,Φ0,W,rfl,s,q⟩:=fT.mp q;unfold dL at q
 have l1:∀k'∈wr1,k'∈wr1++wr2++[k]:=fun k' h=>au _ (au _ h)
 cases hp:(bF k p W.S).bind qD with
 | none=>rw[hp] at q; exact q.elim
 | some u =>
 rw[hp,Out.of_some,Out.bind_ok] at q;obtain⟨o,c,k1,k2,k3⟩:=qg hp
 cases ha:a W.S with
 | no=>rw[ha] at q; exact q.elim
 | ex e S' =>
  rw[ha] at q;refine .inl ⟨B,X,Φ0,W,rfl,s,?_⟩;rw[ha]
  exact fun W' s' e' a'=>q σ W' s' e' (a'.mono l1)
 | ok y S1 =>
 rw[ha,Out.bind_ok] at q
 cases hx:bO js y with
 | none=>rw[hx] at q; exact q.elim
 | some o' =>
 rw[hx,Out.of_some,Out.bind_ok] at q
 -- what the rest of the statement does,wherever it starts
 have core : ∀ W0, Sat K ct B X Φ0 σ W0 -> W0.S = W.S -> Step [k] W W0 -> (∀ S2 kx key, b S1 = .ok kx S2 -> kx.fzv = some key -> ∀ l, fN ct W0.H p (match σ[k]? with | some (some v) => v | _ => .non) (.ref l) -> c = .dict [] -> W0.H l = some (if kindOf key = some true then .dT [] else .dK [])) ->
   sDPut (dJ K (tVar k) p) (tE K ct E b js2 wr2) (tE K ct E a js wr1) D σ W0.H:=by
  intro W0 s0 eS st0 hkind;refine⟨B,X,Φ0,W0,rfl,s0,?_⟩;rw[eS,ha];intro v W1 D1 s1 e1 a1 t1;subst e1;obtain⟨D1',t1',_⟩:=oX t1 hx
  have hk1:W1.S[k]?=some (some o):=by rw[a1.ks k jS,eS,k1]
  obtain⟨v0,w0,F0,r1,r2,r3⟩:=s1.recv hk1 k2;refine lQ ok r1 r2 ⟨B,X,Φ0,W1,rfl,s1,?_⟩;have a01:Step ([k]++wr1) W W1:=st0.trans a1
  cases hb:b W1.S with
  | no=>rw[hb] at q; exact q.elim
  | ex e S' =>
   rw[hb] at q
   exact fun W' s' e' a'=>q σ W' s' e' ((a01.trans a').mono fun k' h=>by simp only[List.mem_append,List.mem_singleton] at h ⊢; rcases h with(h|h)|h<;>simp[h])
  | ok kx S2 =>
   rw[hb,Out.bind_ok] at q;intro y2 W2 D2 s2 e2 a2 t2;subst e2
   cases hz:kx.fzv with
   | none=>rw[hz] at q; exact q.elim
   | some key =>
    rw[hz,Out.of_some,Out.bind_ok] at q
    have vk:bw K ct W2.Φ W2.H y2 key:=by
     rw[qO hz] at t2;exact t2.rep.1
    cases hm:bH k p (iR key o') W2.S with
    | none=>rw[hm] at q; exact q.elim
    | some S3 =>
     rw[hm,Out.of_some,Out.bind_ok] at q;obtain⟨o2,c2,c3,g1,g2,g3,rfl⟩:=nG hm
     have eo:o2=o:=by
      rw[a2.ks k gD,hk1] at g1;exact(Option.some.inj (Option.some.inj g1)).symm
     subst eo;have ec:c2=c:=Option.some.inj (g2.symm.trans k2);subst ec;have a02:Step ([k]++wr1++wr2) W W2:=a01.trans a2;obtain⟨v',w',Fc,y1,z2,z3,z4,z5,mk⟩:=s2.modify (a1.trans a2) g1 g2;rw[r1] at y1
     cases y1
     have ew:=iQ r2 (s1.pathV a2 s2 gD g1 g2 r1 z2);subst ew
     cases c2 with
     | dict kvs =>
      have g3:(if kvs.length<bL/\fits kvs key=true then some (OV.dict (bJ kvs key o')) else none)=some c3:=g3;split at g3
      ·rename_i hh
       cases g3
       obtain⟨l,ps,F',rfl,b1,b2,rfl⟩:=z3
       have t1'':=t1'.step s1 a1 a2 fun _ z=>nomatch z
       have lk:l∈W2.Fs k:=z4 l (ao ..)
       have he:kvs=[]->W2.H l=some (if kindOf key=some true then .dT [] else .dK []):=fun e=>by
        have pv:fN ct W0.H p v0 (.ref l):=s0.pathV a1 s1 jS hk1 k2 r1 (by exact r2);have h0:=hkind W2.S kx key hb hz l (by rw[r1]; exact pv) (by rw[e])
        have lk0:l∈W0.Fs k:=by
         have z:=a1.kf k jS;have z':=a2.kf k gD;rw[←z,←z']; exact lk
        exact(a1.trans a2).fr l _ h0 fun⟨j,hj,hl⟩=>by
         have:=s0.dj k j l lk0 hl;subst this
         rcases bc.mp hj with hj|hj
         ·exact jS hj
         ·exact gD hj
       obtain⟨u,d1,d2,d3⟩:=GB (v:=v) b1 b2 hh.2 hh.1 vk he;have lF:l∉F':=(bT.mp z5).1;have kp:=s2.wrote (u:=u) lk
       have dnot:∀x∈D1',∀j,x∉W2.Fs j:=fun x hx j hj=>by cases t1''.dj x hx j hj
       obtain⟨F2,m1,m2,m3⟩:=ww (key:=key) (b2.keep (fun _ z=>z) kp kvs fun b hb=>upd_ne fun e=>lF (e▸hb)) (bT.mp z5).2 (t1''.rep.keep (fun _ z=>z) kp _ fun b hb=>upd_ne fun e=>dnot b hb k (by rw[e]; exact lk)) t1''.nd fun x hx hf=>dnot x hx k (z4 x (aE _ hf))
       have lF2:l∉F2:=fun h=>by
        rcases m3 l h with h|h
        ·exact lF h
        ·exact dnot l h k lk
       have hD:∀x∈D1',¬W2.Φ x/\(∀j,x∉W2.Fs j)/\(B x=none\/x∈X)/\(Own W0.Fs (wr1++wr2) x\/W0.H x=none):=fun x hx=>⟨t1''.nph x hx,dnot x hx,t1'.owner s0 x hx,by
        rcases t1''.src x hx with h|⟨_,h,_⟩|h
        ·exact .inl h
        ·cases h
        ·exact .inr h⟩
       obtain⟨W',n1,n2,n3,n4,n5,_⟩:=mk (upd W2.H l u) (.dict (bJ kvs key o')) (l::F2) D1' (fun b z hb hn'=>by
        rw[upd_ne fun e=>hn' (by rw[e]; exact ao ..)]; exact hb) rW ⟨l,_,F2,rfl,d3 _ upd_same,m1,rfl⟩ (bT.mpr ⟨lF2,m2⟩) (fun x hx=>by
        rcases aU.mp hx with h|h
        ·exact .inl (by rw[h]; exact ao ..)
        ·exact(m3 x h).imp (aE _) id) hD
       ·refine⟨l,upd W2.H l u,rfl,d1,?_⟩;rw[←n3];exact q σ W' (b4.refl pin σ) n1 n2 ((st0.trans n5).mono fun k' h=>by simp only[List.mem_append,List.mem_singleton] at h ⊢; rcases h with h|(h|h)|h<;>simp[h])
      ·cases g3
     | fz _=>cases g3
     | lst _=>cases g3
     | obj _ _=>cases g3
 cases c with
 | dict kvs =>
  cases kvs with
  | cons z kvs=>exact .inl (core W s rfl ((Step.refl W).mono fun _ z=>(nomatch z)) fun _ _ _ _ _ _ _ e=>(nomatch OV.dict.inj e))
  | nil =>
   -- the kind that is wanted
   have pick:∀T:Bool,(∀S2 kx key,b S1=.ok kx S2->kx.fzv=some key->decide (kindOf key=some true)=T)->alt (sDPut (dJ K (tVar k) p) (tE K ct E b js2 wr2) (tE K ct E a js wr1)) D σ W.H:=fun T hT=>by
    obtain⟨v,l,W0,y1,y2,s0,eS,st0,y3,hH,hl⟩:=s.alt k1 k2 T
    have c0:=core W0 s0 eS st0 fun S2 kx key e1 e2 l' pv _=>by
     rw[y1] at pv;have e4:V.ref l=V.ref l':=iQ y3 pv
     cases e4
     have e6:=hT S2 kx key e1 e2;rw[hl]
     cases T with
     | true=>rw[if_pos rfl,if_pos (of_decide_eq_true e6)]
     | false=>rw[if_neg (by decide),if_neg (of_decide_eq_false e6)]
    rcases hH with e|⟨e1,e2⟩|⟨e1,e2⟩
    ·rw[e] at c0; exact .inl c0
    ·rw[e2] at c0; exact .inr ⟨l,.inl ⟨e1,c0⟩⟩
    ·rw[e2] at c0; exact .inr ⟨l,.inr ⟨e1,c0⟩⟩
   cases hb:b S1 with
   | no=>rw[hb] at q; exact q.elim
   | ex e S'=>exact pick false fun _ _ _ e=>by rw[hb] at e; cases e
   | ok kx S2 =>
    cases hz:kx.fzv with
    | none=>rw[hb,Out.bind_ok,hz] at q; exact q.elim
    | some key =>
     refine pick (decide (kindOf key=some true)) ?_;intro _ _ _ e1 e2;rw[hb] at e1
     cases e1
     rw[hz] at e2
     cases e2
     rfl
 | fz _=>cases k3
 | lst _=>cases k3
 | obj _ _=>cases k3
end
end Mp
namespace Mp
open PySem L2
section
variable {K:PySem.W.Frag} {ct:Tw.Ct} {E:Exn->St->Hp->Prop} {B:Hp} {X:List Addr} {Φ Φ0:Addr->Prop} {σ:St} {W W' W1 W2:Wd} {H H':Hp} {i j k:Nat} {x:Val} {v w:V} {js wr wr1 js2 wr2 pin:List Nat} {o r c c':OV} {f g:Sf} {a b:Ef} {p:List PStep} {Q:VK} {D:Ends}
theorem Sat.wlist (s:Sat K ct B X Φ0 σ W2) (st:Step wr W W2) {ys:List OV} (g1:W2.S[k]?=some (some o)) (g2:bZ p o=some (.lst ys)):∃v l vs F',σ[k]?=some (some v)/\fN ct W2.H p v (.ref l)/\W2.H l=some (.lst vs)/\vs.length<=sizeLine/\ORepL K ct W2.Φ W2.H vs ys F' /\
  ∀vs' ys',vs'.length<=sizeLine->(∀H',cg W2.Φ W2.H H'->(∀b∈F',H' b=W2.H b)->ORepL K ct W2.Φ H' vs' ys' F')->∃W',Sat K ct B X Φ0 σ W'/\W'.S=W2.S.set k (some (cq p o (.lst ys')))/\W'.H=upd W2.H l (.lst vs')/\W'.Φ=W'.Φ/\Step (wr++[k]) W W':=by
 obtain⟨v,w,Fc,y1,y2,y3,y4,y5,mk⟩:=s.modify st g1 g2;obtain⟨l,vs,F',rfl,b1,b2,b3,rfl⟩:=y3;refine⟨v,l,vs,F',y1,y2,b1,b2,b3,fun vs' ys' hl hr=>?_⟩;have lF:l∉F':=(bT.mp y5).1;have lk:l∈W2.Fs k:=y4 l (ao ..)
 obtain⟨W',m1,m2,m3,m4,m5,_⟩:=mk (upd W2.H l (.lst vs')) (.lst ys') (l::F') [] (fun b z hb hn'=>by
  rw[upd_ne fun e=>hn' (by rw[e]; exact ao ..)]; exact hb) rW ⟨l,vs',F',rfl,upd_same,hl,hr _ (s.wrote lk) fun b hb=>upd_ne fun e=>lF (e▸hb),rfl⟩ y5 (fun _ z=>.inl z) fun _ z=>nomatch z
 exact⟨W',m1,m2,m3,rfl,m5⟩
theorem Ew:∀{vs:List V} {ys:List OV} {F:List Addr},ORepL K ct Φ H vs (ys++[.fz x]) F->∃vs0 v,vs=vs0++[v]/\ORepL K ct Φ H vs0 ys F/\bw K ct Φ H v x
 | [],[],_,h=>h.elim
 | [],_::_,_,h=>h.elim
 | [v],[],F,h=>by
  obtain⟨F1,F2,rfl,h1,h2⟩:=h;have e1:=h1.2;have e2:F2=[]:=h2;subst e2;rw[e1];exact⟨[],v,rfl,rfl,h1.1⟩
 | _::_::_,[],_,h=>by
  obtain⟨F1,F2,_,_,h2⟩:=h;exact h2.elim
 | v::vs,y::ys,F,h=>by
  obtain⟨F1,F2,rfl,h1,h2⟩:=h;obtain⟨vs0,u,e,h3,h4⟩:=Ew h2;exact⟨v::vs0,u,by rw[e]<;>rfl,⟨F1,F2,rfl,h1,h3⟩,h4⟩
def nI:OV->Option (List OV×Val)
 | .lst xs=>match xs.getLast? with
  | some (.fz x)=>some (xs.dropLast,x)
  | _=>none
 | _=>none
def cZ (k:Nat) (p:List PStep):Ef:=fun S=>(Out.of ((bF k p S).bind nI) S).bind fun q _=>(Out.of (bH k p (fun _=>some (.lst q.1)) S) S).bind fun S1 _=>.ok (.fz q.2) S1
theorem Ov {q:List OV×Val} (h:nI c=some q):c=.lst (q.1++[.fz q.2]):=by
 cases c with
 | lst xs =>
  have h:(match xs.getLast? with|some (.fz x)=>some (xs.dropLast,x)|_=>none)=some q:=h
  cases e:xs.getLast? with
  | none=>rw[e] at h; cases h
  | some y =>
   rw[e] at h
   cases y with
   | fz x =>
    cases h
    have hne:xs≠[]:=fun z=>by rw[z] at e; cases e
    have e2:=List.getLast?_eq_some_getLast hne;rw[e] at e2;have e3:xs.getLast hne=.fz x:=(Option.some.inj e2).symm
    show OV.lst xs=.lst (xs.dropLast++[.fz x])
    rw[←e3,List.dropLast_concat_getLast]
   | _=>cases h
 | _=>cases h
theorem Ka (ok:fO K ct p) (q:tE K ct E (cZ k p) [] [k] σ H Q):tBM0 K "list" rPop (dJ K (tVar k) p) σ H Q:=by
 obtain⟨B,X,Φ0,W,rfl,s,q⟩:=q;unfold cZ at q
 cases hp:(bF k p W.S).bind nI with
 | none=>rw[hp] at q; exact q.elim
 | some z =>
 rw[hp,Out.of_some,Out.bind_ok] at q
 cases hm:bH k p (fun _=>some (.lst z.1)) W.S with
 | none=>rw[hm] at q; exact q.elim
 | some S3 =>
 rw[hm,Out.of_some,Out.bind_ok] at q;obtain⟨o,c,c',k1,k2,k3,rfl⟩:=nG hm
 have hc:nI c=some z:=by
  unfold bF at hp;rw[k1] at hp;have hp:(bZ p o).bind nI=some z:=hp;rw[k2] at hp;exact hp
 have e:=Ov hc;subst e
 cases k3
 obtain⟨v,l,vs,F',y1,y2,b1,b2,b3,mk⟩:=s.wlist (Step.refl W) k1 k2;obtain⟨vs0,u,rfl,h1,h2⟩:=Ew b3;refine lQ ok y1 y2 ⟨yY b1,?_⟩
 obtain⟨W',m1,m2,m3,_,m5⟩:=mk vs0 z.1 (by rw[cX] at b2; omega) fun H' kp hF=>h1.keep (fun _ z=>z) kp _ hF
 refine⟨l,vs0++[u],u,rfl,rfl,b1,by simp,?_⟩;rw[List.dropLast_concat,←m3];refine q u W' [] m1 m2 (m5.mono (by simp)) (iy ?_);have kp:=s.keeps m5;exact h2.keep m5.ph kp _
def jg:List OV->Option (List Val)
 | []=>some []
 | .fz x::r=>(jg r).bind fun xs=>some (x::xs)
 | _::_=>none
def oN:OV->Option (List Val)
 | .lst xs=>jg xs
 | _=>none
theorem xM:∀{xs:List OV} {ys:List Val},jg xs=some ys->xs=aF ys
 | [],_,h=>by cases h; rfl
 | .fz x::r,ys,h=>by
  have h:(jg r).bind (fun xs=>some (x::xs))=some ys:=h
  cases e:jg r with
  | none=>rw[e] at h; cases h
  | some zs=>rw[e] at h; cases h; rw[xM e]<;>rfl
 | .lst _::_,_,h|.dict _::_,_,h|.obj _ _::_,_,h=>by cases h
theorem wz:∀{vs:List V} {xs:List Val} {F:List Addr},ORepL K ct Φ H vs (aF xs) F->ViewL K ct Φ H vs xs/\F=[]
 | [],[],_,h=>⟨trivial,h⟩
 | _::_,_::_,_,h=>by
  obtain⟨F1,F2,rfl,h1,h2⟩:=h;obtain⟨h3,e⟩:=wz h2;exact⟨⟨h1.1,h3⟩,by rw[h1.2,e]<;>rfl⟩
 | [],_::_,_,h=>h.elim
 | _::_,[],_,h=>h.elim
theorem MF {vs us:List V} {ys:List OV} {xs:List Val} {F:List Addr} (h:ORepL K ct Φ H vs ys F) (hx:ViewL K ct Φ H us xs):ORepL K ct Φ H (vs++us) (ys++aF xs) F:=by
 induction vs generalizing ys F with
 | nil => cases ys with
  | nil =>
   have e:F=[]:=h;subst e;exact ny hx
  | cons _ _=>exact h.elim
 | cons u vs ih => cases ys with
  | nil=>exact h.elim
  | cons y ys =>
   obtain⟨F1,F2,rfl,h1,h2⟩:=h;exact⟨F1,F2,rfl,h1,ih h2⟩
def Aq (xs:List Val):OV->Option OV
 | .lst ys=>if ys.length+xs.length<bL then some (.lst (ys++aF xs)) else none
 | _=>none
def dz (k:Nat) (p:List PStep) (a:Ef):Ef:=fun S=>(Out.of ((bF k p S).bind o4) S).bind fun _ _=>(a S).bind fun o S1=>(Out.of (oN o) S1).bind fun xs S2=>(Out.of (bH k p (Aq xs) S2) S2).bind fun S3 _=>.ok (.fz .none) S3
theorem KI (ok : fO K ct p) (hn : k ∉ wr) (hj : k ∉ js) (q : tE K ct E (dz k p a) [] (wr ++ [k]) σ H Q) : tBM K "list" rExtend (dJ K (tVar k) p) (tCons (tE K ct E a js wr) tNil) σ H Q := by
 obtain⟨B,X,Φ0,W,rfl,s,q⟩:=q;unfold dz at q
 cases hp:(bF k p W.S).bind o4 with
 | none=>rw[hp] at q; exact q.elim
 | some u =>
 rw[hp,Out.of_some,Out.bind_ok] at q;obtain⟨o,c,k1,k2,k3⟩:=qg hp;obtain⟨v,w,F,r1,r2,r3⟩:=s.recv k1 k2
 cases c with
 | lst xs =>
  obtain⟨l,vs,F1,rfl,l1,l2,l3,rfl⟩:=r3;refine lQ ok r1 r2 ⟨yY l1,B,X,Φ0,W,rfl,s,?_⟩
  cases ha:a W.S with
  | no=>rw[ha] at q; exact q.elim
  | ex e S'=>rw[ha] at q; exact fun W' s' e' a'=>q W' s' e' (a'.mono fun k hk=>au _ hk)
  | ok y S1 =>
   rw[ha] at q;intro u W1 D1 s1 e1 a1 t1;subst e1;rw[Out.bind_ok] at q
   cases hx:oN y with
   | none=>rw[hx] at q; exact q.elim
   | some zs =>
    rw[hx,Out.of_some,Out.bind_ok] at q
    have ey:y=.lst (aF zs):=by
     cases y with
     | lst os=>rw[xM (show jg os=some zs from hx)]
     | _=>cases hx
    subst ey;obtain⟨lb,us,Fb,rfl,c1,c2,c3,rfl⟩:=t1.rep;obtain⟨c4,eF⟩:=wz c3
    cases hm:bH k p (Aq zs) W1.S with
    | none=>rw[hm] at q; exact q.elim
    | some S3 =>
     rw[hm,Out.of_some,Out.bind_ok] at q;obtain⟨o',c',c'',g1,g2,g3,rfl⟩:=nG hm
     cases c' with
     | lst ys =>
      have g3:(if ys.length+zs.length<bL then some (OV.lst (ys++aF zs)) else none)=some c'':=g3;split at g3
      ·rename_i hlim
       cases g3
       obtain⟨v',l',vs',F',y1,y2,b1,b2,b3,mk⟩:=s1.wlist a1 g1 g2;rw[r1] at y1
       cases y1
       have ew:=iQ r2 (s.pathV a1 s1 hn g1 g2 r1 y2)
       cases ew
       have hl:vs'.length+us.length<=sizeLine:=by
        have z:=fG c4;have z2:=lZ b3;have:=gY hlim;omega
       obtain⟨W',m1,m2,m3,_,m5⟩:=mk (vs'++us) (ys++aF zs) (by rw[cX]; exact hl) fun H' kp hF=>MF (b3.keep (fun _ z=>z) kp _ hF) (lO (fun _ z=>z) kp c4)
       refine⟨l,lb,vs',us,rfl,rfl,b1,c1,hl,?_⟩;rw[←m3];exact q .non W' [] m1 m2 m5 (iy (x:=.none) rfl)
      ·cases g3
     | fz _=>cases g3
     | dict _=>cases g3
     | obj _ _=>cases g3
 | fz _=>cases k3
 | dict _=>cases k3
 | obj _ _=>cases k3
def Ff (i:Int) (x:Val):OV->Option OV
 | .lst ys=>(ixN ys.length i).bind fun j=>match ys[j]? with
  | some (.fz _)=>some (.lst (ys.set j (.fz x)))
  | _=>none
 | _=>none
def dR:OV->Option Int
 | .fz (.int i)=>some i
 | _=>none
def sIx (k:Nat) (p:List PStep) (js:List Nat) (a b:Ef):Sf:=fun S=>(a S).bind fun o S1=>(Out.of (aI js o) S1).bind fun x _=>(Out.of ((bF k p S1).bind o4) S1).bind fun _ _=>(b S1).bind fun kx S2=>(Out.of (dR kx) S2).bind fun i _=>(Out.of (bH k p (Ff i x) S2) S2).bind fun S3 _=>.ok .nx S3
theorem F6 {i:Int} (h:dR o=some i):o=.fz (.int i):=by
 cases o with
 | fz y=>cases y<;>cases h; rfl
 | _=>cases h
theorem Ex:∀{vs:List V} {ys:List OV} {F:List Addr} {j:Nat} {y:Val},ORepL K ct Φ H vs ys F->ys[j]?=some (.fz y)->bw K ct Φ H v x->ORepL K ct Φ H (vs.set j v) (ys.set j (.fz x)) F
 | [],[],_,_,_,h,e,_=>by simp at e
 | u::vs,z::ys,F,0,y,h,e,hv=>by
  obtain⟨F1,F2,rfl,h1,h2⟩:=h
  have e:z=.fz y:=by simpa using e
  subst e;exact⟨F1,F2,rfl,⟨hv,h1.2⟩,h2⟩
 | u::vs,z::ys,F,j+1,y,h,e,hv=>by
  obtain⟨F1,F2,rfl,h1,h2⟩:=h;exact⟨F1,F2,rfl,h1,Ex h2 (by simpa using e) hv⟩
 | [],_::_,_,_,_,h,_,_=>h.elim
 | _::_,[],_,_,_,h,_,_=>h.elim
theorem J0 (ok:fO K ct p) (gD:k∉wr2) (q:tS K ct E pin (sIx k p js a b) (wr1++wr2++[k]) D σ H):tAsg (tE K ct E a js wr1) (gSub (dJ K (tVar k) p) (tE K ct E b js2 wr2) rSetL) D σ H:=by
 obtain⟨B,X,Φ0,W,rfl,s,q⟩:=fT.mp q;unfold sIx at q
 have l1:∀k'∈wr1,k'∈wr1++wr2++[k]:=fun k' h=>au _ (au _ h)
 refine⟨B,X,Φ0,W,rfl,s,?_⟩
 cases ha:a W.S with
 | no=>rw[ha] at q; exact q.elim
 | ex e S'=>rw[ha] at q; exact fun W' s' e' a'=>q σ W' s' e' (a'.mono l1)
 | ok y S1 =>
 rw[ha,Out.bind_ok] at q;intro v W1 D1 s1 e1 a1 t1;subst e1
 cases hx:aI js y with
 | none=>rw[hx] at q; exact q.elim
 | some x =>
 rw[hx,Out.of_some,Out.bind_ok] at q;obtain⟨Φ',s1',a1',v1⟩:=jt s s1 a1 t1 hx
 cases hp:(bF k p W1.S).bind o4 with
 | none=>rw[hp] at q; exact q.elim
 | some u =>
 rw[hp,Out.of_some,Out.bind_ok] at q;obtain⟨o,c,k1,k2,k3⟩:=qg hp;obtain⟨v0,w0,F0,r1,r2,r3⟩:=s1'.recv k1 k2;refine lQ ok r1 r2 ⟨B,X,Φ0,{ W1 with Φ:=Φ' },rfl,s1',?_⟩
 show match b W1.S with|.ok r S'=>_|.ex e S'=>_|.no=>False
 cases hb:b W1.S with
 | no=>rw[hb] at q; exact q.elim
 | ex e S' =>
  rw[hb] at q
  exact fun W' s' e' a'=>q σ W' s' e' ((a1'.trans a').mono fun k' h=>au _ h)
 | ok kx S2 =>
 rw[hb,Out.bind_ok] at q;intro y2 W2 D2 s2 e2 a2 t2;subst e2
 cases hz:dR kx with
 | none=>rw[hz] at q; exact q.elim
 | some i =>
 rw[hz,Out.of_some,Out.bind_ok] at q;rw[F6 hz] at t2;have ey:y2=.int i:=t2.rep.1;subst ey
 cases hm:bH k p (Ff i x) W2.S with
 | none=>rw[hm] at q; exact q.elim
 | some S3 =>
 rw[hm,Out.of_some,Out.bind_ok] at q;obtain⟨o',c',c'',g1,g2,g3,rfl⟩:=nG hm
 cases c' with
 | lst ys =>
  have g3:(ixN ys.length i).bind (fun j=>match ys[j]? with|some (.fz _)=>some (OV.lst (ys.set j (.fz x)))|_=>none)=some c'':=g3
  cases hj:ixN ys.length i with
  | none=>rw[hj] at g3; cases g3
  | some j =>
   rw[hj] at g3;have g3:(match ys[j]? with|some (.fz _)=>some (OV.lst (ys.set j (.fz x)))|_=>none)=some c'':=g3
   cases hy:ys[j]? with
   | none=>rw[hy] at g3; cases g3
   | some y =>
    rw[hy] at g3
    cases y with
    | fz y =>
     cases g3
     obtain⟨v',l',vs',F',y1,y3,b1,b2,b3,mk⟩:=s2.wlist (a1'.trans a2) g1 g2;rw[r1] at y1
     cases y1
     have ew:=iQ r2 (s1'.pathV a2 s2 gD g1 g2 r1 y3);subst ew;have v2:=v1.keep a2.ph (s1'.keeps a2) x
     obtain⟨W',m1,m2,m3,_,m5⟩:=mk (vs'.set j v) (ys.set j (.fz x)) (by rw[gG]; exact b2) fun H' kp hF=>Ex (b3.keep (fun _ z=>z) kp _ hF) hy (v2.keep (fun _ z=>z) kp x)
     refine⟨l',vs',i,j,rfl,rfl,b1,by rw[lZ b3]; exact hj,?_⟩;rw[←m3];exact q σ W' (b4.refl pin σ) m1 m2 m5
    | lst _=>cases g3
    | dict _=>cases g3
    | obj _ _=>cases g3
 | fz _=>cases g3
 | dict _=>cases g3
 | obj _ _=>cases g3
def Ap (f:Str) (o:OV):OV->Option OV
 | .obj c fs=>if fs.length<1000 then some (.obj c (gW fs f o)) else none
 | _=>none
def eE (k:Nat) (p:List PStep) (f:Str) (js:List Nat) (a:Ef):Sf:=fun S=>(a S).bind fun o S1=>(Out.of (bO js o) S1).bind fun o' S2=>(Out.of (bH k p (Ap f o') S2) S2).bind fun S3 _=>.ok .nx S3
theorem EA {f:Str} {D:List Addr}:∀{ps:List (Str×V)} {kvs:List (Str×OV)} {F:List Addr},ORepF K ct Φ H ps kvs F->F.Nodup->aR K ct Φ H v o D->D.Nodup->(∀a∈D,a∉F)->∃F',ORepF K ct Φ H (putF f v ps) (gW kvs f o) F'/\F'.Nodup/\∀a∈F',a∈F\/a∈D
 | [],[],F,r,nd,ro,dn,dj=>by
  have e:F=[]:=r;subst e;exact⟨D,⟨D,[],(b6 D).symm,rfl,ro,rfl⟩,dn,fun _ z=>.inr z⟩
 | (g', u) :: ps, (g, y) :: kvs, F, r, nd, ro, dn, dj => by
  obtain⟨F1,F2,rfl,e,r1,r2⟩:=r;have e:g'=g:=e;subst e;obtain⟨n1,n2,n3⟩:=cA.mp nd;unfold gW putF
  by_cases e:g'=f
  ·rw[if_pos e,if_pos e];refine⟨D++F2,⟨D,F2,rfl,rfl,ro,r2⟩,cA.mpr ⟨dn,n2,fun a ha b hb z=>dj a ha (aJ _ (z▸hb))⟩,fun a ha=>?_⟩
   rcases bc.mp ha with z|z
   ·exact .inr z
   ·exact .inl (aJ _ z)
  ·rw[if_neg e,if_neg e]
   obtain⟨F',m1,m2,m3⟩:=EA (f:=f) r2 n2 ro dn fun a ha z=>dj a ha (aJ _ z)
   refine⟨F1++F',⟨F1,F',rfl,rfl,r1,m1⟩,cA.mpr ⟨n1,m2,fun a ha b hb z=>?_⟩,fun a ha=>?_⟩
   ·subst z
    rcases m3 a hb with y|y
    ·exact n3 a ha a y rfl
    ·exact dj a y (au _ ha)
   ·rcases bc.mp ha with z|z
    ·exact .inl (au _ z)
    ·exact(m3 a z).imp (aJ _) id
 | [],_::_,_,r,_,_,_,_=>r.elim
 | _::_,[],_,r,_,_,_,_=>r.elim
theorem MH {ps:List (Str×V)} {kvs:List (Str×OV)} {F:List Addr} (h:ORepF K ct Φ H ps kvs F):ps.length=kvs.length:=by
 induction ps generalizing kvs F with
 | nil=>cases kvs with
  | nil=>rfl
  | cons _ _=>exact h.elim
 | cons p ps ih => cases kvs with
  | nil=>exact h.elim
  | cons q kvs =>
   obtain⟨F1,F2,rfl,_,_,h2⟩:=h;rw[cR,cR,ih h2]
theorem J4 {f:Str} (ok:fO K ct p) (fo:og K ct f) (q:tS K ct E pin (eE k p f js a) (wr++[k]) D σ H):sFld K (dJ K (tVar k) p) (tE K ct E a js wr) f D σ H:=by
 obtain⟨B,X,Φ0,W,rfl,s,q⟩:=fT.mp q;unfold eE at q;refine⟨B,X,Φ0,W,rfl,s,?_⟩
 cases ha:a W.S with
 | no=>rw[ha] at q; exact q.elim
 | ex e S'=>rw[ha] at q; exact fun W' s' e' a'=>q σ W' s' e' (a'.mono fun k hk=>au _ hk)
 | ok y S1 =>
 rw[ha,Out.bind_ok] at q;intro v W1 D1 s1 e1 a1 t1;subst e1
 cases hx:bO js y with
 | none=>rw[hx] at q; exact q.elim
 | some o' =>
 rw[hx,Out.of_some,Out.bind_ok] at q;obtain⟨D',t',_⟩:=oX t1 hx
 cases hm:bH k p (Ap f o') W1.S with
 | none=>rw[hm] at q; exact q.elim
 | some S3 =>
 rw[hm,Out.of_some,Out.bind_ok] at q;obtain⟨o,c,c',g1,g2,g3,rfl⟩:=nG hm;obtain⟨v',w',Fc,y1,y2,y3,y4,y5,mk⟩:=s1.modify a1 g1 g2
 cases c with
 | obj cl fs =>
  have g3:(if fs.length<1000 then some (OV.obj cl (gW fs f o')) else none)=some c':=g3;split at g3
  ·rename_i hh
   cases g3
   obtain⟨l,dx,ps,F',rfl,b1,b2,rfl⟩:=y3;have lk:l∈W1.Fs k:=y4 l (ao ..);have lF:l∉F':=(bT.mp y5).1;have kp:=s1.wrote (u:=.ins (ct cl) dx (putF f v ps)) lk
   have dnot:∀x∈D',∀j,x∉W1.Fs j:=fun x hx j hj=>by cases t'.dj x hx j hj
   obtain⟨F2,m1,m2,m3⟩:=EA (f:=f) (b2.keep (fun _ z=>z) kp fs fun b hb=>upd_ne fun e=>lF (e▸hb)) (bT.mp y5).2 (t'.rep.keep (fun _ z=>z) kp _ fun b hb=>upd_ne fun e=>dnot b hb k (by rw[e]; exact lk)) t'.nd fun x hx hf=>dnot x hx k (y4 x (aE _ hf))
   have lF2:l∉F2:=fun h=>by
    rcases m3 l h with h|h
    ·exact lF h
    ·exact dnot l h k lk
   have hD:∀x∈D',¬W1.Φ x/\(∀j,x∉W1.Fs j)/\(B x=none\/x∈X)/\(Own W.Fs wr x\/W.H x=none):=fun x hx=>⟨t'.nph x hx,dnot x hx,t'.owner s x hx,by
    rcases t'.src x hx with h|⟨_,h,_⟩|h
    ·exact .inl h
    ·cases h
    ·exact .inr h⟩
   obtain⟨W',n1,n2,n3,n4,n5,_⟩:=mk (upd W1.H l (.ins (ct cl) dx (putF f v ps))) (.obj cl (gW fs f o')) (l::F2) D' (fun b z hb hn'=>by
    rw[upd_ne fun e=>hn' (by rw[e]; exact ao ..)]; exact hb) rW ⟨l,dx,putF f v ps,F2,rfl,upd_same,m1,rfl⟩ (bT.mpr ⟨lF2,m2⟩) (fun x hx=>by
    rcases aU.mp hx with h|h
    ·exact .inl (by rw[h]; exact ao ..)
    ·exact(m3 x h).imp (aE _) id) hD
   refine lQ ok y1 y2 ⟨l,ct cl,dx,ps,rfl,b1,(fo cl).1,(fo cl).2,by rw[MH b2]; exact hh,?_⟩;rw[←n3];exact q σ W' (b4.refl pin σ) n1 n2 n5
  ·cases g3
 | fz _=>cases g3
 | dict _=>cases g3
 | lst _=>cases g3
end
end Mp
namespace Mp
open PySem L2
mutual
def Val.pd:Val->PyData
 | .none=>.none
 | .bool b=>.bool b
 | .int i=>.int i
 | .str s=>.str s
 | .tup xs=>.tuple (Val.pds xs)
 | .lst xs=>.list (Val.pds xs)
 | .dict _=>.none
 | .obj _ _=>.none
 | .scr _=>.none
def Val.pds:List Val->List PyData
 | []=>[]
 | x::xs=>x.pd::Val.pds xs
end
def br:Nat->Val->Bool
 | _,.none=>true
 | _,.bool _=>true
 | _,.int _=>true
 | _,.str _=>true
 | n+1,.tup xs=>xs.all (br n)
 | n+1,.lst xs=>xs.all (br n)
 | _,_=>false
mutual
def cJ:Val->Val->Bool
 | .none,.none=>true
 | .bool a,.bool b=>a==b
 | .bool a,.int j=>(if a then 1 else 0)==j
 | .int i,.bool b=>i==(if b then 1 else 0)
 | .int i,.int j=>i==j
 | .str x,.str y=>decide (x=y)
 | .lst xs,.lst ys=>veqL xs ys
 | .tup xs,.tup ys=>veqL xs ys
 | _,_=>false
def veqL:List Val->List Val->Bool
 | [],[]=>true
 | x::xs,y::ys=>cJ x y && veqL xs ys
 | _,_=>false
end
theorem wC {n:Nat} {xs:List Val} (h:br n (.tup xs)=true):∃m,n=m+1/\∀x∈xs,br m x=true:=by
 cases n with
 | zero=>cases h
 | succ m=>exact⟨m,rfl,dv.mp h⟩
theorem wD {n:Nat} {xs:List Val} (h:br n (.lst xs)=true):∃m,n=m+1/\∀x∈xs,br m x=true:=by
 cases n with
 | zero=>cases h
 | succ m=>exact⟨m,rfl,dv.mp h⟩
section
variable {K:PySem.W.Frag} {ct:Tw.Ct} {P Φ:Addr->Prop} {H H':Hp} {v w:V} {x y:Val} {o:OV} {D:List Addr}
mutual
theorem vr:∀(x y:Val) {n m:Nat},br n x=true->br m y=true->PyData.eqv x.pd y.pd=cJ x y
 | .none,y,n,m,_,h=>by cases y<;>first|rfl|(exfalso; cases m<;>cases h)
 | .bool a,y,n,m,_,h=>by cases y<;>first|rfl|(exfalso; cases m<;>cases h)
 | .int a,y,n,m,_,h=>by cases y<;>first|rfl|(exfalso; cases m<;>cases h)
 | .str a, y, n, m, _, h => by
  cases y<;>first
   | rfl
   | (exfalso; cases m<;>cases h)
   | (rename_i b; show(a==b)=decide (a=b); by_cases e:a=b<;>simp[e])
 | .tup xs, y, n, m, h1, h => by
  cases y<;>first
   | rfl
   | (exfalso; cases m<;>cases h)
   | (rename_i ys
      obtain⟨n',_,g1⟩:=wC h1;obtain⟨m',_,g2⟩:=wC h
      exact veqL_pd xs ys g1 g2)
 | .lst xs, y, n, m, h1, h => by
  cases y<;>first
   | rfl
   | (exfalso; cases m<;>cases h)
   | (rename_i ys
      obtain⟨n',_,g1⟩:=wD h1;obtain⟨m',_,g2⟩:=wD h
      exact veqL_pd xs ys g1 g2)
 | .dict _,y,n,m,h,_=>by cases n<;>cases h
 | .obj _ _,y,n,m,h,_=>by cases n<;>cases h
 | .scr _,y,n,m,h,_=>by cases n<;>cases h
theorem veqL_pd:∀(xs ys:List Val) {n m:Nat},(∀x∈xs,br n x=true)->(∀y∈ys,br m y=true)->PyData.eqvAll (Val.pds xs) (Val.pds ys)=veqL xs ys
 | [],[],_,_,_,_=>rfl
 | [],_::_,_,_,_,_=>rfl
 | _::_,[],_,_,_,_=>rfl
 | x::xs,y::ys,n,m,h1,h2=>by
  show(PyData.eqv x.pd y.pd && PyData.eqvAll (Val.pds xs) (Val.pds ys))=(cJ x y && veqL xs ys)
  rw[vr x y (h1 x (ao ..)) (h2 y (ao ..)),veqL_pd xs ys (fun z hz=>h1 z (aE _ hz)) fun z hz=>h2 z (aE _ hz)]
end
mutual
theorem jr:∀(x:Val) {v:V} {n:Nat},bw K ct P H v x->br n x=true->Dp K H v x.pd/\x.pd.canLay0=true/\x.pd.depth<=n
 | .none,v,n,h,_=>by
  obtain rfl:v=.non:=h;exact⟨.non,by simp[Val.pd,PyData.canLay0],by simp[Val.pd,PyData.depth]⟩
 | .bool b,v,n,h,_=>by
  obtain rfl:v=.bl b:=h;exact⟨.bl b,by simp[Val.pd,PyData.canLay0],by simp[Val.pd,PyData.depth]⟩
 | .int b,v,n,h,_=>by
  obtain rfl:v=.int b:=h;exact⟨.int b,by simp[Val.pd,PyData.canLay0],by simp[Val.pd,PyData.depth]⟩
 | .str b,v,n,h,_=>by
  obtain⟨rfl,h1,h2⟩:=h;exact⟨.str b,by simpa [Val.pd,PyData.canLay0] using h1,by simp[Val.pd,PyData.depth]⟩
 | .tup xs,v,n,h,hn=>by
  obtain⟨a,vs,rfl,h1,h2,h3⟩:=h;obtain⟨m,rfl,hm⟩:=wC hn;obtain⟨g1,g2,g3⟩:=viewL_dp xs h3 hm;exact⟨.tup (.inl (.inl h1)) g1,by simpa [Val.pd,PyData.canLay0] using g2,by simp[Val.pd,PyData.depth]; exact g3⟩
 | .lst xs,v,n,h,hn=>by
  obtain⟨a,vs,rfl,_,h1,h2,h3⟩:=h;obtain⟨m,rfl,hm⟩:=wD hn;obtain⟨g1,g2,g3⟩:=viewL_dp xs h3 hm;exact⟨.lst (.inl (.inl h1)) g1,by simpa [Val.pd,PyData.canLay0] using g2,by simp[Val.pd,PyData.depth]; exact g3⟩
 | .dict _,v,n,_,h=>by cases n<;>cases h
 | .obj _ _,v,n,_,h=>by cases n<;>cases h
 | .scr _,v,n,_,h=>by cases n<;>cases h
theorem viewL_dp:∀(xs:List Val) {vs:List V} {n:Nat},ViewL K ct P H vs xs->(∀x∈xs,br n x=true)->DpAll K H vs (Val.pds xs)/\PyData.canLayAll0 (Val.pds xs)=true/\PyData.depthAll (Val.pds xs)<=n
 | [],[],n,_,_=>⟨.nil,by simp[Val.pds,PyData.canLayAll0],by simp[Val.pds,PyData.depthAll]⟩
 | x::xs,v::vs,n,h,hn=>by
  obtain⟨g1,g2,g3⟩:=jr x h.1 (hn x (ao ..))
  obtain⟨g4,g5,g6⟩:=viewL_dp xs h.2 fun z hz=>hn z (aE _ hz)
  exact⟨.cons g1 g4,by simp[Val.pds,PyData.canLayAll0,g2,g5],by simp[Val.pds,PyData.depthAll]; omega⟩
 | [],_::_,_,h,_=>h.elim
 | _::_,[],_,h,_=>h.elim
end
theorem mW (h1:x.pd.canLay0=true) (h2:x.pd.depth<=60):SeqAt.shaped x.pd=true:=by
 unfold SeqAt.shaped;simp[h1]; omega
theorem kF (h:aR K ct Φ H v o D):bw K ct (fun _=>True) H v o.val:=h.view (fun _ _=>trivial) o fun _ _=>trivial
def vB (b:Bool):OV:=.fz (.bool b)
def vI (i:Int):OV:=.fz (.int i)
def vS (s:Str):OV:=.fz (.str s)
def gw (a b:OV):Option OV:=if br 60 a.val=true/\br 60 b.val=true then some (vB (cJ a.val b.val)) else none
def cz (a b:OV):Option OV:=if br 60 a.val=true/\br 60 b.val=true then some (vB (!cJ a.val b.val)) else none
abbrev Fin (K:PySem.W.Frag) (ct:Tw.Ct) (Φ:Addr->Prop) (H:Hp) (z:OV) (Q:VK):Prop:=∀u H' D,Same H H'->aR K ct Φ H' u z D->D.Nodup->(∀x∈D,H x=none)->Q u H'
theorem cO {Q:VK} (q:Fin K ct Φ H (.fz x) Q) (h:bw K ct Φ H v x):Q v H:=q v H [] (Same.refl H) ⟨h,rfl⟩ b5 fun _ z=>nomatch z
theorem Cz (e:Same H H') {P:Addr->Prop} (h:bw K ct P H v x):bw K ct P H' v x:=h.keep (fun _ z=>z) (fun b u z _=>⟨u,e _ _ z,.inl rfl⟩) x
theorem CG (e:Same H H') {P:Addr->Prop} {vs:List V} {xs:List Val} (h:ViewL K ct P H vs xs):ViewL K ct P H' vs xs:=lO (fun _ z=>z) (fun b u z _=>⟨u,e _ _ z,.inl rfl⟩) h
theorem jV {Q:VK} {vs:List V} {xs:List Val} (q:Fin K ct Φ H (ag xs) Q) (h:ViewL K ct Φ H vs xs) (hl:vs.length<=sizeLine) (p:Addr) (hp:H p=none):Q (.ref p) (upd H p (.lst vs)) :=
 q _ _ [p] (Tw.iP hp) ⟨p,vs,[],rfl,upd_same,hl,ny (CG (Tw.iP hp) h),rfl⟩ (by simp) fun x hx=>by rw[List.mem_singleton.mp hx]; exact hp
theorem uz {Q:VK} {vs:List V} {xs:List Val} (q:Fin K ct Φ H (.fz (.tup xs)) Q) (h:ViewL K ct Φ H vs xs) (hl:vs.length<=sizeLine) (p:Addr) (hp:H p=none):Q (.ref p) (upd H p (.tup vs)) :=
 q _ _ [] (Tw.iP hp) ⟨⟨p,vs,rfl,upd_same,hl,CG (Tw.iP hp) h⟩,rfl⟩ b5 fun _ z=>nomatch z
theorem of_eq:cf K ct (rEqD K) gw:=fun Φ H v w o1 o2 z D1 D2 Q r1 r2 h q=>by
 unfold gw at h;split at h
 ·rename_i hh
  cases h
  obtain⟨a1,a2,a3⟩:=jr _ (kF r1) hh.1;obtain⟨b1,b2,b3⟩:=jr _ (kF r2) hh.2;refine⟨_,_,a1,b1,mW a2 a3,mW b2 b3,?_⟩;rw[vr _ _ hh.1 hh.2];exact cO q rfl
 ·cases h
end
end Mp
namespace Mp
open PySem L2 Tw
section
variable {K:PySem.W.Frag} {ct:Tw.Ct} {P Φ:Addr->Prop} {H:Hp} {v w:V} {x y:Val} {o:OV} {D:List Addr} {X:Cx}
theorem cf.or {r r':R2} {g g':OV->OV->Option OV} (h:cf K ct r g) (h':cf K ct r' g'):cf K ct (fun x y H Q=>r x y H Q\/r' x y H Q) (fun a b=>(g a b).or (g' a b)):=fun Φ H v w o1 o2 z D1 D2 Q r1 r2 e q=>by
 have e:(g o1 o2).or (g' o1 o2)=some z:=e
 cases q1:g o1 o2 with
 | some z1 =>
  rw[q1] at e
  cases e
  exact .inl (h Φ H v w o1 o2 z D1 D2 Q r1 r2 q1 q)
 | none =>
  rw[q1,qY] at e;exact .inr (h' Φ H v w o1 o2 z D1 D2 Q r1 r2 e q)
theorem uQ.or {r r':List V->Hp->VK->Prop} {g g':List Val->Option OV} (h:uQ K ct r g) (h':uQ K ct r' g'):uQ K ct (fun x H Q=>r x H Q\/r' x H Q) (fun a=>(g a).or (g' a)):=fun Φ H vs xs z Q r1 e q=>by
 have e:(g xs).or (g' xs)=some z:=e
 cases q1:g xs with
 | some z1 =>
  rw[q1] at e
  cases e
  exact .inl (h Φ H vs xs z Q r1 q1 q)
 | none =>
  rw[q1,qY] at e;exact .inr (h' Φ H vs xs z Q r1 e q)
theorem lj.or {r r':V->Hp->VK->Prop} {g g':OV->Option OV} (h:lj K ct r g) (h':lj K ct r' g'):lj K ct (fun x H Q=>r x H Q\/r' x H Q) (fun a=>(g a).or (g' a)):=fun Φ H v o z D Q r1 e q=>by
 have e:(g o).or (g' o)=some z:=e
 cases q1:g o with
 | some z1 =>
  rw[q1] at e
  cases e
  exact .inl (h Φ H v o z D Q r1 q1 q)
 | none =>
  rw[q1,qY] at e;exact .inr (h' Φ H v o z D Q r1 e q)
def gI (C:Int->Int->Bool) (f:Int->Int->OV) (a b:OV):Option OV:=match a,b with
 | .fz (.int i),.fz (.int j)=>if C i j=true then some (f i j) else none
 | _,_=>none
theorem A8 {C:Int->Int->Bool} {f:Int->Int->OV} {a b z:OV} (h:gI C f a b=some z):∃i j,a=.fz (.int i)/\b=.fz (.int j)/\C i j=true/\z=f i j:=by
 unfold gI at h;split at h
 ·split at h
  ·cases h; exact⟨_,_,rfl,rfl,by assumption,rfl⟩
  ·cases h
 ·cases h
theorem ub {C:Int->Int->Prop} {C':Int->Int->Bool} {f:Int->Int->Int} (hc:∀i j,C' i j=true->C i j):cf K ct (rI C fun i j=>.int (f i j)) (gI C' fun i j=>vI (f i j)):=fun Φ H v w o1 o2 z D1 D2 Q r1 r2 h q=>by
 obtain⟨i,j,rfl,rfl,c,rfl⟩:=A8 h;exact⟨i,j,r1.1,r2.1,hc i j c,cO q rfl⟩
theorem EM {f:Int->Int->Int}:cf K ct (rI0 fun i j=>.int (f i j)) (gI (fun _ _=>true) fun i j=>vI (f i j)):=fun Φ H v w o1 o2 z D1 D2 Q r1 r2 h q=>by
 obtain⟨i,j,rfl,rfl,c,rfl⟩:=A8 h;exact⟨i,j,r1.1,r2.1,cO q rfl⟩
theorem wF {f:Int->Int->Bool}:cf K ct (rI0 fun i j=>.bl (f i j)) (gI (fun _ _=>true) fun i j=>vB (f i j)):=fun Φ H v w o1 o2 z D1 D2 Q r1 r2 h q=>by
 obtain⟨i,j,rfl,rfl,c,rfl⟩:=A8 h;exact⟨i,j,r1.1,r2.1,cO q rfl⟩
def qG (C:Str->Str->Bool) (f:Str->Str->OV) (a b:OV):Option OV:=match a,b with
 | .fz (.str i),.fz (.str j)=>if C i j=true then some (f i j) else none
 | _,_=>none
theorem Gd {C:Str->Str->Bool} {f:Str->Str->OV} {a b z:OV} (h:qG C f a b=some z):∃i j,a=.fz (.str i)/\b=.fz (.str j)/\C i j=true/\z=f i j:=by
 unfold qG at h;split at h
 ·split at h
  ·cases h; exact⟨_,_,rfl,rfl,by assumption,rfl⟩
  ·cases h
 ·cases h
theorem KY {a b:Str} (h1:PyData.strOk a=true) (h2:PyData.strOk b=true):PyData.strOk (a++b)=true:=by
 have e:(a++b).cps=a.cps++b.cps:=rfl;unfold PyData.strOk at *;rw[e,Array.all_append,h1,h2]<;>rfl
def wP (s t:Str):Bool:=decide (s.length+t.length<bL)
theorem Nn:cf K ct (fun x y H Q=>∃i j,x=V.str i/\y=V.str j/\i.length+j.length<=sizeLine/\Q (.str (i++j)) H) (qG wP fun s t=>vS (s++t)):=fun Φ H v w o1 o2 z D1 D2 Q r1 r2 h q=>by
 obtain⟨i,j,rfl,rfl,c,rfl⟩:=Gd h;obtain⟨e1,h1,l1⟩:=r1.1;obtain⟨e2,h2,l2⟩:=r2.1;have hl:i.length+j.length<=sizeLine:=iY (gY (of_decide_eq_true c));exact⟨i,j,e1,e2,hl,cO q ⟨rfl,KY h1 h2,by rw[Tw.KZ]; exact hl⟩⟩
theorem Nk {f:List Nat->List Nat->Bool}:cf K ct (fun x y H Q=>∃i j,x=V.str i/\y=V.str j/\Q (.bl (f i.cps.toList j.cps.toList)) H) (qG (fun _ _=>true) fun s t=>vB (f s.cps.toList t.cps.toList)):=fun Φ H v w o1 o2 z D1 D2 Q r1 r2 h q=>by
 obtain⟨i,j,rfl,rfl,c,rfl⟩:=Gd h;exact⟨i,j,r1.1.1,r2.1.1,cO q rfl⟩
def dC:OV->Option (List Val)
 | .fz (.lst xs)=>some xs
 | .lst os=>jg os
 | _=>none
def jP:OV->Option (List Val)
 | .fz (.tup xs)=>some xs
 | _=>none
theorem jQ {xs:List Val} (r:aR K ct Φ H v o D) (h:dC o=some xs):∃a vs,v=.ref a/\H a=some (.lst vs)/\vs.length<=sizeLine/\ViewL K ct Φ H vs xs:=by
 cases o with
 | fz y =>
  cases y with
  | lst ys =>
   cases h
   obtain⟨a,vs,e,_,h1,h2,h3⟩:=r.1;exact⟨a,vs,e,h1,h2,h3⟩
  | _=>cases h
 | lst os =>
  have h:jg os=some xs:=h;rw[xM h] at r;obtain⟨a,vs,F,e,h1,h2,h3,_⟩:=r;exact⟨a,vs,e,h1,h2,(wz h3).1⟩
 | dict _=>cases h
 | obj _ _=>cases h
theorem oZ {xs:List Val} (r:aR K ct Φ H v o D) (h:jP o=some xs):∃a vs,v=.ref a/\H a=some (.tup vs)/\vs.length<=sizeLine/\ViewL K ct Φ H vs xs:=by
 cases o with
 | fz y =>
  cases y with
  | tup ys=>cases h; exact r.1
  | _=>cases h
 | _=>cases h
def mE (a b:OV):Option OV:=(dC a).bind fun xs=>(dC b).bind fun ys=>if xs.length+ys.length<bL then some (ag (xs++ys)) else none
theorem yU {vs us:List V} {xs ys:List Val} (h:ViewL K ct P H vs xs) (hx:ViewL K ct P H us ys):ViewL K ct P H (vs++us) (xs++ys):=by
 induction vs generalizing xs with
 | nil=>cases xs with
  | nil=>exact hx
  | cons _ _=>exact h.elim
 | cons u vs ih=>cases xs with
  | nil=>exact h.elim
  | cons y xs=>exact⟨h.1,ih h.2⟩
theorem Nm:cf K ct rCat mE:=fun Φ H v w o1 o2 z D1 D2 Q r1 r2 h q=>by
 unfold mE at h
 cases h1:dC o1 with
 | none=>rw[h1] at h; cases h
 | some xs =>
 cases h2:dC o2 with
 | none=>rw[h1,h2] at h; cases h
 | some ys =>
 rw[h1,h2] at h;have h:(if xs.length+ys.length<bL then some (ag (xs++ys)) else none)=some z:=h;split at h
 ·rename_i hl
  cases h
  obtain⟨a,vs,rfl,a1,a2,a3⟩:=jQ r1 h1;obtain⟨b,us,rfl,b1,b2,b3⟩:=jQ r2 h2
  have hl':vs.length+us.length<=sizeLine:=by rw[fG a3,fG b3]; exact iY (gY hl)
  exact⟨a,b,vs,us,rfl,rfl,a1,b1,hl',jV q (yU a3 b3) (by rw[cX]; exact hl')⟩
 ·cases h
def mD (a b:OV):Option OV:=(jP a).bind fun xs=>(jP b).bind fun ys=>if xs.length+ys.length<bL then some (.fz (.tup (xs++ys))) else none
theorem Nl:cf K ct (rCatA K) mD:=fun Φ H v w o1 o2 z D1 D2 Q r1 r2 h q=>by
 unfold mD at h
 cases h1:jP o1 with
 | none=>rw[h1] at h; cases h
 | some xs =>
 cases h2:jP o2 with
 | none=>rw[h1,h2] at h; cases h
 | some ys =>
 rw[h1,h2] at h;have h:(if xs.length+ys.length<bL then some (OV.fz (.tup (xs++ys))) else none)=some z:=h;split at h
 ·rename_i hl
  cases h
  obtain⟨a,vs,rfl,a1,a2,a3⟩:=oZ r1 h1;obtain⟨b,us,rfl,b1,b2,b3⟩:=oZ r2 h2;have l1:=fG a3;have l2:=fG b3
  have hl':vs.length+us.length<=sizeLine:=by rw[l1,l2]; exact iY (gY hl)
  refine⟨a,b,vs,us,rfl,rfl,.inl (.inl a1),.inl (.inl b1),hl',fun e=>?_,fun n e=>?_,fun n1 n2=>uz q (yU a3 b3) (by rw[cX]; exact hl')⟩
  ·subst e;have:xs=[]:=List.eq_nil_of_length_eq_zero (by rw[←l1]; rfl);subst this;exact cO q ⟨b,us,rfl,b1,b2,b3⟩
  ·subst e;have:ys=[]:=List.eq_nil_of_length_eq_zero (by rw[←l2]; rfl);subst this;rw[b6] at q;exact cO q ⟨a,vs,rfl,a1,a2,a3⟩
 ·cases h
def bI (a b:OV):Option OV:=(gI (fun _ _=>true) (fun i j=>vI (i+j)) a b).or ((qG wP (fun s t=>vS (s++t)) a b).or ((mD a b).or (mE a b)))
theorem eI:OpR X (binaryOp .Add) (fun x y H Q=>rI0 (fun i j=>.int (i+j)) x y H Q\/(∃i j,x=V.str i/\y=V.str j/\i.length+j.length<=sizeLine/\Q (.str (i++j)) H)\/rCatA X.K x y H Q\/rCat x y H Q):=op_add.or (op_add_str.or (op_catA.or op_cat))
theorem eJ:cf K ct (fun x y H Q=>rI0 (fun i j=>.int (i+j)) x y H Q\/(∃i j,x=V.str i/\y=V.str j/\i.length+j.length<=sizeLine/\Q (.str (i++j)) H)\/rCatA K x y H Q\/rCat x y H Q) bI:=EM.or (Nn.or (Nl.or Nm))
def gSub:OV->OV->Option OV:=gI (fun _ _=>true) fun i j=>vI (i - j)
def qq (i j:Int):Bool:=decide (i.natAbs<2 ^ 64) || decide (j.natAbs<2 ^ 64)
theorem NR {i j:Int} (h:qq i j=true):CMul i j:=by
 unfold qq at h;rw[i3,decide_eq_true_eq,decide_eq_true_eq] at h
 rcases h with h|h
 ·exact .inl ⟨by omega,by omega⟩
 ·exact .inr ⟨by omega,by omega⟩
def rP (i j:Int):Bool:=decide (i.natAbs.log2+j.natAbs.log2<1000000)
def uw (a b:OV):Option OV:=(dC a).bind fun xs=>match b with
 | .fz (.int k)=>if k<1000000/\-1000000<k/\xs.length * k.toNat<bL then some (ag (List.replicate k.toNat xs).flatten) else none
 | _=>none
theorem yQ {vs:List V} {xs:List Val} (h:ViewL K ct P H vs xs):∀n,ViewL K ct P H (List.replicate n vs).flatten (List.replicate n xs).flatten
 | 0=>trivial
 | n+1=>by
  rw[List.replicate_succ,List.replicate_succ,List.flatten_cons,List.flatten_cons];exact yU h (yQ h n)
theorem Fp {α:Type} (xs:List α) (n:Nat):(List.replicate n xs).flatten.length=xs.length * n:=by
 induction n with
 | zero=>simp
 | succ n ih=>rw[List.replicate_succ,List.flatten_cons,cX,ih,Nat.mul_succ,Nat.add_comm]
theorem Nb:cf K ct rRep uw:=fun Φ H v w o1 o2 z D1 D2 Q r1 r2 h q=>by
 unfold uw at h
 cases h1:dC o1 with
 | none=>rw[h1] at h; cases h
 | some xs =>
 rw[h1] at h
 cases o2 with
 | fz y =>
  cases y with
  | int k =>
   have h:(if k<1000000/\-1000000<k/\xs.length * k.toNat<bL then some (ag (List.replicate k.toNat xs).flatten) else none)=some z:=h;split at h
   ·rename_i hl
    cases h
    obtain⟨a,vs,rfl,a1,a2,a3⟩:=jQ r1 h1
    have hl':vs.length * k.toNat<=sizeLine:=by rw[fG a3]; exact iY (gY hl.2.2)
    exact⟨a,k,vs,rfl,r2.1,a1,by omega,by omega,hl',jV q (yQ a3 _) (by rw[Fp]; exact hl')⟩
   ·cases h
  | _=>cases h
 | _=>cases h
def A0 (a b:OV):Option OV:=(jP a).bind fun xs=>match b with
 | .fz (.int k)=>if xs≠[]/\2<=k/\k<=1000/\xs.length<=1000 then some (.fz (.tup (List.replicate k.toNat xs).flatten)) else none
 | _=>none
theorem Na:cf K ct (rRepT K) A0:=fun Φ H v w o1 o2 z D1 D2 Q r1 r2 h q=>by
 unfold A0 at h
 cases h1:jP o1 with
 | none=>rw[h1] at h; cases h
 | some xs =>
 rw[h1] at h
 cases o2 with
 | fz y =>
  cases y with
  | int k =>
   have h:(if xs≠[]/\2<=k/\k<=1000/\xs.length<=1000 then some (OV.fz (.tup (List.replicate k.toNat xs).flatten)) else none)=some z:=h;split at h
   ·rename_i hl
    cases h
    obtain⟨a,vs,rfl,a1,a2,a3⟩:=oZ r1 h1;have l1:=fG a3;refine⟨a,k,vs,rfl,r2.1,.inl (.inl a1),fun e=>hl.1 ?_,hl.2.1,hl.2.2.1,by rw[l1]; exact hl.2.2.2,uz q (yQ a3 _) ?_⟩
    ·rw[e] at l1;exact List.eq_nil_of_length_eq_zero l1.symm
    ·rw[Fp,l1];have:xs.length * k.toNat<=1000 * 1000:=Nat.mul_le_mul hl.2.2.2 (by omega);exact dH this (by decide)
   ·cases h
  | _=>cases h
 | _=>cases h
def gv (a b:OV):Option OV:=(gI qq (fun i j=>vI (i * j)) a b).or ((gI rP (fun i j=>vI (i * j)) a b).or ((uw a b).or (A0 a b)))
theorem mf:OpR X (binaryOp .Mult) (fun x y H Q=>rI CMul (fun i j=>.int (i * j)) x y H Q\/rI CMulW (fun i j=>.int (i * j)) x y H Q\/rRep x y H Q\/rRepT X.K x y H Q):=op_mul.or (op_mulW.or (op_rep.or op_repT))
theorem mi:cf K ct (fun x y H Q=>rI CMul (fun i j=>.int (i * j)) x y H Q\/rI CMulW (fun i j=>.int (i * j)) x y H Q\/rRep x y H Q\/rRepT K x y H Q) gv:=(ub fun _ _=>NR).or ((ub fun _ _ h=>by have h:=of_decide_eq_true (show decide _=true from h); exact h).or (Nb.or Na))
def nQ:OV->OV->Option OV:=gI (fun _ j=>decide (0<j/\j.natAbs.log2<9000)) fun i j=>vI (i / j)
theorem EL:cf K ct (rI CDivW fun i j=>.int (i / j)) nQ:=ub fun i j h=>by have h:0<j/\j.natAbs.log2<9000:=of_decide_eq_true h; exact h
def eN:OV->OV->Option OV:=gI (fun _ j=>decide (0<j)) fun i j=>vI (i % j)
theorem kK:cf K ct (rI (fun _ j=>0<j) fun i j=>.int (i % j)) eN:=ub fun _ _ h=>of_decide_eq_true h
def qJ:OV->OV->Option OV:=gI (fun i j=>decide (0<=j/\j<=1000000/\i.natAbs<2 ^ 64)) fun i j=>vI (i ^ j.toNat)
theorem Nc:cf K ct (rI CPow fun i j=>.int (i ^ j.toNat)) qJ:=ub fun i j h=>by have h:0<=j/\j<=1000000/\i.natAbs<2 ^ 64:=of_decide_eq_true h; exact h
def gu:List Val->Option (List Int)
 | []=>some []
 | .int i::r=>(gu r).bind fun is=>some (i::is)
 | _::_=>none
theorem qE:∀{xs:List Val} {is:List Int},gu xs=some is->xs=is.map .int
 | [],_,h=>by cases h; rfl
 | .int i::r,is,h=>by
  have h:(gu r).bind (fun is=>some (i::is))=some is:=h
  cases e:gu r with
  | none=>rw[e] at h; cases h
  | some js=>rw[e] at h; cases h; rw[qE e]<;>rfl
 | .none::_,_,h|.bool _::_,_,h|.str _::_,_,h|.tup _::_,_,h|.lst _::_,_,h|.dict _::_,_,h|.obj _ _::_,_,h|.scr _::_,_,h=>by cases h
theorem pP:∀{is:List Int} {vs:List V},ViewL K ct P H vs (is.map .int)->vs=is.map V.int
 | [],[],_=>rfl
 | i::is,v::vs,h=>by rw[show v=.int i from h.1,pP h.2]<;>rfl
 | [],_::_,h=>h.elim
 | _::_,[],h=>h.elim
def A1 (a b:OV):Option OV:=(jP a).bind fun xs=>(jP b).bind fun ys=>(gu xs).bind fun is=>(gu ys).bind fun js=>some (vB (HT.lexLt is js))
theorem Ng:cf K ct (rLtT K) A1:=fun Φ H v w o1 o2 z D1 D2 Q r1 r2 h q=>by
 unfold A1 at h
 cases h1:jP o1 with
 | none=>rw[h1] at h; cases h
 | some xs =>
 cases h2:jP o2 with
 | none=>rw[h1,h2] at h; cases h
 | some ys =>
 cases h3:gu xs with
 | none=>rw[h1,h2] at h; have h:(gu xs).bind _=some z:=h; rw[h3] at h; cases h
 | some is =>
 cases h4:gu ys with
 | none=>rw[h1,h2] at h; have h:(gu xs).bind (fun is=>(gu ys).bind _)=some z:=h; rw[h3,h4] at h; cases h
 | some js =>
 rw[h1,h2] at h;have h:(gu xs).bind (fun is=>(gu ys).bind fun js=>some (vB (HT.lexLt is js)))=some z:=h;rw[h3,h4] at h
 cases h
 obtain⟨a,vs,rfl,a1,a2,a3⟩:=oZ r1 h1;obtain⟨b,us,rfl,b1,b2,b3⟩:=oZ r2 h2;rw[qE h3] at a3;rw[qE h4] at b3;rw[pP a3] at a1;rw[pP b3] at b1;exact⟨a,b,is,js,rfl,rfl,.inl (.inl a1),.inl (.inl b1),cO q rfl⟩
def wd (K:PySem.W.Frag):R2:=fun x y H Q=>∃dx dy,Dp K H x dx/\Dp K H y dy/\PySem.W.alike dx dy=true/\dx≠.none/\dx.depth<=50/\Q (.bl (PySem.W.dataLt dx dy)) H
theorem MR (hu:X.A.units+65<cLine):OpR X (compareOp .Lt) (wd X.K):=by
 intro pins s σ H x y v u Q I rx ry h;obtain⟨dx,dy,hd,he,al,hn,hp,q⟩:=h;obtain⟨as,r1⟩:=Dp.reads I dx x v hd rx;obtain⟨bs,r2⟩:=Dp.reads I dy y u he ry;exact PySem.W.lt_data r1 r2 al hn (by omega) ⟨.bl _,H,I,rfl,q⟩
def JF:Val->Bool
 | .tup _=>true
 | _=>false
def A2:OV->OV->Option OV
 | .fz x,.fz y=>if br 50 x=true/\br 50 y=true/\PySem.W.alike x.pd y.pd=true/\JF x=true then some (vB (PySem.W.dataLt x.pd y.pd)) else none
 | _,_=>none
theorem Nh:cf K ct (wd K) A2:=fun Φ H v w o1 o2 z D1 D2 Q r1 r2 h q=>by
 unfold A2 at h;split at h
 ·rename_i x y
  split at h
  ·rename_i hh
   cases h
   obtain⟨h1,h2,h3,h4⟩:=hh;obtain⟨a1,_,a3⟩:=jr _ r1.1 h1;obtain⟨b1,_,_⟩:=jr _ r2.1 h2;refine⟨_,_,a1,b1,h3,fun e=>?_,a3,cO q rfl⟩
   cases x<;>first|exact nomatch (show PyData.tuple _=PyData.none from e)|cases h4
  ·cases h
 ·cases h
def mz (a b:OV):Option OV:=(gI (fun _ _=>true) (fun i j=>vB (decide (i<j))) a b).or ((qG (fun _ _=>true) (fun s t=>vB (decide (s.cps.toList<t.cps.toList))) a b).or ((A1 a b).or (A2 a b)))
theorem tY (hu:X.A.units+65<cLine):OpR X (compareOp .Lt) (fun x y H Q=>rI0 (fun i j=>.bl (decide (i<j))) x y H Q\/(∃i j,x=V.str i/\y=V.str j/\Q (.bl (decide (i.cps.toList<j.cps.toList))) H)\/rLtT X.K x y H Q\/wd X.K x y H Q):=op_lt.or (op_lt_str.or ((op_ltT (by omega)).or (MR hu)))
theorem t9:cf K ct (fun x y H Q=>rI0 (fun i j=>.bl (decide (i<j))) x y H Q\/(∃i j,x=V.str i/\y=V.str j/\Q (.bl (decide (i.cps.toList<j.cps.toList))) H)\/rLtT K x y H Q\/wd K x y H Q) mz:=wF.or ((Nk (f:=fun a b=>decide (a<b))).or (Ng.or Nh))
def Ge:OV->OV->Option OV:=gI (fun _ _=>true) fun i j=>vB (decide (i<=j))
def xm:OV->OV->Option OV:=gI (fun _ _=>true) fun i j=>vB (decide (j<i))
def uy:OV->OV->Option OV:=gI (fun _ _=>true) fun i j=>vB (decide (j<=i))
theorem i9:cf K ct (rNeD K) cz:=fun Φ H v w o1 o2 z D1 D2 Q r1 r2 h q=>by
 unfold cz at h;split at h
 ·rename_i hh
  cases h
  obtain⟨a1,a2,a3⟩:=jr _ (kF r1) hh.1;obtain⟨b1,b2,b3⟩:=jr _ (kF r2) hh.2;refine⟨_,_,a1,b1,mW a2 a3,mW b2 b3,?_⟩;rw[vr _ _ hh.1 hh.2];exact cO q rfl
 ·cases h
def pa (neg:Bool) (a b:OV):Option OV:=match b with
 | .fz (.tup ys)=>if br 60 a.val=true/\br 59 (.tup ys)=true then some (vB (if neg then !(ys.any fun e=>cJ e a.val) else ys.any fun e=>cJ e a.val)) else none
 | _=>none
def o9 (neg:Bool) (a b:OV):Option OV:=match b.val with
 | .lst ys=>if br 60 a.val=true/\br 59 (.lst ys)=true then some (vB (if neg then !(ys.any fun e=>cJ e a.val) else ys.any fun e=>cJ e a.val)) else none
 | _=>none
theorem GS {ys:List Val} {n m:Nat} (h1:∀y∈ys,br n y=true) (h2:br m x=true):((Val.pds ys).any fun e=>PyData.eqv e x.pd)=ys.any fun e=>cJ e x:=by
 induction ys with
 | nil=>rfl
 | cons y ys ih =>
  show(PyData.eqv y.pd x.pd || _)=(cJ y x || _)
  rw[vr y x (h1 y (ao ..)) h2,ih fun z hz=>h1 z (aE _ hz)]
theorem EK {neg:Bool}:cf K ct (oG K neg) (pa neg):=fun Φ H v w o1 o2 z D1 D2 Q r1 r2 h q=>by
 unfold pa at h;split at h
 ·rename_i ys
  split at h
  ·rename_i hh
   cases h
   obtain⟨a1,a2,a3⟩:=jr _ (kF r1) hh.1;obtain⟨b1,b2,b3⟩:=jr _ r2.1 hh.2;obtain⟨m,_,hm⟩:=wC hh.2;refine⟨_,Val.pds ys,a1,b1,mW a2 a3,mW (x:=.tup ys) b2 (by omega),?_⟩;rw[GS hm hh.1];exact cO q rfl
  ·cases h
 ·cases h
theorem EJ {neg:Bool}:cf K ct (oH K neg) (o9 neg):=fun Φ H v w o1 o2 z D1 D2 Q r1 r2 h q=>by
 unfold o9 at h;split at h
 ·rename_i ys e
  split at h
  ·rename_i hh
   cases h
   obtain⟨a1,a2,a3⟩:=jr _ (kF r1) hh.1;have r2':=kF r2;rw[e] at r2';obtain⟨b1,b2,b3⟩:=jr _ r2' hh.2;obtain⟨m,_,hm⟩:=wD hh.2;refine⟨_,Val.pds ys,a1,b1,mW a2 a3,mW (x:=.lst ys) b2 (by omega),?_⟩;rw[GS hm hh.1];exact cO q rfl
  ·cases h
 ·cases h
def mC (neg:Bool) (a b:OV):Option OV:=match a,b with
 | .fz (.str s),.fz (.str t)=>match s.cps.toList with
  | [c]=>some (vB (if neg then !decide (c∈t.cps.toList) else decide (c∈t.cps.toList)))
  | _=>none
 | _,_=>none
theorem Dg {s:Str} {c:Nat} (h:s.cps.toList=[c]):s=⟨#[c]⟩:=by
 cases s with
 | mk cps=>congr 1; exact Array.toList_inj.mp h
theorem Nj:cf K ct (fun x y H Q=>∃(c:Nat) (z:Str),x=V.str ⟨#[c]⟩/\y=V.str z/\Q (.bl (decide (c∈z.cps.toList))) H) (mC false):=fun Φ H v w o1 o2 z D1 D2 Q r1 r2 h q=>by
 unfold mC at h;split at h
 ·rename_i s t
  split at h
  ·rename_i c e
   cases h
   refine⟨c,t,by rw[←Dg e]; exact r1.1.1,r2.1.1,?_⟩;exact cO q rfl
  ·cases h
 ·cases h
theorem Nd:cf K ct (fun x y H Q=>∃(c:Nat) (z:Str),x=V.str ⟨#[c]⟩/\y=V.str z/\Q (.bl (!decide (c∈z.cps.toList))) H) (mC true):=fun Φ H v w o1 o2 z D1 D2 Q r1 r2 h q=>by
 unfold mC at h;split at h
 ·rename_i s t
  split at h
  ·rename_i c e
   cases h
   refine⟨c,t,by rw[←Dg e]; exact r1.1.1,r2.1.1,?_⟩;exact cO q rfl
  ·cases h
 ·cases h
def cV (neg:Bool) (a b:OV):Option OV:=(mC neg a b).or ((pa neg a b).or (o9 neg a b))
theorem nz (hu:X.A.units+65<cLine):OpR X (compareOp .In) (fun x y H Q=>(∃(c:Nat) (z:Str),x=V.str ⟨#[c]⟩/\y=V.str z/\Q (.bl (decide (c∈z.cps.toList))) H)\/oG X.K false x y H Q\/oH X.K false x y H Q):=op_in_sign.or ((MX hu).or (MY hu))
theorem nB:cf K ct (fun x y H Q=>(∃(c:Nat) (z:Str),x=V.str ⟨#[c]⟩/\y=V.str z/\Q (.bl (decide (c∈z.cps.toList))) H)\/oG K false x y H Q\/oH K false x y H Q) (cV false):=Nj.or (EK.or EJ)
theorem tX (hu:X.A.units+65<cLine):OpR X (compareOp .NotIn) (fun x y H Q=>(∃(c:Nat) (z:Str),x=V.str ⟨#[c]⟩/\y=V.str z/\Q (.bl (!decide (c∈z.cps.toList))) H)\/oG X.K true x y H Q\/oH X.K true x y H Q):=op_notIn_sign.or ((MP hu).or (MQ hu))
theorem tZ:cf K ct (fun x y H Q=>(∃(c:Nat) (z:Str),x=V.str ⟨#[c]⟩/\y=V.str z/\Q (.bl (!decide (c∈z.cps.toList))) H)\/oG K true x y H Q\/oH K true x y H Q) (cV true):=Nd.or (EK.or EJ)
def AK:Val->Bool
 | .none=>true
 | _=>false
def A7 (neg:Bool) (a b:OV):Option OV:=match b with
 | .fz .none=>some (vB (if neg then !AK a.val else AK a.val))
 | _=>none
theorem NE (h:bw K ct P H v x):decide (v=.non)=AK x:=by
 cases x with
 | none=>obtain rfl:v=.non:=h; rfl
 | bool b=>obtain rfl:v=.bl b:=h; rfl
 | int b=>obtain rfl:v=.int b:=h; rfl
 | str b=>obtain⟨rfl,_⟩:=h; rfl
 | tup xs=>obtain⟨a,vs,rfl,_⟩:=h; rfl
 | lst xs=>obtain⟨a,vs,rfl,_⟩:=h; rfl
 | dict xs=>obtain⟨a,vs,rfl,_⟩:=h; rfl
 | obj c xs=>obtain⟨a,dx,vs,rfl,_⟩:=h; rfl
 | scr ns=>obtain⟨a,rfl,_⟩:=h; rfl
theorem Ni:cf K ct (fun x y H Q=>y=V.non/\Q (.bl (!decide (x=.non))) H) (A7 true):=fun Φ H v w o1 o2 z D1 D2 Q r1 r2 h q=>by
 unfold A7 at h;split at h
 ·cases h
  refine⟨r2.1,?_⟩;rw[NE (kF r1)];exact cO q rfl
 ·cases h
end
end Mp
namespace Mp
open PySem L2 Tw
section
variable {K:PySem.W.Frag} {ct:Tw.Ct} {E:Exn->L2.St->Hp->Prop} {B:Hp} {P Φ Φ0:Addr->Prop} {σ:L2.St} {W W' W1:Wd} {H:Hp} {v w:V} {x y:Val} {o:OV} {D:List Addr} {X:Cx} {js wr js1 wr1 js2 wr2:List Nat} {f g:Ef} {Q:VK} {i j k:Nat}
def lu (K:PySem.W.Frag) (ct:Tw.Ct) (r:R2) (g:OV->OV->Option OV):Prop:=∀(Φ:Addr->Prop) (H:Hp) (v w:V) (o1 o2 z:OV) (D1 D2:List Addr) (Q:VK),aR K ct Φ H v o1 D1->D1.Nodup->aR K ct Φ H w o2 D2->g o1 o2=some z ->
 (∀u D,aR K ct Φ H u z D->D.Nodup->(∀x∈D,x∈D1)->Q u H)->r v w H Q
theorem lu.or {r r':R2} {g g':OV->OV->Option OV} (h:lu K ct r g) (h':lu K ct r' g'):lu K ct (fun x y H Q=>r x y H Q\/r' x y H Q) (fun a b=>(g a b).or (g' a b)):=fun Φ H v w o1 o2 z D1 D2 Q r1 n1 r2 e q=>by
 have e:(g o1 o2).or (g' o1 o2)=some z:=e
 cases q1:g o1 o2 with
 | some z1 =>
  rw[q1] at e
  cases e
  exact .inl (h Φ H v w o1 o2 z D1 D2 Q r1 n1 r2 q1 q)
 | none =>
  rw[q1,qY] at e;exact .inr (h' Φ H v w o1 o2 z D1 D2 Q r1 n1 r2 e q)
theorem Tmp.part (t:Tmp K ct js wr W W' v o D) {u:V} {z:OV} {D':List Addr} (h:aR K ct W'.Φ W'.H u z D') (hn:D'.Nodup) (hs:∀x∈D',x∈D):Tmp K ct js wr W W' u z D' :=
 ⟨h,hn,fun x hx=>t.nph x (hs x hx),fun x hx=>t.dj x (hs x hx),fun x hx=>t.src x (hs x hx)⟩
theorem zi {r:R2} {g:OV->OV->Option OV} {a b:Ef} (hr:lu K ct r g) (hd:∀k∈js1,k∉wr2) (q:tE K ct E (ae g a b) js1 (wr1++wr2) σ H Q):tOp r (tE K ct E a js1 wr1) (tE K ct E b js2 wr2) σ H Q:=by
 obtain⟨B,X,Φ0,W,rfl,s,q⟩:=q;unfold ae at q;refine⟨B,X,Φ0,W,rfl,s,?_⟩
 cases ha:a W.S with
 | no=>rw[ha] at q; exact q.elim
 | ex e S' =>
  rw[ha] at q
  exact fun W' s' e' a'=>q W' s' e' (a'.mono fun k hk=>au _ hk)
 | ok x S1 =>
  rw[ha] at q;intro v W1 D1 s1 e1 a1 t1;subst e1;refine⟨B,X,Φ0,W1,rfl,s1,?_⟩;rw[Out.bind_ok] at q
  cases hb:b W1.S with
  | no=>rw[hb] at q; exact q.elim
  | ex e S' =>
   rw[hb] at q
   exact fun W' s' e' a'=>q W' s' e' (a1.trans a')
  | ok y S2 =>
   rw[hb] at q;intro w W2 D2 s2 e2 a2 t2;subst e2;rw[Out.bind_ok] at q
   cases hg:g x y with
   | none=>rw[hg] at q; exact q.elim
   | some z =>
    rw[hg] at q;have t1':=t1.step s1 a1 a2 hd
    exact hr W2.Φ W2.H v w x y z D1 D2 Q t1'.rep t1'.nd t2.rep hg fun u D h1 h2 h3=>q u W2 D s2 rfl (a1.trans a2) (t1'.part h1 h2 h3)
def qM (a b:OV):Option OV:=match a,b with
 | .fz (.lst xs),.fz (.int i)=>(atI xs i).map .fz
 | .lst os,.fz (.int i)=>atI os i
 | _,_=>none
def xk (a b:OV):Option OV:=match a,b with
 | .fz (.tup xs),.fz (.int i)=>(atI xs i).map .fz
 | _,_=>none
def qL (a b:OV):Option OV:=match a,b with
 | .fz (.str s),.fz (.int i)=>(atI s.cps.toList i).map fun c=>vS ⟨#[c]⟩
 | _,_=>none
def xn (a b:OV):Option OV:=match a,b with
 | .fz (.dict kvs),.fz k=>if (kindOf k).isSome=true then (aG kvs k).map .fz else none
 | .dict kvs,.fz k=>if (kindOf k).isSome=true then aG kvs k else none
 | _,_=>none
theorem yT:∀{vs:List V} {xs:List Val} {j:Nat},ViewL K ct P H vs xs->xs[j]?=some x->∃u,vs[j]?=some u/\bw K ct P H u x
 | [],[],_,_,e=>by simp at e
 | v::vs,y::xs,0,h,e=>by simp at e; subst e; exact⟨v,rfl,h.1⟩
 | v::vs,y::xs,j+1,h,e=>by
  obtain⟨u,h1,h2⟩:=yT (j:=j) h.2 (by simpa using e);exact⟨u,by simpa using h1,h2⟩
 | [],_::_,_,h,_=>h.elim
 | _::_,[],_,h,_=>h.elim
theorem Ez:∀{vs:List V} {xs:List OV} {F:List Addr} {j:Nat},ORepL K ct Φ H vs xs F->F.Nodup->xs[j]?=some o->∃u F',vs[j]?=some u/\aR K ct Φ H u o F'/\F'.Nodup/\∀x∈F',x∈F
 | [],[],_,_,_,_,e=>by simp at e
 | v::vs,y::xs,F,0,h,n,e=>by
  obtain⟨F1,F2,rfl,h1,h2⟩:=h;simp at e; subst e;exact⟨v,F1,rfl,h1,(cA.mp n).1,fun x hx=>au _ hx⟩
 | v::vs,y::xs,F,j+1,h,n,e=>by
  obtain⟨F1,F2,rfl,h1,h2⟩:=h;obtain⟨u,F',k1,k2,k3,k4⟩:=Ez (j:=j) h2 (cA.mp n).2.1 (by simpa using e);exact⟨u,F',by simpa using k1,k2,k3,fun x hx=>aJ _ (k4 x hx)⟩
 | [],_::_,_,_,h,_,_=>h.elim
 | _::_,[],_,_,h,_,_=>h.elim
theorem xK {α:Type} {xs:List α} {i:Int} {y:α} (h:atI xs i=some y):∃j,ixN xs.length i=some j/\xs[j]?=some y:=by
 unfold atI at h
 cases e:ixN xs.length i with
 | none=>rw[e] at h; cases h
 | some j=>rw[e] at h; exact⟨j,rfl,h⟩
theorem Nt:lu K ct (rIxL K) qM:=fun Φ H v w o1 o2 z D1 D2 Q r1 n1 r2 h q=>by
 unfold qM at h;split at h
 ·rename_i xs i
  cases e:atI xs i with
  | none=>rw[e] at h; cases h
  | some y =>
   rw[e] at h
   cases h
   obtain⟨a,vs,rfl,_,h1,h2,h3⟩:=r1.1;obtain⟨j,e1,e2⟩:=xK e;obtain⟨u,g1,g2⟩:=yT h3 e2;exact⟨a,vs,i,u,rfl,r2.1,.inl (.inl h1),by unfold atI; rw[fG h3,e1]; exact g1,q u [] ⟨g2,rfl⟩ b5 fun _ z=>nomatch z⟩
 ·rename_i os i
  obtain⟨a,vs,F,rfl,h1,h2,h3,rfl⟩:=r1;obtain⟨j,e1,e2⟩:=xK h;obtain⟨u,F',g1,g2,g3,g4⟩:=Ez h3 (bT.mp n1).2 e2;exact⟨a,vs,i,u,rfl,r2.1,.inl (.inl h1),by unfold atI; rw[lZ h3,e1]; exact g1,q u F' g2 g3 fun x hx=>aE _ (g4 x hx)⟩
 ·cases h
theorem Nq:lu K ct (rIxT K) xk:=fun Φ H v w o1 o2 z D1 D2 Q r1 n1 r2 h q=>by
 unfold xk at h;split at h
 ·rename_i xs i
  cases e:atI xs i with
  | none=>rw[e] at h; cases h
  | some y =>
   rw[e] at h
   cases h
   obtain⟨a,vs,rfl,h1,h2,h3⟩:=r1.1;obtain⟨j,e1,e2⟩:=xK e;obtain⟨u,g1,g2⟩:=yT h3 e2;exact⟨a,vs,i,u,rfl,r2.1,.inl (.inl h1),by unfold atI; rw[fG h3,e1]; exact g1,q u [] ⟨g2,rfl⟩ b5 fun _ z=>nomatch z⟩
 ·cases h
theorem La {s:Str} {c:Nat} (h:PyData.strOk s=true) (hc:c∈s.cps.toList):ia ⟨#[c]⟩:=by
 have h:s.cps.all (·<0x110000)=true:=h;rw[Array.all_eq_true_iff_forall_mem] at h;have:=h c (q5.mp hc);refine⟨?_,by show(1:Nat)<=sizeLine; decide⟩
 show(#[c]:Array Nat).all (·<0x110000)=true
 simpa using this
theorem Nr:lu K ct rIxS qL:=fun Φ H v w o1 o2 z D1 D2 Q r1 n1 r2 h q=>by
 unfold qL at h;split at h
 ·rename_i s i
  cases e:atI s.cps.toList i with
  | none=>rw[e] at h; cases h
  | some c =>
   rw[e] at h
   cases h
   obtain⟨ev,h1,h2⟩:=r1.1;obtain⟨j,_,e2⟩:=xK e;exact⟨s,i,c,ev,r2.1,h2,e,q _ [] ⟨⟨rfl,La h1 (fP e2)⟩,rfl⟩ b5 fun _ z=>nomatch z⟩
 ·cases h
def DU:R2:=fun x y H Q=>∃a v,x=.ref a/\DGet H a y (some v)/\Q v H
theorem yM:∀{ps:List (Val×V)} {kvs:List (Val×Val)} {k:Val},ViewP K ct P H ps kvs->(aG kvs k=none->aG ps k=none)/\∀x,aG kvs k=some x->∃u,aG ps k=some u/\bw K ct P H u x
 | [],[],_,_=>⟨fun _=>rfl,fun x h=>by cases h⟩
 | (g', v) :: ps, (g, x) :: kvs, k, h => by
  obtain⟨e,h1,h2⟩:=h;have e:g'=g:=e;subst e;obtain⟨i1,i2⟩:=yM (k:=k) h2;unfold aG
  by_cases e:g'=k
  ·rw[if_pos e,if_pos e];exact⟨fun h=>(nomatch h),fun x hx=>by cases hx; exact⟨v,rfl,h1⟩⟩
  ·rw[if_neg e,if_neg e];exact⟨i1,i2⟩
 | [],_::_,_,h=>h.elim
 | _::_,[],_,h=>h.elim
theorem wx:∀{ps:List (Val×V)} {kvs:List (Val×OV)} {F:List Addr} {k:Val},ORepP K ct Φ H ps kvs F->F.Nodup->(aG kvs k=none->aG ps k=none)/\∀o,aG kvs k=some o->∃u F',aG ps k=some u/\aR K ct Φ H u o F'/\F'.Nodup/\∀x∈F',x∈F
 | [],[],_,_,_,_=>⟨fun _=>rfl,fun x h=>by cases h⟩
 | (g', v) :: ps, (g, x) :: kvs, F, k, h, n => by
  obtain⟨F1,F2,rfl,e,h1,h2⟩:=h;have e:g'=g:=e;subst e;obtain⟨n1,n2,_⟩:=cA.mp n;obtain⟨i1,i2⟩:=wx (k:=k) h2 n2;unfold aG
  by_cases e:g'=k
  ·rw[if_pos e,if_pos e];exact⟨fun h=>(nomatch h),fun x hx=>by cases hx; exact⟨v,F1,rfl,h1,n1,fun y hy=>au _ hy⟩⟩
  ·rw[if_neg e,if_neg e];exact⟨i1,fun o ho=>let ⟨u,F',g1,g2,g3,g4⟩:=i2 o ho; ⟨u,F',g1,g2,g3,fun y hy=>aJ _ (g4 y hy)⟩⟩
 | [],_::_,_,_,h,_=>h.elim
 | _::_,[],_,_,h,_=>h.elim
theorem At {κ:Type} {f:κ->Val} {key:Val} {u:V}:∀{vs:List (κ×V)},aG (vs.map fun p=>(f p.1,p.2)) key=some u->∃q,key=f q
 | [],h=>by cases h
 | p::vs,h=>by
  rw[bU] at h;unfold aG at h
  by_cases e:f p.1=key
  ·exact⟨p.1,e.symm⟩
  ·rw[if_neg e] at h; exact At h
theorem Fg {key:Val} {u:V}:∀{zs:List (NestedKey×Addr×V)},(∀z∈zs,Tw.j8 z.1=false)->aG (zs.map fun z=>(dw z.1,z.2.2)) key=some u->kindOf key=none
 | [],_,h=>by cases h
 | z :: zs, f, h => by
  rw[bU] at h;unfold aG at h
  by_cases e:dw z.1=key
  ·rw[←e];exact wS (f z (ao ..))
  ·rw[if_neg e] at h;exact Fg (fun y hy=>f y (aE _ hy)) h
theorem GC {a:Addr} {ps:List (Val×V)} {key:Val} {kv:V} {Pk:Addr->Prop} {u:V} (h:hZ ct H a (Rd H a) ps) (hk:bw K ct Pk H kv key) (hn:kindOf key≠none) (l:aG ps key=some u):DGet H a kv (some u):=by
 rcases h with⟨vs,h,rfl,_⟩|⟨vs,h,rfl,_⟩|⟨q,xs,h,rfl,_,f⟩
 rotate_right
 ·exfalso
  exact hn (Fg f l)
 ·obtain⟨q,rfl⟩:=At l;rw[oV bM (fun _ _=>qA)] at l;exact .inl ⟨vs,q,h,(vq hk).1,l.symm⟩
 ·obtain⟨q,rfl⟩:=At l;obtain⟨b,e1,e2,_⟩:=yL hk;rw[oV gZ (fun _ _=>AG)] at l;exact .inr ⟨vs,q,b,h,e1,e2,l.symm⟩
theorem Nu:lu K ct DU xn:=fun Φ H v w o1 o2 z D1 D2 Q r1 n1 r2 h q=>by
 unfold xn at h;split at h
 ·rename_i kvs key
  split at h
  case isFalse=>cases h
  rename_i hs
  have hn:kindOf key≠none:=fun z=>by rw[z] at hs; cases hs
  cases e:aG kvs key with
  | none=>rw[e] at h; cases h
  | some y =>
   rw[e] at h
   cases h
   obtain⟨a,ps,rfl,_,h1,h2⟩:=r1.1;obtain⟨u,g1,g2⟩:=(yM h2).2 y e;exact⟨a,u,rfl,GC h1 r2.1 hn g1,q u [] ⟨g2,rfl⟩ b5 fun _ z=>nomatch z⟩
 ·rename_i kvs key
  split at h
  case isFalse=>cases h
  rename_i hs
  have hn:kindOf key≠none:=fun z=>by rw[z] at hs; cases hs
  obtain⟨a,ps,F,rfl,h1,h2,rfl⟩:=r1;obtain⟨u,F',g1,g2,g3,g4⟩:=(wx h2 (bT.mp n1).2).2 z h;exact⟨a,u,rfl,GC (hV h1 lY fun _ _ z=>.inl z) r2.1 hn g1,q u F' g2 g3 fun x hx=>aE _ (g4 x hx)⟩
 ·cases h
def aP (a b:OV):Option OV:=((qM a b).or ((xk a b).or (qL a b))).or (xn a b)
def pc (f:Str):OV->Option OV
 | .fz (.obj _ fs)=>(eK fs f).map .fz
 | .obj _ fs=>eK fs f
 | _=>none
def jd (f:Str) (a:Ef):Ef:=aC (pc f) a
theorem CQ {f:Str}:∀{ps:List (Str×V)} {kvs:List (Str×Val)},ViewF K ct P H ps kvs->eK kvs f=some x->∃u,ps.lookup f=some u/\bw K ct P H u x
 | [],[],_,h=>by cases h
 | (g', v) :: ps, (g, y) :: kvs, h, e => by
  obtain⟨e1,h1,h2⟩:=h;have e1:g'=g:=e1;subst e1;unfold eK at e;rw[jX]
  by_cases z:g'=f
  ·rw[if_pos z] at e
   cases e
   exact⟨v,by simp[z],h1⟩
  ·rw[if_neg z] at e
   have:(f==g')=false:=by simpa using fun q=>z q.symm
   rw[this];exact CQ h2 e
 | [],_::_,h,_=>h.elim
 | _::_,[],h,_=>h.elim
theorem KD {f:Str} {a:Ef} (fo:og K ct f) (q:tE K ct E (jd f a) js wr σ H Q):tFld K (tE K ct E a js wr) f σ H Q:=by
 obtain⟨B,X,Φ0,W,rfl,s,q⟩:=q;unfold jd aC at q;refine⟨B,X,Φ0,W,rfl,s,?_⟩
 cases ha:a W.S with
 | no=>rw[ha] at q; exact q.elim
 | ex e S'=>rw[ha] at q; exact q
 | ok x S1 =>
  rw[ha] at q;intro v W1 D1 s1 e1 a1 t1;subst e1;rw[Out.bind_ok] at q
  cases hg:pc f x with
  | none=>rw[hg] at q; exact q.elim
  | some z =>
   rw[hg] at q;unfold pc at hg;split at hg
   ·rename_i c fs
    cases e:eK fs f with
    | none=>rw[e] at hg; cases hg
    | some y =>
     rw[e] at hg
     cases hg
     obtain⟨a,dx,ps,rfl,_,h1,h2⟩:=t1.rep.1;obtain⟨u,g1,g2⟩:=CQ h2 e;exact⟨a,ct c,dx,ps,u,rfl,h1,(fo c).1,(fo c).2,g1,q u W1 [] s1 rfl a1 ((iy g2).mono (fun _ z=>nomatch z) fun _ z=>z)⟩
   ·rename_i c fs
    obtain⟨a,dx,ps,F,rfl,h1,h2,rfl⟩:=t1.rep;obtain⟨u,F',g1,g2,g3,g4,_⟩:=vj h2 (bT.mp t1.nd).2 hg;exact⟨a,ct c,dx,ps,u,rfl,h1,(fo c).1,(fo c).2,g1,q u W1 F' s1 rfl a1 (t1.part g2 g4 fun x hx=>aE _ (g3 x hx))⟩
   ·cases hg
def c7:Env->Out (Option Int):=fun S=>.ok none S
def c5 (a:Ef):Env->Out (Option Int):=fun S=>(a S).bind fun o S1=>(Out.of (dR o) S1).bind fun i S2=>.ok (some i) S2
def tO (K:PySem.W.Frag) (ct:Tw.Ct) (E:Exn->L2.St->Hp->Prop) (f:Env->Out (Option Int)) (wr:List Nat):TO:=fun σ H Q=>∃B X Φ0 W,W.H=H/\Sat K ct B X Φ0 σ W/\match f W.S with
 | .ok r S'=>∀W',Sat K ct B X Φ0 σ W'->W'.S=S'->Step wr W W'->Q r W'.H
 | .ex e S'=>∀W',Sat K ct B X Φ0 σ W'->W'.S=S'->Step wr W W'->E e σ W'.H
 | .no=>False
theorem Kj {Q:Option Int->Hp->Prop} (q:tO K ct E c7 [] σ H Q):tNoPart σ H Q:=by
 obtain⟨B,X,Φ0,W,rfl,s,q⟩:=q;exact q W s rfl (Step.refl W)
theorem Kb {Q:Option Int->Hp->Prop} {a:Ef} (q:tO K ct E (c5 a) wr σ H Q):tPart (tE K ct E a js wr) σ H Q:=by
 obtain⟨B,X,Φ0,W,rfl,s,q⟩:=q;unfold c5 at q;refine⟨B,X,Φ0,W,rfl,s,?_⟩
 cases ha:a W.S with
 | no=>rw[ha] at q; exact q.elim
 | ex e S'=>rw[ha] at q; exact q
 | ok x S1 =>
  rw[ha] at q;intro v W1 D1 s1 e1 a1 t1;subst e1;rw[Out.bind_ok] at q
  cases hi:dR x with
  | none=>rw[hi] at q; exact q.elim
  | some i =>
   rw[hi] at q;rw[F6 hi] at t1;exact⟨i,t1.rep.1,q W1 s1 rfl a1⟩
def cutG {α:Type} (xs:List α) (lo hi:Option Int):List α:=(xs.drop (HT.sIx xs.length 0 lo)).take (HT.sIx xs.length xs.length hi - HT.sIx xs.length 0 lo)
def k7 (a:OV) (lo hi:Option Int):Option OV:=match a with
 | .fz (.str s)=>some (vS (cutS s lo hi))
 | .fz (.tup xs)=>some (.fz (.tup (cutG xs lo hi)))
 | .fz (.scr ns)=>some (ag ((cutG ns lo hi).map .int))
 | a=>(dC a).map fun xs=>ag (cutG xs lo hi)
def cY (a:Ef) (l h:Env->Out (Option Int)):Ef:=fun S=>(a S).bind fun o S1=>(l S1).bind fun lo S2=>(h S2).bind fun hi S3=>Out.of (k7 o lo hi) S3
abbrev v9 (K:PySem.W.Frag):V->Option Int->Option Int->Hp->VK->Prop:=fun x lo hi H Q=>rSlL K x lo hi H Q\/rSlA K x lo hi H Q\/rSlS x lo hi H Q
theorem sj:SlR X (v9 X.K):=sl_list.or (sl_tupA.or sl_str)
theorem CK:∀(n:Nat) {vs:List V} {xs:List Val},ViewL K ct P H vs xs->ViewL K ct P H (vs.drop n) (xs.drop n)
 | 0,_,_,h=>h
 | n+1,[],[],_=>trivial
 | n+1,_::_,_::_,h=>CK n h.2
 | _+1,[],_::_,h=>h.elim
 | _+1,_::_,[],h=>h.elim
theorem CF:∀(n:Nat) {vs:List V} {xs:List Val},ViewL K ct P H vs xs->ViewL K ct P H (vs.take n) (xs.take n)
 | 0,_,_,_=>trivial
 | n+1,[],[],_=>trivial
 | n+1,_::_,_::_,h=>⟨h.1,CF n h.2⟩
 | _+1,[],_::_,h=>h.elim
 | _+1,_::_,[],h=>h.elim
theorem CL {vs:List V} {xs:List Val} (lo hi:Option Int) (h:ViewL K ct P H vs xs):ViewL K ct P H (cutV vs lo hi) (cutG xs lo hi):=by
 have e:=fG h;unfold cutV cutG;rw[e];exact CF _ (CK _ h)
theorem w7 (ns:List Int):ViewL K ct P H (ns.map V.int) (ns.map .int):=by
 induction ns with
 | nil=>trivial
 | cons n ns ih=>exact⟨rfl,ih⟩
theorem Dh {s t:Str} (h:PyData.strOk s=true) (ht:∀c∈t.cps.toList,c∈s.cps.toList):PyData.strOk t=true:=by
 have h:s.cps.all (·<0x110000)=true:=h
 show t.cps.all (·<0x110000)=true
 rw[Array.all_eq_true_iff_forall_mem] at h ⊢
 exact fun c hc=>h c (q5.mp (ht c (q5.mpr hc)))
theorem Lb {s:Str} (lo hi:Option Int) (h:ia s):ia (cutS s lo hi):=by
 refine⟨Dh h.1 fun c hc=>?_,dH ?_ h.2⟩
 ·unfold cutS at hc;exact List.mem_of_mem_drop (List.mem_of_mem_take (by simpa using hc))
 ·show(cutS s lo hi).cps.size<=s.cps.size
  unfold cutS;simp only[List.size_toArray,List.length_take,List.length_drop,Array.length_toList];omega
theorem Qn {lo hi:Option Int} {z:OV} (r:aR K ct Φ H v o D) (h:k7 o lo hi=some z) (q:Fin K ct Φ H z Q):v9 K v lo hi H Q:=by
 unfold k7 at h;split at h
 ·cases h
  obtain⟨e,h1⟩:=r.1;exact .inr (.inr ⟨_,e,h1.2,cO q ⟨rfl,Lb lo hi h1⟩⟩)
 ·rename_i xs
  cases h
  obtain⟨a,vs,rfl,h1,h2,h3⟩:=r.1;have e:=fG h3;refine .inr (.inl ⟨a,vs,rfl,.inl (.inl h1),fun hw=>?_,fun _=>uz q (CL lo hi h3) (dH (cutV_length vs lo hi) h2)⟩)
  have ec:cutG xs lo hi=xs:=by
   unfold cutG;rw[←e,hw.1,hw.2,List.drop_zero,e];simp
  rw[ec] at q;exact cO q ⟨a,vs,rfl,h1,h2,h3⟩
 ·rename_i ns
  cases h
  obtain⟨a,rfl,h1,hl⟩:=r.1
  have hs:SqL K H a (ns.map V.int):=by
   rcases h1 with⟨_,h1⟩|h1
   ·exact .inl h1
   ·rcases h1 with(h1|⟨_,h1⟩)|h1
    ·cases h1
    ·cases h1
    ·exact .inr h1
  refine .inl ⟨a,_,rfl,hs,?_⟩
  have ec:cutV (ns.map V.int) lo hi=(cutG ns lo hi).map V.int:=by
   unfold cutV cutG;rw[aT,List.map_take,List.map_drop]
  rw[ec];refine jV q (w7 _) ?_;rw[aT];refine dH ?_ hl;unfold cutG;rw[List.length_take,List.length_drop];omega
 ·cases e:dC o with
  | none=>rw[e] at h; cases h
  | some xs =>
   rw[e] at h
   cases h
   obtain⟨a,vs,rfl,h1,h2,h3⟩:=jQ r e;exact .inl ⟨a,vs,rfl,.inl (.inl h1),jV q (CL lo hi h3) (dH (cutV_length vs lo hi) h2)⟩
end
end Mp
namespace Mp
open PySem L2 Tw
section
variable {K:PySem.W.Frag} {ct:Tw.Ct} {E:Exn->L2.St->Hp->Prop} {B:Hp} {P Φ Φ0:Addr->Prop} {σ:L2.St} {W W' W1:Wd} {H H':Hp} {v w:V} {x y:Val} {o:OV} {D:List Addr} {X:Cx} {js wr js1 wr1 js2 wr2 wr3:List Nat} {g:Ef} {Q:VK} {i k:Nat}
theorem JZ {a:Ef} {l h:Env->Out (Option Int)} (h1:∀k∈js,k∉wr2++wr3) (q:tE K ct E (cY a l h) [] (wr1++(wr2++wr3)) σ H Q):L2.tSl (v9 K) (tE K ct E a js wr1) (tO K ct E l wr2) (tO K ct E h wr3) σ H Q:=by
 obtain⟨B,X,Φ0,W,rfl,s,q⟩:=q;unfold cY at q;refine⟨B,X,Φ0,W,rfl,s,?_⟩
 cases ha:a W.S with
 | no=>rw[ha] at q; exact q.elim
 | ex e S'=>rw[ha] at q; exact fun W' s' e' a'=>q W' s' e' (a'.mono fun k hk=>au _ hk)
 | ok x S1 =>
  rw[ha] at q;intro v W1 D1 s1 e1 a1 t1;subst e1;rw[Out.bind_ok] at q;refine⟨B,X,Φ0,W1,rfl,s1,?_⟩
  cases hl:l W1.S with
  | no=>rw[hl] at q; exact q.elim
  | ex e S'=>rw[hl] at q; exact fun W' s' e' a'=>q W' s' e' (a1.trans (a'.mono fun k hk=>au _ hk))
  | ok lo S2 =>
   rw[hl] at q;intro W2 s2 e2 a2;subst e2;rw[Out.bind_ok] at q;refine⟨B,X,Φ0,W2,rfl,s2,?_⟩
   cases hh:h W2.S with
   | no=>rw[hh] at q; exact q.elim
   | ex e S'=>rw[hh] at q; exact fun W' s' e' a'=>q W' s' e' (a1.trans (a2.trans a'))
   | ok hi S3 =>
    rw[hh] at q;intro W3 s3 e3 a3;subst e3;rw[Out.bind_ok] at q
    cases hg:k7 x lo hi with
    | none=>rw[hg] at q; exact q.elim
    | some z =>
     rw[hg] at q;have t3:=t1.step s1 a1 (a2.trans a3) h1
     refine Qn t3.rep hg fun u H' D e k1 k2 k3=>?_
     have aa:=a1.trans (a2.trans a3)
     have st:Step (wr1++(wr2++wr3)) W { W3 with H:=H' }:=by
      have:=aa.trans (gU e);rw[b6] at this;exact this
     exact q u { W3 with H:=H' } D (s3.grow e) rfl st (ot aa s3 e k1 k2 k3)
def qI (o:OV):Option OV:=(dC o).map fun xs=>ag xs.reverse
theorem CH:∀{vs:List V} {xs:List Val},ViewL K ct P H vs xs->ViewL K ct P H vs.reverse xs.reverse
 | [],[],_=>trivial
 | v::vs,x::xs,h=>by
  rw[pB,pB];exact yV (CH h.2) h.1
 | [],_::_,h=>h.elim
 | _::_,[],h=>h.elim
theorem J7 {a:Ef} (q:tE K ct E (aC qI a) [] wr σ H Q):tRevL K (tE K ct E a js wr) σ H Q:=by
 refine pS (r:=fun x H1 Q=>∃a xs,x=.ref a/\SqL K H1 a xs/\∀p,H1 p=none->Q (.ref p) (upd H1 p (.lst xs.reverse))) (g:=qI) (fun Φ H v o z D Q r h q=>?_) q;unfold qI at h
 cases e:dC o with
 | none=>rw[e] at h; cases h
 | some xs =>
  rw[e] at h
  cases h
  obtain⟨a,vs,rfl,h1,h2,h3⟩:=jQ r e;exact⟨a,vs,rfl,.inl (.inl h1),jV q (CH h3) (by rw[nY]; exact h2)⟩
def hW (K:PySem.W.Frag) (ct:Tw.Ct) (r:List V->Hp->VK->Prop) (g:OV->Option OV):Prop:=lj K ct (fun v H Q=>r [v] H Q) g
theorem KQ {r:List V->Hp->VK->Prop} {g:OV->Option OV} {a:Ef} (hr:hW K ct r g) (q:tE K ct E (aC g a) [] wr σ H Q):tCB r (tCons (tE K ct E a js wr) tNil) σ H Q:=pS (r:=fun v H Q=>r [v] H Q) hr q
theorem hW.or {r r':List V->Hp->VK->Prop} {g g':OV->Option OV} (h:hW K ct r g) (h':hW K ct r' g'):hW K ct (fun xs H Q=>r xs H Q\/r' xs H Q) (fun a=>(g a).or (g' a)):=lj.or h h'
def A4:OV->Option OV
 | .fz (.tup xs)=>some (vI xs.length)
 | .fz (.lst xs)=>some (vI xs.length)
 | .fz (.str s)=>some (vI s.length)
 | .lst xs=>some (vI xs.length)
 | _=>none
def A3:OV->Option OV
 | .dict kvs=>some (vI kvs.length)
 | _=>none
abbrev zS (K:PySem.W.Frag):List V->Hp->VK->Prop:=fun xs H Q=>∃p ys,xs=[V.ref p]/\(SqL K H p ys\/SqT K H p ys)/\Q (.int ys.length) H
abbrev zT:List V->Hp->VK->Prop:=fun xs H Q=>∃z,xs=[V.str z]/\z.length<=sizeLine/\Q (.int z.length) H
theorem MV:hW K ct (fun xs H Q=>zS K xs H Q\/zT xs H Q) A4:=fun Φ H v o z D Q r h q=>by
 unfold A4 at h;split at h
 ·cases h
  obtain⟨a,vs,rfl,h1,h2,h3⟩:=r.1;exact .inl ⟨a,vs,rfl,.inr (.inl (.inl h1)),by rw[fG h3]; exact cO q rfl⟩
 ·cases h
  obtain⟨a,vs,rfl,_,h1,h2,h3⟩:=r.1;exact .inl ⟨a,vs,rfl,.inl (.inl (.inl h1)),by rw[fG h3]; exact cO q rfl⟩
 ·cases h
  obtain⟨rfl,h1,h2⟩:=r.1;exact .inr ⟨_,rfl,h2,cO q rfl⟩
 ·cases h
  obtain⟨a,vs,F,rfl,h1,h2,h3,_⟩:=r;exact .inl ⟨a,vs,rfl,.inl (.inl (.inl h1)),by rw[lZ h3]; exact cO q rfl⟩
 ·cases h
abbrev zU:List V->Hp->VK->Prop:=fun xs H Q=>∃a kvs,xs=[V.ref a]/\H a=some (.dK kvs)/\Q (.int kvs.length) H
theorem MU:hW K ct (fun xs H Q=>zU xs H Q\/we xs H Q) A3:=fun Φ H v o z D Q r h q=>by
 unfold A3 at h;split at h
 ·cases h
  obtain⟨a,ps,F,rfl,h1,h2,_⟩:=r;have e:=wy h2
  rcases h1 with⟨vs,h1,rfl,_⟩|⟨vs,h1,rfl,_⟩|⟨z,xs,h1,rfl,n,_⟩
  rotate_right
  ·rw[aT] at e;exact .inr (.inr ⟨a,_,z::xs,rfl,h1,n.1,by rw[e]; exact cO q rfl⟩)
  ·rw[aT] at e;exact .inl ⟨a,vs,rfl,h1,by rw[e]; exact cO q rfl⟩
  ·rw[aT] at e;exact .inr (.inl ⟨a,vs,rfl,h1,by rw[e]; exact cO q rfl⟩)
 ·cases h
def jT (o:OV):Option OV:=(A4 o).or (A3 o)
theorem wA:hW K ct (fun xs H Q=>(zS K xs H Q\/zT xs H Q)\/(zU xs H Q\/we xs H Q)) jT:=MV.or MU
theorem xI:CallR X (.builtin "len") (fun xs H Q=>(zS X.K xs H Q\/zT xs H Q)\/(zU xs H Q\/we xs H Q)):=(call_len_seq.or call_len_str).or (call_lenD.or Ru)
def xj:OV->Option OV
 | .fz (.tup xs)=>some (ag xs)
 | o=>(dC o).map ag
abbrev L1 (K:PySem.W.Frag):List V->Hp->VK->Prop:=fun xs H Q=>∃p ys,xs=[V.ref p]/\(SqL K H p ys\/SqT K H p ys)/\∀l,H l=none->Q (.ref l) (upd H l (.lst ys))
theorem MT:hW K ct (L1 K) xj:=fun Φ H v o z D Q r h q=>by
 unfold xj at h;split at h
 ·cases h
  obtain⟨a,vs,rfl,h1,h2,h3⟩:=r.1;exact⟨a,vs,rfl,.inr (.inl (.inl h1)),jV q h3 h2⟩
 ·cases e:dC o with
  | none=>rw[e] at h; cases h
  | some xs =>
   rw[e] at h
   cases h
   obtain⟨a,vs,rfl,h1,h2,h3⟩:=jQ r e;exact⟨a,vs,rfl,.inl (.inl (.inl h1)),jV q h3 h2⟩
def g9:OV->Option OV
 | .fz (.tup xs)=>some (.fz (.tup xs))
 | o=>(dC o).map fun xs=>.fz (.tup xs)
abbrev LZ (K:PySem.W.Frag):List V->Hp->VK->Prop:=fun xs H Q=>∃p ys,xs=[V.ref p]/\((SqL K H p ys/\∀l,H l=none->Q (.ref l) (upd H l (.tup ys)))\/(SqT K H p ys/\Q (.ref p) H))
theorem j7:hW K ct (LZ K) g9:=fun Φ H v o z D Q r h q=>by
 unfold g9 at h;split at h
 ·cases h
  obtain⟨a,vs,rfl,h1,h2,h3⟩:=r.1;exact⟨a,vs,rfl,.inr ⟨.inl (.inl h1),cO q ⟨a,vs,rfl,h1,h2,h3⟩⟩⟩
 ·cases e:dC o with
  | none=>rw[e] at h; cases h
  | some xs =>
   rw[e] at h
   cases h
   obtain⟨a,vs,rfl,h1,h2,h3⟩:=jQ r e;exact⟨a,vs,rfl,.inl ⟨.inl (.inl h1),uz q h3 h2⟩⟩
def dU:OV->Option OV
 | .fz (.int i)=>some (vI i)
 | .fz (.bool b)=>some (vI (if b then 1 else 0))
 | _=>none
abbrev L4:List V->Hp->VK->Prop:=fun xs H Q=>(∃i,xs=[V.int i]/\Q (.int i) H)\/∃k,xs=[V.bl k]/\Q (.int (if k then 1 else 0)) H
theorem kI:hW K ct L4 dU:=fun Φ H v o z D Q r h q=>by
 unfold dU at h;split at h
 ·cases h
  obtain rfl:=r.1;exact .inl ⟨_,rfl,cO q rfl⟩
 ·cases h
  obtain rfl:=r.1;exact .inr ⟨_,rfl,cO q rfl⟩
 ·cases h
def lf:List Val->Option (List Bool)
 | []=>some []
 | .bool b::r=>(lf r).bind fun bs=>some (b::bs)
 | _::_=>none
theorem GM:∀{xs:List Val} {is:List Bool},lf xs=some is->xs=is.map .bool
 | [],_,h=>by cases h; rfl
 | .bool i::r,is,h=>by
  have h:(lf r).bind (fun is=>some (i::is))=some is:=h
  cases e:lf r with
  | none=>rw[e] at h; cases h
  | some js=>rw[e] at h; cases h; rw[GM e]<;>rfl
 | .none::_,_,h|.int _::_,_,h|.str _::_,_,h|.tup _::_,_,h|.lst _::_,_,h|.dict _::_,_,h|.obj _ _::_,_,h|.scr _::_,_,h=>by cases h
theorem CM:∀{is:List Bool} {vs:List V},ViewL K ct P H vs (is.map .bool)->vs=is.map V.bl
 | [],[],_=>rfl
 | i::is,v::vs,h=>by rw[show v=.bl i from h.1,CM h.2]<;>rfl
 | [],_::_,h=>h.elim
 | _::_,[],h=>h.elim
def jU (o:OV):Option OV:=(dC o).bind fun xs=>(lf xs).map fun bs=>vB (bs.all id)
theorem RB {bs:List Bool} {xs:List Val} (r:aR K ct Φ H v o D) (h1:dC o=some xs) (h2:lf xs=some bs):∃a,v=.ref a/\SqL K H a (bs.map V.bl):=by
 obtain⟨a,vs,rfl,h3,_,h4⟩:=jQ r h1;rw[GM h2] at h4;rw[CM h4] at h3;exact⟨a,rfl,.inl (.inl h3)⟩
theorem wB:hW K ct (rAll K) jU:=fun Φ H v o z D Q r h q=>by
 unfold jU at h
 cases e:dC o with
 | none=>rw[e] at h; cases h
 | some xs =>
  rw[e] at h;have h:(lf xs).map (fun bs=>vB (bs.all id))=some z:=h
  cases e2:lf xs with
  | none=>rw[e2] at h; cases h
  | some bs =>
   rw[e2] at h
   cases h
   obtain⟨a,rfl,h3⟩:=RB r e e2;exact⟨a,bs,rfl,h3,cO q rfl⟩
def ins {α:Type} (le:α->α->Bool) (a:α):List α->List α
 | []=>[a]
 | b::r=>if le a b then a::b::r else b::ins le a r
def wY {α:Type} (le:α->α->Bool):List α->List α
 | []=>[]
 | a::r=>ins le a (wY le r)
theorem AL {α:Type} {le:α->α->Bool} {a:α}:∀xs:List α,(ins le a xs).Perm (a::xs)
 | []=>.refl _
 | b::r=>by
  unfold ins;split
  ·exact .refl _
  ·exact((AL r).cons b).trans (.swap a b r)
theorem FV {α:Type} {le:α->α->Bool}:∀xs:List α,(wY le xs).Perm xs
 | []=>.refl _
 | a::r=>(AL _).trans ((FV r).cons a)
theorem F7 {α:Type} {le:α->α->Bool} (tr:∀a b c,le a b=true->le b c=true->le a c=true) (to:∀a b,le a b=true\/le b a=true) {a:α}:∀{xs:List α},xs.Pairwise (fun a b=>le a b=true)->(ins le a xs).Pairwise (fun a b=>le a b=true)
 | [],_=>List.pairwise_singleton _ _
 | b :: r, h => by
  obtain⟨h1,h2⟩:=jI.mp h;unfold ins
  by_cases e:le a b=true
  ·rw[if_pos e];refine jI.mpr ⟨fun c hc=>?_,h⟩
   rcases aU.mp hc with z|z
   ·rw[z]; exact e
   ·exact tr a b c e (h1 c z)
  ·rw[if_neg e];refine jI.mpr ⟨fun c hc=>?_,F7 tr to h2⟩
   rcases aU.mp ((AL r).mem_iff.mp hc) with z|z
   ·rw[z]; exact(to a b).resolve_left e
   ·exact h1 c z
theorem FU {α:Type} {le:α->α->Bool} (tr:∀a b c,le a b=true->le b c=true->le a c=true) (to:∀a b,le a b=true\/le b a=true):∀xs:List α,(wY le xs).Pairwise (fun a b=>le a b=true)
 | []=>.nil
 | _::r=>F7 tr to (FU tr to r)
theorem Dm {α:Type} {R:α->α->Prop} (as:∀a b,R a b->R b a->a=b):∀{xs ys:List α},xs.Perm ys->xs.Pairwise R->ys.Pairwise R->xs=ys
 | [],ys,p,_,_=>(List.nil_perm.mp p).symm
 | x::xs,[],p,_,_=>absurd p.length_eq (by simp)
 | x :: xs, y :: ys, p, hx, hy => by
  obtain⟨x1,x2⟩:=jI.mp hx;obtain⟨y1,y2⟩:=jI.mp hy
  have e:x=y:=by
   rcases aU.mp (p.mem_iff.mp (ao (a:=x) (l:=xs))) with z|z
   ·exact z
   ·rcases aU.mp (p.mem_iff.mpr (ao (a:=y) (l:=ys))) with z'|z'
    ·exact z'.symm
    ·exact as x y (x1 y z') (y1 x z)
  subst e;rw[Dm as (List.Perm.cons_inv p) x2 y2]
def sI (ns:List Int):List Int:=wY (fun a b=>decide (a<=b)) ns
theorem zJ (ns:List Int):(sI ns).Pairwise (·<=·):=(FU (fun a b c h1 h2=>by simp only[decide_eq_true_eq] at *; omega) (fun a b=>by simp only[decide_eq_true_eq]; omega) ns).imp fun h=>of_decide_eq_true h
theorem m7 (ns:List Int):(sI ns).Perm ns:=FV ns
theorem Lv {ns ms:List Int} (h1:ms.Perm ns) (h2:ms.Pairwise (·<=·)):ms=sI ns:=Dm (fun a b h1 h2=>Int.le_antisymm h1 h2) (h1.trans (m7 ns).symm) h2 (zJ ns)
def uv (o:OV):Option OV:=(dC o).bind fun xs=>(gu xs).map fun ns=>ag ((sI ns).map .int)
theorem MK:hW K ct (rSortedI K) uv:=fun Φ H v o z D Q r h q=>by
 unfold uv at h
 cases e:dC o with
 | none=>rw[e] at h; cases h
 | some xs =>
  rw[e] at h;have h:(gu xs).map (fun ns=>ag ((sI ns).map .int))=some z:=h
  cases e2:gu xs with
  | none=>rw[e2] at h; cases h
  | some ns =>
   rw[e2] at h
   cases h
   obtain⟨a,vs,rfl,h3,h5,h4⟩:=jQ r e;rw[qE e2] at h4;rw[pP h4] at h3 h5;refine⟨a,ns,rfl,.inl (.inl h3),fun ns' p h1 h2 hp=>?_⟩;rw[Lv h1 h2];exact jV q (w7 _) (by rw[aT,(m7 ns).length_eq,←aT]; exact h5) p hp
def lU:List Val->Option (List Str)
 | []=>some []
 | .str s::r=>(lU r).bind fun ss=>some (s::ss)
 | _::_=>none
theorem zo:∀{xs:List Val} {is:List Str},lU xs=some is->xs=is.map .str
 | [],_,h=>by cases h; rfl
 | .str i::r,is,h=>by
  have h:(lU r).bind (fun is=>some (i::is))=some is:=h
  cases e:lU r with
  | none=>rw[e] at h; cases h
  | some js=>rw[e] at h; cases h; rw[zo e]<;>rfl
 | .none::_,_,h|.bool _::_,_,h|.int _::_,_,h|.tup _::_,_,h|.lst _::_,_,h|.dict _::_,_,h|.obj _ _::_,_,h|.scr _::_,_,h=>by cases h
theorem yP:∀{is:List Str} {vs:List V},ViewL K ct P H vs (is.map .str)->vs=is.map V.str/\∀s∈is,ia s
 | [],[],_=>⟨rfl,fun _ z=>nomatch z⟩
 | i::is,v::vs,h=>by
  obtain⟨e1,e2⟩:=yP h.2;refine⟨by rw[show v=.str i from h.1.1,e1]<;>rfl,fun s hs=>?_⟩
  rcases aU.mp hs with z|z
  ·rw[z]; exact h.1.2
  ·exact e2 s z
 | [],_::_,h=>h.elim
 | _::_,[],h=>h.elim
def mu (o:OV):Option (List Val):=(dC o).or (jP o)
def qK (a b:OV):Option OV:=match a with
 | .fz (.str s)=>(mu b).bind fun xs=>(lU xs).bind fun ss=>if (ss.map (·.length)).sum+ss.length * s.length<bL then some (vS (Str.join s ss)) else none
 | _=>none
abbrev DT (K:PySem.W.Frag):V->List V->Hp->VK->Prop:=fun x xs H Q=>∃a p,∃ys:List Str,x=.str a/\xs=[.ref p]/\(SqL K H p (ys.map V.str)\/SqT K H p (ys.map V.str))/\(ys.map (·.length)).sum+ys.length * a.length<=16777216/\Q (.str (Txt.join a ys)) H
theorem FQ {c:Nat} {s:Str}:∀{ss:List Str},c∈(Str.join s ss).cps.toList->c∈s.cps.toList\/∃t∈ss,c∈t.cps.toList
 | [],h=>by have h:c∈(#[]:Array Nat).toList:=h; simp at h
 | [x],h=>.inr ⟨x,by simp,h⟩
 | x :: y :: r, h => by
  have h:c∈(x++s++Str.join s (y::r)).cps.toList:=h;have e:(x++s++Str.join s (y::r)).cps=(x.cps++s.cps)++(Str.join s (y::r)).cps:=rfl;rw[e,Array.toList_append,bc,Array.toList_append,bc] at h
  rcases h with(h|h)|h
  ·exact .inr ⟨x,by simp,h⟩
  ·exact .inl h
  ·rcases FQ h with z|⟨t,ht,hc⟩
   ·exact .inl z
   ·exact .inr ⟨t,aE _ ht,hc⟩
theorem r5 {s:Str}:PyData.strOk s=true↔∀c∈s.cps.toList,c<0x110000:=by
 show s.cps.all (·<0x110000)=true↔_
 rw[Array.all_eq_true_iff_forall_mem]
 constructor
 ·exact fun h c hc=>of_decide_eq_true (h c (q5.mp hc))
 ·exact fun h c hc=>decide_eq_true (h c (q5.mpr hc))
theorem MW:cf K ct (fun x y H Q=>DT K x [y] H Q) qK:=fun Φ H v w o1 o2 z D1 D2 Q r1 r2 h q=>by
 unfold qK at h;split at h
 ·rename_i s
  cases e:mu o2 with
  | none=>rw[e] at h; cases h
  | some xs =>
   rw[e] at h;have h:(lU xs).bind (fun ss=>if (ss.map (·.length)).sum+ss.length * s.length<bL then some (vS (Str.join s ss)) else none)=some z:=h
   cases e2:lU xs with
   | none=>rw[e2] at h; cases h
   | some ss =>
    rw[e2] at h;have h:(if (ss.map (·.length)).sum+ss.length * s.length<bL then some (vS (Str.join s ss)) else none)=some z:=h;split at h
    ·rename_i hl
     cases h
     obtain⟨rfl,g1⟩:=r1.1
     have main:∃a,w=.ref a/\(SqL K H a (ss.map V.str)\/SqT K H a (ss.map V.str))/\∀t∈ss,ia t:=by
      unfold mu at e
      cases e3:dC o2 with
      | some ys =>
       rw[e3] at e
       cases e
       obtain⟨a,vs,rfl,h3,_,h4⟩:=jQ r2 e3;rw[zo e2] at h4;obtain⟨e5,e6⟩:=yP h4;rw[e5] at h3;exact⟨a,rfl,.inl (.inl (.inl h3)),e6⟩
      | none =>
       rw[e3,qY] at e;obtain⟨a,vs,rfl,h3,_,h4⟩:=oZ r2 e;rw[zo e2] at h4;obtain⟨e5,e6⟩:=yP h4;rw[e5] at h3;exact⟨a,rfl,.inr (.inl (.inl h3)),e6⟩
     obtain⟨a,rfl,g2,g3⟩:=main;refine⟨s,a,ss,rfl,rfl,g2,iY (mJ hl (by decide)),?_⟩;have ej:Txt.join s ss=Str.join s ss:=StrLaws.glued_eq_join s ss;rw[ej];refine cO q ⟨rfl,r5.mpr fun c hc=>?_,dH (StrLaws.join_length_le s ss) (iY (gY hl))⟩
     rcases FQ hc with z|⟨t,ht,hc⟩
     ·exact r5.mp g1.1 c z
     ·exact r5.mp (g3 t ht).1 c hc
    ·cases h
 ·cases h
def nO (a b:OV):Option OV:=match a,b with
 | .fz (.str s),.fz (.str t)=>match Builtin.Str.occurrences s t 0 s.length 1 with
  | i::_=>some (vI (i:Nat))
  | []=>none
 | _,_=>none
abbrev DP:V->List V->Hp->VK->Prop:=fun x xs H Q=>∃a b i rest,x=V.str a/\xs=[V.str b]/\Builtin.Str.occurrences a b 0 a.length 1=i::rest/\Q (.int (i:Nat)) H
theorem MM:cf K ct (fun x y H Q=>DP x [y] H Q) nO:=fun Φ H v w o1 o2 z D1 D2 Q r1 r2 h q=>by
 unfold nO at h;split at h
 ·split at h
  ·rename_i i rest e
   cases h
   obtain⟨rfl,_⟩:=r1.1;obtain⟨rfl,_⟩:=r2.1;exact⟨_,_,i,rest,rfl,rfl,e,cO q rfl⟩
  ·cases h
 ·cases h
def xO (K:PySem.W.Frag) (ct:Tw.Ct) (T:String) (r:V->List V->Hp->VK->Prop) (g:OV->OV->Option OV):Prop:=cf K ct (fun x y H Q=>r x [y] H Q) g/\∀(Φ:Addr->Prop) (H:Hp) (v:V) (o o2 z:OV) (D:List Addr),aR K ct Φ H v o D->g o o2=some z->tyV K T v H
theorem M5:xO K ct "str" (DT K) qK:=⟨MW,fun Φ H v o o2 z D r h=>by
 unfold qK at h;split at h
 ·obtain⟨rfl,_⟩:=r.1; rfl
 ·cases h⟩
theorem EF:xO K ct "str" DP nO:=⟨MM,fun Φ H v o o2 z D r h=>by
 unfold nO at h;split at h
 ·obtain⟨rfl,_⟩:=r.1; rfl
 ·cases h⟩
def dD (g:OV->OV->Option OV) (a b:Ef):Ef:=fun S=>(a S).bind fun x S1=>(dN (b S1)).bind fun y S2=>Out.of (g x y) S2
theorem KS {T:String} {r:V->List V->Hp->VK->Prop} {g:OV->OV->Option OV} {a b:Ef} (hr:xO K ct T r g) (hd:∀k∈js1,k∉wr2) (q:tE K ct E (dD g a b) [] (wr1++wr2) σ H Q):tBM K T r (tE K ct E a js1 wr1) (tCons (tE K ct E b js2 wr2) tNil) σ H Q:=by
 obtain⟨B,X,Φ0,W,rfl,s,q⟩:=q;unfold dD at q;refine⟨B,X,Φ0,W,rfl,s,?_⟩
 cases ha:a W.S with
 | no=>rw[ha] at q; exact q.elim
 | ex e S' =>
  rw[ha] at q
  exact fun W' s' e' a'=>q W' s' e' (a'.mono fun k hk=>au _ hk)
 | ok x S1 =>
  rw[ha,Out.bind_ok] at q;intro v W1 D1 s1 e1 a1 t1;subst e1
  cases hb:b W1.S with
  | no=>rw[hb] at q; exact q.elim
  | ex e S'=>rw[hb] at q; exact q.elim
  | ok y S2 =>
   rw[hb,show dN (Out.ok y S2)=Out.ok y S2 from rfl,Out.bind_ok] at q
   cases hg:g x y with
   | none=>rw[hg] at q; exact q.elim
   | some z =>
    rw[hg] at q;refine⟨hr.2 _ _ _ _ _ _ _ t1.rep hg,B,X,Φ0,W1,rfl,s1,?_⟩;rw[hb];intro w W2 D2 s2 e2 a2 t2;subst e2;have t1':=t1.step s1 a1 a2 hd
    refine hr.1 W2.Φ W2.H v w x y z D1 D2 Q t1'.rep t2.rep hg fun u H' D e h1 h2 h3=>?_
    have aa:=a1.trans a2
    have st:Step (wr1++wr2) W { W2 with H:=H' }:=by
     have:=aa.trans (gU e);rw[b6] at this;exact this
    exact q u { W2 with H:=H' } D (s2.grow e) rfl st (ot aa s2 e h1 h2 h3)
end
end Mp
namespace Mp
open PySem L2 Tw
section
variable {K:PySem.W.Frag} {ct:Tw.Ct} {E:Exn->L2.St->Hp->Prop} {B:Hp} {Φ Φ0:Addr->Prop} {σ:L2.St} {W W' W1:Wd} {H:Hp} {v:V} {x y:Val} {o:OV} {D:List Addr} {X:Cx} {js wr wr1 wr2:List Nat} {f g:Ef} {Q:VK} {j k:Nat} {F:be}
def gTup (xs:List Val):Option OV:=if xs.length<bL then some (.fz (.tup xs)) else none
def mB (xs:List Val):Option OV:=if xs.length<bL then some (ag xs) else none
def cj (a:Af):Ef:=c6 gTup a
def cM (a:Af):Ef:=c6 mB a
theorem JW {a:Af} (q:tE K ct E (cj a) [] wr σ H Q):tTup (tA K ct E a wr) σ H Q:=by
 refine C8 (r:=fun xs H1 Q=>xs.length<=sizeLine/\∀p,H1 p=none->Q (.ref p) (upd H1 p (.tup xs))) (g:=gTup) (fun Φ H vs xs z Q r h q=>?_) q;unfold gTup at h;split at h
 ·rename_i hl
  cases h
  have hl':vs.length<=sizeLine:=by rw[fG r]; exact iY (gY hl)
  exact⟨hl',uz q r hl'⟩
 ·cases h
theorem Ks {a:Af} (q:tE K ct E (cM a) [] wr σ H Q):tLst (tA K ct E a wr) σ H Q:=by
 refine C8 (r:=fun xs H1 Q=>xs.length<=sizeLine/\∀p,H1 p=none->Q (.ref p) (upd H1 p (.lst xs))) (g:=mB) (fun Φ H vs xs z Q r h q=>?_) q;unfold mB at h;split at h
 ·rename_i hl
  cases h
  have hl':vs.length<=sizeLine:=by rw[fG r]; exact iY (gY hl)
  exact⟨hl',jV q r hl'⟩
 ·cases h
abbrev Df:=Env->Out (List (Val×OV))
def d7:Df:=fun S=>.ok [] S
def cQ (s:Str) (js:List Nat) (a:Ef) (d:Df):Df:=fun S=>(a S).bind fun o S1=>(Out.of (bO js o) S1).bind fun o' _=>(d S1).bind fun r S2=>.ok ((.str s,o')::r) S2
def qN (kvs:List (Val×OV)):Option OV:=if (kvs.map (·.1)).Nodup/\kvs.length<=15 then some (.dict kvs) else none
def dE (d:Df):Ef:=fun S=>(d S).bind fun kvs S1=>Out.of (qN kvs) S1
def dZ:Ef:=fun S=>.ok (.dict []) S
theorem KL (q:tE K ct E dZ [] [] σ H Q):(fun(_:L2.St) (H:Hp) (Q:VK)=>∀d,H d=none->Q (.ref d) (upd H d (.dK []))) σ H Q:=by
 obtain⟨B,X,Φ0,W,rfl,s,q⟩:=q;intro d hd;have e:=Tw.iP (o:=.dK []) hd;refine q (.ref d) { W with H:=upd W.H d (.dK []) } [d] (s.grow e) rfl (gU e) (ot (Step.refl W) s e ⟨d,[],[],rfl,.inl ⟨[],upd_same,rfl,eR _,b5,fun _ z=>nomatch z⟩,rfl,rfl⟩ (by simp) fun x hx=>by rw[List.mem_singleton.mp hx]; exact hd)
structure TmpP (K:PySem.W.Frag) (ct:Tw.Ct) (wr:List Nat) (W W':Wd) (ps:List (V×V)) (kvs:List (Val×OV)) (D:List Addr):Prop where
 ks:∃ks:List (Str×V),ps=ks.map (fun p=>(V.str p.1,p.2))/\ORepP K ct W'.Φ W'.H (ks.map fun p=>(Val.str p.1,p.2)) kvs D/\∀p∈ks,ia p.1
 nd:D.Nodup
 nph:∀a∈D,¬W'.Φ a
 dj:∀a∈D,∀k,a∉W'.Fs k
 src:∀a∈D,Own W.Fs wr a\/W.H a=none
def r0 (K:PySem.W.Frag) (ct:Tw.Ct) (E:Exn->L2.St->Hp->Prop) (f:Df) (wr:List Nat):L2.St->Hp->(List (V×V)->Hp->Prop)->Prop:=fun σ H Q=>∃B X Φ0 W,W.H=H/\Sat K ct B X Φ0 σ W/\match f W.S with
 | .ok kvs S'=>∀ps W' D,Sat K ct B X Φ0 σ W'->W'.S=S'->Step wr W W'->TmpP K ct wr W W' ps kvs D->Q ps W'.H
 | .ex e S'=>∀W',Sat K ct B X Φ0 σ W'->W'.S=S'->Step wr W W'->E e σ W'.H
 | .no=>False
theorem Q1 {Q:List (V×V)->Hp->Prop} (q:r0 K ct E d7 [] σ H Q):tPairs [] σ H Q:=by
 obtain⟨B,X,Φ0,W,rfl,s,q⟩:=q;exact q [] W [] s rfl (Step.refl W) ⟨⟨[],rfl,rfl,fun _ z=>(nomatch z)⟩,b5,fun _ z=>(nomatch z),fun _ z=>(nomatch z),fun _ z=>(nomatch z)⟩
theorem Q2 {s0:Str} {a:Ef} {d:Df} {trs:List (TE×TE)} {Q:List (V×V)->Hp->Prop} (hs:ia s0) (hr:∀σ H Q,r0 K ct E d wr2 σ H Q->tPairs trs σ H Q) (q:r0 K ct E (cQ s0 js a d) (wr1++wr2) σ H Q) :
  tPairs ((tC (.str s0),tE K ct E a js wr1)::trs) σ H Q:=by
 obtain⟨B,X,Φ0,W,rfl,s,q⟩:=q;unfold cQ at q;refine⟨B,X,Φ0,W,rfl,s,?_⟩
 cases ha:a W.S with
 | no=>rw[ha] at q; exact q.elim
 | ex e S'=>rw[ha] at q; exact fun W' s' e' a'=>q W' s' e' (a'.mono fun k hk=>au _ hk)
 | ok o S1 =>
  rw[ha] at q;intro v W1 D1 s1 e1 a1 t1;subst e1;rw[Out.bind_ok] at q
  cases hx:bO js o with
  | none=>rw[hx] at q; exact q.elim
  | some o' =>
   rw[hx,Out.of_some,Out.bind_ok] at q;obtain⟨D',t',_⟩:=oX t1 hx;refine hr _ _ _ ⟨B,X,Φ0,W1,rfl,s1,?_⟩
   cases hb:d W1.S with
   | no=>rw[hb] at q; exact q.elim
   | ex e S'=>rw[hb] at q; exact fun W' s' e' a'=>q W' s' e' (a1.trans a')
   | ok kvs S2 =>
    rw[hb] at q;intro ps W2 D2 s2 e2 a2 t2
    have t1':=t'.step s1 a1 a2 fun _ z=>nomatch z
    obtain⟨ks,rfl,h2,h3⟩:=t2.ks;refine q _ W2 (D'++D2) s2 e2 (a1.trans a2) ⟨⟨(s0,v)::ks,rfl,⟨D',D2,rfl,rfl,t1'.rep,h2⟩,fun p hp=>?_⟩,cA.mpr ⟨t1'.nd,t2.nd,fun x hx y hy e=>?_⟩,fun x hx=>?_,fun x hx j hj=>?_,fun x hx=>?_⟩
    ·rcases aU.mp hp with z|z
     ·rw[z]; exact hs
     ·exact h3 p z
    ·subst e
     rcases t2.src x hy with⟨j,_,z⟩|z
     ·cases t'.dj x hx j z
     ·obtain⟨u,e,_⟩:=t'.rep.live _ x hx;exact(nomatch (show W1.H x=none from z).symm.trans e)
    ·exact(bc.mp hx).elim (t1'.nph x) (t2.nph x)
    ·rcases bc.mp hx with z|z
     ·cases t1'.dj x z j hj
     ·exact t2.dj x z j hj
    ·rcases bc.mp hx with z|z
     ·rcases t1'.src x z with y|⟨_,y,_⟩|y
      ·exact .inl y
      ·cases y
      ·exact .inr y
     ·rcases t2.src x z with y|y
      ·exact a1.own y
      ·exact .inr (ja a1 y)
theorem NZ {ks:List (Key×V)} (h:(ks.map (·.1)).Nodup):mergeK [] ks=ks:=by
 have gen:∀(ks acc:List (Key×V)),((acc++ks).map (·.1)).Nodup->ks.foldl (fun acc p=>putK acc p.1 p.2) acc=acc++ks:=by
  intro ks
  induction ks with
  | nil=>intro acc _; simp
  | cons p ks ih =>
   intro acc h
   have e:putK acc p.1 p.2=acc++[p]:=by
    unfold putK;rw[if_neg];intro z;obtain⟨q,hq,e⟩:=iK.mp z;rw[dA] at h;exact(cA.mp h).2.2 q.1 (pC hq) p.1 (by simp) (of_decide_eq_true e)
   rw[List.foldl_cons,e,ih (acc++[p]) (by rw[dI]; exact h),dI]<;>rfl
 have:=gen ks [] (by simpa using h)
 simpa [mergeK] using this
theorem KM {d:Df} {trs:List (TE×TE)} (hr:∀σ H Q,r0 K ct E d wr σ H Q->tPairs trs σ H Q) (q:tE K ct E (dE d) [] wr σ H Q):tDisp trs σ H Q:=by
 obtain⟨B,X,Φ0,W,rfl,s,q⟩:=q;unfold dE at q;intro p hp;have e0:=Tw.iP (o:=.dK []) hp;have s0:=s.grow e0;have a0:=gU (W:=W) e0;refine hr _ _ _ ⟨B,X,Φ0,{ W with H:=upd W.H p (.dK []) },rfl,s0,?_⟩
 show match d W.S with|.ok r S'=>_|.ex e S'=>_|.no=>False
 cases hb:d W.S with
 | no=>rw[hb] at q; exact q.elim
 | ex e S'=>rw[hb] at q; exact fun W' s' e' a'=>q W' s' e' (a0.trans a')
 | ok kvs S1 =>
  rw[hb,Out.bind_ok] at q;intro ps W1 D1 s1 e1 a1 t1;subst e1
  by_cases hh:(kvs.map (·.1)).Nodup/\kvs.length<=15
  ·rw [show qN kvs = some (.dict kvs) from if_pos hh] at q;obtain⟨ks,rfl,h2,h3⟩:=t1.ks
   have np0:∀k,p∉{ W with H:=upd W.H p (.dK []) }.Fs k:=fun k hk=>by
    obtain⟨u,e,_⟩:=s.liveF hk;exact(nomatch hp.symm.trans e)
   have hp1:W1.H p=some (.dK []):=a1.fr p _ upd_same fun⟨k,_,hk⟩=>np0 k hk
   have np1:∀k,p∉W1.Fs k:=fun k hk=>by
    rcases a1.nf k p hk with z|⟨j,_,z⟩|z
    ·exact np0 k z
    ·exact np0 j z
    ·exact(nomatch (show upd W.H p (.dK []) p=none from z).symm.trans upd_same)
   have nphi:¬W1.Φ p:=fun z=>by
    rcases a1.pn p z with z|⟨j,_,z⟩|z
    ·exact s.phl p z hp
    ·exact np0 j z
    ·exact(nomatch (show upd W.H p (.dK []) p=none from z).symm.trans upd_same)
   have nD:p∉D1:=fun z=>by
    rcases t1.src p z with⟨j,_,y⟩|y
    ·exact np0 j y
    ·exact(nomatch (show upd W.H p (.dK []) p=none from y).symm.trans upd_same)
   have bp:B p=none:=by
    cases e:B p with
    | none=>rfl
    | some u=>exact absurd hp (s.lv p (by rw[e]; exact fun z=>nomatch z))
   let kk:List (Key×V):=ks.map fun q=>(Sum.inr q.1,q.2)
   have ekv:ks.map (fun q=>(Val.str q.1,q.2))=kk.map (fun q=>(bM q.1,q.2)):=by
    show _=(ks.map _).map _
    rw[cF]<;>rfl
   have hlen:ks.length=kvs.length:=by
    have:=wy h2;rw[aT] at this;exact this
   have hnod : (kk.map (·.1)).Nodup := by
    have e1:kvs.map (·.1)=ks.map (fun q=>Val.str q.1):=by
     have gen:∀{ps:List (Val×V)} {kvs:List (Val×OV)} {F:List Addr},ORepP K ct W1.Φ W1.H ps kvs F->kvs.map (·.1)=ps.map (·.1):=by
      intro ps
      induction ps with
      | nil=>intro kvs F h; cases kvs with
       | nil=>rfl
       | cons _ _=>exact h.elim
      | cons p ps ih => intro kvs F h; cases kvs with
       | nil=>exact h.elim
       | cons q kvs =>
        obtain⟨F1,F2,_,e,_,h⟩:=h;rw[bU,bU,ih h,e]
     rw[gen h2,cF]<;>rfl
    have hk:=hh.1;rw[e1] at hk
    have e2:kk.map (·.1)=ks.map fun q=>Sum.inr q.1:=by show(ks.map _).map _=_; rw[cF]<;>rfl
    rw[e2]
    have h0:(ks.map (·.1)).Nodup:=by
     have e3:ks.map (fun q=>Val.str q.1)=(ks.map (·.1)).map Val.str:=by rw[cF]<;>rfl
     rw[e3] at hk
     exact(nX.mp hk).imp fun h e=>h (congrArg Val.str e)
    have e4:(ks.map fun q=>(Sum.inr q.1:Key))=(ks.map (·.1)).map Sum.inr:=by rw[cF]<;>rfl
    rw[e4];exact List.Pairwise.map _ (fun a b h e=>h (Sum.inr.inj e)) h0
   refine⟨hp1,kk,by show ks.map _=(ks.map _).map _; rw[cF]<;>rfl,by show(ks.map _).length<=15; rw[aT,hlen]; exact hh.2,?_⟩;rw[NZ hnod]
   have s2:=s1.wrD (D:=p) (o:=.dK kk) np1 nphi bp fun u e=>by rw[hp1] at e; cases e; exact id
   have kp:cg W1.Φ W1.H (upd W1.H p (.dK kk)):=fun b u h z=>by
    refine⟨u,?_,.inl rfl⟩;rw[upd_ne fun e=>?_]
    ·exact h
    ·subst e
     rcases z with z|z
     ·exact nphi z
     ·rw[hp1] at h; cases h; exact z
   have a01:Step wr W W1:=by
    have:=a0.trans a1;exact this
   refine q (.ref p) { W1 with H:=upd W1.H p (.dK kk) } (p::D1) s2 rfl (r6 a01 hp) ⟨⟨p,_,D1,rfl,.inl ⟨kk,upd_same,ekv,?_,hnod,fun q hq=>?_⟩,h2.keep (fun _ z=>z) kp _ fun b hb=>upd_ne fun e=>nD (e▸hb),rfl⟩,bT.mpr ⟨nD,t1.nd⟩,fun x hx=>?_,fun x hx k hk=>?_,fun x hx=>?_⟩
   ·show(ks.map _).length<=sizeLine
    rw[aT,hlen];exact dH hh.2 (by decide)
   ·obtain⟨r,hr,e⟩:=aW.mp hq;rw[←e];exact h3 r hr
   ·rcases aU.mp hx with z|z
    ·rw[z]; exact nphi
    ·exact t1.nph x z
   ·rcases aU.mp hx with z|z
    ·rw[z] at hk; exact absurd hk (np1 k)
    ·exact absurd hk (t1.dj x z k)
   ·rcases aU.mp hx with z|z
    ·rw[z]; exact .inr (.inr hp)
    ·rcases t1.src x z with y|y
     ·exact .inl y
     ·exact .inr (.inr (ja a0 y))
  ·rw[show qN kvs=none from if_neg hh] at q;exact q.elim
def my (o:OV):Option OV:=if br 60 o.val=true/\o.val.pd.showable=true/\o.val.pd.shown.length<bL/\PyData.strOk o.val.pd.shown=true then some (vS o.val.pd.shown) else none
theorem Ae:hW K ct (DQ K) my:=fun Φ H v o z D Q r h q=>by
 unfold my at h;split at h
 ·rename_i hh
  cases h
  obtain⟨a1,a2,a3⟩:=jr _ (kF r) hh.1;exact⟨v,_,rfl,a1,a2,a3,hh.2.1,iY (gY hh.2.2.1),cO q ⟨rfl,hh.2.2.2,iY (gY hh.2.2.1)⟩⟩
 ·cases h
def vy:Val->Option String
 | .none=>some "NoneType" | .bool _=>some "bool" | .int _=>some "int" | .str _=>some "str" | .tup _=>some "tuple" | .lst _=>some "list" | .dict _=>some "dict" | .obj _ _=>none|.scr _=>some "list"
def wZ (n U:String):Bool:=n==U || (n == "bool" && U == "int")
def jD (U:String) (o:OV):Option OV:=(vy o.val).map fun n=>vB (wZ n U)
end
end Mp
namespace Mp
open PySem PySem.Spec PyProof.Rows L2
inductive Src where
 | txt (z:Str)|tup (a:Addr)|lst (a:Addr)
def Src.len (K:PySem.W.Frag) (H:Hp):Src->Nat->Prop
 | .txt z,n=>n=z.cps.size
 | .tup a,n=>∃xs,SqT K H a xs/\n=xs.length
 | .lst a,n=>∃xs,SqL K H a xs/\n=xs.length
def Src.at (K:PySem.W.Frag) (H:Hp):Src->Nat->V->Prop
 | .txt z,i,x=>∃c,z.cps[i]?=some c/\x=.str ⟨#[c]⟩
 | .tup a,i,x=>∀xs,SqT K H a xs->xs[i]?=some x
 | .lst a,i,x=>∀xs,SqL K H a xs->xs[i]?=some x
def Src.ne:Src->Addr->Prop
 | .txt _,_=>True
 | .tup a,b=>a≠b
 | .lst a,b=>a≠b
def Src.It (h:Heap):Src->Addr->Nat->Prop
 | .txt z,it,i=>∃t,h.IsStrIter it (strIterType z) z t i
 | .tup a,it,i=>h.IsTupleIter it a i
 | .lst a,it,i=>h.IsListIter it a i
def Src.v:Src->V
 | .txt z=>.str z
 | .tup a=>.ref a
 | .lst a=>.ref a
def By (K:PySem.W.Frag) (p q:Src):It :=
 ⟨fun i H=>∃n m,p.len K H n/\q.len K H m/\i<n/\i<m,
  fun i H v H'=>∃T x y,v=.ref T/\H T=none/\H'=upd H T (.tup [x,y])/\p.at K H i x/\q.at K H i y,
  fun i H=>∃n m,p.len K H n/\q.len K H m/\i<=n/\i<=m/\(i=n\/i=m)⟩
theorem Src.draws {X:Cx} {pins:List (Addr×Obj)} {σ:L2.St} {H:Hp} {s:Shared} (I:Inv X pins σ H s) {A:Around} (hh:A.handled=none) {p:Src} {it:Addr} {i n:Nat} (hi:p.It s.heap it i) (hl:p.len X.K H n) (hne:p.ne it) :
  ∃(fp:List Addr) (P:Nat->Value->Prop) (St:Nat->Heap->Prop),Draws X.prog X.w A it fp n P St/\St i s.heap/\it∈fp/\(∀b∈fp,b=it\/∃a,(p=.tup a\/p=.lst a)/\b=a)/\(∀h' k,St k h'->p.It h' it k)/\∀u,P i u->∃x,RelV x u/\p.at X.K H i x:=by
 cases p with
 | txt z =>
  obtain⟨t,hi⟩:=hi;have hl:n=z.cps.size:=hl;subst hl;refine⟨_,_,_,Draws.text hh it z t,hi,by simp,fun b hb=>.inl (by simpa using hb),fun h' k st=>⟨t,st⟩,fun u hu=>?_⟩;obtain⟨c,u',hc,rfl⟩:=hu;exact⟨.str ⟨#[c]⟩,⟨u',rfl⟩,c,hc,rfl⟩
 | tup a =>
  obtain⟨xs,hx,rfl⟩:=hl;obtain⟨its,rv,p1,_⟩:=I.tuple hx;have D:=Draws.tuple (prog:=X.prog) (w:=X.w) hh it a hne its.toArray;rw[pA,←rv.length] at D;refine⟨_,_,_,D,⟨hi,p1⟩,by simp,fun b hb=>?_,fun h' k st=>st.1,fun u hu=>?_⟩
  ·rcases aU.mp hb with e|hb
   ·exact .inl e
   ·exact .inr ⟨a,.inl rfl,bm.mp hb⟩
  ·have hu:its[i]?=some u:=by simpa using hu
   have hlt:i<xs.length:=by
    rw[rv.length]
    rcases kj i its.length with h|h
    ·exact h
    ·rw[gB h] at hu; cases hu
   obtain⟨u',e1,r⟩:=rv.get (c8 hlt);rw[hu] at e1;rw[←Option.some.inj e1] at r;exact⟨xs[i],r,fun ys hy=>by rw[I.tuple_inj hy hx]; exact c8 hlt⟩
 | lst a =>
  obtain⟨xs,hx,rfl⟩:=hl;obtain⟨its,rv,p1,_⟩:=I.list hx;have D:=Draws.list (prog:=X.prog) (w:=X.w) hh it a hne its.toArray;rw[pA,←rv.length] at D;refine⟨_,_,_,D,⟨hi,p1.isList⟩,by simp,fun b hb=>?_,fun h' k st=>st.1,fun u hu=>?_⟩
  ·rcases aU.mp hb with e|hb
   ·exact .inl e
   ·exact .inr ⟨a,.inr rfl,bm.mp hb⟩
  ·have hu:its[i]?=some u:=by simpa using hu
   have hlt:i<xs.length:=by
    rw[rv.length]
    rcases kj i its.length with h|h
    ·exact h
    ·rw[gB h] at hu; cases hu
   obtain⟨u',e1,r⟩:=rv.get (c8 hlt);rw[hu] at e1;rw[←Option.some.inj e1] at r;exact⟨xs[i],r,fun ys hy=>by rw[I.list_inj hy hx]; exact c8 hlt⟩
theorem wU {r:Src} {h:Heap} {it:Addr} {i:Nat} (hi:r.It h it i):∃o,h.get? it=some o/\∀v,o.data≠.cell v:=by
 cases r with
 | txt y =>
  obtain⟨t,o,e,_,d⟩:=hi;exact⟨o,e,fun v q=>by rw[d] at q; cases q⟩
 | tup a =>
  obtain⟨o,e,_,d⟩:=hi;exact⟨o,e,fun v q=>by rw[d] at q; cases q⟩
 | lst a =>
  obtain⟨o,e,_,d⟩:=hi;exact⟨o,e,fun v q=>by rw[d] at q; cases q⟩
theorem wW {r:Src} {h h':Heap} {it:Addr} {i:Nat} (hi:r.It h it i) (k:∀o,h.get? it=some o->h'.get? it=some o):r.It h' it i:=by
 cases r with
 | txt y =>
  obtain⟨t,o,e,c,d⟩:=hi;exact⟨t,o,k o e,c,d⟩
 | tup a =>
  obtain⟨o,e,c,d⟩:=hi;exact⟨o,k o e,c,d⟩
 | lst a =>
  obtain⟨o,e,c,d⟩:=hi;exact⟨o,k o e,c,d⟩
structure ZAp (z TI TO i1 i2:Addr) (p q:Src):Prop where
 TIz:TI≠z
 TOz:TO≠z
 i1z:i1≠z
 i2z:i2≠z
 TITO:TI≠TO
 TIi1:TI≠i1
 TIi2:TI≠i2
 TOi1:TO≠i1
 TOi2:TO≠i2
 i12:i1≠i2
 p4:p.ne z/\p.ne TO/\p.ne i1/\p.ne i2
 q4:q.ne z/\q.ne TO/\q.ne i1/\q.ne i2
theorem JD {P:Program} {w:World} {K:PySem.W.Frag} {elts:List Expr} {kk:Nat} {tpos:Pos} {p q:Src} {z TI TO i1 i2:Addr} (D:ZAp z TI TO i1 i2 p q) :
  Turn P w K (.Tuple elts kk tpos) (By K p q) [z,TI,TO,i1,i2] z (fun i h=>IsZip h z TI TO .none/\IsTupOf2 h TI (.ref i1) (.ref i2)/\(∃x y,IsTupOf2 h TO x y)/\p.It h i1 i/\q.It h i2 i):=by
 have five:∀{c:Addr},c∈[z,TI,TO,i1,i2]->c=z\/c=TI\/c=TO\/c=i1\/c=i2:=fun h=>by simpa using h
 have sep:∀{fp1 fp2:List Addr},i1∈fp1->i2∈fp2->(∀b∈fp1,b=i1\/∃a,(p=.tup a\/p=.lst a)/\b=a)->(∀b∈fp2,b=i2\/∃a,(q=.tup a\/q=.lst a)/\b=a)->ZipSep2 z TI TO i1 i2 fp1 fp2:=fun {fp1 fp2} m1 m2 f1 f2=>by
  have np:∀(c:Addr),p.ne c->c≠i1->c∉fp1:=fun c h1 h2 h3=>by
   rcases f1 c h3 with e|⟨a,e1,e2⟩
   ·exact h2 e
   ·subst e2; rcases e1 with e1|e1<;>(subst e1; exact h1 rfl)
  have nq:∀(c:Addr),q.ne c->c≠i2->c∉fp2:=fun c h1 h2 h3=>by
   rcases f2 c h3 with e|⟨a,e1,e2⟩
   ·exact h2 e
   ·subst e2; rcases e1 with e1|e1<;>(subst e1; exact h1 rfl)
  exact⟨D.TIz,D.TOz,D.TITO,D.TIi1,m1,np z D.p4.1 D.i1z.symm,np TO D.p4.2.1 D.TOi1,D.TIi2,m2,nq z D.q4.1 D.i2z.symm,nq TO D.q4.2.1 D.TOi2,nq i1 D.q4.2.2.1 D.i12,np i2 D.p4.2.2.2 D.i12.symm⟩
 refine⟨by simp,fun i h st c hc=>?_,fun i h h' st k=>?_,?_,?_,fun A i s Q E st h=>wpAny_pyIter_zip st.1 h⟩
 ·obtain⟨hz,hTI,⟨x,y,hTO⟩,h1,h2⟩:=st
  rcases five hc with e|e|e|e|e
  ·rw[e]; exact⟨_,hz,fun v q=>nomatch q⟩
  ·rw[e]; exact⟨_,hTI,fun v q=>nomatch q⟩
  ·rw[e]; exact⟨_,hTO,fun v q=>nomatch q⟩
  ·rw[e]; exact wU h1
  ·rw[e]; exact wU h2
 ·obtain⟨hz,hTI,⟨x,y,hTO⟩,h1,h2⟩:=st;exact⟨k z (by simp) _ hz,k TI (by simp) _ hTI,⟨x,y,k TO (by simp) _ hTO⟩,wW h1 (k i1 (by simp)),wW h2 (k i2 (by simp))⟩
 ·intro X hP hw hK hc i pins s σ H E I hf st hg;subst hP hw hK;obtain⟨hz,hTI,⟨x0,y0,hTO⟩,h1,h2⟩:=st;obtain⟨n,m,ln,lm,hn,hm⟩:=hg;obtain⟨fp1,P1,St1,D1,st1,m1,f1,k1,r1⟩:=Src.draws I (A:=X.A.in1) (I.ok.hd hc) h1 ln D.p4.2.2.1;obtain⟨fp2,P2,St2,D2,st2,m2,f2,k2,r2⟩:=Src.draws I (A:=X.A.in1) (I.ok.hd hc) h2 lm D.q4.2.2.2
  refine wpAny_pyNext_zipD2_item (sep m1 m2 f1 f2) D1 D2 hz hTI hTO st1 st2 hn hm fun u u2 h' tk y1 y2 z' TO' t1 t2 hT hsz hk=>?_
  obtain⟨x,ru,ax⟩:=r1 u y1;obtain⟨y,ru2,ay⟩:=r2 u2 y2;have hzl:z<s.heap.objs.size:=Heap.lt_size hz;refine⟨_,rfl,wpAny_letOwnedTupleGo_zip (s:={ s with heap:=h',toks:=tk }) z' fun h'' z'' sb=>?_⟩;have hT2:h''.get? s.heap.objs.size=some { cls:=.type "tuple",data:=.seq #[u,u2] }:=(sb.2 _ (Nat.ne_of_gt hzl)).trans hT
  have new:ObjOk X.prog X.w (upd H s.heap.objs.size (.tup [x,y])) h'' s.heap.objs.size (.tup [x,y]):=⟨by show 2<=sizeLine; decide,[u,u2],.cons ru (.cons ru2 .nil),⟨_,hT2,rfl,_,rfl⟩⟩
  have I1:Inv X pins σ (upd H s.heap.objs.size (.tup [x,y])) { s with heap:=h'',toks:=tk } :=
   I.turnedNew (t':=tk) (ch:=[z,TI,TO,i1,i2]) (fun c o hb e=>(sb.2 c (fun e'=>hb (by simp[e']))).trans (hk c o (fun e'=>hb (by simp[e'])) (fun e'=>hb (by simp[e'])) (fun e'=>hb (by simp[e'])) (fun e'=>hb (by simp[e'])) e)) hf (bS _) new
  refine⟨.ref s.heap.objs.size,_,I1,rfl,⟨_,x,y,rfl,I.hok.fresh (bS _),rfl,ax,ay⟩,⟨z'',?_,⟨u,u2,?_⟩,?_,?_⟩,fun c hcm=>?_⟩
  ·exact(sb.2 _ D.TIz).trans (hk _ _ D.TIz D.TITO D.TIi1 D.TIi2 hTI)
  ·exact(sb.2 _ D.TOz).trans TO'
  ·exact wW (k1 _ _ t1) fun o e=>(sb.2 _ D.i1z).trans e
  ·exact wW (k2 _ _ t2) fun o e=>(sb.2 _ D.i2z).trans e
  ·have hlt:c<s.heap.objs.size:=by
    rcases five hcm with e|e|e|e|e
    ·rw[e]; exact hzl
    ·rw[e]; exact Heap.lt_size hTI
    ·rw[e]; exact Heap.lt_size hTO
    ·rw[e]; obtain⟨_,e1,_⟩:=wU h1; exact Heap.lt_size e1
    ·rw[e]; obtain⟨_,e2,_⟩:=wU h2; exact Heap.lt_size e2
   rw[upd_ne (jk hlt)];exact(hf c hcm).1
 ·intro X hP hw hK hc i pins s σ H E I hf st hg;subst hP hw hK;obtain⟨hz,hTI,⟨x0,y0,hTO⟩,h1,h2⟩:=st;obtain⟨n,m,ln,lm,hn,hm,he⟩:=hg;obtain⟨fp1,P1,St1,D1,st1,m1,f1,k1,r1⟩:=Src.draws I (A:=X.A.in1) (I.ok.hd hc) h1 ln D.p4.2.2.1;obtain⟨fp2,P2,St2,D2,st2,m2,f2,k2,r2⟩:=Src.draws I (A:=X.A.in1) (I.ok.hd hc) h2 lm D.q4.2.2.2
  exact wpAny_pyNext_zipD2_end (sep m1 m2 f1 f2) D1 D2 hz hTI hTO st1 st2 hn hm he fun h' tk hk=>⟨rfl,I.turnedL (t':=tk) (ch:=[z,TI,TO,i1,i2]) (fun c o hb e =>
   hk c o (fun e'=>hb (by simp[e'])) (fun e'=>hb (by simp[e'])) (fun e'=>hb (by simp[e'])) (fun e'=>hb (by simp[e'])) e) hf⟩
end Mp
namespace Mp
open PySem PySem.Spec PyProof.Rows L2
theorem Hu {p q:Src} (N:Nat) (d1:∀b:Addr,N<=b->p.ne b) (d2:∀b:Addr,N<=b->q.ne b):ZAp (N+4:Nat) (N+2:Nat) (N+3:Nat) N (N+1:Nat) p q:=by
 have l:∀k:Nat,N<=N+k:=fun k=>uX N k
 have n:∀i j:Nat,i≠j->N+i≠N+j:=fun i j h e=>h (Nat.add_left_cancel e)
 exact⟨n 2 4 (by decide),n 3 4 (by decide),n 0 4 (by decide),n 1 4 (by decide),n 2 3 (by decide),n 2 0 (by decide),n 2 1 (by decide),n 3 0 (by decide),n 3 1 (by decide),n 0 1 (by decide),⟨d1 _ (l 4),d1 _ (l 3),d1 _ (l 0),d1 _ (l 1)⟩,⟨d2 _ (l 4),d2 _ (l 3),d2 _ (l 0),d2 _ (l 1)⟩⟩
def iZ (K:PySem.W.Frag) (ta:TA):TI:=fun σ H R=>ta σ H fun vs H1=>∃p q:Src,vs=[p.v,q.v]/\(∃n,p.len K H1 n)/\(∃n,q.len K H1 n)/\R (By K p q) H1
theorem Src.begins {X:Cx} {pins:List (Addr×Obj)} {σ:L2.St} {H:Hp} {s:Shared} (I:Inv X pins σ H s) {p:Src} {u:Value} {n:Nat} (r:RelV p.v u) (hl:p.len X.K H n) :
  ∃(o:Obj) (H1:Heap->Prop),Begins u o H1/\H1 s.heap/\(∀h it,h.get? it=some o->p.It h it 0)/\∀b,s.heap.objs.size<=b->p.ne b:=by
 cases p with
 | txt z =>
  obtain⟨t,rfl⟩:=r;exact⟨_,_,begins_text z t,trivial,fun h it e=>⟨t,_,e,rfl,rfl⟩,fun _ _=>trivial⟩
 | tup a =>
  cases r
  obtain⟨xs,hx,rfl⟩:=hl;obtain⟨its,rv,p1,_⟩:=I.tuple hx;obtain⟨o,ho,_⟩:=id p1;exact⟨_,_,begins_tuple a its.toArray,p1,fun h it e=>⟨_,e,rfl,rfl⟩,fun b hb=>jk (mJ (Heap.lt_size ho) hb)⟩
 | lst a =>
  cases r
  obtain⟨xs,hx,rfl⟩:=hl;obtain⟨its,rv,p1,_⟩:=I.list hx;obtain⟨o,ho,_⟩:=id p1.isList;exact⟨_,_,begins_list a its.toArray,p1.isList,fun h it e=>⟨_,e,rfl,rfl⟩,fun b hb=>jk (mJ (Heap.lt_size ho) hb)⟩
theorem Mj {X:Cx} {e e2:Expr} {ta:TA} {p pos tpos:Pos} {elts:List Expr} {kk:Nat} (hg:Gl X "zip") (hm:X.mg "zip"=none) (ha:PA X [e,e2] ta)
  (hs:starEach [e,e2] X.env=(false,eval e X.env)::starEach [e2] X.env:=by rfl) (hpl:(backTo pos (starEach [e2] X.env)).any (·.1)=false:=by rfl):PI X (.Tuple elts kk tpos) (.Call (.Name "zip" p) [e,e2] [] pos) (iZ X.K ta):=by
 refine⟨fun pins s σ H R I h=>Call_ (ld_blt I hg hm PyProof.Rows.boot_zip (PyProof.Rows.callWith_type1 (thn (ha.run pos pins s σ H _ I h) fun us s1 hh=>?_) hs hpl))⟩;obtain⟨vs,H1,I1,r1,a,b,ex,⟨n,ln⟩,⟨m,lm⟩,q⟩:=hh;subst ex;obtain⟨u1,u2,rfl,ra,rb⟩:=vals2 r1;obtain⟨o1,G1,B1,g1,w1,d1⟩:=Src.begins I1 ra ln;obtain⟨o2,G2,B2,g2,w2,d2⟩:=Src.begins I1 rb lm
 generalize hN:s1.heap.objs.size=N at d1 d2
 refine zip_begins2 B1 B2 g1 g2 fun h' hz hTI hTO e1 e2' hsz hk=>wpAny_pyIter_zip hz ?_
 rw[hN] at hz hTI hTO e1 e2' ⊢;have I2:Inv X pins σ H1 { s1 with heap:=h' }:=I1.kept (t':=s1.toks) hk;have D:=Hu N d1 d2;refine⟨N+4,[N+4,N+2,N+3,N,N+1],_,_,H1,rfl,I2,JD D,⟨hz,hTI,⟨_,_,hTO⟩,w1 _ _ e1,w2 _ _ e2'⟩,fun c hcm=>?_,q⟩
 have hle:s1.heap.objs.size<=c:=by
  rw[hN]
  have e':c=N+4\/c=N+2\/c=N+3\/c=N\/c=N+1:=by simpa using hcm
  rcases e' with z|z|z|z|z
  ·rw[z]; exact uX _ _
  ·rw[z]; exact uX _ _
  ·rw[z]; exact uX _ _
  ·rw[z]; exact bS _
  ·rw[z]; exact uX _ _
 exact I1.fpOk hle (I1.hok.fresh hle)
end Mp
namespace Mp
open PySem PySem.Spec PyProof.Rows L2
def G0 (K:PySem.W.Frag) (p:Src):It :=
 ⟨fun i H=>∃n,p.len K H n/\i<n,fun i H v H'=>H'=H/\p.at K H i v,fun i H=>∃n,p.len K H n/\n<=i⟩
theorem Turn.sub {P:Program} {w:World} {K:PySem.W.Frag} {tg:Expr} {J J':It} {fp:List Addr} {it:Addr} {tn:Nat->Heap->Prop} (T:Turn P w K tg J fp it tn)
  (h1:∀i H,J'.go i H->J.go i H) (h2:∀i H v H',J'.go i H->J.yld i H v H'->J'.yld i H v H') (h3:∀i H,J'.stop i H->J.stop i H):Turn P w K tg J' fp it tn where
 mem:=T.mem
 obj:=T.obj
 keep:=T.keep
 item:=fun X hP hw hK hc i pins s σ H E I hf st hg=>thn (T.item X hP hw hK hc i pins s σ H E I hf st (h1 i H hg)) fun r s1 ⟨u,e,q⟩=>⟨u,e,thn q fun _ s2 ⟨x,H',I',rx,y,st',hn⟩=>⟨x,H',I',rx,h2 i H x H' hg y,st',hn⟩⟩
 done:=fun X hP hw hK hc i pins s σ H E I hf st hg=>T.done X hP hw hK hc i pins s σ H E I hf st (h3 i H hg)
 self:=T.self
theorem zZ {X:Cx} {pins:List (Addr×Obj)} {σ:L2.St} {tg:Expr} {J J':It} {H:Hp} {R:It->Hp->Prop} {v:Value} {s:Shared}
  (h1:∀i H,J'.go i H->J.go i H) (h2:∀i H v H',J'.go i H->J.yld i H v H'->J'.yld i H v H') (h3:∀i H,J'.stop i H->J.stop i H) (q:R J' H)
  (h:PIE X pins σ tg (fun J2 H2=>J2=J/\H2=H) v s):PIE X pins σ tg R v s:=by
 obtain⟨it,fp,tn,J2,H2,e,I,T,st,hf,rfl,rfl⟩:=h;exact⟨it,fp,tn,J',H2,e,I,Turn.sub T h1 h2 h3,st,hf,q⟩
def iS (K:PySem.W.Frag) (te:TE):TI:=fun σ H R=>te σ H fun v H1=>∃p:Src,v=p.v/\(∃n,p.len K H1 n)/\R (G0 K p) H1
theorem fJ {X:Cx} {tg e:Expr} {te:TE} (he:PE X e te):PI X tg e (iS X.K te):=by
 have l:=fun pins s σ H R=>(pi_list (tg:=tg) he).run pins s σ H R
 refine⟨fun pins s σ H R I h=>?_⟩
 refine thn (he.run pins s σ H _ I h) fun v s1 ⟨x,H1,I1,r1,p,ex,⟨n,hl⟩,q⟩=>?_
 subst ex
 cases p with
 | txt z =>
  obtain⟨t,rfl⟩:=r1
  have fin:∀{v s2},PIE X pins σ tg (fun J2 H2=>J2=Its z/\H2=H1) v s2->PIE X pins σ tg R v s2:=fun {v s2} h=>by
   refine zZ (J:=Its z) ?_ ?_ ?_ q h
   ·rintro i H ⟨n,e,hi⟩
    cases e; exact hi
   ·intro i H v H' _ y;exact y
   ·rintro i H ⟨n,e,hi⟩
    cases e; exact hi
  cases ha:z.cps.all (·<128)
  ·exact wpAny_pyIter_wide ha (fin (pi_one (tk:=s1.toks) I1 _ (turn_str _ z t "str_iterator" (.inr rfl)) ⟨_,Heap.get?_push_size _ rfl,rfl,rfl⟩ ⟨rfl,rfl⟩))
  ·exact wpAny_pyIter_ascii ha (fin (pi_one (tk:=s1.toks) I1 _ (turn_str _ z t "str_ascii_iterator" (.inl rfl)) ⟨_,Heap.get?_push_size _ rfl,rfl,rfl⟩ ⟨rfl,rfl⟩))
 | tup a =>
  cases r1
  obtain⟨xs,hx,rfl⟩:=hl;obtain⟨its,rv,p,_⟩:=I1.tuple hx;refine wpAny_pyIter_tuple (show s1.heap.IsTuple a its.toArray from p) ?_;refine zZ (J:=Itt X.K a) ?_ ?_ ?_ q (pi_one (tk:=s1.toks) I1 _ (turn_tuple a _) ⟨_,Heap.get?_push_size _ rfl,rfl,rfl⟩ ⟨rfl,rfl⟩)
  ·rintro i H ⟨n,⟨xs,e,rfl⟩,hi⟩
   exact⟨xs,xs[i],e,c8 hi⟩
  ·intro i H v H' _ y;exact y
  ·rintro i H ⟨n,⟨xs,e,rfl⟩,hi⟩
   exact⟨xs,e,hi⟩
 | lst a =>
  cases r1
  obtain⟨xs,hx,rfl⟩:=hl;obtain⟨its,rv,p,_⟩:=I1.list hx;refine wpAny_pyIter_list p.isList ?_;refine zZ (J:=Itl X.K a) ?_ ?_ ?_ q (pi_one (tk:=s1.toks) I1 _ (turn_list a _) ⟨_,Heap.get?_push_size _ rfl,rfl,rfl⟩ ⟨rfl,rfl⟩)
  ·rintro i H ⟨n,⟨xs,e,rfl⟩,hi⟩
   exact⟨xs,xs[i],e,c8 hi⟩
  ·intro i H v H' _ y;exact y
  ·rintro i H ⟨n,⟨xs,e,rfl⟩,hi⟩
   exact⟨xs,e,hi⟩
end Mp
namespace Mp
open PySem PySem.Spec PyProof.Rows L2
open Sem (wp)
end Mp
namespace Mp
open PySem L2
def mH (s:Str):List Val:=s.cps.toList.map fun c=>Val.str ⟨#[c]⟩
def fg:OV->Option (List Val)
 | .fz (.tup xs)=>some xs
 | .fz (.lst xs)=>some xs
 | .fz (.scr ns)=>some (ns.map .int)
 | .fz (.str s)=>some (mH s)
 | .lst os=>jg os
 | _=>none
structure SrcOk (K:PySem.W.Frag) (ct:Tw.Ct) (Φ:Addr->Prop) (H:Hp) (D:List Addr) (p:Src) (its:List Val):Prop where
 len:its.length<=sizeLine
 ok:∀H2,cg Φ H H2->(∀a∈D,H2 a=H a)->p.len K H2 its.length/\∀i v x,p.at K H2 i v->its[i]?=some x->bw K ct Φ H2 v x
section
variable {K:PySem.W.Frag} {ct:Tw.Ct} {E:Exn->L2.St->Hp->Prop} {B:Hp} {P Φ Φ0:Addr->Prop} {σ:L2.St} {W W1:Wd} {H:Hp} {v w:V} {x y:Val} {o:OV} {D:List Addr} {X:Cx} {js wr:List Nat} {g:Ef} {Q:VK} {i j k:Nat} {R:It->Hp->Prop}
theorem yO:∀{vs:List V} {xs:List Val} {i:Nat},ViewL K ct P H vs xs->vs[i]?=some v->xs[i]?=some x->bw K ct P H v x
 | [],[],_,_,h,_=>by cases h
 | _::_,_::_,0,h,e1,e2=>by cases e1; cases e2; exact h.1
 | _::_,_::_,i+1,h,e1,e2=>yO (i:=i) h.2 e1 e2
 | [],_::_,_,h,_,_=>h.elim
 | _::_,[],_,h,_,_=>h.elim
theorem Lc {s:Str} {c:Nat} (h:ia s) (hc:c∈s.cps.toList):ia ⟨#[c]⟩:=by
 refine⟨r5.mpr fun d hd=>?_,by show 1<=sizeLine; decide⟩
 have e:d=c:=by simpa using hd
 subst e;exact r5.mp h.1 d hc
theorem zt {a:Addr} {vs:List V} {its:List Val} {D:List Addr} (hl:vs.length<=sizeLine) (hv:ViewL K ct Φ H vs its) (h:∀H2,cg Φ H H2->(∀a∈D,H2 a=H a)->SqL K H2 a vs):SrcOk K ct Φ H D (.lst a) its:=by
 have e:=fG hv;refine⟨e▸hl,fun H2 k d=>⟨⟨vs,h H2 k d,e.symm⟩,fun i v x y hx=>?_⟩⟩;exact(yO hv (y vs (h H2 k d)) hx).keep (fun _ z=>z) k x
theorem Dk {its:List Val} (r:aR K ct Φ H v o D) (h:fg o=some its):∃p:Src,v=p.v/\SrcOk K ct Φ H D p its:=by
 cases o with
 | fz y =>
  obtain⟨r,rfl⟩:=r
  cases y with
  | tup xs =>
   cases h
   obtain⟨a,vs,rfl,h1,h2,h3⟩:=r;have e:=fG h3
   have st:∀H2,cg Φ H H2->SqT K H2 a vs:=fun H2 k=>by
    obtain⟨u,e1,e2⟩:=k a _ h1 (.inr trivial);rw[zy e2] at e1;exact .inl (.inl e1)
   refine⟨.tup a,rfl,e▸h2,fun H2 k _=>⟨⟨vs,st H2 k,e.symm⟩,fun i v x y hx=>?_⟩⟩;exact(yO h3 (y vs (st H2 k)) hx).keep (fun _ z=>z) k x
  | lst xs =>
   cases h
   obtain⟨a,vs,rfl,h0,h1,h2,h3⟩:=r;exact⟨.lst a,rfl,zt h2 h3 fun H2 k _=>.inl (zP k h0 (.inl h1))⟩
  | scr ns =>
   cases h
   obtain⟨a,rfl,h0,h1⟩:=r;refine⟨.lst a,rfl,zt (vs:=ns.map V.int) (by rw[aT]; exact h1) (w7 ns) fun H2 k _=>?_⟩
   rcases h0 with⟨h0,h2⟩|h0|h0
   ·exact .inl (zP k h0 h2)
   ·rcases h0 with z|⟨_,z⟩<;>cases z
   ·exact .inr h0
  | str s =>
   cases h
   obtain⟨rfl,h1⟩:=r;refine⟨.txt s,rfl,by unfold mH; rw[aT]; exact h1.2,fun H2 k _=>⟨by unfold mH; rw[aT]; rfl,fun i v x y hx=>?_⟩⟩;obtain⟨c,hc,rfl⟩:=y;unfold mH at hx;rw[cB] at hx
   have e:s.cps.toList[i]?=some c:=by rw[oa]; exact hc
   rw[e] at hx
   cases hx
   exact⟨rfl,Lc h1 (fP e)⟩
  | none=>cases h
  | bool _=>cases h
  | int _=>cases h
  | dict _=>cases h
  | obj _ _=>cases h
 | lst os =>
  obtain⟨a,vs,F',rfl,h1,h2,h3,rfl⟩:=r;have e:=xM h;subst e;obtain⟨h4,rfl⟩:=wz h3;exact⟨.lst a,rfl,zt h2 h4 fun H2 _ d=>.inl (.inl ((d a (ao ..)).trans h1))⟩
 | dict _=>cases h
 | obj _ _=>cases h
theorem zu {its:List Val} (hv:bw K ct Φ H v x) (h:fg (.fz x)=some its):∃p:Src,v=p.v/\SrcOk K ct Φ H [] p its:=Dk (o:=.fz x) (D:=[]) ⟨hv,rfl⟩ h
theorem FR {p:Src} {its:List Val} (s:SrcOk K ct Φ H D p its):Iter K ct Φ H D its (G0 K p) where
 len:=s.len
 go:=fun H2 k d i hi=>⟨_,(s.ok H2 k d).1,hi⟩
 stop:=fun H2 k d=>⟨_,(s.ok H2 k d).1,bS _⟩
 yld:=fun H2 k d i v H3 y=>by
  obtain⟨rfl,y⟩:=y;exact⟨Same.refl _,fun x hx=>(s.ok H3 k d).2 i v x y hx⟩
def cy (a:Ef):Af:=fun S=>(a S).bind fun o S1=>Out.of (fg o) S1
theorem PR {a:Ef} (q:tI K ct E (cy a) js wr σ H R):iS K (tE K ct E a js wr) σ H R:=by
 obtain⟨B,X,Φ0,W,rfl,s,q⟩:=q;refine⟨B,X,Φ0,W,rfl,s,?_⟩;unfold cy at q
 cases hi:a W.S with
 | no=>rw[hi] at q; exact q.elim
 | ex e S'=>rw[hi] at q; exact q
 | ok o S1 =>
 rw[hi,Out.bind_ok] at q;intro v W1 D s1 e1 a1 t1
 cases hw:fg o with
 | none=>rw[hw] at q; exact q.elim
 | some its =>
 rw[hw,Out.of_some] at q;obtain⟨p,rfl,ok⟩:=Dk t1.rep hw;refine⟨p,rfl,⟨_,(ok.ok W1.H kR fun _ _=>rfl).1⟩,q _ W1 D s1 e1 a1 (fun x hx=>?_) t1.dj (FR ok)⟩;obtain⟨u,e,_⟩:=t1.rep.live o x hx;rw[e]
 exact fun z=>nomatch z
def xz:Int->List Val->List Val
 | _,[]=>[]
 | k,x::xs=>.tup [.int k,x]::xz (k+1) xs
def M4:List Val->Option Val
 | [x]=>some x
 | _=>none
def uj (a:Af):Af:=fun S=>(a S).bind fun xs S1=>Out.of ((M4 xs).bind fun x=>(fg (.fz x)).map (xz 0)) S1
def i4:List Val->List Val->List Val
 | x::xs,y::ys=>.tup [x,y]::i4 xs ys
 | _,_=>[]
theorem vm:∀{xs ys:List Val},(i4 xs ys).length=min xs.length ys.length
 | [],_=>by simp[i4]
 | _::_,[]=>by simp[i4]
 | _::xs,_::ys=>by simp only[i4,List.length_cons,vm]; omega
theorem BV:∀{xs ys:List Val} {i:Nat} {z:Val},(i4 xs ys)[i]?=some z->∃x y,xs[i]?=some x/\ys[i]?=some y/\z=.tup [x,y]
 | [],_,_,_,h=>by simp[i4] at h
 | _::_,[],_,_,h=>by simp[i4] at h
 | x::_,y::_,0,_,h=>by cases h; exact⟨x,y,rfl,rfl,rfl⟩
 | _::xs,_::ys,i+1,_,h=>BV (xs:=xs) (ys:=ys) (i:=i) h
theorem Pd {p p2:Src} {its its2:List Val} (s:SrcOk K ct Φ H D p its) (s2:SrcOk K ct Φ H D p2 its2):Iter K ct Φ H D (i4 its its2) (By K p p2) where
 len:=by rw[vm]; have:=s.len; omega
 go:=fun H2 k d i hi=>by rw[vm] at hi; exact⟨_,_,(s.ok H2 k d).1,(s2.ok H2 k d).1,by omega,by omega⟩
 stop:=fun H2 k d=>by rw[vm]; exact⟨_,_,(s.ok H2 k d).1,(s2.ok H2 k d).1,by omega,by omega,by omega⟩
 yld:=fun H2 k d i v H3 y=>by
  obtain⟨T,x,y,rfl,hn,rfl,y1,y2⟩:=y
  have sm:Same H2 (upd H2 T (.tup [x,y])):=fun b u hb=>by
   rw[upd_ne fun z=>?_]
   ·exact hb
   ·rw[z,hn] at hb; cases hb
  refine⟨sm,fun z hz=>?_⟩;obtain⟨x',y',h1,h2,rfl⟩:=BV hz;exact⟨T,_,rfl,upd_same,by show 2<=sizeLine; decide,Cz sm ((s.ok H2 k d).2 i x x' y1 h1),Cz sm ((s2.ok H2 k d).2 i y y' y2 h2),trivial⟩
def vz:List Val->Option (Val×Val)
 | [x,y]=>some (x,y)
 | _=>none
def kT (a:Af):Af:=fun S=>(a S).bind fun xs S1=>Out.of ((vz xs).bind fun q=>(fg (.fz q.1)).bind fun l=>(fg (.fz q.2)).map (i4 l)) S1
theorem PM {a:Af} (q:tI K ct E (kT a) [] wr σ H R):iZ K (tA K ct E a wr) σ H R:=by
 obtain⟨B,X,Φ0,W,rfl,s,q⟩:=q;refine⟨B,X,Φ0,W,rfl,s,?_⟩;unfold kT at q
 cases hi:a W.S with
 | no=>rw[hi] at q; exact q.elim
 | ex e S'=>rw[hi] at q; exact q
 | ok xs S1 =>
 rw[hi,Out.bind_ok] at q;intro vs W1 s1 e1 a1 hv
 match xs,hv,q with
 | [],_,q=>exact q.elim
 | [_],_,q=>exact q.elim
 | _::_::_::_,_,q=>exact q.elim
 | [x,y],hv,q =>
 match vs,hv with
 | [v,w],⟨hv,hw,_⟩ =>
 cases h1:fg (.fz x) with
 | none=>rw[show vz [x,y]=some (x,y) from rfl,du,h1] at q; exact q.elim
 | some l1 =>
 cases h2:fg (.fz y) with
 | none=>rw[show vz [x,y]=some (x,y) from rfl,du,h1,du,h2] at q; exact q.elim
 | some l2 =>
 rw[show vz [x,y]=some (x,y) from rfl,du,h1,du,h2] at q;obtain⟨p,rfl,ok⟩:=zu hv h1;obtain⟨p2,rfl,ok2⟩:=zu hw h2;exact⟨p,p2,rfl,⟨_,(ok.ok W1.H kR fun _ _=>rfl).1⟩,⟨_,(ok2.ok W1.H kR fun _ _=>rfl).1⟩,q _ W1 [] s1 e1 a1 (fun _ z=>nomatch z) (fun _ z=>nomatch z) (Pd ok ok2)⟩
def i7 (lo c:Int):Nat->List Val
 | 0=>[]
 | n+1=>.int lo::i7 (lo+c) c n
theorem sM:∀{lo c:Int} {n:Nat},(i7 lo c n).length=n
 | _,_,0=>rfl
 | lo,c,n+1=>congrArg (·+1) (sM (lo:=lo+c) (n:=n))
theorem DD:∀{lo c:Int} {n i:Nat},i<n->(i7 lo c n)[i]?=some (.int (lo+(i:Nat) * c))
 | _,_,0,_,h=>absurd h (uU _)
 | lo,c,n+1,0,_=>by show some _=some _; simp
 | lo,c,n+1,i+1,h=>by
  show(i7 (lo+c) c n)[i]?=_
  rw[DD (Nat.lt_of_succ_lt_succ h)]
  congr 2
  rw[show((i+1:Nat):Int)=(i:Int)+1 by omega,Int.add_mul];omega
theorem LJ {lo c:Int} {n i:Nat} (h:(i7 lo c n)[i]?=some x):x=.int (lo+(i:Nat) * c):=by
 have hi:i<n:=by
  rcases kj i n with z|z
  ·exact z
  ·rw[gB (by rw[sM]; exact z)] at h; cases h
 rw[DD hi] at h
 cases h; rfl
theorem Pe {lo:Int} {n:Nat} (h:n<=sizeLine):Iter K ct Φ H [] (i7 lo 1 n) (Itr lo n) where
 len:=by rw[sM]; exact h
 go:=fun H2 k d i hi=>by rw[sM] at hi; exact hi
 stop:=fun H2 k d=>by rw[sM]; exact bS _
 yld:=fun H2 k d i v H3 y=>by
  obtain⟨rfl,rfl⟩:=y;refine⟨Same.refl _,fun x hx=>?_⟩;rw[LJ hx,Int.mul_one];rfl
def j4 (i:Int):Bool:=decide (-1000000<=i) && decide (i<=1000000)
def fB:List Val->Option (List Val)
 | [.int j]=>if j4 j then some (i7 0 1 j.toNat) else none
 | _=>none
def dP (g:List Val->Option (List Val)) (a:Af):Af:=fun S=>(a S).bind fun xs S1=>Out.of (g xs) S1
theorem Ld {i:Int} (h:j4 i=true):-1000000<=i/\i<=1000000:=by
 unfold j4 at h;rw[bN] at h;exact⟨of_decide_eq_true h.1,of_decide_eq_true h.2⟩
theorem F5:∀{ns:List Int} {vs:List V},ViewL K ct P H vs (ns.map .int)->vs=ns.map V.int
 | [],[],_=>rfl
 | _::_,_::_,h=>by
  have e:_=V.int _:=h.1;rw[e,F5 h.2]<;>rfl
 | [],_::_,h=>h.elim
 | _::_,[],h=>h.elim
theorem PN {g:List Val->Option (List Val)} {a:Af} {Q:List V->Hp->Prop} (h:∀{Φ H its} xs vs,ViewL K ct Φ H vs xs->g xs=some its->(∀J,Iter K ct Φ H [] its J->R J H)->Q vs H) (q:tI K ct E (dP g a) [] wr σ H R):tA K ct E a wr σ H Q:=by
 obtain⟨B,X,Φ0,W,rfl,s,q⟩:=q;refine⟨B,X,Φ0,W,rfl,s,?_⟩;unfold dP at q
 cases hi:a W.S with
 | no=>rw[hi] at q; exact q.elim
 | ex e S'=>rw[hi] at q; exact q
 | ok xs S1 =>
 rw[hi,Out.bind_ok] at q;intro vs W1 s1 e1 a1 hv
 cases hw:g xs with
 | none=>rw[hw] at q; exact q.elim
 | some its =>
 rw[hw,Out.of_some] at q
 exact h xs vs hv hw fun J I=>q J W1 [] s1 e1 a1 (fun _ z=>nomatch z) (fun _ z=>nomatch z) I
theorem Lf:(3000000:Nat)<=sizeLine:=by decide
theorem PP {a:Af} (q:tI K ct E (dP fB a) [] wr σ H R):iRng1 (tA K ct E a wr) σ H R:=PN (fun {Φ H its} xs vs hv hw fin=>by
 unfold fB at hw;split at hw
 ·split at hw
  ·cases hw
   have hj:=Ld ‹_›;have:=Lf
   rename_i j _
   exact⟨j,F5 (ns:=[j]) hv,by omega,by omega,fin _ (Pe (by omega))⟩
  ·cases hw
 ·cases hw) q
end
end Mp
namespace Mp
open PySem L2
section
variable {K:PySem.W.Frag} {ct:Tw.Ct} {E:Exn->L2.St->Hp->Prop} {B:Hp} {P Φ Φ0:Addr->Prop} {σ:L2.St} {W W' W1:Wd} {H H':Hp} {v w:V} {x y:Val} {o:OV} {D:List Addr} {X:Cx} {js wr js1 wr1 js2 wr2 js3 wr3:List Nat} {Q:VK} {i k:Nat}
def cE (a b:Tf):Tf:=fun S=>(a S).bind fun k S1=>match k with
 | true=>b S1
 | false=>.ok false S1
def cD (a b:Tf):Tf:=fun S=>(a S).bind fun k S1=>match k with
 | true=>.ok true S1
 | false=>b S1
def cb (a:Tf):Tf:=fun S=>(a S).bind fun k S1=>.ok (!k) S1
theorem KH {a b:Tf} {Q:Bool->Hp->Prop} (q:tT K ct E (cE a b) (wr1++wr2) σ H Q):tAnd (tT K ct E a wr1) (tT K ct E b wr2) σ H Q:=by
 obtain⟨B,X,Φ0,W,rfl,s,q⟩:=q;unfold cE at q;refine⟨B,X,Φ0,W,rfl,s,?_⟩
 cases ha:a W.S with
 | no=>rw[ha] at q; exact q.elim
 | ex e S'=>rw[ha] at q; exact fun W' s' e' a'=>q W' s' e' (a'.mono fun k hk=>au _ hk)
 | ok k S1 =>
  rw[ha] at q;intro W1 s1 e1 a1;subst e1;rw[Out.bind_ok] at q
  cases k with
  | false=>exact iteF (q W1 s1 rfl (a1.mono fun k hk=>au _ hk))
  | true =>
   refine iteT ⟨B,X,Φ0,W1,rfl,s1,?_⟩
   have q:match b W1.S with|.ok r S'=>_|.ex e S'=>_|.no=>False:=q
   cases hb:b W1.S with
   | no=>rw[hb] at q; exact q.elim
   | ex e S'=>rw[hb] at q; exact fun W' s' e' a'=>q W' s' e' (a1.trans a')
   | ok y S2=>rw[hb] at q; exact fun W2 s2 e2 a2=>q W2 s2 e2 (a1.trans a2)
theorem KF {a b:Tf} {Q:Bool->Hp->Prop} (q:tT K ct E (cD a b) (wr1++wr2) σ H Q):tOr (tT K ct E a wr1) (tT K ct E b wr2) σ H Q:=by
 obtain⟨B,X,Φ0,W,rfl,s,q⟩:=q;unfold cD at q;refine⟨B,X,Φ0,W,rfl,s,?_⟩
 cases ha:a W.S with
 | no=>rw[ha] at q; exact q.elim
 | ex e S'=>rw[ha] at q; exact fun W' s' e' a'=>q W' s' e' (a'.mono fun k hk=>au _ hk)
 | ok k S1 =>
  rw[ha] at q;intro W1 s1 e1 a1;subst e1;rw[Out.bind_ok] at q
  cases k with
  | true=>exact iteT (q W1 s1 rfl (a1.mono fun k hk=>au _ hk))
  | false =>
   refine iteF ⟨B,X,Φ0,W1,rfl,s1,?_⟩
   have q:match b W1.S with|.ok r S'=>_|.ex e S'=>_|.no=>False:=q
   cases hb:b W1.S with
   | no=>rw[hb] at q; exact q.elim
   | ex e S'=>rw[hb] at q; exact fun W' s' e' a'=>q W' s' e' (a1.trans a')
   | ok y S2=>rw[hb] at q; exact fun W2 s2 e2 a2=>q W2 s2 e2 (a1.trans a2)
theorem KG {a:Tf} {Q:Bool->Hp->Prop} (q:tT K ct E (cb a) wr1 σ H Q):tNot (tT K ct E a wr1) σ H Q:=by
 obtain⟨B,X,Φ0,W,rfl,s,q⟩:=q;unfold cb at q;refine⟨B,X,Φ0,W,rfl,s,?_⟩
 cases ha:a W.S with
 | no=>rw[ha] at q; exact q.elim
 | ex e S'=>rw[ha] at q; exact q
 | ok k S1=>rw[ha] at q; exact fun W1 s1 e1 a1=>q W1 s1 e1 a1
def bP:Tf:=fun S=>.ok true S
theorem JS {Q:Bool->Hp->Prop} (q:tT K ct E bP [] σ H Q):tYes σ H Q:=by
 obtain⟨B,X,Φ0,W,rfl,s,q⟩:=q;exact q W s rfl (Step.refl W)
def fq (g1 g2:OV->OV->Option OV) (a b c:Ef):Ef:=fun S=>(a S).bind fun x S1=>(b S1).bind fun y S2=>(Out.of ((g1 x y).bind cU) S2).bind fun k _=>match k with
 | true=>(c S2).bind fun w S3=>Out.of (g2 y w) S3
 | false=>.ok (.fz (.bool false)) S2
theorem KO {r r':R2} {g1 g2:OV->OV->Option OV} {a b c:Ef} (h1:cf K ct r g1) (h2:cf K ct r' g2) (d1:∀k∈js1,k∉wr2) (d2:∀k∈js2,k∉wr3) (q:tE K ct E (fq g1 g2 a b c) [] (wr1++(wr2++wr3)) σ H Q) :
  tChain r r' (tE K ct E a js1 wr1) (tE K ct E b js2 wr2) (tE K ct E c js3 wr3) σ H Q:=by
 obtain⟨B,X,Φ0,W,rfl,s,q⟩:=q;unfold fq at q;refine⟨B,X,Φ0,W,rfl,s,?_⟩
 cases ha:a W.S with
 | no=>rw[ha] at q; exact q.elim
 | ex e S'=>rw[ha] at q; exact fun W' s' e' a'=>q W' s' e' (a'.mono fun k hk=>au _ hk)
 | ok x S1 =>
 rw[ha] at q;intro v W1 D1 s1 e1 a1 t1;subst e1;refine⟨B,X,Φ0,W1,rfl,s1,?_⟩;rw[Out.bind_ok] at q
 cases hb:b W1.S with
 | no=>rw[hb] at q; exact q.elim
 | ex e S'=>rw[hb] at q; exact fun W' s' e' a'=>q W' s' e' ((a1.trans a').mono fun k hk=>by rw[←dI]; exact au _ hk)
 | ok y S2 =>
 rw[hb] at q;intro w W2 D2 s2 e2 a2 t2;subst e2;rw[Out.bind_ok] at q
 cases hg:g1 x y with
 | none=>rw[hg] at q; exact q.elim
 | some z =>
 rw[hg,du] at q
 cases hz:cU z with
 | none=>rw[hz] at q; exact q.elim
 | some k =>
 rw[hz,Out.of_some,Out.bind_ok] at q;have ez:=uq hz;subst ez;have t1':=t1.step s1 a1 a2 d1
 refine h1 W2.Φ W2.H v w x y (.fz (.bool k)) D1 D2 _ t1'.rep t2.rep hg fun u H' D e g1' _ _=>?_
 have eu:u=.bl k:=g1'.1;subst eu;have a12:=a1.trans a2;have s3:=s2.grow e;have a3:Step [] W2 { W2 with H:=H' }:=gU e;refine⟨k,rfl,?_⟩
 cases k with
 | false =>
  refine iteF (q (.bl false) { W2 with H:=H' } [] s3 rfl ?_ ⟨⟨rfl,rfl⟩,b5,fun _ z=>(nomatch z),fun _ z=>(nomatch z),fun _ z=>(nomatch z)⟩)
  exact(a12.trans a3).mono fun k hk=>by
   rw[b6] at hk;rw[←dI]; exact au _ hk
 | true =>
  refine iteT ⟨B,X,Φ0,{ W2 with H:=H' },rfl,s3,?_⟩
  show match c W2.S with|.ok r S'=>_|.ex e S'=>_|.no=>False
  have q:match ((c W2.S).bind fun w S3=>Out.of (g2 y w) S3) with|.ok r S'=>_|.ex e S'=>_|.no=>False:=q
  have mm:∀{W':Wd},Step wr3 { W2 with H:=H' } W'->Step (wr1++(wr2++wr3)) W W':=fun a'=>by
   have:=a12.trans (a3.trans a');rw[List.nil_append,dI] at this;exact this
  cases hc:c W2.S with
  | no=>rw[hc] at q; exact q.elim
  | ex e' S'=>rw[hc] at q; exact fun W' s' e' a'=>q W' s' e' (mm a')
  | ok z3 S3 =>
  rw[hc,Out.bind_ok] at q;intro u3 W3 D3 s4 e4 a4 t4;subst e4
  cases hg2:g2 y z3 with
  | none=>rw[hg2] at q; exact q.elim
  | some z4 =>
  rw[hg2,Out.of_some] at q
  have t2':Tmp K ct js2 (wr2++[]) W1 { W2 with H:=H' } w y D2:=t2.step s2 a2 a3 fun _ _ z=>nomatch z
  have t2'':=t2'.step s3 (a2.trans a3) a4 d2
  refine h2 W3.Φ W3.H w u3 y z3 z4 D2 D3 Q t2''.rep t4.rep hg2 fun u4 H4 D4 e4 p1 p2 p3=>?_
  have am:=mm a4
  have st:Step (wr1++(wr2++wr3)) W { W3 with H:=H4 }:=by
   have:=am.trans (gU e4);rw[b6] at this;exact this
  exact q u4 { W3 with H:=H4 } D4 (s4.grow e4) rfl st (ot am s4 e4 p1 p2 p3)
def qz (U:String):Bool:=["NoneType", "bool", "int", "str", "tuple", "list", "dict"].all fun n=>kitB n U==some (wZ n U)
theorem OD {U n:String} (h:qz U=true) (e:vy x=some n):kitB n U=some (wZ n U):=by
 have h:=dv.mp h
 have m:n∈["NoneType", "bool", "int", "str", "tuple", "list", "dict"]:=by
  cases x<;>(try cases e)<;>simp
 exact eq_of_beq (h n m)
theorem OB:qz "int"=true:=by decide +kernel
theorem OC:qz "bool"=true:=by decide +kernel
theorem AD:qz "tuple"=true:=by decide +kernel
def GY (K:PySem.W.Frag) (H:Hp) (v:V) (t:Value):Prop:=TyX K H v t\/(∃a ob kvs,v=.ref a/\t=.type "dict"/\H a=some (.frz ob (.dT kvs)))\/∃a hs xs,v=.ref a/\t=.type "dict"/\Rd H a (Tw.eQ hs a xs)
theorem Jw {n:String} (h:bw K ct P H v x) (e:vy x=some n):GY K H v (.type n):=by
 cases x with
 | none=>cases e; rw[show v=.non from h]; exact .inl (.base .non)
 | bool b=>cases e; rw[show v=.bl b from h]; exact .inl (.base (.bl b))
 | int i=>cases e; rw[show v=.int i from h]; exact .inl (.base (.int i))
 | str s=>cases e; rw[h.1]; exact .inl (.base (.str s))
 | tup xs =>
  cases e
  obtain⟨a,vs,rfl,h1,_⟩:=h;exact .inl (.base (.tup h1))
 | lst xs =>
  cases e
  obtain⟨a,vs,rfl,_,h1,_⟩:=h;exact .inl (.base (.lst h1))
 | dict kvs =>
  cases e
  obtain⟨a,ps,rfl,_,h1,_⟩:=h
  rcases h1 with⟨vs,r,_⟩|⟨vs,r,_⟩|⟨z,xs,r,_⟩
  rotate_right
  ·exact .inr (.inr ⟨a,_,_,rfl,rfl,r⟩)
  ·rcases r with r|⟨o,r⟩
   ·exact .inl (.base (.dK r))
   ·exact .inl (.fDict r)
  ·rcases r with r|⟨o,r⟩
   ·exact .inl (.base (.dT r))
   ·exact .inr (.inl ⟨a,o,vs,rfl,rfl,r⟩)
 | obj c fs=>cases e
 | scr ns =>
  cases e
  obtain⟨a,rfl,h0,_⟩:=h
  rcases h0 with⟨_,h0|⟨o,h0⟩⟩|h0|⟨o,its,n,h1,h2,_⟩
  ·exact .inl (.base (.lst h0))
  ·exact .inl (.base (.frz h0))
  ·rcases h0 with z|⟨_,z⟩<;>cases z
  ·exact .inl (.kList h1 h2)
def wf (K:PySem.W.Frag):List V->Hp->VK->Prop:=fun xs H Q=>∃(x c:V) (t u:Value) (b:Bool),xs=[x,c]/\ClsV c u/\GY K H x t/\PySem.W.kitOne K t u=some b/\Q (.bl b) H
theorem uN {X:Cx}:CallR X (.builtin "isinstance") (wf X.K):=by
 intro pins s σ H xs us Q I r h;obtain⟨x,c,t,u,b,rfl,k,ty,e,q⟩:=h
 rcases ty with ty|⟨a,ob,kvs,ex,et,ea⟩|⟨a,hs,ks,ex,et,ea⟩
 rotate_right
 ·subst ex;subst et;obtain⟨u1,u2,rfl,r1,r2⟩:=vals2 r;have e2:=k.eq r2;subst e2
  cases (show u1=Value.ref a from r1)
  obtain⟨_,ys,_,o,es,ep,h1,h2,_⟩:=Tw.Al I.hok ea
  exact PySem.W.kia_one PySem.W.kitx_dict I.kIn ⟨o,h1,h2.1⟩ e (fun z=>nomatch z) fun tk=>⟨.bl b,H,I.tok tk,rfl,q⟩
 ·exact call_isi pins s σ H [x,c] us Q I r ⟨x,c,t,u,b,rfl,k,ty,e,q⟩
 ·subst ex;subst et;obtain⟨u1,u2,rfl,r1,r2⟩:=vals2 r;have e2:=k.eq r2;subst e2
  cases (show u1=Value.ref a from r1)
  obtain⟨_,_,_,xs,_,o,es,ep,h1,h2,_⟩:=(show ObjOk X.prog X.w H s.heap a (.frz ob (.dT kvs)) from I.hok a _ ea)
  exact PySem.W.kia_one PySem.W.kitx_dict I.kIn ⟨o,h1,h2.1⟩ e (fun z=>nomatch z) fun tk=>⟨.bl b,H,I.tok tk,rfl,q⟩
theorem Ku {U:String} {a:Ef} (hU:qz U=true) (q:tE K ct E (aC (jD U) a) [] wr σ H Q):tCB (wf K) (tCons (tE K ct E a js wr) (tCons (tC (.ty U)) tNil)) σ H Q :=
 pS (r:=fun v H Q=>wf K [v,.ty U] H Q) (fun Φ H v o z D Q r h q=>by
  unfold jD at h
  cases e:vy o.val with
  | none=>rw[e] at h; cases h
  | some n =>
   rw[e] at h
   cases h
   exact⟨v,.ty U,.type n,.type U,wZ n U,rfl,.ty U,Jw (kF r) e,kit_ty (OD hU e),cO q rfl⟩) q
end
end Mp
namespace Mp
open PySem L2 Tw
section
variable {K:PySem.W.Frag} {ct:Tw.Ct} {E:Exn->L2.St->Hp->Prop} {B:Hp} {P Φ Φ0:Addr->Prop} {σ:L2.St} {W W' W1:Wd} {H H':Hp} {v w:V} {x:Val} {o:OV} {X:Cx} {js wr wr1 wr2:List Nat} {Q:VK} {i j k:Nat} {F:be} {io:List Nat}
def mX (c m:Str):Val->Bool
 | .obj c' fs=>decide (c'=c) && (eK fs m).isNone
 | _=>false
theorem CP {m:Str}:∀{vs:List (Str×V)} {fs:List (Str×Val)},ViewF K ct P H vs fs->eK fs m=none->vs.lookup m=none
 | [],[],_,_=>rfl
 | p :: vs, (k, x) :: fs, h, e => by
  obtain⟨h1,_,h3⟩:=h;obtain⟨pk,pv⟩:=p;have h1:pk=k:=h1;subst h1;unfold eK at e;split at e
  ·cases e
  ·rename_i n
   rw[jX]
   have n':(m==pk)=false:=by
    cases z:m==pk with
    | false=>rfl
    | true=>exact absurd (eq_of_beq z).symm (by simpa using n)
   rw[n'];exact CP h3 e
 | [],_::_,h,_=>h.elim
 | _::_,[],h,_=>h.elim
theorem Lj {c m:Str} (h:bw K ct P H v x) (e:mX c m x=true):∃a dx fs,v=.ref a/\H a=some (.ins (ct c) dx fs)/\fs.lookup m=none:=by
 cases x with
 | obj c' fs =>
  unfold mX at e;rw[bN] at e;have e1:=of_decide_eq_true e.1;subst e1;obtain⟨a,dx,vs,rfl,_,h2,h3⟩:=h;exact⟨a,dx,vs,rfl,h2,CP h3 (by simpa using e.2)⟩
 | _=>cases e
def di (c m:Str) (js:List Nat) (a:Ef) (F:be) (fa:Cf) (ks:List (Option Nat)) (io:List Nat):Ef:=fun S=>(a S).bind fun o S1=>(Out.of (aI js o) S1).bind fun x _=>match mX c m x with
 | false=>.no
 | true=>(fa S1).bind fun os S2=>match F (.fz x::os) with
  | .ok r outs=>.ok r (jy (ke (none::ks) io) outs S2)
  | .ex _ _=>.no
  | .no=>.no
theorem Kp {c m:Str} {a:Ef} {fa:Cf} {ks:List (Option Nat)} {EE:XK} (q:tE K ct E (di c m js a F fa ks io) [] (wr1++wr2++ks.filterMap id) σ H Q):tMeth (ct c) m (bh K ct io F) [] EE (tE K ct E a js wr1) (eD K ct E fa ks wr2) σ H Q:=by
 obtain⟨B,X,Φ0,W,rfl,s,q⟩:=q;unfold di at q;refine⟨B,X,Φ0,W,rfl,s,?_⟩
 cases ha:a W.S with
 | no=>rw[ha] at q; exact q.elim
 | ex e S'=>rw[ha] at q; exact fun W' s' e' a'=>q W' s' e' (a'.mono fun k hk=>au _ (au _ hk))
 | ok o S1 =>
 rw[ha] at q;intro v W1 D1 s1 e1 a1 t1;subst e1;rw[Out.bind_ok] at q
 cases hx:aI js o with
 | none=>rw[hx] at q; exact q.elim
 | some x =>
 rw[hx,Out.of_some,Out.bind_ok] at q;obtain⟨Φ',s1',a1',v1⟩:=jt s s1 a1 t1 hx
 cases hc:mX c m x with
 | false=>rw[hc] at q; exact q.elim
 | true =>
 rw[hc] at q;obtain⟨p,dx,fs,rfl,h1,h2⟩:=Lj v1 hc;refine⟨p,dx,fs,rfl,h1,h2,B,X,Φ0,{ W1 with Φ:=Φ' },rfl,s1',?_⟩
 show match fa W1.S with|.ok r S'=>_|.ex e S'=>_|.no=>False
 have q:match ((fa W1.S).bind fun os S2=>match F (.fz x::os) with
  | .ok r outs=>Out.ok r (jy (ke (none::ks) io) outs S2)
  | .ex _ _=>.no
  | .no=>.no) with|.ok r S'=>_|.ex e S'=>_|.no=>False:=q
 cases hf:fa W1.S with
 | no=>rw[hf] at q; exact q.elim
 | ex e S'=>rw[hf] at q; exact fun W' s' e' a'=>q W' s' e' ((a1'.trans a').mono fun k hk=>au _ hk)
 | ok os S2 =>
 rw[hf,Out.bind_ok] at q;intro vs W2 D2 s2 e2 a2 t2 hk;subst e2;rw[b6];have a12:=a1'.trans a2
 have tl:TmpL K ct (wr1++wr2) W W2 (.ref p::vs) (.fz x::os) D2:=⟨⟨[],D2,rfl,⟨v1.keep a2.ph (s1'.keeps a2) x,rfl⟩,t2.rep⟩,t2.nd,t2.nph,t2.dj,fun a ha=>by
  rcases t2.src a ha with z|z
  ·exact a1'.own z
  ·exact .inr (ja a1' z)⟩
 refine xH (ks:=none::ks) s s2 a12 tl (fun i j hi=>?_) ?_
 ·cases i with
  | zero=>cases hi
  | succ i=>simpa using hk i j (by simpa using hi)
 ·cases hF:F (.fz x::os) with
  | no=>rw[hF] at q; exact q.elim
  | ex e outs=>rw[hF] at q; exact q.elim
  | ok r outs =>
   rw[hF] at q;exact q
def dW (c:Str) (F:be) (fa:Af):Ef:=fun S=>(fa S).bind fun xs S1=>match F (.obj c []::aF xs) with
 | .ok (.fz .none) [some o]=>.ok o S1
 | _=>.no
theorem Kr {c:Str} {fa:Af} {EE:XK} (q:tE K ct E (dW c F fa) [] wr σ H Q):tMake (ct c) (bh K ct [0] F) [] EE (tA K ct E fa wr) σ H Q:=by
 obtain⟨B,X,Φ0,W,rfl,s,q⟩:=q;unfold dW at q;refine⟨B,X,Φ0,W,rfl,s,?_⟩
 cases ha:fa W.S with
 | no=>rw[ha] at q; exact q.elim
 | ex e S'=>rw[ha] at q; exact q
 | ok xs S1 =>
 rw[ha,Out.bind_ok] at q;intro vs W1 s1 e1 a1 hv x dx hx hdx hne;subst e1;rw[b6]
 have sm:Same W1.H (upd (upd W1.H dx (.own x)) x (.ins (ct c) dx [])):=fun b u hb=>by
  rw[upd_ne fun z=>?_,upd_ne fun z=>?_]
  ·exact hb
  ·rw[z,hdx] at hb; cases hb
  ·rw[z,hx] at hb; cases hb
 have back:∀b,b≠x->(upd (upd W1.H dx (.own x)) x (.ins (ct c) dx [])) b=none->W1.H b=none:=fun b hb hn=>by
  cases e:W1.H b with
  | none=>rfl
  | some u=>rw[sm b u e] at hn; cases hn
 refine⟨W1.Φ,.obj c []::aF xs,[x],⟨[x],[],rfl,⟨x,dx,[],[],rfl,upd_same,rfl,rfl⟩,ny (hv.keep (fun _ z=>z) (fun b u h _=>⟨u,sm b u h,.inl rfl⟩) _)⟩,bT.mpr ⟨fun z=>(nomatch z),b5⟩,fun a ha hp=>?_,fun a hp=>?_,?_⟩
 ·rw[bm.mp ha] at hp;exact s1.phl x hp hx
 ·cases e:W1.H a with
  | none=>exact absurd e (s1.phl a hp)
  | some u=>rw[sm a u e]; exact fun z=>nomatch z
 cases hF:F (.obj c []::aF xs) with
 | no=>rw[hF] at q; exact q.elim
 | ex e outs=>rw[hF] at q; exact q.elim
 | ok r outs =>
 rw[hF] at q
 match r,outs,q with
 | .fz .none, [some o], q =>
  intro v' H' Φ' Dr Do Pq;have ev:v'=.non:=Pq.rep.1;refine⟨ev,?_⟩;obtain⟨w,hw,hr⟩:=Pq.out 0 0 o rfl rfl
  cases hw
  have fr:∀b u,W1.H b=some u->H' b=some u:=fun b u hb=>Pq.fr b u (sm b u hb) fun z=>by
   rw[bm.mp z,hx] at hb; cases hb
  have pn:∀a,Φ' a->W1.Φ a\/W1.H a=none:=fun a ha=>by
   rcases Pq.pn a ha with z|z|z
   ·exact .inl z
   ·rw[bm.mp z]; exact .inr hx
   ·by_cases e:a=x
    ·rw[e]; exact .inr hx
    ·exact .inr (back a e z)
  have src:∀a∈Do 0,¬Φ' a/\W1.H a=none:=fun a ha=>by
   obtain⟨h1,h2⟩:=Pq.src a (.inr ⟨0,ha⟩);refine⟨h1,?_⟩
   rcases h2 with z|z
   ·rw[bm.mp z]; exact hx
   ·by_cases e:a=x
    ·rw[e]; exact hx
    ·exact back a e z
  have kp:cg W1.Φ W1.H H':=fun b u h _=>⟨u,fr b u h,.inl rfl⟩
  have lvs:∀b,W1.H b≠none->H' b≠none:=fun b h=>by
   cases e:W1.H b with
   | none=>exact absurd e h
   | some u=>rw[fr b u e]; exact fun z=>nomatch z
  have st:Step [] W1 { W1 with Φ:=Φ',H:=H' }:=⟨fun b u h _=>fr b u h,lvs,Pq.ph,fun a ha=>(pn a ha).imp id .inr,fun _ _=>rfl,fun _ _ h=>.inl h,fun _ _=>rfl⟩
  have s2:Sat K ct B X Φ0 σ { W1 with Φ:=Φ',H:=H' }:=⟨s1.len,fun i o' h=>?_,s1.em,s1.nd,s1.dj,fun i a h hp=>?_,s1.own,fun b o' hb hn=>fr b o' (s1.old b o' hb hn),fun b hb=>st.lv b (s1.lv b hb),Pq.phl,fun a ha=>?_,s1.xl⟩
  ·refine q (.ref x) { W1 with Φ:=Φ',H:=H' } (Do 0) s2 rfl ?_ ⟨hr,Pq.ndo 0,fun a ha=>(src a ha).1,fun a ha k hk=>?_,fun a ha=>.inr (.inr (ja a1 (src a ha).2))⟩
   ·have:=a1.trans st;rw[b6] at this;exact this
   ·obtain⟨u,e,_⟩:=s1.liveF hk;rw[(src a ha).2] at e; cases e
  ·obtain⟨w,h1,h2⟩:=s1.sl i o' h;refine⟨w,h1,h2.keep Pq.ph kp o' fun b hb=>?_⟩;obtain⟨u,e,_⟩:=s1.liveF hb;rw[e]; exact fr b u e
  ·rcases pn a hp with z|z
   ·exact s1.nph i a h z
   ·obtain⟨u,e,_⟩:=s1.liveF h;rw[z] at e; cases e
  ·rcases pn a ha with z|z
   ·exact s1.phn a z
   ·refine .inr (.inr ?_)
    cases e:B a with
    | none=>rfl
    | some u=>exact absurd z (s1.lv a (by rw[e]; exact fun z=>nomatch z))
end
end Mp
namespace Mp
open PySem L2 Tw
def zV (C:Addr) (sp:Sp) (neg:Bool):R2:=fun x y H Q=>∃b dx fs,y=.ref b/\H b=some (.ins C dx fs)/\sp [.ref b,x] H (fun v H'=>∃t,v=.bl t/\Q (.bl (if neg then !t else t)) H') L2.E0
section
variable {X:Cx} {k j:Nat} {C:Addr} {sp:Sp}
theorem EC (c:Met X.prog X.w X.K X.mg X.base k C "__contains__" sp) (hg:X.A.guards=some []) (hr:Room j X.A) (hk:k<=j):OpR X (compareOp .NotIn) (zV C sp true):=by
 obtain⟨f,fd,ps,cl,me,F,b,_⟩:=c.ex;intro pins s σ H x y v u Q I rx ry h;obtain⟨p,dx,fs,rfl,hp,hsp⟩:=h
 cases ry
 obtain⟨mA,J,_⟩:=ins_get I.hok hp;obtain⟨od,J,_⟩:=J.look;obtain⟨m,hF⟩:=I.fr;refine PySem.W.notIn_K hF I.ok.mod.kin J me.at_ me.fn (wpAny_mono (LB (A:=X.A) F hg (hr.mono hk) rfl b pass0 I (show Vals [V.ref p,x] [Value.ref p,v] from .cons rfl (.cons rx .nil)) hsp) (fun r s' z=>?_) fun _ _ z=>z);obtain⟨v,H',I',rv,t,rfl,q⟩:=z
 cases rv
 exact wpAny_truthy_bool ⟨.bl (!t),H',I',rfl,q⟩
end
section
variable {K:PySem.W.Frag} {ct:Tw.Ct} {E:Exn->L2.St->Hp->Prop} {B:Hp} {P Φ Φ0:Addr->Prop} {σ:L2.St} {W W' W1:Wd} {H:Hp} {v w:V} {x y:Val} {D:List Addr} {X:Cx} {js1 wr1 js2 wr2:List Nat} {Q:VK} {i j k:Nat} {F:be}
def o2 (js1 js2:List Nat) (a b:Ef) (kk:Val->Val->Env->Out OV):Ef:=fun S=>(a S).bind fun o1 S1=>(Out.of (aI js1 o1) S1).bind fun x _=>(b S1).bind fun o2 S2=>(Out.of (aI js2 o2) S2).bind fun y _=>kk x y S2
theorem JV {r:R2} {a b:Ef} {kk:Val->Val->Env->Out OV}
  (h:∀{B X Φ0 W W2 v w x y},Sat K ct B X Φ0 σ W->Sat K ct B X Φ0 σ W2->Step (wr1++wr2) W W2->bw K ct W2.Φ W2.H v x->bw K ct W2.Φ W2.H w y->(match kk x y W2.S with
   | .ok r S'=>∀v W' D,Sat K ct B X Φ0 σ W'->W'.S=S'->Step (wr1++wr2) W W'->Tmp K ct [] (wr1++wr2) W W' v r D->Q v W'.H
   | .ex e S'=>∀W',Sat K ct B X Φ0 σ W'->W'.S=S'->Step (wr1++wr2) W W'->E e σ W'.H
   | .no=>False)->r v w W2.H Q)
  (q:tE K ct E (o2 js1 js2 a b kk) [] (wr1++wr2) σ H Q):tOp r (tE K ct E a js1 wr1) (tE K ct E b js2 wr2) σ H Q:=by
 obtain⟨B,X,Φ0,W,rfl,s,q⟩:=q;unfold o2 at q;refine⟨B,X,Φ0,W,rfl,s,?_⟩
 cases ha:a W.S with
 | no=>rw[ha] at q; exact q.elim
 | ex e S'=>rw[ha] at q; exact fun W' s' e' a'=>q W' s' e' (a'.mono fun k hk=>au _ hk)
 | ok o1 S1 =>
 rw[ha,Out.bind_ok] at q;intro v W1 D1 s1 e1 a1 t1;subst e1
 cases hx:aI js1 o1 with
 | none=>rw[hx] at q; exact q.elim
 | some x =>
 rw[hx,Out.of_some,Out.bind_ok] at q;obtain⟨Φ',s1',a1',v1⟩:=jt s s1 a1 t1 hx;refine⟨B,X,Φ0,{ W1 with Φ:=Φ' },rfl,s1',?_⟩
 show match b W1.S with|.ok r S'=>_|.ex e S'=>_|.no=>False
 cases hb:b W1.S with
 | no=>rw[hb] at q; exact q.elim
 | ex e S'=>rw[hb] at q; exact fun W' s' e' a'=>q W' s' e' (a1'.trans a')
 | ok o2 S2 =>
 rw[hb,Out.bind_ok] at q;intro w W2 D2 s2 e2 a2 t2;subst e2
 cases hy:aI js2 o2 with
 | none=>rw[hy] at q; exact q.elim
 | some y =>
 rw[hy,Out.of_some,Out.bind_ok] at q;obtain⟨Φ2,s2',a2',v2⟩:=jt s1' s2 a2 t2 hy;exact h (W2:={ W2 with Φ:=Φ2 }) s s2' (a1'.trans a2') (v1.keep a2'.ph (s1'.keeps a2') x) v2 q
def nL (c:Str):Val->Bool
 | .obj c' _=>decide (c'=c)
 | _=>false
theorem No {c:Str} (h:bw K ct P H v x) (e:nL c x=true):∃a dx fs,v=.ref a/\H a=some (.ins (ct c) dx fs):=by
 cases x with
 | obj c' fs =>
  have e1:=of_decide_eq_true e;subst e1;obtain⟨a,dx,vs,rfl,_,h2,_⟩:=h;exact⟨a,dx,vs,rfl,h2⟩
 | _=>cases e
def kIn (c:Str) (F:be) (neg:Bool) (x y:Val) (S:Env):Out OV:=match nL c y with
 | false=>.no
 | true=>match F [.fz y,.fz x] with
  | .ok (.fz (.bool t)) _=>.ok (vB (if neg then !t else t)) S
  | _=>.no
theorem Kv {c:Str} {neg:Bool} {a b:Ef} (q:tE K ct E (o2 js1 js2 a b (kIn c F neg)) [] (wr1++wr2) σ H Q):tOp (zV (ct c) (bh K ct [] F) neg) (tE K ct E a js1 wr1) (tE K ct E b js2 wr2) σ H Q:=JV (fun {B X Φ0 W W2 v w x y} s s2 st v1 v2 q=>by
 unfold kIn at q
 cases hc:nL c y with
 | false=>rw[hc] at q; exact q.elim
 | true =>
 rw[hc] at q;obtain⟨p,dx,fs,rfl,hp⟩:=No v2 hc;refine⟨p,dx,fs,rfl,hp,?_⟩
 have tl:TmpL K ct (wr1++wr2) W W2 [.ref p,v] [.fz y,.fz x] []:=⟨⟨[],[],rfl,⟨v2,rfl⟩,[],[],rfl,⟨v1,rfl⟩,rfl⟩,b5,fun _ z=>(nomatch z),fun _ z=>(nomatch z),fun _ z=>(nomatch z)⟩
 refine xH (ks:=[]) s s2 st tl (fun i j hi=>by simp at hi) ?_
 match hF:F [.fz y,.fz x],q with
 | .ok (.fz (.bool t)) outs,q =>
  intro u W3 D3 s3 e3 a3 t3;refine⟨t,t3.rep.1,q (.bl (if neg then !t else t)) W3 [] s3 e3 ?_ (iy rfl)⟩;have:=a3;rw[show([]:List (Option Nat)).filterMap id=[] from rfl,b6] at this;exact this
 | .no,q=>exact q.elim
 | .ex e outs,q=>exact q.elim
 | .ok (.fz .none) outs,q=>exact q.elim
 | .ok (.fz (.int _)) outs,q=>exact q.elim
 | .ok (.fz (.str _)) outs,q=>exact q.elim
 | .ok (.fz (.tup _)) outs,q=>exact q.elim
 | .ok (.fz (.lst _)) outs,q=>exact q.elim
 | .ok (.fz (.dict _)) outs,q=>exact q.elim
 | .ok (.fz (.obj _ _)) outs,q=>exact q.elim
 | .ok (.fz (.scr _)) outs,q=>exact q.elim
 | .ok (.lst _) outs,q=>exact q.elim
 | .ok (.dict _) outs,q=>exact q.elim
 | .ok (.obj _ _) outs,q=>exact q.elim) q
end
end Mp
namespace Mp
open PySem L2 Tw
section
variable {K:PySem.W.Frag} {ct:Tw.Ct} {P Φ:Addr->Prop} {H:Hp} {v:V} {o:OV} {f:Ef} {i k:Nat} {F:be} {p:List PStep}
theorem FH {z:Val} {b:Bool} (e:kindOf z=some b):(b=false/\∃q,z=bM q)\/(b=true/\∃q,z=gZ q):=by
 cases z with
 | int i=>cases e; exact .inl ⟨rfl,.inl i,rfl⟩
 | str s=>cases e; exact .inl ⟨rfl,.inr s,rfl⟩
 | tup xs =>
  have e:(fC xs).map (fun _=>true)=some b:=e
  cases h:fC xs with
  | none=>rw[h] at e; cases e
  | some q=>rw[h] at e; cases e; exact .inr ⟨rfl,q,by rw[Br h]; rfl⟩
 | _=>cases e
theorem AE (q:Key):kindOf (bM q)=some false:=by cases q<;>rfl
theorem GR:∀q:List Key,fC (q.map bM)=some q
 | []=>rfl
 | q::r=>by
  have e:pr (bM q)=some q:=by cases q<;>rfl
  show(pr (bM q)).bind _=_
  rw[e,du]
  show(fC (r.map bM)).bind _=_
  rw[GR r]<;>rfl
theorem AF (q:List Key):kindOf (gZ q)=some true:=by
 show(fC (q.map bM)).map (fun _=>true)=some true
 rw[GR]<;>rfl
theorem QX {α:Type} {a:Addr} {ps:List (Val×V)} {kvs:List (Val×α)} {key:Val} {kv:V} {Pk:Addr->Prop} (h:hZ ct H a (Rd H a) ps) (hk:bw K ct Pk H kv key) (hm:ps.map (·.1)=kvs.map (·.1)) (hf:fits kvs key=true)
  (he:kvs=[]->H a=some (if kindOf key=some true then .dT [] else .dK [])):DGet H a kv (aG ps key):=by
 have hs:∃b,kindOf key=some b:=by
  unfold fits at hf
  cases kvs with
  | nil=>exact Option.isSome_iff_exists.mp hf
  | cons z _=>rw[bN] at hf; exact Option.isSome_iff_exists.mp hf.2
 obtain⟨b,hb⟩:=hs
 have dK:∀vs:List (Key×V),Rd H a (.dK vs)->b=false->ps=vs.map (fun p=>(bM p.1,p.2))->DGet H a kv (aG ps key):=fun vs h1 e h2=>by
  rcases FH hb with⟨_,q,rfl⟩|⟨z,_⟩
  ·rw[h2,oV bM (fun _ _=>qA)];exact .inl ⟨vs,q,h1,(vq hk).1,rfl⟩
  ·rw[e] at z; cases z
 have dT:∀vs:List (List Key×V),Rd H a (.dT vs)->b=true->ps=vs.map (fun p=>(gZ p.1,p.2))->DGet H a kv (aG ps key):=fun vs h1 e h2=>by
  rcases FH hb with⟨z,_⟩|⟨_,q,rfl⟩
  ·rw[e] at z; cases z
  ·obtain⟨b,e1,e2,_⟩:=yL hk;rw[h2,oV gZ (fun _ _=>AG)];exact .inr ⟨vs,q,b,h1,e1,e2,rfl⟩
 cases kvs with
 | nil =>
  have hp:ps=[]:=by cases ps with
   | nil=>rfl
   | cons _ _=>cases hm
  have e:=he rfl;rw[hb] at e
  cases b with
  | false =>
   rw[if_neg (by decide)] at e;exact dK [] (.inl e) rfl hp
  | true =>
   rw[if_pos rfl] at e;exact dT [] (.inl e) rfl hp
 | cons z kvs =>
  unfold fits at hf;rw[bN] at hf;have hz:kindOf z.1=some b:=(of_decide_eq_true hf.1).trans hb
  rcases h with⟨vs,h1,h2,_⟩|⟨vs,h1,h2,_⟩|⟨q,xs,h1,h2,_,f⟩
  rotate_right
  ·exfalso
   rw[h2] at hm;have e:dw q.1=z.1:=(List.cons.inj hm).1;rw[←e,wS (f q (ao ..))] at hz
   cases hz
  ·refine dK vs h1 ?_ h2
   cases vs with
   | nil=>rw[h2] at hm; cases hm
   | cons q vs =>
    rw[h2] at hm;have e:bM q.1=z.1:=(List.cons.inj hm).1;rw[←e,AE] at hz;exact(Option.some.inj hz).symm
  ·refine dT vs h1 ?_ h2
   cases vs with
   | nil=>rw[h2] at hm; cases hm
   | cons q vs =>
    rw[h2] at hm;have e:gZ q.1=z.1:=(List.cons.inj hm).1;rw[←e,AF] at hz;exact(Option.some.inj hz).symm
theorem qi:∀{ps:List (Val×V)} {kvs:List (Val×OV)} {F:List Addr},ORepP K ct Φ H ps kvs F->ps.map (·.1)=kvs.map (·.1)
 | [],[],_,_=>rfl
 | _::_,_::_,_,h=>by
  obtain⟨F1,F2,_,e,_,h⟩:=h;rw[bU,bU,qi h,e]
 | [],_::_,_,h=>h.elim
 | _::_,[],_,h=>h.elim
theorem CB:∀{ps:List (Val×V)} {kvs:List (Val×Val)},ViewP K ct P H ps kvs->ps.map (·.1)=kvs.map (·.1)
 | [],[],_=>rfl
 | _::_,_::_,h=>by
  obtain⟨e,_,h⟩:=h;rw[bU,bU,CB h,e]
 | [],_::_,h=>h.elim
 | _::_,[],h=>h.elim
theorem Fh {α β:Type} {key:Val}:∀{ps:List (Val×α)} {kvs:List (Val×β)},ps.map (·.1)=kvs.map (·.1)->(aG ps key).isSome=(aG kvs key).isSome
 | [],[],_=>rfl
 | (a,u)::ps,(b,v)::kvs,h=>by
  have e:a=b:=(List.cons.inj h).1;subst e;unfold aG
  by_cases z:a=key
  ·rw[if_pos z,if_pos z]<;>rfl
  ·rw[if_neg z,if_neg z]; exact Fh (List.cons.inj h).2
 | [],_::_,h=>by cases h
 | _::_,[],h=>by cases h
def Bg:OV->Option (List (Val×OV))
 | .dict kvs=>some kvs
 | _=>none
def gz (neg:Bool) (k:Nat) (p:List PStep) (a:Ef):Ef:=fun S=>(Out.of ((bF k p S).bind Bg) S).bind fun kvs _=>(a S).bind fun o S1=>(Out.of o.fzv S1).bind fun key _=>(Out.of (if fits kvs key=true then some (vB (if neg then !(aG kvs key).isSome else (aG kvs key).isSome)) else none) S1)
theorem Ms {S:Env} {c:OV} (h:bF k p S=some c):∃o,S[k]?=some (some o)/\bZ p o=some c:=by
 unfold bF at h;split at h
 ·exact⟨_,‹_›,h⟩
 ·cases h
end
end Mp
namespace Mp
open PySem L2 Tw
section
variable {K:PySem.W.Frag} {ct:Tw.Ct} {E:Exn->L2.St->Hp->Prop} {B:Hp} {X:List Addr} {Φ0:Addr->Prop} {σ:L2.St} {W W' W0 W1:Wd} {H:Hp} {v w:V} {x y:Val} {o:OV} {js wr wr1 wr2 pin:List Nat} {g:Ef} {Q:VK} {i j k:Nat}
def de (js:List Nat) (a:Ef) (g:Cf):Cf:=fun S=>(a S).bind fun o S1=>(Out.of (bO js o) S1).bind fun o' S2=>(g S2).bind fun os S3=>.ok (o'::os) S3
theorem Ry {a:Ef} {g:Cf} {ks:List (Option Nat)} {Q:List V->Hp->Prop} (q:eD K ct E (de js a g) (none::ks) (wr1++wr2) σ H Q):tCons (tE K ct E a js wr1) (eD K ct E g ks wr2) σ H Q:=by
 obtain⟨B,X,Φ0,W,rfl,s,q⟩:=q;unfold de at q;refine⟨B,X,Φ0,W,rfl,s,?_⟩
 cases ha:a W.S with
 | no=>rw[ha] at q; exact q.elim
 | ex e S'=>rw[ha] at q; exact fun W' s' e' a'=>q W' s' e' (a'.mono fun k hk=>au _ hk)
 | ok o S1 =>
 rw[ha,Out.bind_ok] at q;intro v W1 D1 s1 e1 a1 t1;subst e1
 cases hx:bO js o with
 | none=>rw[hx] at q; exact q.elim
 | some o' =>
 rw[hx,Out.of_some,Out.bind_ok] at q;obtain⟨D',t',_⟩:=oX t1 hx;refine⟨B,X,Φ0,W1,rfl,s1,?_⟩
 cases hb:g W1.S with
 | no=>rw[hb] at q; exact q.elim
 | ex e S'=>rw[hb] at q; exact fun W' s' e' a'=>q W' s' e' (a1.trans a')
 | ok os S2 =>
 rw[hb] at q;intro vs W2 D2 s2 e2 a2 t2 hk
 have t1':=t'.step s1 a1 a2 fun _ z=>nomatch z
 refine q (v::vs) W2 (D'++D2) s2 e2 (a1.trans a2) ⟨⟨D',D2,rfl,t1'.rep,t2.rep⟩,cA.mpr ⟨t1'.nd,t2.nd,fun a ha b hb e=>?_⟩,fun a ha=>?_,fun a ha j hj=>?_,fun a ha=>?_⟩ fun i j hi=>?_
 ·subst e
  rcases t2.src a hb with z|z
  ·obtain⟨j,_,z⟩:=z
   cases t'.dj a ha j z
  ·obtain⟨u,e,_⟩:=t'.rep.live _ a ha;rw[z] at e; cases e
 ·exact(bc.mp ha).elim (t1'.nph a) (t2.nph a)
 ·rcases bc.mp ha with z|z
  ·cases t1'.dj a z j hj
  ·exact t2.dj a z j hj
 ·rcases bc.mp ha with z|z
  ·rcases t1'.src a z with y|⟨_,y,_⟩|y
   ·exact .inl y
   ·cases y
   ·exact .inr y
  ·rcases t2.src a z with z|z
   ·exact a1.own z
   ·exact .inr (ja a1 z)
 ·cases i with
  | zero=>cases hi
  | succ i=>simpa using hk i j (by simpa using hi)
theorem TmpL.put {D:List Addr} {vs:List V} {os:List OV} (s0:∃τ,Sat K ct B X Φ0 τ W0) (s:Sat K ct B X Φ0 σ W) (a:Step wr W0 W) (t:TmpL K ct wr W0 W (v::vs) (o::os) D) (hi:i<W.S.length) :
  ∃W' D2,Sat K ct B X Φ0 (σ.set i (some v)) W'/\Step (wr++[i]) W0 W'/\W'.S=W.S.set i (some o)/\W'.H=W.H/\TmpL K ct (wr++[i]) W0 W' vs os D2:=by
 obtain⟨F1,F2,rfl,h1,h2⟩:=t.rep;obtain⟨n1,n2,n3⟩:=cA.mp t.nd
 have t1:Tmp K ct [] wr W0 W v o F1:=⟨h1,n1,fun x hx=>t.nph x (au _ hx),fun x hx k hk=>absurd hk (t.dj x (au _ hx) k),fun x hx=>by
  rcases t.src x (au _ hx) with z|z
  ·exact .inl z
  ·exact .inr (.inr z)⟩
 obtain⟨τ,s0⟩:=s0
 have ho:∀a∈F1,B a=none\/a∈X:=t1.owner s0
 have st:Step (wr++[i]) W0 { W with S:=W.S.set i (some o),Fs:=bv W.Fs i F1 }:=by
  have m:=a.mono (wr':=wr++[i]) fun k hk=>au _ hk
  refine⟨m.fr,m.lv,m.ph,m.pn,fun k hk=>?_,fun k x hx=>?_,fun k hk=>?_⟩
  ·show bv W.Fs i F1 k=_
   have e:k≠i:=fun z=>hk (aJ _ (by rw[z]; exact ao ..))
   rw[b7 e];exact m.kf k hk
  ·have hx:x∈bv W.Fs i F1 k:=hx
   by_cases e:k=i
   ·subst e;rw[eX] at hx
    rcases t1.src x hx with q|⟨_,q,_⟩|q
    ·exact .inr (.inl (eG.mpr (.inl q)))
    ·cases q
    ·exact .inr (.inr q)
   ·rw[b7 e] at hx;exact m.nf k x hx
  ·have e:i≠k:=fun z=>hk (aJ _ (by rw[z]; exact ao ..))
   show(W.S.set i (some o))[k]?=_
   rw[cG e];exact m.ks k hk
 refine⟨{ W with S:=W.S.set i (some o),Fs:=bv W.Fs i F1 },F2,s.put h1 n1 t1.nph (fun x hx k hk=>by cases t1.dj x hx k hk) ho hi,st,rfl,rfl,h2,n2,fun x hx=>t.nph x (aJ _ hx),fun x hx k hk=>?_,fun x hx=>?_⟩
 ·have hk:x∈bv W.Fs i F1 k:=hk
  by_cases e:k=i
  ·subst e;rw[eX] at hk;exact n3 x hk x hx rfl
  ·rw[b7 e] at hk;exact t.dj x (aJ _ hx) k hk
 ·rcases t.src x (aJ _ hx) with z|z
  ·exact .inl (eG.mpr (.inl z))
  ·exact .inr z
def bR:List Nat->List OV->Env->Option Env
 | [],[],S=>some S
 | i::is,o::os,S=>(putS S i o).bind (bR is os)
 | _,_,_=>none
def bY (is:List Nat) (fa:Cf):Sf:=fun S=>(fa S).bind fun os S1=>(Out.of (bR is os S1) S1).bind fun S2 _=>.ok .nx S2
theorem Ke {D:Ends} {fa:Cf} {ks:List (Option Nat)} (h1:i∉pin) (h2:j∉pin) (q:tS K ct E pin (bY [i,j] fa) (wr++[i]++[j]) D σ H):tPar i j (eD K ct E fa ks wr) D σ H:=by
 obtain⟨B,X,Φ0,W,rfl,s,q⟩:=fT.mp q;unfold bY at q;refine⟨B,X,Φ0,W,rfl,s,?_⟩
 cases ha:fa W.S with
 | no=>rw[ha] at q; exact q.elim
 | ex e S'=>rw[ha] at q; exact fun W' s' e' a'=>q σ W' s' e' (a'.mono fun k hk=>au _ (au _ hk))
 | ok os S1 =>
 rw[ha,Out.bind_ok] at q;intro vs W1 D1 s1 e1 a1 t1 _;subst e1
 match os,q,t1 with
 | [],q,_=>exact q.elim
 | [o1],q,_ =>
  unfold bR at q
  cases hq:putS W1.S i o1 with
  | none=>rw[hq] at q; exact q.elim
  | some S3=>rw[hq] at q; exact q.elim
 | o1::o2::os,q,t1 =>
 match vs,t1 with
 | [],t1=>exact t1.rep.elim
 | [_],t1=>obtain⟨_,_,_,_,h⟩:=t1.rep; exact h.elim
 | v::w::vs,t1 =>
 unfold bR at q
 cases hq:putS W1.S i o1 with
 | none=>rw[hq] at q; exact q.elim
 | some S3 =>
 rw[hq,du] at q;obtain⟨hi,rfl⟩:=m9 hq;obtain⟨W2,D2,s2,a2,e2,eh2,t2⟩:=t1.put ⟨_,s⟩ s1 a1 hi;unfold bR at q
 cases hq2:putS (W1.S.set i (some o1)) j o2 with
 | none=>rw[hq2] at q; exact q.elim
 | some S4 =>
 rw[hq2,du] at q;obtain⟨hj,rfl⟩:=m9 hq2;obtain⟨W3,D3,s3,a3,e3,eh3,t3⟩:=t2.put ⟨_,s⟩ s2 a2 (by rw[e2]; exact hj)
 match os,vs,q,t1 with
 | _::_,_,q,_=>unfold bR at q; exact q.elim
 | [],_::_,_,t1=>obtain⟨_,_,_,_,_,_,_,_,h⟩:=t1.rep; exact h.elim
 | [],[],q,_ =>
  unfold bR at q;refine⟨v,w,rfl,?_⟩;rw[←eh2,←eh3];refine q ((σ.set i (some v)).set j (some w)) W3 (fun l hl=>?_) s3 (by rw[e3,e2]) a3;rw[cG fun(z:j=l)=>h2 (z▸hl),cG fun(z:i=l)=>h1 (z▸hl)]
theorem Kd {D:Ends} {fa:Cf} {ks:List (Option Nat)} (h1:i∉pin) (h2:j∉pin) (h3:k∉pin) (q:tS K ct E pin (bY [i,j,k] fa) (wr++[i]++[j]++[k]) D σ H):tPar3 i j k (eD K ct E fa ks wr) D σ H:=by
 obtain⟨B,X,Φ0,W,rfl,s,q⟩:=fT.mp q;unfold bY at q;refine⟨B,X,Φ0,W,rfl,s,?_⟩
 cases ha:fa W.S with
 | no=>rw[ha] at q; exact q.elim
 | ex e S'=>rw[ha] at q; exact fun W' s' e' a'=>q σ W' s' e' (a'.mono fun k hk=>au _ (au _ (au _ hk)))
 | ok os S1 =>
 rw[ha,Out.bind_ok] at q;intro vs W1 D1 s1 e1 a1 t1 _;subst e1
 match os,q,t1 with
 | [],q,_=>exact q.elim
 | [o1],q,_ =>
  unfold bR at q
  cases hq:putS W1.S i o1 with
  | none=>rw[hq] at q; exact q.elim
  | some S3=>rw[hq] at q; exact q.elim
 | [o1, o2], q, _ =>
  unfold bR at q
  cases hq:putS W1.S i o1 with
  | none=>rw[hq] at q; exact q.elim
  | some S3 =>
   rw[hq,du] at q;unfold bR at q
   cases hq2:putS S3 j o2 with
   | none=>rw[hq2] at q; exact q.elim
   | some S4=>rw[hq2] at q; exact q.elim
 | o1::o2::o3::os,q,t1 =>
 match vs,t1 with
 | [],t1=>exact t1.rep.elim
 | [_],t1=>obtain⟨_,_,_,_,h⟩:=t1.rep; exact h.elim
 | [_,_],t1=>obtain⟨_,_,_,_,_,_,_,_,h⟩:=t1.rep; exact h.elim
 | v::w::u::vs,t1 =>
 unfold bR at q
 cases hq:putS W1.S i o1 with
 | none=>rw[hq] at q; exact q.elim
 | some S3 =>
 rw[hq,du] at q;obtain⟨hi,rfl⟩:=m9 hq;obtain⟨W2,D2,s2,a2,e2,eh2,t2⟩:=t1.put ⟨_,s⟩ s1 a1 hi;unfold bR at q
 cases hq2:putS (W1.S.set i (some o1)) j o2 with
 | none=>rw[hq2] at q; exact q.elim
 | some S4 =>
 rw[hq2,du] at q;obtain⟨hj,rfl⟩:=m9 hq2;obtain⟨W3,D3,s3,a3,e3,eh3,t3⟩:=t2.put ⟨_,s⟩ s2 a2 (by rw[e2]; exact hj);unfold bR at q
 cases hq3:putS ((W1.S.set i (some o1)).set j (some o2)) k o3 with
 | none=>rw[hq3] at q; exact q.elim
 | some S5 =>
 rw[hq3,du] at q;obtain⟨hl,rfl⟩:=m9 hq3;obtain⟨W4,D4,s4,a4,e4,eh4,t4⟩:=t3.put ⟨_,s⟩ s3 a3 (by rw[e3,e2]; exact hl)
 match os,vs,q,t1 with
 | _::_,_,q,_=>unfold bR at q; exact q.elim
 | [],_::_,_,t1=>obtain⟨_,_,_,_,_,_,_,_,_,_,_,_,h⟩:=t1.rep; exact h.elim
 | [],[],q,_ =>
  unfold bR at q;refine⟨v,w,u,rfl,?_⟩;rw[←eh2,←eh3,←eh4];refine q (((σ.set i (some v)).set j (some w)).set k (some u)) W4 (fun l hl=>?_) s4 (by rw[e4,e3,e2]) a4;rw[cG fun(z:k=l)=>h3 (z▸hl),cG fun(z:j=l)=>h2 (z▸hl),cG fun(z:i=l)=>h1 (z▸hl)]
end
end Mp
namespace Mp
open PySem L2 Tw PyProof.Rows
section
variable {K:PySem.W.Frag} {ct:Tw.Ct} {E:Exn->L2.St->Hp->Prop} {B:Hp} {X:List Addr} {P Φ Φ0:Addr->Prop} {σ:L2.St} {W W' W1:Wd} {H:Hp} {v:V} {x:Val} {wr1 wr2:List Nat} {Q:VK} {i j k n m:Nat} {F:be}
def gJ {α:Type} (ix:List Nat) (l:List α):List α:=ix.filterMap fun i=>l[i]?
theorem CN:∀{vs:List V} {xs:List Val} (i:Nat),ViewL K ct P H vs xs->(vs[i]?=none/\xs[i]?=none)\/∃v x,vs[i]?=some v/\xs[i]?=some x/\bw K ct P H v x
 | [],[],_,_=>.inl ⟨rfl,rfl⟩
 | v::_,x::_,0,h=>.inr ⟨v,x,rfl,rfl,h.1⟩
 | _::_,_::_,i+1,h=>CN i h.2
 | [],_::_,_,h=>h.elim
 | _::_,[],_,h=>h.elim
theorem CI {vs:List V} {xs:List Val} (h:ViewL K ct P H vs xs):∀ix:List Nat,ViewL K ct P H (gJ ix vs) (gJ ix xs)
 | []=>trivial
 | i :: ix => by
  have r:=CI h ix
  rcases CN i h with⟨e1,e2⟩|⟨v,x,e1,e2,hv⟩
  ·show ViewL K ct P H ((i::ix).filterMap _) ((i::ix).filterMap _)
   rw[xS e1,xS e2];exact r
  ·show ViewL K ct P H ((i::ix).filterMap _) ((i::ix).filterMap _)
   rw[xR e1,xR e2];exact⟨hv,r⟩
theorem vals_at:∀{vs:List V} {us:List Value} (i:Nat),Vals vs us->(vs[i]?=none/\us[i]?=none)\/∃v u,vs[i]?=some v/\us[i]?=some u/\RelV v u
 | _,_,_,.nil=>.inl ⟨rfl,rfl⟩
 | _,_,0,.cons r _=>.inr ⟨_,_,rfl,rfl,r⟩
 | _,_,i+1,.cons _ r=>vals_at i r
theorem CU {vs:List V} {us:List Value} (h:Vals vs us):∀ix:List Nat,Vals (gJ ix vs) (gJ ix us)
 | []=>.nil
 | i :: ix => by
  have r:=CU h ix
  rcases vals_at i h with⟨e1,e2⟩|⟨v,x,e1,e2,hv⟩
  ·show Vals ((i::ix).filterMap _) ((i::ix).filterMap _)
   rw[xS e1,xS e2];exact r
  ·show Vals ((i::ix).filterMap _) ((i::ix).filterMap _)
   rw[xR e1,xR e2];exact .cons hv r
theorem CO:∀{vs us:List V} {xs ys:List Val},ViewL K ct P H vs xs->ViewL K ct P H us ys->ViewL K ct P H (vs++us) (xs++ys)
 | [],_,[],_,_,h=>h
 | _::_,_,_::_,_,h,h'=>⟨h.1,CO h.2 h'⟩
 | [],_,_::_,_,h,_=>h.elim
 | _::_,_,[],_,h,_=>h.elim
theorem OI {fd:FuncData} {ps:List Str} {ks:List Str} {ix:List Nat} (h:∀(s:Shared) (us ws:List Value),us.length=n->ws.length=ks.length->BindsTo s fd ⟨us,ks.zip ws⟩ (ps.zip (gJ ix (us++ws)))) :
  KBn K fd ps n ks (fun us ws=>gJ ix (us++ws)) (fun vs zs=>gJ ix (vs++zs)):=⟨fun s us ws _=>h s us ws,fun r r'=>CU (r.append r') ix⟩
def eO (ix:List Nat) (n m:Nat) (F:be) (a b:Af):Ef:=fun S=>(a S).bind fun xs S1=>(b S1).bind fun ys S2=>if xs.length=n/\ys.length=m then (match F (aF (gJ ix (xs++ys))) with
  | .ok r _=>.ok r S2
  | .ex _ _=>.no
  | .no=>.no) else .no
theorem KP {ix:List Nat} {a b:Af} {EE:XK} (q:tE K ct E (eO ix n m F a b) [] (wr1++wr2) σ H Q):Tw.zn n m (bh K ct [] F) (fun vs zs=>gJ ix (vs++zs)) EE (tA K ct E a wr1) (tA K ct E b wr2) σ H Q:=by
 obtain⟨B,X,Φ0,W,rfl,s,q⟩:=q;unfold eO at q;refine⟨B,X,Φ0,W,rfl,s,?_⟩
 cases ha:a W.S with
 | no=>rw[ha] at q; exact q.elim
 | ex e S'=>rw[ha] at q; exact fun W' s' e' a'=>q W' s' e' (a'.mono fun k hk=>au _ hk)
 | ok xs S1 =>
 rw[ha,Out.bind_ok] at q;intro vs W1 s1 e1 a1 v1;subst e1;refine⟨B,X,Φ0,W1,rfl,s1,?_⟩
 cases hb:b W1.S with
 | no=>rw[hb] at q; exact q.elim
 | ex e S'=>rw[hb] at q; exact fun W' s' e' a'=>q W' s' e' (a1.trans a')
 | ok ys S2 =>
 rw[hb,Out.bind_ok] at q;intro zs W2 s2 e2 a2 v2;subst e2
 by_cases hl:xs.length=n/\ys.length=m
 ·rw[if_pos hl] at q;refine⟨(fG v1).trans hl.1,(fG v2).trans hl.2,?_⟩;have vv:ViewL K ct W2.Φ W2.H (gJ ix (vs++zs)) (gJ ix (xs++ys)):=CI (CO (lO a2.ph (s1.keeps a2) v1) v2) ix
  have tl:TmpL K ct (wr1++wr2) W W2 (gJ ix (vs++zs)) (aF (gJ ix (xs++ys))) []:=⟨ny vv,b5,fun _ z=>(nomatch z),fun _ z=>(nomatch z),fun _ z=>(nomatch z)⟩
  refine xH (ks:=[]) s s2 (a1.trans a2) tl (fun i j hi=>by simp at hi) ?_
  cases hF:F (aF (gJ ix (xs++ys))) with
  | no=>rw[hF] at q; exact q.elim
  | ex e outs=>rw[hF] at q; exact q.elim
  | ok r outs =>
   rw[hF] at q;intro u W3 D3 s3 e3 a3 t3;rw[show wr1++wr2++([]:List (Option Nat)).filterMap id=wr1++wr2 from b6 _] at a3 t3;exact q u W3 D3 s3 e3 a3 t3
 ·rw[if_neg hl] at q; exact q.elim
end
end Mp
namespace Mp
open PySem L2 Tw
section
variable {K:PySem.W.Frag} {ct:Tw.Ct} {E:Exn->L2.St->Hp->Prop} {B:Hp} {X:List Addr} {Φ Φ0:Addr->Prop} {σ:L2.St} {W W' W1:Wd} {H:Hp} {v:V} {x:Val} {o:OV} {js wr pin ws:List Nat} {g:Ef} {k:Nat}
def gy (jsk:List Nat) (c:Ef) (js:List Nat) (a:Ef):Ef:=fun S=>(c S).bind fun kx S1=>(Out.of (kx.fzv.bind pr) S1).bind fun key _=>(a S1).bind fun o S2=>(Out.of (bO js o) S2).bind fun o' _=>.ok (.dict [(bM key,o')]) S2
def aZ (js:List Nat) (a:Ef) (g:Gf):Sf:=fun S=>(a S).bind fun o S1=>(Out.of (aI js o) S1).bind fun x _=>(Out.of (g x S1) S1).bind fun S2 _=>.ok .nx S2
theorem vA {D:Ends} {a:Ef} {g:Gf} (q:tS K ct E pin (aZ js a g) (wr++ws) D σ H):tAsg (tE K ct E a js wr) (tG K ct pin g ws) D σ H:=by
 obtain⟨B,X,Φ0,W,rfl,s,q⟩:=fT.mp q;unfold aZ at q;refine⟨B,X,Φ0,W,rfl,s,?_⟩
 cases ha:a W.S with
 | no=>rw[ha] at q; exact q.elim
 | ex e S'=>rw[ha] at q; exact fun W' s' e' a'=>q σ W' s' e' (a'.mono fun k hk=>au _ hk)
 | ok o S1 =>
 rw[ha,Out.bind_ok] at q;intro v W1 D1 s1 e1 a1 t1;subst e1
 cases hx:aI js o with
 | none=>rw[hx] at q; exact q.elim
 | some x =>
 rw[hx,Out.of_some,Out.bind_ok] at q;obtain⟨Φ',s1',a1',v1⟩:=jt s s1 a1 t1 hx
 cases hg:g x W1.S with
 | none=>rw[hg] at q; exact q.elim
 | some S2 =>
 rw[hg,Out.of_some,Out.bind_ok] at q;exact⟨B,X,Φ0,{ W1 with Φ:=Φ' },x,S2,rfl,s1',v1,hg,fun σ' W' pe s' e' eh _ st _=>q σ' W' pe s' e' (a1'.trans st)⟩
def eZ:Sf:=fun _=>.no
theorem Kk {D:Ends} (q:tS K ct E pin eZ [] D σ H):tNever D σ H:=by
 obtain⟨B,X,Φ0,W,rfl,s,q⟩:=fT.mp q;exact q
end
end Mp
namespace Mp
open PySem L2 Tw
def dj (js wr:List Nat):Bool:=js.all fun k=>!wr.contains k
theorem iV {js wr:List Nat} (h:dj js wr=true):∀k∈js,k∉wr:=fun k hk hw=>by
 have z:=dv.mp h k hk;rw[List.contains_iff_mem.mpr hw] at z
 cases z
def sb (ws vs:List Nat):Bool:=ws.all fun k=>vs.contains k
theorem oA {ws vs:List Nat} (h:sb ws vs=true):∀k∈ws,k∈vs:=fun k hk=>List.contains_iff_mem.mp (dv.mp h k hk)
theorem gC {i:Nat} {pin:List Nat} (h:pin.contains i=false):i∉pin:=fun z=>by rw[List.contains_iff_mem.mpr z] at h; cases h
def si (s:Str):Bool:=PyData.strOk s && decide (s.length<bL)
theorem Ds {s:Str} (h:si s=true):ia s:=by
 unfold si at h;rw[bN] at h;exact⟨h.1,iY (gY (of_decide_eq_true h.2))⟩
def CV (v:V) (x:Val):Prop:=∀(K:PySem.W.Frag) (ct:Tw.Ct) (P:Addr->Prop) (H:Hp),bw K ct P H v x
theorem Bh {i:Int}:CV (.int i) (.int i):=fun _ _ _ _=>rfl
theorem Q5 {b:Bool}:CV (.bl b) (.bool b):=fun _ _ _ _=>rfl
theorem Q4:CV .non .none:=fun _ _ _ _=>rfl
theorem Q3 {s:Str} (h:si s=true:=by decide +kernel):CV (.str s) (.str s):=fun _ _ _ _=>⟨rfl,Ds h⟩
theorem gO {X:Cx} {e:Stmt} {t t':TS} (h:PS X e t) (m:∀D σ H,t' D σ H->t D σ H):PS X e t':=⟨fun pins s σ H D I q=>h.run pins s σ H D I (m D σ H q)⟩
theorem Ec {X:Cx} {e:List Stmt} {t t':TS} (h:PSs X e t) (m:∀D σ H,t' D σ H->t D σ H):PSs X e t':=⟨fun pins s σ H D I q=>h.run pins s σ H D I (m D σ H q)⟩
theorem wj {X:Cx} {e:Expr} {t t':TT} (h:PT X e t) (m:∀σ H Q,t' σ H Q->t σ H Q):PT X e t':=⟨fun pins s σ H Q I q=>h.run pins s σ H Q I (m σ H Q q)⟩
theorem DW {X:Cx} {e:Expr} {t t':TT} (h:PW X e t) (m:∀σ H Q,t' σ H Q->t σ H Q):PW X e t':=⟨fun wh pins s σ H Q I q=>h.run wh pins s σ H Q I (m σ H Q q)⟩
theorem Mf {X:Cx} {e:List Expr} {t t':TT} (h:PTs X e t) (m:∀σ H Q,t' σ H Q->t σ H Q):PTs X e t':=⟨fun pins s σ H Q I q=>h.run pins s σ H Q I (m σ H Q q)⟩
theorem El {X:Cx} {e:Expr} {t t':TG} (h:PG X e t) (m:∀v σ H Q,t' v σ H Q->t v σ H Q):PG X e t':=⟨fun pins s σ H v u Q I r q=>h.run pins s σ H v u Q I r (m v σ H Q q)⟩
theorem Ek {X:Cx} {e:List Expr} {t t':TGs} (h:PGs X e t) (m:∀v σ H Q,t' v σ H Q->t v σ H Q):PGs X e t':=⟨fun pins s σ H v u Q I r q=>h.run pins s σ H v u Q I r (m v σ H Q q)⟩
theorem Eg {X:Cx} {e:Option Expr} {t t':TO} (h:PO X e t) (m:∀σ H Q,t' σ H Q->t σ H Q):PO X e t':=⟨fun pins s σ H Q I q=>h.run pins s σ H Q I (m σ H Q q)⟩
theorem wo {X:Cx} {tg e:Expr} {t t':TI} (h:PI X tg e t) (m:∀σ H R,t' σ H R->t σ H R):PI X tg e t':=⟨fun pins s σ H R I q=>h.run pins s σ H R I (m σ H R q)⟩
theorem Mx {X:Cx} {e:Expr} {t1 t2:TE} (h1:PE X e t1) (h2:PE X e t2):PE X e (fun σ H Q=>t1 σ H Q\/t2 σ H Q):=⟨fun pins s σ H Q I q=>q.elim (h1.run pins s σ H Q I) (h2.run pins s σ H Q I)⟩
section
variable {E:Exn->St->Hp->Prop} {X:Cx} {K:PySem.W.Frag} {ct:Tw.Ct} {e tg:Expr} {es:List Expr} {i j k n m:Nat} {v:V} {x:Val} {js wr js1 wr1 js2 wr2 js3 wr3 pin ws ws1 ws2 vs io:List Nat} {a b c:Ef} {fa ga:Af} {r r':R2} {g g2:OV->OV->Option OV} {g1:OV->Option OV} {F:be} {p:List PStep} {st:Stmt} {sts:List Stmt} {pos:Pos}
theorem HM (h:PE X e (tVar i)):PE X e (tE K ct E (ac i) [i] []):=cr h fun _ _ _=>JU
theorem HY (h:PE X e (tVar i)):PE X e (tE K ct E (dY i) [] [i]):=cr h fun _ _ _=>Kz
theorem Ca (h:PE X e (tVar i)):PE X e (tE K ct E (cP i) [] [i]):=cr h fun _ _ _=>Ko
theorem pL (h:PE X e (tC v)) (hv:CV v x):PE X e (tE K ct E (eC x) [] []):=cr h fun _ _ _=>KN fun W=>hv K ct W.Φ W.H
theorem bz (h:PE X e (tOp r (tE K ct E a js1 wr1) (tE K ct E b js2 wr2))) (hr:cf K ct r g) (hd:dj js1 wr2=true:=by decide):PE X e (tE K ct E (ae g a b) [] (wr1++wr2)):=cr h fun _ _ _=>C9 hr (iV hd)
theorem HZ (h:PE X e (tChain r r' (tE K ct E a js1 wr1) (tE K ct E b js2 wr2) (tE K ct E c js3 wr3))) (h1:cf K ct r g) (h2:cf K ct r' g2) (d1:dj js1 wr2=true:=by decide) (d2:dj js2 wr3=true:=by decide):PE X e (tE K ct E (fq g g2 a b c) [] (wr1++(wr2++wr3))) :=
 cr h fun _ _ _=>KO h1 h2 (iV d1) (iV d2)
theorem HQ (h:PE X e (tRevL K (tE K ct E a js wr))):PE X e (tE K ct E (aC qI a) [] wr):=cr h fun _ _ _=>J7
theorem cI {r:List V->Hp->VK->Prop} (h:PE X e (tCB r (tCons (tE K ct E a js wr) tNil))) (hr:hW K ct r g1):PE X e (tE K ct E (aC g1 a) [] wr):=cr h fun _ _ _=>KQ hr
theorem rN {U:String} (h:PE X e (tCB (wf K) (tCons (tE K ct E a js wr) (tCons (tC (.ty U)) tNil)))) (hU:qz U=true):PE X e (tE K ct E (aC (jD U) a) [] wr):=cr h fun _ _ _=>Ku hU
theorem yo {T:String} {r:V->List V->Hp->VK->Prop} (h:PE X e (tBM K T r (tE K ct E a js1 wr1) (tCons (tE K ct E b js2 wr2) tNil))) (hr:xO K ct T r g) (hd:dj js1 wr2=true:=by decide):PE X e (tE K ct E (dD g a b) [] (wr1++wr2)):=cr h fun _ _ _=>KS hr (iV hd)
theorem yq (h:PE X e (tBM K "list" rAppend (dJ K (tVar k) p) (tCons (tE K ct E a js wr) tNil))) (ok:fO K ct p) (hn:wr.contains k=false:=by decide):PE X e (tE K ct E (cW k p js a) [] (wr++[k])):=cr h fun _ _ _=>KU ok (gC hn)
theorem x_extend (h:PE X e (tBM K "list" rExtend (dJ K (tVar k) p) (tCons (tE K ct E a js wr) tNil))) (ok:fO K ct p) (hn:wr.contains k=false:=by decide) (hj:js.contains k=false:=by decide):PE X e (tE K ct E (dz k p a) [] (wr++[k])):=cr h fun _ _ _=>KI ok (gC hn) (gC hj)
theorem B7 (h:PE X e (tBM0 K "list" rPop (dJ K (tVar k) p))) (ok:fO K ct p):PE X e (tE K ct E (cZ k p) [] [k]):=cr h fun _ _ _=>Ka ok
theorem c9 (h:PE X e (tTup (tA K ct E fa wr))):PE X e (tE K ct E (cj fa) [] wr):=cr h fun _ _ _=>JW
theorem fF (h:PE X e (tLst (tA K ct E fa wr))):PE X e (tE K ct E (cM fa) [] wr):=cr h fun _ _ _=>Ks
theorem yk (h:PE X e tDNewK):PE X e (tE K ct E dZ [] []):=cr h fun _ _ _=>KL
structure XP (K:PySem.W.Frag) (ct:Tw.Ct) (E:Exn->St->Hp->Prop) (d:Df) (wr:List Nat) (trs:List (TE×TE)):Prop where
 to:∀σ H Q,r0 K ct E d wr σ H Q->tPairs trs σ H Q
theorem yi:XP K ct E d7 [] []:=⟨fun _ _ _=>Q1⟩
theorem lE {s:Str} {d:Df} {trs:List (TE×TE)} (hr:XP K ct E d wr2 trs) (hs:si s=true:=by decide +kernel):XP K ct E (cQ s js a d) (wr1++wr2) ((tC (.str s),tE K ct E a js wr1)::trs):=⟨fun _ _ _ q=>Q2 (Ds hs) hr.to q⟩
theorem yn {d:Df} {trs:List (TE×TE)} (h:PE X e (tDisp trs)) (hp:XP K ct E d wr trs):PE X e (tE K ct E (dE d) [] wr):=cr h fun _ _ _=>KM hp.to
theorem yr (h:PE X e (tAndV (tE K ct E a js1 wr1) (tE K ct E b js2 wr2))):PE X e (tE K ct E (dF a b) js2 (wr1++wr2)):=cr h fun _ _ _=>KV
theorem HR (h:PE X e (tOrV (tE K ct E a js1 wr1) (tE K ct E b js2 wr2))):PE X e (tE K ct E (fh a b) js2 (wr1++wr2)):=cr h fun _ _ _=>Kf
theorem HS (h:PE X e (tNotV (tE K ct E a js wr))):PE X e (tE K ct E (fj a) [] wr):=cr h fun _ _ _=>Ki
theorem x_if {c:Tf} {wc:List Nat} (h:PE X e (tIf (tT K ct E c wc) (tE K ct E a js1 wr1) (tE K ct E b js2 wr2))):PE X e (tE K ct E (dX c a b) (js1++js2) (wc++(wr1++wr2))):=cr h fun _ _ _=>Kx
theorem rO {s:Str} (h:PE X e (tFld K (tE K ct E a js wr) s)) (fo:og K ct s):PE X e (tE K ct E (jd s a) js wr):=cr h fun _ _ _=>KD fo
theorem rJ {l h':Env->Out (Option Int)} (h:PE X e (L2.tSl (v9 K) (tE K ct E a js wr1) (tO K ct E l wr2) (tO K ct E h' wr3))) (h1:dj js (wr2++wr3)=true:=by decide):PE X e (tE K ct E (cY a l h') [] (wr1++(wr2++wr3))):=cr h fun _ _ _=>JZ (iV h1)
theorem rG {eo:Option Expr} (h:PO X eo tNoPart):PO X eo (tO K ct E0 c7 []):=Eg h fun _ _ _=>Kj
theorem rE {eo:Option Expr} (h:PO X eo (tPart (tE K ct E0 a js wr))):PO X eo (tO K ct E0 (c5 a) wr):=Eg h fun _ _ _=>Kb
theorem Cc {cl:Str} {neg:Bool} (h:PE X e (tOp (zV (ct cl) (bh K ct [] F) neg) (tE K ct E a js1 wr1) (tE K ct E b js2 wr2))):PE X e (tE K ct E (o2 js1 js2 a b (kIn cl F neg)) [] (wr1++wr2)):=cr h fun _ _ _=>Kv
theorem aY:PA X [] (tA K ct E az []):=qh pa_nil fun _ _ _=>zj
theorem HK (h:PA X es (tCons (tE K ct E a js wr1) (tA K ct E ga wr2))):PA X es (tA K ct E (ah js a ga) (wr1++wr2)):=qh h fun _ _ _=>Db
theorem HD {kws:List Keyword} (h:PK X kws tNil):PK X kws (tA K ct E az []):=⟨fun pos pins s σ H Q I q=>h.run pos pins s σ H Q I (zj q)⟩
theorem HE {kws:List Keyword} (h:PK X kws (tCons (tE K ct E a js wr1) (tA K ct E ga wr2))):PK X kws (tA K ct E (ah js a ga) (wr1++wr2)):=⟨fun pos pins s σ H Q I q=>h.run pos pins s σ H Q I (Db q)⟩
theorem bQ:PA X [] (eD K ct E aS [] []):=qh pa_nil fun _ _ _=>Rx
theorem lI {go:Cf} {ks:List (Option Nat)} (h:PA X es (tCons (tVar k) (eD K ct E go ks wr))):PA X es (eD K ct E (cK k go) (some k::ks) ([k]++wr)):=qh h fun _ _ _=>Rz
theorem HI {go:Cf} {ks:List (Option Nat)} (h:PA X es (tCons (tE K ct E a js wr1) (eD K ct E go ks wr2))):PA X es (eD K ct E (aq js a go) (none::ks) (wr1++wr2)):=qh h fun _ _ _=>RA
theorem rH {go:Cf} {ks:List (Option Nat)} (h:PA X es (tCons (tE K ct E a js wr1) (eD K ct E go ks wr2))):PA X es (eD K ct E (de js a go) (none::ks) (wr1++wr2)):=qh h fun _ _ _=>Ry
theorem H8 {fc:Cf} {ks:List (Option Nat)} {EE:XK} (h:PE X e (tCall (bh K ct io F) [] EE (eD K ct E fc ks wr))):PE X e (tE K ct E (bo F fc ks io) [] (wr++ks.filterMap id)):=cr h fun _ _ _=>KR
theorem rM {cl mn:Str} {fc:Cf} {ks:List (Option Nat)} {EE:XK} (h:PE X e (tMeth (ct cl) mn (bh K ct io F) [] EE (tE K ct E a js wr1) (eD K ct E fc ks wr2))):PE X e (tE K ct E (di cl mn js a F fc ks io) [] (wr1++wr2++ks.filterMap id)):=cr h fun _ _ _=>Kp
theorem Cb {cl:Str} {EE:XK} (h:PE X e (tMake (ct cl) (bh K ct [0] F) [] EE (tA K ct E fa wr))):PE X e (tE K ct E (dW cl F fa) [] wr):=cr h fun _ _ _=>Kr
theorem H0 {ix:List Nat} {EE:XK} (h:PE X e (Tw.zn 0 m (bh K ct [] F) (fun vs zs=>gJ ix (vs++zs)) EE tNil (tA K ct E ga wr2))):PE X e (tE K ct E (eO ix 0 m F az ga) [] ([]++wr2)):=cr h fun σ H Q q=>zj (KP (EE:=EE) q)
theorem i5 (h:PT X e (tB (tE K ct E a js wr))):PT X e (tT K ct E (eB a) wr):=wj h fun _ _ _=>zh
theorem oj {u w:Tf} (h:PW X e (tAnd (tT K ct E u wr1) (tT K ct E w wr2))):PW X e (tT K ct E (cE u w) (wr1++wr2)):=DW h fun _ _ _=>KH
theorem mP {u w:Tf} (h:PW X e (tOr (tT K ct E u wr1) (tT K ct E w wr2))):PW X e (tT K ct E (cD u w) (wr1++wr2)):=DW h fun _ _ _=>KF
theorem jM {u:Tf} (h:PT X e (tNot (tT K ct E u wr))):PT X e (tT K ct E (cb u) wr):=wj h fun _ _ _=>KG
theorem jn:PTs X [] (tT K ct E bP []):=Mf pts_nil fun _ _ _=>JS
theorem jN (h:PG X e (gName i)) (hp:pin.contains i=false:=by decide):PG X e (tG K ct pin (gN i) [i]):=El h fun _ _ _ _=>xh (gC hp)
theorem lG (h:PGs X [] gNil):PGs X [] (kB K ct pin jc []):=Ek h fun _ _ _ _=>Qk
theorem HH {gf:Gf} {gs:iM} (h:PGs X es (gCons (tG K ct pin gf ws1) (kB K ct pin gs ws2))):PGs X es (kB K ct pin (dS gf gs) (ws1++ws2)):=Ek h fun _ _ _ _=>Ql
theorem lH {gs:iM} (h:PG X e (L2.gTup K n (kB K ct pin gs ws))):PG X e (tG K ct pin (gT n gs) ws):=El h fun _ _ _ _=>Qj
theorem fR (h:PI X tg e (iS K (tE K ct E a js wr))):PI X tg e (tI K ct E (cy a) js wr):=wo h fun _ _ _=>PR
theorem HF (h:PI X tg e (iZ K (tA K ct E fa wr))):PI X tg e (tI K ct E (kT fa) [] wr):=wo h fun _ _ _=>PM
theorem i6 (h:PI X tg e (iRng1 (tA K ct E fa wr))):PI X tg e (tI K ct E (dP fB fa) [] wr):=wo h fun _ _ _=>PP
theorem gR {it:Af} {gf:Gf} {t:Tf} {wri wc wa:List Nat} (h:PE X e (tLc (tI K ct E it js wri) (tG K ct [] gf ws) (tT K ct E0 t wc) (tE K ct E0 a js2 wa) vs)) (hw:sb ws vs=true:=by decide) (hj:dj js (wc++wa)=true:=by decide):PE X e (tE K ct E (cu it gf t js2 a vs) [] (wri++(wc++wa))) :=
 cr h fun _ _ _=>zk (oA hw) (iV hj)
theorem aO:PSs X [] (tS K ct E pin aj []):=Ec pss_nil fun _ _ _=>JY
theorem ak {u w:Sf} (h1:PS X st (tS K ct E pin u wr1)) (h2:PSs X sts (tS K ct E pin w wr2)):PSs X (st::sts) (tS K ct E pin (af u w) (wr1++wr2)):=Ec (pss_cons h1 h2) fun _ _ _=>J6
theorem B3:PS X st (tS K ct E pin eZ []):=gO ps_never fun _ _ _=>Kk
theorem lC (h:PS X st (tAsg (tE K ct E a js wr) (gName i))) (hp:pin.contains i=false:=by decide):PS X st (tS K ct E pin (ci i js a) (wr++[i])):=gO h fun _ _ _=>C7 (gC hp)
theorem Hz {it:Af} {gf:Gf} {t:Tf} {wri wc wa:List Nat} (h:PS X st (tAsg (tLc (tI K ct E it js wri) (tG K ct [] gf ws) (tT K ct E0 t wc) (tE K ct E0 a js2 wa) vs) (gName i))) (hp:pin.contains i=false:=by decide) (hw:sb ws vs=true:=by decide) (hj:dj js (wc++wa)=true:=by decide) :
  PS X st (tS K ct E pin (ci i [] (cu it gf t js2 a vs)) (wri++(wc++wa)++[i])):=gO h fun _ _ _ q=>zk (oA hw) (iV hj) (C7 (js:=[]) (gC hp) q)
theorem rD {gf:Gf} (h:PS X st (tAsg (tE K ct E a js wr) (tG K ct pin gf ws))):PS X st (tS K ct E pin (aZ js a gf) (wr++ws)):=gO h fun _ _ _=>vA
theorem pI {fc:Cf} {ks:List (Option Nat)} (h:PS X st (tPar i j (eD K ct E fc ks wr))) (h1:pin.contains i=false:=by decide) (h2:pin.contains j=false:=by decide):PS X st (tS K ct E pin (bY [i,j] fc) (wr++[i]++[j])):=gO h fun _ _ _=>Ke (gC h1) (gC h2)
theorem yg {fc:Cf} {ks:List (Option Nat)} (h:PS X st (tPar3 i j k (eD K ct E fc ks wr))) (h1:pin.contains i=false:=by decide) (h2:pin.contains j=false:=by decide) (h3:pin.contains k=false:=by decide):PS X st (tS K ct E pin (bY [i,j,k] fc) (wr++[i]++[j]++[k])):=gO h fun _ _ _=>Kd (gC h1) (gC h2) (gC h3)
theorem cH (h:PS X st (tRet (tE K ct E a js wr))):PS X st (tS K ct E pin (aX js a) wr):=gO h fun _ _ _=>J8
theorem pK (h:PS X st (tDrop (tE K ct E a js wr))):PS X st (tS K ct E pin (cC a) wr):=gO h fun _ _ _=>KJ
theorem gk {t:Tf} {u w:Sf} {wc:List Nat} (h:PS X st (tIfS (tT K ct E t wc) (tS K ct E pin u wr1) (tS K ct E pin w wr2))):PS X st (tS K ct E pin (bj t u w) (wc++(wr1++wr2))):=gO h fun _ _ _=>Kw
theorem BY (n:Nat) {t:Tf} {u:Sf} (h:PS X st (tWhile (tT K ct E t wr1) (tS K ct E pin u wr2))):PS X st (tS K ct E pin (jp t u n) (wr1++wr2)):=gO h fun _ _ _=>JT
theorem ii {it:Af} {gf:Gf} {u:Sf} {wri wrb:List Nat} (h:PS X st (tFor (tI K ct E it js wri) (tG K ct pin gf ws) (tS K ct E pin u wrb))) (hj:dj js (ws++wrb)=true:=by decide):PS X st (tS K ct E pin (cT it gf u) (wri++(ws++wrb))):=gO h fun _ _ _=>KC (iV hj)
theorem HA (h:PS X st (sDPut (dJ K (tVar k) p) (tE K ct E b js2 wr2) (tE K ct E a js wr1))) (ok:fO K ct p) (jS:wr1.contains k=false:=by decide) (gD:wr2.contains k=false:=by decide):PS X st (tS K ct E pin (dL k p js a b) (wr1++wr2++[k])):=gO (Mg h) fun _ _ _=>J9 ok (gC jS) (gC gD)
theorem HC (h:PS X st (tAsg (tE K ct E a js wr1) (L2.gSub (dJ K (tVar k) p) (tE K ct E b js2 wr2) rSetL))) (ok:fO K ct p) (gD:wr2.contains k=false:=by decide):PS X st (tS K ct E pin (sIx k p js a b) (wr1++wr2++[k])):=gO h fun _ _ _=>J0 ok (gC gD)
theorem B4 {s:Str} (h:PS X st (sFld K (dJ K (tVar k) p) (tE K ct E a js wr) s)) (ok:fO K ct p) (fo:og K ct s):PS X st (tS K ct E pin (eE k p s js a) (wr++[k])):=gO h fun _ _ _=>J4 ok fo
end
section
variable {P:Program} {w:World} {K:PySem.W.Frag} {mg:Str->Option Value} {base:Heap} {x m qual:Str} {st:Stmt} {N ps:List Str} {k np n:Nat} {C:Addr} {ct:Tw.Ct} {io pin:List Nat} {g:Sf}
def qV (P:Program) (w:World) (K:PySem.W.Frag) (mg:Str->Option Value) (base:Heap) (ct:Tw.Ct) (k:Nat) (qual:Str) (st:Stmt) (N:List Str) (pin:List Nat) (g:Sf):Prop :=
 ∀(f:Addr) (cdv:Value) (A:Around) (outer:List PySem.Env) (s:Shared) (H:Hp) (E:XK),A.guards=some []->Room k (A.deeper (PyProof.Rows.envOfC qual (defScope st) s.heap.objs.size f cdv))->∃wr,PSs (Hs P w K mg base N qual st f cdv A outer s H E) (defBody st) (tS K ct E0 pin g wr)
theorem xJ (b:qV P w K mg base ct k qual st N pin g) (hN:N.length=n) (hp:np<=n) (hio:sb io pin=true) (hlt:(io.all fun i=>decide (i<np))=true) (hnd:io.Nodup):xW P w K mg base k qual st N (bh K ct io (cm np n io g)):=fun f cdv A outer s H vs Q E hg hr h=>by
 obtain⟨wr,t⟩:=b f cdv A outer s H E hg hr;exact⟨_,t,RC (pin:=pin) hN hp (oA hio) (fun i hi=>of_decide_eq_true (dv.mp hlt i hi)) hnd h⟩
theorem Rw (D:Def K mg x st ps) (S:FnScope N ps (defScope st)) (hps:ps.length=np) (hp:jf (defArgs st)=ps) (hN:N.length=n) (hn:np<=n) (hio:sb io pin=true) (hlt:(io.all fun i=>decide (i<np))=true) (hnd:io.Nodup) (b:qV P w K mg base ct k x st N pin g):Cal P w K mg base (k+1) x (bh K ct io (cm np n io g)) :=
 Rv D S (fun vs H Q E h=>by rw[AA vs H Q E h,hps]) (xJ b hN hn hio hlt hnd) hp
theorem NY (D:MDef K C m qual st ps) (S:FnScope N ps (defScope st)) (hps:ps.length=np) (hp:jf (defArgs st)=ps) (hN:N.length=n) (hn:np<=n) (hio:sb io pin=true) (hlt:(io.all fun i=>decide (i<np))=true) (hnd:io.Nodup) (b:qV P w K mg base ct k qual st N pin g):Met P w K mg base (k+1) C m (bh K ct io (cm np n io g)) :=
 NX D S (fun vs H Q E h=>by rw[AA vs H Q E h,hps]) (xJ b hN hn hio hlt hnd) hp
theorem N6 (D:IDef K mg x C qual st ps) (S:FnScope N ps (defScope st)) (hps:ps.length=np) (hp:jf (defArgs st)=ps) (hN:N.length=n) (hn:np<=n) (hio:sb io pin=true) (hlt:(io.all fun i=>decide (i<np))=true) (hnd:io.Nodup) (b:qV P w K mg base ct k qual st N pin g):Mak P w K mg base (k+1) x C (bh K ct io (cm np n io g)) :=
 N4 D S (fun vs H Q E h=>by rw[AA vs H Q E h,hps]) (xJ b hN hn hio hlt hnd) hp
end
end Mp
namespace Mp
open PySem L2 Tw
section
variable {X:Cx} {K:PySem.W.Frag} {ct:Tw.Ct} {E:Exn->L2.St->Hp->Prop} {e:Expr} {i:Nat} {v:V} {x:Val} {js wr js1 wr1 js2 wr2 pin ws:List Nat} {a b f g:Ef} {r:R2} {g1 g2:OV->OV->Option OV} {σ:L2.St} {H:Hp} {Q:VK} {st:Stmt}
theorem Kg (q:tE K ct E (ae (fun x y=>(g1 x y).or (g2 x y)) a b) js wr σ H Q):tE K ct E (ae g1 a b) js wr σ H Q\/tE K ct E (ae g2 a b) js wr σ H Q:=by
 obtain⟨B,X,Φ0,W,rfl,s,q⟩:=q;unfold ae at q
 have go:∀{g:OV->OV->Option OV},(a W.S).bind (fun x S1=>(b S1).bind fun y S2=>Out.of ((g1 x y).or (g2 x y)) S2)=(a W.S).bind (fun x S1=>(b S1).bind fun y S2=>Out.of (g x y) S2)->tE K ct E (ae g a b) js wr σ W.H Q:=fun e=>by
  refine⟨B,X,Φ0,W,rfl,s,?_⟩;unfold ae;rw[←e]; exact q
 cases ha:a W.S with
 | no=>rw[ha] at q; exact q.elim
 | ex e S'=>exact .inl (go (by rw[ha]<;>rfl))
 | ok x S1 =>
  cases hb:b S1 with
  | no=>rw[ha,Out.bind_ok,hb] at q; exact q.elim
  | ex e S'=>exact .inl (go (by rw[ha,Out.bind_ok,Out.bind_ok,hb]<;>rfl))
  | ok y S2 =>
   cases hg:g1 x y with
   | some z=>exact .inl (go (by rw[ha,Out.bind_ok,Out.bind_ok,hb,Out.bind_ok,Out.bind_ok,hg]<;>rfl))
   | none=>exact .inr (go (by rw[ha,Out.bind_ok,Out.bind_ok,hb,Out.bind_ok,Out.bind_ok,hg]<;>rfl))
theorem HW (h1:PE X e (tOp (fun x y H Q=>rIxL K x y H Q\/rIxT K x y H Q\/rIxS x y H Q) (tE K ct E a js1 wr1) (tE K ct E b js2 wr2))) (h2:PE X e (tDGet (tE K ct E a js1 wr1) (tE K ct E b js2 wr2))) (hd:dj js1 wr2=true:=by decide):PE X e (tE K ct E (ae aP a b) js1 (wr1++wr2)) :=
 cr (Mx h1 h2) fun σ H Q q=>(Kg (g1:=fun a b=>(qM a b).or ((xk a b).or (qL a b))) (g2:=xn) q).imp (zi (Nt.or (Nq.or Nr)) (iV hd)) (zi (r:=DU) Nu (iV hd))
theorem Pc:IxR X (fun x y H Q=>rIxL X.K x y H Q\/rIxT X.K x y H Q\/rIxS x y H Q):=ix_list.or (ix_tup.or ix_str)
theorem zm {Q':VK} (h:∀v H,Q v H->Q' v H) (q:tE K ct E f js wr σ H Q):tE K ct E f js wr σ H Q':=by
 obtain⟨B,X,Φ0,W,rfl,s,q⟩:=q;refine⟨B,X,Φ0,W,rfl,s,?_⟩
 cases hf:f W.S with
 | no=>rw[hf] at q; exact q
 | ex e S'=>rw[hf] at q; exact q
 | ok o S'=>rw[hf] at q; exact fun v W' D s' e' a' t'=>h _ _ (q v W' D s' e' a' t')
theorem fQ (h:PS X st (tAsg (tE K ct E a js wr) (gName i))) (hp:pin.contains i=false:=by decide):PS X st (tS K ct E pin (aZ js a (gN i)) (wr++[i])):=gO h fun D σ H q=>zm (fun v H z=>xh (gC hp) z) (vA q)
theorem BZ {it:Af} {gf:Gf} {t:Tf} {wri wc wa vs:List Nat} (h:PS X st (tAsg (tLc (tI K ct E it js wri) (tG K ct [] gf ws) (tT K ct E0 t wc) (tE K ct E0 a js2 wa) vs) (gName i))) (hp:pin.contains i=false:=by decide) (hw:sb ws vs=true:=by decide) (hj:dj js (wc++wa)=true:=by decide) :
  PS X st (tS K ct E pin (aZ [] (cu it gf t js2 a vs) (gN i)) (wri++(wc++wa)++[i])):=gO h fun D σ H q=>zk (oA hw) (iV hj) (zm (fun v H z=>xh (gC hp) z) (vA (js:=[]) q))
end
def uH (l:List (Str×Addr)) (d:Addr):Str->Addr:=fun s=>(l.lookup s).getD d
end Mp
namespace Mp
open PySem L2 Tw
section
variable {K:PySem.W.Frag} {ct:Tw.Ct} {W W0:Wd} {H H':Hp} {wr:List Nat}
theorem TmpL.grow {D:List Addr} {vs:List V} {os:List OV} (t:TmpL K ct wr W0 W vs os D) (e:Same W.H H'):TmpL K ct wr W0 { W with H:=H' } vs os D:=by
 refine⟨?_,t.nd,t.nph,t.dj,t.src⟩;refine ORepL.keep (fun _ z=>z) (fun b u h _=>⟨u,e b u h,.inl rfl⟩) os (fun b hb=>?_) t.rep;obtain⟨u,h,_⟩:=ORepL.live os t.rep b hb
 show H' b=W.H b
 rw[h]; exact e b u h
end
section
variable {X:Cx} {K:PySem.W.Frag} {ct:Tw.Ct} {e:Expr} {a b:Ef} {js js1 wr1 js2 wr2:List Nat} {r:R2} {g:OV->OV->Option OV}
theorem cN {E:Exn->L2.St->Hp->Prop} (h:PT X e (tTest (tOp r (tE K ct E a js1 wr1) (tE K ct E b js2 wr2)))) (hr:cf K ct r g) (hd:dj js1 wr2=true:=by decide):PT X e (tT K ct E (eB (ae g a b)) (wr1++wr2)):=wj h fun σ H Q q=>C9 hr (iV hd) (zh (js:=[]) q)
end
end Mp
namespace Mp
open PySem L2 Tw
def r8 (K:PySem.W.Frag):Sp:=fun vs H Q _=>∃(a:Addr) (ns:List Int),vs=[.ref a]/\SqL K H a (ns.map V.int)/\ns.length<=63/\∀H',Q (.bl true) H'
def Holds (F:be):Prop:=∀ns:List Int,ns.length<=63->∃outs,F [.fz (.scr ns)]=.ok (.fz (.bool true)) outs
section
variable {P:Program} {w:World} {K:PySem.W.Frag} {mg:Str->Option Value} {base:Heap} {x:Str} {st:Stmt} {N ps:List Str} {k np n:Nat} {ct:Tw.Ct} {io:List Nat} {g:Sf} {F:be} {f:Addr} {fd:FuncData}
theorem Ot {vs:List V} {H:Hp} {Q:VK} {E:XK} (h:Holds F) (s:r8 K vs H Q E):bh K ct [] F vs H Q E:=by
 obtain⟨a,ns,rfl,hs,hl,q⟩:=s;obtain⟨outs,hF⟩:=h ns hl;refine⟨fun b=>b=a/\H a≠none,[.fz (.scr ns)],[],⟨[],[],rfl,⟨⟨a,rfl,?_,dH hl (by decide)⟩,rfl⟩,rfl⟩,b5,fun _ z=>(nomatch z),fun b hb=>by rw[hb.1]; exact hb.2,?_⟩
 ·rcases hs with hs|hs
  ·refine .inl ⟨⟨rfl,?_⟩,hs⟩
   rcases hs with z|⟨o,z⟩<;>(rw[z]; exact fun z=>nomatch z)
  ·exact .inr (.inr hs)
 ·rw[hF];intro v H' Φ' Dr Do Pq;have e:v=.bl true:=Pq.rep.1;rw[e];exact q H'
theorem Qr (D:Fun K x x st f fd) (S:FnScope N ps (defScope st)) (hps:ps.length=1) (hN:N.length=n) (hn:1<=n) (b:qV P w K mg base ct k x st N [] g) (h:Holds (cm 1 n [] g)):FnG P w K mg base CX0 (k+1) f fd ps (r8 K) :=
 xr D S (fun vs H Q E z=>by obtain⟨a,ns,rfl,_⟩:=z; exact hps.symm) fun cdv A outer s H vs Q E hg hr z=>let ⟨t,h1,q⟩:=xJ (io:=[]) (np:=1) b hN hn rfl rfl b5 f cdv A outer s H vs Q E hg hr (Ot (ct:=ct) h z); ⟨t,h1.nox,q⟩
theorem Gk {l:List (Str×Addr)} {d:Addr} {hs:Str->Int} {s:Str} (h:∀a∈d::l.map (·.2),Cls K a/\NoAttr K a s):og K ⟨uH l d,hs⟩ s:=fun c=>by
 show Cls K (uH l d c)/\NoAttr K (uH l d c) s
 unfold uH
 cases e:l.lookup c with
 | none=>exact h d (ao ..)
 | some a =>
  refine h a (aE _ ?_)
  induction l with
  | nil=>cases e
  | cons q l ih =>
   rw[jX] at e;split at e
   ·cases e; exact ao ..
   ·exact aE _ (ih (fun a ha=>h a (by
     rcases aU.mp ha with z|z
     ·rw[z]; exact ao ..
     ·exact aE _ (aE _ z))) e)
theorem OE {ks:List Str} {ix:List Nat} {oc:Value} {od:Option Addr} {osl:Array (Option Value)} (hm:mg x=some (.ref f)) (lk:K.lookup f=some ⟨oc,od,.func fd,osl⟩) (h:∀(s:Shared) (us ws:List Value),us.length=n->ws.length=ks.length->BindsTo s fd ⟨us,ks.zip ws⟩ ((jf fd.params).zip (gJ ix (us++ws)))) :
  KFact K mg x n ks (fun vs zs=>gJ ix (vs++zs)):=⟨⟨f,fd,oc,od,osl,_,hm,lk,OI h⟩⟩
end
end Mp
namespace Mp
open PySem L2 Tw PySem.Builtin.Str PySem.StrLaws
def asc (s:Str):Bool:=s.cps.toList.all fun c=>decide (c<128)
mutual
def nh:Val->Bool
 | .none=>true
 | .bool _=>true
 | .int i=>decide (i.natAbs.log2<60)
 | .str s=>asc s
 | .tup xs=>plainL xs
 | .lst xs=>plainL xs
 | _=>false
def plainL:List Val->Bool
 | []=>true
 | x::xs=>nh x && plainL xs
end
mutual
def mQ:Val->Nat
 | .none=>4
 | .bool _=>5
 | .int _=>61
 | .str s=>10 * s.length+2
 | .tup xs=>wtL xs+4
 | .lst xs=>wtL xs+4
 | _=>0
def wtL:List Val->Nat
 | []=>0
 | x::xs=>mQ x+2+wtL xs
end
theorem ou {a b:Str}:PyData.strOk (a++b)=(PyData.strOk a && PyData.strOk b):=by
 show(a.cps++b.cps).all _=_
 rw[Array.all_append]<;>rfl
theorem mV (s:String):PyData.strOk (Str.ofString s)=true:=by
 rw[Str.ofString_eq_toList]
 show(s.toList.map Char.toNat).toArray.all _=true
 rw[List.all_toArray,List.all_map,dv];intro c _;have:=c.valid;simp only[UInt32.isValidChar,Nat.isValidChar] at this
 show decide (c.toNat<0x110000)=true
 exact decide_eq_true (by show c.val.toNat<_; omega)
theorem LU:∀c:Nat,c<128->((reprChar 34 c).all (·<0x110000) && (reprChar 39 c).all (·<0x110000))=true:=by decide +kernel
theorem LS {q c:Nat} (hq:q=34\/q=39) (h:c<128):(reprChar q c).all (·<0x110000)=true:=by
 have:=LU c h;rw[bN] at this
 rcases hq with rfl|rfl
 ·exact this.1
 ·exact this.2
theorem DH (q:Nat) (hq:q=34\/q=39):∀(l:List Nat) (acc:Array Nat),acc.all (·<0x110000)=true->(∀c∈l,c<128)->(l.foldl (fun out c=>out++(reprChar q c).toArray) acc).all (·<0x110000)=true
 | [],_,h,_=>h
 | c::l,acc,h,hl=>by
  refine DH q hq l _ ?_ fun d hd=>hl d (aE _ hd)
  rw[Array.all_append,h,Bool.true_and,List.all_toArray];exact LS hq (hl c (ao ..))
theorem DG {s:Str} (h:asc s=true):PyData.strOk (reprText s)=true/\(reprText s).length<=10 * s.length+2:=by
 have h':∀c∈s.cps.toList,c<128:=fun c hc=>of_decide_eq_true (dv.mp h c hc)
 refine⟨?_,reprText_len s fun c hc=>mJ (h' c hc) (by decide)⟩
 have hq:reprQuote s=34\/reprQuote s=39:=by
  unfold reprQuote; split
  ·exact .inl rfl
  ·exact .inr rfl
 have hq':reprQuote s<0x110000:=by omega
 show((s.cps.foldl (fun out c=>out++(reprChar (reprQuote s) c).toArray) #[reprQuote s]).push (reprQuote s)).all _=true
 rw[Array.all_push,←Array.foldl_toList,DH (reprQuote s) hq s.cps.toList _ (by simpa using hq') h',Bool.true_and];exact decide_eq_true hq'
theorem Pp (i:Int) (h:i.natAbs.log2<60):PyData.strOk (Str.ofString (toString i))=true/\(Str.ofString (toString i)).length<=61:=by
 refine⟨mV _,?_⟩;have:=int_text_length_le (a:=i) (k:=60) (by decide) h;rw[Str.ofString_eq_toList]
 show((toString i).toList.map Char.toNat).toArray.size<=61
 rw[pA,aT];exact this
def Bv (ts:List Str):Prop:=∀t∈ts,PyData.strOk t=true
def oW:List Str->Nat
 | []=>0
 | t::ts=>t.length+2+oW ts
theorem C6:∀(ts:List Str) (k:Nat) (acc:Str),Bv ts->PyData.strOk acc=true->PyData.strOk (textFrom k acc ts)=true/\(textFrom k acc ts).length<=acc.length+oW ts
 | [],_,acc,_,h=>⟨h,bS _⟩
 | t :: ts, k, acc, ha, h => by
  have sep:PyData.strOk ((if k > 0 then ", " else "":String):Str)=true/\((if k > 0 then ", " else "":String):Str).length<=2:=by
   split
   ·exact⟨mV _,by decide +kernel⟩
   ·exact⟨mV _,by decide +kernel⟩
  have e:PyData.strOk (acc++(if k > 0 then ", " else "":String)++t)=true:=by
   rw[ou,ou,h,sep.1,ha t (ao ..)]<;>rfl
  obtain⟨h1,h2⟩:=C6 ts (k+1) _ (fun x hx=>ha x (aE _ hx)) e;refine⟨h1,dH h2 ?_⟩;rw[strLen_append,strLen_append];have:=sep.2
  show _<=acc.length+(t.length+2+oW ts)
  omega
theorem FO (sep:Str) (hs:PyData.strOk sep=true) (hl:sep.length=2):∀ts:List Str,Bv ts->PyData.strOk (Str.join sep ts)=true/\(Str.join sep ts).length<=oW ts
 | [],_=>⟨by show PyData.strOk Str.empty=true; decide +kernel,bS _⟩
 | [t],h=>⟨h t (ao ..),by show t.length<=t.length+2+0; omega⟩
 | t :: u :: ts, h => by
  obtain⟨h1,h2⟩:=FO sep hs hl (u::ts) fun x hx=>h x (aE _ hx)
  refine⟨?_,?_⟩
  ·show PyData.strOk (t++sep++Str.join sep (u::ts))=true
   rw[ou,ou,h1,hs,h t (ao ..)]<;>rfl
  ·show(t++sep++Str.join sep (u::ts)).length<=t.length+2+oW (u::ts)
   rw[strLen_append,strLen_append,hl];omega
theorem Og {n k m:Nat} (h:n.log2<k) (h2:k<=m):n.log2<m:=mJ h h2
mutual
theorem Ei:∀x:Val,nh x=true->x.pd.showable=true/\PyData.strOk x.pd.shown=true/\x.pd.shown.length<=mQ x
 | .none,_=>⟨rfl,by decide +kernel,by decide +kernel⟩
 | .bool b,_=>by cases b<;>exact⟨rfl,by decide +kernel,by decide +kernel⟩
 | .int i,h=>by
  have h:decide (i.natAbs.log2<60)=true:=h;obtain⟨h1,h2⟩:=Pp i (of_decide_eq_true h);exact⟨decide_eq_true (Og (of_decide_eq_true h) (by decide)),h1,h2⟩
 | .str s,h=>⟨rfl,(DG h).1,(DG h).2⟩
 | .tup xs, h => by
  obtain⟨h1,h2,h3⟩:=plain_shownL xs h;obtain⟨j1,j2⟩:=FO (", ":Str) (mV _) (by decide +kernel) (PyData.shownAll (Val.pds xs)) h2;refine⟨h1,?_,?_⟩
  ·show PyData.strOk (("(":Str)++Str.join ", " (PyData.shownAll (Val.pds xs))++(if (PyData.shownAll (Val.pds xs)).length==1 then ",)" else ")":String))=true
   rw[ou,ou,j1];split<;>(rw[mV,mV]; rfl)
  ·show(("(":Str)++Str.join ", " (PyData.shownAll (Val.pds xs))++(if (PyData.shownAll (Val.pds xs)).length==1 then ",)" else ")":String)).length<=wtL xs+4
   rw[strLen_append,strLen_append]
   have e1:(("(":String):Str).length=1:=by decide +kernel
   have e2:((if (PyData.shownAll (Val.pds xs)).length==1 then ",)" else ")":String):Str).length<=2:=by split<;>decide +kernel
   omega
 | .lst xs, h => by
  obtain⟨h1,h2,h3⟩:=plain_shownL xs h;obtain⟨j1,j2⟩:=C6 (PyData.shownAll (Val.pds xs)) 0 "[" h2 (mV _);refine⟨h1,?_,?_⟩
  ·show PyData.strOk (textFrom 0 "[" (PyData.shownAll (Val.pds xs)) ++ "]")=true
   rw[ou,j1,mV]<;>rfl
  ·show(textFrom 0 "[" (PyData.shownAll (Val.pds xs)) ++ "]").length<=wtL xs+4
   rw[strLen_append]
   have e1:(("[":String):Str).length=1:=by decide +kernel
   have e2:(("]":String):Str).length=1:=by decide +kernel
   omega
 | .dict _,h=>nomatch h
 | .obj _ _,h=>nomatch h
 | .scr _,h=>nomatch h
theorem plain_shownL:∀xs:List Val,plainL xs=true->PyData.showableAll (Val.pds xs)=true/\Bv (PyData.shownAll (Val.pds xs))/\oW (PyData.shownAll (Val.pds xs))<=wtL xs
 | [],_=>⟨rfl,fun _ h=>(nomatch h),bS _⟩
 | x :: xs, h => by
  have h:(nh x && plainL xs)=true:=h;rw[bN] at h;obtain⟨a1,a2,a3⟩:=Ei x h.1;obtain⟨b1,b2,b3⟩:=plain_shownL xs h.2;refine⟨?_,fun t ht=>?_,?_⟩
  ·show(x.pd.showable && PyData.showableAll (Val.pds xs))=true
   rw[a1,b1]<;>rfl
  ·rcases aU.mp ht with e|ht
   ·rw[e]; exact a2
   ·exact b2 t ht
  ·show x.pd.shown.length+2+oW (PyData.shownAll (Val.pds xs))<=mQ x+2+wtL xs
   omega
end
theorem DI {o:OV} {x:Val} (e:o.val=x) (h1:br 60 x=true) (h2:nh x=true) (h3:mQ x<bL):my o=some (.fz (.str x.pd.shown)):=by
 obtain⟨a1,a2,a3⟩:=Ei x h2;unfold my;rw[e,if_pos ⟨h1,a1,Nat.lt_of_le_of_lt a3 h3,a2⟩]<;>rfl
end Mp
namespace Tw
open PySem L2 PySem.Spec PyProof.Rows
def qb:V->List V->Hp->VK->Prop:=fun x xs H Q=>∃(a:Addr) (y z:V),x=.ref a/\xs=[y,z]/\((∃v,DGet H a y (some v)/\Q v H)\/(∃H',DGet H a y none/\DPut H a y z H'/\Q z H'))
theorem v5 {H:Hp} {a:Addr} {u u':HO} (h:Rd H a u) (e:H a=some u') (n:∀o w,u'≠.frz o w):u=u':=by
 rcases h with h|⟨o,h⟩
 ·rw[h] at e; exact Option.some.inj e
 ·rw[h] at e; exact absurd (Option.some.inj e).symm (n _ _)
theorem Fa:∀{a b:List L2.Key},a.map kV=b.map kV->a=b
 | [],[],_=>rfl
 | x::a,y::b,h=>by
  have h:=List.cons.inj h;rw[kV_inj h.1,Fa h.2]
 | [],_::_,h=>by cases h
 | _::_,[],h=>by cases h
section
variable {X:Cx}
theorem NW (hu:X.A.units+1<cLine):MtR X "dict.setdefault" qb:=by
 intro pins s σ H x xs v us Q I rx rxs h;obtain⟨a,y,z,rfl,rfl,h⟩:=h
 cases rx
 obtain⟨u1,u2,rfl,r1,r2⟩:=vals2 rxs
 rcases h with⟨v,g,q⟩|⟨H',g,g2,q⟩
 ·rcases g with⟨kvs,k,e,ey,l⟩|⟨kvs,k,b,e,ey,eb,l⟩
  ·subst ey;obtain⟨zz,hd,vs,rel,dd⟩:=dk_rd I.hok e
   have hz:vs.length<=sizeLine:=by rw[←rel.length]; exact zz
   refine call_meetsIn PySem.F.slot_dict_setdefault dd.typeIs PySem.F.entry_dict_setdefault (PySem.F.args_dict_setdefault_3 _ _ _) (kt_meets_setdefault (mixKind X.prog X.w) a (kV_is r1) hd u2) ⟨vs,dd,hz,fun w hw=>?_,fun hn h' dd' hs=>?_⟩
   ·have q0:=rel.val k;rw[hw,←l] at q0;exact⟨v,H,I.tok _,q0,q⟩
   ·have q0:=rel.val k;rw[hn,←l] at q0;exact q0.elim
  ·subst ey
   cases (show u1=Value.ref b from r1)
   obtain⟨zz,hd,xs,rel,dd⟩:=dt_rd I.hok e
   have hz:xs.length<=sizeLine:=by rw[←Paired.length rel]; exact zz
   refine call_setdefault_heap (hsz:=hz) (tupleKind_room_in1 hu) (key_of I.hok eb) hd dd (fun p hp=>?_) fun hn h' dd' hs=>?_
   ·have q0:=rel.val k;rw[hp,←l] at q0;exact⟨v,H,I.tok _,q0,q⟩
   ·have q0:=rel.val k;rw[hn,←l] at q0;exact q0.elim
 ·rcases g2 with⟨kvs,k,e,ey,l,eH⟩|⟨kvs,k,b,e,ey,eb,l,eH⟩
  ·subst ey eH
   have no:valV kvs k=none:=by
    rcases g with⟨kvs',k',e',ey',l'⟩|⟨kvs',k',b',e',ey',eb',l'⟩
    ·have:=v5 e' e fun _ _ z=>nomatch z
     cases this
     have:k'=k:=kV_inj ey'.symm;subst this;exact l'.symm
    ·have:=v5 e' e fun _ _ z=>nomatch z
     cases this
   obtain⟨zz,hd,vs,rel,dd⟩:=dk_of I.hok e
   have hz:vs.length<=sizeLine:=by rw[←rel.length]; exact zz
   have hl:(putK kvs k z).length<=sizeLine:=by have:=length_putK kvs k z; omega
   refine call_meetsIn PySem.F.slot_dict_setdefault dd.typeIs PySem.F.entry_dict_setdefault (PySem.F.args_dict_setdefault_3 _ _ _) (kt_meets_setdefault (mixKind X.prog X.w) a (kV_is r1) hd u2) ⟨vs,dd,hz,fun w hw=>?_,fun hn h' dd' hs=>?_⟩
   ·have q0:=rel.val k;rw[hw,no] at q0;exact q0.elim
   ·have he:∃q,h'.get? a=some q:=let ⟨q,_,_,hq,_⟩:=dd'; ⟨q,hq⟩
    exact⟨z,_,d_write (t':=s.toks+1) I (by rw[e]; exact True.intro) hs he (dk_new hl hd (rel.put k r2) dd'),r2,q⟩
  ·subst ey eH
   cases (show u1=Value.ref b from r1)
   have no:valV kvs k=none:=by
    rcases g with⟨kvs',k',e',ey',l'⟩|⟨kvs',k',b',e',ey',eb',l'⟩
    ·have:=v5 e' e fun _ _ z=>nomatch z
     cases this
    ·have:=v5 e' e fun _ _ z=>nomatch z
     cases this
     cases ey'
     rw[eb] at eb';have ek:k.map kV=k'.map kV:=HO.tup.inj (Option.some.inj eb');have:k=k':=Fa ek;subst this;exact l'.symm
   obtain⟨zz,hd,xs,rel,dd⟩:=dt_of I.hok e
   have hz:xs.length<=sizeLine:=by rw[←Paired.length rel]; exact zz
   have hl:(putK kvs k z).length<=sizeLine:=by have:=length_putK kvs k z; omega
   refine call_setdefault_heap (hsz:=hz) (tupleKind_room_in1 hu) (key_of I.hok eb) hd dd (fun p hp=>?_) fun hn h' dd' hs=>?_
   ·have q0:=rel.val k;rw[hp,no] at q0;exact q0.elim
   ·obtain⟨o,es,ep,hq,h2,h3,h4,_,h5⟩:=dd'
    have ok:ObjOk X.prog X.w (upd H a (.dT (putK kvs k z))) h' a (.dT (putK kvs k z)):=⟨hl,hd,_,(rel.put k eb r2).keeps fun c ys ec=>(by
     rw[upd_ne (ne_of ec e (fun z=>nomatch z))]
     exact ec),o,es,ep,hq,h2,h3,h4,h5⟩
    exact⟨z,_,d_write (t':=s.toks+_) I (by rw[e]; exact True.intro) hs ⟨o,hq⟩ ok,r2,q⟩
theorem Em {o e f:Expr} {to:TE} {t:TA} {apos cpos:Pos} (hu:X.A.units+1<cLine) (ho:PE X o to) (ha:PA X [e,f] t)
  (hbase:attributeBase o "setdefault" X.env (eval o X.env)=eval o X.env:=by rfl)
  (hfew:((backTo cpos (starEach [e,f] X.env)).all (fun x=>!x.1) && (backToKw cpos (keywordEach [] X.env)).all (fun x=>x.1.isSome) && decide ([e,f].length+([]:List Keyword).length+(if ([]:List Keyword).isEmpty then 0 else 1)<30))=true:=by rfl)
  (hline:(apos.endLine==cpos.line)=true:=by rfl) (hs:starEach [e,f] X.env=(false,eval e X.env)::starEach [f] X.env:=by rfl) (hplain:(backTo cpos (starEach [f] X.env)).any (·.1)=false:=by rfl) :
  PE X (.Call (.Attribute o "setdefault" apos) [e,f] [] cpos) (tBM X.K "dict" qb to t) :=
 pe_bm PySem.F.plainAttrs_dict PySem.F.slot_dict_setdefault PySem.F.type_dict_setdefault (NW hu) ho ha hbase hfew hline hs hplain
end
end Tw
namespace Mp
open PySem L2 Tw
def uo:OV->Option Unit
 | .dict kvs=>if kvs.all (fun p=>(kindOf p.1).isSome)=true then some () else none
 | _=>none
def nU (k : Nat) (p : List PStep) (fa : Af) : Ef := fun S => (Out.of ((bF k p S).bind uo) S).bind fun _ _ => (fa S).bind fun xs S1 => match xs with
 | [key,x]=>match bF k p S1 with
  | some (.dict kvs) => if fits kvs key = true then (match aG kvs key with
    | some (.fz y)=>.ok (.fz y) S1
    | some _=>.no
    | none=>(Out.of (bH k p (iR key (.fz x)) S1) S1).bind fun S2 _=>.ok (.fz x) S2) else .no
  | _=>.no
 | _=>.no
section
variable {K:PySem.W.Frag} {ct:Tw.Ct} {E:Exn->L2.St->Hp->Prop} {B:Hp} {X:List Addr} {Φ0:Addr->Prop} {σ:St} {W W' W1:Wd} {H:Hp} {j k:Nat} {x:Val} {v:V} {wr:List Nat} {o r c:OV} {f:Sf} {a b:Ef} {p:List PStep} {Q:VK} {D:Ends}
theorem JA {a:Addr} {ps:List (Val×V)} {kvs:List (Val×OV)} (h:hZ ct H a (fun o=>H a=some o) ps) (hm:ps.map (·.1)=kvs.map (·.1)) (hq:uo (.dict kvs)≠none):tyV K "dict" (.ref a) H:=by
 rcases h with⟨vs,h,_⟩|⟨vs,h,_⟩|⟨q,xs,_,h2,_,f⟩
 rotate_right
 ·exfalso
  cases kvs with
  | nil=>rw[h2] at hm; cases hm
  | cons z kvs =>
   rw[h2] at hm;have e:dw q.1=z.1:=(List.cons.inj hm).1;refine hq (if_neg fun y=>?_);rw[List.all_cons,bN,←e,wS (f q (ao ..))] at y
   cases y.1
 ·exact .inr (.inr (.inl ⟨rfl,.inl ⟨_,h⟩⟩))
 ·exact .inr (.inr (.inl ⟨rfl,.inr ⟨_,h⟩⟩))
theorem J5 {fa:Af} (ok:fO K ct p) (hn:k∉wr) (q:tE K ct E (nU k p fa) [] (wr++[k]) σ H Q):Bt (tBM K "dict" qb (dJ K (tVar k) p) (tA K ct E fa wr)) σ H Q:=by
 obtain⟨B,X,Φ0,W,rfl,s,q⟩:=q;unfold nU at q
 cases hp:(bF k p W.S).bind uo with
 | none=>rw[hp] at q; exact q.elim
 | some u =>
 rw[hp,Out.of_some,Out.bind_ok] at q;obtain⟨o,c,k1,k2,k3⟩:=qg hp
 cases c with
 | fz _=>cases k3
 | lst _=>cases k3
 | obj _ _=>cases k3
 | dict kvs =>
 -- where it starts,whatever the kind of an empty one
 have core:∀W0,Sat K ct B X Φ0 σ W0->W0.S=W.S->Step [k] W W0->(∀S1 key x,fa W.S=.ok [key,x] S1->∀l,fN ct W0.H p (match σ[k]? with|some (some v)=>v|_=>.non) (.ref l)->kvs=[]->W0.H l=some (if kindOf key=some true then .dT [] else .dK [])) ->
   tBM K "dict" qb (dJ K (tVar k) p) (tA K ct E fa wr) σ W0.H Q:=by
  intro W0 s0 eS st0 hkind;obtain⟨v0,w0,F0,r1,r2,r3⟩:=s0.recv (by rw[eS]; exact k1) k2;obtain⟨l,ps0,F0',rfl,b0,b00,_⟩:=r3;refine lQ ok r1 r2 ⟨JA b0 (qi b00) (by rw[k3]; exact fun z=>nomatch z),B,X,Φ0,W0,rfl,s0,?_⟩;rw[eS]
  cases ha:fa W.S with
  | no=>rw[ha] at q; exact q.elim
  | ex e S' =>
   rw[ha] at q
   exact fun W' s' e' a'=>q W' s' e' ((st0.trans a').mono fun k' h=>by simp only[List.mem_append,List.mem_singleton] at h ⊢; exact h.symm)
  | ok xs S1 =>
  rw[ha,Out.bind_ok] at q;intro vs W1 s1 e1 a1 hv;subst e1
  match xs,q,hv,ha with
  | [],q,_,_=>exact q.elim
  | [_],q,_,_=>exact q.elim
  | _::_::_::_,q,_,_=>exact q.elim
  | [key,x],q,hv,ha =>
  have hk1:W1.S[k]?=some (some o):=by rw[a1.ks k hn,eS,k1]
  have hpk:bF k p W1.S=some (.dict kvs):=by
   unfold bF;rw[hk1];exact k2
  have q:match (if fits kvs key=true then (match aG kvs key with
    | some (.fz y)=>.ok (.fz y) W1.S
    | some _=>.no
    | none=>(Out.of (bH k p (iR key (.fz x)) W1.S) W1.S).bind fun S2 _=>.ok (.fz x) S2) else .no:Out OV) with
   | .ok r S'=>∀v W' D,Sat K ct B X Φ0 σ W'->W'.S=S'->Step (wr++[k]) W W'->Tmp K ct [] (wr++[k]) W W' v r D->Q v W'.H
   | .ex e S'=>∀W',Sat K ct B X Φ0 σ W'->W'.S=S'->Step (wr++[k]) W W'->E e σ W'.H
   | .no=>False:=by
   have q':=q;simp only[hpk] at q';exact q'
  by_cases hf:fits kvs key=true
  case neg=>rw[if_neg hf] at q; exact q.elim
  rw[if_pos hf] at q
  match vs,hv with
  | [],hv=>exact hv.elim
  | [_],hv=>exact hv.2.elim
  | _::_::_::_,hv=>exact hv.2.2.elim
  | [yv,zv],hv =>
  obtain⟨vk,vx,_⟩:=hv
  have a01:Step (wr++[k]) W W1:=(st0.trans a1).mono fun k' h=>by simp only[List.mem_append,List.mem_singleton] at h ⊢; exact h.symm
  obtain⟨v',w',Fc,y1,z2,z3,z4,z5,mk⟩:=s1.modify (Step.refl W1) hk1 k2;rw[r1] at y1
  cases y1
  have ew:=iQ r2 (s0.pathV a1 s1 hn hk1 k2 r1 z2);obtain⟨l',ps,F',e',b1,b2,rfl⟩:=z3;subst e'
  cases ew
  have hm:=qi b2;have lk:l∈W1.Fs k:=z4 l (ao ..)
  have he:kvs=[]->W1.H l=some (if kindOf key=some true then .dT [] else .dK []):=fun e=>by
   have h0:=hkind W1.S key x ha l (by rw[r1]; exact r2) e
   have lk0:l∈W0.Fs k:=by rw[←a1.kf k hn]; exact lk
   exact a1.fr l _ h0 fun⟨j,hj,hl⟩=>by
    have:=s0.dj k j l lk0 hl;subst this;exact hn hj
  have dg:=QX (hV b1 lY fun _ _ z=>.inl z) vk hm hf he;obtain⟨lk1,lk2⟩:=wx (k:=key) b2 (bT.mp z5).2
  cases hl:aG kvs key with
  | some y =>
   rw[hl] at q
   cases y with
   | lst _=>exact q.elim
   | dict _=>exact q.elim
   | obj _ _=>exact q.elim
   | fz y =>
    obtain⟨u2,F2,f1,f2,_⟩:=lk2 _ hl;rw[f1] at dg;exact⟨l,yv,zv,rfl,rfl,.inl ⟨u2,dg,q u2 W1 [] s1 rfl a01 (iy f2.1)⟩⟩
  | none =>
   rw[hl] at q;rw[lk1 hl] at dg
   cases hmo:bH k p (iR key (.fz x)) W1.S with
   | none =>
    have q:(Out.of (bH k p (iR key (.fz x)) W1.S) W1.S).bind (fun S2 _=>Out.ok (OV.fz x) S2)=.no->False:=fun z=>by
     have q':=q;simp only[z] at q'
    rw[hmo] at q;exact(q rfl).elim
   | some S3 =>
   have q:∀v W' D,Sat K ct B X Φ0 σ W'->W'.S=S3->Step (wr++[k]) W W'->Tmp K ct [] (wr++[k]) W W' v (.fz x) D->Q v W'.H:=by
    have q':=q;simp only[hmo,Out.of_some,Out.bind_ok] at q';exact q'
   obtain⟨o2,c2,c3,g1,g2,g3,rfl⟩:=nG hmo;have eo:o2=o:=(Option.some.inj (Option.some.inj (hk1.symm.trans g1))).symm;subst eo;have ec:c2=.dict kvs:=Option.some.inj (g2.symm.trans k2);subst ec;have g3:(if kvs.length<bL/\fits kvs key=true then some (OV.dict (bJ kvs key (.fz x))) else none)=some c3:=g3;split at g3
   ·rename_i hh
    cases g3
    obtain⟨u,d1,d2,d3⟩:=GB (v:=zv) b1 b2 hh.2 hh.1 vk he;have lF:l∉F':=(bT.mp z5).1;have kp:=s1.wrote (u:=u) lk
    obtain⟨F2,m1,m2,m3⟩:=ww (key:=key) (o:=.fz x) (D:=[]) (b2.keep (fun _ z=>z) kp kvs fun b hb=>upd_ne fun e=>lF (e▸hb)) (bT.mp z5).2 ⟨vx.keep (fun _ z=>z) kp x,rfl⟩ b5 fun x hx _=>nomatch hx
    have lF2:l∉F2:=fun h=>by
     rcases m3 l h with h|h
     ·exact lF h
     ·cases h
    obtain⟨W',n1,n2,n3,n4,n5,_⟩:=mk (upd W1.H l u) (.dict (bJ kvs key (.fz x))) (l::F2) [] (fun b z hb hn'=>by
     rw[upd_ne fun e=>hn' (by rw[e]; exact ao ..)]; exact hb) rW ⟨l,_,F2,rfl,d3 _ upd_same,m1,rfl⟩ (bT.mpr ⟨lF2,m2⟩) (fun x hx=>by
     rcases aU.mp hx with h|h
     ·exact .inl (by rw[h]; exact ao ..)
     ·exact(m3 x h).imp (aE _) id) fun _ z=>nomatch z
    refine⟨l,yv,zv,rfl,rfl,.inr ⟨upd W1.H l u,dg,d1,?_⟩⟩;rw[←n3];refine q zv W' [] n1 n2 ((a01.trans n5).mono fun k' h=>by simp only[List.mem_append,List.mem_singleton,List.not_mem_nil,false_or] at h ⊢; rcases h with h|h<;>simp[h]) (iy ?_);rw[n3];exact vx.keep (fun a z=>n5.ph a z) kp x
   ·cases g3
 cases kvs with
 | cons z kvs=>exact .inl (core W s rfl ((Step.refl W).mono fun _ z=>(nomatch z)) fun _ _ _ _ _ _ e=>(nomatch e))
 | nil =>
  have pick:∀T:Bool,(∀S1 key x,fa W.S=.ok [key,x] S1->decide (kindOf key=some true)=T)->Bt (tBM K "dict" qb (dJ K (tVar k) p) (tA K ct E fa wr)) σ W.H Q:=fun T hT=>by
   obtain⟨v,l,W0,y1,y2,s0,eS,st0,y3,hH,hl⟩:=s.alt k1 k2 T
   have c0:=core W0 s0 eS st0 fun S1 key x e1 l' pv _=>by
    rw[y1] at pv;have e4:V.ref l=V.ref l':=iQ y3 pv
    cases e4
    have e6:=hT S1 key x e1;rw[hl]
    cases T with
    | true=>rw[if_pos rfl,if_pos (of_decide_eq_true e6)]
    | false=>rw[if_neg (by decide),if_neg (of_decide_eq_false e6)]
   rcases hH with e|⟨e1,e2⟩|⟨e1,e2⟩
   ·rw[e] at c0; exact .inl c0
   ·rw[e2] at c0; exact .inr ⟨l,.inl ⟨e1,c0⟩⟩
   ·rw[e2] at c0; exact .inr ⟨l,.inr ⟨e1,c0⟩⟩
  cases ha:fa W.S with
  | no=>exact pick false fun _ _ _ e=>by rw[ha] at e; cases e
  | ex e S'=>exact pick false fun _ _ _ e=>by rw[ha] at e; cases e
  | ok xs S1 =>
   match xs,ha with
   | [key,x],ha=>exact pick (decide (kindOf key=some true)) fun _ _ _ e=>by rw[ha] at e; cases e; rfl
   | [],ha=>exact pick false fun _ _ _ e=>by rw[ha] at e; cases e
   | [_],ha=>exact pick false fun _ _ _ e=>by rw[ha] at e; cases e
   | _::_::_::_,ha=>exact pick false fun _ _ _ e=>by rw[ha] at e; cases e
end
section
variable {K:PySem.W.Frag} {ct:Tw.Ct} {X:Cx} {e:Expr} {k:Nat} {p:List PStep} {fa:Af} {wr:List Nat}
theorem B6 {E:Exn->L2.St->Hp->Prop} (h:PE X e (tBM K "dict" qb (dJ K (tVar k) p) (tA K ct E fa wr))) (ok:fO K ct p) (hn:wr.contains k=false:=by decide):PE X e (tE K ct E (nU k p fa) [] (wr++[k])):=cr (My h) fun _ _ _=>J5 ok (gC hn)
end
end Mp
namespace Tw
open PySem L2 PySem.Spec PyProof.Rows
def qw (z:Str):List Str:=z.cps.toList.map fun c=>⟨#[c]⟩
def v7:List V->Hp->VK->Prop:=fun vs H Q=>∃z:Str,vs=[.str z]/\z.length<64/\∀(ys:List Str) (p:Addr),ys.Perm (qw z)->sortedS ys=true->H p=none->Q (.ref p) (upd H p (.lst (ys.map V.str)))
section
variable {X:Cx}
theorem Q7 (hcalm:X.calm=true):CallR X (.builtin "sorted") v7:=by
 intro pins s σ H xs us Q I r q;obtain⟨z,ex,h64,q⟩:=q;subst ex;obtain⟨u,eu,rx⟩:=vals1 r;subst eu;obtain⟨t,rfl⟩:=rx
 have ll:(qw z).length=z.length:=by unfold qw; rw[aT,hY]<;>rfl
 have h16:z.cps.size<=sizeLine:=by have:z.cps.size<64:=h64; rw[sizeLine_eq]; omega
 refine Calls.call_function_entry PyProof.Rows.kind_sorted PyProof.Rows.plain_sorted PyProof.Rows.entry_sorted (PyProof.Rows.args_sorted1 _) ?_;unfold Builtin.«sorted»;refine wpAny_bind (m:=checkCount "sorted" 1 1 _) (wpAny_pure ?_);refine wpAny_bind (wpAny_collect_str (A:=X.A.in1) (I.ok.hd hcalm) z t (fun s' acc hk hg hd ho hacc=>?_) h16)
 have hal:acc.toList.length=(qw z).length:=by rw[hY,hacc.1,ll]<;>rfl
 have hS:StrsAre acc.toList (qw z):=strs_at hal fun j v e=>by
  obtain⟨c,w,e1,e2⟩:=hacc.2 j v (by rw[←oa]; exact e);refine⟨⟨#[c]⟩,w,?_,e2⟩;unfold qw;rw[cB,oa,e1]<;>rfl
 have I1:Inv X pins σ H s':=I.call' (ch:=[]) ho (Un.kept hk) (I.hok.kept hk) (by rw[hg]; exact I.bare) fun b hb=>nomatch hb
 refine wpAny_bind (wpAny_newList ?_ (by rw[hal,ll]; have:z.length<64:=h64; rw[sizeLine_eq]; omega));have hoL:(s'.heap.push (seqObj "list" acc.toList.toArray 0)).get? s'.heap.objs.size=some (seqObj "list" acc.toList.toArray 0):=Heap.get?_push_size _ rfl
 show wpAny _ _ _ _ _ { s' with heap:=s'.heap.push (seqObj "list" acc.toList.toArray 0) }
 refine wpAny_bind (wpAny_holding (wpAny_call_entry PyProof.Rows.slot_list_sort ⟨_,hoL,rfl⟩ PyProof.Rows.entry_list_sort
  (list_sort_treeK strKind_oneLt (s:={ s' with heap:=s'.heap.push (seqObj "list" acc.toList.toArray 0) }) hoL hS.keysOf (fun v₁ v₂ rest e=>keyKind_strs (by rw[←e]; exact hS)) (by rw[hal,ll]; exact h64) fun st' hp hs=>⟨_,rfl,?_⟩)
  (PyProof.Rows.args_list_sort _)))
 obtain⟨ys,g1,g2,g3⟩:=sorted_out_str hS hp hs;obtain⟨e',he'⟩:=PyProof.Rows.sortedHeap_at (vs:=acc.toList) (out:=(arrOf st').map (·.2)) hoL
 have hlen:(ys.map V.str).length<=sizeLine:=by
  rw[aT,g2.length_eq,ll];exact dH (iY h64) (by decide)
 refine wpAny_pure ⟨_,rfl,.ref s'.heap.objs.size,upd H s'.heap.objs.size (.lst (ys.map V.str)),I1.laid (t':=s'.toks) (fun b u e=>?_) (bS _)
  (show ObjOk X.prog X.w _ _ _ (.lst (ys.map V.str)) from ⟨hlen,((arrOf st').map (·.2)).toList,e',vals_of_strs g1,by rw[Array.toArray_toList]; exact he'⟩),rfl,q ys _ g2 g3 (I1.hok.fresh (bS _))⟩
 have hb:b<s'.heap.objs.size:=Heap.lt_size e;rw[PyProof.Rows.sortedHeap_old (jk hb) (by rw[size_push']; exact uW hb)];exact Heap.get?_push_of_some _ e
end
end Tw
namespace Mp
open PySem L2 Tw PyProof.Rows PySem.Spec
def vV (cs:List Nat):List Nat:=cs.mergeSort (fun a b=>decide (a<=b))
def kP (c:Nat):Str:=⟨#[c]⟩
theorem zK (cs:List Nat):(vV cs).Perm cs:=List.mergeSort_perm _ _
theorem DE:∀(cs:List Nat) (p:Nat),risingS (kP p) (cs.map kP)=true->(p::cs).Pairwise (·<=·)
 | [],_,_=>List.pairwise_singleton ..
 | c :: cs, p, h => by
  have h':(!ltCps [c] [p] && risingS (kP c) (cs.map kP))=true:=h;rw[bN] at h';have r:=DE cs c h'.2
  have le:p<=c:=by
   have z:ltCps [c] [p]=false:=by simpa using h'.1
   unfold ltCps at z
   by_cases e:c<p
   ·simp[e] at z
   ·omega
  refine .cons (fun x hx=>?_) r
  rcases aU.mp hx with e|hx
  ·rw[e]; exact le
  ·exact dH le ((jI.mp r).1 x hx)
theorem K5 {cs:List Nat} (h:sortedS (cs.map kP)=true):cs.Pairwise (·<=·):=by
 cases cs with
 | nil=>exact .nil
 | cons c cs=>exact DE cs c h
theorem Mr {f:Nat->Str}:∀{cs:List Nat} {ys:List Str},ys.Perm (cs.map f)->∃ds:List Nat,ds.Perm cs/\ys=ds.map f:=fun {cs ys} h=>by
 have:∀{ys zs:List Str},ys.Perm zs->∀cs:List Nat,zs=cs.map f->∃ds:List Nat,ds.Perm cs/\ys=ds.map f:=by
  intro ys zs h
  induction h with
  | nil=>intro cs e; cases cs with
   | nil=>exact⟨[],.refl _,rfl⟩
   | cons _ _=>cases e
  | cons x _ ih => intro cs e; cases cs with
   | nil=>cases e
   | cons c cs =>
    obtain⟨e1,e2⟩:=List.cons.inj e;obtain⟨ds,h1,h2⟩:=ih cs e2;exact⟨c::ds,h1.cons c,by rw[h2,e1]<;>rfl⟩
  | swap x y l => intro cs e; match cs, e with
   | [],e=>cases e
   | [_],e=>cases e
   | a::b::cs,e =>
    obtain⟨e1,e2⟩:=List.cons.inj e;obtain⟨e3,e4⟩:=List.cons.inj e2;exact⟨b::a::cs,.swap a b cs,by rw[e1,e3,e4]<;>rfl⟩
  | trans _ _ ih1 ih2 => intro cs e
                         obtain⟨ds,h1,h2⟩:=ih2 cs e;obtain⟨es,h3,h4⟩:=ih1 ds h2;exact⟨es,h3.trans h1,h4⟩
 exact this h cs rfl
theorem K7 {ys:List Str} {cs:List Nat} (h1:ys.Perm (cs.map kP)) (h2:sortedS ys=true):ys=(vV cs).map kP:=by
 obtain⟨ds,p,rfl⟩:=Mr h1;have s:=K5 h2
 have s2:(vV cs).Pairwise (·<=·):=by
  have:=List.pairwise_mergeSort (le:=fun a b:Nat=>decide (a<=b)) (fun a b c h1 h2=>decide_eq_true (dH (of_decide_eq_true h1) (of_decide_eq_true h2))) (fun a b=>by
   rw[i3]
   rcases Nat.le_total a b with h|h
   ·exact .inl (decide_eq_true h)
   ·exact .inr (decide_eq_true h)) cs
  exact this.imp fun h=>of_decide_eq_true h
 congr 1
 exact(p.trans (zK cs).symm).eq_of_pairwise (fun a b _ _ h1 h2=>Nat.le_antisymm h1 h2) s s2
def AZ:OV->Option OV
 | .fz (.str z)=>if z.length<64 then some (ag ((vV z.cps.toList).map fun c=>.str (kP c))) else none
 | _=>none
def xi (o:OV):Option OV:=(uv o).or (AZ o)
section
variable {K:PySem.W.Frag} {ct:Tw.Ct} {P:Addr->Prop} {H:Hp}
theorem Fm (z:Str) (hz:ia z):∀cs:List Nat,(∀c∈cs,c∈z.cps.toList)->ViewL K ct P H ((cs.map kP).map V.str) (cs.map fun c=>.str (kP c))
 | [],_=>trivial
 | c :: cs, h => by
  refine⟨⟨rfl,?_,by show 1<=sizeLine; decide⟩,Fm z hz cs fun d hd=>h d (aE _ hd)⟩;have:=hz.1
  have z1:decide (c<0x110000)=true:=by
   have hm:=h c (ao ..);have q:z.cps.all (·<0x110000)=true:=this;rw[Array.all_eq_true] at q;obtain⟨i,hi,e⟩:=List.getElem_of_mem hm;have:=q i (by rw[hY] at hi; exact hi);rw[Array.getElem_toList] at e;rw[←e]; exact this
  show(#[c]:Array Nat).all (·<0x110000)=true
  simpa using z1
theorem MI:hW K ct v7 AZ:=fun Φ H v o z D Q r h q=>by
 unfold AZ at h;split at h
 ·rename_i s
  split at h
  ·rename_i hl
   cases h
   obtain⟨rfl,hs⟩:=r.1;refine⟨s,rfl,hl,fun ys p h1 h2 hp=>?_⟩;have e:=K7 h1 h2;rw[e];exact jV q (Fm s hs _ fun c hc=>(zK _).mem_iff.mp hc) (by rw[aT,aT,(zK _).length_eq,hY]; exact dH (iY hl) (by decide)) p hp
  ·cases h
 ·cases h
theorem ML:hW K ct (fun xs H Q=>rSortedI K xs H Q\/v7 xs H Q) xi:=MK.or MI
end
theorem CallR.or {X:Cx} {v:Value} {r r':List V->Hp->VK->Prop} (h:CallR X v r) (h':CallR X v r'):CallR X v (fun xs H Q=>r xs H Q\/r' xs H Q):=fun pins s σ H xs us Q I rr q=>q.elim (h pins s σ H xs us Q I rr) (h' pins s σ H xs us Q I rr)
theorem Q9 {X:Cx} (hc:X.calm=true):CallR X (.builtin "sorted") (fun xs H Q=>rSortedI X.K xs H Q\/v7 xs H Q):=CallR.or cr_sortedI (Q7 hc)
end Mp
namespace Mp
open PySem L2 Tw
def uF (a:Ef):Ef:=fun S=>(a S).bind fun o S1=>(Out.of o.fzv S1).bind fun x S2=>.ok (.fz x) S2
section
variable {K:PySem.W.Frag} {ct:Tw.Ct} {E:Exn->L2.St->Hp->Prop} {σ:St} {H:Hp} {js wr:List Nat} {a:Ef} {Q:VK} {X:Cx} {e:Expr}
theorem Ky (q:tE K ct E (uF a) [] wr σ H Q):tE K ct E a js wr σ H Q:=by
 obtain⟨B,X,Φ0,W,rfl,s,q⟩:=q;unfold uF at q;refine⟨B,X,Φ0,W,rfl,s,?_⟩
 cases ha:a W.S with
 | no=>rw[ha] at q; exact q.elim
 | ex e S'=>rw[ha] at q; exact q
 | ok o S1 =>
  rw[ha,Out.bind_ok] at q
  cases hz:o.fzv with
  | none=>rw[hz] at q; exact q.elim
  | some x =>
   rw[hz,Out.of_some,Out.bind_ok] at q;intro v W' D s' e' a' t;have eo:=qO hz;subst eo;exact q v W' [] s' e' a' (iy t.rep.1)
theorem HX (h:PE X e (tE K ct E a js wr)):PE X e (tE K ct E (uF a) [] wr):=cr h fun _ _ _=>Ky
end
end Mp
namespace Mp
open PySem L2 Tw
def A6 (neg:Bool) (a b:OV):Option OV:=match a,b with
 | .fz (.bool x),.fz (.bool y)=>some (vB (if neg then !decide (x=y) else decide (x=y)))
 | _,_=>none
def o8 (neg:Bool) (a b:OV):Option OV:=(A7 neg a b).or (A6 neg a b)
section
variable {K:PySem.W.Frag} {ct:Tw.Ct}
theorem Nf:cf K ct rNotB (A6 true):=fun Φ H v w o1 o2 z D1 D2 Q r1 r2 h q=>by
 unfold A6 at h;split at h
 ·rename_i x y
  cases h
  have e1:v=.bl x:=r1.1;have e2:w=.bl y:=r2.1;exact⟨x,y,e1,e2,cO q rfl⟩
 ·cases h
theorem EI:cf K ct (fun x y H Q=>(y=V.non/\Q (.bl (!decide (x=.non))) H)\/rNotB x y H Q) (o8 true):=Ni.or Nf
end
theorem ED {X:Cx}:OpR X (compareOp .IsNot) (fun x y H Q=>(y=V.non/\Q (.bl (!decide (x=.non))) H)\/rNotB x y H Q):=op_notN.or op_notBl
end Mp
namespace Tw
open PySem L2 PyProof.Rows
end Tw
namespace Mp
open PySem L2 Tw
end Mp
namespace Tw
open PySem L2 PySem.Spec PyProof.Rows
section
variable {P:Program} {w:World} {A:Around} {E:Value->Shared->Prop} {s:Shared}
abbrev hJ (w:World):Obj:={ cls:=.type "set",dict:=none,data:=.set #[] 0 (.fresh 0 0 (!w.params.followText "set-order")) }
set_option maxHeartbeats 8000000 in
theorem Rs {l:Addr} {its:Array Value} (ns:List Int) {Q:Value->Shared->Prop} (hh:A.handled=none) (hl:s.heap.IsList l its) (hit:IntsAre its.toList ns) (hb:ns.length+1<scanBound)
  (hq:∀(h':Heap) (tk c:Nat),SetR w h' s.heap.objs.size (fun j=>decide (j∈ns)) c->c<=ns.length->(∀b o,s.heap.get? b=some o->h'.get? b=some o)->Q (.ref s.heap.objs.size) { s with heap:=h',toks:=tk }) :
  wpAny (model P w) A (call (.type "set") [.ref l]) Q E s:=by
 have size:its.size=ns.length:=by have z:=hit.length; rwa [hY] at z
 obtain⟨mc,mt,mro⟩:=F.called_set.mro;have fm:=F.called_set.made;have fs:=F.called_set.sub;refine wpAny_call (codeAny_of_tree ?_)
 show wpAny _ _ (callAny (.type "set") _) _ _ _
 refine wpAny_pure ⟨Code.quiet_builtin _ (by decide +kernel),codeAny_builtin F.entry_type_call ?_⟩;rw[Around.under_plain (weight_type_call_type "set" [.ref l] []) rfl];have f1:=F.called_set.notType;have f2:=F.called_set.canCreate;have f3:=F.typeCall_set_1 (.ref l)
 repeat (any_goals (first|assumption|wp_step))
 refine codeAny_mono (code_set_led1 (.ref l) (E:=E) (Q₁:=fun z s1=>z=.ref s.heap.objs.size/\s1={ s with heap:=s.heap.push (hJ w) }) ⟨rfl,rfl⟩) fun r s1 hr=>?_
 cases r with
 | error e=>exact hr
 | ok fl =>
  cases fl with
  | next=>exact hr.elim
  | brk=>exact hr.elim
  | cont=>exact hr.elim
  | ret z =>
   obtain⟨rfl,rfl⟩:=hr;have at0:(s.heap.push (hJ w)).get? s.heap.objs.size=some (hJ w):=Heap.get?_push_size _ rfl
   have ty0:Shared.TypeIs { s with heap:=s.heap.push (hJ w) } (.ref s.heap.objs.size) "set":=⟨_,at0,rfl⟩
   have g1:=F.called_set.init.lookup;have g2:=F.called_set.init.bind (.ref s.heap.objs.size)
   repeat (any_goals (first|assumption|wp_step))
   refine codeAny_mono (codeAny_call_builtin (R:=wants (fun v s2=>v=.none/\∃h' tk c,s2={ s with heap:=h',toks:=tk }/\SetR w h' s.heap.objs.size (fun j=>decide (j∈ns)) c/\c<=ns.length/\(∀b o,s.heap.get? b=some o->h'.get? b=some o)) E) F.called_set.init.plain F.entry_set_init (check_set_init_1 ty0 ?_)) fun v s2 hv=>?_
   ·obtain⟨⟨oc,od,oda,osl⟩,hol,hcl,nl,hdl⟩:=hl;simp only at hcl hdl;subst hcl; subst hdl;have ol1:(s.heap.push (hJ w)).get? l=some { cls:=.type "list",dict:=od,data:=.seq its nl,slots:=osl }:=Heap.get?_push_of_some _ hol;have k1:=F.sub_list_set;have k2:=F.sub_list_frozenset
    have k3:(Value.type "list"==Value.type "dict")=false:=by decide
    have ls1:(s.heap.push (hJ w)).IsList l its:=⟨_,ol1,rfl,nl,rfl⟩
    unfold Builtin.«set.__init__» noKeywords Builtin.Frozenset.updateFrom
    generalize gp:pyIter=PI
    wp_walk
    subst gp;refine wpAny_pyIter_list ls1 ?_;refine wpAny_bind (wpAny_runValue ?_);have lS:l<s.heap.objs.size:=Heap.lt_size hol
    have h3:A.in1.in1.in1.handled=none:=by simp[hh]
    have sz:(s.heap.push (hJ w)).objs.size=s.heap.objs.size+1:=Heap.size_push ..
    have lne:l≠(s.heap.push (hJ w)).objs.size:=by rw[sz]; exact jk (uW lS)
    have nf:s.heap.objs.size∉[(s.heap.push (hJ w)).objs.size,l]:=by
     rw[sz];intro z
     rcases aU.mp z with z|z
     ·exact jk (uV _) z
     ·exact Nat.ne_of_gt lS (bm.mp z)
    have val:∀(i:Nat) (v:Value),its[i]?=some v->∃k t,ns[i]?=some k/\v=.int k t:=fun i v hv=>by
     have hi:i<ns.length:=by rw[←size]; exact(Array.getElem?_eq_some_iff.mp hv).1
     obtain⟨t,e⟩:=hit.int_at i v (by rw[oa]; exact hv);refine⟨ns[i],t,c8 hi,?_⟩;rw[e,List.getD_eq_getElem?_getD,c8 hi]<;>rfl
    refine set_update_ints ((Walks.list h3 _ l lne its).toS) s.heap.objs.size nf ns size hb val (its.size - 0) 0 _ (by omega) (eR _) ⟨⟨_,Heap.get?_push_size _ rfl,rfl,rfl⟩,ls1.push _⟩ ⟨0,bS 0,setR_new_at (Heap.get?_push_of_some _ at0)⟩ fun s' c' hm hc' hS'=>?_
    obtain⟨h',g',d',tk',os'⟩:=s';have eg:g'=s.gens:=hm.gens;have ed:d'=s.drawn:=hm.drawn;have eo:os'=s.os:=hm.os;subst eg; subst ed; subst eo;refine wpAny_pure ?_
    show wpAny _ _ (ret Value.none) _ _ _
    refine wpAny_pure ⟨rfl,h',tk',c',rfl,hS',by omega,fun b o e=>?_⟩;have b0:b<s.heap.objs.size:=Heap.lt_size e;refine hm.heap b o (fun z=>?_) (Heap.get?_push_of_some _ (Heap.get?_push_of_some _ e));rw[sz] at z
    rcases aU.mp z with z|z
    ·exact jk b0 z
    ·exact jk (uW b0) (bm.mp z)
   ·cases v with
    | error e=>exact hv
    | ok fl =>
     cases fl with
     | next=>exact hv.elim
     | brk=>exact hv.elim
     | cont=>exact hv.elim
     | ret r =>
      obtain⟨rfl,h',tk,c',rfl,q1,q2,q3⟩:=hv
      repeat (any_goals (first|assumption|wp_step))
      exact hq _ _ _ q1 q2 q3
end
def DO (K:PySem.W.Frag) (w:World):List V->Hp->VK->Prop:=fun xs H Q=>∃(l:Addr) (ns:List Int),xs=[.ref l]/\SqL K H l (ns.map V.int)/\ns.length<4000 /\
 ∀a c,H a=none->c<=ns.length->Q (.ref a) (upd H a (SetO w a (fun j=>decide (j∈ns)) c))
theorem Ra {X:Cx} (hc:X.calm=true):CallR X (.type "set") (DO X.K X.w):=by
 intro pins s σ H xs us Q I r h;obtain⟨l,ns,rfl,hl,hb,q⟩:=h;rw[Vals.ref1 r];obtain⟨its,rv,pl,hz⟩:=I.list hl
 refine Rs ns (I.ok.hd hc) pl.isList (by rw[List.toList_toArray]; exact rv.ints) (by unfold scanBound; omega) fun h' tk c R hc k=>?_
 exact⟨.ref s.heap.objs.size,_,I.laid (t':=tk) k (bS _) (setO_new R),rfl,q _ c (I.hok.fresh (bS _)) hc⟩
end Tw
namespace Mp
open PySem L2 Tw
def uI (ns:List Int):List Int:=sI ns.eraseDups
theorem pQ (ns:List Int) (k:Int):k∈uI ns↔k∈ns:=by
 unfold uI;rw[(m7 _).mem_iff];exact List.mem_eraseDups
theorem Gp:∀(n:Nat) (ns:List Int),ns.length<=n->ns.eraseDups.Nodup
 | _,[],_=>by simp
 | 0,_::_,h=>by simp at h
 | n + 1, a :: ns, h => by
  rw[List.eraseDups_cons];refine bT.mpr ⟨fun z=>?_,Gp n _ ?_⟩
  ·have:=List.mem_eraseDups.mp z;have:=(gL.mp this).2;simp at this
  ·have:=uY (fun b=>!b==a) ns;rw[cR] at h;omega
theorem Gq:∀(n:Nat) (ns:List Int),ns.length<=n->ns.eraseDups.length<=ns.length
 | _,[],_=>by simp
 | 0,_::_,h=>by simp at h
 | n+1,a::ns,h=>by
  rw[List.eraseDups_cons];have l:=uY (fun b=>!b==a) ns;rw[cR] at h;have:=Gq n (ns.filter fun b=>!b==a) (by omega);rw[cR,cR];omega
theorem vw (ns:List Int):(uI ns).Pairwise (·<·):=by
 have nd:(uI ns).Nodup:=(m7 _).nodup_iff.mpr (Gp _ _ (bS _));have le:=zJ ns.eraseDups
 exact(le.and nd).imp fun {a b} h=>by have:=h.1; have:=h.2; omega
theorem oq {ns ms:List Int} (h1:ms.Pairwise (·<·)) (h2:∀k,k∈ms↔k∈ns):ms=uI ns:=by
 have p:ms.Perm (uI ns):=(List.perm_ext_iff_of_nodup (h1.imp fun h=>by omega) ((vw ns).imp fun h=>by omega)).mpr fun k=>by rw[h2,pQ]
 exact p.eq_of_pairwise (fun a b _ _ h1 h2=>by omega) h1 (vw ns)
theorem Jz (ns:List Int):(uI ns).length<=ns.length:=by
 unfold uI;rw[(m7 _).length_eq];exact Gq _ _ (bS _)
end Mp
namespace Mp
open PySem L2 Tw
def Jx:Val->Option Key
 | .int i=>some (.inl i)
 | .str s=>some (.inr s)
 | _=>none
def qP (kvs:List (Val×Val)):List (Val×OV):=kvs.map fun p=>(p.1,.fz p.2)
section
variable {K:PySem.W.Frag} {ct:Tw.Ct} {B:Hp} {X:List Addr} {Φ Φ0:Addr->Prop} {σ:St} {W W1:Wd} {H:Hp} {wr:List Nat}
structure DcAt (K:PySem.W.Frag) (ct:Tw.Ct) (B:Hp) (X:List Addr) (Φ0:Addr->Prop) (σ:St) (vs wr:List Nat) (W1:Wd) (Dn:Addr) (ys:List (Val×Val)) (W:Wd):Prop where
 s:Sat K ct B X Φ0 (wipe σ vs) W
 st:Step wr (W1.wiped vs) W
 nf:∀k,Dn∉W.Fs k
 np:¬W.Φ Dn
 acc:∃acc:List (Key×V),W.H Dn=some (.dK acc)/\(acc.map (·.1)).Nodup/\(∀p∈acc,nJ p.1)/\ViewP K ct W.Φ W.H (acc.map fun p=>(bM p.1,p.2)) ys
end
end Mp
namespace Tw
open PySem L2 PySem.Spec PyProof.Rows
end Tw
namespace Mp
open PySem L2 Tw
def F4 (x:Val):Bool:=(Jx x).isSome
def Gg:List (Val×OV)->Option (List (Val×Val))
 | []=>some []
 | (k,.fz x)::r=>(Gg r).map fun ys=>(k,x)::ys
 | _=>none
end Mp
namespace Mp
open PySem L2 Tw
def sO (i j c:Int):Nat:=if i<j then ((j - i - 1) / c+1).toNat else 0
theorem LO {i j c:Int} (hi:-1000000<=i/\i<=1000000) (hj:-1000000<=j/\j<=1000000) (hc:1<=c):sO i j c<=2000001/\Builtin.Range.rangeSize i j c=(sO i j c:Nat):=by
 unfold sO Builtin.Range.rangeSize;rw[if_pos (by omega:c > 0)];split
 ·have h0:0<=(j - i - 1) / c:=Int.ediv_nonneg (by omega) (by omega);have h1:(j - i - 1) / c<=j - i - 1:=Int.ediv_le_self _ (by omega)
  constructor<;>omega
 ·exact⟨eR _,rfl⟩
theorem RgC.pos {i j c:Int} (hi:-1000000<=i/\i<=1000000) (hj:-1000000<=j/\j<=1000000) (hc:1<=c) (hc':c<=1000000):RgC i j c (sO i j c):=by
 obtain⟨a,b⟩:=LO hi hj hc;refine⟨by omega,by omega,?_,b⟩;unfold Builtin.Range.small;rw[b];simp only[Builtin.Range.rangeFitsLong,Bool.and_eq_true,Bool.or_eq_true,decide_eq_true_eq,beq_iff_eq,show c > 0 by omega,if_true]
 generalize sO i j c=n at a
 have:(n:Int)<=2000001:=by omega
 have h2:i+(n:Int) * c<=1000000+2000001 * 1000000:=by
  have:(n:Int) * c<=2000001 * 1000000:=Int.mul_le_mul this hc' (by omega) (by omega);omega
 omega
end Mp
namespace Tw
open PySem L2 PySem.Spec PyProof.Rows
end Tw
namespace Mp
open PySem L2 Tw
def pq (q:Int×Int):Int:=q.1 * 64+q.2
def Gz (c:Int):Int×Int:=(c / 64,c % 64)
def kX (q:Int×Int):Bool:=decide (0<=q.1) && decide (q.1<64) && (decide (0<=q.2) && decide (q.2<64))
theorem AN {q:Int×Int} (h:kX q=true):(0<=q.1/\q.1<64)/\0<=q.2/\q.2<64:=by
 unfold kX at h;simp only[Bool.and_eq_true,decide_eq_true_eq] at h;exact h
theorem xE {q:Int×Int} (h:kX q=true):Gz (pq q)=q:=by
 obtain⟨_,_,_⟩:=AN h;obtain⟨a,b⟩:=q
 show((a * 64+b) / 64,(a * 64+b) % 64)=(a,b)
 have e1:(a * 64+b) / 64=a:=by omega
 have e2:(a * 64+b) % 64=b:=by omega
 rw[e1,e2]
def uP (qs:List (Int×Int)):List (Int×Int):=(uI (qs.map pq)).map Gz
end Mp
namespace Tw
open PySem L2 PySem.Spec PyProof.Rows LiI
end Tw
namespace Mp
open PySem L2 Tw
end Mp
namespace Tw
open PySem L2 PySem.Spec PyProof.Rows
structure IsC (K:PySem.W.Frag) (mg:Str->Option Value) (x:Str) (C:Addr):Prop where
 cl:Cls K C
 at_:mg x=some (.ref C)
 ha:PySem.W.findIn K (.ref C) "__class__"=some (some (.builtin "object.__class__"))
 hn:PySem.W.specialIn K (.builtin "object.__class__") "__get__"=some (some (.builtin "getset_descriptor.__get__"))
 ht:PySem.W.takesIn K (.builtin "object.__class__")=some true
 hm:PySem.W.mroIn K C (.type "object")=some true
structure Prp (P:Program) (w:World) (K:PySem.W.Frag) (mg:Str->Option Value) (base:Heap) (k:Nat) (C:Addr) (m:Str) (sp:Sp):Prop where
 ex:∃p f fd ps,Cls K C/\PropOf K C m p f/\FnG P w K mg base CX0 k f fd ps sp/\Binds K fd ps []
structure PDef (K:PySem.W.Frag) (C:Addr) (m qual:Str) (st:Stmt) (ps:List Str):Prop where
 ex:∃p f fd,Fun K m qual st f fd/\PropOf K C m p f/\Binds K fd ps []
 cl:Cls K C
end Tw
namespace Mp
open PySem L2 Tw
end Mp
namespace Tw
open PySem L2 PySem.Spec PyProof.Rows
end Tw
namespace Mp
open PySem L2 Tw
end Mp
namespace Tw
open PySem L2 PySem.Spec PyProof.Rows
end Tw
namespace Mp
open PySem L2 Tw
end Mp
namespace Mp
open PySem L2 Tw
end Mp
namespace Tw
open PySem PySem.Spec PyProof.Rows L2 PySem.Builtin.SmallTypes
end Tw
namespace Tw
open PySem PySem.Spec PyProof.Rows L2 PySem.Builtin.SmallTypes
end Tw
namespace Tw
open PySem PySem.Spec PyProof.Rows L2 PySem.Builtin.SmallTypes
end Tw
namespace Mp
open PySem PySem.Spec PyProof.Rows L2
end Mp
namespace Mp
open PySem PySem.Spec PyProof.Rows L2
end Mp
namespace Tw
open PySem PySem.Spec PyProof.Rows L2
end Tw
namespace Mp
open PySem L2 Tw
end Mp
namespace Mp
open PySem L2 Tw
end Mp
namespace Tw
open PySem L2 PySem.Spec PyProof.Rows
end Tw
namespace Mp
open PySem L2 Tw
end Mp
namespace Mp
open PySem L2 Tw
def Nw (k:Nat) (g:Cf):Cf:=fun S=>(cP k S).bind fun _ _=>(g S).bind fun os S1=>(cP k S1).bind fun o S2=>.ok (o::os) S2
end Mp
namespace Mp
open PySem L2 Tw
def Hi:V->Val->Prop
 | v,.int i=>v=.int i
 | v,.str s=>v=.str s/\ia s
 | v,.bool b=>v=.bl b
 | v,.none=>v=.non
 | _,_=>False
def RO (H:Hp) (d:Option Addr) (args:List (Str×Val)):Prop:=match d with
 | none=>args=[]
 | some dd=>args≠[]/\∃fs:List (Str×V),H dd=some (.xd fs)/\∀p∈args,∃v,fs.lookup p.1=some v/\Hi v p.2
def EW (cx:Str->Addr) (W:WX):Exn->St->Hp->Prop:=fun e σ H=>∀d,RO H d e.args->W (.ref (cx e.cls)) d σ H
end Mp
namespace Tw
open PySem L2 PyProof.Rows PySem.Spec
section
variable (P:Program) (w:World) (K:PySem.W.Frag) (mg:Str->Option Value) (base:Heap)
structure CalE (k:Nat) (x:Str) (sp:Sp):Prop where
 ex:∃f fd ps,FnG P w K mg base (L2.CX P w) k f fd ps sp/\mg x=some (.ref f)/\PySem.W.keepIn K (.ref f)=true/\Binds K fd ps []/\LK K f fd ps
structure MetE (k:Nat) (C:Addr) (m:Str) (sp:Sp):Prop where
 ex:∃f fd ps,Cls K C/\Meth K C m f/\FnG P w K mg base (L2.CX P w) k f fd ps sp/\Binds K fd ps []/\LK K f fd ps
structure XcC (x:Str) (C:Addr):Prop where
 at_:mg x=some (.ref C)
 q:PySem.W.excIn K C [.type "Exception",.type "BaseException",.type "object"] "Exception.__new__"=true
 kp:PySem.W.keepIn K (.ref C)=true
 r1:PySem.W.subIn K (.ref C) (.type "BaseException")=some true
 r2:PySem.W.typeIn K (.ref C)=some (.type "type")
end
end Tw
namespace Mp
open PySem L2 Tw
section
variable {P:Program} {w:World} {K:PySem.W.Frag} {mg:Str->Option Value} {base:Heap} {qual:Str} {st:Stmt} {N:List Str} {k:Nat} {ct:Tw.Ct} {cx:Str->Addr} {pin:List Nat} {g:Sf}
abbrev Hk (P:Program) (w:World) (K:PySem.W.Frag) (mg:Str->Option Value) (base:Heap) (N:List Str) (qual:Str) (st:Stmt) (f:Addr) (cdv:Value) (A:Around) (outer:List PySem.Env) (s:Shared) (H:Hp) (E:XK):Cx:=cxOf (L2.CX P w) P w K mg base N qual (defScope st) f cdv A outer s H E
def RQ (P:Program) (w:World) (K:PySem.W.Frag) (mg:Str->Option Value) (base:Heap) (ct:Tw.Ct) (cx:Str->Addr) (k:Nat) (qual:Str) (st:Stmt) (N:List Str) (pin:List Nat) (g:Sf):Prop :=
 ∀(f:Addr) (cdv:Value) (A:Around) (outer:List PySem.Env) (s:Shared) (H:Hp) (E:XK),A.guards=some []->Room k (A.deeper (PyProof.Rows.envOfC qual (defScope st) s.heap.objs.size f cdv))->∃wr,PSs (Hk P w K mg base N qual st f cdv A outer s H E) (defBody st) (tS K ct (EW cx fun cls d _ H=>E cls d H) pin g wr)
end
end Mp
namespace Mp
open PySem L2 Tw
section
variable {cx:Str->Addr}
structure IsX (K:PySem.W.Frag) (cx:Str->Addr) (c:Str) (l:List (Str×Bool)):Prop where
 ok:∀s b,l.lookup s=some b->ExcC K (cx s)/\PySem.W.kitOne K (.ref (cx s)) (.ref (cx c))=some b
end
end Mp
namespace Tw
open PySem L2 PySem.Spec PyProof.Rows
end Tw
namespace Mp
open PySem L2 Tw
end Mp
namespace Mp
open PySem L2 Tw
end Mp
namespace Mp
open PySem L2 Tw
end Mp
namespace Tw
open PySem PySem.W PySem.Calls PyProof.Rows PySem.Spec
open PySem.ESX (exTail)
structure XIn (prog:Program) (K:PySem.W.Frag) (C:Addr) (f:Str) (fI:Addr) (name qual:Str) (params:Arguments) (body:List Stmt) (scope:Scope) (dV kV doc pm ct:Value) (an:Option Addr) (cda cc:Addr) (se a:Str):Prop where
 lk:∃oc od osl,K.lookup fI=some ⟨oc,od,.func (ksFn name qual params body scope dV kV doc pm an (.ref cda) ct cc),osl⟩
 cd:codeIn K (.ref cda) qual=true
 cof:∃ccl cdd vs ccs file tf,K.lookup cda=some ⟨ccl,cdd,.fields vs,ccs⟩/\vs[2]?=some (.str file tf)/\((prog.main.file:Str)==file)=true
 cell:∃cl cld csl,K.lookup cc=some ⟨cl,cld,.cell (some (.ref C)),csl⟩
 top:(prog.main.scope.names.lookup ("super":Str)).isSome=false
 hp:∃ar,(params.posonlyargs++params.args).head?=some ar/\ar.arg=se
 bd:∀(s:Shared) (u v:Value),BindsTo s (ksFn name qual params body scope dV kV doc pm an (.ref cda) ct cc) ⟨[u,v],[]⟩ [(se,u),(a,v)]
 ne:se≠a
 kse:scope.names.lookup se=some .local
 ka:scope.names.lookup a=some .local
 ks:scope.names.lookup ("super":Str)=some .globalImplicit
 kc:scope.names.lookup ("__class__":Str)=some .free
 nc:∀x∈scope.names,x.2≠.cell
 co:scope.isCoroutine=false
 gen:scope.isGenerator=false
 kd:scope.kind=.function
 dse:(se==("__debug__":Str))=false
 da:(a==("__debug__":Str))=false
 shape:∃p0 p1 p2 p3 p4 p5 p6 p7 p8 p9,(p2.endLine==p4.line)=true/\body=[.Expr (.Call (.Attribute (.Call (.Name "super" p0) [] [] p1) "__init__" p2) [.Name a p3] [] p4) p5,.Assign [.Attribute (.Name se p6) f p7] (.Name a p8) p9]
structure XCl (K:PySem.W.Frag) (C:Addr) (f:Str) (fI:Addr):Prop where
 q:excInitIn K C exTail "Exception.__new__"=true
 ov:excOver K C exTail=true
 hd:hasDictIn K C=true
 sa:findIn K (.ref C) "__setattr__"=some (some (.builtin "object.__setattr__"))
 no:takerIn K C f=some none
 sE:subIn K (.ref C) (.type "Exception")=some true
 sC:mroIn K C (.ref C)=some true
 su:ks_superIn K C C "__init__"=some (some (.builtin "Exception.__init__"))
 th:nsIn K cStatics "thirdparty.any"=some none
 fi:findIn K (.ref C) "__init__"=some (some (.ref fI))
 ti:typeIn K (.ref fI)=some (.type "function")
section
def RP (hp h':Heap) (e dx C:Addr) (f:Str) (u:Value):Prop :=
 (∀b o,hp.get? b=some o->h'.get? b=some o)/\hp.objs.size<=e/\hp.objs.size<=dx/\e≠dx/\(∃t1:Addr,h'.get? e=some { cls:=.ref C,dict:=some dx,data:=.fields #[.ref t1,.none,.none,.none,.bool false,.none] })/\h'.Ns1 dx (fun y=>if y=f then some u else none)
end
end Tw
namespace Tw
open PySem L2 PySem.Spec PyProof.Rows
structure XcI (P:Program) (w:World) (K:PySem.W.Frag) (mg:Str->Option Value) (x:Str) (C:Addr) (f:Str):Prop where
 at_:mg x=some (.ref C)
 kp:PySem.W.keepIn K (.ref C)=true
 r1:PySem.W.subIn K (.ref C) (.type "BaseException")=some true
 r2:PySem.W.typeIn K (.ref C)=some (.type "type")
 make:∀{A:Around} {E:Value->Shared->Prop} {u:Value} {Q:Value->Shared->Prop} {hp:Heap} {g:Array GenState} {d:Drawn} {tk:Nat} {os:OsState},K.In hp->hp.Ns mainGlobals mg->(∃mb,hp.Ns builtinsNs mb/\∀x:Str,x ≠ "__name__"->mb x=bootBuiltins x)->hp.NoLimit->Room 1 A ->
  (∀h' tk' e dx,RP hp h' e dx C f u->Q (.ref e) ⟨h',g,d,tk',os⟩)->wpAny (model P w) A (call (.ref C) [u]) Q E ⟨hp,g,d,tk,os⟩
end Tw
namespace Mp
open PySem L2 Tw
end Mp
namespace Mp
open PySem L2 Tw
section
variable {cx:Str->Addr}
structure XfX (K:PySem.W.Frag) (cx:Str->Addr) (f:Str) (l:List Str):Prop where
 ok:∀s,s∈l->XfC K (cx s)/\PySem.W.findIn K (.ref (cx s)) f=some none
inductive FlatL:List V->List Val->Prop
 | nil:FlatL [] []
 | cons {v:V} {x:Val} {vs:List V} {xs:List Val}:Hi v x->FlatL vs xs->FlatL (v::vs) (x::xs)
end
end Mp
namespace Mp
open PySem L2 Tw
end Mp
namespace Tw
open PySem L2 PyProof.Rows PySem.Spec
end Tw
namespace Mp
open PySem L2 Tw
end Mp
namespace Tw
open PySem L2 PyProof.Rows PySem.Spec
section
variable (P:Program) (w:World) (K:PySem.W.Frag) (mg:Str->Option Value) (base:Heap)
structure MakE (k:Nat) (x:Str) (C:Addr) (sp:Sp):Prop where
 ex:∃f fd ps,Mk K C f/\FnG P w K mg base (L2.CX P w) k f fd ps sp/\mg x=some (.ref C)/\Binds K fd ps []/\LK K f fd ps
end
end Tw
namespace Mp
open PySem L2 Tw
end Mp
namespace Tw
open PySem L2 PySem.Spec PyProof.Rows
end Tw
namespace Mp
open PySem L2 Tw
end Mp
namespace Tw
open PySem L2 PySem.Spec PyProof.Rows
def jz {α:Type} (le:α->α->Bool) (a:α):List α->List α
 | []=>[a]
 | b::l=>if le a b=true then a::b::l else b::jz le a l
def gP {α:Type} (le:α->α->Bool):List α->List α
 | []=>[]
 | a::l=>jz le a (gP le l)
theorem F8 {α:Type} {le:α->α->Bool} {a:α}:∀{l1 l2:List α},(∀b∈l1,(!le a b)=true)->(∀b∈l2,le a b=true)->jz le a (l1++l2)=l1++a::l2
 | [],[],_,_=>rfl
 | [],b::l,_,h=>by
  show(if le a b=true then a::b::l else _)=_
  rw[if_pos (h b (ao ..))]<;>rfl
 | b::l1,l2,h1,h2=>by
  have hb:=h1 b (ao ..)
  show(if le a b=true then _ else b::jz le a (l1++l2))=_
  rw[if_neg (by intro e; rw[e] at hb; cases hb),F8 (fun c hc=>h1 c (aE _ hc)) h2]<;>rfl
theorem zw {α:Type} {le:α->α->Bool} (tr:∀a b c,le a b=true->le b c=true->le a c=true) (to:∀a b,(le a b || le b a)=true):∀l:List α,l.mergeSort le=gP le l
 | []=>by simp[gP]
 | a::l=>by
  obtain⟨l1,l2,e1,e2,e3⟩:=List.mergeSort_cons tr to a l;have sr:=List.pairwise_mergeSort tr to (a::l);rw[e1] at sr ⊢
  show _=jz le a (gP le l)
  rw[←zw tr to l,e2,F8 e3];have:=(List.pairwise_append.mp sr).2.1
  exact fun b hb=>(jI.mp this).1 b hb
theorem Ga {α β:Type} {le:β->β->Bool} (f:α->β) (a:α):∀l:List α,(jz (fun x y=>le (f x) (f y)) a l).map f=jz le (f a) (l.map f)
 | []=>rfl
 | b::l=>by
  show(if le (f a) (f b)=true then a::b::l else b::jz (fun x y=>le (f x) (f y)) a l).map f=(if le (f a) (f b)=true then f a::f b::l.map f else f b::jz le (f a) (l.map f))
  by_cases h:le (f a) (f b)=true
  ·rw[if_pos h,if_pos h]<;>rfl
  ·rw[if_neg h,if_neg h,bU,Ga f a l]
theorem wX {α β:Type} {le:β->β->Bool} (f:α->β):∀l:List α,(gP (fun x y=>le (f x) (f y)) l).map f=gP le (l.map f)
 | []=>rfl
 | a::l=>by
  show(jz _ a (gP _ l)).map f=jz le (f a) (gP le (l.map f))
  rw[Ga,wX f l]
theorem F9 {α:Type} {le:α->α->Bool} (a:α):∀l:List α,(jz le a l).Perm (a::l)
 | []=>List.Perm.refl _
 | b::l=>by
  unfold jz;split
  ·exact List.Perm.refl _
  ·exact((F9 a l).cons b).trans (List.Perm.swap a b l)
theorem qC {α:Type} {le:α->α->Bool}:∀l:List α,(gP le l).Perm l
 | []=>List.Perm.refl _
 | a::l=>(F9 a _).trans ((qC l).cons a)
def tV (x y:PyData):Bool:=!PySem.W.dataLt y x
theorem MD {β:Type} (f:β->PyData):∀a b c:β,PySem.W.dataLe false f a b=true->PySem.W.dataLe false f b c=true->PySem.W.dataLe false f a c=true:=(PySem.W.sortLe_total _ _ _).trans
theorem ME {β:Type} (f:β->PyData):∀a b:β,(PySem.W.dataLe false f a b || PySem.W.dataLe false f b a)=true:=fun a b=>by
 rw[i3];exact(PySem.W.sortLe_total _ _ _).total a b
def zQ (K:PySem.W.Frag):List V->Hp->VK->Prop:=fun vs H Q=>∃(a:Addr) (bs:List (V×PyData)),vs=[V.ref a]/\SqL K H a (bs.map (·.1))/\DpAll K H (bs.map (·.1)) (bs.map (·.2))/\PySem.W.AllAlike (bs.map (·.2))/\PySem.W.Sortable (bs.map (·.2))/\(∀b∈bs,b.2.depth<=50) /\
 ∀p,H p=none->Q (.ref p) (upd H p (.lst ((gP (fun x y=>tV x.2 y.2) bs).map (·.1))))
theorem Gr:∀{out:List Value} {bs:List (V×PyData)},PySem.W.EachIs (fun v (b:V×PyData)=>RelV b.1 v) out bs->Vals (bs.map (·.1)) out
 | _,_,.nil=>.nil
 | _,_,.cons h t=>.cons h (Gr t)
theorem CW:∀{out:List Value} {bs:List (V×PyData)},Vals (bs.map (·.1)) out->PySem.W.EachIs (fun v (b:V×PyData)=>RelV b.1 v) out bs
 | [],[],_=>.nil
 | _::_,_::_,.cons h t=>.cons h (CW t)
 | [],_::_,h=>nomatch h
 | _::_,[],h=>nomatch h
theorem DL {h:Heap}:∀{out:List Value} {ds:List PyData} {as:List Addr} {bs:List (V×PyData)},ReadsAll h out ds as->bs.map (·.2)=ds->PySem.W.EachIs (fun v (b:V×PyData)=>∃as,Reads h v b.2 as) out bs
 | _,_,_,[],.nil,_=>.nil
 | _,_,_,b::bs,.cons h1 h2,e=>by
  rw[bU] at e;obtain⟨e1,e2⟩:=List.cons.inj e;exact .cons ⟨_,by rw[e1]; exact h1⟩ (DL h2 e2)
 | _,_,_,_::_,.nil,e=>by cases e
 | _,_,_,[],.cons _ _,e=>by cases e
section
variable {X:Cx}
theorem Q8 (hu:X.A.units+64<cLine):CallR X (.builtin "sorted") (zQ X.K):=by
 intro pins s σ H vs us Q I r h;obtain⟨a,bs,rfl,hs,hd,hal,hso,hdp,q⟩:=h;obtain⟨its,rv,hl,hz⟩:=I.list hs;rw[Vals.ref1 r];obtain⟨as,rd⟩:=Dp.readsAll I (bs.map (·.2)) _ _ hd rv
 refine PySem.W.sorted_data (bs:=bs) (enc:=fun b:V×PyData=>b.2) (R:=fun v (b:V×PyData)=>RelV b.1 v) (vs:=its) hl.isList (CW rv) (DL rd rfl) hal hso (by rw[aT] at hz; exact hz) (fun b hb=>by have:=hdp b hb; omega) fun out ho eo=>?_
 have hw:=Gr eo;have esort:bs.mergeSort (PySem.W.dataLe false fun b:V×PyData=>b.2)=gP (fun x y=>tV x.2 y.2) bs:=zw (MD _) (ME _) bs;rw[esort] at hw;obtain⟨c,hc⟩:=sortedAll_at s.heap its out.toArray;refine⟨.ref (s.heap.objs.size+1),upd H (s.heap.objs.size+1) (.lst _),I.laid (t':=s.toks) (fun _ _=>sortedAll_old) (Nat.le_succ _) ⟨?_,out,c,hw,hc⟩,rfl,q _ (I.hok.fresh (Nat.le_succ _))⟩;rw[aT,(qC bs).length_eq];rw[aT] at hz;exact hz
end
end Tw
namespace Mp
open PySem L2 Tw
def kA (x y:Val):Bool:=tV x.pd y.pd
def C0:PyData->Bool
 | .tuple (_::_)=>true
 | _=>false
def RD:PyData->Bool
 | .tuple _=>false
 | .none=>false
 | _=>true
def r9 (xs:List Val):Bool:=xs.all (br 50) && ((Val.pds xs).all fun d=>(Val.pds xs).all fun e=>PySem.W.alike d e) && ((Val.pds xs).all C0 || (Val.pds xs).all RD)
def kZ (o:OV):Option OV:=(dC o).bind fun xs=>if r9 xs=true then some (ag (gP kA xs)) else none
section
variable {K:PySem.W.Frag} {ct:Tw.Ct} {P:Addr->Prop} {H:Hp}
theorem Aa:∀xs:List Val,Val.pds xs=xs.map Val.pd
 | []=>rfl
 | x::xs=>by show x.pd::Val.pds xs=_; rw[Aa xs]<;>rfl
theorem CC:∀{ps:List (V×Val)},(∀p∈ps,bw K ct P H p.1 p.2)->ViewL K ct P H (ps.map (·.1)) (ps.map (·.2))
 | [],_=>trivial
 | p::ps,h=>⟨h p (ao ..),CC fun q hq=>h q (aE _ hq)⟩
theorem CD:∀{vs:List V} {xs:List Val},ViewL K ct P H vs xs->∃ps:List (V×Val),vs=ps.map (·.1)/\xs=ps.map (·.2)/\∀p∈ps,bw K ct P H p.1 p.2
 | [],[],_=>⟨[],rfl,rfl,fun _ z=>nomatch z⟩
 | v::vs,x::xs,h=>by
  obtain⟨ps,e1,e2,e3⟩:=CD h.2;refine⟨(v,x)::ps,by rw[e1]<;>rfl,by rw[e2]<;>rfl,fun p hp=>?_⟩
  rcases aU.mp hp with z|z
  ·rw[z]; exact h.1
  ·exact e3 p z
 | [],_::_,h=>h.elim
 | _::_,[],h=>h.elim
theorem EB:hW K ct (zQ K) kZ:=fun Φ H v o z D Q r h q=>by
 unfold kZ at h
 cases e:dC o with
 | none=>rw[e] at h; cases h
 | some xs =>
  rw[e,du] at h;split at h
  ·rename_i hh
   cases h
   unfold r9 at hh;rw[bN,bN,i3] at hh;obtain⟨⟨h1,h2⟩,h3⟩:=hh;obtain⟨a,vs,rfl,k1,k2,k3⟩:=jQ r e;obtain⟨ps,rfl,rfl,e3⟩:=CD k3
   have hok:∀x∈ps.map (·.2),br 50 x=true:=dv.mp h1
   obtain⟨d1,_,d3⟩:=viewL_dp _ k3 hok
   have ep:(ps.map fun p=>(p.1,p.2.pd)).map (·.2)=Val.pds (ps.map (·.2)):=by rw[Aa,cF,cF]<;>rfl
   have ev:(ps.map fun p=>(p.1,p.2.pd)).map (·.1)=ps.map (·.1):=by rw[cF]<;>rfl
   refine⟨a,ps.map fun p=>(p.1,p.2.pd),rfl,.inl (.inl (by rw[ev]; exact k1)),by rw[ev,ep]; exact d1,?_,?_,fun b hb=>?_,fun p hp=>?_⟩
   ·rw[ep]
    exact fun d hd d' hd'=>dv.mp (dv.mp h2 d hd) d' hd'
   ·rw[ep]
    rcases h3 with h3|h3
    ·refine .inl fun d hd=>?_
     have:=dv.mp h3 d hd;unfold C0 at this;split at this
     ·exact⟨_,_,rfl⟩
     ·cases this
    ·refine .inr fun d hd=>?_
     have:=dv.mp h3 d hd;refine⟨fun z=>?_,fun xs z=>?_⟩
     ·rw[z] at this; cases this
     ·rw[z] at this; cases this
   ·obtain⟨p,hp,rfl⟩:=aW.mp hb;exact(jr p.2 (e3 p hp) (hok p.2 (pC hp))).2.2
   ·have e1:gP (fun x y=>tV x.2 y.2) (ps.map fun p=>(p.1,p.2.pd))=(gP (fun x y:V×Val=>kA x.2 y.2) ps).map fun p=>(p.1,p.2.pd):=(wX (le:=fun x y:V×PyData=>tV x.2 y.2) (fun p:V×Val=>(p.1,p.2.pd)) ps).symm
    have e2:gP kA (ps.map (·.2))=(gP (fun x y:V×Val=>kA x.2 y.2) ps).map (·.2):=(wX (le:=kA) (fun p:V×Val=>p.2) ps).symm;rw[e1,cF];rw[e2] at q;refine jV q (CC fun p hp=>e3 p ((qC ps).mem_iff.mp hp)) ?_ p hp;rw[aT,(qC ps).length_eq];rw[aT] at k2;exact k2
  ·cases h
end
theorem GG {X:Cx} (hu:X.A.units+65<cLine):CallR X (.builtin "sorted") (zQ X.K):=Q8 (Nat.lt_of_succ_lt hu)
end Mp
namespace Mp
open PySem L2 Tw
end Mp
namespace Mp
open PySem L2 Tw
end Mp
namespace Tw
open PySem L2 PySem.Spec PyProof.Rows
section
variable {X:Cx}
abbrev Cl:=Value×Nat×(Addr->Value->Option Addr->TS)
inductive HdN (X:Cx):List ExceptHandler->List Cl->Prop
 | nil:HdN X [] []
 | cons {x n : Str} {c : Cl} {b₀ : Stmt} {su : List Stmt} {np pp : Pos} {hds : List ExceptHandler} {l : List Cl} (hi : X.N[c.2.1]? = some n) (hln : X.env.kindOf n = some .local) (hc : Names X x c.1)
   (go:∀(a:Addr) (oe:Obj) (cls:Value) (d:Option Addr) (pn:List (Addr×Obj)),Zc cls d oe->(∃fs,oe.data=.fields fs)->PSs (X.suite a ((a,oe)::pn)) (b₀::su) (c.2.2 a cls d)) (r:HdN X hds l) :
   HdN X (.ExceptHandler (some (.Name x np)) (some n) (b₀::su) pp::hds) (c::l)
end
end Tw
namespace Mp
open PySem L2 Tw
section
variable {o:OV}
def N7 (key:Val) (o:OV):OV->Option OV
 | .dict kvs=>if kvs≠[]/\kvs.length<bL/\fits kvs key=true then some (.dict (bJ kvs key o)) else none
 | _=>none
end
end Mp
namespace Tw
open PySem PySem.Spec PyProof.Rows L2 PySem.Builtin.SmallTypes
abbrev ZB (h:Heap) (z T U:Addr) (f:Value) (g b:Bool):Prop:=h.get? z=some { cls:=.type "zip",dict:=none,data:=.fields #[f,.bool g,.bool b,.ref T,.ref U],slots:=#[] }
end Tw
namespace Tw
open PySem PySem.Spec PyProof.Rows L2 PySem.Builtin.SmallTypes
def Bw (b:Bool) (z T U i1 i2 S:Addr) (St1 St2:Nat->Heap->Prop) (i:Nat) (h:Heap):Prop:=IsTupOf2 h T (.ref i1) (.ref i2)/\St1 i h/\St2 i h/\((ZB h z T U .none false b/\∃a1 a2,IsTupOf2 h U a1 a2)\/∃(T0:Addr) (g:Bool) (oT:Obj),ZB h z T U (rawInt T0) g b/\h.get? T0=some oT/\T0≠z/\T0≠i1/\T0≠i2/\T0≠S)
section
variable {P:Program} {w:World} {A:Around} {z T U i1 i2 S:Addr} {f1 f2:List Addr} {n i:Nat} {R1 R2:Nat->Value->Prop} {St1 St2:Nat->Heap->Prop} {b:Bool}
theorem Bw.over {h h':Heap} (D1:Draws P w A i1 f1 n R1 St1) (D2:Draws P w A i2 f2 n R2 St2) (st:Bw b z T U i1 i2 S St1 St2 i h) (ns:S≠z/\S≠T/\S≠U/\S∉f1/\S∉f2) (k:∀c o,c≠S->h.get? c=some o->h'.get? c=some o):Bw b z T U i1 i2 S St1 St2 i h':=by
 obtain⟨hT,q1,q2,r⟩:=st;refine⟨k _ _ ns.2.1.symm hT,D1.frame _ _ _ q1 fun c hc o e=>k c o (fun q=>ns.2.2.2.1 (q▸hc)) e,D2.frame _ _ _ q2 fun c hc o e=>k c o (fun q=>ns.2.2.2.2 (q▸hc)) e,?_⟩
 rcases r with⟨hz,a1,a2,hU⟩|⟨T0,g,oT,hz,h0,m1,m2,m3,m4⟩
 ·exact .inl ⟨k _ _ ns.1.symm hz,a1,a2,k _ _ ns.2.2.1.symm hU⟩
 ·exact .inr ⟨T0,g,oT,k _ _ ns.1.symm hz,k _ _ m4 h0,m1,m2,m3,m4⟩
structure TG2 (R1 R2:Nat->Value->Prop) (lo:Addr) (h:Heap) (as:List Addr):Prop where
 up:as.Pairwise (·<·)
 hi:∀a∈as,lo<a/\a<h.objs.size
 at':∀(j:Nat) (a:Addr),as[j]?=some a->∃x y,R1 j x/\R2 j y/\IsTupOf2 h a x y
end
end Tw
namespace Tw
open PySem PySem.Spec PyProof.Rows L2 PySem.Builtin.SmallTypes
end Tw
namespace Mp
open PySem PySem.Spec PyProof.Rows L2 Tw
end Mp
namespace Mp
open PySem PySem.Spec PyProof.Rows L2 Tw
end Mp
namespace Mp
open PySem L2 Tw
mutual
def jF:Val->Option NestedKey
 | .none=>some .none
 | .int i=>some (.num i)
 | .str s=>some (.text s)
 | .tup xs=>(asNs xs).map .tup
 | .bool _=>none
 | .lst _=>none
 | .dict _=>none
 | .obj _ _=>none
 | .scr _=>none
def asNs:List Val->Option (List NestedKey)
 | []=>some []
 | x::xs=>(jF x).bind fun k=>(asNs xs).map (k::·)
end
mutual
theorem GO:∀(x:Val) {k:NestedKey},jF x=some k->dw k=x
 | .none,_,h=>by cases h; rfl
 | .int i,_,h=>by cases h; rfl
 | .str s,_,h=>by cases h; rfl
 | .tup xs, k, h => by
  have h:(asNs xs).map NestedKey.tup=some k:=h
  cases e:asNs xs with
  | none=>rw[e] at h; cases h
  | some ks =>
   rw[e] at h
   cases h
   show Val.tup (nVals ks)=_
   rw[asNs_val xs e]
 | .bool _,_,h=>nomatch h
 | .lst _,_,h=>nomatch h
 | .dict _,_,h=>nomatch h
 | .obj _ _,_,h=>nomatch h
 | .scr _,_,h=>nomatch h
theorem asNs_val:∀(xs:List Val) {ks:List NestedKey},asNs xs=some ks->nVals ks=xs
 | [],_,h=>by cases h; rfl
 | x :: xs, ks, h => by
  have h:(jF x).bind (fun k=>(asNs xs).map (k::·))=some ks:=h
  cases e:jF x with
  | none=>rw[e] at h; cases h
  | some k =>
   rw[e] at h;have h:(asNs xs).map (k::·)=some ks:=h
   cases e2:asNs xs with
   | none=>rw[e2] at h; cases h
   | some ls =>
    rw[e2] at h
    cases h
    show dw k::nVals ls=_
    rw[GO x e,asNs_val xs e2]
end
mutual
theorem Bq:∀k:NestedKey,jF (dw k)=some k
 | .none=>rfl
 | .num _=>rfl
 | .text _=>rfl
 | .tup ks=>by
  show(asNs (nVals ks)).map NestedKey.tup=_
  rw[asNs_nVal ks]<;>rfl
theorem asNs_nVal:∀ks:List NestedKey,asNs (nVals ks)=some ks
 | []=>rfl
 | k::ks=>by
  show(jF (dw k)).bind (fun k=>(asNs (nVals ks)).map (k::·))=_
  rw[Bq k,asNs_nVal ks]<;>rfl
end
theorem E6 {a b:NestedKey} (h:dw a=dw b):a=b:=by
 have:=Bq a;rw[h,Bq b] at this;exact(Option.some.inj this).symm
section
variable {K:PySem.W.Frag} {ct:Tw.Ct} {P:Addr->Prop} {H:Hp}
mutual
theorem jq:∀(x:Val) {v:V} {k:NestedKey},bw K ct P H v x->jF x=some k->NV H k v
 | .none,_,_,h,e=>by cases e; exact h
 | .int i,_,_,h,e=>by cases e; exact h
 | .str s,_,_,h,e=>by cases e; exact h.1
 | .tup xs, v, k, h, e => by
  have e:(asNs xs).map NestedKey.tup=some k:=e;obtain⟨a,vs,e1,h1,_,h2⟩:=h
  cases e2:asNs xs with
  | none=>rw[e2] at e; cases e
  | some ks =>
   rw[e2] at e
   cases e
   exact⟨a,vs,e1,h1,viewL_nv xs h2 e2⟩
 | .bool _,_,_,_,e=>nomatch e
 | .lst _,_,_,_,e=>nomatch e
 | .dict _,_,_,_,e=>nomatch e
 | .obj _ _,_,_,_,e=>nomatch e
 | .scr _,_,_,_,e=>nomatch e
theorem viewL_nv:∀(xs:List Val) {vs:List V} {ks:List NestedKey},ViewL K ct P H vs xs->asNs xs=some ks->NVs H ks vs
 | [],[],_,_,e=>by cases e; exact trivial
 | x :: xs, v :: vs, ks, h, e => by
  have e:(jF x).bind (fun k=>(asNs xs).map (k::·))=some ks:=e
  cases e1:jF x with
  | none=>rw[e1] at e; cases e
  | some k =>
   rw[e1] at e;have e:(asNs xs).map (k::·)=some ks:=e
   cases e2:asNs xs with
   | none=>rw[e2] at e; cases e
   | some ls =>
    rw[e2] at e
    cases e
    exact⟨jq x h.1 e1,viewL_nv xs h.2 e2⟩
 | [],_::_,_,h,_=>h.elim
 | _::_,[],_,h,_=>h.elim
end
end
def fy (x:Val):Bool:=match jF x with
 | some (.tup ks)=>decide (kindOf x=none) && decide ((NestedKey.tup ks).depth<=8)
 | _=>false
def iU {α:Type} (kvs:List (Val×α)) (key:Val):Bool:=match kvs with
 | []=>fy key
 | (k,_)::_=>fy k && fy key
theorem ml {x:Val} (h:fy x=true):∃ks,jF x=some (.tup ks)/\dw (.tup ks)=x/\kindOf x=none/\(NestedKey.tup ks).depth<=8:=by
 unfold fy at h;split at h
 ·rename_i ks e
  rw[bN] at h;exact⟨ks,e,GO x e,of_decide_eq_true h.1,of_decide_eq_true h.2⟩
 ·cases h
theorem GQ:∀{ks:List NestedKey},ks.all qo=true->fC (nVals ks)≠none
 | [],_=>fun z=>nomatch z
 | k :: ks, h => by
  rw[List.all_cons,bN] at h;have ih:=GQ h.2
  cases e:fC (nVals ks) with
  | none=>exact absurd e ih
  | some qs =>
   cases k with
   | none=>cases h.1
   | tup _=>cases h.1
   | num i =>
    show(fC (nVals ks)).bind _≠_
    rw[e]; exact fun z=>nomatch z
   | text x =>
    show(fC (nVals ks)).bind _≠_
    rw[e]; exact fun z=>nomatch z
theorem Aj {ks:List NestedKey} (h:kindOf (dw (.tup ks))=none):j8 (.tup ks)=false:=by
 cases e:ks.all qo with
 | false=>exact e
 | true =>
  exfalso
  have h:(fC (nVals ks)).map (fun _=>true)=none:=h
  cases e2:fC (nVals ks) with
  | none=>exact GQ e e2
  | some q=>rw[e2] at h; cases h
def jO (xs:List (NestedKey×Addr×V)):List (Val×V):=xs.map fun z=>(dw z.1,z.2.2)
theorem wN (k:NestedKey):∀xs:List (NestedKey×Addr×V),aG (jO xs) (dw k)=iF xs k
 | []=>rfl
 | x :: xs => by
  have ih:=wN k xs;unfold jO iF at ih ⊢;rw[bU,u6];unfold aG
  by_cases e:x.1=k
  ·rw[if_pos (by rw[e]),decide_eq_true e]<;>rfl
  ·rw[if_neg fun z=>e (E6 z),decide_eq_false e];exact ih
theorem Md {x:NestedKey×Addr×V} {xs:List (NestedKey×Addr×V)} {k:NestedKey} {b:Addr} {v:V} (e:¬x.1=k):cv (x::xs) k b v=x::cv xs k b v:=by
 have l:iF (x::xs) k=iF xs k:=by unfold iF; rw[u6,decide_eq_false e]
 unfold cv;rw[l];split
 ·rw[bU,if_neg e]
 ·rfl
theorem DY {k:NestedKey} {b:Addr} {v:V}:∀{xs:List (NestedKey×Addr×V)},(xs.map (·.1)).Nodup->jO (cv xs k b v)=bJ (jO xs) (dw k) v
 | [],_=>rfl
 | x :: xs, nd => by
  rw[bU] at nd;obtain⟨n1,n2⟩:=bT.mp nd
  by_cases e:x.1=k
  ·have hq:∀z∈xs,¬z.1=k:=fun z hz e'=>n1 (by rw[e,←e']; exact pC hz)
   have e1:cv (x::xs) k b v=(x.1,x.2.1,v)::xs:=by
    unfold cv iF;rw[u6,decide_eq_true e]
    show(if true=true then _ else _)=_
    rw[if_pos rfl,bU,if_pos e]
    congr 1
    conv=>rhs; rw[←List.map_id' xs]
    apply jJ;intro z hz;rw[if_neg (hq z hz)]
   rw[e1]
   show(dw x.1,v)::jO xs=bJ ((dw x.1,x.2.2)::jO xs) (dw k) v
   unfold bJ;rw[if_pos (by rw[e])]
  ·rw[Md e]
   show(dw x.1,x.2.2)::jO (cv xs k b v)=bJ ((dw x.1,x.2.2)::jO xs) (dw k) v
   rw[DY n2]
   conv=>rhs; unfold bJ
   rw[if_neg fun z=>e (E6 z)]
section
variable {K:PySem.W.Frag} {ct:Tw.Ct} {E:Exn->L2.St->Hp->Prop} {B:Hp} {X:List Addr} {Φ Φ0:Addr->Prop} {σ:St} {W W' W1:Wd} {H H':Hp} {j k:Nat} {x:Val} {v:V} {js js1 wr1 js2 wr2 pin:List Nat} {o c:OV} {a b:Ef} {p:List PStep} {Q:VK} {D:Ends}
theorem Am {l:Addr} {ps:List (Val×V)} {kvs:List (Val×OV)} {key:Val} (h:hZ ct H l (fun o=>H l=some o) ps) (hm:ps.map (·.1)=kvs.map (·.1)) (hf:iU kvs key=true) :
  ∃xs,iJ H xs/\(H l=some (eQ (dh ct) l xs)\/(xs=[]/\(H l=some (.dK [])\/H l=some (.dT []))))/\ps=jO xs/\∀z∈xs,j8 z.1=false:=by
 have k0:iJ H []:=⟨eR _,b5,fun _ z=>nomatch z⟩
 rcases h with⟨vs,h1,rfl,_⟩|⟨vs,h1,rfl,_⟩|⟨q,xs,h1,h2,h3,h4⟩
 ·cases vs with
  | nil=>exact⟨[],k0,.inr ⟨rfl,.inl h1⟩,rfl,fun _ z=>nomatch z⟩
  | cons y vs =>
   exfalso
   cases kvs with
   | nil=>cases hm
   | cons z kvs =>
    have e:bM y.1=z.1:=(List.cons.inj hm).1;have hf:(fy z.1 && fy key)=true:=hf;rw[bN,←e] at hf;obtain⟨_,_,_,e2,_⟩:=ml hf.1;rw[AE] at e2
    cases e2
 ·cases vs with
  | nil=>exact⟨[],k0,.inr ⟨rfl,.inr h1⟩,rfl,fun _ z=>nomatch z⟩
  | cons y vs =>
   exfalso
   cases kvs with
   | nil=>cases hm
   | cons z kvs =>
    have e:gZ y.1=z.1:=(List.cons.inj hm).1;have hf:(fy z.1 && fy key)=true:=hf;rw[bN,←e] at hf;obtain⟨_,_,_,e2,_⟩:=ml hf.1;rw[AF] at e2
    cases e2
 ·exact⟨q::xs,h3,.inl h1,h2,h4⟩
theorem xx {α:Type} {kvs:List (Val×α)} {key:Val} (h:iU kvs key=true):fy key=true:=by
 cases kvs with
 | nil=>exact h
 | cons z kvs =>
  have h:(fy z.1 && fy key)=true:=h;rw[bN] at h;exact h.2
def pg (neg:Bool) (k:Nat) (p:List PStep) (a:Ef):Ef:=fun S=>(Out.of ((bF k p S).bind Bg) S).bind fun kvs _=>(a S).bind fun o S1=>(Out.of o.fzv S1).bind fun key _=>(Out.of (if iU kvs key=true then some (vB (if neg then !(aG kvs key).isSome else (aG kvs key).isSome)) else none) S1)
theorem Kn {neg:Bool} {a:Ef} (ok:fO K ct p) (hn:k∉wr1) (q:tE K ct E (pg neg k p a) [] (wr1++[k]) σ H Q):zl (dh ct) neg (tE K ct E a js1 wr1) (dJ K (tVar k) p) σ H Q:=by
 obtain⟨B,X,Φ0,W,rfl,s,q⟩:=q;unfold pg at q
 cases hp:bF k p W.S with
 | none=>rw[hp] at q; exact q.elim
 | some c =>
 rw[hp,du] at q;obtain⟨o,k1,k2⟩:=Ms hp
 cases c with
 | fz _=>exact q.elim
 | lst _=>exact q.elim
 | obj _ _=>exact q.elim
 | dict kvs =>
 rw[show Bg (.dict kvs)=some kvs from rfl,Out.of_some,Out.bind_ok] at q
 cases ha:a W.S with
 | no=>rw[ha] at q; exact q.elim
 | ex e S' =>
  rw[ha] at q;refine⟨B,X,Φ0,W,rfl,s,?_⟩;rw[ha]
  exact fun W' s' e' a'=>q W' s' e' (a'.mono fun k hk=>au _ hk)
 | ok y S1 =>
 rw[ha,Out.bind_ok] at q
 cases hx:y.fzv with
 | none=>rw[hx] at q; exact q.elim
 | some key =>
 rw[hx,Out.of_some,Out.bind_ok] at q
 by_cases hf:iU kvs key=true
 ·rw[if_pos hf,Out.of_some] at q;refine⟨B,X,Φ0,W,rfl,s,?_⟩;rw[ha];intro v W1 D1 s1 e1 a1 t1;subst e1
  have k1':W1.S[k]?=some (some o):=by rw[a1.ks k hn,k1]
  obtain⟨v',w',Fc,y1,z2,z3,z4,z5,mk⟩:=s1.modify (Step.refl W1) k1' k2;obtain⟨l,ps,F',rfl,b1,b2,rfl⟩:=z3;refine lQ ok y1 z2 ?_
  have vk:bw K ct W1.Φ W1.H v key:=by
   rw[qO hx] at t1;exact t1.rep.1
  have hm:=qi b2;obtain⟨xs,n1,n2,n3,n4⟩:=Am b1 hm hf;obtain⟨ks,e1,e2,e3,e4⟩:=ml (xx hf);have nv:=jq key vk e1;obtain⟨ra,_,er,_⟩:=nv;refine⟨l,iF xs (.tup ks),rfl,⟨xs,.tup ks,⟨n1,n2.imp .inl fun⟨e,z⟩=>⟨e,z.imp .inl .inl⟩⟩,jq key vk e1,⟨ra,er⟩,e4,rfl⟩,?_⟩;have lk:(aG ps key).isSome=(aG kvs key).isSome:=Fh hm;rw[←wN,e2,←n3,lk];exact q _ W1 [] s1 rfl (a1.mono fun k' h=>au _ h) ⟨⟨rfl,rfl⟩,b5,fun _ z=>(nomatch z),fun _ z=>(nomatch z),fun _ z=>(nomatch z)⟩
 ·rw[if_neg hf] at q; exact q.elim
def Fe (key:Val) (o:OV):OV->Option OV
 | .dict kvs=>if kvs.length<bL/\iU kvs key=true then some (.dict (bJ kvs key o)) else none
 | _=>none
def pV (k:Nat) (p:List PStep) (js:List Nat) (a b:Ef):Sf:=fun S=>(Out.of ((bF k p S).bind qD) S).bind fun _ _=>(a S).bind fun o S1=>(Out.of (bO js o) S1).bind fun o' _=>(b S1).bind fun kx S2=>(Out.of kx.fzv S2).bind fun key _=>(Out.of (bH k p (Fe key o') S2) S2).bind fun S3 _=>.ok .nx S3
theorem Kh (ok:fO K ct p) (jS:k∉wr1) (gD:k∉wr2) (q:tS K ct E pin (pV k p js a b) (wr1++wr2++[k]) D σ H):zI (dh ct) (dJ K (tVar k) p) (tE K ct E b js2 wr2) (tE K ct E a js wr1) D σ H:=by
 obtain⟨B,X,Φ0,W,rfl,s,q⟩:=fT.mp q;unfold pV at q
 have l1:∀k'∈wr1,k'∈wr1++wr2++[k]:=fun k' h=>au _ (au _ h)
 cases hp:(bF k p W.S).bind qD with
 | none=>rw[hp] at q; exact q.elim
 | some u =>
 rw[hp,Out.of_some,Out.bind_ok] at q;obtain⟨o,c,k1,k2,k3⟩:=qg hp
 cases ha:a W.S with
 | no=>rw[ha] at q; exact q.elim
 | ex e S' =>
  rw[ha] at q;refine⟨B,X,Φ0,W,rfl,s,?_⟩;rw[ha]
  exact fun W' s' e' a'=>q σ W' s' e' (a'.mono l1)
 | ok y S1 =>
 rw[ha,Out.bind_ok] at q
 cases hx:bO js y with
 | none=>rw[hx] at q; exact q.elim
 | some o' =>
 rw[hx,Out.of_some,Out.bind_ok] at q;refine⟨B,X,Φ0,W,rfl,s,?_⟩;rw[ha];intro v W1 D1 s1 e1 a1 t1;subst e1;obtain⟨D1',t1',_⟩:=oX t1 hx
 have hk1:W1.S[k]?=some (some o):=by rw[a1.ks k jS,k1]
 obtain⟨v0,w0,F0,r1,r2,r3⟩:=s1.recv hk1 k2;refine lQ ok r1 r2 ⟨B,X,Φ0,W1,rfl,s1,?_⟩
 cases hb:b W1.S with
 | no=>rw[hb] at q; exact q.elim
 | ex e S' =>
  rw[hb] at q
  exact fun W' s' e' a'=>q σ W' s' e' ((a1.trans a').mono fun k' h=>by simp only[List.mem_append,List.mem_singleton] at h ⊢; exact .inl h)
 | ok kx S2 =>
  rw[hb,Out.bind_ok] at q;intro y2 W2 D2 s2 e2 a2 t2;subst e2
  cases hz:kx.fzv with
  | none=>rw[hz] at q; exact q.elim
  | some key =>
   rw[hz,Out.of_some,Out.bind_ok] at q
   have vk:bw K ct W2.Φ W2.H y2 key:=by
    rw[qO hz] at t2;exact t2.rep.1
   cases hm:bH k p (Fe key o') W2.S with
   | none=>rw[hm] at q; exact q.elim
   | some S3 =>
    rw[hm,Out.of_some,Out.bind_ok] at q;obtain⟨o2,c2,c3,g1,g2,g3,rfl⟩:=nG hm
    have eo:o2=o:=by
     rw[a2.ks k gD,hk1] at g1;exact(Option.some.inj (Option.some.inj g1)).symm
    subst eo;have ec:c2=c:=Option.some.inj (g2.symm.trans k2);subst ec;have a02:Step (wr1++wr2) W W2:=a1.trans a2;obtain⟨v',w',Fc,y1,z2,z3,z4,z5,mk⟩:=s2.modify (a1.trans a2) g1 g2;rw[r1] at y1
    cases y1
    have ew:=iQ r2 (s1.pathV a2 s2 gD g1 g2 r1 z2);subst ew
    cases c2 with
    | dict kvs =>
     have g3:(if kvs.length<bL/\iU kvs key=true then some (OV.dict (bJ kvs key o')) else none)=some c3:=g3;split at g3
     ·rename_i hh
      cases g3
      obtain⟨l,ps,F',rfl,b1,b2,rfl⟩:=z3
      have t1'':=t1'.step s1 a1 a2 fun _ z=>nomatch z
      have lk:l∈W2.Fs k:=z4 l (ao ..);obtain⟨xs,n1,n2,n3,n4⟩:=Am b1 (qi b2) hh.2;obtain⟨ks,e1,e2,e3,e4⟩:=ml (xx hh.2);have nv:=jq key vk e1;obtain⟨ra,rvs,er,rh,rk⟩:=jq key vk e1
      have hlen:xs.length<sizeLine:=by
       have:=wy b2;rw[n3] at this;unfold jO at this;rw[aT] at this;rw[this];exact gY hh.1
      have np:qX W2.H (dh ct) l y2 v (upd W2.H l (eQ (dh ct) l (cv xs (.tup ks) ra v))):=⟨xs,.tup ks,ra,n1,n2,er,nv,e4,hlen,rfl⟩
      have lF:l∉F':=(bT.mp z5).1;have kp:=s2.wrote (u:=eQ (dh ct) l (cv xs (.tup ks) ra v)) lk
      have dnot:∀x∈D1',∀j,x∉W2.Fs j:=fun x hx j hj=>by cases t1''.dj x hx j hj
      obtain⟨F2,m1,m2,m3⟩:=ww (key:=key) (b2.keep (fun _ z=>z) kp kvs fun b hb=>upd_ne fun e=>lF (e▸hb)) (bT.mp z5).2 (t1''.rep.keep (fun _ z=>z) kp _ fun b hb=>upd_ne fun e=>dnot b hb k (by rw[e]; exact lk)) t1''.nd fun x hx hf=>dnot x hx k (z4 x (aE _ hf))
      have lF2:l∉F2:=fun h=>by
       rcases m3 l h with h|h
       ·exact lF h
       ·exact dnot l h k lk
      have hD:∀x∈D1',¬W2.Φ x/\(∀j,x∉W2.Fs j)/\(B x=none\/x∈X)/\(Own W.Fs (wr1++wr2) x\/W.H x=none):=fun x hx=>⟨t1''.nph x hx,dnot x hx,t1'.owner s x hx,by
       rcases t1''.src x hx with h|⟨_,h,_⟩|h
       ·exact .inl h
       ·cases h
       ·exact .inr h⟩
      have nd3:hZ ct (upd W2.H l (eQ (dh ct) l (cv xs (.tup ks) ra v))) l (fun o=>upd W2.H l (eQ (dh ct) l (cv xs (.tup ks) ra v)) l=some o) (bJ ps key v):=by
       have nk:=(n1.put (v:=v) hlen (er▸nv) e4).keep (H':=upd W2.H l (eQ (dh ct) l (cv xs (.tup ks) ra v))) kp.tup
       have ep:bJ ps key v=jO (cv xs (.tup ks) ra v):=by rw[DY n1.2.1,←n3,e2]
       have fl:∀z∈cv xs (.tup ks) ra v,j8 z.1=false:=fun z hz=>by
        have hz1:z.1∈(cv xs (.tup ks) ra v).map (·.1):=pC hz;rw[D8] at hz1;have fk:j8 (.tup ks)=false:=Aj (by rw[e2]; exact e3);split at hz1
        ·obtain⟨y,hy,ey⟩:=aW.mp hz1; rw[←ey]; exact n4 y hy
        ·rcases bc.mp hz1 with y|y
         ·obtain⟨y,hy,ey⟩:=aW.mp y; rw[←ey]; exact n4 y hy
         ·rw[bm.mp y]; exact fk
       rw[ep]
       cases hq:cv xs (.tup ks) ra v with
       | nil =>
        exfalso
        unfold cv at hq;split at hq
        ·rename_i hs
         cases xs with
         | nil=>cases hs
         | cons _ _=>cases hq
        ·exact absurd (congrArg List.length hq) (by rw[cX]; simp)
       | cons z zs =>
        rw[hq] at nk fl;exact .inr (.inr ⟨z,zs,upd_same,rfl,nk,fl⟩)
      obtain⟨W',w1,w2,w3,w4,w5,_⟩:=mk (upd W2.H l (eQ (dh ct) l (cv xs (.tup ks) ra v))) (.dict (bJ kvs key o')) (l::F2) D1' (fun b z hb hn'=>by
       rw[upd_ne fun e=>hn' (by rw[e]; exact ao ..)]; exact hb) rW ⟨l,_,F2,rfl,nd3,m1,rfl⟩ (bT.mpr ⟨lF2,m2⟩) (fun x hx=>by
       rcases aU.mp hx with h|h
       ·exact .inl (by rw[h]; exact ao ..)
       ·exact(m3 x h).imp (aE _) id) hD
      refine⟨l,_,rfl,np,?_⟩;rw[←w3];exact q σ W' (b4.refl pin σ) w1 w2 w5
     ·cases g3
    | fz _=>cases g3
    | lst _=>cases g3
    | obj _ _=>cases g3
end
section
variable {X:Cx} {K:PySem.W.Frag} {ct:Tw.Ct} {e:Expr} {st:Stmt} {a b:Ef} {js wr wr1 js2 wr2 pin:List Nat} {k:Nat} {p:List PStep} {E:Exn->L2.St->Hp->Prop}
theorem nM {A:Around} {k:Nat} (hr:Room k A):A.units+9<cLine:=by
 have:=hr.units;omega
theorem BX {neg:Bool} (h:PT X e (tB (zl (dh ct) neg (tE K ct E a js wr) (dJ K (tVar k) p)))) (ok:fO K ct p) (hn:wr.contains k=false:=by decide):PT X e (tT K ct E (eB (pg neg k p a)) (wr++[k])):=wj h fun σ H Q q=>Kn ok (gC hn) (zh (js:=[]) q)
theorem B0 (h:PS X st (zI (dh ct) (dJ K (tVar k) p) (tE K ct E b js2 wr2) (tE K ct E a js wr1))) (ok:fO K ct p) (jS:wr1.contains k=false:=by decide) (gD:wr2.contains k=false:=by decide):PS X st (tS K ct E pin (pV k p js a b) (wr1++wr2++[k])):=gO h fun _ _ _=>Kh ok (gC jS) (gC gD)
end
end Mp
namespace Tw
open PySem L2 PySem.Spec PyProof.Rows
theorem Heap.IsTuple.at' {h h':Heap} {a:Addr} {items:Array Value} (x:h.IsTuple a items) (k:∀b o,h.get? b=some o->h'.get? b=some o):h'.IsTuple a items:=let ⟨o,e,r⟩:=x; ⟨o,k _ _ e,r⟩
section
variable {P:Program} {w:World} {A:Around} {E:Value->Shared->Prop} {s:Shared}
set_option maxHeartbeats 8000000 in
theorem Rr {l:Addr} {its:Array Value} (ns:List Int) {Q:Value->Shared->Prop} (hh:A.handled=none) (hl:s.heap.IsTuple l its) (hit:IntsAre its.toList ns) (hb:ns.length+1<scanBound)
  (hq:∀(h':Heap) (tk c:Nat),SetR w h' s.heap.objs.size (fun j=>decide (j∈ns)) c->c<=ns.length->(∀b o,s.heap.get? b=some o->h'.get? b=some o)->Q (.ref s.heap.objs.size) { s with heap:=h',toks:=tk }) :
  wpAny (model P w) A (call (.type "set") [.ref l]) Q E s:=by
 have size:its.size=ns.length:=by have z:=hit.length; rwa [hY] at z
 obtain⟨mc,mt,mro⟩:=F.called_set.mro;have fm:=F.called_set.made;have fs:=F.called_set.sub;refine wpAny_call (codeAny_of_tree ?_)
 show wpAny _ _ (callAny (.type "set") _) _ _ _
 refine wpAny_pure ⟨Code.quiet_builtin _ (by decide +kernel),codeAny_builtin F.entry_type_call ?_⟩;rw[Around.under_plain (weight_type_call_type "set" [.ref l] []) rfl];have f1:=F.called_set.notType;have f2:=F.called_set.canCreate;have f3:=F.typeCall_set_1 (.ref l)
 repeat (any_goals (first|assumption|wp_step))
 refine codeAny_mono (code_set_led1 (.ref l) (E:=E) (Q₁:=fun z s1=>z=.ref s.heap.objs.size/\s1={ s with heap:=s.heap.push (hJ w) }) ⟨rfl,rfl⟩) fun r s1 hr=>?_
 cases r with
 | error e=>exact hr
 | ok fl =>
  cases fl with
  | next=>exact hr.elim
  | brk=>exact hr.elim
  | cont=>exact hr.elim
  | ret z =>
   obtain⟨rfl,rfl⟩:=hr;have at0:(s.heap.push (hJ w)).get? s.heap.objs.size=some (hJ w):=Heap.get?_push_size _ rfl
   have ty0:Shared.TypeIs { s with heap:=s.heap.push (hJ w) } (.ref s.heap.objs.size) "set":=⟨_,at0,rfl⟩
   have g1:=F.called_set.init.lookup;have g2:=F.called_set.init.bind (.ref s.heap.objs.size)
   repeat (any_goals (first|assumption|wp_step))
   refine codeAny_mono (codeAny_call_builtin (R:=wants (fun v s2=>v=.none/\∃h' tk c,s2={ s with heap:=h',toks:=tk }/\SetR w h' s.heap.objs.size (fun j=>decide (j∈ns)) c/\c<=ns.length/\(∀b o,s.heap.get? b=some o->h'.get? b=some o)) E) F.called_set.init.plain F.entry_set_init (check_set_init_1 ty0 ?_)) fun v s2 hv=>?_
   ·obtain⟨⟨oc,od,oda,osl⟩,hol,hcl,nl,hdl⟩:=hl;simp only at hcl hdl;subst hcl; subst hdl;have ol1:(s.heap.push (hJ w)).get? l=some { cls:=.type "tuple",dict:=od,data:=.seq its nl,slots:=osl }:=Heap.get?_push_of_some _ hol;have k1:=F.sub_tuple_set;have k2:=F.sub_tuple_frozenset
    have k3:(Value.type "tuple"==Value.type "dict")=false:=by decide
    have ls1:(s.heap.push (hJ w)).IsTuple l its:=⟨_,ol1,rfl,nl,rfl⟩
    unfold Builtin.«set.__init__» noKeywords Builtin.Frozenset.updateFrom
    generalize gp:pyIter=PI
    wp_walk
    subst gp;refine wpAny_pyIter_tuple ls1 ?_;refine wpAny_bind (wpAny_runValue ?_);have lS:l<s.heap.objs.size:=Heap.lt_size hol
    have h3:A.in1.in1.in1.handled=none:=by simp[hh]
    have sz:(s.heap.push (hJ w)).objs.size=s.heap.objs.size+1:=Heap.size_push ..
    have lne:l≠(s.heap.push (hJ w)).objs.size:=by rw[sz]; exact jk (uW lS)
    have nf:s.heap.objs.size∉[(s.heap.push (hJ w)).objs.size,l]:=by
     rw[sz];intro z
     rcases aU.mp z with z|z
     ·exact jk (uV _) z
     ·exact Nat.ne_of_gt lS (bm.mp z)
    have val:∀(i:Nat) (v:Value),its[i]?=some v->∃k t,ns[i]?=some k/\v=.int k t:=fun i v hv=>by
     have hi:i<ns.length:=by rw[←size]; exact(Array.getElem?_eq_some_iff.mp hv).1
     obtain⟨t,e⟩:=hit.int_at i v (by rw[oa]; exact hv);refine⟨ns[i],t,c8 hi,?_⟩;rw[e,List.getD_eq_getElem?_getD,c8 hi]<;>rfl
    refine set_update_ints ((Walks.tuple h3 _ l lne its).toS) s.heap.objs.size nf ns size hb val (its.size - 0) 0 _ (by omega) (eR _) ⟨⟨_,Heap.get?_push_size _ rfl,rfl,rfl⟩,(Heap.IsTuple.at' ls1 fun b o e=>Heap.get?_push_of_some _ e)⟩ ⟨0,bS 0,setR_new_at (Heap.get?_push_of_some _ at0)⟩ fun s' c' hm hc' hS'=>?_
    obtain⟨h',g',d',tk',os'⟩:=s';have eg:g'=s.gens:=hm.gens;have ed:d'=s.drawn:=hm.drawn;have eo:os'=s.os:=hm.os;subst eg; subst ed; subst eo;refine wpAny_pure ?_
    show wpAny _ _ (ret Value.none) _ _ _
    refine wpAny_pure ⟨rfl,h',tk',c',rfl,hS',by omega,fun b o e=>?_⟩;have b0:b<s.heap.objs.size:=Heap.lt_size e;refine hm.heap b o (fun z=>?_) (Heap.get?_push_of_some _ (Heap.get?_push_of_some _ e));rw[sz] at z
    rcases aU.mp z with z|z
    ·exact jk b0 z
    ·exact jk (uW b0) (bm.mp z)
   ·cases v with
    | error e=>exact hv
    | ok fl =>
     cases fl with
     | next=>exact hv.elim
     | brk=>exact hv.elim
     | cont=>exact hv.elim
     | ret r =>
      obtain⟨rfl,h',tk,c',rfl,q1,q2,q3⟩:=hv
      repeat (any_goals (first|assumption|wp_step))
      exact hq _ _ _ q1 q2 q3
end
def sS (K:PySem.W.Frag) (w:World):List V->Hp->VK->Prop:=fun xs H Q=>DO K w xs H Q\/∃(l:Addr) (ns:List Int),xs=[.ref l]/\SqT K H l (ns.map V.int)/\ns.length<4000 /\
 ∀a c,H a=none->c<=ns.length->Q (.ref a) (upd H a (SetO w a (fun j=>decide (j∈ns)) c))
theorem GH {X:Cx} (hc:X.calm=true):CallR X (.type "set") (sS X.K X.w):=by
 intro pins s σ H xs us Q I r h
 rcases h with h|⟨l,ns,rfl,hl,hb,q⟩
 ·exact Ra hc pins s σ H xs us Q I r h
 rw[Vals.ref1 r];obtain⟨its,rv,pl,hz⟩:=I.tuple hl
 refine Rr ns (I.ok.hd hc) pl (by rw[List.toList_toArray]; exact rv.ints) (by unfold scanBound; omega) fun h' tk c R hc k=>?_
 exact⟨.ref s.heap.objs.size,_,I.laid (t':=tk) k (bS _) (setO_new R),rfl,q _ c (I.hok.fresh (bS _)) hc⟩
end Tw
namespace Mp
open PySem L2 Tw
def o6 (o:OV):Option OV:=(mu o).bind fun xs=>(gu xs).bind fun ns=>if ns.length<63 then some (ag ((uI ns).map .int)) else none
section
variable {K:PySem.W.Frag} {ct:Tw.Ct} {w:World} {E:Exn->L2.St->Hp->Prop} {σ:St} {H:Hp} {Q:VK} {a:Ef} {js wr:List Nat}
theorem MJ:lj K ct (fun v H Q=>sS K w [v] H fun x H1=>rSortedSet w [x] H1 Q) o6:=fun Φ H v o z D Q r h q=>by
 unfold o6 at h
 cases e:mu o with
 | none=>rw[e] at h; cases h
 | some xs =>
  rw[e,du] at h
  cases e2:gu xs with
  | none=>rw[e2] at h; cases h
  | some ns =>
   rw[e2,du] at h;split at h
   ·rename_i hl
    cases h
    have fin:∀b c,H b=none->c<=ns.length->rSortedSet w [.ref b] (upd H b (SetO w b (fun j=>decide (j∈ns)) c)) Q:=fun b c hb hc=>⟨b,_,c,rfl,upd_same,by omega,fun ms p' s1 s2 s3 hp'=>by
     have em:ms=uI ns:=oq s1 fun k=>by rw[s2]; simp
     have pb:p'≠b:=fun z=>by rw[z,upd_same] at hp'; cases hp'
     have pn:H p'=none:=by rw[upd_ne pb] at hp'; exact hp'
     rw[em]
     refine q _ _ [p'] (fun x u hx=>?_) ⟨p',(uI ns).map V.int,[],rfl,upd_same,by rw[aT]; exact dH (Jz ns) (dH (iY hl) (by decide)),ny (w7 _),rfl⟩ (by simp) fun x hx=>by rw[List.mem_singleton.mp hx]; exact pn
     rw[upd_ne (fun z=>by rw[z,pn] at hx; cases hx),upd_ne (fun z=>by rw[z,hb] at hx; cases hx)]
     exact hx⟩
    unfold mu at e
    cases eL:dC o with
    | some ys =>
     rw[eL] at e;have e:some ys=some xs:=e
     cases e
     obtain⟨p,vs,rfl,h3,h5,h4⟩:=jQ r eL;rw[qE e2] at h4;rw[pP h4] at h3 h5;exact .inl ⟨p,ns,rfl,.inl (.inl h3),by omega,fin⟩
    | none =>
     rw[eL,qY] at e;obtain⟨p,vs,rfl,h3,h5,h4⟩:=oZ r e;rw[qE e2] at h4;rw[pP h4] at h3 h5;exact .inr ⟨p,ns,rfl,.inl (.inl h3),by omega,fin⟩
   ·cases h
theorem JX (q:tE K ct E (aC o6 a) [] wr σ H Q):tCB (rSortedSet w) (tCons (tCB (sS K w) (tCons (tE K ct E a js wr) tNil)) tNil) σ H Q:=pS (r:=fun v H Q=>sS K w [v] H fun x H1=>rSortedSet w [x] H1 Q) MJ q
end
section
variable {X:Cx} {e:Expr} {K:PySem.W.Frag} {ct:Tw.Ct} {w:World} {a:Ef} {js wr:List Nat}
theorem B5 {E:Exn->L2.St->Hp->Prop} (h:PE X e (tCB (rSortedSet w) (tCons (tCB (sS K w) (tCons (tE K ct E a js wr) tNil)) tNil))):PE X e (tE K ct E (aC o6 a) [] wr):=cr h fun _ _ _=>JX
end
end Mp
namespace Tw
open PySem L2 PySem.Spec PyProof.Rows
end Tw
namespace Mp
open PySem L2 Tw
end Mp
namespace Tw
open PySem L2 PySem.Spec PyProof.Rows
end Tw
namespace Tw
open PySem L2 PySem.Spec PyProof.Rows
def QJ (X:Cx) (Q:VK):VK:=fun v H'=>Q v H'\/∃(d:Addr) (o:Obj) (u:HO),H' d=some (.frz o u)/\(∀o' u',X.H_0 d≠some (.frz o' u'))/\Q v (upd H' d u)
def Bd (X:Cx) (P:L2.St->Hp->Prop):L2.St->Hp->Prop:=fun σ H'=>P σ H'\/∃(d:Addr) (o:Obj) (u:HO),H' d=some (.frz o u)/\(∀o' u',X.H_0 d≠some (.frz o' u'))/\P σ (upd H' d u)
def QK (X:Cx) (D:Ends):Ends:=⟨Bd X D.nx,QJ X D.rt,Bd X D.bk,Bd X D.ct⟩
end Tw
namespace Mp
open PySem L2 Tw
def qu (B:Hp) (d:Addr) (w:HO):Hp:=fun b=>if b=d then (match B d with|none=>none|some _=>some w) else B b
def FK:List Val->Option (List Val)
 | []=>none
 | k::ks=>if (k::ks).all F4=true then some (k::ks) else none
def FJ:OV->Option (List Val)
 | .fz (.dict kvs)=>FK (kvs.map (·.1))
 | .dict kvs=>FK (kvs.map (·.1))
 | _=>none
section
variable {K:PySem.W.Frag} {ct:Tw.Ct} {E:Exn->L2.St->Hp->Prop} {B:Hp} {X:List Addr} {Φ0 P:Addr->Prop} {σ σ':L2.St} {W W':Wd} {H:Hp} {i:Nat} {v w:V} {wr pin:List Nat} {o r:OV} {a b:Ef} {p:List PStep} {D:Ends} {d:Addr} {u:HO} {od:Obj}
theorem OF (h:H d=some u) (hd:o5 u):cg P H (upd H d (.frz od u)):=fun b w hb _=>by
 by_cases e:b=d
 ·subst e;rw[h] at hb; cases hb;exact⟨_,upd_same,.inr (.inl ⟨od,rfl,hd⟩)⟩
 ·exact⟨w,by rw[upd_ne e]; exact hb,.inl rfl⟩
theorem Sat.lock (s:Sat K ct B X Φ0 σ W) (h:W.H d=some u) (hd:o5 u) (hn:∀i,d∉W.Fs i):Sat K ct (qu B d (.frz od u)) X Φ0 σ { W with H:=upd W.H d (.frz od u) } where
 len:=s.len
 sl:=fun i o hi=>let ⟨v,h1,h2⟩:=s.sl i o hi; ⟨v,h1,h2.keep (fun _ z=>z) (OF h hd) o fun b hb=>upd_ne fun e=>hn i (e▸hb)⟩
 em:=s.em
 nd:=s.nd
 dj:=s.dj
 nph:=s.nph
 own:=fun i a ha=>(s.own i a ha).imp (fun e=>by
  unfold qu;split
  ·rename_i e2; subst e2; rw[e]
  ·exact e) id
 old:=fun b o e n=>by
  show upd W.H d (.frz od u) b=some o
  unfold qu at e;split at e
  ·rename_i e2
   subst e2;rw[upd_same]
   cases q:B b with
   | none=>rw[q] at e; cases e
   | some y=>rw[q] at e; exact e
  ·rename_i e2
   rw[upd_ne e2];exact s.old b o e n
 lv:=fun b e=>by
  show upd W.H d (.frz od u) b≠none
  by_cases e2:b=d
  ·subst e2; rw[upd_same]; exact fun z=>nomatch z
  ·rw[upd_ne e2];unfold qu at e;rw[if_neg e2] at e;exact s.lv b e
 phl:=fun b e=>by
  show upd W.H d (.frz od u) b≠none
  by_cases e2:b=d
  ·subst e2; rw[upd_same]; exact fun z=>nomatch z
  ·rw[upd_ne e2]; exact s.phl b e
 phn:=fun a ha=>(s.phn a ha).imp id fun z=>z.imp id fun e=>by
  unfold qu;split
  ·rename_i e2; subst e2; rw[e]
  ·exact e
 xl:=fun a ha=>by
  unfold qu;split
  ·rename_i e2
   subst e2;have:=s.xl a ha
   cases q:B a with
   | none=>exact absurd q this
   | some y=>exact fun z=>nomatch z
  ·exact s.xl a ha
theorem dG.plain {X':Cx} {r:Out Fl} (q:dG K ct E B X Φ0 pin wr σ W D (dN r)):dG K ct E B X Φ0 pin wr σ W (QK X' D) r:=by
 match r,q with
 | .ok .nx _,q=>exact fun σ' W' p s' e st=>.inl (q σ' W' p s' e st)
 | .ok .bk _,q=>exact fun σ' W' p s' e st=>.inl (q σ' W' p s' e st)
 | .ok .ct _,q=>exact fun σ' W' p s' e st=>.inl (q σ' W' p s' e st)
 | .ok (.rt o) _,q=>exact fun σ' v W' D' p s' e st t=>.inl (q σ' v W' D' p s' e st t)
 | .ex _ _,q=>exact q.elim
 | .no,q=>exact q.elim
end
end Mp
namespace Mp
open PySem L2 Tw
end Mp
namespace Tw
open PySem L2 PySem.Spec PyProof.Rows
end Tw
namespace Mp
open PySem L2 Tw
end Mp
namespace Tw
open PySem L2 PySem.Spec PyProof.Rows
end Tw
namespace Mp
open PySem L2 Tw
end Mp
namespace Tw
open PySem L2 PySem.Spec PyProof.Rows
section
theorem vals_at {xs:List V} {its:List Value} (h:Vals xs its) {i:Nat} {v:V} (e:xs[i]?=some v):∃z,its[i]?=some z/\RelV v z:=by
 induction h generalizing i with
 | nil=>simp at e
 | cons h1 _ ih =>
  cases i with
  | zero=>cases e; exact⟨_,rfl,h1⟩
  | succ i=>exact ih (by simpa using e)
end
end Tw
namespace Tw
open PySem L2 PySem.Spec PyProof.Rows
end Tw
namespace Mp
open PySem L2 Tw
end Mp
namespace Mp
open PySem L2 Tw
end Mp
namespace Tw
open PySem L2 PyProof.Rows
section
variable {K:PySem.W.Frag} {mg:Str->Option Value}
structure DefD (K:PySem.W.Frag) (mg:Str->Option Value) (x:Str) (st:Stmt) (dvs:List V) (kws:List (Str×V)):Prop where
 ex:∃f fd,FunD K x x (defArgs st) (defBody st) (defScope st) dvs kws f fd/\mg x=some (.ref f)
end
end Tw
namespace Tw
open PySem L2 PySem.Spec PyProof.Rows
end Tw
namespace Tw
open PySem L2 PySem.Spec PyProof.Rows
structure CalD (P:Program) (w:World) (K:PySem.W.Frag) (mg:Str->Option Value) (base:Heap) (k:Nat) (x:Str) (n:Nat) (dvs:List V) (ks:List Str) (sp:Sp):Prop where
 ex:∃f fd ps ds g,FnG P w K mg base CX0 k f fd ps sp/\mg x=some (.ref f)/\PySem.W.keepIn K (.ref f)=true/\Binds K fd ps ds/\Vals dvs ds/\KBn K fd ps n ks g (fun vs zs=>vs++zs)
end Tw
namespace Tw
open PySem L2 PySem.Spec PyProof.Rows
end Tw
namespace Mp
open PySem L2 Tw
section
variable {n m:Nat} {F:be}
def QQ (n m:Nat) (F:be) (a b:Af):Ef:=fun S=>(a S).bind fun xs S1=>(b S1).bind fun ys S2=>if xs.length=n/\ys.length=m then (match F (aF (xs++ys)) with
  | .ok r _=>.ok r S2
  | .ex _ _=>.no
  | .no=>.no) else .no
def QR (ds:List Val) (F:be) (a:Af):Ef:=fun S=>(a S).bind fun xs S1=>(match F (aF (xs++ds)) with
  | .ok r _=>.ok r S1
  | .ex _ _=>.no
  | .no=>.no)
end
end Mp
namespace Mp
open PySem L2 Tw
end Mp
namespace Tw
open PySem L2 PySem.Spec PyProof.Rows
end Tw
namespace Mp
open PySem L2 Tw
section
variable {K:PySem.W.Frag} {ct:Tw.Ct} {E:Exn->L2.St->Hp->Prop} {B:Hp} {X:List Addr} {Φ0:Addr->Prop} {σ:L2.St} {W W' W1 W0:Wd} {H:Hp} {i j k:Nat} {v:V} {wr pin:List Nat} {o:OV} {a:Ef} {p:List PStep} {D:Ends}
def ux:List Nat->TGs
 | []=>gNil
 | i::is=>gCons (gName i) (ux is)
theorem E5:∀(is:List Nat) {os:List OV} {vs:List V} {wr:List Nat} {D:List Addr} {W:Wd} {σ:L2.St} {Sx:Env} {R:L2.St->Hp->Prop},(∃τ,Sat K ct B X Φ0 τ W0)->Sat K ct B X Φ0 σ W->Step wr W0 W->TmpL K ct wr W0 W vs os D->bR is os W.S=some Sx->(∀i∈is,i∉pin) ->
  (∀σ' W',b4 pin σ σ'->Sat K ct B X Φ0 σ' W'->W'.S=Sx->W'.H=W.H->Step (wr++is) W0 W'->R σ' W'.H)->ux is vs σ W.H R
 | [],[],[],wr,D,W,σ,Sx,R,_,s,a,t,hq,_,q=>by
  cases hq
  exact⟨rfl,q σ W (b4.refl pin σ) s rfl rfl (by rw[b6]; exact a)⟩
 | [],[],_::_,_,_,_,_,_,_,_,_,_,t,_,_,_=>t.rep.elim
 | [],_::_,_,_,_,_,_,_,_,_,_,_,_,hq,_,_=>by cases hq
 | _::_,[],_,_,_,_,_,_,_,_,_,_,_,hq,_,_=>by cases hq
 | _::_,_::_,[],_,_,_,_,_,_,_,_,_,t,_,_,_=>t.rep.elim
 | i :: is, o :: os, v :: vs, wr, D, W, σ, Sx, R, s0, s, a, t, hq, hp, q => by
  unfold bR at hq
  cases h4:putS W.S i o with
  | none=>rw[h4] at hq; cases hq
  | some S3 =>
   rw[h4,du] at hq;obtain⟨hi,rfl⟩:=m9 h4;obtain⟨W2,D2,s2,a2,e2,eh2,t2⟩:=t.put s0 s a hi;refine⟨v,vs,rfl,?_⟩
   show ux is vs (σ.set i (some v)) W.H R
   rw[←eh2]
   refine E5 is s0 s2 a2 t2 (by rw[e2]; exact hq) (fun j hj=>hp j (aE _ hj)) fun σ' W' p' s' e' eh' a'=>q σ' W' (b4.trans (fun l hl=>cG fun(z:i=l)=>hp i (ao ..) (z▸hl)) p') s' e' (eh'.trans eh2) (by rw[dI] at a'; exact a')
theorem DX:∀{is:List Nat} {os:List OV} {S S':Env},bR is os S=some S'->os.length=is.length
 | [],[],_,_,_=>rfl
 | [],_::_,_,_,h=>by cases h
 | _::_,[],_,_,h=>by cases h
 | i::is,o::os,S,S',h=>by
  unfold bR at h
  cases h4:putS S i o with
  | none=>rw[h4] at h; cases h
  | some S3=>rw[h4,du] at h; rw[cR,cR,DX h]
theorem Kc {is:List Nat} {fa:Cf} {ks:List (Option Nat)} (hp:∀i∈is,i∉pin) (hl:is.length<=sizeLine) (q:tS K ct E pin (bY is fa) (wr++is) D σ H):tAsg (tTup (eD K ct E fa ks wr)) (L2.gTup K is.length (ux is)) D σ H:=by
 obtain⟨B,X,Φ0,W,rfl,s,q⟩:=fT.mp q;unfold bY at q;refine⟨B,X,Φ0,W,rfl,s,?_⟩
 cases ha:fa W.S with
 | no=>rw[ha] at q; exact q.elim
 | ex e S'=>rw[ha] at q; exact fun W' s' e' a'=>q σ W' s' e' (a'.mono fun k hk=>au _ hk)
 | ok os S1 =>
 rw[ha,Out.bind_ok] at q;intro vs W1 D1 s1 e1 a1 t1 _;subst e1
 cases hq:bR is os W1.S with
 | none=>rw[hq] at q; exact q.elim
 | some Sx =>
 rw[hq] at q;have hlen:vs.length=is.length:=(lZ t1.rep).trans (DX hq);refine⟨by rw[hlen]; exact hl,fun p hp'=>?_⟩;have sm:Same W1.H (upd W1.H p (.tup vs)):=iP hp';refine⟨p,vs,rfl,.inl (.inl upd_same),hlen,?_⟩;have s1':=s1.grow sm
 have a1':Step wr W { W1 with H:=upd W1.H p (.tup vs) }:=by
  have:=a1.trans (gU sm);rw[b6] at this;exact this
 have t1':=t1.grow sm
 refine E5 is (W:={ W1 with H:=upd W1.H p (.tup vs) }) ⟨_,s⟩ s1' a1' t1' hq hp fun σ' W' p' s' e' eh a'=>?_
 exact q σ' W' p' s' e' a'
end
section
variable {X:Cx} {K:PySem.W.Frag} {ct:Tw.Ct} {E:Exn->L2.St->Hp->Prop} {st:Stmt} {wr pin is:List Nat} {fc:Cf} {ks:List (Option Nat)}
theorem HB (h:PS X st (tAsg (tTup (eD K ct E fc ks wr)) (L2.gTup K is.length (ux is)))) (h1:dj is pin=true:=by decide) (h2:is.length<=sizeLine:=by decide):PS X st (tS K ct E pin (bY is fc) (wr++is)):=gO h fun _ _ _=>Kc (iV h1) h2
end
end Mp
namespace Mp
open PySem L2 Tw
structure Cell (wr:List Nat) (W0 W:Wd) (a:Addr) (u:HO):Prop where
 at_:W.H a=some u
 nph:¬W.Φ a
 dj:∀j,a∉W.Fs j
 src:Own W0.Fs wr a\/W0.H a=none
section
variable {K:PySem.W.Frag} {ct:Tw.Ct} {B:Hp} {X:List Addr} {Φ Φ0:Addr->Prop} {σ:L2.St} {W W' W0:Wd} {H:Hp} {j k gi:Nat} {x:Val} {v:V} {wr wr':List Nat} {o c:OV} {a b:Ef} {u:HO} {ad:Addr}
theorem Cell.step (c:Cell wr W0 W ad u) (b:Step wr' W W'):Cell (wr++wr') W0 W' ad u:=by
 have no:¬Own W.Fs wr' ad:=fun⟨k,_,h⟩=>c.dj k h
 refine⟨b.fr ad u c.at_ no,fun z=>?_,fun j hj=>?_,c.src.imp (fun z=>eG.mpr (.inl z)) id⟩
 ·rcases b.pn ad z with q|q|q
  ·exact c.nph q
  ·exact no q
  ·exact(nomatch c.at_.symm.trans q)
 ·rcases b.nf j ad hj with q|q|q
  ·exact c.dj j q
  ·exact no q
  ·exact(nomatch c.at_.symm.trans q)
theorem TmpL.step {vs:List V} {os:List OV} {Dl:List Addr} (t:TmpL K ct wr W0 W vs os Dl) (s:Sat K ct B X Φ0 σ W) (b:Step wr' W W'):TmpL K ct (wr++wr') W0 W' vs os Dl:=by
 have live:=ORepL.live os t.rep
 have no:∀x∈Dl,¬Own W.Fs wr' x:=fun x hx ⟨k,_,h⟩=>t.dj x hx k h
 have ne:∀x∈Dl,W.H x≠none:=fun x hx z=>by
  obtain⟨u,e,_⟩:=live x hx;exact(nomatch e.symm.trans z)
 refine⟨t.rep.keep b.ph (s.keeps b) os fun x hx=>?_,t.nd,fun x hx z=>?_,fun x hx k hk=>?_,fun x hx=>(t.src x hx).imp (fun z=>eG.mpr (.inl z)) id⟩
 ·obtain⟨u,e,_⟩:=live x hx;rw[e,b.fr x u e (no x hx)]
 ·rcases b.pn x z with q|q|q
  ·exact t.nph x hx q
  ·exact no x hx q
  ·exact ne x hx q
 ·rcases b.nf k x hk with q|q|q
  ·exact t.dj x hx k q
  ·exact no x hx q
  ·exact ne x hx q
theorem Cell.mono (c:Cell wr W0 W ad u) (h:∀k∈wr,k∈wr'):Cell wr' W0 W ad u:=⟨c.at_,c.nph,c.dj,c.src.imp (fun⟨k,hk,z⟩=>⟨k,h k hk,z⟩) id⟩
theorem TmpL.mono {vs:List V} {os:List OV} {Dl:List Addr} (t:TmpL K ct wr W0 W vs os Dl) (h:∀k∈wr,k∈wr'):TmpL K ct wr' W0 W vs os Dl:=⟨t.rep,t.nd,t.nph,t.dj,fun x hx=>(t.src x hx).imp (fun⟨k,hk,z⟩=>⟨k,h k hk,z⟩) id⟩
theorem Ey:∀{os1 os2:List OV} {v1 v2:List V} {D1 D2:List Addr},ORepL K ct Φ H v1 os1 D1->ORepL K ct Φ H v2 os2 D2->ORepL K ct Φ H (v1++v2) (os1++os2) (D1++D2)
 | [],os2,[],v2,D1,D2,h,h2=>by
  have h:D1=[]:=h;subst h;exact h2
 | [],_,_::_,_,_,_,h,_=>h.elim
 | _::_,_,[],_,_,_,h,_=>h.elim
 | o::os1,os2,v::v1,v2,D1,D2,h,h2=>by
  obtain⟨F1,F2,rfl,h3,h4⟩:=h;exact⟨F1,F2++D2,dI ..,h3,Ey h4 h2⟩
theorem TmpL.take {v1 v2:List V} {o1 o2:List OV} {o:OV} {D1 F D2:List Addr} (s0:∃τ,Sat K ct B X Φ0 τ W0) (s:Sat K ct B X Φ0 σ W) (h1:ORepL K ct W.Φ W.H v1 o1 D1) (h:aR K ct W.Φ W.H v o F) (h2:ORepL K ct W.Φ W.H v2 o2 D2) (nd:(D1++(F++D2)).Nodup) (nph:∀a∈D1++(F++D2),¬W.Φ a) (dj:∀a∈D1++(F++D2),∀k,a∉W.Fs k) (src:∀a∈D1++(F++D2),Own W0.Fs wr a\/W0.H a=none)
  (hi:gi<W.S.length):Sat K ct B X Φ0 (σ.set gi (some v)) { W with S:=W.S.set gi (some o),Fs:=bv W.Fs gi F }/\TmpL K ct wr W0 { W with S:=W.S.set gi (some o),Fs:=bv W.Fs gi F } (v1++v2) (o1++o2) (D1++D2):=by
 have inF:∀a∈F,a∈D1++(F++D2):=fun a ha=>aJ _ (au _ ha)
 have inR:∀a∈D1++D2,a∈D1++(F++D2):=fun a ha=>(bc.mp ha).elim (au _) fun z=>aJ _ (aJ _ z)
 obtain⟨n1,n2,n3⟩:=cA.mp nd;obtain⟨n4,n5,n6⟩:=cA.mp n2
 have neF:∀a∈D1++D2,a∉F:=fun a ha hF=>(bc.mp ha).elim (fun z=>n3 a z a (au _ hF) rfl) fun z=>n6 a hF a z rfl
 obtain⟨τ,s0⟩:=s0
 have owner:∀a∈F,B a=none\/a∈X:=fun a ha=>by
  rcases src a (inF a ha) with⟨k,_,z⟩|z
  ·exact s0.own k a z
  ·refine .inl ?_
   cases e:B a with
   | none=>rfl
   | some u=>exact absurd z (s0.lv a (by rw[e]; exact fun z=>nomatch z))
 refine⟨s.put h n4 (fun a ha=>nph a (inF a ha)) (fun a ha k hk=>absurd hk (dj a (inF a ha) k)) owner hi,Ey h1 h2,cA.mpr ⟨n1,n5,fun a ha b hb=>n3 a ha b (aJ _ hb)⟩,fun a ha=>nph a (inR a ha),fun a ha k hk=>?_,fun a ha=>src a (inR a ha)⟩;have hk:a∈bv W.Fs gi F k:=hk
 by_cases e:k=gi
 ·subst e; rw[eX] at hk; exact neF a ha hk
 ·rw[b7 e] at hk; exact dj a (inR a ha) k hk
end
end Mp
namespace Mp
open PySem L2 Tw
section
variable {K:PySem.W.Frag} {ct:Tw.Ct} {B:Hp} {X:List Addr} {Φ0:Addr->Prop} {σ:St} {W W1:Wd} {H:Hp} {wr:List Nat}
structure LcAtO (K:PySem.W.Frag) (ct:Tw.Ct) (B:Hp) (X:List Addr) (Φ0:Addr->Prop) (σ:L2.St) (vs wr:List Nat) (W1:Wd) (Dn:Addr) (ys:List OV) (W:Wd):Prop where
 s:Sat K ct B X Φ0 (wipe σ vs) W
 st:Step wr (W1.wiped vs) W
 nf:∀k,Dn∉W.Fs k
 np:¬W.Φ Dn
 acc:∃acc Do,W.H Dn=some (.lst acc)/\TmpL K ct wr (W1.wiped vs) W acc ys Do/\Dn∉Do
end
end Mp
namespace Tw
open PySem L2 PySem.Spec PyProof.Rows
end Tw
namespace Mp
open PySem L2
end Mp
namespace Mp
open PySem L2 Tw
def QN (c:Str) (F:be) (js:List Nat) (a:Ef):Ef:=fun S=>(a S).bind fun o S1=>(Out.of (aI js o) S1).bind fun x _=>match nL c x with
 | false=>.no
 | true=>match F [.fz x] with
  | .ok (.fz (.str z)) _=>.ok (vS z) S1
  | _=>.no
mutual
def Ej:Val->Bool
 | .int _=>true
 | .none=>true
 | .tup xs=>decide (xs.length<bL) && plainNs xs
 | _=>false
def plainNs:List Val->Bool
 | []=>true
 | x::xs=>Ej x && plainNs xs
end
def Pi (a:Ef):Af:=fun S=>(a S).bind fun o S1=>Out.of (FJ o) S1
end Mp
namespace Mp
open PySem L2 Tw
inductive PTgt where
 | nm (i:Nat)|put (k:Nat) (key:Str)
def PTgt.slot:PTgt->Nat
 | .nm i=>i
 | .put k _=>k
def PTgt.run:PTgt->OV->Env->Option Env
 | .nm i,o,S=>putS S i o
 | .put k key,o,S=>bH k [] (N7 (.str key) o) S
def oJ:List PTgt->List OV->Env->Option Env
 | [],[],S=>some S
 | t::ts,o::os,S=>(t.run o S).bind (oJ ts os)
 | _,_,_=>none
def PTgt.ok (pin:List Nat):PTgt->Prop
 | .nm i=>i∉pin
 | .put _ key=>ia key
def Lu (ts:List PTgt) (fa:Cf):Sf:=fun S=>(fa S).bind fun os S1=>(Out.of (oJ ts os S1) S1).bind fun S2 _=>.ok .nx S2
end Mp
namespace Tw
open PySem L2 PySem.Spec PyProof.Rows
structure CalK (P:Program) (w:World) (K:PySem.W.Frag) (mg:Str->Option Value) (base:Heap) (k:Nat) (x:Str) (ps:List Str) (sp:Sp):Prop where
 ex:∃f fd,FnG P w K mg base CX0 k f fd ps sp/\mg x=some (.ref f)/\PySem.W.keepIn K (.ref f)=true/\∃oc od osl,K.lookup f=some ⟨oc,od,.func fd,osl⟩
structure KFactP (K:PySem.W.Frag) (mg:Str->Option Value) (x:Str) (ps:List Str) (n:Nat) (ks:List Str) (gV:List V->List V->List V):Prop where
 ex:∃f fd oc od osl g,mg x=some (.ref f)/\K.lookup f=some ⟨oc,od,.func fd,osl⟩/\KBn K fd ps n ks g gV
structure DFact (K:PySem.W.Frag) (mg:Str->Option Value) (x:Str) (ps:List Str) (dvs:List V):Prop where
 ex:∃f fd oc od osl ds,mg x=some (.ref f)/\K.lookup f=some ⟨oc,od,.func fd,osl⟩/\Vals dvs ds/\Binds K fd ps ds
end Tw
namespace Mp
open PySem L2 Tw
end Mp
namespace Mp
open PySem L2 Tw
def Wp {α:Type} (o:Out α) (Q:α->Env->Prop):Prop:=match o with
 | .ok a S=>Q a S
 | _=>False
section
variable {α β:Type} {o:Out α} {S:Env} {Q Q':α->Env->Prop}
theorem dB {o:Out α} {Q:α->Env->Prop} (h:Wp o Q):∃a S,o=.ok a S/\Q a S:=by
 cases o with
 | ok a S=>exact⟨a,S,rfl,h⟩
 | ex _ _=>exact h.elim
 | no=>exact h.elim
theorem bG {a:α} (e:o=.ok a S) (h:Q a S):Wp o Q:=by rw[e]; exact h
theorem aH (h:Wp o Q) (m:∀a S,Q a S->Q' a S):Wp o Q':=by
 obtain⟨a,S,e,q⟩:=dB h;exact bG e (m a S q)
theorem av {k:α->Env->Out β} {Q:β->Env->Prop} (h:Wp o fun a S=>Wp (k a S) Q):Wp (o.bind k) Q:=by
 obtain⟨a,S,e,q⟩:=dB h;rw[e];exact q
theorem bx {o:Option α} (h:∃a,o=some a/\Q a S):Wp (Out.of o S) Q:=by
 obtain⟨a,e,q⟩:=h;rw[e];exact q
theorem Ci (h:Wp o Q):Wp (dN o) Q:=by
 obtain⟨a,S,e,q⟩:=dB h;rw[e];exact q
theorem Bb {o:Option α} {P:α->Prop} {z:α} (h:o=some z) (q:P z):∃z,o=some z/\P z:=⟨z,h,q⟩
end
theorem Px {A B:Prop} (h:A):(true=true->A)/\(true=false->B):=⟨fun _=>h,fun z=>(nomatch z)⟩
theorem PH {A B:Prop} (h:B):(false=true->A)/\(false=false->B):=⟨fun z=>(nomatch z),fun _=>h⟩
theorem Pw {A B:Prop} (h:B):(true=false->A)/\(true=true->B):=⟨fun z=>(nomatch z),fun _=>h⟩
theorem PF {A B:Prop} (h:A):(false=false->A)/\(false=true->B):=⟨fun _=>h,fun z=>(nomatch z)⟩
theorem QG {p:Bool} {P:Bool->Prop} (q:P p):∃x,OV.fz (.bool p)=.fz (.bool x)/\P x:=⟨p,rfl,q⟩
theorem QF {u:Val} {P:Val->Prop} (q:P u):∃x,OV.fz u=.fz x/\P x:=⟨u,rfl,q⟩
theorem QE {i:Int} {P:Int->Prop} (q:P i):∃x,OV.fz (.int i)=.fz (.int x)/\P x:=⟨i,rfl,q⟩
theorem Qy {z:Str} {P:Str->Prop} (q:P z):∃x,OV.fz (.str z)=.fz (.str x)/\P x:=⟨z,rfl,q⟩
theorem RJ {n:Nat} {P:Prop} (h:n<900000) (q:P):n<900000/\P:=⟨h,q⟩
theorem QB {o:OV} {P:OV->Prop} (q:P o):∃x,([some o]:Env)=[some x]/\P x:=⟨o,rfl,q⟩
inductive SetAt:Env->Nat->Option OV->Env->Prop
 | z {x:Option OV} {S:Env} {o:Option OV}:SetAt (x::S) 0 o (o::S)
 | s {x:Option OV} {S S':Env} {k:Nat} {o:Option OV}:SetAt S k o S'->SetAt (x::S) (k+1) o (x::S')
theorem Qz {S S':Env} {k:Nat} {o:Option OV} {P:Env->Prop} (h:SetAt S k o S') (q:P S'):∃S',SetAt S k o S'/\P S':=⟨S',h,q⟩
theorem SetAt.set {S S':Env} {k:Nat} {o:Option OV} (h:SetAt S k o S'):S.set k o=S'/\k<S.length:=by
 induction h with
 | z=>exact⟨rfl,Nat.succ_pos _⟩
 | s _ ih=>exact⟨congrArg _ ih.1,Nat.succ_lt_succ ih.2⟩
def thn (P:Env->Prop) (Q:Fl->Env->Prop):Fl->Env->Prop
 | .nx,S=>P S
 | fl,S=>Q fl S
def kO (P:Env->Prop) (Q:Fl->Env->Prop):Fl->Env->Prop
 | .nx,S=>P S
 | .ct,S=>P S
 | .bk,S=>Q .nx S
 | .rt o,S=>Q (.rt o) S
def nR (io:List Nat) (Q:OV->Env->Prop):Fl->Env->Prop
 | .rt o,S=>Q o (oM io S)
 | .nx,S=>Q (.fz .none) (oM io S)
 | _,_=>False
inductive StA:Nat->List OV->Env->Prop
 | z:StA 0 [] []
 | n {n:Nat} {S:Env}:StA n [] S->StA (n+1) [] (none::S)
 | c {n:Nat} {o:OV} {os:List OV} {S:Env}:StA n os S->StA (n+1) (o::os) (some o::S)
theorem StA.eq {n:Nat} {os:List OV} {S:Env} (h:StA n os S):kC n os=S:=by
 induction h with
 | z=>rfl
 | @n n S _ ih =>
  have ih:List.replicate n none=S:=ih
  show List.replicate (n+1) none=none::S
  rw[List.replicate_succ,ih]
 | @c n o os S _ ih =>
  show some o::(os.map some++List.replicate (n+1 - (os.length+1)) none)=some o::S
  rw[Nat.add_sub_add_right,←ih]<;>rfl
def ei:Env->List Nat->List (Option OV)->Env
 | S,k::ks,v::vs=>ei (S.set k v) ks vs
 | S,_,_=>S
section
variable {a b c:Ef} {S S' S1 S2 S3:Env} {x y z o r:OV} {u v w:Val} {js js1 js2:List Nat} {fa ga:Af} {fc:Cf} {g:Gf} {f h':Sf} {t t':Tf} {F:be} {k i j n m:Nat} {p q:Bool} {Q:OV->Env->Prop} {QT:Bool->Env->Prop} {QA:List Val->Env->Prop} {QC:List OV->Env->Prop} {QS:Fl->Env->Prop}
theorem H9 (h:S[k]?=some (some o)) (q:Q o S):Wp (ac k S) Q:=by
 unfold ac;rw[h];exact q
theorem IW (h:S[k]?=some (some o)) (hs:SetAt S k (some (.fz o.val)) S') (q:Q (.fz o.val) S'):Wp (dY k S) Q:=by
 unfold dY;rw[h]
 show Q _ (S.set k (some (.fz o.val)))
 rw[hs.set.1];exact q
theorem yx (h:S[k]?=some (some o)) (hs:SetAt S k none S') (q:Q o S'):Wp (cP k S) Q:=by
 unfold cP;rw[h]
 show Q _ (S.set k none)
 rw[hs.set.1];exact q
theorem Jh (q:Q (.fz u) S):Wp (eC u S) Q:=q
theorem Is {gg:OV->OV->Option OV} (h:Wp (a S) fun x S1=>Wp (b S1) fun y S2=>∃z,gg x y=some z/\Q z S2):Wp (ae gg a b S) Q :=
 av (aH h fun _ _ h=>av (aH h fun _ _ h=>bx h))
theorem Ir {gg:OV->OV->Option OV} (h:Wp (a S) fun x S1=>Wp (b S1) fun y S2=>∃z,gg x y=some z/\Q z S2):Wp (dD gg a b S) Q :=
 av (aH h fun _ _ h=>av (Ci (aH h fun _ _ h=>bx h)))
theorem Cg {gg:OV->Option OV} (h:Wp (a S) fun x S1=>∃z,gg x=some z/\Q z S1):Wp (aC gg a S) Q :=
 av (aH h fun _ _ h=>bx h)
theorem Ce {gg:List Val->Option OV} (h:Wp (fa S) fun x S1=>∃z,gg x=some z/\Q z S1):Wp (c6 gg fa S) Q :=
 av (aH h fun _ _ h=>bx h)
theorem IZ {s:Str} (h:Wp (a S) fun x S1=>∃z,pc s x=some z/\Q z S1):Wp (jd s a S) Q:=Cg h
theorem Cn (h:Wp (a S) fun x S1=>∃p,x=.fz (.bool p)/\QT p S1):Wp (eB a S) QT :=
 av (aH h fun _ _ ⟨p,e,q⟩=>bx ⟨p,by rw[e]<;>rfl,q⟩)
theorem IV (h:Wp (a S) fun x S1=>∃u,x=.fz u/\Q (.fz u) S1):Wp (uF a S) Q :=
 av (aH h fun _ _ ⟨u,e,q⟩=>av (bx ⟨u,by rw[e]<;>rfl,q⟩))
theorem IA (h:Wp (t S) fun p S1=>QT (!p) S1):Wp (cb t S) QT:=av h
theorem lM (h:Wp (t S) fun p S1=>(p=false->QT false S1)/\(p=true->Wp (t' S1) QT)):Wp (cE t t' S) QT :=
 av (aH h fun p _ h=>by
  cases p with
  | true=>exact h.2 rfl
  | false=>exact h.1 rfl)
theorem yw (h:Wp (t S) fun p S1=>(p=true->QT true S1)/\(p=false->Wp (t' S1) QT)):Wp (cD t t' S) QT :=
 av (aH h fun p _ h=>by
  cases p with
  | true=>exact h.1 rfl
  | false=>exact h.2 rfl)
theorem Cp (h:Wp (t S) fun p S1=>S1=S/\Wp (t' S) fun q S2=>S2=S/\QT (p && q) S):Wp (cE t t' S) QT :=
 lM (aH h fun p S1 ⟨e,h⟩=>by
  subst e;obtain⟨q,S2,e2,e3,q1⟩:=dB h;subst e3;refine⟨fun z=>?_,fun z=>?_⟩
  ·subst z; exact q1
  ·subst z; exact bG e2 q1)
theorem Iq (h:Wp (t S) fun p S1=>S1=S/\Wp (t' S) fun q S2=>S2=S/\QT (p || q) S):Wp (cD t t' S) QT :=
 yw (aH h fun p S1 ⟨e,h⟩=>by
  subst e;obtain⟨q,S2,e2,e3,q1⟩:=dB h;subst e3;refine⟨fun z=>?_,fun z=>?_⟩
  ·subst z; exact q1
  ·subst z; exact bG e2 q1)
theorem Cd (q:QT true S):Wp (bP S) QT:=q
theorem IU (h:Wp (t S) fun p S1=>(p=true->Wp (a S1) Q)/\(p=false->Wp (b S1) Q)):Wp (dX t a b S) Q :=
 av (aH h fun p _ h=>by
  cases p with
  | true=>exact h.1 rfl
  | false=>exact h.2 rfl)
theorem I8 (h:Wp (a S) fun x S1=>∃p,x=.fz (.bool p)/\(p=false->Q (.fz (.bool false)) S1)/\(p=true->Wp (b S1) Q)):Wp (dF a b S) Q :=
 av (Cn (aH h fun x _ ⟨p,e,h⟩=>⟨p,e,by
  cases p with
  | true=>exact h.2 rfl
  | false=>exact h.1 rfl⟩))
theorem Jk (q:QA [] S):Wp (az S) QA:=q
theorem Jl (h:Wp (a S) fun x S1=>∃u,aI js x=some u/\Wp (fa S1) fun us S2=>QA (u::us) S2):Wp (ah js a fa S) QA :=
 av (aH h fun _ _ ⟨u,e,h⟩=>av (bx ⟨u,e,av h⟩))
theorem Ia (h:Wp (fa S) fun us S1=>us.length<900000/\Q (.fz (.tup us)) S1):Wp (cj fa S) Q :=
 Ce (aH h fun _ _ h=>⟨_,if_pos (Nat.lt_trans h.1 (by decide)),h.2⟩)
theorem IH (h:Wp (fa S) fun us S1=>us.length<900000/\Q (ag us) S1):Wp (cM fa S) Q :=
 Ce (aH h fun _ _ h=>⟨_,if_pos (Nat.lt_trans h.1 (by decide)),h.2⟩)
theorem I7 (q:Q (.dict []) S):Wp (dZ S) Q:=q
theorem Ic {l hh:Env->Out (Option Int)} (h:Wp (a S) fun x S1=>Wp (l S1) fun lo S2=>Wp (hh S2) fun hi S3=>∃z,k7 x lo hi=some z/\Q z S3):Wp (cY a l hh S) Q :=
 av (aH h fun _ _ h=>av (aH h fun _ _ h=>av (aH h fun _ _ h=>bx h)))
theorem IB {Q:Option Int->Env->Prop} (q:Q none S):Wp (c7 S) Q:=q
theorem Im {Q:Option Int->Env->Prop} (h:Wp (a S) fun x S1=>∃i,x=.fz (.int i)/\Q (some i) S1):Wp (c5 a S) Q :=
 av (aH h fun _ _ ⟨u,e,q⟩=>av (bx ⟨u,by rw[e]<;>rfl,q⟩))
theorem Ja {Q:List (Val×OV)->Env->Prop} (q:Q [] S):Wp (d7 S) Q:=q
theorem Jb {d:Df} {s:Str} {Q:List (Val×OV)->Env->Prop} (h:Wp (a S) fun x S1=>∃r,bO js x=some r/\Wp (d S1) fun kvs S2=>Q ((.str s,r)::kvs) S2):Wp (cQ s js a d S) Q :=
 av (aH h fun _ _ ⟨u,e,h⟩=>av (bx ⟨u,e,av h⟩))
theorem I9 {d:Df} (h:Wp (d S) fun kvs S1=>∃z,qN kvs=some z/\Q z S1):Wp (dE d S) Q:=av (aH h fun _ _ h=>bx h)
theorem Iu (q:QC [] S):Wp (aS S) QC:=q
theorem Iy (h:Wp (a S) fun x S1=>∃u,aI js x=some u/\Wp (fc S1) fun os S2=>QC (.fz u::os) S2):Wp (aq js a fc S) QC :=
 av (aH h fun _ _ ⟨u,e,h⟩=>av (bx ⟨u,e,av h⟩))
theorem Iv (h:Wp (a S) fun x S1=>∃r,bO js x=some r/\Wp (fc S1) fun os S2=>QC (r::os) S2):Wp (de js a fc S) QC :=
 av (aH h fun _ _ ⟨u,e,h⟩=>av (bx ⟨u,e,av h⟩))
theorem Ix (h:S[k]?=some (some o)) (hs:SetAt S k none S') (q:Wp (fc S') fun os S2=>QC (o::os) S2):Wp (cK k fc S) QC :=
 av (yx h hs (av q))
theorem Iw (h:S[k]?=some (some o)) (q:Wp (fc S) fun os S2=>∃o' S3,S2[k]?=some (some o')/\SetAt S2 k none S3/\QC (o'::os) S3):Wp (Nw k fc S) QC:=by
 refine av (o:=cP k S) ?_;unfold cP;rw[h];exact av (aH q fun os S2 ⟨o',S3,e,hs,q⟩=>av (yx e hs q))
theorem yF {ks:List (Option Nat)} {io:List Nat} (h:Wp (fc S) fun os S1=>Wp (F os) fun r outs=>Q r (jy (ke ks io) outs S1)):Wp (bo F fc ks io S) Q :=
 av (aH h fun os S1 h=>by
  obtain⟨r,outs,e,q⟩:=dB h;rw[e]
  exact q)
theorem Jg {ks:List (Option Nat)} (h:Wp (fc S) fun os S1=>Wp (F os) fun r _=>Q r S1):Wp (bo F fc ks [] S) Q :=
 yF (aH h fun _ _ h=>aH h fun _ _ q=>q)
theorem Jf {ks:List (Option Nat)} (h:Wp (fc S) fun os S1=>Wp (F os) fun r outs=>∃o S2,outs=[o]/\SetAt S1 k o S2/\Q r S2):Wp (bo F fc (some k::ks) [0] S) Q :=
 yF (aH h fun _ S1 h=>aH h fun r outs ⟨o,S2,e,hs,q⟩=>by
  subst e
  show Q r (S1.set k o)
  rw[hs.set.1]
  exact q)
theorem Je {ds:List Val} (h:Wp (fa S) fun us S1=>Wp (F (aF (us++ds))) fun r _=>Q r S1):Wp (QR ds F fa S) Q :=
 av (aH h fun us S1 h=>by
  obtain⟨r,outs,e,q⟩:=dB h;rw[e]
  exact q)
theorem Jc (h:Wp (fa S) fun us S1=>Wp (ga S1) fun ws S2=>(us.length=n/\ws.length=m)/\Wp (F (aF (us++ws))) fun r _=>Q r S2):Wp (QQ n m F fa ga S) Q :=
 av (aH h fun us S1 h=>av (aH h fun ws S2 ⟨hl,h⟩=>by
  obtain⟨r,outs,e,q⟩:=dB h;rw[if_pos hl,e]
  exact q))
theorem Jd {ix:List Nat} (h:Wp (fa S) fun us S1=>Wp (ga S1) fun ws S2=>(us.length=n/\ws.length=m)/\Wp (F (aF (gJ ix (us++ws)))) fun r _=>Q r S2):Wp (eO ix n m F fa ga S) Q :=
 av (aH h fun us S1 h=>av (aH h fun ws S2 ⟨hl,h⟩=>by
  obtain⟨r,outs,e,q⟩:=dB h;rw[if_pos hl,e]
  exact q))
theorem IF {cl mn:Str} {ks:List (Option Nat)} (h:Wp (a S) fun x S1=>∃u,aI js x=some u/\mX cl mn u=true/\Wp (fc S1) fun os S2=>Wp (F (.fz u::os)) fun r _=>Q r S2):Wp (di cl mn js a F fc ks [] S) Q :=
 av (aH h fun x S1 ⟨u,e,hs,h⟩=>av (bx ⟨u,e,by
  show Wp (match mX cl mn u with
   | false=>.no
   | true=>_) _
  rw[hs]
  exact av (aH h fun os S2 h=>by
   obtain⟨r,outs,e,q⟩:=dB h;rw[e]
   exact q)⟩))
theorem IG {cl:Str} (h:Wp (fa S) fun us S1=>Wp (F (.obj cl []::aF us)) fun r outs=>r=.fz .none/\∃o,outs=[some o]/\Q o S1):Wp (dW cl F fa S) Q :=
 av (aH h fun us S1 h=>by
  obtain⟨r,outs,e,e2,o,e3,q⟩:=dB h;subst e2;subst e3;rw[e]
  exact q)
theorem Ib {cl:Str} (h:Wp (a S) fun x S1=>∃u,aI js x=some u/\nL cl u=true/\Wp (F [.fz u]) fun r _=>∃z,r=.fz (.str z)/\Q (.fz (.str z)) S1):Wp (QN cl F js a S) Q :=
 av (aH h fun x S1 ⟨u,e,hs,h⟩=>av (bx ⟨u,e,by
  show Wp (match nL cl u with
   | false=>.no
   | true=>_) _
  rw[hs];obtain⟨r,outs,e,z,e2,q⟩:=dB h;subst e2
  show Wp (match F [.fz u] with
   | .ok (.fz (.str z)) _=>.ok (vS z) S1
   | _=>.no) _
  rw[e]
  exact q⟩))
theorem Iz {kk:Val->Val->Env->Out OV} (h:Wp (a S) fun x S1=>∃u,aI js1 x=some u/\Wp (b S1) fun y S2=>∃v,aI js2 y=some v/\Wp (kk u v S2) Q):Wp (o2 js1 js2 a b kk S) Q :=
 av (aH h fun _ _ ⟨u,e,h⟩=>av (bx ⟨u,e,av (aH h fun _ _ ⟨v,e,h⟩=>av (bx ⟨v,e,h⟩))⟩))
theorem JK:aI [] (.fz u)=some u:=rfl
theorem JM:aI (j::js) (.fz u)=some u:=rfl
theorem JL {us:List Val}:aI [] (ag us)=some (.lst us):=by
 show some (Val.lst (OV.vals (aF us)))=_
 have e:∀us:List Val,OV.vals (aF us)=us:=fun us=>by
  induction us with
  | nil=>rfl
  | cons a us ih =>
   show a::OV.vals (aF us)=a::us
   rw[ih]
 rw[e]
theorem JJ:aI [] o=some o.val:=rfl
theorem OG:bO [] o=some o:=rfl
theorem OH:bO (j::js) (.fz u)=some (.fz u):=rfl
theorem Pf {us:List Val}:fg (.fz (.tup us))=some us:=rfl
theorem Ph {us:List Val}:fg (.fz (.lst us))=some us:=rfl
theorem Pg {s:Str}:fg (.fz (.str s))=some (mH s):=rfl
theorem FS {us:List Val}:fg (ag us)=some us:=by
 show jg (aF us)=some us
 induction us with
 | nil=>rfl
 | cons a us ih =>
  show(jg (aF us)).bind _=_
  rw[ih]<;>rfl
theorem NF {us:List Val}:oN (ag us)=some us:=FS
theorem IC (q:QS .nx S):Wp (aj S) QS:=q
theorem Js {P:Env->Prop} (h:P S):thn P QS .nx S:=h
theorem Jr {P:Env->Prop} (h:QS (.rt o) S):thn P QS (.rt o) S:=h
theorem Ox {P:Env->Prop} (h:P S):kO P QS .nx S:=h
theorem Ow {P:Env->Prop} (h:QS (.rt o) S):kO P QS (.rt o) S:=h
theorem Qt (h:Q o []):nR [] Q (.rt o) S:=h
theorem Qv (h:Q (.fz .none) []):nR [] Q .nx S:=h
theorem Qs {x:Option OV} (h:Q o [x]):nR [0] Q (.rt o) (x::S):=by
 show Q o [(some x).join]
 cases x<;>exact h
theorem Qu {x:Option OV} (h:Q (.fz .none) [x]):nR [0] Q .nx (x::S):=by
 show Q (.fz .none) [(some x).join]
 cases x<;>exact h
theorem iq {np n:Nat} {io:List Nat} {gg:Sf} {os:List OV} (hl:os.length=np) (hs:StA n os S) (h:Wp (gg S) (nR io Q)):Wp (cm np n io gg os) Q:=by
 unfold cm;rw[if_pos hl,hs.eq];obtain⟨fl,S1,e,q⟩:=dB h;rw[e]
 cases fl with
 | nx=>exact q
 | bk=>exact q.elim
 | ct=>exact q.elim
 | rt o=>exact q
theorem jZ {X:OV} {O:Env} {R:Out OV} (h:Wp R fun r outs=>r=X/\outs=O):R=.ok X O:=by
 obtain⟨r,S1,e,rfl,rfl⟩:=dB h;exact e
theorem yu (h:Wp (f S) (thn (fun S1=>Wp (h' S1) QS) QS)):Wp (af f h' S) QS :=
 av (aH h fun fl S1 h=>by
  cases fl with
  | nx=>exact h
  | bk=>exact h
  | ct=>exact h
  | rt o=>exact h)
theorem Ih (h:Wp (f S) QS):Wp (af f aj S) QS:=yu (aH h fun fl S1 h=>by
  cases fl with
  | nx=>exact h
  | bk=>exact h
  | ct=>exact h
  | rt o=>exact h)
theorem Ij (q:QS (.rt (.fz .none)) S):Wp (fV S) QS:=q
theorem Ik (h:Wp (a S) fun x S1=>∃r,bO js x=some r/\QS (.rt r) S1):Wp (aX js a S) QS :=
 av (aH h fun _ _ ⟨r,e,q⟩=>av (bx ⟨r,e,q⟩))
theorem I6 (h:Wp (a S) fun _ S1=>QS .nx S1):Wp (cC a S) QS:=av h
theorem Ii (h:Wp (t S) fun p S1=>(p=true->Wp (f S1) QS)/\(p=false->Wp (h' S1) QS)):Wp (bj t f h' S) QS :=
 av (aH h fun p _ h=>by
  cases p with
  | true=>exact h.1 rfl
  | false=>exact h.2 rfl)
theorem Ji (h:Wp (a S) fun x S1=>∃u,aI js x=some u/\∃S2,g u S1=some S2/\QS .nx S2):Wp (aZ js a g S) QS :=
 av (aH h fun _ _ ⟨u,e,S2,e2,q⟩=>av (bx ⟨u,e,av (bx ⟨S2,e2,q⟩)⟩))
theorem Qo (hs:SetAt S i (some (.fz u)) S'):gN i u S=some S':=by
 show(if i<S.length then some (S.set i (some (.fz u))) else none)=_
 rw[if_pos hs.set.2,hs.set.1]
theorem Qm {gs:iM} {us:List Val} (hl:us.length=n) (h:gs us S=some S'):gT n gs (.tup us) S=some S':=by
 show(if us.length=n then gs us S else none)=_
 rw[if_pos hl,h]
theorem Qf:jc [] S=some S:=rfl
theorem Qg {gs:iM} {us:List Val} (h:g u S=some S1) (h2:gs us S1=some S2):dS g gs (u::us) S=some S2:=by
 show(g u S).bind (fun S1=>gs us S1)=_
 rw[h];exact h2
theorem Ig (h:Wp (a S) fun x S1=>∃r,bO js x=some r/\∃S2,SetAt S1 i (some r) S2/\QS .nx S2):Wp (ci i js a S) QS :=
 av (aH h fun _ S1 ⟨r,e,S2,hs,q⟩=>av (bx ⟨r,e,av (bx ⟨S2,by
  show(if i<S1.length then some (S1.set i (some r)) else none)=_
  rw[if_pos hs.set.2,hs.set.1],q⟩)⟩))
theorem D0 (hs:SetAt S i (some o) S'):putS S i o=some S':=by
 show(if i<S.length then some (S.set i (some o)) else none)=_
 rw[if_pos hs.set.2,hs.set.1]
theorem L8:bR [] [] S=some S:=rfl
theorem L9 {is:List Nat} {os:List OV} (hs:SetAt S i (some o) S1) (h:bR is os S1=some S2):bR (i::is) (o::os) S=some S2:=by
 show(putS S i o).bind (bR is os)=_
 rw[D0 hs];exact h
theorem Ip {is:List Nat} (h:Wp (fc S) fun os S1=>∃S2,bR is os S1=some S2/\QS .nx S2):Wp (bY is fc S) QS :=
 av (aH h fun _ _ ⟨S2,e,q⟩=>av (bx ⟨S2,e,q⟩))
theorem Io {ts:List PTgt} (h:Wp (fc S) fun os S1=>∃S2,oJ ts os S1=some S2/\QS .nx S2):Wp (Lu ts fc S) QS :=
 av (aH h fun _ _ ⟨S2,e,q⟩=>av (bx ⟨S2,e,q⟩))
theorem nu {c:OV} (h:S[k]?=some (some o)) {p:List PStep} (hg:bZ p o=some c):bF k p S=some c:=by
 unfold bF;rw[h];exact hg
theorem qt {c c':OV} {mm:OV->Option OV} {p:List PStep} (h:S[k]?=some (some o)) (hg:bZ p o=some c) (hm:mm c=some c') (hs:SetAt S k (some (cq p o c')) S'):bH k p mm S=some S':=by
 unfold bH;rw[h]
 show(bZ p o).bind (fun c=>(mm c).bind fun c'=>some (S.set k (some (cq p o c'))))=_
 rw[hg]
 show(mm c).bind _=_
 rw[hm]
 show some (S.set k _)=_
 rw[hs.set.1]
theorem Jj {p:List PStep} {us:List Val} (h0:S[k]?=some (some o)) (hg:bZ p o=some (ag us)) (h:Wp (a S) fun x S1=>∃u,aI js x=some u/\∃o1 us1,S1[k]?=some (some o1)/\bZ p o1=some (ag us1)/\us1.length<900000/\∃S2,SetAt S1 k (some (cq p o1 (ag (us1++[u])))) S2/\Q (.fz .none) S2):Wp (cW k p js a S) Q :=
 av (bx ⟨(),by rw[nu h0 hg]<;>rfl,av (aH h fun x S1 ⟨u,e,o1,us1,h1,h2,hl,S2,hs,q⟩=>av (bx ⟨u,e,av (bx ⟨S2,qt h1 h2 (by
  show(if (aF us1).length<bL then some (OV.lst (aF us1++[.fz u])) else none)=some (ag (us1++[u]))
  rw[if_pos (by unfold aF bL; rw[aT]; omega)];unfold ag aF
  rw[dA]<;>rfl) hs,q⟩)⟩))⟩)
theorem Co {us:List Val} (h0:S[k]?=some (some (ag us))) (h:Wp (a S) fun x S1=>∃u,aI js x=some u/\S1[k]?=some (some (ag us))/\us.length<900000/\∃S2,SetAt S1 k (some (ag (us++[u]))) S2/\Q (.fz .none) S2):Wp (cW k [] js a S) Q :=
 Jj h0 rfl (aH h fun _ _ ⟨u,e,h1,hl,S2,hs,q⟩=>⟨u,e,_,us,h1,rfl,hl,S2,hs,q⟩)
theorem Cm {us:List Val} (h0:S[k]?=some (some (ag us))) (h:Wp (a S) fun x S1=>∃ws,oN x=some ws/\S1[k]?=some (some (ag us))/\us.length+ws.length<900000/\∃S2,SetAt S1 k (some (ag (us++ws))) S2/\Q (.fz .none) S2):Wp (dz k [] a S) Q :=
 av (bx ⟨(),by rw[nu (p:=[]) h0 rfl]<;>rfl,av (aH h fun x S1 ⟨ws,e,h1,hl,S2,hs,q⟩=>av (bx ⟨ws,e,av (bx ⟨S2,qt (p:=[]) (c':=ag (us++ws)) h1 rfl (by
  show(if (aF us).length+ws.length<bL then some (OV.lst (aF us++aF ws)) else none)=some (ag (us++ws))
  rw[if_pos (by unfold aF bL; rw[aT]; omega)];unfold ag aF
  rw[dA]<;>rfl) hs,q⟩)⟩))⟩)
theorem Ch {kvs:List (Val×OV)} (h0:S[k]?=some (some (.dict kvs))) (h:Wp (a S) fun x S1=>∃r,bO js x=some r/\Wp (b S1) fun y S2=>∃u,y=.fz u/\S2[k]?=some (some (.dict kvs))/\(kvs.length<900000/\iU kvs u=true)/\∃S3,SetAt S2 k (some (.dict (bJ kvs u r))) S3/\QS .nx S3):Wp (pV k [] js a b S) QS :=
 av (bx ⟨(),by rw[nu (p:=[]) h0 rfl]<;>rfl,av (aH h fun x S1 ⟨r,e,h⟩=>av (bx ⟨r,e,av (aH h fun y S2 ⟨u,e2,h2,hl,S3,hs,q⟩=>av (bx ⟨u,by rw[e2]<;>rfl,av (bx ⟨S3,qt (p:=[]) (c':=.dict (bJ kvs u r)) h2 rfl (by
  show(if kvs.length<bL/\iU kvs u=true then some (OV.dict (bJ kvs u r)) else none)=_
  rw[if_pos ⟨Nat.lt_trans hl.1 (by decide),hl.2⟩]) hs,q⟩)⟩))⟩))⟩)
theorem Il {us:List Val} (h0:S[k]?=some (some (ag (us++[u])))) (hs:SetAt S k (some (ag us)) S') (q:Q (.fz u) S'):Wp (cZ k [] S) Q:=by
 have e:aF (us++[u])=aF us++[.fz u]:=by unfold aF; rw[dA]<;>rfl
 have l:nI (ag (us++[u]))=some (aF us,u):=by
  show nI (.lst (aF (us++[u])))=_
  rw[e]
  show(match (aF us++[OV.fz u]).getLast? with|some (.fz x)=>some ((aF us++[OV.fz u]).dropLast,x)|_=>none)=_
  rw[List.getLast?_concat,List.dropLast_concat]
 refine av (bx ⟨(aF us,u),by rw[nu (p:=[]) h0 rfl]; exact l,av (bx ⟨S',qt (p:=[]) (c':=ag us) h0 rfl rfl hs,q⟩)⟩)
theorem IN (h:Wp (a S) fun o S1=>∃us,fg o=some us/\QA us S1):Wp (cy a S) QA:=av (aH h fun _ _ h=>bx h)
theorem IT (h:Wp (fa S) fun xs S1=>∃x us,xs=[x]/\fg (.fz x)=some us/\QA (xz 0 us) S1):Wp (uj fa S) QA :=
 av (aH h fun xs S1 ⟨x,us,e,e2,q⟩=>bx ⟨_,by
  subst e
  show(fg (.fz x)).map (xz 0)=_
  rw[e2]<;>rfl,q⟩)
theorem IL (h:Wp (fa S) fun xs S1=>∃x y us vs,xs=[x,y]/\fg (.fz x)=some us/\fg (.fz y)=some vs/\QA (i4 us vs) S1):Wp (kT fa S) QA :=
 av (aH h fun xs S1 ⟨x,y,us,vs,e,e2,e3,q⟩=>bx ⟨_,by
  subst e
  show(fg (.fz x)).bind (fun l=>(fg (.fz y)).map (i4 l))=_
  rw[e2,e3]<;>rfl,q⟩)
theorem IP {gg:List Val->Option (List Val)} (h:Wp (fa S) fun xs S1=>∃us,gg xs=some us/\QA us S1):Wp (dP gg fa S) QA:=av (aH h fun _ _ h=>bx h)
theorem IQ (h:Wp (a S) fun o S1=>∃us,FJ o=some us/\QA us S1):Wp (Pi a S) QA:=av (aH h fun _ _ h=>bx h)
theorem yz (J:Nat->Env->Prop):∀(its:List Val) (k:Nat),(∀i x S,its[i]?=some x->J (k+i) S->∃S1,g x S=some S1/\Wp (f S1) (kO (J (k+i+1)) QS))->(∀S,J (k+its.length) S->QS .nx S)->∀S,J k S->Wp (iH g f its S) QS
 | [],k,_,hq,S,hj=>hq S hj
 | x::its,k,h,hq,S,hj=>by
  obtain⟨S1,e,h1⟩:=h 0 x S rfl hj;unfold iH;refine av (bx ⟨S1,e,av (aH h1 fun fl S2 h2=>?_)⟩)
  cases fl with
  | nx => exact yz J its (k + 1) (fun i y S hy hS => by
    have:=h (i+1) y S hy (by rw[show k+(i+1)=k+1+i by omega]; exact hS);rw[show k+(i+1)+1=k+1+i+1 by omega] at this
    exact this) (fun S hS=>hq S (by rw[cR,show k+(its.length+1)=k+1+its.length by omega]; exact hS)) S2 h2
  | ct => exact yz J its (k + 1) (fun i y S hy hS => by
    have:=h (i+1) y S hy (by rw[show k+(i+1)=k+1+i by omega]; exact hS);rw[show k+(i+1)+1=k+1+i+1 by omega] at this
    exact this) (fun S hS=>hq S (by rw[cR,show k+(its.length+1)=k+1+its.length by omega]; exact hS)) S2 h2
  | bk=>exact h2
  | rt o=>exact h2
theorem lJ (J:Nat->Env->Prop) (hi:Wp (fa S) fun its S1=>J 0 S1/\(∀i x S,its[i]?=some x->J i S->∃S1,g x S=some S1/\Wp (f S1) (kO (J (i+1)) QS))/\∀S,J its.length S->QS .nx S):Wp (cT fa g f S) QS :=
 av (aH hi fun its S1 ⟨j0,h,hq⟩=>yz J its 0 (fun i x S hx hj=>by
  have:=h i x S hx (by rw[←nW i]; exact hj);rw[nW]
  exact this) (fun S hS=>hq S (by rw[←nW its.length]; exact hS)) S1 j0)
theorem IY (k1 k2:Nat) (P:Nat->Option OV->Option OV->Prop) (hi:Wp (fa S) fun its S1=>(∃x1 x2,S1=ei S1 [k1,k2] [x1,x2]/\P 0 x1 x2)/\(∀i x x1 x2,its[i]?=some x->P i x1 x2->∃S2,g x (ei S1 [k1,k2] [x1,x2])=some S2/\Wp (f S2) (kO (fun S3=>∃y1 y2,S3=ei S1 [k1,k2] [y1,y2]/\P (i+1) y1 y2) QS))/\∀x1 x2,P its.length x1 x2->QS .nx (ei S1 [k1,k2] [x1,x2])):Wp (cT fa g f S) QS:=by
 obtain⟨its,S1,e,h0,h,hq⟩:=dB hi;refine lJ (fun i S3=>∃x1 x2,S3=ei S1 [k1,k2] [x1,x2]/\P i x1 x2) (bG e ⟨h0,fun i x S hx hj=>?_,fun S hj=>?_⟩)
 ·obtain⟨x1,x2,rfl,p⟩:=hj;exact h i x x1 x2 hx p
 ·obtain⟨x1,x2,rfl,p⟩:=hj;exact hq x1 x2 p
theorem yB (k1 k2 k3:Nat) (P:Nat->Option OV->Option OV->Option OV->Prop) (hi:Wp (fa S) fun its S1=>(∃x1 x2 x3,S1=ei S1 [k1,k2,k3] [x1,x2,x3]/\P 0 x1 x2 x3)/\(∀i x x1 x2 x3,its[i]?=some x->P i x1 x2 x3->∃S2,g x (ei S1 [k1,k2,k3] [x1,x2,x3])=some S2/\Wp (f S2) (kO (fun S3=>∃y1 y2 y3,S3=ei S1 [k1,k2,k3] [y1,y2,y3]/\P (i+1) y1 y2 y3) QS))/\∀x1 x2 x3,P its.length x1 x2 x3->QS .nx (ei S1 [k1,k2,k3] [x1,x2,x3])):Wp (cT fa g f S) QS:=by
 obtain⟨its,S1,e,h0,h,hq⟩:=dB hi;refine lJ (fun i S3=>∃x1 x2 x3,S3=ei S1 [k1,k2,k3] [x1,x2,x3]/\P i x1 x2 x3) (bG e ⟨h0,fun i x S hx hj=>?_,fun S hj=>?_⟩)
 ·obtain⟨x1,x2,x3,rfl,p⟩:=hj;exact h i x x1 x2 x3 hx p
 ·obtain⟨x1,x2,x3,rfl,p⟩:=hj;exact hq x1 x2 x3 p
theorem yA (k1 k2 k3 k4:Nat) (P:Nat->Option OV->Option OV->Option OV->Option OV->Prop) (hi:Wp (fa S) fun its S1=>(∃x1 x2 x3 x4,S1=ei S1 [k1,k2,k3,k4] [x1,x2,x3,x4]/\P 0 x1 x2 x3 x4)/\(∀i x x1 x2 x3 x4,its[i]?=some x->P i x1 x2 x3 x4->∃S2,g x (ei S1 [k1,k2,k3,k4] [x1,x2,x3,x4])=some S2/\Wp (f S2) (kO (fun S3=>∃y1 y2 y3 y4,S3=ei S1 [k1,k2,k3,k4] [y1,y2,y3,y4]/\P (i+1) y1 y2 y3 y4) QS))/\∀x1 x2 x3 x4,P its.length x1 x2 x3 x4->QS .nx (ei S1 [k1,k2,k3,k4] [x1,x2,x3,x4])):Wp (cT fa g f S) QS:=by
 obtain⟨its,S1,e,h0,h,hq⟩:=dB hi;refine lJ (fun i S3=>∃x1 x2 x3 x4,S3=ei S1 [k1,k2,k3,k4] [x1,x2,x3,x4]/\P i x1 x2 x3 x4) (bG e ⟨h0,fun i x S hx hj=>?_,fun S hj=>?_⟩)
 ·obtain⟨x1,x2,x3,x4,rfl,p⟩:=hj;exact h i x x1 x2 x3 x4 hx p
 ·obtain⟨x1,x2,x3,x4,rfl,p⟩:=hj;exact hq x1 x2 x3 x4 p
theorem IX (k1 k2 k3 k4 k5:Nat) (P:Nat->Option OV->Option OV->Option OV->Option OV->Option OV->Prop) (hi:Wp (fa S) fun its S1=>(∃x1 x2 x3 x4 x5,S1=ei S1 [k1,k2,k3,k4,k5] [x1,x2,x3,x4,x5]/\P 0 x1 x2 x3 x4 x5)/\(∀i x x1 x2 x3 x4 x5,its[i]?=some x->P i x1 x2 x3 x4 x5->∃S2,g x (ei S1 [k1,k2,k3,k4,k5] [x1,x2,x3,x4,x5])=some S2/\Wp (f S2) (kO (fun S3=>∃y1 y2 y3 y4 y5,S3=ei S1 [k1,k2,k3,k4,k5] [y1,y2,y3,y4,y5]/\P (i+1) y1 y2 y3 y4 y5) QS))/\∀x1 x2 x3 x4 x5,P its.length x1 x2 x3 x4 x5->QS .nx (ei S1 [k1,k2,k3,k4,k5] [x1,x2,x3,x4,x5])):Wp (cT fa g f S) QS:=by
 obtain⟨its,S1,e,h0,h,hq⟩:=dB hi;refine lJ (fun i S3=>∃x1 x2 x3 x4 x5,S3=ei S1 [k1,k2,k3,k4,k5] [x1,x2,x3,x4,x5]/\P i x1 x2 x3 x4 x5) (bG e ⟨h0,fun i x S hx hj=>?_,fun S hj=>?_⟩)
 ·obtain⟨x1,x2,x3,x4,x5,rfl,p⟩:=hj;exact h i x x1 x2 x3 x4 x5 hx p
 ·obtain⟨x1,x2,x3,x4,x5,rfl,p⟩:=hj;exact hq x1 x2 x3 x4 x5 p
theorem Ck (k1 k2 k3 k4 k5 k6:Nat) (P:Nat->Option OV->Option OV->Option OV->Option OV->Option OV->Option OV->Prop) (hi:Wp (fa S) fun its S1=>(∃x1 x2 x3 x4 x5 x6,S1=ei S1 [k1,k2,k3,k4,k5,k6] [x1,x2,x3,x4,x5,x6]/\P 0 x1 x2 x3 x4 x5 x6)/\(∀i x x1 x2 x3 x4 x5 x6,its[i]?=some x->P i x1 x2 x3 x4 x5 x6->∃S2,g x (ei S1 [k1,k2,k3,k4,k5,k6] [x1,x2,x3,x4,x5,x6])=some S2/\Wp (f S2) (kO (fun S3=>∃y1 y2 y3 y4 y5 y6,S3=ei S1 [k1,k2,k3,k4,k5,k6] [y1,y2,y3,y4,y5,y6]/\P (i+1) y1 y2 y3 y4 y5 y6) QS))/\∀x1 x2 x3 x4 x5 x6,P its.length x1 x2 x3 x4 x5 x6->QS .nx (ei S1 [k1,k2,k3,k4,k5,k6] [x1,x2,x3,x4,x5,x6])):Wp (cT fa g f S) QS:=by
 obtain⟨its,S1,e,h0,h,hq⟩:=dB hi;refine lJ (fun i S3=>∃x1 x2 x3 x4 x5 x6,S3=ei S1 [k1,k2,k3,k4,k5,k6] [x1,x2,x3,x4,x5,x6]/\P i x1 x2 x3 x4 x5 x6) (bG e ⟨h0,fun i x S hx hj=>?_,fun S hj=>?_⟩)
 ·obtain⟨x1,x2,x3,x4,x5,x6,rfl,p⟩:=hj;exact h i x x1 x2 x3 x4 x5 x6 hx p
 ·obtain⟨x1,x2,x3,x4,x5,x6,rfl,p⟩:=hj;exact hq x1 x2 x3 x4 x5 x6 p
theorem vo (J:Env->Prop) (μ:Env->Nat) (h:∀S,J S->Wp (t S) fun p S1=>(p=false->QS .nx S1)/\(p=true->Wp (f S1) (kO (fun S2=>J S2/\μ S2<μ S) QS))):∀(n:Nat) (S:Env),J S->μ S<n->Wp (jp t f n S) QS
 | 0,_,_,hn=>absurd hn (uU _)
 | n + 1, S, hj, hn => by
  unfold jp;refine av (aH (h S hj) fun p S1 h1=>?_)
  cases p with
  | false=>exact h1.1 rfl
  | true =>
   refine av (aH (h1.2 rfl) fun fl S2 h2=>?_)
   cases fl with
   | nx=>exact vo J μ h n S2 h2.1 (by have:=h2.2; omega)
   | ct=>exact vo J μ h n S2 h2.1 (by have:=h2.2; omega)
   | bk=>exact h2
   | rt o=>exact h2
theorem yy {vs:List Nat} {QL:List Val->Env->Prop} (J:Nat->List Val->Env->Prop):∀(its:List Val) (k:Nat) (acc:List Val),(∀i x ys S,its[i]?=some x->J (k+i) ys S->∃S1,g x S=some S1/\Wp (t S1) fun p S2=>(p=false->J (k+i+1) ys (aA S2 vs))/\(p=true->Wp (a S2) fun o S3=>∃u,aI js o=some u/\J (k+i+1) (ys++[u]) (aA S3 vs)))->(∀ys S,J (k+its.length) ys S->∀ys',ys=acc++ys'->QL ys' S)->∀S,J k acc S->Wp (b9 g t js a vs its S) QL
 | [],k,acc,_,hq,S,hj=>hq acc S hj [] (b6 _).symm
 | x :: its, k, acc, h, hq, S, hj => by
  obtain⟨S1,e,h1⟩:=h 0 x acc S rfl hj;unfold b9;refine av (bx ⟨S1,e,av (aH h1 fun p S2 h2=>?_)⟩)
  have next:∀(i:Nat) (x:Val) (ys:List Val) (S:Env),its[i]?=some x->J (k+1+i) ys S->∃S1,g x S=some S1/\Wp (t S1) fun p S2=>(p=false->J (k+1+i+1) ys (aA S2 vs))/\(p=true->Wp (a S2) fun o S3=>∃u,aI js o=some u/\J (k+1+i+1) (ys++[u]) (aA S3 vs)):=fun i y ys S hy hS=>by
   have:=h (i+1) y ys S hy (by rw[show k+(i+1)=k+1+i by omega]; exact hS);rw[show k+(i+1)+1=k+1+i+1 by omega] at this;exact this
  cases p with
  | false=>exact yy J its (k+1) acc next (fun ys S hS=>hq ys S (by rw[cR,show k+(its.length+1)=k+1+its.length by omega]; exact hS)) _ (h2.1 rfl)
  | true =>
   refine av (aH (h2.2 rfl) fun o S3 ⟨u,e,h3⟩=>av (bx ⟨u,e,av (aH (yy (QL:=fun ys' S=>QL (u::ys') S) J its (k+1) (acc++[u]) next (fun ys S hS ys' e=>hq ys S (by rw[cR,show k+(its.length+1)=k+1+its.length by omega]; exact hS) (u::ys') (by rw[e,dI]<;>rfl)) _ h3) fun ys S q=>q)⟩))
theorem Cj {vs:List Nat} (J:Nat->List Val->Env->Prop) (hi:Wp (fa S) fun its S1=>J 0 [] (aA S1 vs)/\(∀i x ys S,its[i]?=some x->J i ys S->∃S1,g x S=some S1/\Wp (t S1) fun p S2=>(p=false->J (i+1) ys (aA S2 vs))/\(p=true->Wp (a S2) fun o S3=>∃u,aI js o=some u/\J (i+1) (ys++[u]) (aA S3 vs)))/\∀ys S2,J its.length ys S2->Q (ag ys) (db S1 S2 vs)):Wp (cu fa g t js a vs S) Q :=
 av (aH hi fun its S1 ⟨j0,h,hq⟩=>av (Ci (yy (QL:=fun ys S2=>Q (ag ys) (db S1 S2 vs)) J its 0 [] (fun i x ys S hx hj=>by
  have:=h i x ys S hx (by rw[←nW i]; exact hj);rw[nW]
  exact this) (fun ys S hS ys' e=>by
  have e:ys=ys':=e;subst e
  exact hq ys S (by rw[←nW its.length]; exact hS)) _ j0)))
theorem II {vs:List Nat} (R:Val->Val->Prop) (hi:Wp (fa S) fun its S1=>(∀x∈its,∃S2,g x (aA S1 vs)=some S2/\Wp (a S2) fun o S3=>∃u,aI js o=some u/\aA S3 vs=aA S1 vs/\R x u)/\db S1 (aA S1 vs) vs=S1/\∀ys,ys.length=its.length->(∀(i:Nat) (x y:Val),its[i]?=some x->ys[i]?=some y->R x y)->Q (ag ys) S1):Wp (cu fa g bP js a vs S) Q:=by
 obtain⟨its,S1,e,h,hr,hq⟩:=dB hi;refine Cj (fun i ys S=>S=aA S1 vs/\ys.length=i/\∀(k:Nat) (x y:Val),its[k]?=some x->ys[k]?=some y->R x y) (bG e ⟨⟨rfl,rfl,fun k x y _ hy=>(nomatch hy)⟩,fun i x ys S hx hj=>?_,fun ys S2 hj=>?_⟩)
 ·obtain⟨rfl,e2,e3⟩:=hj;obtain⟨S2,hg,w⟩:=h x (fP hx);refine⟨S2,hg,Cd ⟨fun z=>(nomatch z),fun _=>aH w fun o S3 q=>?_⟩⟩;obtain⟨u,eu,ew,r⟩:=q;refine⟨u,eu,ew,by rw[cX,e2]<;>rfl,fun k x' y hx' hy=>?_⟩
  rcases Nat.lt_trichotomy k ys.length with l|l|l
  ·rw[u5 l] at hy;exact e3 k x' y hx' hy
  ·subst l;rw[List.getElem?_append_right (bS _),Nat.sub_self] at hy;have hy:some u=some y:=hy;rw[e2,hx] at hx'
   cases hy
   cases hx'
   exact r
  ·have:=(fE.mp hy).1;rw[cX] at this;have:k<ys.length+1:=this;omega
 ·obtain⟨rfl,e2,e3⟩:=hj;rw[hr];exact hq ys e2 e3
theorem mR {vs:List Nat} (y:Val->Val) (hi:Wp (fa S) fun its S1=>(∀x∈its,∃S2,g x (aA S1 vs)=some S2/\Wp (a S2) fun o S3=>aI js o=some (y x)/\aA S3 vs=aA S1 vs)/\db S1 (aA S1 vs) vs=S1/\Q (ag (its.map y)) S1):Wp (cu fa g bP js a vs S) Q :=
 II (fun x u => u = y x) (aH hi fun its S1 ⟨h, hr, hq⟩ => ⟨fun x hx => by
  obtain⟨S2,e,w⟩:=h x hx
  exact⟨S2,e,aH w fun o S3 ⟨e1,e2⟩=>⟨_,e1,e2,rfl⟩⟩,hr,fun ys hl hR=>by
  have e:ys=its.map y:=by
   apply mK;intro i;rw[cB]
   cases h1:its[i]? with
   | none =>
    rw[List.getElem?_eq_none_iff] at h1;rw[List.getElem?_eq_none_iff.mpr (by omega)]<;>rfl
   | some x =>
    have l:=(fE.mp h1).1;rw[←hl] at l;have h2:ys[i]?=some ys[i]:=c8 l;rw[h2,hR i x _ h1 h2]<;>rfl
  rw[e]
  exact hq⟩)
theorem ol {vs:List Nat} (p:Val->Bool) (y:Val->Val) (hi:Wp (fa S) fun its S1=>(∀x∈its,∃S2,g x (aA S1 vs)=some S2/\Wp (t S2) fun q S3=>q=p x/\aA S3 vs=aA S1 vs/\(p x=true->Wp (a S3) fun o S4=>aI js o=some (y x)/\aA S4 vs=aA S1 vs))/\db S1 (aA S1 vs) vs=S1/\Q (ag ((its.filter p).map y)) S1):Wp (cu fa g t js a vs S) Q:=by
 obtain⟨its,S1,e,h,hr,hq⟩:=dB hi;refine Cj (fun i ys S=>S=aA S1 vs/\ys=((its.take i).filter p).map y) (bG e ⟨⟨rfl,rfl⟩,fun i x ys S hx hj=>?_,fun ys S2 hj=>?_⟩)
 ·obtain⟨rfl,rfl⟩:=hj;obtain⟨S2,hg,w⟩:=h x (fP hx)
  have ht:its.take (i+1)=its.take i++[x]:=by
   rw[List.take_succ,hx]<;>rfl
  refine⟨S2,hg,aH w fun q S3 hh=>?_⟩;obtain⟨rfl,e3,w4⟩:=hh;refine⟨fun z=>⟨e3,?_⟩,fun z=>aH (w4 z) fun o S4 hh=>⟨y x,hh.1,hh.2,?_⟩⟩
  ·rw[ht,List.filter_append,jL (by rw[z]<;>decide),List.filter_nil,b6]
  ·rw[ht,List.filter_append,jK z,List.filter_nil,dA]<;>rfl
 ·obtain⟨rfl,rfl⟩:=hj;rw[hr,List.take_length];exact hq
theorem Qp (kvs:List (Val×Val)):(OV.dict (qP kvs)).val=.dict kvs:=by
 have e:∀kvs:List (Val×Val),OV.valP (qP kvs)=kvs:=fun kvs=>by
  induction kvs with
  | nil=>rfl
  | cons p kvs ih =>
   show(p.1,p.2)::OV.valP (qP kvs)=p::kvs
   rw[ih]
 show Val.dict (OV.valP (qP kvs))=_
 rw[e]
theorem JN {kvs:List (Val×Val)}:aI [] (.dict (qP kvs))=some (.dict kvs):=by
 show some (OV.dict (qP kvs)).val=_
 rw[Qp]
end
end Mp
namespace Mp
open PySem L2 Tw
section
variable {a b:Ef} {S S' S1 S2 S3:Env} {z o:OV} {u:Val} {js:List Nat} {k i j:Nat} {p q:Bool} {QS:Fl->Env->Prop}
theorem QD {P:OV->Env->Prop} (h:S[k]?=some (some o)) (hs:SetAt S k none S') (q:P o S'):∃o' S3,S[k]?=some (some o')/\SetAt S k none S3/\P o' S3:=⟨o,S',h,hs,q⟩
theorem SetAt.get {S S':Env} {k:Nat} {o:Option OV} (h:SetAt S k o S'):S'[k]?=some o:=by
 induction h with
 | z=>rfl
 | s _ ih=>exact ih
theorem SetAt.other {S S':Env} {k j:Nat} {o:Option OV} (h:SetAt S k o S') (hj:j≠k):S'[j]?=S[j]?:=by
 rw[←h.set.1,cG (Ne.symm hj)]
theorem IK (h:Wp (a S) fun o S1=>∃u,aI js o=some u/\(∃us,S1[k]?=some (some (ag us)))/\Wp (b S1) fun kx S2=>∃i:Int,kx=.fz (.int i)/\∃us,S2[k]?=some (some (ag us))/\(0<=i/\i.toNat<us.length)/\∃S3,SetAt S2 k (some (ag (us.set i.toNat u))) S3/\QS .nx S3):Wp (sIx k [] js a b S) QS :=
 av (aH h fun o S1 ⟨u,e,⟨us,e1⟩,h⟩=>av (bx ⟨u,e,av (bx ⟨(),by rw[nu (p:=[]) e1 rfl]<;>rfl,av (aH h fun kx S2 ⟨i,e2,us,e3,hi,S3,hs,q⟩=>av (bx ⟨i,by rw[e2]<;>rfl,av (bx ⟨S3,qt (p:=[]) (c':=ag (us.set i.toNat u)) e3 rfl (by
  have hl:(aF us).length=us.length:=aT ..
  have ix:ixN (aF us).length i=some i.toNat:=by
   unfold ixN;rw[if_pos hi.1,if_pos (by rw[hl]; omega)]
  have gt:(aF us)[i.toNat]?=some (.fz us[i.toNat]):=by
   unfold aF;rw[cB,c8 hi.2]<;>rfl
  show((ixN (aF us).length i).bind fun j=>match (aF us)[j]? with
   | some (.fz _)=>some (OV.lst ((aF us).set j (.fz u)))
   | _=>none)=_
  rw[ix]
  show(match (aF us)[i.toNat]? with
   | some (.fz _)=>some (OV.lst ((aF us).set i.toNat (.fz u)))
   | _=>none)=_
  rw[gt]
  show some (OV.lst ((aF us).set i.toNat (.fz u)))=some (.lst (aF (us.set i.toNat u)))
  unfold aF
  rw[List.map_set]) hs,q⟩)⟩))⟩)⟩))
theorem Pz {A B:Prop} (h:B):((!true)=true->A)/\((!true)=false->B):=⟨fun z=>(nomatch z),fun _=>h⟩
theorem PD {A B:Prop} (h:A):((!false)=true->A)/\((!false)=false->B):=⟨fun _=>h,fun z=>(nomatch z)⟩
theorem Py {A B:Prop} (h:A):((!true)=false->A)/\((!true)=true->B):=⟨fun _=>h,fun z=>(nomatch z)⟩
theorem PB {A B:Prop} (h:B):((!false)=false->A)/\((!false)=true->B):=⟨fun z=>(nomatch z),fun _=>h⟩
theorem Mb:oJ [] [] S=some S:=rfl
theorem Ma {ts:List PTgt} {os:List OV} (hs:SetAt S i (some o) S1) (h:oJ ts os S1=some S2):oJ (.nm i::ts) (o::os) S=some S2:=by
 show(putS S i o).bind (oJ ts os)=_
 rw[D0 hs];exact h
end
end Mp
namespace Tw
open PySem L2 PySem.Spec PyProof.Rows
def Hj (d:Addr) (u:HO) (kv:List (V×V)):Prop :=
 (∃kvs:List (L2.Key×V),u=.dK kvs/\kv=kvs.map fun p=>(kV p.1,p.2))\/(u=.dT []/\kv=[])\/∃(hs:Str->Int) (xs:List (NestedKey×Addr×V)),u=eQ hs d xs/\kv=xs.map fun x=>(.ref x.2.1,x.2.2)
section
variable {X:Cx} {pins:List (Addr×Obj)} {σ:L2.St} {H:Hp} {s:Shared} {d:Addr} {o:Obj} {u:HO} {kv:List (V×V)}
theorem Hj.raw (e:Hj d u kv) (I:Inv X pins σ H s) (h:H d=some (.frz o u)):(d==sysModules)=false/\s.heap.get? d=some o/\o.ExactDict/\∃(es:Array DictEntry) (ep:Nat),o.data=.dict es ep/\es.size=kv.length/\∀(i:Nat) (k v:V) (hi:i<es.size),kv[i]?=some (k,v)->RelV k es[i].key/\RelV v es[i].val:=by
 rcases e with⟨kvs,rfl,rfl⟩|⟨rfl,rfl⟩|⟨hs,xs,rfl,rfl⟩
 ·obtain⟨z,hg,hx,es,ep,vs,hd,hz,hkv,o2,es2,hg2,_,hd2,_,hp,_⟩:=I.frzK h;rw[hg] at hg2
  cases hg2
  rw[hd] at hd2
  cases hd2
  refine⟨z,hg,hx,es,ep,hd,by rw[hz,aT],fun i k v hi e=>?_⟩;rw[cB] at e;obtain⟨⟨q,y⟩,hq,e⟩:=jH.mp e
  cases e
  obtain⟨c,hc,rc⟩:=kv_get hkv hq;obtain⟨e1,e2⟩:=hp.get? (e:=es[i]) (by simp[hi]) hc;exact⟨relV_key (show keyIs q es[i].key=true from e1),e2▸rc⟩
 ·obtain⟨z,hg,hx,es,ep,hd,hz,_⟩:=I.frzT h;exact⟨z,hg,hx,es,ep,hd,hz,fun i k v hi e=>by cases e⟩
 ·obtain⟨hg,x⟩:=I.hok d _ h;obtain⟨z,ys,hp,o2,es,ep,hg2,hx,hd,he⟩:=x.1;rw[hg] at hg2
  cases hg2
  have l1:xs.length=ys.length:=Paired.length hp
  have l2:es.size=ys.length:=by rw[←hY,he,aT]
  refine⟨z,hg,hx,es,ep,hd,by rw[l2,aT,l1],fun i k v hi e=>?_⟩;rw[cB] at e;obtain⟨q,hq,e⟩:=jH.mp e
  cases e
  obtain⟨y,hy,_,r2,r3⟩:=paired_get hp hq
  have en:es[i]?=some ⟨nE hs y.1,.ref y.2.1,y.2.2⟩:=by rw[←oa,he,cB,hy]<;>rfl
  have en:es[i]=⟨nE hs y.1,.ref y.2.1,y.2.2⟩:=Option.some.inj ((Array.getElem?_eq_getElem hi).symm.trans en);rw[en];exact⟨by show Value.ref _=Value.ref _; rw[r2],r3⟩
end
end Tw
namespace Mp
open PySem L2 Tw
def MA (kvs:List (Val×Val)):List Val:=kvs.map fun p=>.tup [p.1,p.2]
def M9 (kvs:List (Val×Val)):Bool:=kvs.all (fun p=>F4 p.1) || (kvs.all (fun p=>Ej p.1) && kvs.all fun p=>kindOf p.1==none)
def FT (kvs:List (Val×Val)):Option (List Val):=if M9 kvs=true then some (MA kvs) else none
def AI:OV->Option (List Val)
 | .fz (.dict kvs)=>FT kvs
 | .dict kvs=>(Gg kvs).bind FT
 | _=>none
def Pl (a:Ef):Af:=fun S=>(a S).bind fun o S1=>Out.of (AI o) S1
end Mp
namespace Mp
open PySem L2 Tw
def nP:OV->Option OV
 | .fz (.int j)=>if j4 j=true/\0<=j then some (ag (i7 0 1 j.toNat)) else none
 | _=>none
abbrev DS:V->Hp->VK->Prop:=fun x H1 Q=>∃n,x=V.int n/\RgOk 0 n/\∀q,H1 q=none->Q (.ref q) (upd H1 q (.lst (rgV 0 n)))
section
variable {K:PySem.W.Frag} {ct:Tw.Ct} {Φ:Addr->Prop} {H:Hp}
theorem CA:∀(n:Nat) (lo:Int),ViewL K ct Φ H ((List.range n).map fun i=>V.int (lo+(i:Nat))) (i7 lo 1 n)
 | 0,_=>trivial
 | n + 1, lo => by
  rw[List.range_succ_eq_map,bU,cF];refine⟨show V.int _=V.int _ by rw[show lo+((0:Nat):Int)=lo by omega],?_⟩
  have e:(fun i:Nat=>V.int (lo+1+(i:Nat)))=(fun i:Nat=>V.int (lo+(i:Nat)))∘Nat.succ:=by
   funext i
   show V.int _=V.int _
   rw[show lo+1+(i:Int)=lo+((i+1:Nat):Int) by omega]
  have:=CA n (lo+1);rw[e] at this;exact this
theorem MS:lj K ct DS nP:=fun Φ H v o z D Q r h q=>by
 unfold nP at h;split at h
 ·rename_i j
  split at h
  ·rename_i hh
   cases h
   obtain rfl:=r.1;obtain⟨h1,h2⟩:=hh;unfold j4 at h1;rw[bN,decide_eq_true_eq,decide_eq_true_eq] at h1;refine⟨j,rfl,RgOk.of_le (by omega) (by omega) (by omega) h2,jV q ?_ ?_⟩
   ·have:=CA (K:=K) (ct:=ct) (Φ:=Φ) (H:=H) j.toNat 0;unfold rgV;rw[Int.sub_zero];exact this
   ·rw[rgV_length,Int.sub_zero];exact dH (show j.toNat<=1000000 by omega) (by decide)
  ·cases h
 ·cases h
end
theorem yj {X:Cx} {K:PySem.W.Frag} {ct:Tw.Ct} {E:Exn->L2.St->Hp->Prop} {e:Expr} {a:Ef} {js wr:List Nat} (h:PE X e (tLstRg (tRg1 (tE K ct E a js wr)))):PE X e (tE K ct E (aC nP a) [] wr):=cr h fun _ _ _=>pS (r:=DS) MS
section
variable {a:Ef} {S S1:Env} {o:OV} {QA:List Val->Env->Prop}
theorem IS (h:Wp (a S) fun o S1=>∃us,AI o=some us/\QA us S1):Wp (Pl a S) QA:=av (aH h fun _ _ h=>bx h)
end
end Mp
namespace Tw
open PySem L2 PySem.Spec PyProof.Rows
end Tw
namespace Mp
open PySem L2 Tw
def Qq:Val->Val
 | .tup [y,_]=>y
 | x=>x
def FL (o:OV):Option (List Val):=(AI o).map (·.map Qq)
def Pj (a:Ef):Af:=fun S=>(a S).bind fun o S1=>Out.of (FL o) S1
section
variable {a:Ef} {S S1:Env} {QA:List Val->Env->Prop}
theorem IR (h:Wp (a S) fun o S1=>∃us,FL o=some us/\QA us S1):Wp (Pj a S) QA:=av (aH h fun _ _ h=>bx h)
end
end Mp
namespace Mp
open PySem PySem.Spec PyProof.Rows L2 Tw
end Mp
namespace Mp
open PySem L2 Tw
inductive DStep where
 | s (p:PStep)|iv (j:Nat)|kv (j:Nat)
end Mp
namespace Mp
open PySem L2
end Mp
namespace Mp
open PySem L2
mutual
def wu:Val->Bool
 | .none=>true
 | .bool _=>true
 | .int _=>true
 | .str _=>true
 | .tup xs=>pfVs xs
 | .lst _=>false
 | .dict _=>false
 | .obj _ _=>false
 | .scr _=>false
def pfVs:List Val->Bool
 | []=>true
 | x::xs=>wu x && pfVs xs
end
mutual
def oL:OV->Bool
 | .fz x=>wu x
 | .lst xs=>pfOs xs
 | .dict kvs=>pfOp kvs
 | .obj _ fs=>pfOf fs
def pfOs:List OV->Bool
 | []=>true
 | x::xs=>oL x && pfOs xs
def pfOp:List (Val×OV)->Bool
 | []=>true
 | (_,x)::xs=>oL x && pfOp xs
def pfOf:List (Str×OV)->Bool
 | []=>true
 | (_,x)::xs=>oL x && pfOf xs
end
section
variable {K:PySem.W.Frag} {ct:Tw.Ct} {P P':Addr->Prop} {H:Hp}
mutual
theorem bw.pf:∀(x:Val) {v:V},wu x=true->bw K ct P H v x->bw K ct P' H v x
 | .none,_,_,h=>h
 | .bool _,_,_,h=>h
 | .int _,_,_,h=>h
 | .str _,_,_,h=>h
 | .tup xs,_,e,h=>by
  obtain⟨a,vs,e1,h1,hl,h2⟩:=h;exact⟨a,vs,e1,h1,hl,ViewL.pf xs e h2⟩
 | .lst _,_,e,_=>(nomatch e)
 | .dict _,_,e,_=>(nomatch e)
 | .obj _ _,_,e,_=>(nomatch e)
 | .scr _,_,e,_=>(nomatch e)
theorem ViewL.pf:∀(xs:List Val) {vs:List V},pfVs xs=true->ViewL K ct P H vs xs->ViewL K ct P' H vs xs
 | [],[],_,_=>trivial
 | x::xs,_::_,e,h=>by
  have e:(wu x && pfVs xs)=true:=e;rw[bN] at e;exact⟨bw.pf x e.1 h.1,ViewL.pf xs e.2 h.2⟩
 | [],_::_,_,h=>h.elim
 | _::_,[],_,h=>h.elim
end
mutual
theorem aR.pf:∀(x:OV) {v:V} {F:List Addr},oL x=true->aR K ct P H v x F->aR K ct P' H v x F
 | .fz x,_,_,e,h=>⟨bw.pf x e h.1,h.2⟩
 | .lst xs,_,_,e,h=>by
  obtain⟨a,vs,F',e1,h1,hl,h2,rfl⟩:=h;exact⟨a,vs,F',e1,h1,hl,ORepL.pf xs e h2,rfl⟩
 | .dict xs,_,_,e,h=>by
  obtain⟨a,vs,F',e1,h1,h2,rfl⟩:=h;exact⟨a,vs,F',e1,h1,ORepP.pf xs e h2,rfl⟩
 | .obj c xs,_,_,e,h=>by
  obtain⟨a,dx,vs,F',e1,h1,h2,rfl⟩:=h;exact⟨a,dx,vs,F',e1,h1,ORepF.pf xs e h2,rfl⟩
theorem ORepL.pf:∀(xs:List OV) {vs:List V} {F:List Addr},pfOs xs=true->ORepL K ct P H vs xs F->ORepL K ct P' H vs xs F
 | [],[],_,_,h=>h
 | x::xs,_::_,_,e,h=>by
  have e:(oL x && pfOs xs)=true:=e;rw[bN] at e;obtain⟨F1,F2,q,h1,h2⟩:=h;exact⟨F1,F2,q,aR.pf x e.1 h1,ORepL.pf xs e.2 h2⟩
 | [],_::_,_,_,h=>h.elim
 | _::_,[],_,_,h=>h.elim
theorem ORepP.pf:∀(xs:List (Val×OV)) {vs:List (Val×V)} {F:List Addr},pfOp xs=true->ORepP K ct P H vs xs F->ORepP K ct P' H vs xs F
 | [],[],_,_,h=>h
 | (k,x)::xs,_::_,_,e,h=>by
  have e:(oL x && pfOp xs)=true:=e;rw[bN] at e;obtain⟨F1,F2,q,hk,h1,h2⟩:=h;exact⟨F1,F2,q,hk,aR.pf x e.1 h1,ORepP.pf xs e.2 h2⟩
 | [],_::_,_,_,h=>h.elim
 | _::_,[],_,_,h=>h.elim
theorem ORepF.pf:∀(xs:List (Str×OV)) {vs:List (Str×V)} {F:List Addr},pfOf xs=true->ORepF K ct P H vs xs F->ORepF K ct P' H vs xs F
 | [],[],_,_,h=>h
 | (k,x)::xs,_::_,_,e,h=>by
  have e:(oL x && pfOf xs)=true:=e;rw[bN] at e;obtain⟨F1,F2,q,hk,h1,h2⟩:=h;exact⟨F1,F2,q,hk,aR.pf x e.1 h1,ORepF.pf xs e.2 h2⟩
 | [],_::_,_,_,h=>h.elim
 | _::_,[],_,_,h=>h.elim
end
end
end Mp
namespace Tw
open PySem L2 PySem.Spec PyProof.Rows
def FM (e:Int×Value):Str:=match e.2 with|.str z _=>z|_=>⟨#[]⟩
def RR (w:World) (e:Int×Value):Prop:=∃z tk,e.2=Value.str z tk/\e.1=hashStr w z
def nV (w:World) (h:Heap) (a:Addr) (S:Str->Bool) (n:Nat):Prop :=
 ∃o es ep t,h.get? a=some o/\o.ExactSet/\o.data=.set es ep t/\(∀e∈es.toList,RR w e)/\(es.toList.map FM).Nodup/\(∀z,S z=true↔z∈es.toList.map FM) /\
  es.size<scanBound/\t.fits es.size=true/\es.size=n/\Ris t.place.toList/\(w.params.followText "set-order"=true\/t.led=true)
section
variable {w:World} {h h':Heap} {a:Addr} {S:Str->Bool} {n:Nat}
theorem nV.at (R:nV w h a S n) (k:∀o,h.get? a=some o->h'.get? a=some o):nV w h' a S n:=by
 obtain⟨o,es,ep,t,e,r⟩:=R;exact⟨o,es,ep,t,k o e,r⟩
theorem nV.congr {S':Str->Bool} (R:nV w h a S n) (e:∀k,S' k=S k):nV w h a S' n:=by
 rw[show S'=S from funext e];exact R
end
theorem E3 {α:Type} [DecidableEq α]:∀{a b:List α},a.Nodup->(∀x∈a,x∈b)->a.length<=b.length
 | [],_,_,_=>eR _
 | x::a,b,nd,h=>by
  obtain⟨n1,n2⟩:=bT.mp nd;have xb:=h x (ao ..)
  have ih:=E3 (a:=a) (b:=b.erase x) n2 fun y hy=>(List.mem_erase_of_ne fun e=>n1 (by rw[←e]; exact hy)).mpr (h y (aE _ hy))
  rw[List.length_erase_of_mem xb] at ih;have:=List.length_pos_of_mem xb;rw[cR];omega
theorem nV.few {w:World} {h:Heap} {a:Addr} {S:Str->Bool} {n:Nat} (R:nV w h a S n) (ys:List Str) (hy:∀k,S k=true->k∈ys):n<=ys.length:=by
 obtain⟨o,es,ep,t,ho,hex,hd,g,nd,hm,hb,hf,hn,hr,hl⟩:=R
 have:=E3 nd fun k hk=>hy k ((hm k).mpr hk)
 rw[aT,hY,hn] at this;exact this
end Tw
namespace Mp
open PySem L2 Tw PyProof.Rows PySem.Spec
end Mp
namespace Tw
open PySem L2 PySem.Spec PyProof.Rows
end Tw
namespace Mp
open PySem L2 Tw
end Mp
namespace Mp
open PySem L2 Tw
section
variable {ct:Tw.Ct} {H:Hp}
theorem NK {l:Addr} {ps:List (Val×V)} {kvs:List (Val×Val)} {key:Val} (h:hZ ct H l (Rd H l) ps) (hm:ps.map (·.1)=kvs.map (·.1)) (hf:iU kvs key=true) :
  ∃xs,iJ H xs/\(Rd H l (eQ (dh ct) l xs)\/(xs=[]/\(Rd H l (.dK [])\/Rd H l (.dT []))))/\ps=jO xs:=by
 have k0:iJ H []:=⟨eR _,b5,fun _ z=>nomatch z⟩
 have no:∀{z:Val×Val} {r:List (Val×Val)},kvs=z::r->kindOf z.1=none:=fun {z r} e=>by
  rw[e] at hf;have hf:(fy z.1 && fy key)=true:=hf;rw[bN] at hf;obtain⟨_,_,_,e2,_⟩:=ml hf.1;exact e2
 rcases h with⟨vs,h1,rfl,_⟩|⟨vs,h1,rfl,_⟩|⟨q,xs,h1,h2,h3,_⟩
 ·cases vs with
  | nil=>exact⟨[],k0,.inr ⟨rfl,.inl h1⟩,rfl⟩
  | cons y vs =>
   exfalso
   cases e0:kvs with
   | nil=>rw[e0] at hm; cases hm
   | cons z r =>
    rw[e0] at hm;have e:bM y.1=z.1:=(List.cons.inj hm).1;have n:=no e0;rw[←e,AE] at n
    cases n
 ·cases vs with
  | nil=>exact⟨[],k0,.inr ⟨rfl,.inr h1⟩,rfl⟩
  | cons y vs =>
   exfalso
   cases e0:kvs with
   | nil=>rw[e0] at hm; cases hm
   | cons z r =>
    rw[e0] at hm;have e:gZ y.1=z.1:=(List.cons.inj hm).1;have n:=no e0;rw[←e,AF] at n
    cases n
 ·exact⟨q::xs,h3,.inl h1,h2⟩
end
end Mp
namespace Mp
open PySem L2 Tw PyProof.Rows PySem.Spec
end Mp
namespace Mp
open PySem L2 Tw
def uC (js:List Nat) (a:Ef):Ef:=fun S=>(a S).bind fun o S1=>(Out.of (aI js o) S1).bind fun x S2=>.ok (.fz x) S2
section
variable {K:PySem.W.Frag} {ct:Tw.Ct} {E:Exn->L2.St->Hp->Prop} {σ:St} {H:Hp} {js wr:List Nat} {a:Ef} {Q:VK} {X:Cx} {e:Expr}
theorem J3 (q:tE K ct E (uC js a) [] wr σ H Q):tE K ct E a js wr σ H Q:=by
 obtain⟨B,X,Φ0,W,rfl,s,q⟩:=q;unfold uC at q;refine⟨B,X,Φ0,W,rfl,s,?_⟩
 cases ha:a W.S with
 | no=>rw[ha] at q; exact q.elim
 | ex e S'=>rw[ha] at q; exact q
 | ok o S1 =>
  rw[ha,Out.bind_ok] at q
  cases hz:aI js o with
  | none=>rw[hz] at q; exact q.elim
  | some x =>
   rw[hz,Out.of_some,Out.bind_ok] at q;intro v W' D s' e' a' t;obtain⟨Φ',s1,a1,v1⟩:=jt s s' a' t hz;exact q v { W' with Φ:=Φ' } [] s1 e' a1 (iy v1)
theorem HN (h:PE X e (tE K ct E a js wr)):PE X e (tE K ct E (uC js a) [] wr):=cr h fun _ _ _=>J3
end
theorem Ie {js:List Nat} {a:Ef} {S:Env} {Q:OV->Env->Prop} (h:Wp (a S) fun o S1=>∃x,aI js o=some x/\Q (.fz x) S1):Wp (uC js a S) Q :=
 av (aH h fun _ _ ⟨x,e,q⟩=>av (bx ⟨x,e,q⟩))
end Mp
namespace Tw
open PySem L2 PySem.Spec PyProof.Rows
end Tw
namespace Mp
open PySem L2 Tw
theorem at0 {α:Type} (x:α) (xs:List α):atI (x::xs) 0=some x:=by
 have e:ixN (x::xs).length 0=some 0:=by
  unfold ixN;rw[if_pos (Int.le_refl 0),if_pos (by rw[cR]; omega)];rfl
 unfold atI;rw[e]<;>rfl
end Mp
namespace Tw
open PySem L2 PySem.Spec PyProof.Rows
abbrev P1:Nat:=11400714785074694791
abbrev P2:Nat:=14029467366897019727
abbrev PI:Nat:=614540362697595703
abbrev PC:Nat:=2870177450013471924
end Tw
namespace Tw
open PySem L2 PySem.Spec PyProof.Rows
end Tw
namespace Mp
open PySem L2 Tw
end Mp
namespace Tw
open PySem L2 PySem.Spec PyProof.Rows
end Tw
namespace Mp
open PySem L2 Tw
end Mp
namespace Tw
open PySem L2
end Tw
namespace Mp
open PySem L2 Tw
end Mp
set_option exponentiation.threshold 3000
namespace Tw
open PySem L2 PySem.Spec PyProof.Rows
def kG (m:Nat):Nat->Nat->Nat
 | 0,_=>0
 | n+1,x=>(1 <<< x) ||| kG m n ((x * 5+1) % (m+1))
theorem Fv (m:Nat):∀(k x:Nat),lcgI m ((x * 5+1) % (m+1)) k=lcgI m x (k+1)
 | 0,_=>rfl
 | k+1,x=>by
  show(lcgI m ((x * 5+1) % (m+1)) k * 5+1) % (m+1)=(lcgI m x (k+1) * 5+1) % (m+1)
  rw[Fv m k x]
theorem Ad (m j:Nat):∀(n x:Nat),(kG m n x).testBit j=true->∃k,k<n/\lcgI m x k=j
 | 0,x,h=>by
  unfold kG at h;rw[Nat.zero_testBit] at h
  cases h
 | n + 1, x, h => by
  unfold kG at h;rw[Nat.testBit_or,i3] at h
  rcases h with h|h
  ·refine⟨0,Nat.succ_pos n,?_⟩;rw[Nat.one_shiftLeft,Nat.testBit_two_pow,decide_eq_true_eq] at h;exact h
  ·obtain⟨k,hk,e⟩:=Ad m j n _ h;exact⟨k+1,Nat.succ_lt_succ hk,by rw[←Fv]; exact e⟩
theorem Fu (m:Nat):∀k,lcgN m k=lcgI m 0 k
 | 0=>rfl
 | k+1=>by
  show(lcgN m k * 5+1) % (m+1)=(lcgI m 0 k * 5+1) % (m+1)
  rw[Fu m k]
def mI (m:Nat):List Nat->Bool
 | x::y::r=>(lcgI m x 64==y) && mI m (y::r)
 | _=>true
def tW:List Nat->Nat
 | []=>0
 | x::r=>x ||| tW r
theorem Bl {m j:Nat}:∀(cs:List Nat) (a x:Nat),lcgN m a=x->mI m (x::cs)=true->(tW ((x::cs).map (kG m 64))).testBit j=true->∃b,b<a+64 * (cs.length+1)/\lcgN m b=j
 | [],a,x,e,_,h=>by
  have h:((kG m 64 x) ||| 0).testBit j=true:=h;rw[Nat.or_zero] at h;obtain⟨k,hk,ek⟩:=Ad m j 64 x h;refine⟨a+k,by simp only[List.length_nil]; omega,?_⟩;rw[←lcgN_add,e];exact ek
 | y :: cs, a, x, e, c, h => by
  have c:((lcgI m x 64==y) && mI m (y::cs))=true:=c;rw[bN,beq_iff_eq] at c;have h:((kG m 64 x) ||| tW ((y::cs).map (kG m 64))).testBit j=true:=h;rw[Nat.testBit_or,i3] at h
  rcases h with h|h
  ·obtain⟨k,hk,ek⟩:=Ad m j 64 x h;refine⟨a+k,by omega,?_⟩;rw[←lcgN_add,e];exact ek
  ·obtain⟨b,hb,eb⟩:=Bl cs (a+64) y (by rw[←lcgN_add,e]; exact c.1) c.2 h;exact⟨b,by simp only[List.length_cons]; omega,eb⟩
theorem Bk {m z:Nat}:∀(cs:List Nat) (a x:Nat),lcgN m a=x->mI m (x::(cs++[z]))=true->lcgN m (a+64 * (cs.length+1))=z
 | [],a,x,e,c=>by
  have c:((lcgI m x 64==z) && true)=true:=c;rw[Bool.and_true,beq_iff_eq] at c
  show lcgN m (a+64)=z
  rw[←lcgN_add,e];exact c
 | y::cs,a,x,e,c=>by
  have c:((lcgI m x 64==y) && mI m (y::(cs++[z])))=true:=c;rw[bN,beq_iff_eq] at c;have q:=Bk cs (a+64) y (by rw[←lcgN_add,e]; exact c.1) c.2;rw[show a+64 * ((y::cs).length+1)=a+64+64 * (cs.length+1) by simp only[List.length_cons]; omega];exact q
def uJ:List Nat:=[448,384,320,256,192,128,64]
def uL:List Nat:=[1984,1920,1856,1792,1728,1664,1600,1536,1472,1408,1344,1280,1216,1152,1088,1024,960,896,832,768,704,640,576,512,448,384,320,256,192,128,64]
theorem Rk:mI 511 (0::(uJ++[0]))=true:=by decide +kernel
theorem Rj:mI 511 (0::uJ)=true:=by decide +kernel
theorem Ri:tW ((0::uJ).map (kG 511 64))=2 ^ 512 - 1:=by decide +kernel
theorem Ro:mI 2047 (0::(uL++[0]))=true:=by decide +kernel
theorem Rn:mI 2047 (0::uL)=true:=by decide +kernel
theorem Rm:tW ((0::uL).map (kG 2047 64))=2 ^ 2048 - 1:=by decide +kernel
def iX (m:Nat):Prop:=MaskOk m\/m=511\/m=2047
theorem iX.odd {m:Nat} (h:iX m):m % 2=1:=by
 rcases h with h|rfl|rfl
 ·exact mask_odd h
 ·rfl
 ·rfl
theorem iX.all {m j:Nat} (h:iX m) (hj:j<=m):∃b,b<=m/\lcgN m b=j:=by
 rcases h with h|rfl|rfl
 ·exact lcg_all h hj
 ·obtain⟨b,hb,e⟩:=Bl (m:=511) (j:=j) uJ 0 0 rfl Rj (by rw[Ri,Nat.testBit_two_pow_sub_one]; exact decide_eq_true (by omega));refine⟨b,?_,e⟩;have hb:b<0+64 * (7+1):=hb;omega
 ·obtain⟨b,hb,e⟩:=Bl (m:=2047) (j:=j) uL 0 0 rfl Rn (by rw[Rm,Nat.testBit_two_pow_sub_one]; exact decide_eq_true (by omega));refine⟨b,?_,e⟩;have hb:b<0+64 * (31+1):=hb;omega
theorem iX.round {m:Nat} (h:iX m):lcgN m (m+1)=0:=by
 rcases h with h|rfl|rfl
 ·exact lcg_round h
 ·exact Bk (m:=511) (z:=0) uJ 0 0 rfl Rk
 ·exact Bk (m:=2047) (z:=0) uL 0 0 rfl Ro
theorem iX.again {m:Nat} (h:iX m) (k:Nat):lcgN m (m+1+k)=lcgN m k:=by
 rw[←lcgN_add,h.round,←Fu]
theorem iX.from {m i j:Nat} (h:iX m) (hi:i<=m) (hj:j<=m):∃k,k<=m/\lcgI m i k=j:=by
 obtain⟨a,ha,rfl⟩:=h.all hi;obtain⟨b,hb,rfl⟩:=h.all hj
 by_cases c:a<=b
 ·refine⟨b - a,by omega,?_⟩;rw[lcgN_add,show a+(b - a)=b by omega]
 ·refine⟨b+m+1 - a,by omega,?_⟩;rw[lcgN_add,show a+(b+m+1 - a)=m+1+b by omega,h.again]
theorem iX.run {m:Nat} (M:iX m) (h:Int) {j:Nat} (hj:j<=m):∃n,n<=m+12/\runI m (SetTable.bits h) n=j:=by
 obtain⟨k,hk,e⟩:=M.from (runI_le m (SetTable.bits h) 12) hj
 refine⟨12+k,by omega,?_⟩;rw[runI_tail (bits_lt h),e]
theorem iX.meets {m:Nat} (M:iX m) (h:Int) {j:Nat} (hj:j<=m):∃k,k<10 * SetTable.turns m/\way m h k=j:=by
 obtain⟨n,hn,e⟩:=M.run h hj;obtain⟨k,hk,e2⟩:=run_nth m (SetTable.bits h) n;have t:SetTable.turns m=m+15:=rfl;refine⟨k,by rw[t]; omega,?_⟩
 show(nth m (runAt m (SetTable.bits h % (m+1)) (SetTable.bits h)) k).j=j
 rw[e2];exact e
theorem Jp (m:Nat) (h:Int) (k:Nat):way m h k<=m:=by
 have lt:SetTable.bits h % (m+1)<m+1:=Nat.mod_lt _ (Nat.succ_pos m);have r:=runEnd_bd (m:=m) (i:=SetTable.bits h % (m+1)) (by omega)
 have z:(runAt m (SetTable.bits h % (m+1)) (SetTable.bits h)).j+(runAt m (SetTable.bits h % (m+1)) (SetTable.bits h)).more<=m:=by
  unfold runAt;dsimp only;omega
 have q:=nth_in k _ z;unfold way;omega
structure TabN (t:SetTable) (hs:List Int):Prop where
 asc:Ris t.place.toList
 dum:t.dummies=#[]
 num:t.place.size=hs.length
 msk:iX t.mask
 bnd:∀x∈t.place.toList,x<=t.mask
 rea:∀(i:Nat) (h:Int) (j:Nat),hs[i]?=some h->t.place.toList[i]?=some j->∃k,way t.mask h k=j/\∀c,c<k->way t.mask h c∈t.place.toList
theorem TabN.free {t:SetTable} {hs:List Int} (T:TabN t hs) (hl:hs.length<=t.mask) (h:Int):∃K,K<10 * SetTable.turns t.mask/\way t.mask h K∉t.place.toList/\∀c,c<K->way t.mask h c∈t.place.toList:=by
 have few:t.place.toList.length<t.mask+1:=by
  have:=T.num;rw[hY];omega
 obtain⟨j,hj,nj⟩:=st_missing _ _ few;obtain⟨k,hk,rfl⟩:=T.msk.meets h (Nat.lt_succ_iff.mp hj);obtain⟨K,lK,nK,least⟩:=st_least (p:=fun c=>way t.mask h c∉t.place.toList) k nj;exact⟨K,Nat.lt_of_le_of_lt lK hk,nK,fun c hc=>Classical.not_not.mp (least c hc)⟩
theorem TabN.ahead {t:SetTable} {hs:List Int} (T:TabN t hs) {h:Int} {K i j:Nat} (hK:way t.mask h K∉t.place.toList) (hi:hs[i]?=some h) (hj:t.place.toList[i]?=some j):∃k,k<K/\way t.mask h k=j:=by
 obtain⟨k,e,hb⟩:=T.rea i h j hi hj;refine⟨k,?_,e⟩
 by_cases c:K<k
 ·exact absurd (hb K c) hK
 ·have:k≠K:=fun z=>by
   subst z;rw[e] at hK;exact hK (fP hj)
  omega
theorem TabN.put {t:SetTable} {hs:List Int} (T:TabN t hs) {h:Int} {K:Nat} (hK:way t.mask h K∉t.place.toList) (hb:∀c,c<K->way t.mask h c∈t.place.toList) :
  ∃p t',t.put (way t.mask h K)=(t',p)/\p=SetTable.below t.place (way t.mask h K)/\p<=hs.length/\TabN t' (hs.take p++h::hs.drop p)/\t'.mask=t.mask/\t'.led=t.led/\t'.plain=t.plain/\t'.fill=hs.length+1:=by
 have hle:=Jp t.mask h K
 generalize ej:way t.mask h K=j at hK hle ⊢
 have cut:=(below_cut T.asc j).1
 have np:t.place[SetTable.below t.place j]?≠some j:=fun e=>hK (fP (by rw[oa]; exact e))
 have asc2:=ris_insert T.asc np;have pl:=put_place t j;have dm:=put_dm T.dum j;have l1:(t.put j).1.led=t.led:=rfl;have l2:(t.put j).1.plain=t.plain:=rfl;have l3:(t.put j).1.mask=t.mask:=rfl;have l4:(t.put j).2=SetTable.below t.place j:=rfl;have l5:(t.put j).1.place=SetTable.insertAt t.place (SetTable.below t.place j) j:=rfl;rw[←l5] at asc2;have num:=T.num
 have hp1:SetTable.below t.place j<=t.place.toList.length:=by rw[hY]; exact cut
 have hp2:SetTable.below t.place j<=hs.length:=by omega
 have size:(t.put j).1.place.size=hs.length+1:=by
  have e:=congrArg List.length pl;rw[len_ins _ hp1,hY,hY] at e;omega
 generalize SetTable.below t.place j=p at l4 pl hp1 hp2 ⊢
 generalize eT:t.put j=T1 at l1 l2 l3 l4 l5 asc2 pl dm size ⊢
 obtain⟨t',p'⟩:=T1;dsimp only at l1 l2 l3 l4 l5 asc2 pl dm size;subst l4
 have grows:∀{x},x∈t.place.toList->x∈t'.place.toList:=fun hx=>by rw[pl]; exact mem_ins.mpr (.inr hx)
 refine⟨_,_,rfl,rfl,hp2,⟨asc2,dm,?_,by rw[l3]; exact T.msk,fun x hx=>?_,fun i h' j' e1 e2=>?_⟩,l3,l1,l2,?_⟩
 ·rw[size,len_ins hs hp2]
 ·rw[l3];rw[pl] at hx
  rcases mem_ins.mp hx with rfl|hx
  ·exact hle
  ·exact T.bnd x hx
 ·rw[l3];rw[pl,tins_get _ hp1] at e2;rw[tins_get hs hp2] at e1
  have old:∀i',hs[i']?=some h'->t.place.toList[i']?=some j'->∃k,way t.mask h' k=j'/\∀c,c<k->way t.mask h' c∈t'.place.toList:=fun i' a b=>by
   obtain⟨k,e,z⟩:=T.rea i' h' j' a b;exact⟨k,e,fun c hc=>grows (z c hc)⟩
  by_cases c1:i<p'
  ·rw[if_pos c1] at e1 e2;exact old i e1 e2
  ·by_cases c2:i=p'
   ·rw[if_neg c1,if_pos c2] at e1 e2
    cases e1
    cases e2
    exact⟨K,ej,fun c hc=>grows (hb c hc)⟩
   ·rw[if_neg c1,if_neg c2] at e1 e2;exact old _ e1 e2
 ·unfold SetTable.fill;rw[size,dm]<;>rfl
end Tw
namespace Tw
open PySem L2 PySem.Spec PyProof.Rows
mutual
def wG:NestedKey->Bool
 | .none=>false
 | .num _=>true
 | .text _=>false
 | .tup ks=>numKs ks
def numKs:List NestedKey->Bool
 | []=>true
 | k::ks=>wG k && numKs ks
end
section
variable {P:Program} {w:World} {A:Around} {E:Value->Shared->Prop} {s:Shared}
def vi (P:Program) (w:World) (ask:Value->Sem Bool) (b:Bool) (s:Shared) (v:Value):Prop:=∀(A:Around) (E:Value->Shared->Prop) (Q:Bool->Shared->Prop),Q b s->wpAny (model P w) A (ask v) Q E s
theorem Rh {n:Nat} {a:Addr} {o:Obj} {vs:Array Value} {m:Nat} (ho:s.heap.get? a=some o) (hc:o.cls=.type "tuple") (hd:o.data=.seq vs m) (hq:∀v∈vs.toList,vi P w (ofAClassStatement n) false s v):vi P w (ofAClassStatement (n+1)) false s (.ref a):=fun A E Q h=>by
 have ty:s.TypeIs (.ref a) "tuple":=⟨o,ho,hc⟩
 unfold ofAClassStatement;refine wpAny_bind (wpAny_typeOf ty ?_);dsimp only
 have eqt:(("tuple":String) == "tuple")=true:=by decide
 simp only[eqt,if_true,Bool.not_true,Bool.false_eq_true,if_false]
 try refine wpAny_bind (wpAny_pure ?_)
 try simp only[Bool.not_true,Bool.false_eq_true,if_false]
 show wpAny _ _ (seqItems? (.ref a) >>= _) _ _ s
 refine wpAny_bind (wpAny_seqItems ho hd ?_);dsimp only;refine wpAny_bind ?_
 show wpAny _ _ (forIn vs _ _) _ _ s
 rw[←Array.forIn_toList];refine wpAny_forIn_list _ (fun us r s1=>r.1=none/\s1=s/\∀v∈us,vi P w (ofAClassStatement n) false s v) _ ?_ ?_ _ _ ⟨rfl,rfl,hq⟩
 ·rintro v us r s1 ⟨hr,rfl,al⟩
  refine wpAny_bind (al v (ao ..) _ _ _ ?_);simp only[Bool.false_eq_true,if_false];exact wpAny_pure ⟨rfl,rfl,fun u hu=>al u (aE _ hu)⟩
 ·rintro ⟨r1,r2⟩ s1 ⟨hr,rfl,_⟩
  dsimp only at hr;subst hr;exact wpAny_pure h
mutual
theorem Bj:∀(k:NestedKey) (v:Value) (n:Nat) (s:Shared),NestedIs s.heap k v->wG k=true->k.depth<=n->vi P w (ofAClassStatement n) false s v
 | .none,_,_,_,_,h,_=>by cases h
 | .text _,_,_,_,_,h,_=>by cases h
 | .num i,_,n,s,x,_,_=>by
  cases x<;>(intro A E Q q; cases n<;>exact wpAny_pure q)
 | .tup ks, _, n, s, x, h, hn => by
  cases x with
  | tup g1 g2 g3 g4 =>
   simp only[NestedKey.depth] at hn
   cases n with
   | zero=>omega
   | succ n=>exact Rh g1 g2 g3 (cls_keys ks _ n s g4 h (by omega))
theorem cls_keys:∀(ks:List NestedKey) (vs:List Value) (n:Nat) (s:Shared),NestedAll s.heap ks vs->numKs ks=true->NestedKey.depthAll ks<=n->∀v∈vs,vi P w (ofAClassStatement n) false s v
 | [],_,_,_,x,_,_,v,hv=>by cases x; cases hv
 | k :: ks, _, n, s, x, h, hn, v, hv => by
  cases x with
  | cons x1 x2 =>
   simp only[NestedKey.depthAll] at hn;have h:(wG k && numKs ks)=true:=h;rw[bN] at h
   rcases aU.mp hv with rfl|hv
   ·exact Bj k _ n s x1 h.1 (by omega)
   ·exact cls_keys ks _ n s x2 h.2 (by omega) v hv
end
structure KeyN (h:Heap) (k:NestedKey) (b:Addr):Prop where
 is:NestedIs h k (.ref b)
 num:wG k=true
 dep:k.depth<=8
theorem KeyN.same {h h':Heap} {k:NestedKey} {a b:Addr} {o:Obj} {es:Array (Int×Value)} {ep:Nat} {t:SetTable} (x:KeyN h k b) (ho:h.get? a=some o) (hd:o.data=.set es ep t) (sb:Heap.SameBut a h h'):KeyN h' k b :=
 ⟨NestedIs.at (fun c oc vs n hc dc=>by
  have ne:c≠a:=fun z=>by
   subst z;rw[ho] at hc
   cases hc
   rw[hd] at dc
   cases dc
  rw[sb.2 c ne]
  exact hc) k _ x.is,x.num,x.dep⟩
theorem KeyN.keep {h h':Heap} {k:NestedKey} {b:Addr} (x:KeyN h k b) (kp:∀c o,h.get? c=some o->h'.get? c=some o):KeyN h' k b:=⟨NestedIs.at (fun c o _ _ hc _=>kp c o hc) k _ x.is,x.num,x.dep⟩
theorem Lk {k:NestedKey} {b:Addr} {Q:Bool->Shared->Prop} (hk:KeyN s.heap k b) {ys:List Value} (hy:∀y∈ys,∃k' c,y=Value.ref c/\KeyN s.heap k' c) (h:Q false s):wpAny (model P w) A (searchCouldBeSeen (.ref b) ys) Q E s:=by
 unfold searchCouldBeSeen;refine wpAny_bind ?_;refine wpAny_forIn_list _ (fun us r s1=>r.1=none/\s1=s/\∀y∈us,∃k' c,y=Value.ref c/\KeyN s.heap k' c) _ ?_ ?_ _ _ ⟨rfl,rfl,hy⟩
 ·rintro v us r s1 ⟨hr,rfl,al⟩
  obtain⟨k',c,rfl,hc⟩:=al v (ao ..)
  have al2:∀y∈us,∃k' c,y=Value.ref c/\KeyN s1.heap k' c:=fun u hu=>al u (aE _ hu)
  dsimp only
  by_cases hv:(b==c || (carriedByValue (.ref b) && carriedByValue (.ref c)))=true
  ·exact wp_if_pos hv (wpAny_pure ⟨rfl,rfl,al2⟩)
  ·refine wp_if_neg hv (wpAny_bind (quiet_key k _ 8 s1 hk.is hk.dep _ _ _ ?_));simp only[Bool.not_true,Bool.false_eq_true,if_false];refine wpAny_bind (quiet_key k' _ 8 s1 hc.is hc.dep _ _ _ ?_);simp only[Bool.not_true,Bool.false_eq_true,if_false];refine wpAny_bind (Bj k _ 8 s1 hk.is hk.num hk.dep _ _ _ ?_);simp only[Bool.false_eq_true,if_false];refine wpAny_bind (Bj k' _ 8 s1 hc.is hc.num hc.dep _ _ _ ?_);simp only[Bool.false_eq_true,if_false];exact wpAny_pure ⟨rfl,rfl,al2⟩
 ·rintro ⟨r1,r2⟩ s1 ⟨hr,rfl,_⟩
  dsimp only at hr;subst hr;exact wpAny_pure h
abbrev KA:=Addr×NestedKey
def sK (w:World) (L:List KA):List (Int×Value):=L.map fun p=>(p.2.hash w,Value.ref p.1)
def qF (w:World) (L:List KA):List Int:=L.map fun p=>p.2.hash w
structure SetN (w:World) (h:Heap) (a:Addr) (L:List KA) (es:Array (Int×Value)) (ep:Nat) (t:SetTable):Prop where
 ob:∃o,h.get? a=some o/\o.ExactSet/\o.data=.set es ep t
 rows:es.toList=sK w L
 tab:TabN t (qF w L)
 nd:(L.map (·.2)).Nodup
 key:∀p∈L,KeyN h p.2 p.1
 pl:t.plain=true
 led:w.params.followText "set-order"=true\/t.led=true
 room:L.length * 5<t.mask * 3
 few:L.length<=1100
variable {a:Addr} {L:List KA} {es:Array (Int×Value)} {ep:Nat} {t:SetTable}
theorem SetN.size (R:SetN w s.heap a L es ep t):es.size=L.length:=by
 rw[←hY,R.rows,sK,aT]
theorem SetN.fits (R:SetN w s.heap a L es ep t):t.fits es.size=true:=by
 have n:=R.tab.num;rw[qF,aT] at n;have z:=R.size;have r:=R.room;unfold SetTable.fits SetTable.fill;rw[R.tab.dum];simp only[Bool.and_eq_true,beq_iff_eq,decide_eq_true_eq];exact⟨by omega,by show t.place.size+0<=t.mask; omega⟩
theorem SetN.row (R:SetN w s.heap a L es ep t) {i:Nat} {p:KA} (h:L[i]?=some p):es[i]?=some (p.2.hash w,Value.ref p.1):=by
 rw[←oa,R.rows,sK,cB,h]<;>rfl
theorem SetN.sound (R:SetN w s.heap a L es ep t):¬t.gaveWay=true:=by
 unfold SetTable.gaveWay;rw[R.tab.msk.odd]
 decide
abbrev lV (m:Nat) (h:Int) (c:Nat):SetTable.Probe:=nth m (runAt m (SetTable.bits h % (m+1)) (SetTable.bits h)) c
theorem K1 (m:Nat) (h:Int) (c:Nat):(lV m h c).dummy=none:=by
 have key:∀(n:Nat) (p:SetTable.Probe),p.dummy=none->(nth m p n).dummy=none:=fun n=>by
  induction n with
  | zero=>exact fun p e=>e
  | succ n ih =>
   intro p e;refine ih (adv m p) ?_;unfold adv;split<;>exact e
 exact key c _ rfl
theorem Di (m:Nat) (h:Int) (c q:Nat):nth m (lV m h c) q=lV m h (c+q):=(nth_add m c _ q).symm
theorem Fi (R:SetN w s.heap a L es ep t) {x:Addr} {k:NestedKey} (hx:KeyN s.heap k x) (hu:A.units+8<cLine) {K:Nat} (hKf:K<10 * SetTable.turns t.mask)
  (hK:way t.mask (k.hash w) K∉t.place.toList) (hKb:∀c,c<K->way t.mask (k.hash w) c∈t.place.toList) {Q:SetFound->Shared->Prop}
  (hin:k∈L.map (·.2)->Q (.there none) s) (hout:k∉L.map (·.2)->Q (.free (way t.mask (k.hash w) K) false) s) :
  ∀(f c:Nat) (st:Option SetTable.Probe),st.getD (t.probeStart (k.hash w))=lV t.mask (k.hash w) c->c<=K->K - c<f ->
   (∀(i:Nat) p,L[i]?=some p->p.2=k->∃c',c<=c'/\c'<K/\t.place.toList[i]?=some (way t.mask (k.hash w) c')) ->
   wpAny (model P w) A (setSearchFrom a (.ref x) (k.hash w) true f st) Q E s
 | 0,_,_,_,_,lt,_=>absurd lt (uU _)
 | f + 1, c, st, est, hc, lt, left => by
  obtain⟨o,ho,hex,hd⟩:=R.ob;have asc:=R.tab.asc;rw[setSearchFrom_succ];refine wpAny_bind (wpAny_setState_of ho hd R.fits ?_);dsimp only;refine wp_if_neg R.sound ?_
  try refine wpAny_bind (wpAny_pure ?_)
  have jj:∀q,(nth t.mask (lV t.mask (k.hash w) c) q).j=way t.mask (k.hash w) (c+q):=fun q=>congrArg SetTable.Probe.j (Di t.mask (k.hash w) c q)
  have hashAt:∀(i:Nat) p,L[i]?=some p->(es[i]?.map (·.1)).getD 0=p.2.hash w:=fun i p hp=>by rw[R.row hp]<;>rfl
  have spec:=go_spec t asc R.tab.dum (fun i:Nat=>((es[i]?.map fun e:Int×Value=>e.1)).getD 0) (k.hash w) (10 * SetTable.turns t.mask) (K - c) _ (K1 t.mask (k.hash w) c) (Nat.lt_of_le_of_lt (Nat.sub_le K c) hKf)
   (fun q hq=>by rw[jj]; exact hKb _ (by omega)) (by rw[jj,show c+(K - c)=K by omega]; exact hK)
  -- what has been passed is not of this hash
  have passed:∀{q:Nat},(∀k' i',k'<q->t.place.toList[i']?=some (nth t.mask (lV t.mask (k.hash w) c) k').j->(fun i:Nat=>((es[i]?.map fun e:Int×Value=>e.1)).getD 0) i'≠k.hash w)->∀(i:Nat) p,L[i]?=some p->p.2=k->∀c',c<=c'->t.place.toList[i]?=some (way t.mask (k.hash w) c')->c+q<=c':=fun {q} no i p hp hk c' h1 h2=>by
   refine Nat.le_of_not_lt fun z=>no (c' - c) i (by omega) (by rw[jj,show c+(c' - c)=c' by omega]; exact h2) ?_
   rw[←hk];exact hashAt i p hp
  rcases spec with⟨q,i,hq,hi,hh,no,hpr⟩|⟨no,hpr⟩
  ·have hpr2:t.probe (fun i:Nat=>((es[i]?.map fun e:Int×Value=>e.1)).getD 0) (k.hash w) (st.getD (t.probeStart (k.hash w)))=some (.candidate (way t.mask (k.hash w) (c+q)) i (lV t.mask (k.hash w) (c+(q+1)))):=by
    rw[est,←jj,←Di];exact hpr
   rw[hpr2];dsimp only;rw[jj] at hi
   have il:i<L.length:=by
    have a1:=(fE.mp hi).1;have a2:=R.tab.num;rw[qF,aT] at a2;rw[hY] at a1;omega
   obtain⟨p,hp⟩:∃p,L[i]?=some p:=⟨_,c8 il⟩
   have mem:p∈L:=fP hp
   have rest:wpAny (model P w) A (searchRest a (.ref x) (k.hash w) true f es t (way t.mask (k.hash w) (c+q)) i (lV t.mask (k.hash w) (c+(q+1)))) Q E s:=by
    unfold searchRest;rw[R.row hp];dsimp only;refine wpAny_bind (wpAny_holding (eqAt_key p.2 k A s _ _ (R.key p mem).is hx.is (by have:=(R.key p mem).dep; omega) _ _ _ _ ?_));rw[←NestedKey.decide_eq];refine wpAny_bind (wpAny_setState_of ho hd R.fits ?_);dsimp only
    by_cases hkk:p.2=k
    ·exact wp_if_pos (by simp[hkk]) (wpAny_pure (hin (aW.mpr ⟨p,mem,hkk⟩)))
    ·refine wp_if_neg (by simp[hkk]) ?_
     try refine wpAny_bind (wpAny_pure ?_)
     rw[sameMem];dsimp only;have sl:t.slot (way t.mask (k.hash w) (c+q))=.live i:=slot_live asc hi;simp only[if_true,sl,R.row hp];refine wpAny_bind (wpAny_isSame_ref_self (wpAny_bind (wpAny_pure ?_)));simp only[if_true];refine wp_if_neg (by simp[hkk]) ?_
     refine Fi R hx hu hKf hK hKb hin hout f (c+(q+1)) _ rfl (by omega) (by omega) fun i0 p0 h0 hk0=>?_
     obtain⟨c',a1,a2,a3⟩:=left i0 p0 h0 hk0;refine⟨c',?_,a2,a3⟩;have ge:=passed no i0 p0 h0 hk0 c' a1 a3
     have ne:c'≠c+q:=fun z=>by
      rw[z] at a3;have s0:=slot_live asc a3;rw[sl] at s0
      cases s0
      rw[hp] at h0
      cases h0
      exact hkk hk0
     omega
   by_cases hl:t.led=true
   ·refine wp_if_neg (by simp[hl]) ?_
    try refine wpAny_bind (wpAny_pure ?_)
    exact rest
   ·refine wp_if_pos (by simp[hl]) (wpAny_bind (Lk hx (fun y hy=>?_) ?_))
    ·obtain⟨e,he,rfl⟩:=aW.mp hy
     have he2:e∈es.toList:=by
      have:=q5.mp he;simp at this
      simpa using this.1
     rw[R.rows,sK] at he2;obtain⟨p2,hp2,rfl⟩:=aW.mp he2;exact⟨p2.2,p2.1,rfl,R.key p2 hp2⟩
    ·refine wp_if_neg (by decide) ?_
     try refine wpAny_bind (wpAny_pure ?_)
     exact rest
  ·have hpr2:t.probe (fun i:Nat=>((es[i]?.map fun e:Int×Value=>e.1)).getD 0) (k.hash w) (st.getD (t.probeStart (k.hash w)))=some (.empty (way t.mask (k.hash w) K) none):=by
    rw[est,show way t.mask (k.hash w) K=(nth t.mask (lV t.mask (k.hash w) c) (K - c)).j by rw[jj,show c+(K - c)=K by omega]];exact hpr
   rw[hpr2];dsimp only;refine wpAny_pure (hout fun hm=>?_);obtain⟨p0,h0,hk0⟩:=aW.mp hm;obtain⟨i0,hi0⟩:=uZ h0;obtain⟨c',a1,a2,a3⟩:=left i0 p0 hi0 hk0;have:=passed no i0 p0 hi0 hk0 c' a1 a3;omega
theorem look_at (R:SetN w s.heap a L es ep t) {x:Addr} {k:NestedKey} (hx:KeyN s.heap k x) (hu:A.units+8<cLine) {Q:SetFound->Shared->Prop} (hin:k∈L.map (·.2)->Q (.there none) s)
  (hout:∀K,k∉L.map (·.2)->way t.mask (k.hash w) K∉t.place.toList->(∀c,c<K->way t.mask (k.hash w) c∈t.place.toList)->Q (.free (way t.mask (k.hash w) K) false) s) :
  wpAny (model P w) A (setSearch a (.ref x) (k.hash w) true) Q E s:=by
 have room:=R.room;have ln:(qF w L).length=L.length:=aT ..;obtain⟨K,lK,nK,bK⟩:=R.tab.free (by omega) (k.hash w)
 have small:10 * SetTable.turns t.mask<99999:=by
  have tm:SetTable.turns t.mask=t.mask+15:=rfl;rw[tm]
  rcases R.tab.msk with(z|z|z)|z|z<;>omega
 unfold setSearch
 refine Fi R hx hu lK nK bK hin (fun z=>hout K z nK bK) 100000 0 none rfl (eR _) (by omega) fun i p hp hk=>?_
 have hi:(qF w L)[i]?=some (k.hash w):=by rw[qF,cB,hp,←hk]<;>rfl
 have il:i<t.place.toList.length:=by
  have a1:=(fE.mp hi).1;have a2:=R.tab.num;rw[hY];omega
 have hj:=c8 il;obtain⟨c,hc,e⟩:=R.tab.ahead nK hi hj;exact⟨c,eR _,hc,by rw[hj,e]⟩
end
end Tw
namespace Tw
open PySem L2 PySem.Spec PyProof.Rows
structure GotN (ks:List KA) (i:Nat) (L:List KA):Prop where
 sub:∀p∈L,p∈ks
 all:∀p∈ks.take i,p.2∈L.map (·.2)
theorem GotN.zero (ks:List KA):GotN ks 0 []:=⟨fun _ h=>(nomatch h),fun p h=>by rw[List.take_zero] at h; cases h⟩
theorem GotN.next {ks L L':List KA} {i:Nat} {x:KA} (g:GotN ks i L) (h:ks[i]?=some x) (h1:x.2∈L.map (·.2)->L'=L) (h2:x.2∉L.map (·.2)->L'.Perm (x::L)):GotN ks (i+1) L':=by
 have tk:ks.take (i+1)=ks.take i++[x]:=by rw[List.take_add_one,h]<;>rfl
 by_cases c:x.2∈L.map (·.2)
 ·rw[h1 c];refine⟨g.sub,fun p hp=>?_⟩;rw[tk] at hp
  rcases bc.mp hp with hp|hp
  ·exact g.all p hp
  ·rw[bm.mp hp]; exact c
 ·have pm:=h2 c;refine⟨fun p hp=>?_,fun p hp=>(pm.map (·.2)).mem_iff.mpr ?_⟩
  ·rcases aU.mp (pm.mem_iff.mp hp) with rfl|hp
   ·exact fP h
   ·exact g.sub p hp
  ·rw[tk] at hp
   rcases bc.mp hp with hp|hp
   ·exact aE _ (g.all p hp)
   ·rw[bm.mp hp]; exact ao ..
section
variable {w:World}
theorem SetN.stay {h h':Heap} {a:Addr} {L:List KA} {es:Array (Int×Value)} {ep:Nat} {t:SetTable} (R:SetN w h a L es ep t) (k:∀b o,h.get? b=some o->h'.get? b=some o):SetN w h' a L es ep t :=
 { R with
  ob:=by obtain⟨o,e,r⟩:=R.ob; exact⟨o,k _ _ e,r⟩
  key:=fun p hp=>(R.key p hp).keep k }
end
end Tw
namespace Tw
open PySem L2 PySem.Spec PyProof.Rows
def Bx (w:World) (h:Heap) (a:Addr) (L:List KA):Prop:=∃o es ep t,h.get? a=some o/\o.ExactSet/\o.data=.set es ep t/\es.toList=sK w L/\t.fits es.size=true/\Ris t.place.toList/\(w.params.followText "set-order"=true\/t.led=true)/\L.length<=1100
theorem Bx.at {w:World} {h h':Heap} {a:Addr} {L:List KA} (R:Bx w h a L) (k:∀o,h.get? a=some o->h'.get? a=some o):Bx w h' a L:=by
 obtain⟨o,es,ep,t,e,r⟩:=R;exact⟨o,es,ep,t,k o e,r⟩
end Tw
namespace Tw
open PySem L2
end Tw
namespace Mp
open PySem L2 Tw
end Mp
namespace Tw
open PySem L2 PySem.Spec PyProof.Rows
end Tw
namespace Mp
open PySem L2 Tw
end Mp
namespace Tw
open PySem L2 PySem.Spec PyProof.Rows
def pX (z:Str):Str:=⟨z.cps.toList.reverse.toArray⟩
theorem Lh (n:Nat):Builtin.Str.strSliceIndices none none (-1) n=(List.range n).map fun k=>n - 1 - k:=by
 have e:Builtin.Str.strSliceIndices none none (-1) n=sliceRange ((n:Int) - 1) (-1) (-1):=by
  unfold Builtin.Str.strSliceIndices
  have h1:¬((-1:Int) > 0):=by decide
  simp only[h1,if_false]
 rw[e,PySem.W.krv_sliceRange]
theorem Mi (z:Str):((Builtin.Str.strSliceIndices none none (-1) z.length).filterMap (z.cps[·]?)).toArray=z.cps.toList.reverse.toArray:=by
 have hz:z.length=z.cps.size:=rfl;have e:=PySem.W.krv_range;rw[Lh,hz]
 congr 1
 have e2:((List.range z.cps.size).map fun k=>z.cps.size - 1 - k)=(List.range z.cps.size).reverse:=PySem.W.krv_range _;rw[e2,List.filterMap_reverse]
 congr 1
 exact filterMap_getElem?_range z.cps
def zR:V->Hp->VK->Prop:=fun x H Q=>∃z,x=.str z/\z.length<=sizeLine/\Q (.str (pX z)) H
def Dc (te:TE):TE:=fun σ H Q=>te σ H fun x H1=>zR x H1 Q
theorem Mt {X:Cx} {e:Expr} {te:TE} {k:Nat} {p1 p2 p3 pos:Pos} (he:PE X e te):PE X (.Subscript e (.Slice none none (some (.UnaryOp .USub (.Constant (.int 1) k p1) p2)) p3) pos) (Dc te):=by
 refine⟨fun pins s σ H Q I h=>?_⟩;refine Subscript_ (thn (he.run pins s σ H _ I h) fun v s1 ⟨x,H1,I1,r1,q1⟩=>?_);obtain⟨z,rfl,hz,q⟩:=q1;obtain⟨t,rfl⟩:=r1;have st:PO X (some (.UnaryOp .USub (.Constant (.int 1) k p1) p2)) (tPart (tUn (rU fun i=>.int (-i)) (tC (.int 1)))):=po_some (pe_un un_neg pe_int);refine wpAny_Slice (thn (po_none.run pins s1 σ H1 (fun o H2=>o=none/\H2=H1) I1 ⟨rfl,rfl⟩) fun vl s2 ⟨l,H2,I2,pl,el,e2⟩=>?_);subst el e2
 refine thn (po_none.run pins s2 σ H2 (fun o H3=>o=none/\H3=H2) I2 ⟨rfl,rfl⟩) fun vu s3 ⟨u,H3,I3,pu,eu,e3⟩=>?_
 subst eu e3
 refine thn (st.run pins s3 σ H3 (fun o H4=>o=some (-1)/\H4=H3) I3 ⟨1,rfl,-1,rfl,rfl,rfl⟩) fun vs s4 ⟨o,H4,I4,ps,eo,e4⟩=>?_
 subst eo e4
 have I5:Inv X pins σ H4 { s4 with heap:=s4.heap.push { cls:=.type "slice",data:=.fields #[vl,vu,vs] } }:=I4.kept (t':=s4.toks) fun b ob q=>Heap.get?_push_of_some _ q
 obtain⟨os,ho,hc,hd⟩:=Heap.IsSliceOf.new s4.heap vl vu vs;obtain⟨l1,rfl,el1⟩:=IsPart.raw pl;obtain⟨u1,rfl,eu1⟩:=IsPart.raw pu;obtain⟨s5,rfl,es1⟩:=IsPart.raw ps
 obtain rfl:l1=none:=by cases l1 with
  | none=>rfl
  | some _=>cases el1
 obtain rfl:u1=none:=by cases u1 with
  | none=>rfl
  | some _=>cases eu1
 show wpAny (model X.prog X.w) X.A (subscriptTail e (.Slice none none (some (.UnaryOp .USub (.Constant (.int 1) k p1) p2)) p3) (.str z t) (.ref s4.heap.objs.size)) (EP X pins σ Q) X.xe _
 refine tail_any (ops:=[.ref s4.heap.objs.size,.str z t]) (typeIs_str _ _ _) (PySem.F.slot_str_getitem.lookup) ?_ (by with_unfolding_all rfl);refine wpAny_getItem_str_slice (l:=none) (u:=none) (st:=s5) ⟨os,ho,hc,hd⟩ (by rw[es1]<;>rfl) ?_
 have hl:(pX z).length<=sizeLine:=by
  show(z.cps.toList.reverse.toArray).size<=sizeLine
  rw[pA,nY,hY];exact hz
 have key:(sliceMade z t none none s5)=Made.str (pX z):=by
  unfold sliceMade slicePicked;rw[es1]
  show(if ((-1:Int)==1 && (Builtin.Str.strSliceIndices none none (-1) z.length).length==z.length)=true then Made.val (.str z t) else Made.str ⟨((Builtin.Str.strSliceIndices none none (-1) z.length).filterMap (z.cps[·]?)).toArray⟩)=_
  have no:¬(((-1:Int)==1 && (Builtin.Str.strSliceIndices none none (-1) z.length).length==z.length)=true):=by
   intro q;rw[bN] at q;exact absurd q.1 (by decide)
  rw[if_neg no,Mi]<;>rfl
 rw[key];exact⟨hl,.str _,H4,I5.tok _,⟨_,rfl⟩,q⟩
end Tw
namespace Mp
open PySem L2 Tw
def qH:OV->Option OV
 | .fz (.str z)=>if z.length<bL then some (.fz (.str (pX z))) else none
 | _=>none
section
variable {K:PySem.W.Frag} {ct:Tw.Ct} {E:Exn->L2.St->Hp->Prop} {H:Hp} {Q:VK} {js wr:List Nat}
theorem LQ {z:Str} (h:ia z):ia (pX z):=by
 refine⟨Dh h.1 fun c hc=>?_,?_⟩
 ·have hc:c∈z.cps.toList.reverse.toArray.toList:=hc;rw[List.toList_toArray,List.mem_reverse] at hc;exact hc
 ·show(z.cps.toList.reverse.toArray).size<=sizeLine
  rw[pA,nY,hY];exact h.2
theorem MN:lj K ct zR qH:=fun Φ H v o z D Q r h q=>by
 unfold qH at h;split at h
 ·rename_i y
  split at h
  ·rename_i hl
   cases h
   obtain⟨e,hs⟩:=r.1;have e:v=.str y:=e;subst e;exact⟨y,rfl,dH (iY hl) (by decide),cO q ⟨rfl,LQ hs⟩⟩
  ·cases h
 ·cases h
theorem HP {X:Cx} {e:Expr} {a:Ef} (h:PE X e (Dc (tE K ct E a js wr))):PE X e (tE K ct E (aC qH a) [] wr):=cr h fun _ _ _=>pS (r:=zR) MN
end
end Mp
namespace Mp
open PySem L2 Tw
end Mp
namespace Mp
open PySem L2 Tw
end Mp
namespace Mp
open PySem L2 Tw
end Mp
namespace Tw
open PySem L2
end Tw
namespace Mp
open PySem L2 Tw
end Mp
namespace Mp
open PySem L2 Tw
section
variable {X:Cx} {K:PySem.W.Frag} {ct:Tw.Ct} {E:Exn->L2.St->Hp->Prop} {o i:Expr} {a b:Ef} {js1 wr1 js2 wr2:List Nat} {pos:Pos}
theorem bX (hu:X.A.units+1<cLine) (ha:PE X o (tE K ct E a js1 wr1)) (hb:PE X i (tE K ct E b js2 wr2)) (hp:PlainIx i:=by intro _ _; rfl) (hn:NoSl i:=by intro _ _; rfl) (hd:dj js1 wr2=true:=by decide) (hk:X.K=K:=by rfl):PE X (o.Subscript i pos) (tE K ct E (ae aP a b) js1 (wr1++wr2)):=by subst hk; exact HW (pe_ix Pc ha hb hp) (pe_dget hu ha hb hn) hd
theorem xv (i:Nat) {x:Str} (h1:X.N[i]?=some x:=by rfl) (h2:Vis X.env.scope x:=by first|exact Or.inl rfl|exact Or.inr (Or.inl rfl)|exact Or.inr (Or.inr rfl)) (h3:(x==("__debug__":Str))=false:=by decide) (h4:(x==("__classdict__":Str))=false:=by decide):PE X (.Name x pos) (tE K ct E (ac i) [i] []):=HM (pv i h1 h2 h3 h4)
theorem aQ {i:Int} {j:Nat}:PE X (.Constant (.int i) j pos) (tE K ct E (eC (.int i)) [] []):=pL pe_int Bh
theorem kz {i:Bool} {j:Nat}:PE X (.Constant (.bool i) j pos) (tE K ct E (eC (.bool i)) [] []):=pL pe_bl Q5
theorem vn {j:Nat}:PE X (.Constant .none j pos) (tE K ct E (eC .none) [] []):=pL pe_non Q4
theorem fS {x:Str} {j:Nat} (h:si x=true:=by decide +kernel):PE X (.Constant (.str x) j pos) (tE K ct E (eC (.str x)) [] []):=pL pe_str (Q3 h)
end
def d9 (K:PySem.W.Frag) (f:Addr) (n q:Str) (st:Stmt):Prop:=∃(od an:Option Addr) (sl:Array (Option Value)) (oc kV dc pm cd c:Value),K.lookup f=some ⟨oc,od,.func (PySem.W.fnOf n q (defArgs st) (defBody st) (defScope st) .none kV dc pm an cd c),sl⟩/\PySem.W.codeIn K cd q=true/\PySem.W.keepIn K (.ref f)=true
end Mp
namespace Mp
open PySem L2 Tw
section
variable {X:Cx} {K:PySem.W.Frag} {ct:Tw.Ct} {E:Exn->L2.St->Hp->Prop} {e:Expr} {es:List Expr} {a:Ef} {ga:Af} {go:Cf} {gf:Gf} {gs:iM} {js wr wr1 wr2 ws1 ws2 pin io:List Nat} {ks:List (Option Nat)} {p pos:Pos} {F:be} {fc:Cf} {x:Str} {k j:Nat}
theorem cS (c:Cal X.prog X.w X.K X.mg X.base k x (bh K ct io F)) (hg:X.A.guards=some []) (hr:Room j X.A) (ha:PA X (e::es) (eD K ct E fc ks wr)) (hk:k<=j:=by decide) (gl:Gl X x:=by rfl) (h1:(x==("__debug__":Str))=false:=by decide) (h2:starEach (e::es) X.env=(false,eval e X.env)::starEach es X.env:=by rfl) (h3:(backTo pos (starEach es X.env)).any (·.1)=false:=by rfl):PE X ((Expr.Name x p).Call (e::es) [] pos) (tE K ct E (bo F fc ks io) [] (wr++ks.filterMap id)):=H8 (Mw c hg hr hk gl ha h1 h2 h3)
theorem gn (i:Nat) (hN:X.N.Nodup) (h1:X.N[i]?=some x:=by rfl) (h2:L2.Loc X.env.scope x:=by exact Or.inl rfl) (h3:X.fn x=true\/X.env.scope.names.lookup x=some NameKind.local:=by first|exact .inl rfl|exact .inr rfl|assumption) (hp:pin.contains i=false:=by decide):PG X (.Name x pos) (tG K ct pin (gN i) [i]):=jN (pg_name hN h1 h2 h3) hp
theorem aB (h:PE X e (tE K ct E a js wr1)) (h2:PA X es (tA K ct E ga wr2)) (h3:starEach (e::es) X.env=(false,eval e X.env)::starEach es X.env:=by rfl):PA X (e::es) (tA K ct E (ah js a ga) (wr1++wr2)):=HK (pa_cons h h2 h3)
theorem aN (h:PE X e (tE K ct E a js wr1)) (h2:PA X es (eD K ct E go ks wr2)) (h3:starEach (e::es) X.env=(false,eval e X.env)::starEach es X.env:=by rfl):PA X (e::es) (eD K ct E (aq js a go) (none::ks) (wr1++wr2)):=HI (pa_cons h h2 h3)
theorem gH (h:PG X e (tG K ct pin gf ws1)) (h2:PGs X es (kB K ct pin gs ws2)) (h3:(assignEach (e::es) X.env).map (·.2)=assign e X.env::(assignEach es X.env).map (·.2):=by rfl):PGs X (e::es) (kB K ct pin (dS gf gs) (ws1++ws2)):=HH (pgs_cons h h2 h3)
end
theorem fu {N P:List Str} {sc:Scope} (h1:sc.kind=.function:=by rfl) (h2:sc.isCoroutine=false:=by rfl) (h3:sc.isGenerator=false:=by rfl) (h4:N.Nodup:=by decide +kernel) (h5:N.take P.length=P:=by rfl) (h6:∀x∈P,sc.names.lookup x=some .local\/sc.names.lookup x=some .cell:=by decide +kernel) (h7:∀y∈sc.names,y.2≠.free:=by decide +kernel):FnScope N P sc:=⟨h1,h2,h3,h4,h5,h6,h7⟩
section
variable {P:Program} {w:World} {K:PySem.W.Frag} {mg:Str->Option Value} {base:Heap} {x m qual:Str} {st:Stmt} {N ps:List Str} {k np n:Nat} {C:Addr} {ct:Tw.Ct} {cx:Str->Addr} {io:List Nat} {g:Sf} {f:Addr}
def px (P:Program) (w:World) (K:PySem.W.Frag) (mg:Str->Option Value) (base:Heap) (ct:Tw.Ct) (k:Nat) (qual:Str) (st:Stmt) (N:List Str) (pin:List Nat) (g:Sf):Prop :=
 ∀(f:Addr) (cdv:Value) (A:Around) (outer:List PySem.Env) (s:Shared) (H:Hp) (E:XK),A.guards=some []->Room k (A.deeper (PyProof.Rows.envOfC qual (defScope st) s.heap.objs.size f cdv))->(A.deeper (PyProof.Rows.envOfC qual (defScope st) s.heap.objs.size f cdv)).units+1<cLine->∃wr,PSs (Hs P w K mg base N qual st f cdv A outer s H E) (defBody st) (tS K ct E0 pin g wr)
theorem px.b (b:px P w K mg base ct k qual st N io g):qV P w K mg base ct k qual st N io g:=fun f cdv A outer s H E hg hr=>b f cdv A outer s H E hg hr (hu_of hr)
def GX (P:Program) (w:World) (K:PySem.W.Frag) (mg:Str->Option Value) (base:Heap) (ct:Tw.Ct) (cx:Str->Addr) (k:Nat) (qual:Str) (st:Stmt) (N:List Str) (pin:List Nat) (g:Sf):Prop :=
 ∀(f:Addr) (cdv:Value) (A:Around) (outer:List PySem.Env) (s:Shared) (H:Hp) (E:XK),A.guards=some []->Room k (A.deeper (PyProof.Rows.envOfC qual (defScope st) s.heap.objs.size f cdv))->(A.deeper (PyProof.Rows.envOfC qual (defScope st) s.heap.objs.size f cdv)).units+1<cLine->∃wr,PSs (Hk P w K mg base N qual st f cdv A outer s H E) (defBody st) (tS K ct (EW cx fun cls d _ H=>E cls d H) pin g wr)
theorem GX.b (b:GX P w K mg base ct cx k qual st N io g):RQ P w K mg base ct cx k qual st N io g:=fun f cdv A outer s H E hg hr=>b f cdv A outer s H E hg hr (hu_of hr)
theorem gF (D:Def K mg x st ps) (S:FnScope N ps (defScope st)) (b:px P w K mg base ct k x st N io g) (hps:ps.length=np:=by rfl) (hp:jf (defArgs st)=ps:=by rfl) (hN:N.length=n:=by rfl) (hn:np<=n:=by decide) (hio:sb io io=true:=by rfl) (hlt:(io.all fun i=>decide (i<np))=true:=by rfl) (hnd:io.Nodup:=by decide):Cal P w K mg base (k+1) x (bh K ct io (cm np n io g)):=Rw D S hps hp hN hn hio hlt hnd b.b
theorem E9 (D:MDef K C m qual st ps) (S:FnScope N ps (defScope st)) (b:px P w K mg base ct k qual st N io g) (hps:ps.length=np:=by rfl) (hp:jf (defArgs st)=ps:=by rfl) (hN:N.length=n:=by rfl) (hn:np<=n:=by decide) (hio:sb io io=true:=by rfl) (hlt:(io.all fun i=>decide (i<np))=true:=by rfl) (hnd:io.Nodup:=by decide):Met P w K mg base (k+1) C m (bh K ct io (cm np n io g)):=NY D S hps hp hN hn hio hlt hnd b.b
theorem N5 (D:IDef K mg x C qual st ps) (S:FnScope N ps (defScope st)) (b:px P w K mg base ct k qual st N io g) (hps:ps.length=np:=by rfl) (hp:jf (defArgs st)=ps:=by rfl) (hN:N.length=n:=by rfl) (hn:np<=n:=by decide) (hio:sb io io=true:=by rfl) (hlt:(io.all fun i=>decide (i<np))=true:=by rfl) (hnd:io.Nodup:=by decide):Mak P w K mg base (k+1) x C (bh K ct io (cm np n io g)):=N6 D S hps hp hN hn hio hlt hnd b.b
end
section
variable {K:PySem.W.Frag} {mg:Str->Option Value} {h:Heap} {f C C':Addr} {x m q:Str} {st:Stmt} {ps:List Str}
def BN (n q:Str) (st:Stmt) (ps:List Str):Prop:=∀(kV doc pm:Value) (an:Option Addr) (cdv ct:Value) (us:List Value),us.length=ps.length->bindArgs (PySem.W.fnOf n q (defArgs st) (defBody st) (defScope st) .none kV doc pm an cdv ct) ⟨us,[]⟩=pure (ps.zip us)
theorem gE (X:K.In h) (G:h.Ns mainGlobals mg) (a:PySem.W.nsIn K mainGlobals x=some (some (.ref f))) (l:d9 K f x x st) (b:BN x x st ps:=by first|exact(fun _ _ _ _ _ _ us hl=>match us,hl with|[_],_=>rfl)|exact(fun _ _ _ _ _ _ us hl=>match us,hl with|[_,_],_=>rfl)|exact(fun _ _ _ _ _ _ us hl=>match us,hl with|[_,_,_],_=>rfl)|exact(fun _ _ _ _ _ _ us hl=>match us,hl with|[_,_,_,_],_=>rfl)|exact(fun _ _ _ _ _ _ us hl=>match us,hl with|[_,_,_,_,_],_=>rfl)|exact(fun _ _ _ _ _ _ us hl=>match us,hl with|[_,_,_,_,_,_],_=>rfl)|exact(fun _ _ _ _ _ _ us hl=>match us,hl with|[_,_,_,_,_,_,_],_=>rfl)|exact(fun _ _ _ _ _ _ us hl=>match us,hl with|[_,_,_,_,_,_,_,_],_=>rfl)|exact(fun _ _ _ _ _ _ us hl=>match us,hl with|[],_=>rfl)):Def K mg x st ps:=by
 obtain⟨_,_,_,_,_,_,_,_,_,l,c,k⟩:=l;have F:=fun_mk (st:=st) l c k;exact⟨⟨_,_,F,PySem.W.mg_of X G a,F.binds b⟩⟩
theorem Gv (e:C=C') (cl:Cls K C) (a:PySem.W.findIn K (.ref C) m=some (some (.ref f))) (i:PySem.W.isFn K (.ref f)=true) (l:d9 K f m q st) (b:BN m q st ps:=by first|exact(fun _ _ _ _ _ _ us hl=>match us,hl with|[_],_=>rfl)|exact(fun _ _ _ _ _ _ us hl=>match us,hl with|[_,_],_=>rfl)|exact(fun _ _ _ _ _ _ us hl=>match us,hl with|[_,_,_],_=>rfl)|exact(fun _ _ _ _ _ _ us hl=>match us,hl with|[_,_,_,_],_=>rfl)|exact(fun _ _ _ _ _ _ us hl=>match us,hl with|[_,_,_,_,_],_=>rfl)|exact(fun _ _ _ _ _ _ us hl=>match us,hl with|[_,_,_,_,_,_],_=>rfl)|exact(fun _ _ _ _ _ _ us hl=>match us,hl with|[_,_,_,_,_,_,_],_=>rfl)|exact(fun _ _ _ _ _ _ us hl=>match us,hl with|[_,_,_,_,_,_,_,_],_=>rfl)|exact(fun _ _ _ _ _ _ us hl=>match us,hl with|[],_=>rfl)):MDef K C' m q st ps:=by
 subst e;obtain⟨_,_,_,_,_,_,_,_,_,l,c,k⟩:=l;have F:=fun_mk (st:=st) l c k;exact⟨⟨_,_,F,⟨a,i,k⟩,F.binds b⟩,cl⟩
theorem QY (e:C=C') (X:K.In h) (G:h.Ns mainGlobals mg) (nC:PySem.W.nsIn K mainGlobals x=some (some (.ref C))) (cl:Cls K C) (mk:PySem.W.makesIn K C=true) (kc:PySem.W.keepIn K (.ref C)=true) (a:PySem.W.findIn K (.ref C) "__init__"=some (some (.ref f))) (i:PySem.W.isFn K (.ref f)=true) (l:d9 K f "__init__" q st) (b:BN "__init__" q st ps:=by first|exact(fun _ _ _ _ _ _ us hl=>match us,hl with|[_],_=>rfl)|exact(fun _ _ _ _ _ _ us hl=>match us,hl with|[_,_],_=>rfl)|exact(fun _ _ _ _ _ _ us hl=>match us,hl with|[_,_,_],_=>rfl)|exact(fun _ _ _ _ _ _ us hl=>match us,hl with|[_,_,_,_],_=>rfl)|exact(fun _ _ _ _ _ _ us hl=>match us,hl with|[_,_,_,_,_],_=>rfl)|exact(fun _ _ _ _ _ _ us hl=>match us,hl with|[_,_,_,_,_,_],_=>rfl)|exact(fun _ _ _ _ _ _ us hl=>match us,hl with|[_,_,_,_,_,_,_],_=>rfl)|exact(fun _ _ _ _ _ _ us hl=>match us,hl with|[_,_,_,_,_,_,_,_],_=>rfl)|exact(fun _ _ _ _ _ _ us hl=>match us,hl with|[],_=>rfl)):IDef K mg x C' q st ps:=by
 subst e;obtain⟨_,_,_,_,_,_,_,_,_,l,c,k⟩:=l;have F:=fun_mk (st:=st) l c k;exact⟨⟨_,_,F,⟨mk,a,i,kc⟩,F.binds b⟩,PySem.W.mg_of X G nC,cl⟩
end
theorem Gm {K:PySem.W.Frag} {s:Str}:∀a∈([]:List Addr),Cls K a/\NoAttr K a s:=fun _ h=>nomatch h
theorem xt {K:PySem.W.Frag} {s:Str} {C:Addr} {l:List Addr} (c:Cls K C) (n:NoAttr K C s) (h:∀a∈l,Cls K a/\NoAttr K a s):∀a∈C::l,Cls K a/\NoAttr K a s:=fun a ha=>by
 rcases aU.mp ha with rfl|ha
 ·exact⟨c,n⟩
 ·exact h a ha
end Mp
namespace Tw
open PySem L2 PySem.Spec PyProof.Rows
end Tw
namespace Mp
open PySem L2 Tw
end Mp
namespace Mp
open PySem L2 Tw
end Mp
namespace PySem
open Sem (wp)
section
variable {prog:Program} {w:World} {A:Around} {R:GenEnd} {Y:Protocol} {n:Nat} {s₀:Shared} {c:Code} {fs:List Frame} {s:Shared} {env:Env}
 {K:Flow->Sem Fin} {H:Value->Sem Fin} {gd:Bool->Bool} {lv:List Value->List Value}
end
end PySem
namespace L2
open PySem PySem.Spec PyProof.Rows GenW
section
variable {X:Cx}
theorem FpOk.acc {S:Addr} {a a':Array Value} {c c':Nat} {ip:List (Addr×Obj)} {H:Hp} {b:Addr} (h:FpOk X ((S,lstObj a c)::ip) H b):FpOk X ((S,lstObj a' c')::ip) H b:=by
 obtain⟨h0,h1,h2,h3,h4,h5⟩:=h;refine⟨h0,h1,h2,h3,h4,fun p hp=>?_⟩
 rcases bc.mp hp with hp|hp
 ·exact h5 p (au _ hp)
 ·rcases aU.mp hp with hp|hp
  ·rw[hp];exact h5 (S,lstObj a c) (aJ _ (ao ..))
  ·exact h5 p (aJ _ (aE _ hp))
end
end L2
namespace L2
open PySem PySem.Spec PyProof.Rows GenW
section
variable {P:Program} {w:World} {K:PySem.W.Frag} {mg:Str->Option Value} {base:Heap} {k:Nat}
structure WakesG (k:Nat) (outer:List Env) (s s':Shared) (A:Around) (S:Addr) (s2:Shared):Prop where
 gd:A.guards=some []
 rm:Room k A
 fr:A.frames=some outer
 sx:s'.heap.objs.size<=S
 kp:∀b o,s'.heap.get? b=some o->s2.heap.get? b=some o
 ls:∃c,s2.heap.get? S=some (lstObj #[] c)
 os:s2.os=s.os
 ba:AllBare s2.gens
structure NewG (s:Shared) (u:Value) (s':Shared) (a:Addr) (g:Nat) (c:Code):Prop where
 eq:u=.ref a
 lo:s.heap.objs.size<=a
 hi:a<s'.heap.objs.size
 gen:s'.heap.IsGen a g
 st:s'.gens[g]?=some (.fresh c)
 os:s'.os=s.os
 ba:AllBare s'.gens
 nl:s'.heap.NoLimit
 kp:∀b o,s.heap.get? b=some o->s'.heap.get? b=some o
def RT (P:Program) (w:World) (k:Nat) (outer:List Env) (H:Hp) (s:Shared) (Q:List V->Hp->Prop) (E:XK) (u:Value) (s':Shared):Prop :=
 ∃a g c,NewG s u s' a g c/\∀A S s2,WakesG k outer s s' A S s2->Seg (model P w) A (REnd P w outer H s [] S a g Q E) (YItem s S a g) sizeLine s2 c ((model P w).den c) [] s2
structure GFnG (P:Program) (w:World) (K:PySem.W.Frag) (mg:Str->Option Value) (base:Heap) (k:Nat) (f:Addr) (fd:FuncData) (ps:List Str) (sp:SpG):Prop where
 len:∀vs H Q E,sp vs H Q E->vs.length=ps.length
 run:∀(A:Around) (outer:List Env) (s:Shared) (H:Hp) (args:Args) (us:List Value) (vs:List V) (Q:List V->Hp->Prop) (E:XK),Room k A->Env0 P w K mg base A outer s H->BindsTo s fd args (ps.zip us)->Vals vs us->sp vs H Q E ->
  codeAny (model P w) A (.call (.ref f) args) (fun r s'=>match r with|.ok (.ret u)=>RT P w k outer H s Q E u s'|_=>False) s
end
end L2
namespace Mp
open PySem L2
abbrev Yf:=List Val->Env->Out (Fl×List Val)
def qW (K:PySem.W.Frag) (ct:Tw.Ct) (E:Exn->St->Hp->Prop) (B:Hp) (X:List Addr) (Φ0:Addr->Prop) (pin wr:List Nat) (σ:St) (W:Wd) (D:GEnds):Out (Fl×List Val)->Prop
 | .ok (.nx,vs) S'=>∀σ' W' ys,b4 pin σ σ'->Sat K ct B X Φ0 σ' W'->W'.S=S'->Step wr W W'->ViewL K ct W'.Φ W'.H ys vs->D.nx ys σ' W'.H
 | .ok (.bk,vs) S'=>∀σ' W' ys,b4 pin σ σ'->Sat K ct B X Φ0 σ' W'->W'.S=S'->Step wr W W'->ViewL K ct W'.Φ W'.H ys vs->D.bk ys σ' W'.H
 | .ok (.ct,vs) S'=>∀σ' W' ys,b4 pin σ σ'->Sat K ct B X Φ0 σ' W'->W'.S=S'->Step wr W W'->ViewL K ct W'.Φ W'.H ys vs->D.ct ys σ' W'.H
 | .ok (.rt o,vs) S'=>∀σ' v W' D' ys,b4 pin σ σ'->Sat K ct B X Φ0 σ' W'->W'.S=S'->Step wr W W'->Tmp K ct [] wr W W' v o D'->ViewL K ct W'.Φ W'.H ys vs->D.rt ys v W'.H
 | .ex e S'=>∀σ' W',Sat K ct B X Φ0 σ' W'->W'.S=S'->Step wr W W'->E e σ' W'.H
 | .no=>False
section
variable {K:PySem.W.Frag} {ct:Tw.Ct} {E:Exn->St->Hp->Prop} {B:Hp} {X:List Addr} {Φ0:Addr->Prop} {σ σ1:St} {W W':Wd} {wr wr1 wr2 pin:List Nat} {D:GEnds} {a:Ef} {ys:List V}
theorem qW.behind {r:Out (Fl×List Val)} (h:qW K ct E B X Φ0 pin (wr1++wr2) σ W D r) (a:Step wr1 W W') (p:b4 pin σ σ1):qW K ct E B X Φ0 pin wr2 σ1 W' D r:=by
 match r,h with
 | .ok (.nx,_) _,h=>exact fun σ' W' ys pe s e t v=>h σ' W' ys (p.trans pe) s e (a.trans t) v
 | .ok (.bk,_) _,h=>exact fun σ' W' ys pe s e t v=>h σ' W' ys (p.trans pe) s e (a.trans t) v
 | .ok (.ct,_) _,h=>exact fun σ' W' ys pe s e t v=>h σ' W' ys (p.trans pe) s e (a.trans t) v
 | .ok (.rt o,_) _,h=>exact fun σ' v W' D' ys pe s e t tm vv=>h σ' v W' D' ys (p.trans pe) s e (a.trans t) (tm.behind a) vv
 | .ex _ _,h=>exact fun σ' W' s e t=>h σ' W' s e (a.trans t)
theorem qW.mono {r:Out (Fl×List Val)} (h:qW K ct E B X Φ0 pin wr1 σ W D r) (hw:∀k∈wr,k∈wr1):qW K ct E B X Φ0 pin wr σ W D r:=by
 match r,h with
 | .ok (.nx,_) _,h=>exact fun σ' W' ys pe s e t v=>h σ' W' ys pe s e (t.mono hw) v
 | .ok (.bk,_) _,h=>exact fun σ' W' ys pe s e t v=>h σ' W' ys pe s e (t.mono hw) v
 | .ok (.ct,_) _,h=>exact fun σ' W' ys pe s e t v=>h σ' W' ys pe s e (t.mono hw) v
 | .ok (.rt o,_) _,h=>exact fun σ' v W' D' ys pe s e t tm vv=>h σ' v W' D' ys pe s e (t.mono hw) (tm.mono (fun _ z=>z) hw) vv
 | .ex _ _,h=>exact fun σ' W' s e t=>h σ' W' s e (t.mono hw)
end
abbrev Hl:=List OV->Option (List Val)
section
variable {P:Program} {w:World} {K:PySem.W.Frag} {mg:Str->Option Value} {base:Heap} {k:Nat} {x:Str} {ps:List Str} {f:Addr} {fd:FuncData}
structure CalY (P:Program) (w:World) (K:PySem.W.Frag) (mg:Str->Option Value) (base:Heap) (k:Nat) (x:Str) (ps:List Str) (sp:SpG):Prop where
 ex:∃f fd,GFnG P w K mg base k f fd ps sp/\mg x=some (.ref f)/\PySem.W.keepIn K (.ref f)=true/\∃oc od osl,K.lookup f=some ⟨oc,od,.func fd,osl⟩
end
end Mp
namespace Mp
open PySem L2 Tw
end Mp
namespace Mp
open PySem L2 Tw
end Mp
namespace PySem.W
open PySem PySem.Calls PyProof.Rows PySem.Spec
end PySem.W
namespace Tw
open PySem L2 PySem.Spec PyProof.Rows
end Tw
namespace Mp
open PySem L2 Tw
end Mp
namespace Tw
open PySem L2 PySem.Spec PyProof.Rows
end Tw
namespace Mp
open PySem L2 Tw
end Mp
namespace PySem
open PySem.Spec PyProof PyProof.Rows PySem.AutoSeq1
end PySem
namespace Tw
open PySem L2 PySem.Spec PyProof.Rows
end Tw
namespace Mp
open PySem L2 Tw
end Mp
namespace Tw
open PySem L2 PySem.Spec PyProof.Rows
end Tw
namespace Mp
open PySem L2 Tw
end Mp
namespace Mp
open PySem L2
def vC (K:PySem.W.Frag) (ct:Tw.Ct) (E:Exn->St->Hp->Prop) (it:Af) (wr:List Nat):TI:=fun σ H R=>∃B X Φ0 W,W.H=H/\Sat K ct B X Φ0 σ W/\match it W.S with
 | .ok its S'=>∀J W',Sat K ct B X Φ0 σ W'->W'.S=S'->Step wr W W'->Iter K ct W'.Φ W'.H [] its J->R J W'.H
 | .ex e S'=>∀W',Sat K ct B X Φ0 σ W'->W'.S=S'->Step wr W W'->E e σ W'.H
 | .no=>False
def iT (g:Gf) (c:Tf) (it1:Af) (g1:Gf) (c1:Tf) (js:List Nat) (a:Ef) (vs vs1:List Nat):List Val->Env->Out (List Val)
 | [],S=>.ok [] S
 | x::xs,S=>(Out.of (g x S) S).bind fun S1 _=>(c S1).bind fun k S2=>match k with
  | false=>iT g c it1 g1 c1 js a vs vs1 xs (aA S2 vs)
  | true=>(it1 S2).bind fun its1 S3=>(b9 g1 c1 js a vs1 its1 (aA S3 vs1)).bind fun zs S4=>(iT g c it1 g1 c1 js a vs vs1 xs (aA S4 vs)).bind fun ys S5=>.ok (zs++ys) S5
def pj (it:Af) (g:Gf) (c:Tf) (it1:Af) (g1:Gf) (c1:Tf) (js:List Nat) (a:Ef) (vs vs1:List Nat):Ef:=fun S=>(it S).bind fun its S1=>(dN (iT g c it1 g1 c1 js a vs vs1 its (aA S1 vs))).bind fun ys S2=>if ys.length<=sizeLine then .ok (ag ys) (db S1 S2 vs) else .no
section
variable {K:PySem.W.Frag} {ct:Tw.Ct} {B:Hp} {X:List Addr} {Φ0:Addr->Prop} {σ σ4 τ:St} {W W' W1 W6:Wd} {H H':Hp} {x:Val} {u v:V} {wr us vs:List Nat} {ys:List Val} {Dn:Addr}
structure DnAt (K:PySem.W.Frag) (ct:Tw.Ct) (Dn:Addr) (ys:List Val) (W:Wd):Prop where
 nf:∀k,Dn∉W.Fs k
 np:¬W.Φ Dn
 acc:∃acc,W.H Dn=some (.lst acc)/\ViewL K ct W.Φ W.H acc ys
theorem DnAt.step (d:DnAt K ct Dn ys W) (s:Sat K ct B X Φ0 σ W) (a:Step wr W W'):DnAt K ct Dn ys W':=by
 obtain⟨nf,np,acc,h1,h2⟩:=d
 have no:¬Own W.Fs wr Dn:=fun⟨k,_,hk⟩=>nf k hk
 refine⟨fun k hk=>?_,fun z=>?_,acc,a.fr Dn _ h1 no,lO a.ph (s.keeps a) h2⟩
 ·rcases a.nf k Dn hk with z|z|z
  ·exact nf k z
  ·exact no z
  ·exact(nomatch z.symm.trans h1)
 ·rcases a.pn Dn z with z|z|z
  ·exact np z
  ·exact no z
  ·exact(nomatch z.symm.trans h1)
theorem DnAt.grow (d:DnAt K ct Dn ys W) (e:Same W.H H'):DnAt K ct Dn ys { W with H:=H' }:=by
 obtain⟨nf,np,acc,h1,h2⟩:=d;exact⟨nf,np,acc,e _ _ h1,lO (fun _ z=>z) (fun b u z _=>⟨u,e _ _ z,.inl rfl⟩) h2⟩
theorem DnAt.wiped (d:DnAt K ct Dn ys W) (vs:List Nat):DnAt K ct Dn ys (W.wiped vs):=by
 obtain⟨nf,np,h⟩:=d;refine⟨fun k hk=>?_,np,h⟩;have hk:Dn∈bV W.Fs vs k:=hk;unfold bV at hk;split at hk
 ·cases hk
 ·exact nf k hk
theorem r7 (hu:∀k∈us,k∈vs) (l:W.S.length=W1.S.length) (a:Step wr (W1.wiped vs) W):Step wr (W1.wiped vs) (W.wiped us):=by
 refine⟨a.fr,a.lv,a.ph,a.pn,fun k hk=>?_,fun k x hx=>?_,fun k hk=>?_⟩
 ·have z:W.Fs k=bV W1.Fs vs k:=a.kf k hk
  show bV W.Fs us k=bV W1.Fs vs k
  by_cases h:k∈us
  ·unfold bV;rw[if_pos h,if_pos (hu k h)]
  ·rw[←z];unfold bV;rw[if_neg h]
 ·have hx:x∈bV W.Fs us k:=hx;unfold bV at hx;split at hx
  ·cases hx
  ·exact a.nf k x hx
 ·show(aA W.S us)[k]?=(aA W1.S vs)[k]?
  have z:W.S[k]?=(aA W1.S vs)[k]?:=a.ks k hk;rw[jo us];split
  ·rename_i h
   rw[jo vs,if_pos ⟨hu k h.1,by rw[←l]; exact h.2⟩]
  ·exact z
theorem Jn {us vs:List Nat} (hu:∀k∈us,k∈vs) (σ:St):wipe (wipe σ us) vs=wipe σ vs:=by
 apply mK;intro i;rw[Tw.j3,Tw.j3,Tw.j3,wipe_length]
 by_cases h:i∈vs/\i<σ.length
 ·rw[if_pos h,if_pos h]
 ·rw[if_neg h,if_neg h,if_neg fun z=>h ⟨hu i z.1,z.2⟩]
def lx (W6 W:Wd):Prop:=∀b u,W6.H b=some u->(W6.Φ b\/uk u)->W.H b=some u
theorem lx.step (k:lx W6 W) (ph:∀a,W6.Φ a->W.Φ a) (s:Sat K ct B X Φ0 σ W) (a:Step wr W W'):lx W6 W':=fun b u h p=>by
 have h:=k b u h p
 refine a.fr b u h fun⟨i,_,hb⟩=>?_
 rcases p with p|p
 ·exact s.nph i b hb (ph b p)
 ·obtain⟨u',e,n⟩:=s.liveF hb;rw[h] at e
  cases e
  exact n p
theorem Me (s:Sat K ct B X Φ0 τ W) (d:DnAt K ct Dn ys W) (bD:B Dn=none) (hv:bw K ct W.Φ W.H u x) {acc:List V} (ha:W.H Dn=some (.lst acc)) (hl:ViewL K ct W.Φ W.H acc ys) :
  Sat K ct B X Φ0 τ { W with H:=upd W.H Dn (.lst (acc++[u])) }/\DnAt K ct Dn (ys++[x]) { W with H:=upd W.H Dn (.lst (acc++[u])) }:=by
 have kp:cg W.Φ W.H (upd W.H Dn (.lst (acc++[u]))):=fun b w h p=>by
  refine⟨w,?_,.inl rfl⟩;rw[upd_ne fun z=>?_]
  ·exact h
  ·subst z
   rcases p with p|p
   ·exact d.np p
   ·rw[ha] at h; cases h; exact p
 exact⟨s.wrD d.nf d.np bD fun w h z=>by rw[ha] at h; cases h; exact z,d.nf,d.np,acc++[u],upd_same,yV (lO (fun _ z=>z) kp hl) (hv.keep (fun _ z=>z) kp _)⟩
theorem lx.push (k:lx W6 W) (ph:∀a,W6.Φ a->W.Φ a) (np:¬W.Φ Dn) {acc:List V} {o:HO} (ha:W.H Dn=some (.lst acc)):lx W6 { W with H:=upd W.H Dn o }:=fun b w h p=>by
 have h:=k b w h p
 show upd W.H Dn o b=some w
 rw[upd_ne fun z=>?_]
 ·exact h
 ·subst z
  rcases p with p|p
  ·exact np (ph _ p)
  ·rw[ha] at h; cases h; exact p
section
variable {vs1 wrT ws1 wc1 wa jsa:List Nat} {its:List Val} {J:It} {g1:Gf} {c1:Tf} {a:Ef} {Nx:Hp->Prop}
theorem Oq (hw1:∀k∈ws1,k∈vs1) (hvv:∀k∈vs1,k∈vs) (hsub:∀k∈ws1++(wc1++wa),k∈wrT) (l6:W6.S.length=W1.S.length) (s6:Sat K ct B X Φ0 σ4 W6) (a6:Step wrT (W1.wiped vs) W6) (hDn:W1.H Dn=none) (bD:B Dn=none) (d6:DnAt K ct Dn ys W6) (I:Iter K ct W6.Φ W6.H [] its J)
  (q:match b9 g1 c1 jsa a vs1 its (aA W6.S vs1) with
   | .ok zs S'=>(ys++zs).length<=sizeLine/\∀W',Sat K ct B X Φ0 (wipe σ4 vs1) W'->Step wrT (W1.wiped vs) W'->DnAt K ct Dn (ys++zs) W'->W'.S=S'->Nx W'.H
   | .ex _ _=>False
   | .no=>False) :
  ∃Wm:Nat->Nat->Hp->Prop,(∃m,Wm 0 m W6.H)/\∀j k H,Wm j k H->(J.stop j H/\Nx H)\/(J.go j H/\∃Nx1:Hp->Prop,(∀H',Nx1 H'->∃k',k'<k/\Wm (j+1) k' H')/\∀x H',J.yld j H x H'->tG K ct [] g1 ws1 x (wipe σ4 vs1) H' fun σ3 H5=>wipe σ3 vs1=wipe σ4 vs1/\tT K ct E0 c1 wc1 σ3 H5 fun b H6 =>
   if b=true then tE K ct E0 a jsa wa σ3 H6 fun y H7=>∃acc,H7 Dn=some (.lst acc)/\acc.length<sizeLine/\Nx1 (upd H7 Dn (.lst (acc++[y]))) else Nx1 H6):=by
 let Fin:List Val->Out (List Val)->Prop:=fun ys out=>match out with
  | .ok zs S'=>(ys++zs).length<=sizeLine/\∀W',Sat K ct B X Φ0 (wipe σ4 vs1) W'->Step wrT (W1.wiped vs) W'->DnAt K ct Dn (ys++zs) W'->W'.S=S'->Nx W'.H
  | .ex _ _=>False
  | .no=>False
 have q0:Fin ys (b9 g1 c1 jsa a vs1 its (aA W6.S vs1)):=q;refine⟨fun j m H=>m=its.length - j/\j<=its.length/\∃W ys,W.H=H/\(Sat K ct B X Φ0 (wipe σ4 vs1) W/\Step wrT (W1.wiped vs) W/\DnAt K ct Dn ys W/\lx W6 W/\∀a,W6.Φ a->W.Φ a)/\Fin ys (b9 g1 c1 jsa a vs1 (its.drop j) W.S),⟨its.length,by simp,eR _,W6.wiped vs1,ys,rfl,⟨s6.wiped vs1 rfl,r7 hvv l6 a6,d6.wiped vs1,fun _ _ h _=>h,fun _ z=>z⟩,q0⟩,?_⟩
 rintro j m _ ⟨rfl,hj,W2,ys,rfl,⟨s2,st2,d2,k2,p2⟩,q2⟩
 have kk:cg W6.Φ W6.H W2.H:=fun b u h p=>⟨u,k2 b u h p,.inl rfl⟩
 by_cases hlt:j<its.length
 ·refine .inr ⟨I.go _ kk (fun _ z=>nomatch z) j hlt,fun H'=>∃m',m'<its.length - j/\(m'=its.length - (j+1)/\j+1<=its.length/\∃W ys,W.H=H'/\(Sat K ct B X Φ0 (wipe σ4 vs1) W/\Step wrT (W1.wiped vs) W/\DnAt K ct Dn ys W/\lx W6 W/\∀a,W6.Φ a->W.Φ a)/\Fin ys (b9 g1 c1 jsa a vs1 (its.drop (j+1)) W.S)),fun _ z=>z,fun v H3 y=>?_⟩;obtain⟨e3,hv⟩:=I.yld _ kk (fun _ z=>nomatch z) j v H3 y;have hv:=hv its[j] (c8 hlt);rw[u7 hlt] at q2;unfold b9 at q2;have s3:=s2.grow e3
  have a3:Step wrT (W1.wiped vs) { W2 with H:=H3 }:=by
   have:=st2.trans (gU e3);rw[b6] at this;exact this
  have d3:=d2.grow e3
  have k3:lx W6 { W2 with H:=H3 }:=fun b u h p=>e3 _ _ (k2 b u h p)
  cases hg:g1 its[j] W2.S with
  | none=>rw[hg] at q2; exact q2.elim
  | some S4 =>
   rw[hg,Out.of_some,Out.bind_ok] at q2;refine⟨B,X,Φ0,{ W2 with H:=H3 },its[j],S4,rfl,s3,hv.keep p2 kR _,hg,fun σ5 W4 _ s4 e4 eh ep a4 hwp=>⟨?_,?_⟩⟩
   ·rw[hwp vs1 hw1,Tw.pN]
   subst e4
   have hwp4:wipe σ5 vs1=wipe σ4 vs1:=by rw[hwp vs1 hw1,Tw.pN]
   have ll:∀W,Sat K ct B X Φ0 σ5 W->W.S.length=W1.S.length:=fun W s=>by
    have y1:=s.len;have y2:=s6.len;have y3:=congrArg List.length hwp4;rw[wipe_length,wipe_length] at y3;omega
   have t4:Step wrT (W1.wiped vs) W4:=fD (a3.trans (a4.mono fun k hk=>hsub k (au _ hk)));have d4:=d3.step s3 a4;have k4:=k3.step p2 s3 a4
   have p4:∀a,W6.Φ a->W4.Φ a:=fun a z=>a4.ph a (p2 a z)
   refine⟨B,X,Φ0,W4,rfl,s4,?_⟩
   cases hc:c1 W4.S with
   | no=>rw[hc] at q2; exact q2.elim
   | ex e S5=>rw[hc] at q2; exact q2.elim
   | ok k S5 =>
    rw[hc,Out.bind_ok] at q2;intro W5 s5 e5 a5;subst e5;have t5:Step wrT (W1.wiped vs) W5:=fD (t4.trans (a5.mono fun k hk=>hsub k (aJ _ (au _ hk))));have d5:=d4.step s4 a5;have k5:=k4.step p4 s4 a5
    have p5:∀a,W6.Φ a->W5.Φ a:=fun a z=>a5.ph a (p4 a z)
    cases k with
    | false=>exact iteF ⟨its.length - (j+1),by omega,rfl,hlt,W5.wiped vs1,ys,rfl,⟨s5.wiped vs1 hwp4,r7 hvv (ll W5 s5) t5,d5.wiped vs1,k5,p5⟩,q2⟩
    | true =>
     refine iteT ⟨B,X,Φ0,W5,rfl,s5,?_⟩;have q2:Fin ys ((a W5.S).bind fun o S3=>(Out.of (aI jsa o) S3).bind fun y S4=>(b9 g1 c1 jsa a vs1 (its.drop (j+1)) (aA S4 vs1)).bind fun ys S5=>.ok (y::ys) S5):=q2
     cases ha:a W5.S with
     | no=>rw[ha] at q2; exact q2.elim
     | ex e S6=>rw[ha] at q2; exact q2.elim
     | ok o S6 =>
      rw[ha,Out.bind_ok] at q2;intro u W7 D7 s7 e7 a7 t7;subst e7
      cases hx:aI jsa o with
      | none=>rw[hx] at q2; exact q2.elim
      | some x =>
       rw[hx,Out.of_some,Out.bind_ok] at q2;obtain⟨Φ',s8,a8,v8⟩:=jt s5 s7 a7 t7 hx;have t8:Step wrT (W1.wiped vs) { W7 with Φ:=Φ' }:=fD (t5.trans (a8.mono fun k hk=>hsub k (aJ _ (aJ _ hk))));have d8:=d5.step s5 a8;have k8:=k5.step p5 s5 a8
       have p8:∀a,W6.Φ a->Φ' a:=fun a z=>a8.ph a (p5 a z)
       obtain⟨acc,g2,g3⟩:=d8.acc;obtain⟨f1,f2⟩:=Me (s8.wiped vs1 hwp4) (d8.wiped vs1) bD v8 g2 g3;have f3:=r6 (D:=Dn) (o:=.lst (acc++[u])) (r7 hvv (ll _ s8) t8) hDn;have f4:lx W6 { W7 with Φ:=Φ',H:=upd W7.H Dn (.lst (acc++[u])) }:=k8.push p8 d8.np g2
       cases hl:b9 g1 c1 jsa a vs1 (its.drop (j+1)) (aA W7.S vs1) with
       | no=>rw[hl] at q2; exact q2.elim
       | ex e S7=>rw[hl] at q2; exact q2.elim
       | ok zs S7 =>
        rw[hl,Out.bind_ok] at q2;obtain⟨q3,q4⟩:=q2
        have hacc:acc.length<sizeLine:=by
         rw[fG g3];rw[cX,cR] at q3;omega
        refine⟨acc,g2,hacc,its.length - (j+1),by omega,rfl,hlt,{ ({ W7 with Φ:=Φ' }:Wd).wiped vs1 with H:=upd W7.H Dn (.lst (acc++[u])) },ys++[x],rfl,⟨f1,f3,f2,f4,p8⟩,?_⟩
        show Fin (ys++[x]) (b9 g1 c1 jsa a vs1 (its.drop (j+1)) (aA W7.S vs1))
        rw[hl]
        show(ys++[x]++zs).length<=sizeLine/\_
        rw[dI];exact⟨q3,q4⟩
 ·have e:j=its.length:=by omega
  subst e;rw[List.drop_length] at q2;obtain⟨_,q3⟩:=q2;rw[b6] at q3;exact .inl ⟨I.stop _ kk (fun _ z=>nomatch z),q3 W2 s2 st2 d2 rfl⟩
end
end
end Mp
namespace Mp
open PySem L2
section
variable {K:PySem.W.Frag} {ct:Tw.Ct} {E:Exn->St->Hp->Prop} {σ:St} {H:Hp} {js ws ws1:List Nat} {g g1:Gf} {c c1:Tf} {a:Ef}
theorem Kt {it it1:Af} {wri wri1 wc wc1 wa vs vs1 jsa:List Nat} (hw:∀k∈ws,k∈vs) (hw1:∀k∈ws1,k∈vs1) (hvv:∀k∈vs1,k∈vs) (hj:∀k∈js,k∉wc++(wri1++(wc1++wa))) {Q:VK} (q:tE K ct E (pj it g c it1 g1 c1 jsa a vs vs1) [] (wri++(wc++(wri1++(wc1++wa)))) σ H Q) :
  tLc2 (tI K ct E it js wri) (tG K ct [] g ws) (tT K ct E0 c wc) (vC K ct E0 it1 wri1) (tG K ct [] g1 ws1) (tT K ct E0 c1 wc1) (tE K ct E0 a jsa wa) vs vs1 σ H Q:=by
 obtain⟨B,X,Φ0,W,rfl,s,q⟩:=q;unfold pj at q;refine⟨B,X,Φ0,W,rfl,s,?_⟩
 cases hi:it W.S with
 | no=>rw[hi] at q; exact q.elim
 | ex e S'=>rw[hi] at q; exact fun W' s' e' a'=>q W' s' e' (a'.mono fun k hk=>au _ hk)
 | ok its S1 =>
 rw[hi,Out.bind_ok] at q;intro J W1 Dl s1 e1 a1 dl dj I Dn hDn;subst e1
 generalize hwb:wc++(wri1++(wc1++wa))=wb at *
 let wrT:List Nat:=ws++(ws1++wb)
 have hr:∀k∈wrT,k∈vs\/k∈wb:=fun k hk=>by
  rcases bc.mp hk with h|h
  ·exact .inl (hw k h)
  ·exact(bc.mp h).imp (fun z=>hvv k (hw1 k z)) id
 have inB:∀k∈wb,k∈wrT:=fun k hk=>aJ _ (aJ _ hk)
 have inC:∀k∈wc,k∈wrT:=fun k hk=>inB k (by rw[←hwb]; exact au _ hk)
 have inI:∀k∈wri1,k∈wrT:=fun k hk=>inB k (by rw[←hwb]; exact aJ _ (au _ hk))
 have inR:∀k∈ws1++(wc1++wa),k∈wrT:=fun k hk=>by
  rcases bc.mp hk with h|h
  ·exact aJ _ (au _ h)
  ·exact inB k (by rw[←hwb]; exact aJ _ (aJ _ h))
 have hwf:∀k a,a∈(W1.wiped vs).Fs k->a∈W1.Fs k/\k∉vs:=fun k a h=>by
  have h:a∈bV W1.Fs vs k:=h;unfold bV at h;split at h
  ·cases h
  ·exact⟨h,by assumption⟩
 have same:∀W2,Step wrT (W1.wiped vs) W2->∀a∈Dl,W2.H a=W1.H a:=fun W2 st a ha=>by
  cases e:W1.H a with
  | none=>exact absurd e (dl a ha)
  | some u=>exact st.fr a u e fun⟨k,hk,hm⟩=>hj k (dj a ha k (hwf k a hm).1) ((hr k hk).resolve_left (hwf k a hm).2)
 have s1w:Sat K ct B X Φ0 (wipe σ vs) (W1.wiped vs):=s1.wiped vs rfl
 let Fin:List Val->Out (List Val)->Prop:=fun ys out=>match out with
  | .ok zs S'=>(ys++zs).length<=sizeLine/\∀W',Sat K ct B X Φ0 (wipe σ vs) W'->Step wrT (W1.wiped vs) W'->DnAt K ct Dn (ys++zs) W'->W'.S=S'->Q (.ref Dn) W'.H
  | .ex _ _=>False
  | .no=>False
 have bD:B Dn=none:=by
  cases e:B Dn with
  | none=>rfl
  | some u=>exact absurd hDn (s1.lv Dn (by rw[e]; exact fun z=>nomatch z))
 have q0 : Fin [] (iT g c it1 g1 c1 jsa a vs vs1 its (aA W1.S vs)) := by
  show match iT g c it1 g1 c1 jsa a vs vs1 its (aA W1.S vs) with|.ok zs S'=>_|.ex _ _=>False|.no=>False
  cases hl':iT g c it1 g1 c1 jsa a vs vs1 its (aA W1.S vs) with
  | no=>rw[hl'] at q; exact q.elim
  | ex e S'=>rw[hl'] at q; exact q.elim
  | ok zs S' =>
   rw[hl'] at q
   by_cases hz:zs.length<=sizeLine
   ·have q:match (if zs.length<=sizeLine then (.ok (ag zs) (db W1.S S' vs):Out OV) else .no) with
     | .ok r S'=>∀v W' D,Sat K ct B X Φ0 σ W'->W'.S=S'->Step (wri++wb) W W'->Tmp K ct [] (wri++wb) W W' v r D->Q v W'.H
     | .ex e S'=>∀W',Sat K ct B X Φ0 σ W'->W'.S=S'->Step (wri++wb) W W'->E e σ W'.H
     | .no=>False:=q
    rw[if_pos hz] at q;refine⟨hz,fun W' s' t' d' e=>?_⟩;subst e;obtain⟨s3,st3⟩:=s1.rest vs hr s' t';obtain⟨acc,h1,h2⟩:=d'.acc;refine q (.ref Dn) { W' with S:=db W1.S W'.S vs,Fs:=fun k=>if k∈vs then W1.Fs k else W'.Fs k } [Dn] s3 rfl (a1.trans st3) ⟨?_,by simp,fun x hx=>?_,fun x hx k hk=>?_,fun x hx=>?_⟩
    ·exact⟨Dn,acc,[],rfl,h1,by rw[fG h2]; exact hz,ny h2,rfl⟩
    ·rw[bm.mp hx]; exact d'.np
    ·rw[bm.mp hx] at hk;have hk:Dn∈(if k∈vs then W1.Fs k else W'.Fs k):=hk;split at hk
     ·obtain⟨u,e,_⟩:=s1.liveF hk;exact(nomatch hDn.symm.trans e)
     ·exact absurd hk (d'.nf k)
    ·rw[bm.mp hx]; exact .inr (.inr (ja a1 hDn))
   ·have q:match (if zs.length<=sizeLine then (.ok (ag zs) (db W1.S S' vs):Out OV) else .no) with
     | .ok r S'=>∀v W' D,Sat K ct B X Φ0 σ W'->W'.S=S'->Step (wri++wb) W W'->Tmp K ct [] (wri++wb) W W' v r D->Q v W'.H
     | .ex e S'=>∀W',Sat K ct B X Φ0 σ W'->W'.S=S'->Step (wri++wb) W W'->E e σ W'.H
     | .no=>False:=q
    rw[if_neg hz] at q;exact q.elim
 refine⟨fun i m H=>m=its.length - i/\i<=its.length/\∃W ys,W.H=H/\(Sat K ct B X Φ0 (wipe σ vs) W/\Step wrT (W1.wiped vs) W/\DnAt K ct Dn ys W)/\Fin ys (iT g c it1 g1 c1 jsa a vs vs1 (its.drop i) W.S),⟨its.length,by simp,eR _,?_⟩,?_⟩
 ·refine⟨{ (W1.wiped vs) with H:=upd W1.H Dn (.lst []) },[],rfl,⟨?_,?_,?_,?_,[],upd_same,trivial⟩,q0⟩
  ·refine s1w.grow ?_;exact Tw.iP hDn
  ·exact(gU (W:=W1.wiped vs) (Tw.iP hDn)).mono fun _ z=>nomatch z
  ·intro k hk;obtain⟨u,e,_⟩:=s1w.liveF hk;exact(nomatch hDn.symm.trans e)
  ·exact fun z=>s1.phl Dn z hDn
 ·rintro i m _ ⟨rfl,hi',W2,ys,rfl,⟨s2,st2,d2⟩,q2⟩
  have k2:cg W1.Φ W1.H W2.H:=s1w.keeps st2;have dd:=same W2 st2
  by_cases hlt:i<its.length
  ·refine .inr ⟨I.go _ k2 dd i hlt,fun H'=>∃m',m'<its.length - i/\(m'=its.length - (i+1)/\i+1<=its.length/\∃W ys,W.H=H'/\(Sat K ct B X Φ0 (wipe σ vs) W/\Step wrT (W1.wiped vs) W/\DnAt K ct Dn ys W)/\Fin ys (iT g c it1 g1 c1 jsa a vs vs1 (its.drop (i+1)) W.S)),fun _ z=>z,fun v H3 y=>?_⟩;obtain⟨e3,hv⟩:=I.yld _ k2 dd i v H3 y;have hv:=hv its[i] (c8 hlt);rw[u7 hlt] at q2;unfold iT at q2;have s3:=s2.grow e3
   have a3:Step wrT (W1.wiped vs) { W2 with H:=H3 }:=by
    have:=st2.trans (gU e3);rw[b6] at this;exact this
   have d3:=d2.grow e3
   cases hg:g its[i] W2.S with
   | none=>rw[hg] at q2; exact q2.elim
   | some S4 =>
    rw[hg,Out.of_some,Out.bind_ok] at q2;refine⟨B,X,Φ0,{ W2 with H:=H3 },its[i],S4,rfl,s3,hv.keep st2.ph kR _,hg,fun σ4 W4 _ s4 e4 eh ep a4 hwp=>⟨?_,?_⟩⟩
    ·rw[hwp vs hw,Tw.pN]
    subst e4
    have hwp4:wipe σ4 vs=wipe σ vs:=by rw[hwp vs hw,Tw.pN]
    have ll:∀W,Sat K ct B X Φ0 σ4 W->W.S.length=W1.S.length:=fun W s=>by
     have y1:=s.len;have y2:=s1.len;have y3:=congrArg List.length hwp4;rw[wipe_length,wipe_length] at y3;omega
    have t4:Step wrT (W1.wiped vs) W4:=fD (a3.trans (a4.mono fun k hk=>au _ hk));have d4:=d3.step s3 a4;refine⟨B,X,Φ0,W4,rfl,s4,?_⟩
    cases hc:c W4.S with
    | no=>rw[hc] at q2; exact q2.elim
    | ex e S5=>rw[hc] at q2; exact q2.elim
    | ok k S5 =>
     rw[hc,Out.bind_ok] at q2;intro W5 s5 e5 a5;subst e5;have t5:Step wrT (W1.wiped vs) W5:=fD (t4.trans (a5.mono inC));have d5:=d4.step s4 a5
     cases k with
     | false=>exact iteF ⟨its.length - (i+1),by omega,rfl,hlt,W5.wiped vs,ys,rfl,⟨s5.wiped vs hwp4,r7 (fun _ z=>z) (ll W5 s5) t5,d5.wiped vs⟩,q2⟩
     | true =>
      refine iteT ⟨B,X,Φ0,W5,rfl,s5,?_⟩;have q2:Fin ys ((it1 W5.S).bind fun its1 S3=>(b9 g1 c1 jsa a vs1 its1 (aA S3 vs1)).bind fun zs S4=>(iT g c it1 g1 c1 jsa a vs vs1 (its.drop (i+1)) (aA S4 vs)).bind fun ys S5=>.ok (zs++ys) S5):=q2
      cases hi1:it1 W5.S with
      | no=>rw[hi1] at q2; exact q2.elim
      | ex e S6=>rw[hi1] at q2; exact q2.elim
      | ok its1 S6 =>
       rw[hi1,Out.bind_ok] at q2;intro J1 W6 s6 e6 a6 I1;subst e6;have t6:Step wrT (W1.wiped vs) W6:=fD (t5.trans (a6.mono inI));have d6:=d5.step s5 a6;refine Oq hw1 hvv inR (ll W6 s6) s6 t6 hDn bD d6 I1 ?_
       cases hl:b9 g1 c1 jsa a vs1 its1 (aA W6.S vs1) with
       | no=>rw[hl] at q2; exact q2.elim
       | ex e S7=>rw[hl] at q2; exact q2.elim
       | ok zs S7 =>
        rw[hl,Out.bind_ok] at q2
        cases hl2:iT g c it1 g1 c1 jsa a vs vs1 (its.drop (i+1)) (aA S7 vs) with
        | no=>rw[hl2] at q2; exact q2.elim
        | ex e S8=>rw[hl2] at q2; exact q2.elim
        | ok zs2 S8 =>
         rw[hl2,Out.bind_ok] at q2;obtain⟨q3,q4⟩:=q2;rw[←dI] at q3 q4;refine⟨by rw[cX] at q3; omega,fun W' s' t' d' e'=>?_⟩;subst e'
         have l':W'.S.length=W1.S.length:=by
          have y1:=s'.len;rw[wipe_length] at y1;have y2:=ll W6 s6;have y3:=s6.len;omega
         have e2:wipe (wipe σ4 vs1) vs=wipe σ vs:=by rw[Jn hvv,hwp4]
         refine⟨its.length - (i+1),by omega,rfl,hlt,W'.wiped vs,ys++zs,rfl,⟨s'.wiped vs e2,r7 (fun _ z=>z) l' t',d'.wiped vs⟩,?_⟩
         show Fin (ys++zs) (iT g c it1 g1 c1 jsa a vs vs1 (its.drop (i+1)) (aA W'.S vs))
         rw[hl2];exact⟨q3,q4⟩
  ·have e:i=its.length:=by omega
   subst e;rw[List.drop_length] at q2;obtain⟨_,q3⟩:=q2;rw[b6] at q3;exact .inl ⟨I.stop _ k2 dd,q3 W2 s2 st2 d2 rfl⟩
end
end Mp
namespace Mp
open PySem PySem.Spec PyProof.Rows L2
section
variable {K:PySem.W.Frag} {ct:Tw.Ct} {E:Exn->L2.St->Hp->Prop} {X:Cx} {st:Stmt} {js ws ws1 js2 pin:List Nat} {i:Nat} {a:Ef}
theorem Hy {it it1:Af} {gf gf1:Gf} {t t1:Tf} {wri wri1 wc wc1 wa vs vs1:List Nat} (h:PS X st (tAsg (tLc2 (tI K ct E it js wri) (tG K ct [] gf ws) (tT K ct E0 t wc) (vC K ct E0 it1 wri1) (tG K ct [] gf1 ws1) (tT K ct E0 t1 wc1) (tE K ct E0 a js2 wa) vs vs1) (gName i))) (hp:pin.contains i=false:=by decide) (hw:sb ws vs=true:=by decide) (hw1:sb ws1 vs1=true:=by decide) (hv:sb vs1 vs=true:=by decide) (hj:dj js (wc++(wri1++(wc1++wa)))=true:=by decide) :
  PS X st (tS K ct E pin (aZ [] (pj it gf t it1 gf1 t1 js2 a vs vs1) (gN i)) (wri++(wc++(wri1++(wc1++wa)))++[i])):=gO h fun D σ H q=>Kt (oA hw) (oA hw1) (oA hv) (iV hj) (zm (fun v H z=>xh (gC hp) z) (vA (js:=[]) q))
end
section
variable {fa it1:Af} {g g1:Gf} {c1:Tf} {js vs vs1:List Nat} {a:Ef} {S:Env} {Q:OV->Env->Prop}
theorem Fz {T:Env} (p:Val->Bool) (y:Val->Val):∀its:List Val,(∀z∈its,∃S5,g1 z T=some S5/\Wp (c1 S5) fun q S6=>q=p z/\aA S6 vs1=T/\(p z=true->Wp (a S6) fun o S7=>aI js o=some (y z)/\aA S7 vs1=T))->b9 g1 c1 js a vs1 its T=.ok ((its.filter p).map y) T
 | [],_=>rfl
 | z :: its, h => by
  obtain⟨S5,e5,w⟩:=h z (ao ..);obtain⟨q,S6,e6,rfl,e7,w2⟩:=dB w
  have ih:=Fz p y its fun u hu=>h u (aE _ hu)
  unfold b9;rw[e5,Out.of_some,Out.bind_ok,e6,Out.bind_ok]
  cases hp:p z with
  | false =>
   show b9 g1 c1 js a vs1 its (aA S6 vs1)=_
   rw[e7,ih,jL (by rw[hp]; exact kn)]
  | true =>
   obtain⟨o,S7,e8,e9,e10⟩:=dB (w2 hp)
   show((a S6).bind fun o S3=>(Out.of (aI js o) S3).bind fun y S4=>(b9 g1 c1 js a vs1 its (aA S4 vs1)).bind fun ys S5=>.ok (y::ys) S5)=_
   rw[e8,Out.bind_ok,e9,Out.of_some,Out.bind_ok,e10,ih,Out.bind_ok,jK hp,bU]
theorem FA {T0:Env} (its1:Val->List Val) (p:Val->Val->Bool) (y:Val->Val->Val):∀its:List Val,(∀x∈its,∃S2,g x T0=some S2/\Wp (it1 S2) fun zs S3=>zs=its1 x/\aA (aA S3 vs1) vs=T0/\∀z∈its1 x,∃S5,g1 z (aA S3 vs1)=some S5/\Wp (c1 S5) fun q S6=>q=p x z/\aA S6 vs1=aA S3 vs1/\(p x z=true->Wp (a S6) fun o S7=>aI js o=some (y x z)/\aA S7 vs1=aA S3 vs1))->iT g bP it1 g1 c1 js a vs vs1 its T0=.ok (its.flatMap fun x=>((its1 x).filter (p x)).map (y x)) T0
 | [],_=>rfl
 | x::its,h=>by
  obtain⟨S2,e2,w⟩:=h x (ao ..);obtain⟨zs,S3,e3,rfl,e4,w2⟩:=dB w
  have ih:=FA its1 p y its fun u hu=>h u (aE _ hu)
  have e5:=Fz (p x) (y x) (its1 x) w2;unfold iT;rw[e2,Out.of_some,Out.bind_ok]
  show((it1 S2).bind fun its1 S3=>(b9 g1 c1 js a vs1 its1 (aA S3 vs1)).bind fun zs S4=>(iT g bP it1 g1 c1 js a vs vs1 its (aA S4 vs)).bind fun ys S5=>.ok (zs++ys) S5)=_
  rw[e3,Out.bind_ok,e5,Out.bind_ok,e4,ih,Out.bind_ok,List.flatMap_cons]
theorem IJ (its1:Val->List Val) (p:Val->Val->Bool) (y:Val->Val->Val) (hi:Wp (fa S) fun its S1=>(∀x∈its,∃S2,g x (aA S1 vs)=some S2/\Wp (it1 S2) fun zs S3=>zs=its1 x/\aA (aA S3 vs1) vs=aA S1 vs/\∀z∈its1 x,∃S5,g1 z (aA S3 vs1)=some S5/\Wp (c1 S5) fun q S6=>q=p x z/\aA S6 vs1=aA S3 vs1/\(p x z=true->Wp (a S6) fun o S7=>aI js o=some (y x z)/\aA S7 vs1=aA S3 vs1))/\db S1 (aA S1 vs) vs=S1/\(its.flatMap fun x=>((its1 x).filter (p x)).map (y x)).length<=sizeLine/\Q (ag (its.flatMap fun x=>((its1 x).filter (p x)).map (y x))) S1):Wp (pj fa g bP it1 g1 c1 js a vs vs1 S) Q:=by
 obtain⟨its,S1,e,h,hr,hl,hq⟩:=dB hi;have e2:=FA its1 p y its h
 have e3:pj fa g bP it1 g1 c1 js a vs vs1 S=.ok (ag (its.flatMap fun x=>((its1 x).filter (p x)).map (y x))) S1:=by
  unfold pj;rw[e,Out.bind_ok,e2]
  show(if _ then _ else _)=_
  rw[if_pos hl,hr]
 exact bG e3 hq
end
end Mp
namespace Mp
open PySem PySem.Spec PyProof.Rows L2
def uh (js:List Nat) (a:Ef):Af:=fun S=>(a S).bind fun o S1=>(Out.of (aI js o) S1).bind fun x S2=>Out.of (fg (.fz x)) S2
section
variable {K:PySem.W.Frag} {ct:Tw.Ct} {E:Exn->L2.St->Hp->Prop} {σ:L2.St} {H:Hp} {R:It->Hp->Prop} {js wr:List Nat} {X:Cx} {tg e:Expr} {a:Ef} {S:Env} {QA:List Val->Env->Prop}
theorem PQ (q:vC K ct E (uh js a) wr σ H R):iS K (tE K ct E a js wr) σ H R:=by
 obtain⟨B,X,Φ0,W,rfl,s,q⟩:=q;refine⟨B,X,Φ0,W,rfl,s,?_⟩;unfold uh at q
 cases hi:a W.S with
 | no=>rw[hi] at q; exact q.elim
 | ex e S'=>rw[hi] at q; exact q
 | ok o S1 =>
 rw[hi,Out.bind_ok] at q;intro v W1 D s1 e1 a1 t1
 cases hx:aI js o with
 | none=>rw[hx] at q; exact q.elim
 | some x =>
 rw[hx,Out.of_some,Out.bind_ok] at q
 cases hw:fg (.fz x) with
 | none=>rw[hw] at q; exact q.elim
 | some its =>
 rw[hw,Out.of_some] at q;obtain⟨Φ',s2,a2,v2⟩:=jt s s1 a1 t1 hx;obtain⟨p,rfl,ok⟩:=zu v2 hw;exact⟨p,rfl,⟨_,(ok.ok W1.H kR fun _ _=>rfl).1⟩,q _ { W1 with Φ:=Φ' } s2 e1 a2 (FR ok)⟩
theorem HG (h:PI X tg e (iS K (tE K ct E a js wr))):PI X tg e (vC K ct E (uh js a) wr):=wo h fun _ _ _=>PQ
theorem IM (h:Wp (a S) fun o S1=>∃x,aI js o=some x/\∃us,fg (.fz x)=some us/\QA us S1):Wp (uh js a S) QA :=
 av (aH h fun o S1 ⟨x,e,us,e2,q⟩=>av (bx ⟨x,e,bx ⟨us,e2,q⟩⟩))
end
end Mp
namespace Tw
open PySem L2 PySem.Spec PyProof.Rows
end Tw
namespace Mp
open PySem L2 Tw
end Mp
namespace Tw
open PySem L2 PySem.Spec PyProof.Rows
end Tw
namespace Mp
open PySem L2 Tw
end Mp
namespace Tw
open PySem L2 PySem.Spec PyProof.Rows
end Tw
namespace Mp
open PySem L2 Tw
end Mp
namespace Tw
open PySem L2 PySem.Spec PyProof.Rows
section
variable {X:Cx} {pins:List (Addr×Obj)} {σ:L2.St} {H:Hp} {s:Shared} {a:Addr} {y v:V} {u r:Value} {hs:Str->Int}
theorem Ny {H':Hp} (I:Inv X pins σ H s) (hw:hs=hashStr X.w) (e0:H a=some (.dK [])) (g:qX H hs a y v H') (ry:RelV y u) (rv:RelV v r) :
  ∃(b:Addr) (k:NestedKey),u=.ref b/\(nestedKind X.prog X.w).is s.heap k b/\s.heap.DictOfH (nestedKind X.prog X.w) a [] /\
   ∀h' t',h'.DictOfH (nestedKind X.prog X.w) a (storedH [] k b r)->Heap.SameBut a s.heap h'->Inv X pins σ H' { s with heap:=h',toks:=t' }:=by
 obtain⟨xs,k,b,kk,d,rfl,n,dp,hl,eH⟩:=g;subst eH
 have ex:xs=[]:=by
  rcases d with d|⟨e,_⟩
  ·rw[e0] at d
   cases d
  ·exact e
 subst ex
 have d':xP H hs a []:=⟨kk,d.imp .inl fun⟨e,z⟩=>⟨e,z.imp .inl .inl⟩⟩
 obtain⟨hd,ys,rel,dd⟩:=uc I hw d';have ly:=wI rel;have ey:ys=[]:=List.length_eq_zero_iff.mp (by rw[←ly]<;>rfl);subst ey
 cases (show u=Value.ref b from ry)
 refine⟨b,k,rfl,⟨NV.is I.hok _ _ _ n rfl,dp⟩,dd,fun h' t' dd' hs'=>?_⟩;have nd:=E2 (hs:=hs) (xs:=cv [] k b v) hw hd (ER rv rel) dd'
 have he:∃q,h'.get? a=some q:=let ⟨q,_,_,hq,_⟩:=dd'; ⟨q,hq⟩
 exact d_write I (by rw[e0]; exact True.intro) hs' he (E4 nd)
end
def rZ (hs:Str->Int) (tk tv:TE):TE:=fun σ H Q=>∀p,H p=none->tPairs [(tk,tv)] σ (upd H p (.dK [])) fun ps H2=>H2 p=some (.dK [])/\∃y z H4,ps=[(y,z)]/\qX H2 hs p y z H4/\Q (.ref p) H4
theorem En {X:Cx} {pos:Pos} {kx vx:Expr} {tk tv:TE} {hs:Str->Int} (hu:X.A.units+9<cLine) (hw:hs=hashStr X.w) (h:PPs X pos [some kx] [vx] [(tk,tv)]):PE X (.Dict [some kx] [vx] pos) (rZ hs tk tv):=by
 refine⟨fun pins s σ H Q I q=>?_⟩;have hn:=I.hok.fresh (bS s.heap.objs.size);have I1:=I.laid (a:=s.heap.objs.size) (o:=.dK []) (h':=s.heap.push { cls:=.type "dict",data:=.dict #[] }) (t':=s.toks) (fun _ _ q=>Heap.get?_push_of_some _ q) (bS _) (dk_empty s.heap I.big)
 rw[arm_eval_Dict,zip_pairTrees [some kx] [vx] X.env pos rfl rfl,dictDisplay_pairs (pairTrees [some kx] [vx] X.env pos) (fun z=>by
  have:=congrArg List.length z;rw[pairTrees_length [some kx] [vx] X.env pos rfl rfl] at this
  cases this) (by rw[pairTrees_length [some kx] [vx] X.env pos rfl rfl]; show 1<17; decide)]
 refine wpAny_bind (wpAny_standAt (wpAny_bind (wpAny_subDictH (knd:=nestedKind X.prog X.w) (Q:=fun d s'=>wpAny (model X.prog X.w) X.A (pure (Value.ref d)) _ X.xe s') (by show X.A.units+8<cLine; omega) (by rw[pairTrees_length [some kx] [vx] X.env pos rfl rfl]; show 1<=15; decide) ?_)))
 refine thn (h.run pins _ σ _ _ I1 (q _ hn)) fun ws s2 ⟨ps,H2,I2,rel,e,y,z,H4,ep,put,q2⟩=>?_
 subst ep
 cases rel with
 | @cons p w ps ws hr t =>
  cases t
  obtain⟨w1,w2⟩:=w;obtain⟨b,k,eu,ki,dd,wr⟩:=Ny (u:=w1) (r:=w2) I2 hw e put hr.1 hr.2;exact⟨[(k,b,w2)],⟨eu,rfl,ki,trivial⟩,dd,fun h' tk dd' hs'=>wpAny_pure ⟨.ref s.heap.objs.size,H4,wr h' tk dd' hs',rfl,q2⟩⟩
end Tw
namespace Mp
open PySem L2 Tw
def uE (c:Ef):Ef:=fun S=>(c S).bind fun kx S1=>(Out.of kx.fzv S1).bind fun key _=>if fy key=true then .ok (.dict [(key,.fz (.bool true))]) S1 else .no
section
variable {K:PySem.W.Frag} {ct:Tw.Ct} {E:Exn->L2.St->Hp->Prop} {σ:L2.St} {H:Hp} {Q:VK} {js wr:List Nat} {c:Ef}
theorem Km (q:tE K ct E (uE c) [] wr σ H Q):rZ (dh ct) (tE K ct E c js wr) (tC (.bl true)) σ H Q:=by
 obtain⟨B,X,Φ0,W,rfl,s,q⟩:=q;unfold uE at q;intro p hp;have e0:=Tw.iP (o:=.dK []) hp;have s0:=s.grow e0;have a0:=gU (W:=W) e0;refine⟨B,X,Φ0,{ W with H:=upd W.H p (.dK []) },rfl,s0,?_⟩
 show match c W.S with|.ok r S'=>_|.ex e S'=>_|.no=>False
 cases hc:c W.S with
 | no=>rw[hc] at q; exact q.elim
 | ex e S'=>rw[hc] at q; exact fun W' s' e' a'=>q W' s' e' (a0.trans a')
 | ok kx S1 =>
 rw[hc,Out.bind_ok] at q;intro kv W1 D1 s1 e1 a1 t1;subst e1
 cases hz:kx.fzv with
 | none=>rw[hz] at q; exact q.elim
 | some key =>
 rw[hz,Out.of_some,Out.bind_ok] at q
 by_cases hk:fy key=true
 ·rw[if_pos hk] at q
  have vk:bw K ct W1.Φ W1.H kv key:=by
   rw[qO hz] at t1;exact t1.rep.1
  obtain⟨ks,n1,n2,n3,n4⟩:=ml hk;have nv:=jq key vk n1;obtain⟨ra,rvs,er,rh,rk⟩:=jq key vk n1;subst er
  have np0:∀k,p∉{ W with H:=upd W.H p (.dK []) }.Fs k:=fun k hk=>by
   obtain⟨u,e,_⟩:=s.liveF hk;exact(nomatch hp.symm.trans e)
  have hp2:W1.H p=some (.dK []):=a1.fr p _ upd_same fun⟨k,_,hk⟩=>np0 k hk
  have np2:∀k,p∉W1.Fs k:=fun k hk=>by
   rcases a1.nf k p hk with z|⟨j,_,z⟩|z
   ·exact np0 k z
   ·exact np0 j z
   ·exact(nomatch (show upd W.H p (.dK []) p=none from z).symm.trans upd_same)
  have nphi:¬W1.Φ p:=fun z=>by
   rcases a1.pn p z with z|⟨j,_,z⟩|z
   ·exact s.phl p z hp
   ·exact np0 j z
   ·exact(nomatch (show upd W.H p (.dK []) p=none from z).symm.trans upd_same)
  have bp:B p=none:=by
   cases e:B p with
   | none=>rfl
   | some u=>exact absurd hp (s.lv p (by rw[e]; exact fun z=>nomatch z))
  have n0:iJ W1.H []:=⟨eR _,b5,fun _ z=>nomatch z⟩
  refine⟨hp2,.ref ra,.bl true,upd W1.H p (eQ (dh ct) p (cv [] (.tup ks) ra (.bl true))),rfl,⟨[],.tup ks,ra,n0,.inr ⟨rfl,.inl hp2⟩,rfl,nv,n4,by show 0<sizeLine; decide,rfl⟩,?_⟩
  have s3:=s1.wrD (D:=p) (o:=eQ (dh ct) p (cv [] (.tup ks) ra (.bl true))) np2 nphi bp fun u e=>by rw[hp2] at e; cases e; exact id
  have kp:cg W1.Φ W1.H (upd W1.H p (eQ (dh ct) p (cv [] (.tup ks) ra (.bl true)))):=fun b u h z=>by
   refine⟨u,?_,.inl rfl⟩;rw[upd_ne fun e=>?_]
   ·exact h
   ·subst e
    rcases z with z|z
    ·exact nphi z
    ·rw[hp2] at h; cases h; exact z
  have nk:=(n0.put (v:=V.bl true) (by show 0<sizeLine; decide) nv n4).keep (H':=upd W1.H p (eQ (dh ct) p (cv [] (.tup ks) ra (.bl true)))) kp.tup;have fk:j8 (.tup ks)=false:=Aj (by rw[n2]; exact n3);have a02:Step wr W W1:=a0.trans a1;refine q (.ref p) { W1 with H:=upd W1.H p (eQ (dh ct) p (cv [] (.tup ks) ra (.bl true))) } [p] s3 rfl (r6 a02 hp) ⟨⟨p,[(key,.bl true)],[],rfl,.inr (.inr ⟨(.tup ks,ra,.bl true),[],upd_same,?_,nk,fun z hz=>by rw[bm.mp hz]; exact fk⟩),?_,rfl⟩,by simp,fun x hx=>?_,fun x hx k hk=>?_,fun x hx=>?_⟩
  ·show [(key,V.bl true)]=[(dw (.tup ks),V.bl true)]
   rw[n2]
  ·exact⟨[],[],rfl,rfl,⟨rfl,rfl⟩,rfl⟩
  ·rw[bm.mp hx]; exact nphi
  ·rw[bm.mp hx] at hk; exact absurd hk (np2 k)
  ·rw[bm.mp hx]; exact .inr (.inr hp)
 ·rw[if_neg hk] at q;exact q.elim
theorem HV {X:Cx} {e:Expr} (h:PE X e (rZ (dh ct) (tE K ct E c js wr) (tC (.bl true)))):PE X e (tE K ct E (uE c) [] wr):=cr h fun _ _ _=>Km
end
section
variable {c:Ef} {S:Env} {Q:OV->Env->Prop}
theorem IE (h:Wp (c S) fun x S1=>∃key,x=.fz key/\fy key=true/\Q (.dict [(key,.fz (.bool true))]) S1):Wp (uE c S) Q :=
 av (aH h fun x S1 ⟨key,e,hk,q⟩=>av (bx ⟨key,by rw[e]<;>rfl,by
  rw[if_pos hk]
  exact q⟩))
end
end Mp
namespace Mp
open PySem L2 Tw
def uD (c:Ef) (js:List Nat) (a:Ef):Ef:=fun S=>(c S).bind fun kx S1=>(Out.of kx.fzv S1).bind fun key _=>(a S1).bind fun o S2=>(Out.of (aI js o) S2).bind fun z _=>if fy key=true then .ok (.dict [(key,.fz z)]) S2 else .no
section
variable {K:PySem.W.Frag} {ct:Tw.Ct} {E:Exn->L2.St->Hp->Prop} {σ:L2.St} {H:Hp} {Q:VK} {jsk js wr1 wr2:List Nat} {c a:Ef}
theorem Kl (q:tE K ct E (uD c js a) [] (wr1++wr2) σ H Q):rZ (dh ct) (tE K ct E c jsk wr1) (tE K ct E a js wr2) σ H Q:=by
 obtain⟨B,X,Φ0,W,rfl,s,q⟩:=q;unfold uD at q;intro p hp;have e0:=Tw.iP (o:=.dK []) hp;have s0:=s.grow e0;have a0:=gU (W:=W) e0;refine⟨B,X,Φ0,{ W with H:=upd W.H p (.dK []) },rfl,s0,?_⟩
 show match c W.S with|.ok r S'=>_|.ex e S'=>_|.no=>False
 cases hc:c W.S with
 | no=>rw[hc] at q; exact q.elim
 | ex e S'=>rw[hc] at q; exact fun W' s' e' a'=>q W' s' e' ((a0.trans a').mono fun k hk=>au _ hk)
 | ok kx S1 =>
 rw[hc,Out.bind_ok] at q;intro kv W1 D1 s1 e1 a1 t1;subst e1
 cases hz:kx.fzv with
 | none=>rw[hz] at q; exact q.elim
 | some key =>
 rw[hz,Out.of_some,Out.bind_ok] at q
 have vk1:bw K ct W1.Φ W1.H kv key:=by
  rw[qO hz] at t1;exact t1.rep.1
 refine⟨B,X,Φ0,W1,rfl,s1,?_⟩
 cases hb:a W1.S with
 | no=>rw[hb] at q; exact q.elim
 | ex e S'=>rw[hb] at q; exact fun W' s' e' a'=>q W' s' e' (a0.trans (a1.trans a'))
 | ok o S2 =>
 rw[hb,Out.bind_ok] at q;intro v W2' D2 s2' e2 a2' t2;subst e2
 cases hx:aI js o with
 | none=>rw[hx] at q; exact q.elim
 | some z =>
 rw[hx,Out.of_some,Out.bind_ok] at q;obtain⟨Φ',s2,a2,v2⟩:=jt s1 s2' a2' t2 hx
 by_cases hk:fy key=true
 ·rw[if_pos hk] at q;have vk:bw K ct Φ' W2'.H kv key:=vk1.keep a2.ph (s1.keeps a2) _;obtain⟨ks,n1,n2,n3,n4⟩:=ml hk;have nv:=jq key vk n1;obtain⟨ra,rvs,er,rh,rk⟩:=jq key vk n1;subst er;have a12:=a1.trans a2
  have np0:∀k,p∉{ W with H:=upd W.H p (.dK []) }.Fs k:=fun k hk=>by
   obtain⟨u,e,_⟩:=s.liveF hk;exact(nomatch hp.symm.trans e)
  have hp2:W2'.H p=some (.dK []):=a12.fr p _ upd_same fun⟨k,_,hk⟩=>np0 k hk
  have np2:∀k,p∉W2'.Fs k:=fun k hk=>by
   rcases a12.nf k p hk with z|⟨j,_,z⟩|z
   ·exact np0 k z
   ·exact np0 j z
   ·exact(nomatch (show upd W.H p (.dK []) p=none from z).symm.trans upd_same)
  have nphi:¬Φ' p:=fun z=>by
   rcases a12.pn p z with z|⟨j,_,z⟩|z
   ·exact s.phl p z hp
   ·exact np0 j z
   ·exact(nomatch (show upd W.H p (.dK []) p=none from z).symm.trans upd_same)
  have bp:B p=none:=by
   cases e:B p with
   | none=>rfl
   | some u=>exact absurd hp (s.lv p (by rw[e]; exact fun z=>nomatch z))
  have n0:iJ W2'.H []:=⟨eR _,b5,fun _ z=>nomatch z⟩
  refine⟨hp2,.ref ra,v,upd W2'.H p (eQ (dh ct) p (cv [] (.tup ks) ra v)),rfl,⟨[],.tup ks,ra,n0,.inr ⟨rfl,.inl hp2⟩,rfl,nv,n4,by show 0<sizeLine; decide,rfl⟩,?_⟩
  have s3:=s2.wrD (D:=p) (o:=eQ (dh ct) p (cv [] (.tup ks) ra v)) np2 nphi bp fun u e=>by
   have e:W2'.H p=some u:=e;rw[hp2] at e; cases e; exact id
  have kp:cg Φ' W2'.H (upd W2'.H p (eQ (dh ct) p (cv [] (.tup ks) ra v))):=fun b u h z=>by
   refine⟨u,?_,.inl rfl⟩;rw[upd_ne fun e=>?_]
   ·exact h
   ·subst e
    rcases z with z|z
    ·exact nphi z
    ·rw[hp2] at h; cases h; exact z
  have nk:=(n0.put (v:=v) (by show 0<sizeLine; decide) nv n4).keep (H':=upd W2'.H p (eQ (dh ct) p (cv [] (.tup ks) ra v))) kp.tup;have fk:j8 (.tup ks)=false:=Aj (by rw[n2]; exact n3);have a02:Step (wr1++wr2) W { W2' with Φ:=Φ' }:=a0.trans a12;refine q (.ref p) { W2' with Φ:=Φ',H:=upd W2'.H p (eQ (dh ct) p (cv [] (.tup ks) ra v)) } [p] s3 rfl (r6 a02 hp) ⟨⟨p,[(key,v)],[],rfl,.inr (.inr ⟨(.tup ks,ra,v),[],upd_same,?_,nk,fun z hz=>by rw[bm.mp hz]; exact fk⟩),?_,rfl⟩,by simp,fun x hx=>?_,fun x hx k hk=>?_,fun x hx=>?_⟩
  ·show [(key,v)]=[(dw (.tup ks),v)]
   rw[n2]
  ·exact⟨[],[],rfl,rfl,⟨v2.keep (fun _ z=>z) kp _,rfl⟩,rfl⟩
  ·rw[bm.mp hx]; exact nphi
  ·rw[bm.mp hx] at hk; exact absurd hk (np2 k)
  ·rw[bm.mp hx]; exact .inr (.inr hp)
 ·rw[if_neg hk] at q;exact q.elim
theorem HU {X:Cx} {e:Expr} (h:PE X e (rZ (dh ct) (tE K ct E c jsk wr1) (tE K ct E a js wr2))):PE X e (tE K ct E (uD c js a) [] (wr1++wr2)):=cr h fun _ _ _=>Kl
end
section
variable {c a:Ef} {js:List Nat} {S:Env} {Q:OV->Env->Prop}
theorem ID (h:Wp (c S) fun x S1=>∃key,x=.fz key/\fy key=true/\Wp (a S1) fun y S2=>∃z,aI js y=some z/\Q (.dict [(key,.fz z)]) S2):Wp (uD c js a S) Q :=
 av (aH h fun x S1 ⟨key,e,hk,h2⟩=>av (bx ⟨key,by rw[e]<;>rfl,av (aH h2 fun y S2 ⟨z,ez,q⟩=>av (bx ⟨z,ez,by
  rw[if_pos hk]
  exact q⟩))⟩))
end
end Mp
namespace Mp
open PySem L2 Tw
def o7 (a b:OV):Option OV:=match a,b with
 | .fz (.dict kvs),.fz k=>if iU kvs k=true then (aG kvs k).map .fz else none
 | .dict kvs,.fz k=>if iU kvs k=true then aG kvs k else none
 | _,_=>none
def L0 (hs:Str->Int):R2:=fun x y H Q=>∃a v,x=.ref a/\uR H hs a y (some v)/\Q v H
def KW (hs:Str->Int) (td ty:TE):TE:=fun σ H Q=>td σ H fun x H1=>ty σ H1 fun y H2=>∃a v,x=.ref a/\uR H2 hs a y (some v)/\Q v H2
section
variable {K:PySem.W.Frag} {ct:Tw.Ct}
theorem Np:lu K ct (L0 (dh ct)) o7:=fun Φ H v w o1 o2 z D1 D2 Q r1 n1 r2 h q=>by
 unfold o7 at h;split at h
 ·rename_i kvs key
  split at h
  case isFalse=>cases h
  rename_i hf
  cases e:aG kvs key with
  | none=>rw[e] at h; cases h
  | some y =>
   rw[e] at h
   cases h
   obtain⟨a,ps,rfl,_,h1,h2⟩:=r1.1;obtain⟨u,g1,g2⟩:=(yM h2).2 y e;obtain⟨xs,n1,n2,n3⟩:=NK h1 (CB h2) hf;obtain⟨ks,e1,e2,e3,e4⟩:=ml (xx hf);obtain⟨ra,_,er,_⟩:=jq key r2.1 e1;refine⟨a,u,rfl,⟨xs,.tup ks,⟨n1,n2⟩,jq key r2.1 e1,⟨ra,er⟩,e4,?_⟩,q u [] ⟨g2,rfl⟩ b5 fun _ z=>nomatch z⟩;rw[←wN,e2,←n3,g1]
 ·rename_i kvs key
  split at h
  case isFalse=>cases h
  rename_i hf
  obtain⟨a,ps,F,rfl,h1,h2,rfl⟩:=r1;obtain⟨u,F',g1,g2,g3,g4⟩:=(wx h2 (bT.mp n1).2).2 z h;obtain⟨xs,m1,m2,m3,_⟩:=Am h1 (qi h2) hf;obtain⟨ks,e1,e2,e3,e4⟩:=ml (xx hf);obtain⟨ra,_,er,_⟩:=jq key r2.1 e1;refine⟨a,u,rfl,⟨xs,.tup ks,⟨m1,m2.imp .inl fun⟨e,z⟩=>⟨e,z.imp .inl .inl⟩⟩,jq key r2.1 e1,⟨ra,er⟩,e4,?_⟩,q u F' g2 g3 fun x hx=>aE _ (g4 x hx)⟩;rw[←wN,e2,←m3,g1]
 ·cases h
end
section
variable {X:Cx} {K:PySem.W.Frag} {ct:Tw.Ct} {o i:Expr} {pos:Pos} {a b:Ef} {js1 wr1 js2 wr2:List Nat} {E:Exn->L2.St->Hp->Prop} {td ty:TE} {hs:Str->Int}
theorem Mu (hu:X.A.units+9<cLine) (hw:hs=hashStr X.w) (ho:PE X o td) (hi:PE X i ty) (hn:NoSl i):PE X (.Subscript o i pos) (KW hs td ty):=by
 refine⟨fun pins s σ H Q I h=>?_⟩;refine subD_of PySem.F.slot_dict_getitem.lookup hn (L2.thn (ho.run pins s σ H _ I h) fun u s1 ⟨x,H1,I1,rx,q1⟩=>L2.thn (hi.run pins s1 σ H1 _ I1 q1) fun iv s2 ⟨y,H2,I2,ry,a,v,ex,g,q2⟩=>?_);subst ex;obtain rfl:u=Value.ref a:=rx;refine⟨?_,NP hu I2 hw g ry fun w' s3 I3 rw'=>⟨v,H2,I3,rw',q2⟩⟩;obtain⟨xs,k,d,_⟩:=g;obtain⟨_,ys,_,dd⟩:=uc I2 hw d;obtain⟨ob,_,_,h1,h2,_⟩:=dd;exact⟨ob,h1,h2.1⟩
theorem B9 (hu:X.A.units+9<cLine) (hw:dh ct=hashStr X.w) (ha:PE X o (tE K ct E a js1 wr1)) (hb:PE X i (tE K ct E b js2 wr2)) (hn:NoSl i:=by intro _ _; rfl) (hd:dj js1 wr2=true:=by decide):PE X (o.Subscript i pos) (tE K ct E (ae o7 a b) js1 (wr1++wr2)) :=
 cr (Mu hu hw ha hb hn) fun _ _ _=>zi Np (iV hd)
end
end Mp
namespace Mp
open PySem L2 Tw
theorem vG:FnScope ["_law_script", "_law_rest", "_law_mixed", "_law_cell"] ["_law_script"] (defScope vQ):=fu
theorem oz:FnScope ["_law_deck_here", "_law_below", "_law_number", "_law_turn", "_law_cell"] ["_law_deck_here", "_law_below"] (defScope vP):=fu
theorem pU:FnScope ["_law_deck_here", "_law_many", "_law_found", "_law_often", "_law_j", "_law_k"] ["_law_deck_here", "_law_many"] (defScope sv):=fu
theorem jv:FnScope ["_law_deck_here", "_law_many", "_law_way", "_law_ties_here", "_law_k", "_law_j"] ["_law_deck_here"] (defScope oB):=fu
theorem sn:FnScope ["_law_many", "_law_ties_here", "_law_k", "_law_j"] ["_law_many", "_law_ties_here"] (defScope sA):=fu
theorem Ln:FnScope ["_law_ears_here", "_law_some_here", "_law_whom"] ["_law_ears_here", "_law_some_here", "_law_whom"] (defScope vN):=fu
theorem iB:FnScope ["_law_many", "_law_ties_here", "_law_ears_here", "_law_p", "_law_q", "_law_first", "_law_k", "_law_found", "_law_waiting", "_law_at", "_law_here", "_law_free", "_law_whom", "_law_later", "_law_some_here"] ["_law_many", "_law_ties_here"] (defScope oC):=fu
theorem Lo:FnScope ["thing"] ["thing"] (defScope vR):=fu
theorem Lp:FnScope ["number", "thing"] ["number", "thing"] (defScope vT):=fu
theorem zE:FnScope ["users", "thing", "user"] ["users", "thing"] (defScope sD):=fu
theorem vH:FnScope ["items", "one", "other"] ["items"] (defScope sF):=fu
theorem zF:FnScope ["self", "users", "pairs", "pair"] ["self", "users", "pairs"] (defScope sG):=fu
theorem zG:FnScope ["self", "thing", "user"] ["self", "thing"] (defScope sJ):=fu
theorem Lq:FnScope ["policy", "one", "other"] ["policy", "one", "other"] (defScope vU):=fu
theorem vJ:FnScope ["self", "user", "one", "other"] ["self", "user"] (defScope sH):=fu
theorem Ll:FnScope ["policy", "listeners", "user"] ["policy", "listeners", "user"] (defScope vK):=fu
theorem gM:FnScope ["policy", "people", "pairs", "one", "other", "both", "user", "waiting", "found", "here", "free", "further", "listeners"] ["policy"] (defScope mZ):=fu
theorem Lm:FnScope ["policy"] ["policy"] (defScope sq):=fu
theorem pT:FnScope ["_law_w", "_law_ears_here", "_law_known", "_law_row", "_law_found", "_law_deed", "_law_whom", "_law_said", "_law_k"] ["_law_w", "_law_ears_here", "_law_known", "_law_row"] (defScope vL):=fu
theorem lW:FnScope ["_law_w", "_law_ears_here", "_law_row", "_law_who", "_law_tellers", "_law_found", "_law_deed", "_law_whom", "_law_k"] ["_law_w", "_law_ears_here", "_law_row", "_law_who"] (defScope sB):=fu
theorem kD:FnScope ["_law_many", "_law_ties_here", "_law_gap_here", "_law_w", "_law_known", "_law_ears_here", "_law_p", "_law_q", "_law_row", "_law_reader", "_law_rest", "_law_k", "_law_near", "_law_far"] ["_law_many", "_law_ties_here", "_law_gap_here"] (defScope sy):=fu
theorem mY:FnScope ["_law_deeds", "_law_most_deeds", "_law_found", "_law_layer", "_law_k", "_law_later", "_law_row", "_law_deed"] ["_law_deeds", "_law_most_deeds"] (defScope sw):=fu
theorem oy:FnScope ["_law_many", "_law_ties_here", "_law_w", "_law_known", "_law_ears_here", "_law_seen", "_law_row", "_law_told_here", "_law_k", "_law_come_here"] ["_law_many", "_law_ties_here"] (defScope vO):=fu
theorem zD:FnScope ["_law_many", "_law_ties_here", "_law_code", "_law_gap_here", "_law_due"] ["_law_many", "_law_ties_here"] (defScope vM):=fu
theorem lX:FnScope ["_law_script", "_law_deck_here", "_law_go", "_law_many", "_law_ties_here", "_law_some_here"] ["_law_script"] (defScope jw):=fu
structure Lw (P:Program) (w:World) (K:PySem.W.Frag) (mg:Str->Option Value) (ct:Tw.Ct):Prop where
 b_all:mg "all"=none
 b_bool:mg "bool"=none
 b_int:mg "int"=none
 b_isinstance:mg "isinstance"=none
 b_len:mg "len"=none
 b_list:mg "list"=none
 b_range:mg "range"=none
 b_repr:mg "repr"=none
 b_set:mg "set"=none
 b_sorted:mg "sorted"=none
 b_tuple:mg "tuple"=none
 b_zip:mg "zip"=none
 hs:dh ct=hashStr w
 g_PAIR:G3 mg "PAIR" (.int 2)
 f_pairs:og K ct "pairs"
 f_users:og K ct "users"
section
variable {P:Program} {w:World} {K:PySem.W.Frag} {mg:Str->Option Value} {base:Heap} {ct:Tw.Ct}
variable (T:Lw P w K mg ct)
include T
def BD:Sf :=
  (af (bY [1,2] (aq [] (aC xj (cY (ac 0) c7 (c5 (eC (.int 63))))) (aq [] (eC (.int 1085043)) aS)))
  (af (cT (cy (ac 1)) (gN 3)
   (af (aZ [] (ae eN (aC dU (ae bI (ae bI (ae gv (ac 2) (eC (.int 69621))) (ae eN (aC dU (ac 3)) (eC (.int 2147483629)))) (eC (.int 157)))) (eC (.int 2147483587))) (gN 2)) aj))
  (af (aX [] (dE (cQ "rest" [] (aC qI (ac 1)) (cQ "mixed" [2] (ac 2) (cQ "draws" [] (eC (.int 0)) d7))))) aj)))
def rj:be:=cm 1 4 [] BD
theorem OY (D:Def K mg "_law_deck" vQ ["_law_script"]):Cal P w K mg base 1 "_law_deck" (bh K ct [] rj):=gF D vG fun _ _ _ _ _ _ _ hg hr hu=>⟨_,(ak (pI (ps_par (i:=1) (j:=2) (by rfl) vG.nd rfl rfl (by decide) rfl rfl (aN (cI (pe_callTy call_list_of (by rfl) T.b_list (by decide +kernel) (pa_cons (rJ (pe_slice sj (xv 0) (rG po_none) (rE (po_some aQ)))) pa_nil)) MT) (aN aQ bQ)) (by rfl)))
  (ak (ii (ps_for PassesOwn.never rfl (fR (fJ (xv 1))) (gn 3 vG.nd)
   (ak (fQ (ps_set (i:=2) vG.nd rfl (Or.inl rfl) (bz (pe_op op_mod (cI (pe_callTy call_int1 (by rfl) T.b_int (by decide +kernel) (pa_cons (bz (pe_op eI (bz (pe_op eI (bz (pe_op mf (xv 2) aQ) mi) (bz (pe_op op_mod (cI (pe_callTy call_int1 (by rfl) T.b_int (by decide +kernel) (pa_cons (xv 3) pa_nil)) kI) aQ) kK)) eJ) aQ) eJ) pa_nil)) kI) aQ) kK))) aO)))
  (ak (cH (ps_ret (yn (pe_disp (pps_cons pe_str (HQ (pe_revL (xv 1))) (pps_cons pe_str (xv 2) (pps_cons pe_str aQ pps_nil))) (by rfl) (by rfl) (fun z=>by cases z) (by decide)) (lE (lE (lE yi)))))) aO)))⟩
variable (c_law_deck:Cal P w K mg base 1 "_law_deck" (bh K ct [] rj))
def BC : Sf :=
  (af (dL 0 [] [] (ae bI (ae aP (ac 0) (eC (.str "draws"))) (eC (.int 1))) (eC (.str "draws")))
  (af (bY [2,3] (aq [0] (ae aP (ac 0) (eC (.str "mixed"))) (aq [0] (ae aP (ac 0) (eC (.str "draws"))) aS)))
  (af (bj (eB (ae cz (ae aP (ac 0) (eC (.str "rest"))) (cM az)))
   (af (aZ [] (cZ 0 [.key "rest"]) (gN 4))
   (af (bj (eB (ae uy (ac 4) (ae qJ (eC (.int 10)) (eC (.int 18)))))
    (af (cC (cW 0 [.key "rest"] [] (ae nQ (ac 4) (ac 1))))
    (af (aX [] (ae eN (aC dU (ac 4)) (ac 1))) aj))
    aj)
   (af (aZ [] (ae bI (ac 2) (ae eN (aC dU (ac 4)) (eC (.int 2147483629)))) (gN 2)) aj)))
   aj)
  (af (aZ [] (ae gv (aC dU (ae bI (ae bI (ae eN (aC dU (ac 2)) (eC (.int 2147483563))) (ae gv (ae gv (eC (.int 60743)) (ac 3)) (ac 3))) (eC (.int 73)))) (eC (.int 40692))) (gN 2))
  (af (aZ [] (ae eN (aC dU (ac 2)) (eC (.int 2147483647))) (gN 2))
  (af (aZ [] (ae eN (aC dU (ae bI (ae bI (ae gv (ac 2) (ac 2)) (ae gv (eC (.int 39373)) (ac 3))) (eC (.int 157)))) (eC (.int 2147483579))) (gN 2))
  (af (aX [] (ae eN (ae nQ (ae eN (aC dU (ae gv (ac 2) (eC (.int 48271)))) (eC (.int 2147483549))) (eC (.int 64))) (ac 1))) aj)))))))
def ko:be:=cm 2 5 [0] BC
theorem OX (D:Def K mg "_law_draw" vP ["_law_deck_here", "_law_below"]):Cal P w K mg base 1 "_law_draw" (bh K ct [0] ko):=gF D oz fun _ _ _ _ _ _ _ hg hr hu=>⟨_,(ak (HA (k:=0) (p:=[]) (ps_dput hu (pv 0) fS (bz (pe_op eI (bX hu (xv 0) fS) aQ) eJ) rfl) trivial)
  (ak (pI (ps_par (i:=2) (j:=3) (by rfl) oz.nd rfl rfl (by decide) rfl rfl (aN (bX hu (xv 0) fS) (aN (bX hu (xv 0) fS) bQ)) (by rfl)))
  (ak (gk (ps_if (cN (pt_cmpR (op_neD hr.units) (bX hu (xv 0) fS) (fF (pe_lst aY)) (nomark _)) i9)
   (ak (fQ (ps_set (i:=4) oz.nd rfl (Or.inl rfl) (B7 (k:=0) (p:=[.key "rest"]) (pe_bm0 PySem.F.plainAttrs_list PySem.F.slot_list_pop PySem.F.type_list_pop mt_pop (pe_dget hu (pv 0) pe_str (fun _ _=>rfl))) trivial)))
   (ak (gk (ps_if (cN (pt_cmpR op_ge (xv 4) (bz (pe_op op_pow aQ aQ) Nc) (nomark _)) wF)
    (ak (pK (ps_expr (yq (k:=0) (p:=[.key "rest"]) (pe_bm PySem.F.plainAttrs_list PySem.F.slot_list_append PySem.F.type_list_append mt_append (pe_dget hu (pv 0) pe_str (fun _ _=>rfl)) (pa_cons (bz (pe_op op_fdivW (xv 4) (xv 1)) EL) pa_nil)) trivial)))
    (ak (cH (ps_ret (bz (pe_op op_mod (cI (pe_callTy call_int1 (by rfl) T.b_int (by decide +kernel) (pa_cons (xv 4) pa_nil)) kI) (xv 1)) kK))) aO))
    aO))
   (ak (fQ (ps_set (i:=2) oz.nd rfl (Or.inl rfl) (bz (pe_op eI (xv 2) (bz (pe_op op_mod (cI (pe_callTy call_int1 (by rfl) T.b_int (by decide +kernel) (pa_cons (xv 4) pa_nil)) kI) aQ) kK)) eJ))) aO)))
   aO))
  (ak (fQ (ps_set (i:=2) oz.nd rfl (Or.inl rfl) (bz (pe_op mf (cI (pe_callTy call_int1 (by rfl) T.b_int (by decide +kernel) (pa_cons (bz (pe_op eI (bz (pe_op eI (bz (pe_op op_mod (cI (pe_callTy call_int1 (by rfl) T.b_int (by decide +kernel) (pa_cons (xv 2) pa_nil)) kI) aQ) kK) (bz (pe_op mf (bz (pe_op mf aQ (xv 3)) mi) (xv 3)) mi)) eJ) aQ) eJ) pa_nil)) kI) aQ) mi)))
  (ak (fQ (ps_set (i:=2) oz.nd rfl (Or.inl rfl) (bz (pe_op op_mod (cI (pe_callTy call_int1 (by rfl) T.b_int (by decide +kernel) (pa_cons (xv 2) pa_nil)) kI) aQ) kK)))
  (ak (fQ (ps_set (i:=2) oz.nd rfl (Or.inl rfl) (bz (pe_op op_mod (cI (pe_callTy call_int1 (by rfl) T.b_int (by decide +kernel) (pa_cons (bz (pe_op eI (bz (pe_op eI (bz (pe_op mf (xv 2) (xv 2)) mi) (bz (pe_op mf aQ (xv 3)) mi)) eJ) aQ) eJ) pa_nil)) kI) aQ) kK)))
  (ak (cH (ps_ret (bz (pe_op op_mod (bz (pe_op op_fdivW (bz (pe_op op_mod (cI (pe_callTy call_int1 (by rfl) T.b_int (by decide +kernel) (pa_cons (bz (pe_op mf (xv 2) aQ) mi) pa_nil)) kI) aQ) kK) aQ) EL) (xv 1)) kK))) aO)))))))⟩
variable (c_law_draw:Cal P w K mg base 1 "_law_draw" (bh K ct [0] ko))
def xY:Sf :=
  (af (cC (dz 2 [] (cu (dP fB (ah [1] (ac 1) az)) (gN 5) (cE (eB (ae cz (ac 5) (ac 4))) (eB (ae gw (bo ko (cK 0 (aq [3] (ac 3) aS)) [some 0,none] [0]) (eC (.int 0))))) [] (cj (ah [4] (ac 4) (ah [5] (ac 5) az))) [5]))) aj)
def BA:Sf :=
  (af (bY [2,3] (de [] (cM az) (aq [] (ae bI (eC (.int 2)) (bo ko (cK 0 (aq [] (eC (.int 2)) aS)) [some 0,none] [0])) aS)))
  (af (cT (dP fB (ah [1] (ac 1) az)) (gN 4)
   xY)
  (af (aX [] (cP 2)) aj)))
def vb:be:=cm 2 6 [0] BA
include c_law_draw in
theorem ON (D:Def K mg "_law_ties" sv ["_law_deck_here", "_law_many"]):Cal P w K mg base 2 "_law_ties" (bh K ct [0] vb):=gF D pU fun _ _ _ _ _ _ _ hg hr hu=>⟨_,(ak (HB (is:=[2,3]) (ps_asg (pe_tup (rH (pa_cons (fF (pe_lst aY)) (aN (bz (pe_op eI aQ (cS c_law_draw hg hr (lI (pa_cons (pv 0) (aN aQ bQ))))) eJ) bQ)))) (pg_tup (by rfl) (pgs_cons (pg_name (i:=2) pU.nd rfl (Or.inl rfl)) (pgs_cons (pg_name (i:=3) pU.nd rfl (Or.inr rfl)) pgs_nil)))))
  (ak (ii (ps_for PassesOwn.never rfl (i6 (pi_range1 (by rfl) T.b_range (aB (xv 1) aY))) (jN (pg_name (i:=4) pU.nd rfl (Or.inr rfl)))
   (ak (pK (ps_expr (x_extend (k:=2) (p:=[]) (pe_bm PySem.F.plainAttrs_list PySem.F.slot_list_extend PySem.F.type_list_extend mt_extend (pv 2) (pa_cons (gR (pe_lc (own:=[("_law_k",5)]) (by rfl) pU.nd (i6 (pi_range1 (by rfl) T.b_range (aB (xv 1) aY))) (blkOk_by (own:=[("_law_k",5)]) (N:=["_law_deck_here", "_law_many", "_law_found", "_law_often", "_law_j", "_law_k"]) (sc:=defScope sv) (by decide +kernel)) (fun _ _ _ _ _=>(gn 5 pU.nd)) (fun _ _ _ _ _=>pts_one (PW.pt (oj (pw_and (cN (pt_cmpR (op_neD hr.units) (xv 5) (xv 4) (nomark _)) i9) (pw_and1 (cN (pt_cmpR (op_eqD hr.units) (cS c_law_draw hg hr (lI (pa_cons (pv 0) (aN (xv 3) bQ)))) aQ (nomark _)) of_eq)))))) (fun _ _ _ _ _=>(c9 (pe_tup (aB (xv 4) (aB (xv 5) aY))))))) pa_nil)) trivial))) aO)))
  (ak (cH (ps_ret (Ca (pv 2)))) aO)))⟩
variable (c_law_ties:Cal P w K mg base 2 "_law_ties" (bh K ct [0] vb))
def xZ:Sf :=
  (af (cC (dz 3 [] (cu (dP fB (ah [1] (ac 1) az)) (gN 4) (eB (ae cz (ac 4) (ac 5))) [] (cj (ah [5] (ac 5) (ah [4] (ac 4) az))) [4]))) aj)
def G7 : Sf :=
  (af (aZ [] (cj (ah [] (ae bI (eC (.int 1)) (bo ko (cK 0 (aq [] (eC (.int 4)) aS)) [some 0,none] [0])) (ah [] (bo ko (cK 0 (aq [] (eC (.int 8)) aS)) [some 0,none] [0]) az))) (gT 2 (dS (gN 1) (dS (gN 2) jc))))
  (af (ci 3 [] (bo vb (cK 0 (aq [1] (ac 1) aS)) [some 0,none] [0]))
  (af (bj (eB (ae gw (ac 2) (eC (.int 0))))
   (af (ci 3 [] (cu (dP fB (ah [] (ae gSub (ac 1) (eC (.int 1))) az)) (gN 4) bP [] (cj (ah [4] (ac 4) (ah [] (ae bI (ac 4) (eC (.int 1))) az))) [4])) aj)
   aj)
  (af (bj (cE (eB (ae gw (ac 2) (eC (.int 1)))) (eB (ae xm (ac 1) (eC (.int 2)))))
   (af (ci 3 [] (aC kZ (cu (dP fB (ah [1] (ac 1) az)) (gN 4) bP [] (cj (ah [4] (ac 4) (ah [] (ae eN (aC dU (ae bI (ac 4) (eC (.int 1)))) (ac 1)) az))) [4]))) aj)
   aj)
  (af (bj (eB (ae gw (ac 2) (eC (.int 2))))
   (af (ci 3 [] (cM az))
   (af (cT (dP fB (ah [1] (ac 1) az)) (gN 5)
    xZ) aj))
   aj)
  (af (aX [] (cj (ah [1] (ac 1) (ah [] (aC kZ (ac 3)) az)))) aj))))))
def q8:be:=cm 1 6 [0] G7
include c_law_draw c_law_ties in
theorem OO (D:Def K mg "_law_some" oB ["_law_deck_here"]):Cal P w K mg base 3 "_law_some" (bh K ct [0] q8):=gF D jv fun _ _ _ _ _ _ _ hg hr hu=>⟨_,(ak (rD (ps_asg (c9 (pe_tup (aB (bz (pe_op eI aQ (cS c_law_draw hg hr (lI (pa_cons (pv 0) (aN aQ bQ))))) eJ) (aB (cS c_law_draw hg hr (lI (pa_cons (pv 0) (aN aQ bQ)))) aY)))) (lH (pg_tup (by rfl) (gH (jN (pg_name (i:=1) jv.nd rfl (Or.inr rfl))) (gH (gn 2 jv.nd) (lG pgs_nil)))))))
  (ak (lC (ps_set (i:=3) jv.nd rfl (Or.inl rfl) (cS c_law_ties hg hr (lI (pa_cons (pv 0) (aN (xv 1) bQ))))))
  (ak (gk (ps_if (cN (pt_cmpR (op_eqD hr.units) (xv 2) aQ (nomark _)) of_eq)
   (ak (Hz (ps_setLc (i:=3) (own:=[("_law_k",4)]) (by rfl) jv.nd rfl rfl (sw_true rfl rfl rfl (by decide +kernel)) (i6 (pi_range1 (by rfl) T.b_range (aB (bz (pe_op op_sub (xv 1) aQ) EM) aY))) (blkOk_by (own:=[("_law_k",4)]) (N:=["_law_deck_here", "_law_many", "_law_way", "_law_ties_here", "_law_k", "_law_j"]) (sc:=defScope oB) (by decide +kernel)) (fun _ _ _ _ _=>(gn 4 jv.nd)) (fun _ _ _ _ _=>jn) (fun _ _ _ _ _=>(c9 (pe_tup (aB (xv 4) (aB (bz (pe_op eI (xv 4) aQ) eJ) aY))))))) aO)
   aO))
  (ak (gk (ps_if (PW.pt (oj (pw_and (cN (pt_cmpR (op_eqD hr.units) (xv 2) aQ (nomark _)) of_eq) (pw_and1 (cN (pt_cmpR op_gt (xv 1) aQ (nomark _)) wF)))))
   (ak (lC (ps_set (i:=3) jv.nd rfl (Or.inl rfl) (cI (pe_callB (GG (gK hr)) (by rfl) T.b_sorted (by decide +kernel) (pa_cons (gR (pe_lc (own:=[("_law_k",4)]) (by rfl) jv.nd (i6 (pi_range1 (by rfl) T.b_range (aB (xv 1) aY))) (blkOk_by (own:=[("_law_k",4)]) (N:=["_law_deck_here", "_law_many", "_law_way", "_law_ties_here", "_law_k", "_law_j"]) (sc:=defScope oB) (by decide +kernel)) (fun _ _ _ _ _=>(gn 4 jv.nd)) (fun _ _ _ _ _=>jn) (fun _ _ _ _ _=>(c9 (pe_tup (aB (xv 4) (aB (bz (pe_op op_mod (cI (pe_callTy call_int1 (by rfl) T.b_int (by decide +kernel) (pa_cons (bz (pe_op eI (xv 4) aQ) eJ) pa_nil)) kI) (xv 1)) kK) aY))))))) pa_nil)) EB))) aO)
   aO))
  (ak (gk (ps_if (cN (pt_cmpR (op_eqD hr.units) (xv 2) aQ (nomark _)) of_eq)
   (ak (lC (ps_set (i:=3) jv.nd rfl (Or.inl rfl) (fF (pe_lst aY))))
   (ak (ii (ps_for PassesOwn.never rfl (i6 (pi_range1 (by rfl) T.b_range (aB (xv 1) aY))) (jN (pg_name (i:=5) jv.nd rfl (Or.inr rfl)))
    (ak (pK (ps_expr (x_extend (k:=3) (p:=[]) (pe_bm PySem.F.plainAttrs_list PySem.F.slot_list_extend PySem.F.type_list_extend mt_extend (pv 3) (pa_cons (gR (pe_lc (own:=[("_law_k",4)]) (by rfl) jv.nd (i6 (pi_range1 (by rfl) T.b_range (aB (xv 1) aY))) (blkOk_by (own:=[("_law_k",4)]) (N:=["_law_deck_here", "_law_many", "_law_way", "_law_ties_here", "_law_k", "_law_j"]) (sc:=defScope oB) (by decide +kernel)) (fun _ _ _ _ _=>(gn 4 jv.nd)) (fun _ _ _ _ _=>pts_one (cN (pt_cmpR (op_neD hr.units) (xv 4) (xv 5) (nomark _)) i9)) (fun _ _ _ _ _=>(c9 (pe_tup (aB (xv 5) (aB (xv 4) aY))))))) pa_nil)) trivial))) aO))) aO))
   aO))
  (ak (cH (ps_ret (c9 (pe_tup (aB (xv 1) (aB (cI (pe_callB (GG (gK hr)) (by rfl) T.b_sorted (by decide +kernel) (pa_cons (xv 3) pa_nil)) EB) aY)))))) aO))))))⟩
variable (c_law_some:Cal P w K mg base 3 "_law_some" (bh K ct [0] q8))
def Hf:Sf :=
  (af (aX [] (cu (dP fB (ah [0] (ac 0) az)) (gN 3) bP [] (aC g9 (cu (dP fB (ah [0] (ac 0) az)) (gN 2) (cD (eB (ae gw (ac 2) (ac 3))) (eB (ae (cV false) (cj (ah [3] (ac 3) (ah [2] (ac 2) az))) (ac 1)))) [2] (ac 2) [2])) [3])) aj)
def pH:be:=cm 2 4 [] Hf
theorem OW (D:Def K mg "_law_ears" sA ["_law_many", "_law_ties_here"]):Cal P w K mg base 1 "_law_ears" (bh K ct [] pH):=gF D sn fun _ _ _ _ _ _ _ hg hr hu=>⟨_,(ak (cH (ps_ret (gR (pe_lc (own:=[("_law_j",3)]) (by rfl) sn.nd (i6 (pi_range1 (by rfl) T.b_range (aB (xv 0) aY))) (blkOk_by (own:=[("_law_j",3)]) (N:=["_law_many", "_law_ties_here", "_law_k", "_law_j"]) (sc:=defScope sA) (by decide +kernel)) (fun _ _ _ _ _=>(jN (pg_name (i:=3) sn.nd rfl (Or.inr rfl)))) (fun _ _ _ _ _=>jn) (fun _ _ _ _ _=>(cI (pe_callTy call_tuple_of (by rfl) T.b_tuple (by decide +kernel) (pa_cons (gR (pe_lc (own:=[("_law_k",2)]) (by rfl) sn.nd (i6 (pi_range1 (by rfl) T.b_range (aB (xv 0) aY))) (blkOk_by (own:=[("_law_k",2)]) (N:=["_law_many", "_law_ties_here", "_law_k", "_law_j"]) (by kernel_rfl)) (fun _ _ _ _ _=>(gn 2 sn.nd)) (fun _ _ _ _ _=>pts_one (PW.pt (mP (pw_or (cN (pt_cmpR (op_eqD hr.units) (xv 2) (xv 3) (nomark _)) of_eq) (pw_or1 (cN (pt_cmpR (nz (gK hr)) (c9 (pe_tup (aB (xv 3) (aB (xv 2) aY)))) (xv 1) rfl) nB)))))) (fun _ _ _ _ _=>(xv 2)))) pa_nil)) j7)))))) aO)⟩
variable (c_law_ears:Cal P w K mg base 1 "_law_ears" (bh K ct [] pH))
def Ha:Sf :=
  (af (aX [] (dX (eB (ae (cV false) (ac 2) (ac 1))) (aC g9 (aC o6 (ae bI (ac 1) (ae aP (ac 0) (ac 2))))) (uF (ac 1)))) aj)
def q9:be:=cm 3 3 [] Ha
theorem OR (D:Def K mg "_law_more" vN ["_law_ears_here", "_law_some_here", "_law_whom"]):Cal P w K mg base 1 "_law_more" (bh K ct [] q9):=gF D Ln fun _ _ _ _ _ _ _ hg hr hu=>⟨_,(ak (cH (ps_ret (x_if (pe_ifExp (cN (pt_cmpR (nz (gK hr)) (xv 2) (xv 1) rfl) nB) (cI (pe_callTy call_tuple_of (by rfl) T.b_tuple (by decide +kernel) (pa_cons (B5 (pe_callB (cr_sortedSet (by rfl)) (by rfl) T.b_sorted (by decide +kernel) (pa_cons (pe_callTy (GH (by rfl)) (by rfl) T.b_set (by decide +kernel) (pa_cons (bz (pe_op eI (xv 1) (bX hu (xv 0) (xv 2))) eJ) pa_nil)) pa_nil))) pa_nil)) j7) (HX (xv 1)))))) aO)⟩
variable (c_law_more:Cal P w K mg base 1 "_law_more" (bh K ct [] q9))
def BT : Sf :=
  (af (aZ [] (aC g9 (cu (cy (ac 10)) (gN 14) bP [] (bo q9 (aq [2] (ac 2) (aq [14] (ac 14) (aq [12] (ac 12) aS))) [none,none,none] []) [14])) (gN 13))
       (af (bj (eB (pg true 7 [] (ac 13)))
        (af (pV 7 [] [] (uC [] (ae bI (ae o7 (ac 7) (ac 10)) (cM (ah [12] (ac 12) az)))) (ac 13))
        (af (cC (cW 8 [] [13] (ac 13))) aj))
        aj) aj))
def Hq : Sf :=
  (af (aZ [8] (ae aP (ac 8) (ac 9)) (gN 10))
      (af (aZ [] (ae bI (ac 9) (eC (.int 1))) (gN 9))
      (af (aZ [] (cu (cy (ae aP (ac 10) (eC (.int 0)))) (gN 6) (cE (eB (ae (cV false) (ac 6) (ae aP (ac 10) (eC (.int 1))))) (eB (ae (cV true) (ac 6) (ae aP (ac 10) (eC (.int 2)))))) [6] (ac 6) [6]) (gN 11))
      (af (bj (eB (ae cz (ac 11) (cM az)))
       (af (aX [] (cj (ah [3] (ac 3) (ah [4] (ac 4) (ah [7] (ae o7 (ac 7) (ac 10)) (ah [11] (ae aP (ac 11) (eC (.int 0))) az)))))) aj)
       aj)
      (af (cT (dP fB (ah [0] (ac 0) az)) (gN 12)
       BT) aj)))))
def yc:Sf :=
  (af (bj (cE (eB (ae (cV true) (ac 3) (ae aP (ac 2) (ac 4)))) (eB (ae (cV true) (ac 4) (ae aP (ac 2) (ac 3)))))
     (af (aZ [] (cj (ah [2] (ae aP (ac 2) (ac 3)) (ah [2] (ae aP (ac 2) (ac 4)) (ah [] (aC g9 (cu (cy (ae aP (ac 2) (ac 3))) (gN 6) (eB (ae (cV false) (ac 6) (ae aP (ac 2) (ac 4)))) [6] (ac 6) [6])) az)))) (gN 5))
     (af (bY [7,8,9] (de [] (uD (ac 5) [] (cM az)) (de [] (cM (ah [5] (ac 5) az)) (aq [] (eC (.int 0)) aS))))
     (af (jp (eB (ae mz (ac 9) (aC jT (ac 8))))
      Hq 5000) aj)))
     aj) aj)
def Ho : Sf :=
  (af (cT (dP fB (ah [3] (ac 3) az)) (gN 4)
    yc) aj)
def Hd:Sf :=
  (af (aZ [] (bo pH (aq [0] (ac 0) (aq [1] (ac 1) aS)) [none,none] []) (gN 2))
  (af (cT (dP fB (ah [0] (ac 0) az)) (gN 3)
   Ho)
  (af (aX [] (eC .none)) aj)))
def vg:be:=cm 2 15 [] Hd
include c_law_ears c_law_more in
theorem OU (D : Def K mg "_law_gap" oC ["_law_many", "_law_ties_here"]) : Cal P w K mg base 2 "_law_gap" (bh K ct [] vg) := gF D iB fun _ _ _ _ _ _ _ hg hr hu => ⟨_, (ak (fQ (ps_set (i := 2) iB.nd rfl (Or.inr rfl) (cS c_law_ears hg hr (aN (xv 0) (aN (xv 1) bQ)))))
  (ak (ii (ps_for PassesOwn.never rfl (i6 (pi_range1 (by rfl) T.b_range (aB (xv 0) aY))) (gn 3 iB.nd)
   (ak (ii (ps_for PassesOwn.never rfl (i6 (pi_range1 (by rfl) T.b_range (aB (xv 3) aY))) (jN (pg_name (i := 4) iB.nd rfl (Or.inr rfl)))
    (ak (gk (ps_if (PW.pt (oj (pw_and (cN (pt_cmpR (tX (gK hr)) (xv 3) (bX hu (xv 2) (xv 4)) rfl) tZ) (pw_and1 (cN (pt_cmpR (tX (gK hr)) (xv 4) (bX hu (xv 2) (xv 3)) rfl) tZ)))))
     (ak (fQ (ps_set (i:=5) iB.nd rfl (Or.inl rfl) (c9 (pe_tup (aB (bX hu (xv 2) (xv 3)) (aB (bX hu (xv 2) (xv 4)) (aB (cI (pe_callTy call_tuple_of (by rfl) T.b_tuple (by decide +kernel) (pa_cons (gR (pe_lc (own:=[("_law_k",6)]) (by rfl) iB.nd (fR (fJ (bX hu (xv 2) (xv 3)))) (blkOk_by (own:=[("_law_k",6)]) (N:=["_law_many", "_law_ties_here", "_law_ears_here", "_law_p", "_law_q", "_law_first", "_law_k", "_law_found", "_law_waiting", "_law_at", "_law_here", "_law_free", "_law_whom", "_law_later", "_law_some_here"]) (sc:=defScope oC) (by decide +kernel)) (fun _ _ _ _ _=>(gn 6 iB.nd)) (fun _ _ _ _ _=>pts_one (cN (pt_cmpR (nz (gK hr)) (xv 6) (bX hu (xv 2) (xv 4)) rfl) nB)) (fun _ _ _ _ _=>(xv 6)))) pa_nil)) j7) aY)))))))
     (ak (yg (ps_par3 (i:=7) (j:=8) (l:=9) (by rfl) iB.nd rfl rfl rfl (by decide) (by decide) (by decide) rfl rfl rfl (rH (pa_cons (HU (En (nM hr) T.hs (pps_cons (xv 5) (fF (pe_lst aY)) pps_nil))) (rH (pa_cons (fF (pe_lst (aB (xv 5) aY))) (aN aQ bQ))))) (by rfl)))
     (ak (BY 5000 (ps_while PassesOwn.never (cN (pt_cmpR (tY (gK hr)) (xv 9) (cI (pe_callB xI (by rfl) T.b_len (by decide +kernel) (pa_cons (xv 8) pa_nil)) wA) (nomark _)) t9)
      (ak (fQ (ps_set (i:=10) iB.nd rfl (Or.inr rfl) (bX hu (xv 8) (xv 9))))
      (ak (fQ (ps_set (i:=9) iB.nd rfl (Or.inl rfl) (bz (pe_op eI (xv 9) aQ) eJ)))
      (ak (BZ (ps_setLc (i:=11) (own:=[("_law_k",6)]) (by rfl) iB.nd rfl rfl (sw_true rfl rfl rfl (by decide +kernel)) (fR (fJ (bX hu (xv 10) aQ))) (blkOk_by (own:=[("_law_k",6)]) (N:=["_law_many", "_law_ties_here", "_law_ears_here", "_law_p", "_law_q", "_law_first", "_law_k", "_law_found", "_law_waiting", "_law_at", "_law_here", "_law_free", "_law_whom", "_law_later", "_law_some_here"]) (sc:=defScope oC) (by decide +kernel)) (fun _ _ _ _ _=>(gn 6 iB.nd)) (fun _ _ _ _ _=>pts_one (PW.pt (oj (pw_and (cN (pt_cmpR (nz (gK hr)) (xv 6) (bX hu (xv 10) aQ) rfl) nB) (pw_and1 (cN (pt_cmpR (tX (gK hr)) (xv 6) (bX hu (xv 10) aQ) rfl) tZ)))))) (fun _ _ _ _ _=>(xv 6))))
      (ak (gk (ps_if (cN (pt_cmpR (op_neD hr.units) (xv 11) (fF (pe_lst aY)) (nomark _)) i9)
       (ak (cH (ps_ret (c9 (pe_tup (aB (xv 3) (aB (xv 4) (aB (B9 (nM hr) T.hs (xv 7) (xv 10)) (aB (bX hu (xv 11) aQ) aY)))))))) aO)
       aO))
      (ak (ii (ps_for PassesOwn.never rfl (i6 (pi_range1 (by rfl) T.b_range (aB (xv 0) aY))) (jN (pg_name (i:=12) iB.nd rfl (Or.inr rfl)))
       (ak (fQ (ps_set (i:=13) iB.nd rfl (Or.inl rfl) (cI (pe_callTy call_tuple_of (by rfl) T.b_tuple (by decide +kernel) (pa_cons (gR (pe_lc (own:=[("_law_some_here",14)]) (by rfl) iB.nd (fR (fJ (xv 10))) (blkOk_by (own:=[("_law_some_here",14)]) (N:=["_law_many", "_law_ties_here", "_law_ears_here", "_law_p", "_law_q", "_law_first", "_law_k", "_law_found", "_law_waiting", "_law_at", "_law_here", "_law_free", "_law_whom", "_law_later", "_law_some_here"]) (sc:=defScope oC) (by decide +kernel)) (fun _ _ _ _ _=>(gn 14 iB.nd)) (fun _ _ _ _ _=>jn) (fun _ _ _ _ _=>(cS c_law_more hg hr (aN (xv 2) (aN (xv 14) (aN (xv 12) bQ))))))) pa_nil)) j7)))
       (ak (gk (ps_if (BX (k:=7) (p:=[]) (pt_cmp (Eq (nM hr) T.hs (xv 13) (pv 7)) rfl) trivial)
        (ak (B0 (k:=7) (p:=[]) (Ed (nM hr) T.hs (pv 7) (xv 13) (HN (bz (pe_op eI (B9 (nM hr) T.hs (xv 7) (xv 10)) (fF (pe_lst (aB (xv 12) aY)))) eJ)) rfl) trivial)
        (ak (pK (ps_expr (yq (k:=8) (p:=[]) (pe_bm PySem.F.plainAttrs_list PySem.F.slot_list_append PySem.F.type_list_append mt_append (pv 8) (pa_cons (xv 13) pa_nil)) trivial))) aO))
        aO)) aO)))) aO))))))) aO)))
     aO)) aO))) aO)))
  (ak (cH (ps_ret vn)) aO)))⟩
variable (c_law_gap:Cal P w K mg base 2 "_law_gap" (bh K ct [] vg))
def BG:Sf :=
  (af (aX [] (dF (aC (jD "int") (ac 0)) (fj (aC (jD "bool") (ac 0))))) aj)
def rq:be:=cm 1 1 [] BG
theorem O1 (D:Def K mg "is_integer" vR ["thing"]):Cal P w K mg base 1 "is_integer" (bh K ct [] rq):=gF D Lo fun _ _ _ _ _ _ _ hg hr hu=>⟨_,(ak (cH (ps_ret (yr (pe_and (rN (pe_callB uN (by rfl) T.b_isinstance (by decide +kernel) (pa_cons (xv 0) (pa_cons (pe_bltn (v:=.ty "int") (u:=.type "int") (by rfl) T.b_int (by decide +kernel) rfl) pa_nil))) OB) (pe_one (HS (pe_not (rN (pe_callB uN (by rfl) T.b_isinstance (by decide +kernel) (pa_cons (xv 0) (pa_cons (pe_bltn (v:=.ty "bool") (u:=.type "bool") (by rfl) T.b_bool (by decide +kernel) rfl) pa_nil))) OC)))))))) aO)⟩
variable (c_is_integer:Cal P w K mg base 1 "is_integer" (bh K ct [] rq))
def BH:Sf :=
  (af (aX [] (dF (bo rq (aq [1] (ac 1) aS) [none] []) (fq Ge mz (eC (.int 0)) (ac 1) (ac 0)))) aj)
def mM:be:=cm 2 2 [] BH
include c_is_integer in
theorem O2 (D:Def K mg "is_below" vT ["number", "thing"]):Cal P w K mg base 2 "is_below" (bh K ct [] mM):=gF D Lp fun _ _ _ _ _ _ _ hg hr hu=>⟨_,(ak (cH (ps_ret (yr (pe_and (cS c_is_integer hg hr (aN (xv 1) bQ)) (pe_one (HZ (pe_chain op_le (tY (gK hr)) aQ (xv 1) (xv 0)) wF t9)))))) aO)⟩
variable (c_is_below:Cal P w K mg base 2 "is_below" (bh K ct [] mM))
def BF:Sf :=
  (af (bj (cD (cb (eB (aC (jD "tuple") (ac 1)))) (cD (eB (ae cz (aC jT (ac 1)) (eC (.int 2)))) (cb (eB (aC jU (cu (cy (ac 1)) (gN 2) bP [] (bo mM (aq [0] (ac 0) (aq [2] (ac 2) aS)) [none,none] []) [2]))))))
   (af (aX [] (eC (.bool false))) aj)
   aj)
  (af (aX [] (ae cz (ae aP (ac 1) (eC (.int 0))) (ae aP (ac 1) (eC (.int 1))))) aj))
def rn:be:=cm 2 3 [] BF
include c_is_below in
theorem O0 (D:Def K mg "is_pair" sD ["users", "thing"]):Cal P w K mg base 3 "is_pair" (bh K ct [] rn):=gF D zE fun _ _ _ _ _ _ _ hg hr hu=>⟨_,(ak (gk (ps_if (PW.pt (mP (pw_or (jM (pt_not (i5 (pt_val (rN (pe_callB uN (by rfl) T.b_isinstance (by decide +kernel) (pa_cons (xv 1) (pa_cons (pe_bltn (v:=.ty "tuple") (u:=.type "tuple") (by rfl) T.b_tuple (by decide +kernel) rfl) pa_nil))) AD))))) (mP (pw_or (cN (pt_cmpR (op_neD hr.units) (cI (pe_callB xI (by rfl) T.b_len (by decide +kernel) (pa_cons (xv 1) pa_nil)) wA) (pL (Ep T.g_PAIR (by rfl)) Bh) (nomark _)) i9) (pw_or1 (jM (pt_not (i5 (pt_val (cI (pe_callB (cr_all rfl) (by rfl) T.b_all (by decide +kernel) (pa_cons (gR (pe_lc (own:=[("user",2)]) (by rfl) zE.nd (fR (fJ (xv 1))) (blkOk_by (own:=[("user",2)]) (N:=["users", "thing", "user"]) (sc:=defScope sD) (by decide +kernel)) (fun _ _ _ _ _=>(gn 2 zE.nd)) (fun _ _ _ _ _=>jn) (fun _ _ _ _ _=>(cS c_is_below hg hr (aN (xv 0) (aN (xv 2) bQ)))))) pa_nil)) wB)))))))))))
   (ak (cH (ps_ret kz)) aO)
   aO))
  (ak (cH (ps_ret (bz (pe_cmpR (op_neD hr.units) (bX hu (xv 1) aQ) (bX hu (xv 1) aQ) (nomark _)) i9))) aO))⟩
variable (c_is_pair:Cal P w K mg base 3 "is_pair" (bh K ct [] rn))
def BI:Sf :=
  (af (aX [] (aC jU (cu (kT (ah [0] (ac 0) (ah [] (cY (ac 0) (c5 (eC (.int 1))) c7) az))) (gT 2 (dS (gN 1) (dS (gN 2) jc))) bP [] (ae mz (ac 1) (ac 2)) [1,2]))) aj)
def vh:be:=cm 1 3 [] BI
theorem O4 (D:Def K mg "do_rise" sF ["items"]):Cal P w K mg base 1 "do_rise" (bh K ct [] vh):=gF D vH fun _ _ _ _ _ _ _ hg hr hu=>⟨_,(ak (cH (ps_ret (cI (pe_callB (cr_all rfl) (by rfl) T.b_all (by decide +kernel) (pa_cons (gR (pe_lc (own:=[("one",1),("other",2)]) (by rfl) vH.nd (HF (Mj (by rfl) T.b_zip (aB (xv 0) (aB (rJ (pe_slice sj (xv 0) (rE (po_some aQ)) (rG po_none))) aY)))) (blkOk_by (own:=[("one",1),("other",2)]) (N:=["items", "one", "other"]) (sc:=defScope sF) (by decide +kernel)) (fun _ _ _ _ _=>(lH (pg_tup (by rfl) (gH (gn 1 vH.nd) (gH (gn 2 vH.nd) (lG pgs_nil)))))) (fun _ _ _ _ _=>jn) (fun _ _ _ _ _=>(bz (pe_cmpR (tY (gK hr)) (xv 1) (xv 2) (nomark _)) t9)))) pa_nil)) wB))) aO)⟩
variable (c_do_rise:Cal P w K mg base 1 "do_rise" (bh K ct [] vh))
def BJ:Sf :=
  (af (bj (cD (cb (eB (bo rq (aq [1] (ac 1) aS) [none] []))) (eB (ae mz (ac 1) (eC (.int 1)))))
   (af eZ aj)
   aj)
  (af (bj (cD (cb (eB (aC (jD "tuple") (ac 2)))) (cD (cb (eB (aC jU (cu (cy (ac 2)) (gN 3) bP [] (bo rn (aq [1] (ac 1) (aq [3] (ac 3) aS)) [none,none] []) [3])))) (cb (eB (bo vh (aq [2] (ac 2) aS) [none] [])))))
   (af eZ aj)
   aj)
  (af (eE 0 [] "users" [1] (ac 1))
  (af (eE 0 [] "pairs" [2] (ac 2)) aj))))
def ku:be:=cm 3 4 [0] BJ
include c_is_integer c_is_pair c_do_rise in
theorem O5 (D:IDef K mg "Policy" (ct "Policy") "Policy.__init__" sG ["self", "users", "pairs"]):Mak P w K mg base 4 "Policy" (ct "Policy") (bh K ct [0] ku):=N5 D zF fun _ _ _ _ _ _ _ hg hr hu=>⟨_,(ak (gk (ps_if (PW.pt (mP (pw_or (jM (pt_not (i5 (pt_val (cS c_is_integer hg hr (aN (xv 1) bQ)))))) (pw_or1 (cN (pt_cmpR (tY (gK hr)) (xv 1) aQ (nomark _)) t9)))))
   (ak B3 aO)
   aO))
  (ak (gk (ps_if (PW.pt (mP (pw_or (jM (pt_not (i5 (pt_val (rN (pe_callB uN (by rfl) T.b_isinstance (by decide +kernel) (pa_cons (xv 2) (pa_cons (pe_bltn (v:=.ty "tuple") (u:=.type "tuple") (by rfl) T.b_tuple (by decide +kernel) rfl) pa_nil))) AD))))) (mP (pw_or (jM (pt_not (i5 (pt_val (cI (pe_callB (cr_all rfl) (by rfl) T.b_all (by decide +kernel) (pa_cons (gR (pe_lc (own:=[("pair",3)]) (by rfl) zF.nd (fR (fJ (xv 2))) (blkOk_by (own:=[("pair",3)]) (N:=["self", "users", "pairs", "pair"]) (sc:=defScope sG) (by decide +kernel)) (fun _ _ _ _ _=>(gn 3 zF.nd)) (fun _ _ _ _ _=>jn) (fun _ _ _ _ _=>(cS c_is_pair hg hr (aN (xv 1) (aN (xv 3) bQ)))))) pa_nil)) wB))))) (pw_or1 (jM (pt_not (i5 (pt_val (cS c_do_rise hg hr (aN (xv 2) bQ))))))))))))
   (ak B3 aO)
   aO))
  (ak (B4 (k:=0) (p:=[]) (ps_fld (pv 0) (xv 1) rfl) trivial T.f_users)
  (ak (B4 (k:=0) (p:=[]) (ps_fld (pv 0) (xv 2) rfl) trivial T.f_pairs) aO))))⟩
variable (c_Policy_init:Mak P w K mg base 4 "Policy" (ct "Policy") (bh K ct [0] ku))
def BL:Sf :=
  (af (bj (cD (cb (eB (aC (jD "tuple") (ac 1)))) (eB (ae cz (aC jT (ac 1)) (eC (.int 2)))))
   (af (aX [] (eC (.bool false))) aj)
   aj)
  (af (bj (cb (eB (aC jU (cu (cy (ac 1)) (gN 2) bP [] (bo mM (aq [0] (jd "users" (ac 0)) (aq [2] (ac 2) aS)) [none,none] []) [2]))))
   (af (aX [] (eC (.bool false))) aj)
   aj)
  (af (aX [] (fh (ae gw (ae aP (ac 1) (eC (.int 0))) (ae aP (ac 1) (eC (.int 1)))) (ae (cV false) (ac 1) (jd "pairs" (ac 0))))) aj)))
def ky:be:=cm 2 3 [] BL
include c_is_below in
theorem O7 (D:MDef K (ct "Policy") "__contains__" "Policy.__contains__" sJ ["self", "thing"]):Met P w K mg base 3 (ct "Policy") "__contains__" (bh K ct [] ky):=E9 D zG fun _ _ _ _ _ _ _ hg hr hu=>⟨_,(ak (gk (ps_if (PW.pt (mP (pw_or (jM (pt_not (i5 (pt_val (rN (pe_callB uN (by rfl) T.b_isinstance (by decide +kernel) (pa_cons (xv 1) (pa_cons (pe_bltn (v:=.ty "tuple") (u:=.type "tuple") (by rfl) T.b_tuple (by decide +kernel) rfl) pa_nil))) AD))))) (pw_or1 (cN (pt_cmpR (op_neD hr.units) (cI (pe_callB xI (by rfl) T.b_len (by decide +kernel) (pa_cons (xv 1) pa_nil)) wA) (pL (Ep T.g_PAIR (by rfl)) Bh) (nomark _)) i9)))))
   (ak (cH (ps_ret kz)) aO)
   aO))
  (ak (gk (ps_if (jM (pt_not (i5 (pt_val (cI (pe_callB (cr_all rfl) (by rfl) T.b_all (by decide +kernel) (pa_cons (gR (pe_lc (own:=[("user",2)]) (by rfl) zG.nd (fR (fJ (xv 1))) (blkOk_by (own:=[("user",2)]) (N:=["self", "thing", "user"]) (sc:=defScope sJ) (by decide +kernel)) (fun _ _ _ _ _=>(gn 2 zG.nd)) (fun _ _ _ _ _=>jn) (fun _ _ _ _ _=>(cS c_is_below hg hr (aN (rO (pe_fld (xv 0) rfl) T.f_users) (aN (xv 2) bQ)))))) pa_nil)) wB)))))
   (ak (cH (ps_ret kz)) aO)
   aO))
  (ak (cH (ps_ret (HR (pe_or (bz (pe_cmpR (op_eqD hr.units) (bX hu (xv 1) aQ) (bX hu (xv 1) aQ) (nomark _)) of_eq) (pe_one (bz (pe_cmpR (nz (gK hr)) (xv 1) (rO (pe_fld (xv 0) rfl) T.f_pairs) rfl) nB)))))) aO)))⟩
variable (c_Policy_contains:Met P w K mg base 3 (ct "Policy") "__contains__" (bh K ct [] ky))
def Hh:Sf :=
  (af (aX [] (dF (o2 [] [0] (cj (ah [1] (ac 1) (ah [2] (ac 2) az))) (ac 0) (kIn "Policy" ky true)) (o2 [] [0] (cj (ah [2] (ac 2) (ah [1] (ac 1) az))) (ac 0) (kIn "Policy" ky true)))) aj)
def rA:be:=cm 3 3 [] Hh
include c_Policy_contains in
theorem O3 (D:Def K mg "hear_neither" vU ["policy", "one", "other"]):Cal P w K mg base 4 "hear_neither" (bh K ct [] rA):=gF D Lq fun _ _ _ _ _ _ _ hg hr hu=>⟨_,(ak (cH (ps_ret (yr (pe_and (Cc (pe_cmpR (EC c_Policy_contains hg hr (by decide)) (c9 (pe_tup (aB (xv 1) (aB (xv 2) aY)))) (xv 0) rfl)) (pe_one (Cc (pe_cmpR (EC c_Policy_contains hg hr (by decide)) (c9 (pe_tup (aB (xv 2) (aB (xv 1) aY)))) (xv 0) rfl))))))) aO)⟩
variable (c_hear_neither:Cal P w K mg base 4 "hear_neither" (bh K ct [] rA))
def BK:Sf :=
  (af (aX [] (aC g9 (aC xi (ae bI (cM (ah [1] (ac 1) az)) (cu (cy (jd "pairs" (ac 0))) (gT 2 (dS (gN 2) (dS (gN 3) jc))) (eB (ae gw (ac 2) (ac 1))) [3] (ac 3) [2,3]))))) aj)
def mN:be:=cm 2 4 [] BK
theorem O6 (D:MDef K (ct "Policy") "hearers" "Policy.hearers" sH ["self", "user"]):Met P w K mg base 1 (ct "Policy") "hearers" (bh K ct [] mN):=E9 D vJ fun _ _ _ _ _ _ _ hg hr hu=>⟨_,(ak (cH (ps_ret (cI (pe_callTy call_tuple_of (by rfl) T.b_tuple (by decide +kernel) (pa_cons (cI (pe_callB (Q9 (by rfl)) (by rfl) T.b_sorted (by decide +kernel) (pa_cons (bz (pe_op eI (fF (pe_lst (aB (xv 1) aY))) (gR (pe_lc (own:=[("one",2),("other",3)]) (by rfl) vJ.nd (fR (fJ (rO (pe_fld (xv 0) rfl) T.f_pairs))) (blkOk_by (own:=[("one",2),("other",3)]) (N:=["self", "user", "one", "other"]) (sc:=defScope sH) (by decide +kernel)) (fun _ _ _ _ _=>(lH (pg_tup (by rfl) (gH (gn 2 vJ.nd) (gH (gn 3 vJ.nd) (lG pgs_nil)))))) (fun _ _ _ _ _=>pts_one (cN (pt_cmpR (op_eqD hr.units) (xv 2) (xv 1) (nomark _)) of_eq)) (fun _ _ _ _ _=>(xv 3))))) eJ) pa_nil)) ML) pa_nil)) j7))) aO)⟩
variable (c_Policy_hearers:Met P w K mg base 1 (ct "Policy") "hearers" (bh K ct [] mN))
def G4:Sf :=
  (af (bj (eB (ae (cV true) (ac 2) (ac 1)))
   (af (aX [1] (ac 1)) aj)
   aj)
  (af (aX [] (aC g9 (aC o6 (ae bI (ac 1) (di "Policy" "hearers" [0] (ac 0) mN (aq [2] (ac 2) aS) [none] []))))) aj))
def q7:be:=cm 3 3 [] G4
include c_Policy_hearers in
theorem OJ (D:Def K mg "with_hearers" vK ["policy", "listeners", "user"]):Cal P w K mg base 2 "with_hearers" (bh K ct [] q7):=gF D Ll fun _ _ _ _ _ _ _ hg hr hu=>⟨_,(ak (gk (ps_if (cN (pt_cmpR (tX (gK hr)) (xv 2) (xv 1) rfl) tZ)
   (ak (cH (ps_ret (xv 1))) aO)
   aO))
  (ak (cH (ps_ret (cI (pe_callTy call_tuple_of (by rfl) T.b_tuple (by decide +kernel) (pa_cons (B5 (pe_callB (cr_sortedSet (by rfl)) (by rfl) T.b_sorted (by decide +kernel) (pa_cons (pe_callTy (GH (by rfl)) (by rfl) T.b_set (by decide +kernel) (pa_cons (bz (pe_op eI (xv 1) (rM (tU c_Policy_hearers hg hr (by decide) (xv 0) (aN (xv 2) bQ)))) eJ) pa_nil)) pa_nil))) pa_nil)) j7))) aO))⟩
variable (c_with_hearers:Cal P w K mg base 2 "with_hearers" (bh K ct [] q7))
def BO:Sf :=
  (af (aZ [] (aC g9 (cu (cy (ac 9)) (gN 12) bP [] (bo q7 (aq [0] (ac 0) (aq [12] (ac 12) (aq [6] (ac 6) aS))) [none, none, none] []) [12])) (gN 11))
     (af (bj (eB (pg true 8 [] (ac 11)))
      (af (pV 8 [] [] (eC (.bool true)) (ac 11))
      (af (cC (cW 7 [] [11] (ac 11))) aj))
      aj) aj))
def Hm : Sf :=
  (af (aZ [] (cZ 7 []) (gN 9))
    (af (aZ [] (cu (cy (ae aP (ac 9) (eC (.int 0)))) (gN 6) (cE (eB (ae (cV false) (ac 6) (ae aP (ac 9) (eC (.int 1))))) (eB (ae (cV true) (ac 6) (ae aP (ac 9) (eC (.int 2)))))) [6] (ac 6) [6]) (gN 10))
    (af (bj (eB (ae cz (ac 10) (cM az)))
     (af (aX [] (cj (ah [3] (ac 3) (ah [4] (ac 4) (ah [10] (ae aP (ac 10) (eC (.int 0))) az))))) aj)
     aj)
    (af (cT (cy (ac 1)) (gN 6)
     BO) aj))))
def xX : Sf :=
  (af (aZ [] (aC g9 (cu (cy (di "Policy" "hearers" [0] (ac 0) mN (aq [3] (ac 3) aS) [none] [])) (gN 6) (eB (ae (cV false) (ac 6) (di "Policy" "hearers" [0] (ac 0) mN (aq [4] (ac 4) aS) [none] []))) [6] (ac 6) [6])) (gN 5))
   (af (ci 7 [] (cM (ah [] (cj (ah [] (di "Policy" "hearers" [0] (ac 0) mN (aq [3] (ac 3) aS) [none] []) (ah [] (di "Policy" "hearers" [0] (ac 0) mN (aq [4] (ac 4) aS) [none] []) (ah [5] (ac 5) az)))) az)))
   (af (ci 8 [] (uE (ae aP (ac 7) (eC (.int 0)))))
   (af (jp (eB (ae cz (ac 7) (cM az)))
    Hm 5000) aj))))
def G5:Sf :=
  (af (aZ [] (aC nP (jd "users" (ac 0))) (gN 1))
  (af (aZ [] (pj (cy (ac 1)) (gN 3) bP (uh [] (cY (ac 1) (c5 (ae bI (ac 3) (eC (.int 1)))) c7)) (gN 4) (eB (bo rA (aq [0] (ac 0) (aq [3] (ac 3) (aq [4] (ac 4) aS))) [none,none,none] [])) [] (cj (ah [3] (ac 3) (ah [4] (ac 4) az))) [3,4] [4]) (gN 2))
  (af (cT (cy (ac 2)) (gT 2 (dS (gN 3) (dS (gN 4) jc)))
   xX)
  (af (aX [] (eC .none)) aj))))
def u9:be:=cm 1 13 [] G5
include c_hear_neither c_Policy_hearers c_with_hearers in
theorem OK (D:Def K mg "order_gap" mZ ["policy"]):Cal P w K mg base 5 "order_gap" (bh K ct [] u9):=gF D gM fun _ _ _ _ _ _ _ hg hr hu=>⟨_,(ak (fQ (ps_set (i:=1) gM.nd rfl (Or.inr rfl) (yj (pe_listRg (by rfl) (by rfl) T.b_list (prg_1 (by rfl) T.b_range (rO (pe_fld (xv 0) rfl) T.f_users))))))
  (ak (Hy (ps_setLc2 (i:=2) (own:=[("one",3),("other",4)]) (vs1:=[4]) (by rfl) gM.nd rfl rfl (sw_true rfl rfl rfl (by decide +kernel)) (fR (fJ (xv 1))) (blkOk_by (own:=[("one",3),("other",4)]) (N:=["policy", "people", "pairs", "one", "other", "both", "user", "waiting", "found", "here", "free", "further", "listeners"]) (sc:=defScope mZ) (by decide +kernel)) (by decide) (fun _ _ _ _ _=>(gn 3 gM.nd)) (fun _ _ _ _ _=>jn) (fun _ _ _ _ _=>(HG (fJ (rJ (pe_slice sj (xv 1) (rE (po_some (bz (pe_op eI (xv 3) aQ) eJ))) (rG po_none)))))) (fun _ _ _ _ _=>(gn 4 gM.nd)) (fun _ _ _ _ _=>pts_one (i5 (pt_val (cS c_hear_neither hg hr (aN (xv 0) (aN (xv 3) (aN (xv 4) bQ))))))) (fun _ _ _ _ _=>(c9 (pe_tup (aB (xv 3) (aB (xv 4) aY)))))))
  (ak (ii (ps_for PassesOwn.never rfl (fR (fJ (xv 2))) (lH (pg_tup (by rfl) (gH (gn 3 gM.nd) (gH (jN (pg_name (i := 4) gM.nd rfl (Or.inr rfl))) (lG pgs_nil)))))
   (ak (fQ (ps_set (i:=5) gM.nd rfl (Or.inl rfl) (cI (pe_callTy call_tuple_of (by rfl) T.b_tuple (by decide +kernel) (pa_cons (gR (pe_lc (own:=[("user",6)]) (by rfl) gM.nd (fR (fJ (rM (tU c_Policy_hearers hg hr (by decide) (xv 0) (aN (xv 3) bQ))))) (blkOk_by (own:=[("user",6)]) (N:=["policy", "people", "pairs", "one", "other", "both", "user", "waiting", "found", "here", "free", "further", "listeners"]) (sc:=defScope mZ) (by decide +kernel)) (fun _ _ _ _ _=>(gn 6 gM.nd)) (fun _ _ _ _ _=>pts_one (cN (pt_cmpR (nz (gK hr)) (xv 6) (rM (tU c_Policy_hearers hg hr (by decide) (xv 0) (aN (xv 4) bQ))) rfl) nB)) (fun _ _ _ _ _=>(xv 6)))) pa_nil)) j7)))
   (ak (lC (ps_set (i:=7) gM.nd rfl (Or.inl rfl) (fF (pe_lst (aB (c9 (pe_tup (aB (rM (tU c_Policy_hearers hg hr (by decide) (xv 0) (aN (xv 3) bQ))) (aB (rM (tU c_Policy_hearers hg hr (by decide) (xv 0) (aN (xv 4) bQ))) (aB (xv 5) aY))))) aY)))))
   (ak (lC (ps_set (i:=8) gM.nd rfl (Or.inl rfl) (HV (En (nM hr) T.hs (pps_cons (bX hu (xv 7) aQ) pe_bl pps_nil)))))
   (ak (BY 5000 (ps_while PassesOwn.never (cN (pt_cmpR (op_neD hr.units) (xv 7) (fF (pe_lst aY)) (nomark _)) i9)
    (ak (fQ (ps_set (i:=9) gM.nd rfl (Or.inr rfl) (B7 (k:=7) (p:=[]) (pe_bm0 PySem.F.plainAttrs_list PySem.F.slot_list_pop PySem.F.type_list_pop mt_pop (pv 7)) trivial)))
    (ak (BZ (ps_setLc (i:=10) (own:=[("user",6)]) (by rfl) gM.nd rfl rfl (sw_true rfl rfl rfl (by decide +kernel)) (fR (fJ (bX hu (xv 9) aQ))) (blkOk_by (own:=[("user",6)]) (N:=["policy", "people", "pairs", "one", "other", "both", "user", "waiting", "found", "here", "free", "further", "listeners"]) (sc:=defScope mZ) (by decide +kernel)) (fun _ _ _ _ _=>(gn 6 gM.nd)) (fun _ _ _ _ _=>pts_one (PW.pt (oj (pw_and (cN (pt_cmpR (nz (gK hr)) (xv 6) (bX hu (xv 9) aQ) rfl) nB) (pw_and1 (cN (pt_cmpR (tX (gK hr)) (xv 6) (bX hu (xv 9) aQ) rfl) tZ)))))) (fun _ _ _ _ _=>(xv 6))))
    (ak (gk (ps_if (cN (pt_cmpR (op_neD hr.units) (xv 10) (fF (pe_lst aY)) (nomark _)) i9)
     (ak (cH (ps_ret (c9 (pe_tup (aB (xv 3) (aB (xv 4) (aB (bX hu (xv 10) aQ) aY))))))) aO)
     aO))
    (ak (ii (ps_for PassesOwn.never rfl (fR (fJ (xv 1))) (jN (pg_name (i:=6) gM.nd rfl (Or.inr rfl)))
     (ak (fQ (ps_set (i:=11) gM.nd rfl (Or.inl rfl) (cI (pe_callTy call_tuple_of (by rfl) T.b_tuple (by decide +kernel) (pa_cons (gR (pe_lc (own:=[("listeners",12)]) (by rfl) gM.nd (fR (fJ (xv 9))) (blkOk_by (own:=[("listeners",12)]) (N:=["policy", "people", "pairs", "one", "other", "both", "user", "waiting", "found", "here", "free", "further", "listeners"]) (sc:=defScope mZ) (by decide +kernel)) (fun _ _ _ _ _=>(gn 12 gM.nd)) (fun _ _ _ _ _=>jn) (fun _ _ _ _ _=>(cS c_with_hearers hg hr (aN (xv 0) (aN (xv 12) (aN (xv 6) bQ))))))) pa_nil)) j7)))
     (ak (gk (ps_if (BX (k:=8) (p:=[]) (pt_cmp (Eq (nM hr) T.hs (xv 11) (pv 8)) rfl) trivial)
      (ak (B0 (k:=8) (p:=[]) (Ed (nM hr) T.hs (pv 8) (xv 11) kz rfl) trivial)
      (ak (pK (ps_expr (yq (k:=7) (p:=[]) (pe_bm PySem.F.plainAttrs_list PySem.F.slot_list_append PySem.F.type_list_append mt_append (pv 7) (pa_cons (xv 11) pa_nil)) trivial))) aO))
      aO)) aO)))) aO)))))) aO))))))
  (ak (cH (ps_ret vn)) aO))))⟩
variable (c_order_gap:Cal P w K mg base 5 "order_gap" (bh K ct [] u9))
def Bz:Sf :=
  (af (aX [] (ae (o8 true) (bo u9 (aq [0] (ac 0) aS) [none] []) (eC .none))) aj)
def jY:be:=cm 1 1 [] Bz
include c_order_gap in
theorem OL (D:Def K mg "order_counts" sq ["policy"]):Cal P w K mg base 6 "order_counts" (bh K ct [] jY):=gF D Lm fun _ _ _ _ _ _ _ hg hr hu=>⟨_,(ak (cH (ps_ret (bz (pe_cmpR ED (cS c_order_gap hg hr (aN (xv 0) bQ)) vn (nomark _)) EI))) aO)⟩
variable (c_order_counts:Cal P w K mg base 6 "order_counts" (bh K ct [] jY))
def BQ:Sf :=
  (af (sIx 4 [] [] (nU 2 [] (ah [] (cj (ah [4] (ae aP (ac 4) (ac 8)) (ah [7] (ac 7) (ah [5] (ac 5) az)))) (ah [] (ae bI (aC jT (ac 2)) (eC (.int 1))) az))) (ac 8)) aj)
def BP : Sf :=
  (af (aZ [0] (ae aP (ae aP (ac 0) (eC (.str "whose"))) (dD nO (ae aP (ac 0) (eC (.str "deeds"))) (ac 5))) (gN 6))
   (af (aZ [4] (ae aP (ac 4) (ac 6)) (gN 7))
   (af (cT (cy (ae aP (ac 1) (ac 6))) (gN 8)
    BQ) aj)))
def G6:Sf :=
  (af (ci 4 [] (ae gv (cM (ah [] (eC (.int 0)) az)) (ae aP (ac 0) (eC (.str "many")))))
  (af (cT (cy (ac 3)) (gN 5)
   BP)
  (af (aX [] (cP 4)) aj)))
def lz:be:=cm 4 9 [2] G6
theorem OM (D:Def K mg "_law_told" vL ["_law_w", "_law_ears_here", "_law_known", "_law_row"]):Cal P w K mg base 1 "_law_told" (bh K ct [2] lz):=gF D pT fun _ _ _ _ _ _ _ hg hr hu=>⟨_,(ak (lC (ps_set (i:=4) pT.nd rfl (Or.inl rfl) (bz (pe_op mf (fF (pe_lst (aB aQ aY))) (bX hu (xv 0) fS)) mi)))
  (ak (ii (ps_for PassesOwn.never rfl (fR (fJ (xv 3))) (gn 5 pT.nd)
   (ak (fQ (ps_set (i:=6) pT.nd rfl (Or.inl rfl) (bX hu (bX hu (xv 0) fS) (yo (pe_bm PySem.F.plainAttrs_str PySem.F.slot_str_index PySem.F.type_str_index mt_sindex (bX hu (xv 0) fS) (pa_cons (xv 5) pa_nil)) EF))))
   (ak (fQ (ps_set (i:=7) pT.nd rfl (Or.inl rfl) (bX hu (xv 4) (xv 6))))
   (ak (ii (ps_for PassesOwn.never rfl (fR (fJ (bX hu (xv 1) (xv 6)))) (gn 8 pT.nd)
    (ak (HC (k:=4) (p:=[]) (ps_asg (B6 (k:=2) (p:=[]) (Em hu (pv 2) (aB (c9 (pe_tup (aB (bX hu (xv 4) (xv 8)) (aB (xv 7) (aB (xv 5) aY))))) (aB (bz (pe_op eI (cI (pe_callB xI (by rfl) T.b_len (by decide +kernel) (pa_cons (xv 2) pa_nil)) wA) aQ) eJ) aY))) trivial) (pg_sub (pv 4) (xv 8) set_list)) trivial) aO))) aO)))))
  (ak (cH (ps_ret (Ca (pv 4)))) aO)))⟩
variable (c_law_told:Cal P w K mg base 1 "_law_told" (bh K ct [2] lz))
def yd : Sf :=
  (af (aZ [0] (ae aP (ae aP (ac 0) (eC (.str "whose"))) (dD nO (ae aP (ac 0) (eC (.str "deeds"))) (ac 6))) (gN 7))
   (af (bj (eB (ae cz (cu (cy (ae aP (ac 1) (ac 7))) (gN 8) (eB (ae (cV false) (ac 8) (ac 4))) [8] (ac 8) [8]) (cM az)))
    (af (aZ [] (cj (ah [] (ae bI (ac 6) (ac 5)) (ah [] (ae bI (ac 4) (cM (ah [7] (ac 7) az))) az))) (gT 2 (dS (gN 5) (dS (gN 4) jc)))) aj)
    aj) aj))
def Hg:Sf :=
  (af (aZ [] (cj (ah [] (cM (ah [3] (ac 3) az)) (ah [] (eC (.str "")) az))) (gT 2 (dS (gN 4) (dS (gN 5) jc))))
  (af (cT (cy (aC qH (ac 2))) (gN 6)
   yd)
  (af (aX [5] (ac 5)) aj)))
def oi:be:=cm 4 9 [] Hg
theorem OZ (D:Def K mg "_law_come" sB ["_law_w", "_law_ears_here", "_law_row", "_law_who"]):Cal P w K mg base 1 "_law_come" (bh K ct [] oi):=gF D lW fun _ _ _ _ _ _ _ hg hr hu=>⟨_,(ak (rD (ps_asg (c9 (pe_tup (aB (fF (pe_lst (aB (xv 3) aY))) (aB fS aY)))) (lH (pg_tup (by rfl) (gH (jN (pg_name (i:=4) lW.nd rfl (Or.inr rfl))) (gH (gn 5 lW.nd) (lG pgs_nil)))))))
  (ak (ii (ps_for PassesOwn.never rfl (fR (fJ (HP (Mt (xv 2))))) (gn 6 lW.nd)
   (ak (fQ (ps_set (i:=7) lW.nd rfl (Or.inl rfl) (bX hu (bX hu (xv 0) fS) (yo (pe_bm PySem.F.plainAttrs_str PySem.F.slot_str_index PySem.F.type_str_index mt_sindex (bX hu (xv 0) fS) (pa_cons (xv 6) pa_nil)) EF))))
   (ak (gk (ps_if (cN (pt_cmpR (op_neD hr.units) (gR (pe_lc (own:=[("_law_k",8)]) (by rfl) lW.nd (fR (fJ (bX hu (xv 1) (xv 7)))) (blkOk_by (own:=[("_law_k",8)]) (N:=["_law_w", "_law_ears_here", "_law_row", "_law_who", "_law_tellers", "_law_found", "_law_deed", "_law_whom", "_law_k"]) (sc:=defScope sB) (by decide +kernel)) (fun _ _ _ _ _=>(gn 8 lW.nd)) (fun _ _ _ _ _=>pts_one (cN (pt_cmpR (nz (gK hr)) (xv 8) (xv 4) rfl) nB)) (fun _ _ _ _ _=>(xv 8)))) (fF (pe_lst aY)) (nomark _)) i9)
    (ak (rD (ps_asg (c9 (pe_tup (aB (bz (pe_op eI (xv 6) (xv 5)) eJ) (aB (bz (pe_op eI (xv 4) (fF (pe_lst (aB (xv 7) aY)))) eJ) aY)))) (lH (pg_tup (by rfl) (gH (gn 5 lW.nd) (gH (jN (pg_name (i:=4) lW.nd rfl (Or.inr rfl))) (lG pgs_nil))))))) aO)
    aO)) aO))))
  (ak (cH (ps_ret (xv 5))) aO)))⟩
variable (c_law_come:Cal P w K mg base 1 "_law_come" (bh K ct [] oi))
def Hb:Sf :=
  (af (bY [3,4,5] (aq [] (dE (cQ "many" [0] (ac 0) (cQ "deeds" [] (cY (eC (.str "abcd")) c7 (c5 (ac 0))) (cQ "whose" [] (aC nP (ac 0)) d7)))) (de [] dZ (aq [] (bo pH (aq [0] (ac 0) (aq [1] (ac 1) aS)) [none,none] []) aS))))
  (af (aZ [2] (ac 2) (gT 4 (dS (gN 6) (dS (gN 7) (dS (gN 8) (dS (gN 9) jc))))))
  (af (aZ [] (dD qK (eC (.str "")) (cu (cy (ac 8)) (gN 11) bP [] (ae aP (eC (.str "abcd")) (ac 11)) [11])) (gN 10))
  (af (bY [12,13] (aq [] (ae bI (ae bI (ae aP (eC (.str "abcd")) (ac 6)) (ae aP (eC (.str "abcd")) (ac 7))) (ac 10)) (aq [] (ae bI (ae bI (ae aP (eC (.str "abcd")) (ac 7)) (ae aP (eC (.str "abcd")) (ac 6))) (ac 10)) aS)))
  (af (bj (eB (ae cz (ae aP (bo lz (aq [3] (ac 3) (aq [5] (ac 5) (cK 4 (aq [12] (ac 12) aS)))) [none,none,some 4,none] [2]) (ac 9)) (ae aP (bo lz (aq [3] (ac 3) (aq [5] (ac 5) (cK 4 (aq [13] (ac 13) aS)))) [none,none,some 4,none] [2]) (ac 9))))
   (af (aX [] (eC (.bool false))) aj)
   aj)
  (af (aX [] (ae cz (bo oi (aq [3] (ac 3) (aq [5] (ac 5) (aq [12] (ac 12) (aq [9] (ac 9) aS)))) [none,none,none,none] []) (bo oi (aq [3] (ac 3) (aq [5] (ac 5) (aq [13] (ac 13) (aq [9] (ac 9) aS)))) [none,none,none,none] []))) aj))))))
def ve:be:=cm 3 14 [] Hb
include c_law_ears c_law_told c_law_come in
theorem OS (D:Def K mg "_law_is_gap" sy ["_law_many", "_law_ties_here", "_law_gap_here"]):Cal P w K mg base 2 "_law_is_gap" (bh K ct [] ve):=gF D kD fun _ _ _ _ _ _ _ hg hr hu=>⟨_,(ak (yg (ps_par3 (i:=3) (j:=4) (l:=5) (by rfl) kD.nd rfl rfl rfl (by decide) (by decide) (by decide) rfl rfl rfl (aN (yn (pe_disp (pps_cons pe_str (xv 0) (pps_cons pe_str (rJ (pe_slice sj fS (rG po_none) (rE (po_some (xv 0))))) (pps_cons pe_str (yj (pe_listRg (by rfl) (by rfl) T.b_list (prg_1 (by rfl) T.b_range (xv 0)))) pps_nil))) (by rfl) (by rfl) (fun z=>by cases z) (by decide)) (lE (lE (lE yi)))) (rH (pa_cons (yk pe_dnewK) (aN (cS c_law_ears hg hr (aN (xv 0) (aN (xv 1) bQ))) bQ)))) (by rfl)))
  (ak (rD (ps_asg (xv 2) (lH (pg_tup (by rfl) (gH (gn 6 kD.nd) (gH (gn 7 kD.nd) (gH (gn 8 kD.nd) (gH (gn 9 kD.nd) (lG pgs_nil)))))))))
  (ak (fQ (ps_set (i:=10) kD.nd rfl (Or.inl rfl) (yo (pe_bm PySem.F.plainAttrs_str PySem.F.slot_str_join PySem.F.type_str_join mt_join fS (pa_cons (gR (pe_lc (own:=[("_law_k",11)]) (by rfl) kD.nd (fR (fJ (xv 8))) (blkOk_by (own:=[("_law_k",11)]) (N:=["_law_many", "_law_ties_here", "_law_gap_here", "_law_w", "_law_known", "_law_ears_here", "_law_p", "_law_q", "_law_row", "_law_reader", "_law_rest", "_law_k", "_law_near", "_law_far"]) (sc:=defScope sy) (by decide +kernel)) (fun _ _ _ _ _=>(gn 11 kD.nd)) (fun _ _ _ _ _=>jn) (fun _ _ _ _ _=>(bX hu fS (xv 11))))) pa_nil)) M5)))
  (ak (pI (ps_par (i:=12) (j:=13) (by rfl) kD.nd rfl rfl (by decide) rfl rfl (aN (bz (pe_op eI (bz (pe_op eI (bX hu fS (xv 6)) (bX hu fS (xv 7))) eJ) (xv 10)) eJ) (aN (bz (pe_op eI (bz (pe_op eI (bX hu fS (xv 7)) (bX hu fS (xv 6))) eJ) (xv 10)) eJ) bQ)) (by rfl)))
  (ak (gk (ps_if (cN (pt_cmpR (op_neD hr.units) (bX hu (cS c_law_told hg hr (aN (xv 3) (aN (xv 5) (lI (pa_cons (pv 4) (aN (xv 12) bQ)))))) (xv 9)) (bX hu (cS c_law_told hg hr (aN (xv 3) (aN (xv 5) (lI (pa_cons (pv 4) (aN (xv 13) bQ)))))) (xv 9)) (nomark _)) i9)
   (ak (cH (ps_ret kz)) aO)
   aO))
  (ak (cH (ps_ret (bz (pe_cmpR (op_neD hr.units) (cS c_law_come hg hr (aN (xv 3) (aN (xv 5) (aN (xv 12) (aN (xv 9) bQ))))) (cS c_law_come hg hr (aN (xv 3) (aN (xv 5) (aN (xv 13) (aN (xv 9) bQ))))) (nomark _)) i9))) aO))))))⟩
variable (c_law_is_gap:Cal P w K mg base 2 "_law_is_gap" (bh K ct [] ve))
def BR:Sf :=
  (af (cC (dz 5 [] (cu (cy (ac 0)) (gN 7) bP [] (ae bI (ac 6) (ac 7)) [7]))) aj)
def Hn : Sf :=
  (af (ci 5 [] (cM az))
   (af (cT (cy (ac 3)) (gN 6)
    BR)
   (af (bY [2,3] (aq [] (ae bI (ac 2) (ac 5)) (aq [] (dY 5) aS))) aj)))
def G8:Sf :=
  (af (bY [2,3] (aq [] (cM (ah [] (eC (.str "")) az)) (aq [] (cM (ah [] (eC (.str "")) az)) aS)))
  (af (cT (dP fB (ah [1] (ac 1) az)) (gN 4)
   Hn)
  (af (aX [2] (ac 2)) aj)))
def oh:be:=cm 2 8 [] G8
theorem OP (D:Def K mg "_law_rows" sw ["_law_deeds", "_law_most_deeds"]):Cal P w K mg base 1 "_law_rows" (bh K ct [] oh):=gF D mY fun _ _ _ _ _ _ _ hg hr hu=>⟨_,(ak (pI (ps_par (i:=2) (j:=3) (by rfl) mY.nd rfl rfl (by decide) rfl rfl (aN (fF (pe_lst (aB fS aY))) (aN (fF (pe_lst (aB fS aY))) bQ)) (by rfl)))
  (ak (ii (ps_for PassesOwn.never rfl (i6 (pi_range1 (by rfl) T.b_range (aB (xv 1) aY))) (gn 4 mY.nd)
   (ak (lC (ps_set (i:=5) mY.nd rfl (Or.inl rfl) (fF (pe_lst aY))))
   (ak (ii (ps_for PassesOwn.never rfl (fR (fJ (xv 3))) (jN (pg_name (i:=6) mY.nd rfl (Or.inr rfl)))
    (ak (pK (ps_expr (x_extend (k:=5) (p:=[]) (pe_bm PySem.F.plainAttrs_list PySem.F.slot_list_extend PySem.F.type_list_extend mt_extend (pv 5) (pa_cons (gR (pe_lc (own:=[("_law_deed",7)]) (by rfl) mY.nd (fR (fJ (xv 0))) (blkOk_by (own:=[("_law_deed",7)]) (N:=["_law_deeds", "_law_most_deeds", "_law_found", "_law_layer", "_law_k", "_law_later", "_law_row", "_law_deed"]) (sc:=defScope sw) (by decide +kernel)) (fun _ _ _ _ _=>(gn 7 mY.nd)) (fun _ _ _ _ _=>jn) (fun _ _ _ _ _=>(bz (pe_op eI (xv 6) (xv 7)) eJ)))) pa_nil)) trivial))) aO)))
   (ak (pI (ps_par (i:=2) (j:=3) (by rfl) mY.nd rfl rfl (by decide) rfl rfl (aN (bz (pe_op eI (xv 2) (xv 5)) eJ) (aN (HY (pv 5)) bQ)) (by rfl))) aO)))))
  (ak (cH (ps_ret (xv 2))) aO)))⟩
variable (c_law_rows:Cal P w K mg base 1 "_law_rows" (bh K ct [] oh))
def BS : Sf :=
  (af (aZ [] (bo oi (aq [2] (ac 2) (aq [4] (ac 4) (aq [6] (ac 6) (aq [8] (ac 8) aS)))) [none,none,none,none] []) (gN 9))
    (af (bj (eB (ae cz (nU 5 [] (ah [] (cj (ah [8] (ac 8) (ah [7] (ae aP (ac 7) (ac 8)) az))) (ah [9] (ac 9) az))) (ac 9)))
     (af (aX [] (eC (.bool false))) aj)
     aj) aj))
def ya : Sf :=
  (af (aZ [] (bo lz (aq [2] (ac 2) (aq [4] (ac 4) (cK 3 (aq [6] (ac 6) aS)))) [none,none,some 3,none] [2]) (gN 7))
   (af (cT (dP fB (ah [0] (ac 0) az)) (gN 8)
    BS) aj))
def Hc:Sf :=
  (af (bY [2,3,4] (aq [] (dE (cQ "many" [0] (ac 0) (cQ "deeds" [] (cY (eC (.str "abcd")) c7 (c5 (ac 0))) (cQ "whose" [] (aC nP (ac 0)) d7)))) (de [] dZ (aq [] (bo pH (aq [0] (ac 0) (aq [1] (ac 1) aS)) [none,none] []) aS))))
  (af (ci 5 [] dZ)
  (af (cT (cy (bo oh (aq [2] (ae aP (ac 2) (eC (.str "deeds"))) (aq [] (dX (eB (ae mz (ac 0) (eC (.int 4)))) (eC (.int 4)) (eC (.int 3))) aS)) [none,none] [])) (gN 6)
   ya)
  (af (aX [] (eC (.bool true))) aj))))
def vf:be:=cm 2 10 [] Hc
include c_law_ears c_law_told c_law_come c_law_rows in
theorem OT (D:Def K mg "_law_has_none" vO ["_law_many", "_law_ties_here"]):Cal P w K mg base 2 "_law_has_none" (bh K ct [] vf):=gF D oy fun _ _ _ _ _ _ _ hg hr hu=>⟨_,(ak (yg (ps_par3 (i:=2) (j:=3) (l:=4) (by rfl) oy.nd rfl rfl rfl (by decide) (by decide) (by decide) rfl rfl rfl (aN (yn (pe_disp (pps_cons pe_str (xv 0) (pps_cons pe_str (rJ (pe_slice sj fS (rG po_none) (rE (po_some (xv 0))))) (pps_cons pe_str (yj (pe_listRg (by rfl) (by rfl) T.b_list (prg_1 (by rfl) T.b_range (xv 0)))) pps_nil))) (by rfl) (by rfl) (fun z=>by cases z) (by decide)) (lE (lE (lE yi)))) (rH (pa_cons (yk pe_dnewK) (aN (cS c_law_ears hg hr (aN (xv 0) (aN (xv 1) bQ))) bQ)))) (by rfl)))
  (ak (lC (ps_set (i:=5) oy.nd rfl (Or.inl rfl) (yk pe_dnewK)))
  (ak (ii (ps_for PassesOwn.never rfl (fR (fJ (cS c_law_rows hg hr (aN (bX hu (xv 2) fS) (aN (x_if (pe_ifExp (cN (pt_cmpR (tY (gK hr)) (xv 0) aQ (nomark _)) t9) aQ aQ)) bQ))))) (gn 6 oy.nd)
   (ak (fQ (ps_set (i:=7) oy.nd rfl (Or.inl rfl) (cS c_law_told hg hr (aN (xv 2) (aN (xv 4) (lI (pa_cons (pv 3) (aN (xv 6) bQ))))))))
   (ak (ii (ps_for PassesOwn.never rfl (i6 (pi_range1 (by rfl) T.b_range (aB (xv 0) aY))) (gn 8 oy.nd)
    (ak (fQ (ps_set (i:=9) oy.nd rfl (Or.inl rfl) (cS c_law_come hg hr (aN (xv 2) (aN (xv 4) (aN (xv 6) (aN (xv 8) bQ)))))))
    (ak (gk (ps_if (cN (pt_cmpR (op_neD hr.units) (B6 (k:=5) (p:=[]) (Em hu (pv 5) (aB (c9 (pe_tup (aB (xv 8) (aB (bX hu (xv 7) (xv 8)) aY)))) (aB (xv 9) aY))) trivial) (xv 9) (nomark _)) i9)
     (ak (cH (ps_ret kz)) aO)
     aO)) aO)))) aO))))
  (ak (cH (ps_ret kz)) aO))))⟩
variable (c_law_has_none:Cal P w K mg base 2 "_law_has_none" (bh K ct [] vf))
def G9:Sf :=
  (af (bY [2,3] (aq [] (dW "Policy" ku (ah [0] (ac 0) (ah [] (aC g9 (ac 1)) az))) (aq [] (bo vg (aq [0] (ac 0) (aq [1] (ac 1) aS)) [none,none] []) aS)))
  (af (aZ [] (ae (o8 true) (ac 3) (eC .none)) (gN 4))
  (af (bj (eB (ae cz (aC my (cM (ah [] (bo jY (aq [2] (ac 2) aS) [none] []) (ah [] (eO [0] 0 (["policy"]:List Str).length jY az (ah [2] (ac 2) az)) (ah [] (bo jY (aq [2] (ac 2) aS) [none] []) az))))) (aC my (ae gv (cM (ah [4] (ac 4) az)) (eC (.int 3))))))
   (af (aX [] (eC (.bool false))) aj)
   aj)
  (af (bj (cD (cE (eB (ac 4)) (cb (eB (bo ve (aq [0] (ac 0) (aq [1] (ac 1) (aq [3] (ac 3) aS))) [none,none,none] [])))) (cE (cb (eB (ac 4))) (cb (eB (bo vf (aq [0] (ac 0) (aq [1] (ac 1) aS)) [none,none] [])))))
   (af (aX [] (eC (.bool false))) aj)
   aj)
  (af (aX [] (ae gw (jd "pairs" (ac 2)) (aC g9 (ac 1)))) aj)))))
def vd:be:=cm 2 5 [] G9
variable (kf_order_counts_0:KFact K mg "order_counts" 0 ["policy"] (fun vs zs=>gJ [0] (vs++zs)))
include c_law_gap c_Policy_init c_order_counts c_law_is_gap c_law_has_none kf_order_counts_0 in
theorem OQ (D:Def K mg "_law_right" vM ["_law_many", "_law_ties_here"]):Cal P w K mg base 7 "_law_right" (bh K ct [] vd):=gF D zD fun _ _ _ _ _ _ _ hg hr hu=>⟨_,(ak (pI (ps_par (i:=2) (j:=3) (by rfl) zD.nd rfl rfl (by decide) rfl rfl (aN (Cb (Eo c_Policy_init hg hr (by decide) (by rfl) (aB (xv 0) (aB (cI (pe_callTy call_tuple_of (by rfl) T.b_tuple (by decide +kernel) (pa_cons (xv 1) pa_nil)) j7) aY)))) (aN (cS c_law_gap hg hr (aN (xv 0) (aN (xv 1) bQ))) bQ)) (by rfl)))
  (ak (fQ (ps_set (i:=4) zD.nd rfl (Or.inl rfl) (bz (pe_cmpR ED (xv 3) vn (nomark _)) EI)))
  (ak (gk (ps_if (cN (pt_cmpR (op_neD hr.units) (cI (pe_callB (Bo hg hr.units) (by rfl) T.b_repr (by decide +kernel) (pa_cons (fF (pe_lst (aB (cS c_order_counts hg hr (aN (xv 2) bQ)) (aB (H0 (Mv c_order_counts kf_order_counts_0 hg hr (by decide) (by rfl) (HE (pk_cons (xv 2) (HD pk_nil))))) (aB (cS c_order_counts hg hr (aN (xv 2) bQ)) aY))))) pa_nil)) Ae) (cI (pe_callB (Bo hg hr.units) (by rfl) T.b_repr (by decide +kernel) (pa_cons (bz (pe_op mf (fF (pe_lst (aB (xv 4) aY))) aQ) mi) pa_nil)) Ae) (nomark _)) i9)
   (ak (cH (ps_ret kz)) aO)
   aO))
  (ak (gk (ps_if (PW.pt (mP (pw_or (PW.pt (oj (pw_and (i5 (pt_val (xv 4))) (pw_and1 (jM (pt_not (i5 (pt_val (cS c_law_is_gap hg hr (aN (xv 0) (aN (xv 1) (aN (xv 3) bQ)))))))))))) (pw_or1 (PW.pt (oj (pw_and (jM (pt_not (i5 (pt_val (xv 4))))) (pw_and1 (jM (pt_not (i5 (pt_val (cS c_law_has_none hg hr (aN (xv 0) (aN (xv 1) bQ)))))))))))))))
   (ak (cH (ps_ret kz)) aO)
   aO))
  (ak (cH (ps_ret (bz (pe_cmpR (op_eqD hr.units) (rO (pe_fld (xv 2) rfl) T.f_pairs) (cI (pe_callTy call_tuple_of (by rfl) T.b_tuple (by decide +kernel) (pa_cons (xv 1) pa_nil)) j7) (nomark _)) of_eq))) aO)))))⟩
variable (c_law_right:Cal P w K mg base 7 "_law_right" (bh K ct [] vd))
def Hr : Sf :=
  (af (aZ [] (bo q8 (cK 1 aS) [some 1] [0]) (gT 2 (dS (gN 3) (dS (gN 4) jc))))
   (af (bj (cb (eB (bo vd (aq [3] (ac 3) (aq [4] (ac 4) aS)) [none,none] [])))
    (af (aX [] (eC (.bool false))) aj)
    aj) aj))
def BE:Sf :=
  (af (ci 1 [] (bo rj (aq [0] (ac 0) aS) [none] []))
  (af (cT (dP fB (ah [] (eC (.int 8)) az)) (gN 2)
   Hr)
  (af (aZ [] (cM (ah [] (cj (ah [] (eC (.int 3)) (ah [] (cM (ah [] (cj (ah [] (eC (.int 1)) (ah [] (eC (.int 2)) az))) (ah [] (cj (ah [] (eC (.int 2)) (ah [] (eC (.int 0)) az))) az))) az))) (ah [] (cj (ah [] (eC (.int 3)) (ah [] (cM (ah [] (cj (ah [] (eC (.int 0)) (ah [] (eC (.int 1)) az))) (ah [] (cj (ah [] (eC (.int 0)) (ah [] (eC (.int 2)) az))) (ah [] (cj (ah [] (eC (.int 1)) (ah [] (eC (.int 0)) az))) (ah [] (cj (ah [] (eC (.int 1)) (ah [] (eC (.int 2)) az))) (ah [] (cj (ah [] (eC (.int 2)) (ah [] (eC (.int 0)) az))) (ah [] (cj (ah [] (eC (.int 2)) (ah [] (eC (.int 1)) az))) az))))))) az))) (ah [] (cj (ah [] (eC (.int 3)) (ah [] (cM (ah [] (cj (ah [] (eC (.int 0)) (ah [] (eC (.int 2)) az))) (ah [] (cj (ah [] (eC (.int 1)) (ah [] (eC (.int 2)) az))) az))) az))) az)))) (gN 5))
  (af (aX [] (ae gw (aC my (cu (cy (ac 5)) (gT 2 (dS (gN 3) (dS (gN 4) jc))) bP [] (bo jY (aq [] (dW "Policy" ku (ah [3] (ac 3) (ah [] (aC g9 (ac 4)) az))) aS) [none] []) [3,4])) (eC (.str "[True, False, False]")))) aj))))
def xT:be:=cm 1 6 [] BE
include c_law_deck c_law_some c_Policy_init c_order_counts c_law_right in
theorem HJ:px P w K mg base ct 7 "law" jw ["_law_script", "_law_deck_here", "_law_go", "_law_many", "_law_ties_here", "_law_some_here"] [] BE:=fun _ _ _ _ _ _ _ hg hr hu=>⟨_,(ak (lC (ps_set (i:=1) lX.nd rfl (Or.inl rfl) (cS c_law_deck hg hr (aN (xv 0) bQ))))
  (ak (ii (ps_for PassesOwn.never rfl (i6 (pi_range1 (by rfl) T.b_range (aB aQ aY))) (gn 2 lX.nd)
   (ak (rD (ps_asg (cS c_law_some hg hr (lI (pa_cons (pv 1) bQ))) (lH (pg_tup (by rfl) (gH (gn 3 lX.nd) (gH (gn 4 lX.nd) (lG pgs_nil)))))))
   (ak (gk (ps_if (jM (pt_not (i5 (pt_val (cS c_law_right hg hr (aN (xv 3) (aN (xv 4) bQ)))))))
    (ak (cH (ps_ret kz)) aO)
    aO)) aO))))
  (ak (fQ (ps_set (i:=5) lX.nd rfl (Or.inl rfl) (fF (pe_lst (aB (c9 (pe_tup (aB aQ (aB (fF (pe_lst (aB (c9 (pe_tup (aB aQ (aB aQ aY)))) (aB (c9 (pe_tup (aB aQ (aB aQ aY)))) aY)))) aY)))) (aB (c9 (pe_tup (aB aQ (aB (fF (pe_lst (aB (c9 (pe_tup (aB aQ (aB aQ aY)))) (aB (c9 (pe_tup (aB aQ (aB aQ aY)))) (aB (c9 (pe_tup (aB aQ (aB aQ aY)))) (aB (c9 (pe_tup (aB aQ (aB aQ aY)))) (aB (c9 (pe_tup (aB aQ (aB aQ aY)))) (aB (c9 (pe_tup (aB aQ (aB aQ aY)))) aY)))))))) aY)))) (aB (c9 (pe_tup (aB aQ (aB (fF (pe_lst (aB (c9 (pe_tup (aB aQ (aB aQ aY)))) (aB (c9 (pe_tup (aB aQ (aB aQ aY)))) aY)))) aY)))) aY)))))))
  (ak (cH (ps_ret (bz (pe_cmpR (op_eqD hr.units) (cI (pe_callB (Bo hg hr.units) (by rfl) T.b_repr (by decide +kernel) (pa_cons (gR (pe_lc (own:=[("_law_many",3),("_law_ties_here",4)]) (by rfl) lX.nd (fR (fJ (xv 5))) (blkOk_by (own:=[("_law_many",3),("_law_ties_here",4)]) (N:=["_law_script", "_law_deck_here", "_law_go", "_law_many", "_law_ties_here", "_law_some_here"]) (sc:=defScope jw) (by decide +kernel)) (fun _ _ _ _ _=>(lH (pg_tup (by rfl) (gH (gn 3 lX.nd) (gH (gn 4 lX.nd) (lG pgs_nil)))))) (fun _ _ _ _ _=>jn) (fun _ _ _ _ _=>(cS c_order_counts hg hr (aN (Cb (Eo c_Policy_init hg hr (by decide) (by rfl) (aB (xv 3) (aB (cI (pe_callTy call_tuple_of (by rfl) T.b_tuple (by decide +kernel) (pa_cons (xv 4) pa_nil)) j7) aY)))) bQ))))) pa_nil)) Ae) fS (nomark _)) of_eq))) aO))))⟩
end
end Mp
namespace Mp
open PySem L2 Tw
theorem bB {α β:Type} (a:α) (S:Env) (k:α->Env->Out β):(Out.ok a S).bind k=k a S:=rfl
theorem bW {α:Type} (a:α) (S:Env):Out.of (some a) S=.ok a S:=rfl
theorem ev_tup (a:Af) (S:Env):cj a S=c6 gTup a S:=rfl
theorem gh (a:Af) (S:Env):cM a S=c6 mB a S:=rfl
theorem ev_fld (f:Str) (a:Ef) (S:Env):jd f a S=aC (pc f) a S:=rfl
abbrev I (i:Int):OV:=.fz (.int i)
def sm (i:Int):Prop:=i.natAbs<2 ^ 200
theorem Le {i:Int} (h:-1000000000000000000000000000000<i) (h2:i<1000000000000000000000000000000):sm i:=by
 unfold sm
 have:(1000000000000000000000000000000:Nat)<2 ^ 200:=by decide
 omega
theorem eP (i j:Int):bI (.fz (.int i)) (.fz (.int j))=some (.fz (.int (i+j))):=rfl
theorem fU (i j:Int):gSub (.fz (.int i)) (.fz (.int j))=some (.fz (.int (i - j))):=rfl
theorem kL (i j:Int) (h:0<j):eN (.fz (.int i)) (.fz (.int j))=some (.fz (.int (i % j))):=by
 show(if decide (0<j)=true then some _ else none)=_
 rw[if_pos (decide_eq_true h)]<;>rfl
theorem Av {i:Int} (h:sm i):i.natAbs.log2<200:=by
 by_cases e:i.natAbs=0
 ·rw[e]; decide
 ·exact(Nat.log2_lt e).mpr h
theorem Gt (i j:Int) (h:0<j) (hs:sm j):nQ (.fz (.int i)) (.fz (.int j))=some (.fz (.int (i / j))):=by
 show(if decide (0<j/\j.natAbs.log2<9000)=true then some _ else none)=_
 rw[if_pos (decide_eq_true ⟨h,Nat.lt_trans (Av hs) (by decide)⟩)]<;>rfl
theorem oR (i j:Int) (hi:sm i) (hj:sm j):gv (.fz (.int i)) (.fz (.int j))=some (.fz (.int (i * j))):=by
 have h1:=Av hi;have h2:=Av hj
 have e:gI rP (fun i j=>vI (i * j)) (.fz (.int i)) (.fz (.int j))=some (.fz (.int (i * j))):=by
  show(if rP i j=true then some _ else none)=_
  rw[if_pos (show rP i j=true from decide_eq_true (by omega:i.natAbs.log2+j.natAbs.log2<1000000))]<;>rfl
 unfold gv
 have e0:gI qq (fun i j=>vI (i * j)) (.fz (.int i)) (.fz (.int j))=if qq i j=true then some (.fz (.int (i * j))) else none:=rfl
 rw[e,e0];split<;>rfl
theorem eM (i:Int):dU (.fz (.int i))=some (.fz (.int i)):=rfl
theorem fY (i j:Int):mz (.fz (.int i)) (.fz (.int j))=some (.fz (.bool (decide (i<j)))):=rfl
theorem fZ (i j:Int):Ge (.fz (.int i)) (.fz (.int j))=some (.fz (.bool (decide (i<=j)))):=rfl
theorem gb (i j:Int):xm (.fz (.int i)) (.fz (.int j))=some (.fz (.bool (decide (j<i)))):=rfl
theorem fA (i j:Int):uy (.fz (.int i)) (.fz (.int j))=some (.fz (.bool (decide (j<=i)))):=rfl
theorem gj (i j:Int):gw (.fz (.int i)) (.fz (.int j))=some (.fz (.bool (i==j))):=rfl
theorem fx (i j:Int):cz (.fz (.int i)) (.fz (.int j))=some (.fz (.bool (!(i==j)))):=rfl
theorem Ee:qJ (.fz (.int 10)) (.fz (.int 18))=some (.fz (.int 1000000000000000000)):=by
 show(if decide ((0:Int)<=18/\(18:Int)<=1000000/\(10:Int).natAbs<2 ^ 64)=true then some (vI ((10:Int) ^ (18:Int).toNat)) else none)=_
 rw[if_pos (by decide)]<;>rfl
def il (ns:List Int):List Val:=ns.map .int
theorem qT:∀xs:List Val,jg (aF xs)=some xs
 | []=>rfl
 | x::xs=>by
  show(jg (aF xs)).bind _=_
  rw[qT xs]<;>rfl
theorem vt:∀xs:List Val,OV.vals (aF xs)=xs
 | []=>rfl
 | x::xs=>by show x::OV.vals (aF xs)=_; rw[vt xs]
theorem M7 (n:Nat) (ns:List Int):br (n+1) (.lst (il ns))=true:=by
 show(il ns).all (br n)=true
 rw[dv];intro x hx;obtain⟨i,_,rfl⟩:=aW.mp hx
 cases n<;>rfl
theorem Ak (ns:List Int):cz (.lst (aF (il ns))) (ag [])=some (.fz (.bool (!ns.isEmpty))):=by
 unfold cz
 have e1:OV.val (.lst (aF (il ns)))=.lst (il ns):=by show Val.lst (OV.vals _)=_; rw[vt]
 rw[e1];rw[if_pos ⟨M7 59 ns,rfl⟩]
 cases ns<;>rfl
theorem FB (ns:List Int) (c:Int):nI (.lst (aF (il (ns++[c]))))=some (aF (il ns),.int c):=by
 have e:aF (il (ns++[c]))=aF (il ns)++[.fz (.int c)]:=by unfold aF il; rw[dA,dA]<;>rfl
 rw[e]
 show(match (aF (il ns)++[OV.fz (Val.int c)]).getLast? with|some (.fz x)=>some ((aF (il ns)++[OV.fz (Val.int c)]).dropLast,x)|_=>none)=_
 rw[List.getLast?_concat,List.dropLast_concat]
theorem RF (ns:List Int) (c:Int) (h:ns.length<1000):wM (.int c) (.lst (aF (il ns)))=some (.lst (aF (il (ns++[c])))):=by
 have e:aF (il (ns++[c]))=aF (il ns)++[.fz (.int c)]:=by unfold aF il; rw[dA,dA]<;>rfl
 rw[e]
 show(if (aF (il ns)).length<bL then some _ else none)=_
 rw[if_pos (by unfold aF il bL; rw[aT,aT]; omega)]
end Mp
namespace Mp
open PySem L2 Tw
def deck (cs:List Int) (m d:Int):OV:=.dict [(.str "rest",.lst (aF (il cs))),(.str "mixed",.fz (.int m)),(.str "draws",.fz (.int d))]
theorem oP:("rest":Str) ≠ "mixed":=by decide +kernel
theorem oQ:("rest":Str) ≠ "draws":=by decide +kernel
theorem qk:("mixed":Str) ≠ "rest":=by decide +kernel
theorem oO:("mixed":Str) ≠ "draws":=by decide +kernel
theorem qn:("draws":Str) ≠ "rest":=by decide +kernel
theorem ql:("draws":Str) ≠ "mixed":=by decide +kernel
theorem A5 (kvs:List (Val×OV)) (s:Str):aP (.dict kvs) (.fz (.str s))=aG kvs (.str s):=rfl
theorem AH (cs m d):aP (deck cs m d) (.fz (.str "rest"))=some (.lst (aF (il cs))):=by
 unfold deck; rw[A5]; simp only[aG,Val.str.injEq,oP,oQ,qk,oO,qn,ql,if_true,if_false]
theorem Pa (cs m d):aP (deck cs m d) (.fz (.str "mixed"))=some (.fz (.int m)):=by
 unfold deck; rw[A5]; simp only[aG,Val.str.injEq,oP,oQ,qk,oO,qn,ql,if_true,if_false]
theorem Pb (cs m d):aP (deck cs m d) (.fz (.str "draws"))=some (.fz (.int d)):=by
 unfold deck; rw[A5]; simp only[aG,Val.str.injEq,oP,oQ,qk,oO,qn,ql,if_true,if_false]
theorem Gc (cs m d):bZ [.key "rest"] (deck cs m d)=some (.lst (aF (il cs))):=by
 unfold deck; simp only[bZ,aG,Val.str.injEq,oP,oQ,qk,oO,qn,ql,if_true,if_false,Option.bind_some]
theorem DZ (cs m d cs'):cq [.key "rest"] (deck cs m d) (.lst (aF (il cs')))=deck cs' m d:=by
 unfold deck; simp only[cq,bZ,aG,bJ,Val.str.injEq,oP,oQ,qk,oO,qn,ql,if_true,if_false,Option.bind_some]
theorem Mc (cs m d x):iR (.str "draws") (.fz (.int x)) (deck cs m d)=some (deck cs m x):=by
 unfold deck; simp only[iR,fits,kindOf,bJ,Val.str.injEq,oP,oQ,qk,oO,qn,ql,if_true,if_false,List.length_cons,List.length_nil];rfl
theorem fK (o:OV):bZ [] o=some o:=rfl
theorem fH (o c:OV):cq [] o c=c:=rfl
theorem QW (cs m d):qD (deck cs m d)=some ():=rfl
theorem FZ (xs):o4 (.lst xs)=some ():=rfl
end Mp
namespace Mp
open PySem L2 Tw
theorem iA {i:Int} (h:0<=i) (h2:i<1000000000000000000000000000000):sm i:=Le (by omega) h2
def iI (f t:Int):Int:=(f % 2147483563+60743 * t * t+73) * 40692
def jE (f:Int):Int:=f % 2147483647
def qR (f t:Int):Int:=(f * f+39373 * t+157) % 2147483579
def uA (f b:Int):Int:=f * 48271 % 2147483549 / 64 % b
theorem oU {i j:Int} (h:0<j):0<=i % j/\i % j<j:=⟨Int.emod_nonneg _ (by omega),Int.emod_lt_of_pos _ h⟩
theorem QU (cs:List Int) (m d f b:Int) (x4:Option OV) (hd:0<=d) (hd':d<1000000) (hb:0<b) (hb':b<1000000) :
  (af (aZ [] (ae gv (aC dU (ae bI (ae bI (ae eN (aC dU (ac 2)) (eC (.int 2147483563))) (ae gv (ae gv (eC (.int 60743)) (ac 3)) (ac 3))) (eC (.int 73)))) (eC (.int 40692))) (gN 2))
  (af (aZ [] (ae eN (aC dU (ac 2)) (eC (.int 2147483647))) (gN 2))
  (af (aZ [] (ae eN (aC dU (ae bI (ae bI (ae gv (ac 2) (ac 2)) (ae gv (eC (.int 39373)) (ac 3))) (eC (.int 157)))) (eC (.int 2147483579))) (gN 2))
  (af (aX [] (ae eN (ae nQ (ae eN (aC dU (ae gv (ac 2) (eC (.int 48271)))) (eC (.int 2147483549))) (eC (.int 64))) (ac 1))) aj))))
   [some (deck cs m d),some (I b),some (I f),some (I d),x4]=.ok (.rt (I (uA (qR (jE (iI f d)) d) b))) [some (deck cs m d),some (I b),some (I (qR (jE (iI f d)) d)),some (I d),x4]:=by
 obtain⟨g1,g2⟩:=oU (i:=f) (j:=2147483563) (by omega)
 have e1:60743 * d<=60743000000:=by omega
 have q0:0<=60743 * d * d:=Int.mul_nonneg (by omega) hd;have q1:60743 * d * d<=60743000000 * 1000000:=Int.mul_le_mul e1 (by omega) hd (by omega);obtain⟨h1,h2⟩:=oU (i:=iI f d) (j:=2147483647) (by omega);obtain⟨k1,k2⟩:=oU (i:=jE (iI f d) * jE (iI f d)+39373 * d+157) (j:=2147483579) (by omega);have hD:iI f d=(f % 2147483563+60743 * d * d+73) * 40692:=rfl;have hH:jE (iI f d)=iI f d % 2147483647:=rfl;have hE:qR (jE (iI f d)) d=(jE (iI f d) * jE (iI f d)+39373 * d+157) % 2147483579:=rfl;rw[←hH] at h1 h2;rw[←hE] at k1 k2
 simp only[af,aZ,aX,ae,aC,ac,eC,gN,putS,aI,OV.val,bB,bW,List.getElem?_cons_zero,List.getElem?_cons_succ,List.length_cons,List.length_nil,List.set_cons_zero,List.set_cons_succ,
  kL _ 2147483563 (by omega),oR 60743 d (iA (by omega) (by omega)) (iA hd (by omega)),oR (60743 * d) d (iA (by omega) (by omega)) (iA hd (by omega)),eP,eM,
  oR (f % 2147483563+60743 * d * d+73) 40692 (iA (by omega) (by omega)) (iA (by omega) (by omega)),←hD,kL _ 2147483647 (by omega),←hH,if_true,Nat.reduceAdd,Nat.reduceLT,
  oR (jE (iI f d)) (jE (iI f d)) (iA (by omega) (by omega)) (iA (by omega) (by omega)),oR 39373 d (iA (by omega) (by omega)) (iA hd (by omega)),kL _ 2147483579 (by omega),←hE,
  oR (qR (jE (iI f d)) d) 48271 (iA (by omega) (by omega)) (iA (by omega) (by omega)),kL _ 2147483549 (by omega),Gt _ 64 (by omega) (iA (by omega) (by omega)),kL _ b hb,bO]
 rfl
end Mp
namespace Mp
open PySem L2 Tw
theorem kE {np n:Nat} {io:List Nat} {g:Sf} {os:List OV} (h:os.length=np):cm np n io g os=hI io (g (kC n os)):=if_pos h
theorem Oh {α:Type} (xs:List α):xs=[]\/∃ys y,xs=ys++[y]:=(List.eq_nil_or_concat xs).imp id fun⟨L,b,h⟩=>⟨L,b,by rw[h,List.concat_eq_append]⟩
def gQ (o:OV) (d:Nat):Prop:=∃(cs:List Int) (m:Int) (k:Nat),o=deck cs m k/\k<=d/\cs.length<=63
theorem xB {o:OV} {d:Nat} {b:Int} (h:gQ o d) (hd:d<900000) (hb:0<b) (hb':b<1000000):∃r o',ko [o,I b]=.ok (I r) [some o']/\0<=r/\r<b/\gQ o' (d+1):=by
 obtain⟨cs,m,k,rfl,hk,hl⟩:=h
 have e1:((k:Int)+1)=((k+1:Nat):Int):=by omega
 have start:∀x,(af (dL 0 [] [] (ae bI (ae aP (ac 0) (eC (.str "draws"))) (eC (.int 1))) (eC (.str "draws")))
  (af (bY [2,3] (aq [0] (ae aP (ac 0) (eC (.str "mixed"))) (aq [0] (ae aP (ac 0) (eC (.str "draws"))) aS))) x)) [some (deck cs m k),some (I b),none,none,none]=x [some (deck cs m (k+1:Nat)),some (I b),some (I m),some (I (k+1:Nat)),none]:=fun x=>by
  simp only[af,dL,bY,aq,aS,ae,ac,eC,bF,bH,fK,fH,QW,bB,bW,List.getElem?_cons_zero,List.getElem?_cons_succ,Pb,Pa,Mc,eP,bO,aI,OV.fzv,Option.bind_some,List.set_cons_zero,List.set_cons_succ,bR,putS,List.length_cons,List.length_nil,Nat.reduceAdd,Nat.reduceLT,if_true,e1]
 have e0:ko [deck cs m k,I b]=hI [0] (BC [some (deck cs m k),some (I b),none,none,none]):=kE rfl;rw[e0];unfold BC;rw[start]
 have t1:=fun f x4 cs=>QU cs m (k+1:Nat) f b x4 (by omega) (by omega) hb hb'
 have rng:∀f,0<=uA f b/\uA f b<b:=fun f=>oU hb
 rcases Oh cs with rfl|⟨cs',c,rfl⟩
 ·refine⟨uA (qR (jE (iI m (k+1:Nat))) (k+1:Nat)) b,deck [] m (k+1:Nat),?_,(rng _).1,(rng _).2,[],m,k+1,rfl,by omega,by decide⟩
  have e2:(bj (eB (ae cz (ae aP (ac 0) (eC (.str "rest"))) (cM az)))
   (af (aZ [] (cZ 0 [.key "rest"]) (gN 4))
   (af (bj (eB (ae uy (ac 4) (ae qJ (eC (.int 10)) (eC (.int 18)))))
    (af (cC (cW 0 [.key "rest"] [] (ae nQ (ac 4) (ac 1))))
    (af (aX [] (ae eN (aC dU (ac 4)) (ac 1))) aj))
    aj)
   (af (aZ [] (ae bI (ac 2) (ae eN (aC dU (ac 4)) (eC (.int 2147483629)))) (gN 2)) aj)))
   aj) [some (deck [] m (k+1:Nat)),some (I b),some (I m),some (I (k+1:Nat)),none]=.ok .nx [some (deck [] m (k+1:Nat)),some (I b),some (I m),some (I (k+1:Nat)),none]:=by
   simp only[bj,eB,ae,ac,eC,cM,c6,az,mB,bB,bW,List.getElem?_cons_zero,AH,List.length_nil];rw[if_pos (by decide),bW,bB,Ak];rfl
  show hI [0] (((bj _ _ _) [some (deck [] m (k+1:Nat)),some (I b),some (I m),some (I (k+1:Nat)),none]).bind _)=_
  rw[e2,bB]
  show hI [0] ((af _ _) [some (deck [] m (k+1:Nat)),some (I b),some (I m),some (I (k+1:Nat)),none])=_
  rw[t1 m none []];rfl
 ·have hl':cs'.length<=62:=by rw[cX] at hl; simp at hl; omega
  by_cases hc:1000000000000000000<=c
  ·refine⟨c % b,deck (cs'++[c / b]) m (k+1:Nat),?_,(oU hb).1,(oU hb).2,cs'++[c / b],m,k+1,rfl,by omega,by rw[cX] at hl ⊢; exact hl⟩
   have e2:(bj (eB (ae cz (ae aP (ac 0) (eC (.str "rest"))) (cM az)))
   (af (aZ [] (cZ 0 [.key "rest"]) (gN 4))
   (af (bj (eB (ae uy (ac 4) (ae qJ (eC (.int 10)) (eC (.int 18)))))
    (af (cC (cW 0 [.key "rest"] [] (ae nQ (ac 4) (ac 1))))
    (af (aX [] (ae eN (aC dU (ac 4)) (ac 1))) aj))
    aj)
   (af (aZ [] (ae bI (ac 2) (ae eN (aC dU (ac 4)) (eC (.int 2147483629)))) (gN 2)) aj)))
   aj) [some (deck (cs'++[c]) m (k+1:Nat)),some (I b),some (I m),some (I (k+1:Nat)),none]=.ok (.rt (I (c % b))) [some (deck (cs'++[c / b]) m (k+1:Nat)),some (I b),some (I m),some (I (k+1:Nat)),some (I c)]:=by
    simp only[bj,eB,ae,ac,eC,cM,c6,az,mB,bB,bW,List.getElem?_cons_zero,AH,List.length_nil];rw[if_pos (by decide),bW,bB,Ak]
    have ne:(!(cs'++[c]).isEmpty)=true:=by cases cs'<;>rfl
    rw[ne];simp only[cU,bB,bW,af,aZ,cZ,bF,bH,bj,eB,ae,aC,ac,eC,cC,cW,aX,List.getElem?_cons_zero,List.getElem?_cons_succ,Gc,FB,Option.bind_some,DZ,List.set_cons_zero,List.set_cons_succ,aI,OV.val,gN,putS,List.length_cons,List.length_nil,Nat.reduceAdd,Nat.reduceLT,if_true,Ee,fA,decide_eq_true hc,FZ,Gt c b hb (iA (by omega) (by omega)),RF _ _ (by omega:cs'.length<1000),kL c b hb,eM,bO]
   show hI [0] (((bj _ _ _) [some (deck (cs'++[c]) m (k+1:Nat)),some (I b),some (I m),some (I (k+1:Nat)),none]).bind _)=_
   rw[e2,bB];rfl
  ·refine⟨uA (qR (jE (iI (m+c % 2147483629) (k+1:Nat))) (k+1:Nat)) b,deck cs' m (k+1:Nat),?_,(rng _).1,(rng _).2,cs',m,k+1,rfl,by omega,by omega⟩
   have e2:(bj (eB (ae cz (ae aP (ac 0) (eC (.str "rest"))) (cM az)))
   (af (aZ [] (cZ 0 [.key "rest"]) (gN 4))
   (af (bj (eB (ae uy (ac 4) (ae qJ (eC (.int 10)) (eC (.int 18)))))
    (af (cC (cW 0 [.key "rest"] [] (ae nQ (ac 4) (ac 1))))
    (af (aX [] (ae eN (aC dU (ac 4)) (ac 1))) aj))
    aj)
   (af (aZ [] (ae bI (ac 2) (ae eN (aC dU (ac 4)) (eC (.int 2147483629)))) (gN 2)) aj)))
   aj) [some (deck (cs'++[c]) m (k+1:Nat)),some (I b),some (I m),some (I (k+1:Nat)),none]=.ok .nx [some (deck cs' m (k+1:Nat)),some (I b),some (I (m+c % 2147483629)),some (I (k+1:Nat)),some (I c)]:=by
    simp only[bj,eB,ae,ac,eC,cM,c6,az,mB,bB,bW,List.getElem?_cons_zero,AH,List.length_nil];rw[if_pos (by decide),bW,bB,Ak]
    have ne:(!(cs'++[c]).isEmpty)=true:=by cases cs'<;>rfl
    rw[ne];simp only[cU,bB,bW,af,aj,aZ,cZ,bF,bH,bj,eB,ae,aC,ac,eC,List.getElem?_cons_zero,List.getElem?_cons_succ,Gc,FB,Option.bind_some,DZ,List.set_cons_zero,List.set_cons_succ,aI,OV.val,gN,putS,List.length_cons,List.length_nil,Nat.reduceAdd,Nat.reduceLT,if_true,Ee,fA,decide_eq_false hc,kL c 2147483629 (by omega),eM,eP]
   show hI [0] (((bj _ _ _) [some (deck (cs'++[c]) m (k+1:Nat)),some (I b),some (I m),some (I (k+1:Nat)),none]).bind _)=_
   rw[e2,bB]
   show hI [0] ((af _ _) [some (deck cs' m (k+1:Nat)),some (I b),some (I (m+c % 2147483629)),some (I (k+1:Nat)),some (I c)])=_
   rw[t1 _ _ cs'];rfl
end Mp
namespace Mp
open PySem L2 Tw
theorem Gx (a b:Option OV):∀(its:List Int) (m:Int) (x:Option OV),0<=m->m<2147483629->∃m' x',iH (gN 3)
   (af (aZ [] (ae eN (aC dU (ae bI (ae bI (ae gv (ac 2) (eC (.int 69621))) (ae eN (aC dU (ac 3)) (eC (.int 2147483629)))) (eC (.int 157)))) (eC (.int 2147483587))) (gN 2)) aj) (il its) [a,b,some (I m),x]=.ok .nx [a,b,some (I m'),x']
 | [],m,x,_,_=>⟨m,x,rfl⟩
 | i::its,m,x,h0,h1=>by
  obtain⟨g1,g2⟩:=oU (i:=m * 69621+i % 2147483629+157) (j:=2147483587) (by omega);obtain⟨m',x',h⟩:=Gx a b its ((m * 69621+i % 2147483629+157) % 2147483587) (some (I i)) g1 (by omega);refine⟨m',x',?_⟩
  show iH _ _ (.int i::il its) _=_
  rw[iH];simp only[gN,putS,List.length_cons,List.length_nil,Nat.reduceAdd,Nat.reduceLT,if_true,bW,bB,List.set_cons_zero,List.set_cons_succ,af,aj,aZ,ae,aC,ac,eC,List.getElem?_cons_zero,List.getElem?_cons_succ,eM,kL _ 2147483629 (by omega),oR m 69621 (iA h0 (by omega)) (iA (by omega) (by omega)),eP,kL _ 2147483587 (by omega),aI,OV.val];exact h
theorem QZ (ns:List Int) (h:ns.length<=63):∃o,rj [.fz (.scr ns)]=.ok o []/\gQ o 0:=by
 have e0:rj [.fz (.scr ns)]=hI [] (BD [some (.fz (.scr ns)),none,none,none]):=kE rfl;rw[e0];unfold BD
 have cut:cutG ns none (some 63)=ns:=by
  unfold cutG;have e1:HT.sIx ns.length 0 none=0:=rfl
  have e2:HT.sIx ns.length ns.length (some 63)=ns.length:=by
   show min (63:Int).toNat ns.length=_
   omega
  rw[e1,e2,List.drop_zero,Nat.sub_zero,List.take_of_length_le (bS _)]
 have sl:k7 (.fz (.scr ns)) none (some 63)=some (ag (il ns)):=by
  show some (ag ((cutG ns none (some 63)).map .int))=_
  rw[cut]<;>rfl
 have li:xj (ag (il ns))=some (ag (il ns)):=by
  show(jg (aF (il ns))).map ag=_
  rw[qT]<;>rfl
 obtain⟨m',x',hL⟩:=Gx (some (.fz (.scr ns))) (some (.fz (.lst (il ns)))) ns 1085043 none (by omega) (by omega);have iw:fg (.fz (.lst (il ns)))=some (il ns):=rfl
 have val:(ag (il ns)).val=.lst (il ns):=by show Val.lst (OV.vals _)=_; rw[vt]
 have rv:qI (.fz (.lst (il ns)))=some (ag (il ns.reverse)):=by
  show some (ag (il ns).reverse)=_
  unfold il; rw[List.map_reverse]
 have nd:([(Val.str "rest"),.str "mixed",.str "draws"]:List Val).Nodup:=by
  simp[oP,oQ,oO]
 have gd:∀a b c:OV,qN [(.str "rest",a),(.str "mixed",b),(.str "draws",c)]=some (.dict [(.str "rest",a),(.str "mixed",b),(.str "draws",c)]):=fun a b c=>if_pos ⟨nd,by show 3<=15; decide⟩
 refine⟨deck ns.reverse m' 0,?_,ns.reverse,m',0,rfl,bS _,by rw[nY]; exact h⟩;simp only[af,bY,aq,aS,aC,cY,c7,c5,dR,ac,eC,bB,bW,List.getElem?_cons_zero,List.getElem?_cons_succ,sl,li,aI,val,OV.val,bR,putS,List.length_cons,List.length_nil,Nat.reduceAdd,Nat.reduceLT,if_true,Option.bind_some,List.set_cons_zero,List.set_cons_succ,cT,cy,iw];rw[hL];simp only[af,aj,aZ,ci,aX,fV,bj,bY,dL,cC,eZ,eE,gq,gm,ae,aC,c6,dD,ac,dY,cP,eC,dF,fh,fj,eB,dX,gh,ev_tup,dE,gy,dZ,d7,cQ,az,ah,aS,aq,de,cK,cY,c7,c5,dR,fq,gz,cE,cD,cb,bP,bF,bH,cZ,cW,dz,ev_fld,dN,bo,di,dW,eO,aI,bO,OV.fzv,OV.val,putS,bR,gN,cU,bB,bW,Option.bind_some,Option.map_some,List.getElem?_cons_zero,List.getElem?_cons_succ,List.length_cons,List.length_nil,Nat.reduceAdd,Nat.reduceLT,if_true,List.set_cons_zero,List.set_cons_succ,fK,fH,eM,eP,fU,fY,fZ,gb,fA,gj,fx,rv,gd];rfl
end Mp
namespace Mp
open PySem L2 Tw
theorem LR (S:Env) (vs:List Nat):db S (aA S vs) vs=S:=by
 refine mK fun i=>?_
 rw[pY (yI S vs),jo]
 by_cases h:i∈vs
 ·rw[if_pos h]
 ·rw[if_neg h,if_neg fun z=>h z.1]
theorem Fx {g:Gf} {c:Tf} {js:List Nat} {a:Ef} {vs:List Nat} {S0:Env} (p:Val->Bool) (y:Val->Val):∀(its:List Val),
  (∀x∈its,∃S1 S2,g x S0=some S1/\c S1=.ok (p x) S2/\aA S2 vs=S0/\(p x=true->∃o S3,a S2=.ok o S3/\aI js o=some (y x)/\aA S3 vs=S0))->b9 g c js a vs its S0=.ok ((its.filter p).map y) S0
 | [],_=>rfl
 | x :: its, h => by
  obtain⟨S1,S2,h1,h2,h3,h4⟩:=h x (ao ..)
  have r:=Fx p y its fun z hz=>h z (aE _ hz)
  rw[b9,h1,bW,bB,h2,bB]
  cases e:p x with
  | false =>
   rw[jL (by rw[e]; decide)]
   show b9 g c js a vs its (aA S2 vs)=_
   rw[h3,r]
  | true =>
   obtain⟨o,S3,h5,h6,h7⟩:=h4 e;rw[jK e]
   show(a S2).bind _=_
   rw[h5,bB,h6,bW,bB,h7,r,bB]<;>rfl
theorem Gs {it:Af} {g:Gf} {c:Tf} {js:List Nat} {a:Ef} {vs:List Nat} {S S1:Env} {its:List Val} (p:Val->Bool) (y:Val->Val) (hi:it S=.ok its S1)
  (h:∀x∈its,∃S2 S3,g x (aA S1 vs)=some S2/\c S2=.ok (p x) S3/\aA S3 vs=aA S1 vs/\(p x=true->∃o S4,a S3=.ok o S4/\aI js o=some (y x)/\aA S4 vs=aA S1 vs)):cu it g c js a vs S=.ok (ag ((its.filter p).map y)) S1:=by
 unfold cu;rw[hi,bB,Fx p y its h]
 show Out.ok _ (db S1 (aA S1 vs) vs)=_
 rw[LR]
theorem Qw {α:Type} (xs:List α):xs.filter (fun _=>true)=xs:=List.filter_eq_self.mpr fun _ _=>rfl
theorem QP {it:Af} {g:Gf} {js:List Nat} {a:Ef} {vs:List Nat} {S S1:Env} {its:List Val} (y:Val->Val) (hi:it S=.ok its S1)
  (h:∀x∈its,∃S2 o S4,g x (aA S1 vs)=some S2/\aA S2 vs=aA S1 vs/\a S2=.ok o S4/\aI js o=some (y x)/\aA S4 vs=aA S1 vs):cu it g bP js a vs S=.ok (ag (its.map y)) S1:=by
 have z:=Gs (c:=bP) (js:=js) (a:=a) (fun _=>true) y hi fun x hx=>by
  obtain⟨S2,o,S4,h1,h2,h3,h4,h5⟩:=h x hx;exact⟨S2,S2,h1,rfl,h2,fun _=>⟨o,S4,h3,h4,h5⟩⟩
 rw[Qw] at z;exact z
theorem mS (xs:List Val):(ag xs).val=.lst xs:=by show Val.lst (OV.vals _)=_; rw[vt]
theorem mr (xs:List Val):dC (ag xs)=some xs:=qT xs
theorem GN:∀bs:List Bool,lf (bs.map .bool)=some bs
 | []=>rfl
 | b::bs=>by
  show(lf (bs.map .bool)).bind _=_
  rw[GN bs]<;>rfl
theorem Bu (bs:List Bool):jU (ag (bs.map .bool))=some (.fz (.bool (bs.all id))):=by
 unfold jU;rw[mr,du,GN]<;>rfl
theorem mU (xs:List Val):g9 (ag xs)=some (.fz (.tup xs)):=by
 show(dC (ag xs)).map _=_
 rw[mr]<;>rfl
theorem FX (i:Int):rq [.fz (.int i)]=.ok (.fz (.bool true)) []:=by
 have e0:rq [.fz (.int i)]=hI [] (BG [some (.fz (.int i))]):=kE rfl;rw[e0];unfold BG;have e1:jD "int" (.fz (.int i))=some (.fz (.bool true)):=rfl;have e2:jD "bool" (.fz (.int i))=some (.fz (.bool false)):=rfl;simp only[af,aj,aZ,ci,aX,fV,bj,bY,dL,cC,eZ,eE,gq,gm,ae,aC,c6,dD,ac,dY,cP,eC,dF,fh,fj,eB,dX,gh,ev_tup,dE,gy,dZ,d7,cQ,az,ah,aS,aq,de,cK,cY,c7,c5,dR,fq,gz,cE,cD,cb,bP,bF,bH,cZ,cW,dz,ev_fld,dN,bo,di,dW,eO,aI,bO,OV.fzv,OV.val,putS,bR,gN,cU,bB,bW,Option.bind_some,Option.map_some,List.getElem?_cons_zero,List.getElem?_cons_succ,List.length_cons,List.length_nil,Nat.reduceAdd,Nat.reduceLT,if_true,List.set_cons_zero,List.set_cons_succ,fK,fH,eM,eP,fU,fY,fZ,gb,fA,gj,fx,e1,e2];rfl
theorem FY (n i:Int):mM [.fz (.int n),.fz (.int i)]=.ok (.fz (.bool (decide (0<=i) && decide (i<n)))) []:=by
 have e0:mM [.fz (.int n),.fz (.int i)]=hI [] (BH [some (.fz (.int n)),some (.fz (.int i))]):=kE rfl;rw[e0];unfold BH;simp only[af,aj,aZ,ci,aX,fV,bj,bY,dL,cC,eZ,eE,gq,gm,ae,aC,c6,dD,ac,dY,cP,eC,dF,fh,fj,eB,dX,gh,ev_tup,dE,gy,dZ,d7,cQ,az,ah,aS,aq,de,cK,cY,c7,c5,dR,fq,gz,cE,cD,cb,bP,bF,bH,cZ,cW,dz,ev_fld,dN,bo,di,dW,eO,aI,bO,OV.fzv,OV.val,putS,bR,gN,cU,bB,bW,Option.bind_some,Option.map_some,List.getElem?_cons_zero,List.getElem?_cons_succ,List.length_cons,List.length_nil,Nat.reduceAdd,Nat.reduceLT,if_true,List.set_cons_zero,List.set_cons_succ,fK,fH,eM,eP,fU,fY,fZ,gb,fA,gj,fx,FX,jy,ke,List.map_nil]
 by_cases h:0<=i
 ·simp only[h,decide_true,Bool.true_and,af,aj,aZ,ci,aX,fV,bj,bY,dL,cC,eZ,eE,gq,gm,ae,aC,c6,dD,ac,dY,cP,eC,dF,fh,fj,eB,dX,gh,ev_tup,dE,gy,dZ,d7,cQ,az,ah,aS,aq,de,cK,cY,c7,c5,dR,fq,gz,cE,cD,cb,bP,bF,bH,cZ,cW,dz,ev_fld,dN,bo,di,dW,eO,aI,bO,OV.fzv,OV.val,putS,bR,gN,cU,bB,bW,Option.bind_some,Option.map_some,List.getElem?_cons_zero,List.getElem?_cons_succ,List.length_cons,List.length_nil,Nat.reduceAdd,Nat.reduceLT,if_true,List.set_cons_zero,List.set_cons_succ,fK,fH,eM,eP,fU,fY,fZ,gb,fA,gj,fx];rfl
 ·simp only[h,decide_false,Bool.false_and,af,aj,aZ,ci,aX,fV,bj,bY,dL,cC,eZ,eE,gq,gm,ae,aC,c6,dD,ac,dY,cP,eC,dF,fh,fj,eB,dX,gh,ev_tup,dE,gy,dZ,d7,cQ,az,ah,aS,aq,de,cK,cY,c7,c5,dR,fq,gz,cE,cD,cb,bP,bF,bH,cZ,cW,dz,ev_fld,dN,bo,di,dW,eO,aI,bO,OV.fzv,OV.val,putS,bR,gN,cU,bB,bW,Option.bind_some,Option.map_some,List.getElem?_cons_zero,List.getElem?_cons_succ,List.length_cons,List.length_nil,Nat.reduceAdd,Nat.reduceLT,if_true,List.set_cons_zero,List.set_cons_succ,fK,fH,eM,eP,fU,fY,fZ,gb,fA,gj,fx];rfl
end Mp
namespace Mp
open PySem L2 Tw
theorem xA {it:Af} {g:Gf} {js:List Nat} {a:Ef} {vs:List Nat} {S S1:Env} {its:List Val} (y:Val->Val) (hi:it S=.ok its S1)
  (h:∀x∈its,∃S2 o,g x (aA S1 vs)=some S2/\aA S2 vs=aA S1 vs/\a S2=.ok o S2/\aI js o=some (y x)):cu it g bP js a vs S=.ok (ag (its.map y)) S1:=QP y hi fun x hx=>let ⟨S2,o,h1,h2,h3,h4⟩:=h x hx; ⟨S2,o,S2,h1,h2,h3,h4,h2⟩
def ul (r:Out OV) (x:Val):Bool:=match r with
 | .ok (.fz y) []=>decide (y=x)
 | _=>false
theorem AJ {r:Out OV} {x:Val} (h:ul r x=true):r=.ok (.fz x) []:=by
 unfold ul at h;split at h
 ·rw[of_decide_eq_true h]
 ·cases h
theorem wg (ks:List (Option Nat)) (S:Env):jy ks [] S=S:=by
 cases ks with
 | nil=>rfl
 | cons k ks=>cases k<;>rfl
def yb (n:Int):Val->Val
 | .int i=>.bool (decide (0<=i) && decide (i<n))
 | _=>.none
def below (n:Int) (is:List Int):Bool:=is.all fun i=>decide (0<=i) && decide (i<n)
theorem N3 (n:Int) (is:List Int):(il is).map (yb n)=(is.map fun i=>decide (0<=i) && decide (i<n)).map .bool:=by
 unfold il; rw[cF,cF]<;>rfl
theorem GW (n:Int) (is:List Int):jU (ag ((il is).map (yb n)))=some (.fz (.bool (below n is))):=by
 rw[N3,Bu];unfold below;rw[List.all_map]<;>rfl
theorem Ol (xs:List Val):jT (.fz (.tup xs))=some (.fz (.int xs.length)):=rfl
theorem FW (xs:List Val):jD "tuple" (.fz (.tup xs))=some (.fz (.bool true)):=rfl
theorem g7 (is:List Int):(il is).length=is.length:=aT ..
def pv (p:Int×Int):Val:=.tup [.int p.1,.int p.2]
def fX (n:Int) (p:Int×Int):Bool:=below n [p.1,p.2] && !(p.1==p.2)
theorem Pn (n:Int) (p:Int×Int):rn [.fz (.int n),.fz (pv p)]=.ok (.fz (.bool (fX n p))) []:=by
 have e0:rn [.fz (.int n),.fz (pv p)]=hI [] (BF [some (.fz (.int n)),some (.fz (.tup (il [p.1,p.2]))),none]):=kE rfl;rw[e0];unfold BF
 have lc:=xA (it:=cy (ac 1)) (g:=gN 2) (js:=[]) (a:=bo mM (aq [0] (ac 0) (aq [2] (ac 2) aS)) [none,none] []) (vs:=[2]) (S:=[some (.fz (.int n)),some (.fz (.tup (il [p.1,p.2]))),none]) (its:=il [p.1,p.2]) (yb n) rfl fun x hx=>by
  obtain⟨i,_,rfl⟩:=aW.mp hx;refine⟨[some (.fz (.int n)),some (.fz (.tup (il [p.1,p.2]))),some (.fz (.int i))],.fz (yb n (.int i)),rfl,rfl,?_,rfl⟩;simp only[af,aj,aZ,ci,aX,fV,bj,bY,dL,cC,eZ,eE,gq,gm,ae,aC,c6,dD,ac,dY,cP,eC,dF,fh,fj,eB,dX,gh,ev_tup,dE,gy,dZ,d7,cQ,az,ah,aS,aq,de,cK,cY,c7,c5,dR,fq,gz,cE,cD,cb,bP,bF,bH,cZ,cW,dz,ev_fld,dN,bo,di,dW,eO,aI,bO,OV.fzv,OV.val,putS,bR,gN,cU,bB,bW,Option.bind_some,Option.map_some,List.getElem?_cons_zero,List.getElem?_cons_succ,List.length_cons,List.length_nil,Nat.reduceAdd,Nat.reduceLT,if_true,List.set_cons_zero,List.set_cons_succ,fK,fH,eM,eP,fU,fY,fZ,gb,fA,gj,fx,FY,wg];rfl
 have i0:aP (.fz (.tup (il [p.1,p.2]))) (.fz (.int 0))=some (.fz (.int p.1)):=rfl;have i1:aP (.fz (.tup (il [p.1,p.2]))) (.fz (.int 1))=some (.fz (.int p.2)):=rfl;have l2:(((il [p.1,p.2]).length:Nat):Int)=2:=rfl;simp only[af,bj,cD,cb,aX,eB,aC,ae,ac,eC,bB,bW,List.getElem?_cons_zero,List.getElem?_cons_succ,FW,cU,Ol,fx,l2,lc,GW,i0,i1];unfold fX
 cases below n [p.1,p.2]<;>rfl
end Mp
namespace Mp
open PySem L2 Tw
def ap (ps:List (Int×Int)):List Val:=ps.map pv
def fe (p q:Int×Int):Bool:=HT.lexLt [p.1,p.2] [q.1,q.2]
def pW (ps:List (Int×Int)):Bool:=(ps.zip (ps.drop 1)).all fun q=>fe q.1 q.2
def yl:Val->Val
 | .tup [.tup [.int a,.int b],.tup [.int c,.int d]]=>.bool (HT.lexLt [a,b] [c,d])
 | _=>.none
theorem Ht (xs ys:List (Int×Int)):i4 (ap xs) (ap ys)=(xs.zip ys).map fun q=>Val.tup [pv q.1,pv q.2]:=by
 induction xs generalizing ys with
 | nil=>cases ys<;>rfl
 | cons x xs ih => cases ys with
  | nil=>rfl
  | cons y ys =>
   show Val.tup [pv x,pv y]::i4 (ap xs) (ap ys)=_
   rw[ih]<;>rfl
theorem Q6 {α:Type} (xs:List α):cutG xs (some 1) none=xs.drop 1:=by
 unfold cutG;have e2:HT.sIx xs.length xs.length none=xs.length:=rfl
 cases xs with
 | nil=>rfl
 | cons x xs =>
  have e1:HT.sIx (x::xs).length 0 (some 1)=1:=by
   show min (1:Int).toNat (x::xs).length=1
   rw[cR]
   show min 1 (xs.length+1)=1
   omega
  rw[e1,e2,List.take_of_length_le (by rw[List.length_drop]; exact bS _)]
theorem Oa (p q:Int×Int):mz (.fz (pv p)) (.fz (pv q))=some (.fz (.bool (fe p q))):=rfl
theorem QV (ps:List (Int×Int)):vh [.fz (.tup (ap ps))]=.ok (.fz (.bool (pW ps))) []:=by
 have e0:vh [.fz (.tup (ap ps))]=hI [] (BI [some (.fz (.tup (ap ps))),none,none]):=kE rfl;rw[e0];unfold BI
 have sl:k7 (.fz (.tup (ap ps))) (some 1) none=some (.fz (.tup (ap (ps.drop 1)))):=by
  show some (OV.fz (.tup (cutG (ap ps) (some 1) none)))=_
  rw[Q6];unfold ap; rw[List.map_drop]
 have hi:kT (ah [0] (ac 0) (ah [] (cY (ac 0) (c5 (eC (.int 1))) c7) az)) [some (.fz (.tup (ap ps))),none,none]=.ok ((ps.zip (ps.drop 1)).map fun q=>Val.tup [pv q.1,pv q.2]) [some (.fz (.tup (ap ps))),none,none]:=by
  simp only[af,aj,aZ,ci,aX,fV,bj,bY,dL,cC,eZ,eE,gq,gm,ae,aC,c6,dD,ac,dY,cP,eC,dF,fh,fj,eB,dX,gh,ev_tup,dE,gy,dZ,d7,cQ,az,ah,aS,aq,de,cK,cY,c7,c5,dR,fq,gz,cE,cD,cb,bP,bF,bH,cZ,cW,dz,ev_fld,dN,bo,di,dW,eO,aI,bO,OV.fzv,OV.val,putS,bR,gN,cU,bB,bW,Option.bind_some,Option.map_some,List.getElem?_cons_zero,List.getElem?_cons_succ,List.length_cons,List.length_nil,Nat.reduceAdd,Nat.reduceLT,if_true,List.set_cons_zero,List.set_cons_succ,fK,fH,eM,eP,fU,fY,fZ,gb,fA,gj,fx,cT,cy,uj,kT,dP,sl];rw[←Ht]<;>rfl
 have lc:=xA (g:=gT 2 (dS (gN 1) (dS (gN 2) jc))) (js:=[]) (a:=ae mz (ac 1) (ac 2)) (vs:=[1,2]) yl hi fun x hx=>by
  obtain⟨q,_,rfl⟩:=aW.mp hx;refine⟨[some (.fz (.tup (ap ps))),some (.fz (pv q.1)),some (.fz (pv q.2))],.fz (.bool (fe q.1 q.2)),rfl,rfl,?_,rfl⟩;simp only[af,aj,aZ,ci,aX,fV,bj,bY,dL,cC,eZ,eE,gq,gm,ae,aC,c6,dD,ac,dY,cP,eC,dF,fh,fj,eB,dX,gh,ev_tup,dE,gy,dZ,d7,cQ,az,ah,aS,aq,de,cK,cY,c7,c5,dR,fq,gz,cE,cD,cb,bP,bF,bH,cZ,cW,dz,ev_fld,dN,bo,di,dW,eO,aI,bO,OV.fzv,OV.val,putS,bR,gN,cU,bB,bW,Option.bind_some,Option.map_some,List.getElem?_cons_zero,List.getElem?_cons_succ,List.length_cons,List.length_nil,Nat.reduceAdd,Nat.reduceLT,if_true,List.set_cons_zero,List.set_cons_succ,fK,fH,eM,eP,fU,fY,fZ,gb,fA,gj,fx,Oa]
 have al:jU (ag (((ps.zip (ps.drop 1)).map fun q=>Val.tup [pv q.1,pv q.2]).map yl))=some (.fz (.bool (pW ps))):=by
  have e:((ps.zip (ps.drop 1)).map fun q=>Val.tup [pv q.1,pv q.2]).map yl=((ps.zip (ps.drop 1)).map fun q=>fe q.1 q.2).map .bool:=by rw[cF,cF]<;>rfl
  rw[e,Bu,List.all_map]<;>rfl
 simp only[af,aX,aC,lc,bB,bW,al];rfl
def kJ (n:Int) (ps:List (Int×Int)):Bool:=decide (1<=n) && ps.all (fX n) && pW ps
def i8 (n:Int) (ps:List (Int×Int)):OV:=.obj "Policy" [("users",.fz (.int n)),("pairs",.fz (.tup (ap ps)))]
def yp (n:Int):Val->Val
 | .tup [.int a,.int b]=>.bool (fX n (a,b))
 | _=>.none
theorem An:("users":Str) ≠ "pairs":=by decide +kernel
theorem Mh (n:Int) (ps:List (Int×Int)) (h:kJ n ps=true):ku [.obj "Policy" [],.fz (.int n),.fz (.tup (ap ps))]=.ok (.fz .none) [some (i8 n ps)]:=by
 unfold kJ at h;rw[bN,bN] at h;obtain⟨⟨h1,h2⟩,h3⟩:=h;have h1:=of_decide_eq_true h1;have e0:ku [.obj "Policy" [],.fz (.int n),.fz (.tup (ap ps))]=hI [0] (BJ [some (.obj "Policy" []),some (.fz (.int n)),some (.fz (.tup (ap ps))),none]):=kE rfl;rw[e0];unfold BJ
 have lc:=xA (it:=cy (ac 2)) (g:=gN 3) (js:=[]) (a:=bo rn (aq [1] (ac 1) (aq [3] (ac 3) aS)) [none,none] []) (vs:=[3]) (S:=[some (.obj "Policy" []),some (.fz (.int n)),some (.fz (.tup (ap ps))),none]) (its:=ap ps) (yp n) rfl fun x hx=>by
  obtain⟨p,_,rfl⟩:=aW.mp hx;refine⟨[some (.obj "Policy" []),some (.fz (.int n)),some (.fz (.tup (ap ps))),some (.fz (pv p))],.fz (.bool (fX n p)),rfl,rfl,?_,rfl⟩;simp only[af,aj,aZ,ci,aX,fV,bj,bY,dL,cC,eZ,eE,gq,gm,ae,aC,c6,dD,ac,dY,cP,eC,dF,fh,fj,eB,dX,gh,ev_tup,dE,gy,dZ,d7,cQ,az,ah,aS,aq,de,cK,cY,c7,c5,dR,fq,gz,cE,cD,cb,bP,bF,bH,cZ,cW,dz,ev_fld,dN,bo,di,dW,eO,aI,bO,OV.fzv,OV.val,putS,bR,gN,cU,bB,bW,Option.bind_some,Option.map_some,List.getElem?_cons_zero,List.getElem?_cons_succ,List.length_cons,List.length_nil,Nat.reduceAdd,Nat.reduceLT,if_true,List.set_cons_zero,List.set_cons_succ,fK,fH,eM,eP,fU,fY,fZ,gb,fA,gj,fx,Pn,wg]
 have al:jU (ag ((ap ps).map (yp n)))=some (.fz (.bool true)):=by
  have e:(ap ps).map (yp n)=(ps.map (fX n)).map .bool:=by unfold ap; rw[cF,cF]<;>rfl
  rw[e,Bu,List.all_map,show ps.all (id∘fX n)=ps.all (fX n) from rfl,h2]
 have lt1:decide (n<1)=false:=by simp; omega
 have s1:gW ([]:List (Str×OV)) "users" (.fz (.int n))=[(("users":Str),OV.fz (.int n))]:=rfl
 have s2:gW [(("users":Str),OV.fz (.int n))] "pairs" (.fz (.tup (ap ps)))=[(("users":Str),OV.fz (.int n)),(("pairs":Str),OV.fz (.tup (ap ps)))]:=by
  simp only[gW,An,if_false]
 simp only[af,aj,aZ,ci,aX,fV,bj,bY,dL,cC,eZ,eE,gq,gm,ae,aC,c6,dD,ac,dY,cP,eC,dF,fh,fj,eB,dX,gh,ev_tup,dE,gy,dZ,d7,cQ,az,ah,aS,aq,de,cK,cY,c7,c5,dR,fq,gz,cE,cD,cb,bP,bF,bH,cZ,cW,dz,ev_fld,dN,bo,di,dW,eO,aI,bO,OV.fzv,OV.val,putS,bR,gN,cU,bB,bW,Option.bind_some,Option.map_some,List.getElem?_cons_zero,List.getElem?_cons_succ,List.length_cons,List.length_nil,Nat.reduceAdd,Nat.reduceLT,if_true,List.set_cons_zero,List.set_cons_succ,fK,fH,eM,eP,fU,fY,fZ,gb,fA,gj,fx,FX,wg,lt1,FW,lc,al,QV,h3,Ap,s1,s2,Bool.not_true,Bool.not_false];rfl
end Mp
namespace Mp
open PySem L2 Tw
abbrev RL:=List (Int×Str)
def cn (c:Nat):Str:=⟨#[c]⟩
theorem lookup_mem {k:Int}:∀{L:RL},(L.lookup k).isSome=decide (k∈L.map (·.1))
 | []=>rfl
 | (j, s) :: L => by
  rw[jX]
  by_cases e:k=j
  ·subst e;rw[beq_self_eq_true];simp
  ·rw[show(k==j)=false by simpa using e]
   show(L.lookup k).isSome=_
   rw[lookup_mem];simp[e]
theorem RK (s t:Str) (h:s.length+t.length<bL):bI (.fz (.str s)) (.fz (.str t))=some (.fz (.str (s++t))):=by
 show(none:Option OV).or ((if wP s t=true then some (vS (s++t)) else none).or _)=_
 rw[if_pos (show wP s t=true from decide_eq_true h)]<;>rfl
theorem wm:∀(n:Nat) (L:List Int),L.Nodup->(∀a∈L,0<=a/\a<n)->L.length<=n
 | 0,[],_,_=>bS _
 | 0,a::_,_,h=>by have:=h a (ao ..); omega
 | n + 1, L, nd, h => by
  by_cases m:(n:Int)∈L
  ·have r:=wm n (L.erase n) (nd.erase _) fun a ha=>by
    have e:=(List.Nodup.mem_erase_iff nd).mp ha;have:=h a e.2;have:=e.1;omega
   rw[List.length_erase_of_mem m] at r;omega
  ·have r:=wm n L nd fun a ha=>by
    have:=h a ha
    have e:a≠n:=fun z=>m (z▸ha)
    omega
   omega
def m8 (rs:List (List Int)):List Val:=rs.map fun r=>.tup (il r)
end Mp
namespace Mp
open PySem L2 Tw
end Mp
namespace Mp
open PySem L2 Tw
theorem nA (n:Nat) (is:List Int):br (n+1) (.tup (il is))=true:=by
 show(il is).all (br n)=true
 rw[dv];intro x hx;obtain⟨i,_,rfl⟩:=aW.mp hx
 cases n<;>rfl
def sl (ss:List Str):List Val:=ss.map .str
end Mp
namespace Mp
open PySem L2 Tw
theorem gQ.mono {o:OV} {d e:Nat} (h:gQ o d) (l:d<=e):gQ o e:=let ⟨cs,m,k,h1,h2,h3⟩:=h; ⟨cs,m,k,h1,by omega,h3⟩
theorem Eb (ks:List (Option Nat)) (o:Option OV) (S:Env):jy (ke (some 0::ks) [0]) [o] S=S.set 0 o:=rfl
theorem Fy {P:Val->Prop} {g:Gf} {c:Tf} {js:List Nat} {a:Ef} {vs:List Nat} (E:OV->Env) (k:Nat) (y:Val->Val):∀(its:List Val),
  (∀x∈its,∀o e,gQ o e->e+k<=900000->∃S1 b S2 o',g x (E o)=some S1/\c S1=.ok b S2/\(b=true->∃oo,a S2=.ok oo S2/\aI js oo=some (y x) )/\aA S2 vs=E o'/\gQ o' (e+k)/\(b=true->P x)) ->
  ∀o d,gQ o d->d+its.length * k<=900000->∃(zs:List Val) (o':OV),b9 g c js a vs its (E o)=.ok (zs.map y) (E o')/\zs.Sublist its/\(∀z∈zs,P z)/\gQ o' (d+its.length * k)
 | [],_,o,d,h,_=>⟨[],o,rfl,List.Sublist.refl _,fun _ z=>(nomatch z),by rw[List.length_nil,Nat.zero_mul]; exact h⟩
 | x :: its, h, o, d, ho, hd => by
  have e1:(x::its).length * k=its.length * k+k:=by rw[cR,Nat.add_mul,Nat.one_mul]
  rw[e1] at hd ⊢;obtain⟨S1,b,S2,o',h1,h2,h3,h5,h6,h7⟩:=h x (ao ..) o d ho (by omega);obtain⟨zs,o2,r1,r2,r3,r4⟩:=Fy E k y its (fun z hz=>h z (aE _ hz)) o' (d+k) h6 (by omega)
  have e2:d+(its.length * k+k)=d+k+its.length * k:=by omega
  rw[e2]
  cases b with
  | false =>
   refine⟨zs,o2,?_,r2.cons _,r3,r4⟩;rw[b9,h1,bW,bB,h2,bB]
   show b9 g c js a vs its (aA S2 vs)=_
   rw[h5,r1]
  | true =>
   obtain⟨oo,h8,h9⟩:=h3 rfl;refine⟨x::zs,o2,?_,r2.cons₂ _,fun z hz=>?_,r4⟩
   ·rw[b9,h1,bW,bB,h2,bB]
    show(a S2).bind _=_
    rw[h8,bB,h9,bW,bB,h5,r1]<;>rfl
   ·rcases aU.mp hz with e|hz
    ·rw[e]; exact h7 rfl
    ·exact r3 z hz
theorem QO {it:Af} {g:Gf} {c:Tf} {js:List Nat} {a:Ef} {vs:List Nat} {S S1 S2:Env} {its ys:List Val} (hi:it S=.ok its S1) (h:b9 g c js a vs its (aA S1 vs)=.ok ys S2):cu it g c js a vs S=.ok (ag ys) (db S1 S2 vs):=by
 unfold cu;rw[hi,bB,h]<;>rfl
end Mp
namespace Mp
open PySem L2 Tw
def bg (lo:Int):Nat->List Int
 | 0=>[]
 | n+1=>lo::bg (lo+1) n
theorem vX:∀(n:Nat) (lo:Int),i7 lo 1 n=il (bg lo n)
 | 0,_=>rfl
 | n+1,lo=>by
  show Val.int lo::i7 (lo+1) 1 n=Val.int lo::il (bg (lo+1) n)
  rw[vX n]
theorem dQ:∀(n:Nat) (lo:Int),(bg lo n).length=n
 | 0,_=>rfl
 | n+1,lo=>congrArg (·+1) (dQ n (lo+1))
theorem mw:∀(n:Nat) (lo a:Int),a∈bg lo n->lo<=a/\a<lo+n
 | 0,_,_,h=>nomatch h
 | n + 1, lo, a, h => by
  rcases aU.mp h with e|h
  ·omega
  ·have:=mw n (lo+1) a h;omega
theorem ur:∀(n:Nat) (lo:Int),(bg lo n).Pairwise (·<·)
 | 0,_=>.nil
 | n+1,lo=>.cons (fun a h=>by have:=mw n (lo+1) a h; omega) (ur n (lo+1))
theorem zL:∀(ps:List (Int×Int)),ps.Pairwise (fun p q=>fe p q=true)->pW ps=true
 | [],_=>rfl
 | [_],_=>rfl
 | p::q::ps,h=>by
  have r:=zL (q::ps) (jI.mp h).2;have e:=(jI.mp h).1 q (ao ..);unfold pW at r ⊢
  show(fe p q && ((q::ps).zip ((q::ps).drop 1)).all fun q=>fe q.1 q.2)=true
  rw[e,r]<;>rfl
theorem Oe {p q:Int×Int} (h:p.1<q.1):fe p q=true:=by
 show(if p.1=q.1 then _ else decide (p.1<q.1))=true
 rw[if_neg (by omega),decide_eq_true h]
theorem Oc {a b c:Int} (h:b<c):fe (a,b) (a,c)=true:=by
 show(if a=a then (if b=c then HT.lexLt [] [] else decide (b<c)) else _)=true
 rw[if_pos rfl,if_neg (by omega),decide_eq_true h]
theorem zx {n:Nat} (h:n<=100):j4 (n:Int)=true:=by
 unfold j4;rw[bN];exact⟨decide_eq_true (by omega),decide_eq_true (by omega)⟩
theorem k9 {n:Nat} (h:n<=100):fB [.int (n:Int)]=some (il (bg 0 n)):=by
 show(if j4 (n:Int)=true then some (i7 0 1 ((n:Int)).toNat) else none)=_
 rw[if_pos (zx h),pD,vX]
end Mp
namespace Mp
open PySem L2 Tw
def AT (n:Nat) (lo:Int) (ps:List (Int×Int)):Prop:=(∀q∈ps,fX n q=true/\q.1<lo)/\ps.Pairwise (fun p q=>fe p q=true)
end Mp
namespace Mp
open PySem L2 Tw
def inR (b:Int) (is:List Int):Prop:=∀i∈is,0<=i/\i<b
end Mp
namespace Mp
open PySem L2 Tw
theorem QH (a b:Str):gw (.fz (.str a)) (.fz (.str b))=some (.fz (.bool (decide (a=b)))):=by
 unfold gw;rw[if_pos ⟨rfl,rfl⟩]<;>rfl
def bC (n:Int) (ps:List (Int×Int)):Val:=.obj "Policy" [("users",.int n),("pairs",.tup (ap ps))]
theorem Er (n:Int) (ps:List (Int×Int)):pc "users" (.fz (bC n ps))=some (.fz (.int n)):=by
 show(eK [(("users":Str),Val.int n),("pairs",.tup (ap ps))] "users").map OV.fz=_
 simp only[eK,An,if_true,if_false,Option.map_some]
theorem Ab (n:Int) (ps:List (Int×Int)):pc "pairs" (.fz (bC n ps))=some (.fz (.tup (ap ps))):=by
 show(eK [(("users":Str),Val.int n),("pairs",.tup (ap ps))] "pairs").map OV.fz=_
 simp only[eK,An,if_true,if_false,Option.map_some]
def ai (ps:List (Int×Int)) (u:Int):List Int:=sI (u::(ps.filter fun q=>q.1==u).map (·.2))
def ph (u:Int):Val->Bool
 | .tup [.int a,.int _]=>a==u
 | _=>false
def yh:Val->Val
 | .tup [.int _,.int b]=>.int b
 | _=>.none
theorem w9:∀ns:List Int,gu (il ns)=some ns
 | []=>rfl
 | n::ns=>by
  show(gu (il ns)).bind _=_
  rw[w9 ns]<;>rfl
theorem K6 (ns:List Int):xi (ag (il ns))=some (ag (il (sI ns))):=by
 have e:uv (ag (il ns))=some (ag (il (sI ns))):=by
  unfold uv;rw[mr,du,w9]<;>rfl
 unfold xi;rw[e]<;>rfl
theorem Rq (xs ys:List Val) (h:xs.length+ys.length<1000):bI (ag xs) (ag ys)=some (ag (xs++ys)):=by
 show(none:Option OV).or ((none:Option OV).or ((mD (ag xs) (ag ys)).or (mE (ag xs) (ag ys))))=_
 have e1:mD (ag xs) (ag ys)=none:=rfl
 have e2:mE (ag xs) (ag ys)=some (ag (xs++ys)):=by
  unfold mE;rw[mr,mr,du,du,if_pos (by unfold bL; omega)]
 rw[e1,e2]<;>rfl
theorem Mm (ps:List (Int×Int)) (u:Int):((ap ps).filter (ph u)).map yh=il ((ps.filter fun q=>q.1==u).map (·.2)):=by
 induction ps with
 | nil=>rfl
 | cons p ps ih =>
  show(((pv p)::ap ps).filter (ph u)).map yh=_
  by_cases e:p.1==u
  ·rw[jK (show ph u (pv p)=true from e),jK (p:=fun q:Int×Int=>q.1==u) e,bU,bU,ih]<;>rfl
  ·rw[jL (show ¬ph u (pv p)=true from e),jL (p:=fun q:Int×Int=>q.1==u) e,ih]
theorem AR (n:Int) (ps:List (Int×Int)) (u:Int) (hl:ps.length<900):mN [.fz (bC n ps),.fz (.int u)]=.ok (.fz (.tup (il (ai ps u)))) []:=by
 have e0:mN [.fz (bC n ps),.fz (.int u)]=hI [] (BK [some (.fz (bC n ps)),some (.fz (.int u)),none,none]):=kE rfl;rw[e0];unfold BK
 have hi:cy (jd "pairs" (ac 0)) [some (.fz (bC n ps)),some (.fz (.int u)),none,none]=.ok (ap ps) [some (.fz (bC n ps)),some (.fz (.int u)),none,none]:=by
  simp only[af,aj,aZ,ci,aX,fV,bj,bY,dL,cC,eZ,eE,gq,gm,ae,aC,c6,dD,ac,dY,cP,eC,dF,fh,fj,eB,dX,gh,ev_tup,dE,gy,dZ,d7,cQ,az,ah,aS,aq,de,cK,cY,c7,c5,dR,fq,gz,cE,cD,cb,bP,bF,bH,cZ,cW,dz,ev_fld,dN,bo,di,dW,eO,aI,bO,OV.fzv,OV.val,putS,bR,gN,cU,bB,bW,Option.bind_some,Option.map_some,List.getElem?_cons_zero,List.getElem?_cons_succ,List.length_cons,List.length_nil,Nat.reduceAdd,Nat.reduceLT,if_true,List.set_cons_zero,List.set_cons_succ,fK,fH,eM,eP,fU,fY,fZ,gb,fA,gj,fx,cT,cy,uj,kT,dP,Ab];rfl
 have lc:=Gs (it:=cy (jd "pairs" (ac 0))) (g:=gT 2 (dS (gN 2) (dS (gN 3) jc))) (c:=eB (ae gw (ac 2) (ac 1))) (js:=[3]) (a:=ac 3) (vs:=[2,3]) (ph u) yh hi fun x hx=>by
  obtain⟨q,_,rfl⟩:=aW.mp hx;refine⟨[some (.fz (bC n ps)),some (.fz (.int u)),some (.fz (.int q.1)),some (.fz (.int q.2))],[some (.fz (bC n ps)),some (.fz (.int u)),some (.fz (.int q.1)),some (.fz (.int q.2))],rfl,?_,rfl,fun _=>⟨.fz (.int q.2),[some (.fz (bC n ps)),some (.fz (.int u)),some (.fz (.int q.1)),some (.fz (.int q.2))],rfl,rfl,rfl⟩⟩;simp only[af,aj,aZ,ci,aX,fV,bj,bY,dL,cC,eZ,eE,gq,gm,ae,aC,c6,dD,ac,dY,cP,eC,dF,fh,fj,eB,dX,gh,ev_tup,dE,gy,dZ,d7,cQ,az,ah,aS,aq,de,cK,cY,c7,c5,dR,fq,gz,cE,cD,cb,bP,bF,bH,cZ,cW,dz,ev_fld,dN,bo,di,dW,eO,aI,bO,OV.fzv,OV.val,putS,bR,gN,cU,bB,bW,Option.bind_some,Option.map_some,List.getElem?_cons_zero,List.getElem?_cons_succ,List.length_cons,List.length_nil,Nat.reduceAdd,Nat.reduceLT,if_true,List.set_cons_zero,List.set_cons_succ,fK,fH,eM,eP,fU,fY,fZ,gb,fA,gj,fx];rfl
 rw[Mm] at lc;have l1:mB [.int u]=some (ag (il [u])):=rfl
 have ct:=Rq (il [u]) (il ((ps.filter fun q=>q.1==u).map (·.2))) (by
  rw[g7,g7,aT];have:=uY (fun q:Int×Int=>q.1==u) ps
  show 1+_<1000
  omega)
 have ea:il [u]++il ((ps.filter fun q=>q.1==u).map (·.2))=il (u::(ps.filter fun q=>q.1==u).map (·.2)):=rfl;rw[ea] at ct;simp only[af,aX,aC,ae,gh,c6,ah,az,ac,bB,bW,List.getElem?_cons_zero,List.getElem?_cons_succ,aI,OV.fzv,l1,lc,ct,K6,mU,bO];rfl
theorem Ag (n:Nat) (ps:List (Int×Int)):(ap ps).all (br (n+1))=true:=by
 rw[dv];intro x hx;obtain⟨q,_,rfl⟩:=aW.mp hx
 cases n<;>rfl
theorem CT (a b:Int):cJ (.int a) (.int b)=(a==b):=rfl
theorem Pr (neg:Bool) (k:Int) (is:List Int) {o:OV} (ho:o.val=.lst (il is)) (h1:mC neg (.fz (.int k)) o=none) (h2:pa neg (.fz (.int k)) o=none):cV neg (.fz (.int k)) o=some (.fz (.bool (decide (k∈is) !=neg))):=by
 have e2:o9 neg (.fz (.int k)) o=some (.fz (.bool (decide (k∈is) !=neg))):=by
  have e3:((il is).any fun e=>cJ e (.int k))=decide (k∈is):=by
   clear ho
   induction is with
   | nil=>rfl
   | cons p ps ih =>
    show(cJ (.int p) (.int k) || (il ps).any fun e=>cJ e (.int k))=_
    rw[ih,CT]
    by_cases h:p=k
    ·rw[h]; simp
    ·have h':¬k=p:=fun z=>h z.symm
     simp[h,h']
  have q:br 59 (.lst (il is))=true:=nA 58 is;unfold o9;rw[ho]
  cases neg with
  | false =>
   show(if br 60 (.int k)=true/\br 59 (.lst (il is))=true then some (vB ((il is).any fun e=>cJ e (.int k))) else none)=_
   rw[if_pos ⟨rfl,q⟩,e3]
   cases decide (k∈is)<;>rfl
  | true =>
   show(if br 60 (.int k)=true/\br 59 (.lst (il is))=true then some (vB (!(il is).any fun e=>cJ e (.int k))) else none)=_
   rw[if_pos ⟨rfl,q⟩,e3]
   cases decide (k∈is)<;>rfl
 unfold cV;rw[h1,h2,e2]<;>rfl
theorem EH {n:Nat} (hn:n<=4) {q:Int×Int} (h:fX n q=true):(0<=q.1/\q.1<(n:Int)/\0<=q.2/\q.2<(n:Int))/\kX q=true:=by
 unfold fX below at h;simp only[List.all_cons,List.all_nil,Bool.and_true,Bool.and_eq_true,decide_eq_true_eq] at h;refine⟨⟨h.1.1.1,h.1.1.2,h.1.2.1,h.1.2.2⟩,?_⟩;unfold kX;simp only[Bool.and_eq_true,decide_eq_true_eq];omega
theorem CY {qs:List (Int×Int)} (h:∀q∈qs,kX q=true) (q:Int×Int):q∈uP qs↔q∈qs:=by
 unfold uP
 constructor
 ·intro hq;obtain⟨c,hc,rfl⟩:=aW.mp hq;obtain⟨g,hg,rfl⟩:=aW.mp ((pQ _ _).mp hc);rw[xE (h g hg)];exact hg
 ·intro hq;exact aW.mpr ⟨pq q,(pQ _ _).mpr (aW.mpr ⟨q,hq,rfl⟩),xE (h q hq)⟩
theorem Od {p q:Int×Int} (hp:kX p=true) (hq:kX q=true) (h:pq p<pq q):fe p q=true:=by
 obtain⟨_,_,_⟩:=AN hp;obtain⟨_,_,_⟩:=AN hq;unfold pq at h;unfold fe
 show(if p.1=q.1 then (if p.2=q.2 then false else decide (p.2<q.2)) else decide (p.1<q.1))=true
 split
 ·split
  ·omega
  ·exact decide_eq_true (by omega)
 ·exact decide_eq_true (by omega)
theorem Jy {n:Nat} (h1:1<=n) (hn:n<=4) {qs:List (Int×Int)} (h:∀q∈qs,fX n q=true):kJ n (uP qs)=true/\∀q,q∈uP qs↔q∈qs:=by
 have hi:∀q∈qs,kX q=true:=fun q hq=>(EH hn (h q hq)).2
 refine⟨?_,CY hi⟩;unfold kJ;rw[bN,bN];refine⟨⟨decide_eq_true (by omega),dv.mpr fun q hq=>h q ((CY hi q).mp hq)⟩,zL _ ?_⟩;unfold uP;rw[nX];refine List.Pairwise.imp_of_mem (fun {a b} ha hb hab=>?_) (vw (qs.map pq));obtain⟨g,hg,rfl⟩:=aW.mp ((pQ _ _).mp ha);obtain⟨g',hg',rfl⟩:=aW.mp ((pQ _ _).mp hb);rw[xE (hi g hg),xE (hi g' hg')];exact Od (hi g hg) (hi g' hg') hab
theorem M8 {n:Int} {ps:List (Int×Int)} (h:kJ n ps=true):1<=n/\∀q∈ps,fX n q=true:=by
 unfold kJ at h;rw[bN,bN] at h;exact⟨of_decide_eq_true h.1.1,dv.mp h.1.2⟩
mutual
theorem yW:∀(x:Val) (n:Nat),br n x=true->cJ x x=true
 | .none,_,_=>rfl
 | .bool b,_,_=>by cases b<;>rfl
 | .int i,_,_=>beq_self_eq_true i
 | .str s,_,_=>decide_eq_true rfl
 | .tup xs,n,h=>by
  cases n with
  | zero=>cases h
  | succ n=>exact veqL_refl xs n (dv.mp h)
 | .lst xs,n,h=>by
  cases n with
  | zero=>cases h
  | succ n=>exact veqL_refl xs n (dv.mp h)
 | .dict _,n,h=>by cases n<;>cases h
 | .obj _ _,n,h=>by cases n<;>cases h
 | .scr _,n,h=>by cases n<;>cases h
theorem veqL_refl:∀(xs:List Val) (n:Nat),(∀x∈xs,br n x=true)->veqL xs xs=true
 | [],_,_=>rfl
 | x::xs,n,h=>by
  show(cJ x x && veqL xs xs)=true
  rw[yW x n (h x (ao ..)),veqL_refl xs n fun y hy=>h y (aE _ hy)]<;>rfl
end
theorem QI (x:Val) (h:br 60 x=true):gw (.fz x) (.fz x)=some (.fz (.bool true)):=by
 unfold gw
 show(if br 60 x=true/\br 60 x=true then some (vB (cJ x x)) else none)=_
 rw[if_pos ⟨h,h⟩,yW _ _ h]<;>rfl
theorem NH (x:Val) (h:br 60 x=true):cz (.fz x) (.fz x)=some (.fz (.bool false)):=by
 unfold cz
 show(if br 60 x=true/\br 60 x=true then some (vB (!cJ x x)) else none)=_
 rw[if_pos ⟨h,h⟩,yW _ _ h]<;>rfl
theorem EY (s:Str):cz (.fz (.str s)) (.fz (.str s))=some (.fz (.bool false)):=NH (.str s) rfl
end Mp
namespace Mp
open PySem L2 Tw
theorem CS (p q:Int×Int):cJ (pv p) (pv q)=decide (p=q):=by
 show((p.1==q.1) && ((p.2==q.2) && true))=_
 rw[Bool.and_true]
 by_cases h:p=q
 ·rw[h]; simp
 ·rw[decide_eq_false h]
  by_cases h1:p.1=q.1
  ·have h2:p.2≠q.2:=fun z=>h (Prod.ext h1 z)
   simp[h2]
  ·simp[h1]
theorem Ps (q:Int×Int) (ps:List (Int×Int)):cV false (.fz (pv q)) (.fz (.tup (ap ps)))=some (.fz (.bool (decide (q∈ps)))):=by
 have e1:mC false (.fz (pv q)) (.fz (.tup (ap ps)))=none:=rfl
 have e2:pa false (.fz (pv q)) (.fz (.tup (ap ps)))=some (.fz (.bool (decide (q∈ps)))):=by
  show(if br 60 (pv q)=true/\br 59 (.tup (ap ps))=true then some (vB ((ap ps).any fun e=>cJ e (pv q))) else none)=_
  rw[if_pos ⟨rfl,Ag 57 ps⟩]
  have e3:((ap ps).any fun e=>cJ e (pv q))=decide (q∈ps):=by
   induction ps with
   | nil=>rfl
   | cons p ps ih =>
    show(cJ (pv p) (pv q) || (ap ps).any fun e=>cJ e (pv q))=_
    rw[ih (by rfl),CS]
    by_cases h:p=q
    ·rw[h]; simp
    ·have h':¬q=p:=fun z=>h z.symm
     simp[h,h']
  rw[e3]<;>rfl
 unfold cV;rw[e1,e2]<;>rfl
theorem Lx {T:List Int} (h:T.Nodup):(sI T).Pairwise (·<·):=((zJ T).and ((m7 T).nodup_iff.mpr h)).imp fun {a b} h=>by have:=h.1; have:=h.2; omega
theorem mq (p q:Int×Int):fe p q=true↔p.1<q.1\/(p.1=q.1/\p.2<q.2):=by
 show(if p.1=q.1 then (if p.2=q.2 then HT.lexLt [] [] else decide (p.2<q.2)) else decide (p.1<q.1))=true↔_
 by_cases h:p.1=q.1
 ·rw[if_pos h]
  by_cases h2:p.2=q.2
  ·rw[if_pos h2]
   constructor
   ·intro z; cases z
   ·intro z; omega
  ·rw[if_neg h2,decide_eq_true_eq]
   constructor
   ·intro z; exact .inr ⟨h,z⟩
   ·intro z; omega
 ·rw[if_neg h,decide_eq_true_eq]
  constructor
  ·intro z; exact .inl z
  ·intro z; omega
theorem Ob {p q r:Int×Int} (h1:fe p q=true) (h2:fe q r=true):fe p r=true:=by
 rw[mq] at *;omega
theorem DF:∀{ps:List (Int×Int)},pW ps=true->ps.Pairwise fun p q=>fe p q=true
 | [],_=>.nil
 | [p],_=>List.pairwise_singleton ..
 | p::q::ps,h=>by
  have h:(fe p q && ((q::ps).zip ((q::ps).drop 1)).all fun q=>fe q.1 q.2)=true:=h;rw[bN] at h
  have ih:(q::ps).Pairwise fun p q=>fe p q=true:=DF h.2
  refine jI.mpr ⟨fun r hr=>?_,ih⟩
  rcases aU.mp hr with rfl|hr
  ·exact h.1
  ·exact Ob h.1 ((jI.mp ih).1 r hr)
structure PO (n:Nat) (ps:List (Int×Int)):Prop where
 n1:1<=n
 n4:n<=4
 ok:∀q∈ps,fX n q=true
 pw:ps.Pairwise fun p q=>fe p q=true
theorem mh {n:Nat} {q:Int×Int}:fX n q=true↔(0<=q.1/\q.1<(n:Int))/\(0<=q.2/\q.2<(n:Int))/\q.1≠q.2:=by
 unfold fX below;simp only[List.all_cons,List.all_nil,Bool.and_true,Bool.and_eq_true,decide_eq_true_eq,Bool.not_eq_true',beq_eq_false_iff_ne,ne_eq]
 constructor
 ·intro h; exact⟨h.1.1,h.1.2,h.2⟩
 ·intro h; exact⟨⟨h.1,h.2.1⟩,h.2.2⟩
theorem PO.of {n:Nat} (h1:1<=n) (h4:n<=4) {ps:List (Int×Int)} (h:kJ n ps=true):PO n ps:=by
 have h':=h;unfold kJ at h';rw[bN,bN] at h';exact⟨h1,h4,(M8 h).2,DF h'.2⟩
theorem PO.to {n:Nat} {ps:List (Int×Int)} (h:PO n ps):kJ n ps=true:=by
 have:=h.n1;unfold kJ;rw[bN,bN];exact⟨⟨decide_eq_true (by omega),dv.mpr h.ok⟩,zL ps h.pw⟩
theorem PO.sub {n m:Nat} {ps qs:List (Int×Int)} (h:PO n ps) (hs:qs.Sublist ps) (m1:1<=m) (m4:m<=4) (hm:∀q∈qs,q.1<(m:Int)/\q.2<(m:Int)):PO m qs :=
 ⟨m1,m4,fun q hq=>by
  have a:=mh.mp (h.ok q (hs.subset hq))
  exact mh.mpr ⟨⟨a.1.1,(hm q hq).1⟩,⟨a.2.1.1,(hm q hq).2⟩,a.2.2⟩,h.pw.sublist hs⟩
theorem AM:∀(l:List Int) (lo hi:Int),l.Pairwise (·<·)->(∀x∈l,lo<=x/\x<hi)->lo<=hi->(l.length:Int)<=hi - lo
 | [],lo,hi,_,_,h=>by rw[List.length_nil]; omega
 | a::l,lo,hi,hp,hm,h=>by
  have ha:=hm a (ao ..);have:=AM l (a+1) hi (jI.mp hp).2 (fun x hx=>⟨by have:=(jI.mp hp).1 x hx; omega,(hm x (aE _ hx)).2⟩) (by omega);rw[cR];omega
theorem PO.len {n:Nat} {ps:List (Int×Int)} (h:PO n ps):ps.length<=16:=by
 have:=AM (ps.map fun q=>4 * q.1+q.2) 0 16 (by
  rw[nX]
  refine h.pw.imp_of_mem fun {p q} hp hq hl=>?_
  have a:=mh.mp (h.ok p hp);have b:=mh.mp (h.ok q hq);have n4:=h.n4;rw[mq] at hl
  omega) (fun x hx=>by
  obtain⟨q,hq,rfl⟩:=aW.mp hx;have a:=mh.mp (h.ok q hq);have n4:=h.n4
  omega) (by omega)
 rw[aT] at this;omega
theorem PO.nodup {n:Nat} {ps:List (Int×Int)} (h:PO n ps):ps.Nodup:=h.pw.imp fun {p q} hl e=>by
 subst e;rw[mq] at hl;omega
theorem PO.or {n:Nat} {as bs:List (Int×Int)} (h:PO n as) (h':PO n bs):PO n (uP (as++bs))/\(∀q∈as++bs,kX q=true)/\(as++bs).length<63:=by
 have ok:∀q∈as++bs,fX n q=true:=fun q hq=>(bc.mp hq).elim (h.ok q) (h'.ok q)
 have l1:=h.len;have l2:=h'.len;exact⟨PO.of h.n1 h.n4 (Jy h.n1 h.n4 ok).1,fun q hq=>(EH h.n4 (ok q hq)).2,by rw[cX]; omega⟩
def RI (as bs:List (Int×Int)):List (Int×Int):=as.filter fun q=>decide (q∈bs)
theorem PO.and {n:Nat} {as bs:List (Int×Int)} (h:PO n as):PO n (RI as bs):=h.sub List.filter_sublist h.n1 h.n4 fun q hq=>by
 have a:=mh.mp (h.ok q (List.filter_sublist.subset hq));exact⟨a.1.2,a.2.1.2⟩
def Bf (n:Nat) (ps:List (Int×Int)) (p:Int):List Int:=(bg 0 n).filter fun q=>q==p || decide ((p,q)∈ps)
theorem w6:∀(n:Nat) (lo a:Int),lo<=a->a<lo+n->a∈bg lo n
 | 0,lo,a,h1,h2=>by omega
 | n+1,lo,a,h1,h2=>by
  by_cases e:a=lo
  ·rw[e]; exact ao ..
  ·exact aE _ (w6 n (lo+1) a (by omega) (by omega))
theorem AS {n:Nat} {ps:List (Int×Int)} (h:PO n ps) {p:Int} (h0:0<=p) (hp:p<(n:Int)):ai ps p=Bf n ps p:=by
 have mem:∀k,k∈ai ps p↔k∈(p::(ps.filter fun q=>q.1==p).map (·.2)):=fun k=>(m7 _).mem_iff
 have nd:(p::(ps.filter fun q=>q.1==p).map (·.2)).Nodup:=by
  refine bT.mpr ⟨fun z=>?_,?_⟩
  ·obtain⟨q,hq,e⟩:=aW.mp z;obtain⟨h1,h2⟩:=gL.mp hq;have h2:q.1=p:=eq_of_beq h2;exact(mh.mp (h.ok q h1)).2.2 (by rw[h2]; exact e.symm)
  ·show List.Pairwise _ _
   rw[nX];refine List.Pairwise.imp_of_mem (fun {a b} ha hb ne e=>?_) (h.nodup.filter fun q=>q.1==p);have h1:a.1=p:=eq_of_beq (gL.mp ha).2;have h2:b.1=p:=eq_of_beq (gL.mp hb).2;exact ne (Prod.ext (h1.trans h2.symm) e)
 have l1:ai ps p=uI (p::(ps.filter fun q=>q.1==p).map (·.2)):=oq (Lx nd) mem
 have l2:Bf n ps p=uI (p::(ps.filter fun q=>q.1==p).map (·.2)):=oq ((ur n 0).filter _) fun k=>by
  unfold Bf;rw[gL,aU,aW,i3,beq_iff_eq,decide_eq_true_eq]
  constructor
  ·rintro ⟨_,rfl|hk⟩
   ·exact .inl rfl
   ·exact .inr ⟨(p,k),gL.mpr ⟨hk,by simp⟩,rfl⟩
  ·rintro (rfl|⟨q,hq,rfl⟩)
   ·exact⟨w6 n 0 k h0 (by omega),.inl rfl⟩
   ·obtain⟨h1,h2⟩:=gL.mp hq;have h2:q.1=p:=eq_of_beq h2;have a:=mh.mp (h.ok q h1);exact⟨w6 n 0 q.2 a.2.1.1 (by omega),.inr (by rw[←h2]; exact h1)⟩
 rw[l1,l2]
end Mp
namespace Mp
open PySem L2 Tw
theorem Dz {f g:Sf} {S S1:Env} (h:f S=.ok .nx S1):af f g S=g S1:=by
 unfold af;rw[h]<;>rfl
theorem Po (n:Int) (ps:List (Int×Int)):nL "Policy" (bC n ps)=true:=by
 unfold bC nL;exact decide_eq_true rfl
theorem wL {n:Nat} {ps:List (Int×Int)} (h:PO n ps):ku (.obj "Policy" []::aF [.int n,.tup (ap ps)])=.ok (.fz .none) [some (i8 n ps)]:=Mh n ps h.to
def eA (n m:Int) (a b:List (Int×Int)) (x2:Option OV):Env:=[some (.fz (bC n a)),some (.fz (bC m b)),x2]
theorem M6 (ps:List (Int×Int)):br 60 (.tup (ap ps))=true:=Ag 58 ps
theorem FI (neg:Bool) (n:Int) (ps:List (Int×Int)) (x:Val) {t:Bool} (h:ky [.fz (bC n ps),.fz x]=.ok (.fz (.bool t)) []) (S:Env):kIn "Policy" ky neg x (bC n ps) S=.ok (vB (if neg then !t else t)) S:=by
 unfold kIn;rw[Po]
 show(match ky [.fz (bC n ps),.fz x] with
  | .ok (.fz (.bool t)) _=>Out.ok (vB (if neg then !t else t)) S
  | _=>.no)=_
 rw[h]
end Mp
namespace Mp
open PySem L2 Tw
theorem GI {n:Nat} (ps:List (Int×Int)) {p q:Int} (hp:0<=p/\p<(n:Int)) (hq:0<=q/\q<(n:Int)):ky [.fz (bC n ps),.fz (pv (p,q))]=.ok (.fz (.bool (p==q || decide ((p,q)∈ps)))) []:=by
 have e0:ky [.fz (bC n ps),.fz (pv (p,q))]=hI [] (BL [some (.fz (bC n ps)),some (.fz (pv (p,q))),none]):=kE rfl;rw[e0];unfold BL;have i1:jD "tuple" (.fz (pv (p,q)))=some (.fz (.bool true)):=rfl;have l1:jT (.fz (pv (p,q)))=some (.fz (.int 2)):=rfl
 have st1:(bj (cD (cb (eB (aC (jD "tuple") (ac 1)))) (eB (ae cz (aC jT (ac 1)) (eC (.int 2)))))
   (af (aX [] (eC (.bool false))) aj)
   aj) [some (.fz (bC n ps)),some (.fz (pv (p,q))),none]=.ok .nx [some (.fz (bC n ps)),some (.fz (pv (p,q))),none]:=by
  have nn:(!((2:Int)==2))=false:=rfl;simp only[af,aj,aZ,ci,aX,fV,bj,bY,dL,cC,eZ,eE,gq,gm,ae,aC,c6,dD,ac,dY,cP,eC,dF,fh,fj,eB,dX,gh,ev_tup,dE,gy,dZ,d7,cQ,az,ah,aS,aq,de,cK,cY,c7,c5,dR,fq,gz,cE,cD,cb,bP,bF,bH,cZ,cW,dz,ev_fld,dN,bo,di,dW,eO,aI,bO,OV.fzv,OV.val,putS,bR,gN,cU,bB,bW,Option.bind_some,Option.map_some,List.getElem?_cons_zero,List.getElem?_cons_succ,List.length_cons,List.length_nil,Nat.reduceAdd,Nat.reduceLT,if_true,List.set_cons_zero,List.set_cons_succ,fK,fH,eM,eP,fU,fY,fZ,gb,fA,gj,fx,i1,l1,Bool.not_true,nn]
 have lc:=xA (it:=cy (ac 1)) (g:=gN 2) (js:=[]) (a:=bo mM (aq [0] (jd "users" (ac 0)) (aq [2] (ac 2) aS)) [none,none] []) (vs:=[2]) (S:=[some (.fz (bC n ps)),some (.fz (pv (p,q))),none]) (S1:=[some (.fz (bC n ps)),some (.fz (pv (p,q))),none]) (its:=il [p,q]) (yb n) rfl fun x hx=>by
  obtain⟨i,_,rfl⟩:=aW.mp hx;refine⟨[some (.fz (bC n ps)),some (.fz (pv (p,q))),some (I i)],.fz (.bool (decide (0<=i) && decide (i<(n:Int)))),rfl,rfl,?_,rfl⟩;simp only[af,aj,aZ,ci,aX,fV,bj,bY,dL,cC,eZ,eE,gq,gm,ae,aC,c6,dD,ac,dY,cP,eC,dF,fh,fj,eB,dX,gh,ev_tup,dE,gy,dZ,d7,cQ,az,ah,aS,aq,de,cK,cY,c7,c5,dR,fq,gz,cE,cD,cb,bP,bF,bH,cZ,cW,dz,ev_fld,dN,bo,di,dW,eO,aI,bO,OV.fzv,OV.val,putS,bR,gN,cU,bB,bW,Option.bind_some,Option.map_some,List.getElem?_cons_zero,List.getElem?_cons_succ,List.length_cons,List.length_nil,Nat.reduceAdd,Nat.reduceLT,if_true,List.set_cons_zero,List.set_cons_succ,fK,fH,eM,eP,fU,fY,fZ,gb,fA,gj,fx,Er,FY,wg]
 have al:=GW n [p,q]
 have bt:below n [p,q]=true:=by
  unfold below;rw[List.all_cons,List.all_cons,List.all_nil,decide_eq_true hp.1,decide_eq_true hp.2,decide_eq_true hq.1,decide_eq_true hq.2]<;>rfl
 rw[bt] at al
 have st2:(bj (cb (eB (aC jU (cu (cy (ac 1)) (gN 2) bP [] (bo mM (aq [0] (jd "users" (ac 0)) (aq [2] (ac 2) aS)) [none,none] []) [2]))))
   (af (aX [] (eC (.bool false))) aj)
   aj) [some (.fz (bC n ps)),some (.fz (pv (p,q))),none]=.ok .nx [some (.fz (bC n ps)),some (.fz (pv (p,q))),none]:=by
  simp only[bj,cb,eB,aC,lc,bB,al,bW,cU,Bool.not_true,aj]
 rw[Dz st1,Dz st2];have g0:aP (.fz (pv (p,q))) (.fz (.int 0))=some (.fz (.int p)):=rfl;have g1:aP (.fz (pv (p,q))) (.fz (.int 1))=some (.fz (.int q)):=rfl
 cases h:p==q with
 | true =>
  simp only[af,aj,aZ,ci,aX,fV,bj,bY,dL,cC,eZ,eE,gq,gm,ae,aC,c6,dD,ac,dY,cP,eC,dF,fh,fj,eB,dX,gh,ev_tup,dE,gy,dZ,d7,cQ,az,ah,aS,aq,de,cK,cY,c7,c5,dR,fq,gz,cE,cD,cb,bP,bF,bH,cZ,cW,dz,ev_fld,dN,bo,di,dW,eO,aI,bO,OV.fzv,OV.val,putS,bR,gN,cU,bB,bW,Option.bind_some,Option.map_some,List.getElem?_cons_zero,List.getElem?_cons_succ,List.length_cons,List.length_nil,Nat.reduceAdd,Nat.reduceLT,if_true,List.set_cons_zero,List.set_cons_succ,fK,fH,eM,eP,fU,fY,fZ,gb,fA,gj,fx,g0,g1,h,Bool.true_or];rfl
 | false =>
  simp only[af,aj,aZ,ci,aX,fV,bj,bY,dL,cC,eZ,eE,gq,gm,ae,aC,c6,dD,ac,dY,cP,eC,dF,fh,fj,eB,dX,gh,ev_tup,dE,gy,dZ,d7,cQ,az,ah,aS,aq,de,cK,cY,c7,c5,dR,fq,gz,cE,cD,cb,bP,bF,bH,cZ,cW,dz,ev_fld,dN,bo,di,dW,eO,aI,bO,OV.fzv,OV.val,putS,bR,gN,cU,bB,bW,Option.bind_some,Option.map_some,List.getElem?_cons_zero,List.getElem?_cons_succ,List.length_cons,List.length_nil,Nat.reduceAdd,Nat.reduceLT,if_true,List.set_cons_zero,List.set_cons_succ,fK,fH,eM,eP,fU,fY,fZ,gb,fA,gj,fx,g0,g1,h,Ps,Ab,Bool.false_or];rfl
end Mp
namespace Mp
open PySem L2 Tw
theorem DK {t:Val}:gv (ag [t]) (.fz (.int 3))=some (ag [t,t,t]):=by
 have e1:gI qq (fun i j=>vI (i * j)) (ag [t]) (.fz (.int 3))=none:=rfl;have e2:gI rP (fun i j=>vI (i * j)) (ag [t]) (.fz (.int 3))=none:=rfl
 have e3:uw (ag [t]) (.fz (.int 3))=some (ag [t,t,t]):=by
  unfold uw;rw[mr,du];rfl
 unfold gv;rw[e1,e2,e3]<;>rfl
theorem DJ {v:Val} (h1:nh v=true) (h2:mQ v<=10000) (h3:br 59 v=true):my (ag [v,v,v])=some (.fz (.str (Val.lst [v,v,v]).pd.shown)):=by
 refine DI (mS _) ?_ ?_ ?_
 ·show(br 59 v && (br 59 v && (br 59 v && true)))=true
  rw[h3]<;>rfl
 ·show(nh v && (nh v && (nh v && true)))=true
  rw[h1]<;>rfl
 ·show(mQ v+2+(mQ v+2+(mQ v+2+0)))+4<bL
  unfold bL;omega
end Mp
namespace Mp
open PySem L2 Tw
def leP (p q:Int×Int):Bool:=!fe q p
theorem wQ (p q:Int×Int):leP p q=true↔p.1<q.1\/(p.1=q.1/\p.2<=q.2):=by
 unfold leP;rw[Bool.not_eq_true']
 constructor
 ·intro h
  have:¬(q.1<p.1\/(q.1=p.1/\q.2<p.2)):=fun z=>by rw[(mq q p).mpr z] at h; cases h
  omega
 ·intro h
  cases e:fe q p with
  | false=>rfl
  | true =>
   rw[mq] at e;omega
def iz (qs:List (Int×Int)):List (Int×Int):=gP leP qs
theorem Fr:∀a b c:Int×Int,leP a b=true->leP b c=true->leP a c=true:=fun a b c h1 h2=>by
 rw[wQ] at *;omega
theorem Ft:∀a b:Int×Int,(leP a b || leP b a)=true:=fun a b=>by
 rw[i3,wQ,wQ];omega
theorem K3 (qs:List (Int×Int)):(iz qs).Pairwise fun p q=>leP p q=true:=by
 have h:=List.pairwise_mergeSort (le:=leP) Fr (fun a b=>Ft a b) qs;rw[zw Fr Ft] at h;exact h
theorem zr {n:Nat} (h1:1<=n) (h4:n<=4) {qs:List (Int×Int)} (ok:∀q∈qs,fX n q=true) (nd:qs.Nodup):PO n (iz qs)/\∀q,q∈iz qs↔q∈qs:=by
 have pm:(iz qs).Perm qs:=qC qs;refine⟨⟨h1,h4,fun q hq=>ok q (pm.mem_iff.mp hq),?_⟩,fun q=>pm.mem_iff⟩;have n2:(iz qs).Nodup:=pm.nodup_iff.mpr nd
 refine((K3 qs).and n2).imp fun {p q} h=>?_
 obtain⟨a,b⟩:=h;rw[wQ] at a;rw[mq]
 rcases a with a|⟨a,c⟩
 ·exact .inl a
 ·refine .inr ⟨a,?_⟩
  rcases Int.lt_or_eq_of_le c with c|c
  ·exact c
  ·exact absurd (Prod.ext a c) b
theorem N9 (p q:Int×Int):PySem.W.dataLt (pv p).pd (pv q).pd=fe p q:=by
 show PyProof.Rows.lexLt PyProof.Rows.itemOrd (Sum.inl 1::Sum.inl p.1::Sum.inl 1::Sum.inl p.2::[Sum.inl 0]) (Sum.inl 1::Sum.inl q.1::Sum.inl 1::Sum.inl q.2::[Sum.inl 0])=_
 rw[PyProof.Rows.lex_self]
 have key:∀b:Bool,(b=true↔(p.1<q.1\/(p.1=q.1/\p.2<q.2)))->b=fe p q:=fun b h=>by
  cases b with
  | true=>exact((mq p q).mpr (h.mp rfl)).symm
  | false =>
   cases e:fe p q with
   | false=>rfl
   | true=>exact h.mpr ((mq p q).mp e)
 apply key
 by_cases e:p.1=q.1
 ·rw[e,PyProof.Rows.lex_self,PyProof.Rows.lex_self]
  by_cases e2:p.2=q.2
  ·rw[e2,PyProof.Rows.lex_self,PyProof.Rows.lex_self]
   constructor
   ·intro z; cases z
   ·intro z; omega
  ·rw[PyProof.Rows.lex_diff (fun z=>e2 (by injection z))]
   show decide (p.2<q.2)=true↔_
   rw[decide_eq_true_eq];omega
 ·rw[PyProof.Rows.lex_diff (fun z=>e (by injection z))]
  show decide (p.1<q.1)=true↔_
  rw[decide_eq_true_eq];omega
theorem Jv (p q:Int×Int):kA (pv p) (pv q)=leP p q:=by
 show(!PySem.W.dataLt (pv q).pd (pv p).pd)=_
 rw[N9]<;>rfl
theorem Mz {α:Type} (f:α->Val) (l:List α):Val.pds (l.map f)=l.map fun a=>(f a).pd:=by rw[Aa,cF]<;>rfl
theorem K8 (qs:List (Int×Int)):kZ (ag (ap qs))=some (ag (ap (iz qs))):=by
 show(dC (ag (ap qs))).bind _=_
 rw[mr]
 have sb:r9 (ap qs)=true:=by
  unfold r9 ap;rw[Mz,bN,bN,i3];refine⟨⟨dv.mpr fun x hx=>?_,dv.mpr fun x hx=>dv.mpr fun y hy=>?_⟩,.inl (dv.mpr fun x hx=>?_)⟩
  ·obtain⟨c,_,rfl⟩:=aW.mp hx;rfl
  ·obtain⟨c,_,rfl⟩:=aW.mp hx;obtain⟨d,_,rfl⟩:=aW.mp hy;rfl
  ·obtain⟨c,_,rfl⟩:=aW.mp hx;rfl
 have e2:gP kA (ap qs)=ap (iz qs):=by
  unfold ap iz;rw[←wX (le:=kA) pv qs]
  have:(fun x y=>kA (pv x) (pv y))=leP:=funext fun a=>funext fun b=>Jv a b
  rw[this]
 show(if r9 (ap qs)=true then some (ag (gP kA (ap qs))) else none)=_
 rw[if_pos sb,e2]
end Mp
namespace Mp
open PySem L2 Tw
def ju (n b:Int) (o:OV) (ps:List (Int×Int)) (x4 x5:Option OV):Env:=[some o,some (I n),some (.lst (aF (ap ps))),some (I b),x4,x5]
theorem JQ (n:Nat) (hn:n<=100) (b p:Int) (hb:0<b) (hb':b<1000000) (ps:List (Int×Int)) (o:OV) (d:Nat) (x5:Option OV) (ho:gQ o d) (hd:d+n<=900000) (hl:ps.length+n<100000) :
  ∃(js:List Int) (o':OV),xY (ju n b o ps (some (I p)) x5)=.ok .nx (ju n b o' (ps++js.map fun q=>(p,q)) (some (I p)) x5)/\js.Sublist (bg 0 n)/\(∀q∈js,q≠p)/\gQ o' (d+n):=by
 have hit:dP fB (ah [1] (ac 1) az) (ju n b o ps (some (I p)) x5)=.ok (il (bg 0 n)) (ju n b o ps (some (I p)) x5):=by
  unfold ju;simp only[af,aj,aZ,ci,aX,fV,bj,bY,dL,cC,eZ,eE,gq,gm,ae,aC,c6,dD,ac,dY,cP,eC,dF,fh,fj,eB,dX,gh,ev_tup,dE,gy,dZ,d7,cQ,az,ah,aS,aq,de,cK,cY,c7,c5,dR,fq,gz,cE,cD,cb,bP,bF,bH,cZ,cW,dz,ev_fld,dN,bo,di,dW,eO,aI,bO,OV.fzv,OV.val,putS,bR,gN,cU,bB,bW,Option.bind_some,Option.map_some,List.getElem?_cons_zero,List.getElem?_cons_succ,List.length_cons,List.length_nil,Nat.reduceAdd,Nat.reduceLT,if_true,List.set_cons_zero,List.set_cons_succ,fK,fH,eM,eP,fU,fY,fZ,gb,fA,gj,fx,cT,cy,uj,kT,dP,k9 hn]
 obtain⟨zs,o',h1,h2,h3,h4⟩:=Fy (P:=fun z=>∃q:Int,z=.int q/\q≠p) (g:=gN 5) (c:=cE (eB (ae cz (ac 5) (ac 4))) (eB (ae gw (bo ko (cK 0 (aq [3] (ac 3) aS)) [some 0,none] [0]) (eC (.int 0))))) (js:=[]) (a:=cj (ah [4] (ac 4) (ah [5] (ac 5) az))) (vs:=[5]) (fun o=>[some o,some (I n),some (.lst (aF (ap ps))),some (I b),some (I p),none]) 1 (fun z=>.tup [.int p,z]) (il (bg 0 n)) (fun x hx o e ho he=>by
  obtain⟨q,hq,rfl⟩:=aW.mp hx;obtain⟨r,o',d1,d2,d3,d4⟩:=xB ho (by omega) hb hb'
  by_cases hpq:p=q
  ·subst hpq;refine⟨_,false,[some o,some (I n),some (.lst (aF (ap ps))),some (I b),some (I p),some (I p)],o,rfl,?_,fun z=>(nomatch z),rfl,ho.mono (by omega),fun z=>(nomatch z)⟩;simp only[af,aj,aZ,ci,aX,fV,bj,bY,dL,cC,eZ,eE,gq,gm,ae,aC,c6,dD,ac,dY,cP,eC,dF,fh,fj,eB,dX,gh,ev_tup,dE,gy,dZ,d7,cQ,az,ah,aS,aq,de,cK,cY,c7,c5,dR,fq,gz,cE,cD,cb,bP,bF,bH,cZ,cW,dz,ev_fld,dN,bo,di,dW,eO,aI,bO,OV.fzv,OV.val,putS,bR,gN,cU,bB,bW,Option.bind_some,Option.map_some,List.getElem?_cons_zero,List.getElem?_cons_succ,List.length_cons,List.length_nil,Nat.reduceAdd,Nat.reduceLT,if_true,List.set_cons_zero,List.set_cons_succ,fK,fH,eM,eP,fU,fY,fZ,gb,fA,gj,fx,beq_self_eq_true,Bool.not_true]
  ·have e:(!(q==p))=true:=by simpa using fun z:q=p=>hpq z.symm
   refine⟨_,r==0,[some o',some (I n),some (.lst (aF (ap ps))),some (I b),some (I p),some (I q)],o',rfl,?_,fun _=>⟨.fz (.tup [.int p,.int q]),?_,rfl⟩,rfl,d4,fun _=>⟨q,rfl,fun z=>hpq z.symm⟩⟩
   ·simp only[af,aj,aZ,ci,aX,fV,bj,bY,dL,cC,eZ,eE,gq,gm,ae,aC,c6,dD,ac,dY,cP,eC,dF,fh,fj,eB,dX,gh,ev_tup,dE,gy,dZ,d7,cQ,az,ah,aS,aq,de,cK,cY,c7,c5,dR,fq,gz,cE,cD,cb,bP,bF,bH,cZ,cW,dz,ev_fld,dN,bo,di,dW,eO,aI,bO,OV.fzv,OV.val,putS,bR,gN,cU,bB,bW,Option.bind_some,Option.map_some,List.getElem?_cons_zero,List.getElem?_cons_succ,List.length_cons,List.length_nil,Nat.reduceAdd,Nat.reduceLT,if_true,List.set_cons_zero,List.set_cons_succ,fK,fH,eM,eP,fU,fY,fZ,gb,fA,gj,fx,e,d1,Eb]
   ·have t:gTup [.int p,.int q]=some (.fz (.tup [.int p,.int q])):=rfl
    simp only[af,aj,aZ,ci,aX,fV,bj,bY,dL,cC,eZ,eE,gq,gm,ae,aC,c6,dD,ac,dY,cP,eC,dF,fh,fj,eB,dX,gh,ev_tup,dE,gy,dZ,d7,cQ,az,ah,aS,aq,de,cK,cY,c7,c5,dR,fq,gz,cE,cD,cb,bP,bF,bH,cZ,cW,dz,ev_fld,dN,bo,di,dW,eO,aI,bO,OV.fzv,OV.val,putS,bR,gN,cU,bB,bW,Option.bind_some,Option.map_some,List.getElem?_cons_zero,List.getElem?_cons_succ,List.length_cons,List.length_nil,Nat.reduceAdd,Nat.reduceLT,if_true,List.set_cons_zero,List.set_cons_succ,fK,fH,eM,eP,fU,fY,fZ,gb,fA,gj,fx,t]) o d ho (by rw[g7,dQ]; omega)
 rw[g7,dQ,Nat.mul_one] at h4;obtain⟨js,hjs,rfl⟩:=List.sublist_map_iff.mp h2;have lc:=QO (js:=[]) hit (show b9 _ _ _ _ _ _ (aA (ju n b o ps (some (I p)) x5) [5])=_ from h1)
 have ez:(List.map Val.int js).map (fun z=>Val.tup [.int p,z])=ap (js.map fun q=>(p,q)):=by unfold ap; rw[cF,cF]<;>rfl
 rw[ez] at lc
 have jl:js.length<=n:=by have:=hjs.length_le; rw[dQ] at this; exact this
 refine⟨js,o',?_,hjs,fun q hq=>?_,h4⟩
 ·have er:db (ju n b o ps (some (I p)) x5) [some o',some (I n),some (.lst (aF (ap ps))),some (I b),some (I p),none] [5]=[some o',some (I n),some (.lst (aF (ap ps))),some (I b),some (I p),x5]:=rfl;rw[er] at lc;have ni:oN (ag (ap (js.map fun q=>(p,q))))=some (ap (js.map fun q=>(p,q))):=qT _
  have mx:Aq (ap (js.map fun q=>(p,q))) (.lst (aF (ap ps)))=some (.lst (aF (ap (ps++js.map fun q=>(p,q))))):=by
   show(if (aF (ap ps)).length+(ap (js.map fun q=>(p,q))).length<bL then some (OV.lst (aF (ap ps)++aF (ap (js.map fun q=>(p,q))))) else none)=_
   rw[if_pos (by unfold aF ap bL; simp only[List.length_map]; omega)];unfold aF ap;rw[dA,dA]
  unfold xY ju at *;simp only[af,cC,dz,bF,bH,List.getElem?_cons_zero,List.getElem?_cons_succ,fK,fH,Option.bind_some,FZ,bW,bB,lc,ni,mx,List.set_cons_zero,List.set_cons_succ,aj]
 ·obtain⟨q',e,h⟩:=h3 (.int q) (aW.mpr ⟨q,hq,rfl⟩)
  cases e; exact h
theorem C5 (n:Nat) (hn:n<=100) (b:Int) (hb:0<b) (hb':b<1000000):∀(k:Nat) (lo:Int) (ps:List (Int×Int)) (o:OV) (d:Nat) (x4 x5:Option OV),0<=lo->lo+k=n->gQ o d->d+k * n<=900000->ps.length+k * n+n<100000->AT n lo ps ->
  ∃(ps':List (Int×Int)) (o':OV) (y4 y5:Option OV),iH (gN 4) xY (il (bg lo k)) (ju n b o ps x4 x5)=.ok .nx (ju n b o' ps' y4 y5)/\AT n n ps'/\gQ o' (d+k * n)
 | 0,lo,ps,o,d,x4,x5,_,h1,ho,_,_,hp=>⟨ps,o,x4,x5,rfl,by rw[show(n:Int)=lo by omega]; exact hp,by rw[Nat.zero_mul]; exact ho⟩
 | k + 1, lo, ps, o, d, x4, x5, h0, h1, ho, hd, hl, hp => by
  have e1:(k+1) * n=k * n+n:=by rw[Nat.add_mul,Nat.one_mul]
  rw[e1] at hd hl ⊢;obtain⟨js,o',s1,s2,s3,s4⟩:=JQ n hn b lo hb hb' ps o d x5 ho (by omega) (by omega)
  have jl:js.length<=n:=by have:=s2.length_le; rw[dQ] at this; exact this
  have hp':AT n (lo+1) (ps++js.map fun q=>(lo,q)):=by
   refine⟨fun q hq=>?_,List.pairwise_append.mpr ⟨hp.2,?_,fun p hp1 q hq=>?_⟩⟩
   ·rcases bc.mp hq with hq|hq
    ·exact⟨(hp.1 q hq).1,by have:=(hp.1 q hq).2; omega⟩
    ·obtain⟨j,hj,rfl⟩:=aW.mp hq;have r:=mw n 0 j (s2.subset hj);refine⟨?_,by show lo<lo+1; omega⟩;unfold fX below;have a1:decide (0<=lo)=true:=decide_eq_true h0;have a2:decide (lo<(n:Int))=true:=decide_eq_true (by omega);have a3:decide (0<=j)=true:=decide_eq_true r.1;have a4:decide (j<(n:Int))=true:=decide_eq_true (by omega)
     have a5:(lo==j)=false:=by simpa using fun z:lo=j=>s3 j hj z.symm
     simp only[List.all_cons,List.all_nil,a1,a2,a3,a4,a5,Bool.and_true,Bool.true_and,Bool.not_false]
   ·rw[nX]
    exact((ur n 0).sublist s2).imp fun h=>Oc h
   ·obtain⟨j,hj,rfl⟩:=aW.mp hq;exact Oe (hp.1 p hp1).2
  obtain⟨ps',o2,y4,y5,r1,r2,r3⟩:=C5 n hn b hb hb' k (lo+1) (ps++js.map fun q=>(lo,q)) o' (d+n) (some (I lo)) x5 (by omega) (by omega) s4 (by omega) (by rw[cX,aT]; omega) hp';refine⟨ps',o2,y4,y5,?_,r2,by rw[show d+(k * n+n)=d+n+k * n by omega]; exact r3⟩
  show iH _ _ (.int lo::il (bg (lo+1) k)) _=_
  have g1:gN 4 (.int lo) (ju n b o ps x4 x5)=some (ju n b o ps (some (I lo)) x5):=rfl;rw[iH,g1,bW,bB,s1,bB];exact r1
theorem JP (n:Nat) (h1:1<=n) (hn:n<=4) {o:OV} {d:Nat} (ho:gQ o d) (hd:d+20<=900000) :
  ∃ps o',vb [o,.fz (.int n)]=.ok (ag (ap ps)) [some o']/\(∀q∈ps,fX n q=true)/\ps.Nodup/\gQ o' (d+20):=by
 have nn:n * n<=4 * 4:=Nat.mul_le_mul hn hn;obtain⟨r,o1,a1,a2,a3,a4⟩:=xB ho (by omega) (b:=2) (by omega) (by omega);obtain⟨ps,o',y4,y5,r1,r2,r3⟩:=C5 n (by omega) (2+r) (by omega) (by omega) n 0 [] o1 (d+1) none none (by omega) (by omega) a4 (by omega) (by rw[List.length_nil]; omega) ⟨fun _ z=>(nomatch z),.nil⟩;refine⟨ps,o',?_,fun q hq=>(r2.1 q hq).1,?_,r3.mono (by omega)⟩
 ·have e0:vb [o,.fz (.int n)]=hI [0] (BA [some o,some (I n),none,none,none,none]):=kE rfl;rw[e0];unfold BA;have l0:mB []=some (.lst (aF (ap []))):=rfl;unfold ju at r1;simp (implicitDefEqProofs:=false) only[af,aj,aZ,ci,aX,fV,bj,bY,dL,cC,eZ,eE,gq,gm,ae,aC,c6,dD,ac,dY,cP,eC,dF,fh,fj,eB,dX,gh,ev_tup,dE,gy,dZ,d7,cQ,az,ah,aS,aq,de,cK,cY,c7,c5,dR,fq,gz,cE,cD,cb,bP,bF,bH,cZ,cW,dz,ev_fld,dN,bo,di,dW,eO,aI,bO,OV.fzv,OV.val,putS,bR,gN,cU,bB,bW,Option.bind_some,Option.map_some,List.getElem?_cons_zero,List.getElem?_cons_succ,List.length_cons,List.length_nil,Nat.reduceAdd,Nat.reduceLT,if_true,List.set_cons_zero,List.set_cons_succ,fK,fH,eM,eP,fU,fY,fZ,gb,fA,gj,fx,cT,cy,uj,kT,dP,l0,a1,Eb,k9 (show n<=100 by omega),r1];rfl
 ·exact r2.2.imp fun {p q} hl e=>by
   subst e;rw[mq] at hl;omega
end Mp
namespace Mp
open PySem L2 Tw
theorem RH (q:Int×Int) (ps:List (Int×Int)):((ap ps).any fun e=>cJ e (pv q))=decide (q∈ps):=by
 induction ps with
 | nil=>rfl
 | cons p ps ih =>
  show(cJ (pv p) (pv q) || (ap ps).any fun e=>cJ e (pv q))=_
  rw[ih,CS]
  by_cases h:p=q
  ·rw[h]; simp
  ·have h':¬q=p:=fun z=>h z.symm
   simp[h,h']
theorem Pv (neg:Bool) (q:Int×Int) (ps:List (Int×Int)) {o:OV} (ho:o.val=.lst (ap ps)) (h1:mC neg (.fz (pv q)) o=none) (h2:pa neg (.fz (pv q)) o=none):cV neg (.fz (pv q)) o=some (.fz (.bool (if neg then !decide (q∈ps) else decide (q∈ps)))):=by
 have e:o9 neg (.fz (pv q)) o=some (vB (if neg then !((ap ps).any fun e=>cJ e (pv q)) else (ap ps).any fun e=>cJ e (pv q))):=by
  unfold o9;rw[ho];exact if_pos ⟨rfl,Ag 57 ps⟩
 unfold cV;rw[h1,h2,e,RH]<;>rfl
theorem Pu (q:Int×Int) (ps:List (Int×Int)):cV false (.fz (pv q)) (.fz (.lst (ap ps)))=some (.fz (.bool (decide (q∈ps)))):=Pv false q ps rfl rfl rfl
def GP (n:Nat) (ps:List (Int×Int)):Prop:=(∀q∈ps,fX n q=true)/\ps.Nodup
theorem GP.len {n:Nat} (h1:1<=n) (h4:n<=4) {ps:List (Int×Int)} (h:GP n ps):ps.length<=16:=by
 have z:=(zr h1 h4 h.1 h.2).1.len;have e:(iz ps).length=ps.length:=(qC ps).length_eq;omega
end Mp
namespace Mp
open PySem L2 Tw
def bb (ps:List (Int×Int)) (p q:Int):Bool:=p==q || decide ((p,q)∈ps)
theorem kY (ps:List (Int×Int)) (p q:Int):q∈ai ps p↔bb ps p q=true:=by
 unfold ai bb;rw[(m7 _).mem_iff,aU,i3,beq_iff_eq,decide_eq_true_eq,aW]
 constructor
 ·rintro (e|⟨z,hz,rfl⟩)
  ·exact .inl e.symm
  ·obtain⟨h1,h2⟩:=gL.mp hz
   have e:z.1=p:=by simpa using h2
   exact .inr (by rw[←e]; exact h1)
 ·rintro (e|e)
  ·exact .inl e.symm
  ·exact .inr ⟨(p,q),gL.mpr ⟨e,by simp⟩,rfl⟩
end Mp
namespace Mp
inductive Tr where
 | nil|node (t s:Tr) (x:Nat)
deriving DecidableEq
def Tr.size:Tr->Nat
 | .nil=>0
 | .node t s _=>t.size+s.size+1
def Tr.has (e:Tr×Nat):Tr->Prop
 | .nil=>False
 | .node t s x=>t.has e\/s.has e\/e=(s,x)
section
variable (h:Int->Int->Bool) (w:Nat->Int)
def aK:List Nat->Int->Tr
 | [],_=>.nil
 | x::r,q=>if h (w x) q then .node (aK r q) (aK r (w x)) x else aK r q
def bu:List Int->List Nat->List Nat
 | _,[]=>[]
 | U,x::r=>if U.any (h (w x)) then x::bu (w x::U) r else bu U r
def iD:List Int->List Nat->List (Tr×Nat)
 | _,[]=>[]
 | U,x::r=>if U.any (h (w x)) then (aK h w r (w x),x)::iD (w x::U) r else iD U r
theorem pR:∀(r:List Nat) (U:List Int),∀v∈U,aK h w (bu h w U r) v=aK h w r v
 | [],_,_,_=>rfl
 | x :: r, U, v, hv => by
  unfold bu
  by_cases a:U.any (h (w x))=true
  ·rw[if_pos a];have i1:=pR r (w x::U) v (aE _ hv);have i2:=pR r (w x::U) (w x) (ao ..)
   show(if h (w x) v then Tr.node (aK h w (bu h w (w x::U) r) v) (aK h w (bu h w (w x::U) r) (w x)) x else aK h w (bu h w (w x::U) r) v)=if h (w x) v then Tr.node (aK h w r v) (aK h w r (w x)) x else aK h w r v
   rw[i1,i2]
  ·rw[if_neg a,pR r U v hv]
   have n:h (w x) v=false:=by
    cases e:h (w x) v with
    | false=>rfl
    | true=>exact absurd (iK.mpr ⟨v,hv,e⟩) a
   show _=if h (w x) v then Tr.node (aK h w r v) (aK h w r (w x)) x else aK h w r v
   rw[n]<;>rfl
theorem oE (e:Tr×Nat):∀(r:List Nat) (U:List Int),e∈iD h w U r↔∃v∈U,(aK h w r v).has e
 | [],U=>by
  constructor
  ·intro z; cases z
  ·rintro ⟨_,_,z⟩; exact z.elim
 | x :: r, U => by
  unfold iD
  have tl:∀v,aK h w (x::r) v=if h (w x) v then Tr.node (aK h w r v) (aK h w r (w x)) x else aK h w r v:=fun _=>rfl
  by_cases a:U.any (h (w x))=true
  ·rw [if_pos a, aU, oE e r (w x :: U)];obtain⟨v0,m0,z0⟩:=iK.mp a
   constructor
   ·rintro (z|⟨v,m,z⟩)
    ·exact⟨v0,m0,by rw[tl,if_pos z0]; exact .inr (.inr z)⟩
    ·rcases aU.mp m with e2|m
     ·exact⟨v0,m0,by rw[tl,if_pos z0,←e2]; exact .inr (.inl z)⟩
     ·refine⟨v,m,?_⟩;rw[tl];split
      ·exact .inl z
      ·exact z
   ·rintro ⟨v,m,z⟩
    rw[tl] at z;split at z
    ·rcases z with z|z|z
     ·exact .inr ⟨v,aE _ m,z⟩
     ·exact .inr ⟨w x,ao ..,z⟩
     ·exact .inl z
    ·exact .inr ⟨v,aE _ m,z⟩
  ·rw[if_neg a,oE e r U]
   constructor
   ·rintro ⟨v,m,z⟩
    refine⟨v,m,?_⟩;rw[tl];split
    ·exact .inl z
    ·exact z
   ·rintro ⟨v,m,z⟩
    rw[tl,if_neg fun q=>a (iK.mpr ⟨v,m,q⟩)] at z;exact⟨v,m,z⟩
variable {h w} (hh:∀p,h p p=true)
include hh
theorem v4:∀(r:List Nat) (U:List Int),∀e∈iD h w U r,e.1.size<(aK h w r (w e.2)).size
 | [],_,_,z=>nomatch z
 | x :: r, U, e, z => by
  have grow:(aK h w r (w e.2)).size<=(aK h w (x::r) (w e.2)).size:=by
   show _<=(if h (w x) (w e.2) then Tr.node (aK h w r (w e.2)) (aK h w r (w x)) x else aK h w r (w e.2)).size
   split
   ·show _<=_+_+1; omega
   ·exact bS _
  unfold iD at z;split at z
  ·rcases aU.mp z with z|z
   ·rw[z]
    show(aK h w r (w x)).size<(if h (w x) (w x) then Tr.node (aK h w r (w x)) (aK h w r (w x)) x else aK h w r (w x)).size
    rw[if_pos (hh _)]
    show _<_+_+1
    omega
   ·exact mJ (v4 r _ e z) grow
  ·exact mJ (v4 r _ e z) grow
theorem zO:∀(r:List Nat) (U:List Int),(iD h w U r).Nodup
 | [],_=>.nil
 | x :: r, U => by
  unfold iD;split
  ·refine bT.mpr ⟨fun z=>?_,zO r _⟩;have:=v4 hh r _ _ z;exact Nat.lt_irrefl _ this
  ·exact zO r _
end
abbrev NT:=List ((Int×Int×Nat)×Int)
def NT.ok (D:NT):Prop:=(D.map (·.1)).Nodup/\∀(i:Nat) q,D[i]?=some q->q.2=(i:Int)+1
def NT.num (D:NT):Tr->Int->Prop
 | .nil,n=>n=0
 | .node t s x,n=>∃a b,D.num t a/\D.num s b/\((a,b,x),n)∈D
theorem NT.num_pos {D:NT} (o:D.ok) {t s:Tr} {x:Nat} {n:Int} (h:D.num (.node t s x) n):1<=n:=by
 obtain⟨a,b,_,_,m⟩:=h;obtain⟨i,hi⟩:=uZ m;have:=o.2 i _ hi;have:n=(i:Int)+1:=this;omega
theorem NT.key_num {D:NT} (o:D.ok) {k:Int×Int×Nat} {n m:Int} (h1:(k,n)∈D) (h2:(k,m)∈D):n=m:=by
 have nd:=o.1
 induction D with
 | nil=>cases h1
 | cons q D ih =>
  have gen:∀(L:NT),(L.map (·.1)).Nodup->(k,n)∈L->(k,m)∈L->n=m:=by
   intro L
   induction L with
   | nil=>intro _ h; cases h
   | cons p L ihL =>
    intro nd a b;rw[bU] at nd;obtain⟨n1,n2⟩:=bT.mp nd
    rcases aU.mp a with a|a
    ·rcases aU.mp b with b|b
     ·rw[←a] at b; exact(Prod.ext_iff.mp b).2.symm
     ·exact absurd (aW.mpr ⟨_,b,by rw[←a]⟩) n1
    ·rcases aU.mp b with b|b
     ·exact absurd (aW.mpr ⟨_,a,by rw[←b]⟩) n1
     ·exact ihL n2 a b
  exact gen _ nd h1 h2
theorem NT.num_key {D:NT} (o:D.ok) {k k':Int×Int×Nat} {n:Int} (h1:(k,n)∈D) (h2:(k',n)∈D):k=k':=by
 obtain⟨i,hi⟩:=uZ h1;obtain⟨j,hj⟩:=uZ h2;have e1:n=(i:Int)+1:=o.2 i _ hi;have e2:n=(j:Int)+1:=o.2 j _ hj
 have:i=j:=by omega
 subst this;rw[hi] at hj;exact(Prod.ext_iff.mp (Option.some.inj hj)).1
theorem NT.num_fun {D:NT} (o:D.ok):∀(t:Tr) {n m:Int},D.num t n->D.num t m->n=m
 | .nil,_,_,h1,h2=>by
  have h1:_=(0:Int):=h1;have h2:_=(0:Int):=h2;rw[h1,h2]
 | .node t s x,n,m,h1,h2=>by
  obtain⟨a,b,x1,x2,x3⟩:=h1;obtain⟨a',b',y1,y2,y3⟩:=h2;have e1:=NT.num_fun o t x1 y1;have e2:=NT.num_fun o s x2 y2;subst e1 e2;exact NT.key_num o x3 y3
theorem NT.num_inj {D:NT} (o:D.ok):∀(t t':Tr) {n:Int},D.num t n->D.num t' n->t=t'
 | .nil,.nil,_,_,_=>rfl
 | .nil,.node _ _ _,n,h1,h2=>by
  have:=NT.num_pos o h2;have h1:n=0:=h1;omega
 | .node _ _ _,.nil,n,h1,h2=>by
  have:=NT.num_pos o h1;have h2:n=0:=h2;omega
 | .node t s x,.node t' s' x',n,h1,h2=>by
  obtain⟨a,b,x1,x2,x3⟩:=h1;obtain⟨a',b',y1,y2,y3⟩:=h2;have e:=NT.num_key o x3 y3;have e1:a=a':=(Prod.ext_iff.mp e).1;have e2:b=b':=(Prod.ext_iff.mp (Prod.ext_iff.mp e).2).1;have e3:x=x':=(Prod.ext_iff.mp (Prod.ext_iff.mp e).2).2;subst e1 e2 e3;rw[NT.num_inj o t t' x1 y1,NT.num_inj o s s' x2 y2]
theorem NT.num_mono {D D':NT} (hs:∀q∈D,q∈D'):∀(t:Tr) {n:Int},D.num t n->D'.num t n
 | .nil,_,h=>h
 | .node t s x,n,⟨a,b,x1,x2,x3⟩=>⟨a,b,NT.num_mono hs t x1,NT.num_mono hs s x2,hs _ x3⟩
def NT.get (D:NT) (k:Int×Int×Nat):Int:=match D.lookup k with
 | some n=>n
 | none=>(D.length:Int)+1
def NT.put (D:NT) (k:Int×Int×Nat):NT:=match D.lookup k with
 | some _=>D
 | none=>D++[(k,(D.length:Int)+1)]
theorem NT.lookup_mem {k:Int×Int×Nat} {n:Int}:∀{D:NT},D.lookup k=some n->(k,n)∈D
 | [],h=>by cases h
 | (j, m) :: D, h => by
  rw[jX] at h;split at h
  ·rename_i e
   cases h
   rw[eq_of_beq e]; exact ao ..
  ·exact aE _ (NT.lookup_mem h)
theorem NT.lookup_none {k:Int×Int×Nat}:∀{D:NT},D.lookup k=none->k∉D.map (·.1)
 | [],_=>fun z=>nomatch z
 | (j, m) :: D, h => by
  rw[jX] at h;split at h
  ·cases h
  ·rename_i e
   intro z
   rcases aU.mp z with z|z
   ·have:k=j:=z;rw[this,beq_self_eq_true] at e
    cases e
   ·exact NT.lookup_none h z
theorem NT.put_ok {D:NT} (o:D.ok) (k:Int×Int×Nat):(D.put k).ok/\(k,D.get k)∈D.put k/\(∀q∈D,q∈D.put k)/\(D.put k).length<=D.length+1:=by
 unfold NT.put NT.get
 cases e:D.lookup k with
 | some n=>exact⟨o,NT.lookup_mem e,fun _ z=>z,Nat.le_succ _⟩
 | none =>
  refine⟨⟨?_,fun i q hi=>?_⟩,aJ _ (bm.mpr rfl),fun _ z=>au _ z,by rw[cX]; exact bS _⟩
  ·rw[dA];refine cA.mpr ⟨o.1,by simp,fun a ha b hb z=>?_⟩
   have:b=k:=by simpa using hb
   exact NT.lookup_none e (by rw[←this,←z]; exact ha)
  ·by_cases hl:i<D.length
   ·rw[u5 hl] at hi;exact o.2 i q hi
   ·rw[List.getElem?_append_right (Nat.le_of_not_lt hl)] at hi
    have hz:i - D.length=0:=by
     have:=(fE.mp hi).1;simp at this;omega
    rw[hz] at hi
    cases hi
    show(D.length:Int)+1=(i:Int)+1
    have:i=D.length:=by omega
    rw[this]
theorem NT.put_num {D:NT} (o:D.ok) {t s:Tr} {a b:Int} {x:Nat} (h1:D.num t a) (h2:D.num s b):(D.put (a,b,x)).num (.node t s x) (D.get (a,b,x)):=by
 obtain⟨_,p2,p3,_⟩:=NT.put_ok o (a,b,x);exact⟨a,b,NT.num_mono p3 t h1,NT.num_mono p3 s h2,p2⟩
end Mp
namespace Mp
open PySem L2 Tw
def kN (k:Int×Int×Nat):Val:=.tup [.int k.1,.int k.2.1,.str (cn k.2.2)]
def iG (D:NT):List (Val×OV):=D.map fun q=>(kN q.1,OV.fz (.int q.2))
def df (D:NT):OV:=.dict (iG D)
theorem Oj {a b:Nat} (h:cn a=cn b):a=b:=by
 have:(#[a]:Array Nat)=#[b]:=congrArg Str.cps h
 simpa using this
theorem FN {a b:Int×Int×Nat} (h:kN a=kN b):a=b:=by
 obtain⟨a1,a2,a3⟩:=a;obtain⟨b1,b2,b3⟩:=b;have h:=Val.tup.inj h;have e1:a1=b1:=Val.int.inj (List.cons.inj h).1;have e2:a2=b2:=Val.int.inj (List.cons.inj (List.cons.inj h).2).1;have e3:a3=b3:=Oj (Val.str.inj (List.cons.inj (List.cons.inj (List.cons.inj h).2).2).1);rw[e1,e2,e3]
theorem Fj (k:Int×Int×Nat):∀D:NT,aG (iG D) (kN k)=(D.lookup k).map fun n=>OV.fz (.int n)
 | []=>rfl
 | (j, n) :: D => by
  show aG ((kN j,OV.fz (.int n))::iG D) (kN k)=_
  unfold aG;rw[jX]
  by_cases e:j=k
  ·subst e;rw[if_pos rfl,beq_self_eq_true]<;>rfl
  ·rw[if_neg fun z=>e (FN z),show(k==j)=false by simpa using fun z=>e z.symm];exact Fj k D
theorem Dx (k:Int×Int×Nat) (o:OV):∀{D:NT},D.lookup k=none->bJ (iG D) (kN k) o=iG D++[(kN k,o)]
 | [],_=>rfl
 | (j, n) :: D, h => by
  rw[jX] at h;split at h
  ·cases h
  ·rename_i e
   have ne:j≠k:=fun z=>by rw[z,beq_self_eq_true] at e; cases e
   show bJ ((kN j,OV.fz (.int n))::iG D) (kN k) o=_
   unfold bJ;rw[if_neg fun z=>ne (FN z),Dx k o h]<;>rfl
theorem Gn (k:Int×Int×Nat) (D:NT):fits (iG D) (kN k)=true:=by cases D<;>rfl
theorem FE (D:NT):(iG D).length=D.length:=aT ..
theorem Li {i:Nat} {p:List PStep} {S:Env} {fa:Af} {o:OV} {k:Int×Int×Nat} {D:NT} (h0:S[i]?=some (some o)) (h1:bZ p o=some (df D)) (hf:fa S=.ok [kN k,.int ((D.length:Int)+1)] S) (hl:D.length<900000) :
  nU i p fa S=.ok (I (D.get k)) (S.set i (some (cq p o (df (D.put k))))):=by
 have pk:bF i p S=some (df D):=by unfold bF; rw[h0]; exact h1
 have dk:qD (df D)=some ():=rfl
 have dq:uo (df D)=some ():=by
  show(if (iG D).all (fun p=>(kindOf p.1).isSome)=true then some () else none)=_
  rw[if_pos]
  refine dv.mpr fun x hx=>?_
  obtain⟨q,_,rfl⟩:=aW.mp hx;rfl
 unfold nU;rw[pk,du,dq,bW,bB,hf,bB]
 show(match bF i p S with
  | some (.dict kvs) => if fits kvs (kN k) = true then (match aG kvs (kN k) with
    | some (.fz y)=>(Out.ok (OV.fz y) S:Out OV)
    | some _=>.no
    | none=>(Out.of (bH i p (iR (kN k) (.fz (.int ((D.length:Int)+1)))) S) S).bind fun S2 _=>Out.ok (OV.fz (.int ((D.length:Int)+1))) S2) else .no
  | _=>.no)=_
 rw[pk]
 show(if fits (iG D) (kN k)=true then (match aG (iG D) (kN k) with
       | some (.fz y)=>(Out.ok (OV.fz y) S:Out OV)
       | some _=>.no
       | none=>(Out.of (bH i p (iR (kN k) (.fz (.int ((D.length:Int)+1)))) S) S).bind fun S2 _=>Out.ok (OV.fz (.int ((D.length:Int)+1))) S2) else .no)=_
 rw[if_pos (Gn k D),Fj];unfold NT.get NT.put
 cases e:D.lookup k with
 | some n =>
  show Out.ok (.fz (.int n)) S=Out.ok (I n) (S.set i (some (cq p o (df D))))
  rw[qf h1,Dw h0]
 | none =>
  show(Out.of (bH i p (iR (kN k) (.fz (.int ((D.length:Int)+1)))) S) S).bind _=Out.ok (I ((D.length:Int)+1)) (S.set i (some (cq p o (df (D++[(k,(D.length:Int)+1)])))))
  have m:iR (kN k) (.fz (.int ((D.length:Int)+1))) (df D)=some (df (D++[(k,(D.length:Int)+1)])):=by
   show(if (iG D).length<bL/\fits (iG D) (kN k)=true then some (OV.dict (bJ (iG D) (kN k) (.fz (.int ((D.length:Int)+1))))) else none)=_
   rw[if_pos ⟨by rw[FE]; unfold bL; omega,Gn k D⟩,Dx k _ e];unfold df iG;rw[dA]<;>rfl
  have md:bH i p (iR (kN k) (.fz (.int ((D.length:Int)+1)))) S=some (S.set i (some (cq p o (df (D++[(k,(D.length:Int)+1)]))))):=by
   unfold bH;rw[h0]
   show(bZ p o).bind _=_
   rw[h1,du,m]<;>rfl
  rw[md]<;>rfl
def hX (D:NT) (f:Nat->Tr) (u:Nat) (ns:List Int):Prop:=ns.length=u/\∀q,q<u->∃n,ns[q]?=some n/\D.num (f q) n
theorem hX.mono {D D':NT} {f:Nat->Tr} {u:Nat} {ns:List Int} (h:hX D f u ns) (hs:∀q∈D,q∈D'):hX D' f u ns:=⟨h.1,fun q hq=>let ⟨n,a,b⟩:=h.2 q hq; ⟨n,a,NT.num_mono hs _ b⟩⟩
theorem hX.zero (u:Nat):hX [] (fun _=>.nil) u (List.replicate u 0):=⟨xQ,fun q hq=>⟨0,by rw[List.getElem?_replicate,if_pos hq],rfl⟩⟩
end Mp
namespace Mp
open Tw
section
variable (h:Int->Int->Bool) (w:Nat->Int)
def bE (L:Int->Bool):List Nat->Int->Bool
 | [],q=>L q
 | z::r,q=>bE L r q || (bE L r (w z) && h (w z) q)
theorem C1 {t s t' s':Tr} {x x':Nat}:Tr.node t s x=Tr.node t' s' x'↔t=t'/\s=s'/\x=x':=⟨fun e=>by cases e; exact⟨rfl,rfl,rfl⟩,fun⟨a,b,c⟩=>by rw[a,b,c]⟩
theorem lP (z:Nat) (R:List Nat) (q:Int):aK h w (z::R) q=if h (w z) q then Tr.node (aK h w R q) (aK h w R (w z)) z else aK h w R q:=rfl
theorem qv {R R':List Nat} {L:Int->Bool} (hb:∀q,aK h w R q=aK h w R' q↔L q=false):∀(r:List Nat) (q:Int),aK h w (r++R) q=aK h w (r++R') q↔bE h w L r q=false
 | [],q=>hb q
 | z :: r, q => by
  have i1:=qv hb r q;have i2:=qv hb r (w z)
  show aK h w (z::(r++R)) q=aK h w (z::(r++R')) q↔(bE h w L r q || (bE h w L r (w z) && h (w z) q))=false
  rw[lP,lP]
  cases hq:h (w z) q with
  | false =>
   rw[if_neg (by decide),if_neg (by decide),Bool.and_false,Bool.or_false];exact i1
  | true =>
   rw[if_pos rfl,if_pos rfl,C1,i1,i2,Bool.and_true,Bool.or_eq_false_iff];exact⟨fun⟨a,b,_⟩=>⟨a,b⟩,fun⟨a,b⟩=>⟨a,b,rfl⟩⟩
theorem On (x:Nat) (b:List Nat) (q:Int):aK h w (x::b) q=aK h w b q↔h (w x) q=false:=by
 rw[lP]
 cases hq:h (w x) q with
 | false=>rw[if_neg (by decide)]; exact⟨fun _=>rfl,fun _=>rfl⟩
 | true =>
  rw[if_pos rfl];refine⟨fun e=>?_,fun e=>nomatch e⟩;have:=congrArg Tr.size e;have:(aK h w b q).size+(aK h w b (w x)).size+1=(aK h w b q).size:=this;omega
theorem yZ (hh:∀p,h p p=true) {x y:Nat} (n1:h (w x) (w y)=false) (n2:h (w y) (w x)=false) (b:List Nat) (q:Int):aK h w (y::x::b) q=aK h w (x::y::b) q↔(h (w x) q && h (w y) q)=false:=by
 have ne:x≠y:=fun z=>by rw[z,hh] at n1; cases n1
 rw[lP h w y,lP h w x (y::b)]
 have e1:aK h w (x::b) (w y)=aK h w b (w y):=by rw[lP,n1,if_neg (by decide)]
 have e2:aK h w (y::b) (w x)=aK h w b (w x):=by rw[lP,n2,if_neg (by decide)]
 rw[e1,e2,lP h w x,lP h w y]
 cases hx:h (w x) q with
 | false =>
  cases hy:h (w y) q with
  | false=>simp
  | true=>simp
 | true =>
  cases hy:h (w y) q with
  | false=>simp
  | true =>
   simp only[if_true,Bool.and_self];refine⟨fun e=>?_,fun e=>nomatch e⟩;exact absurd (C1.mp e).2.2.symm ne
end
end Mp
namespace Mp
open PySem L2 Tw
theorem vZ (h:Int->Int->Bool) (w:Nat->Int):∀(r:List Nat) (U:List Int),(bu h w U r).Sublist r
 | [],_=>.slnil
 | x::r,U=>by
  unfold bu;split
  ·exact(vZ h w r _).cons₂ _
  ·exact(vZ h w r _).cons _
def bA (cs:List Nat):Str:=⟨cs.toArray⟩
def iC (ps:List (Int×Int)) (w:Nat->Int) (u:Int) (cs:List Nat):List Nat:=(bu (bb ps) w [u] cs.reverse).reverse
theorem kU:∀(n:Nat) (lo:Int) (k:Nat) (h:k<(bg lo n).length),(bg lo n)[k]=lo+k
 | 0,_,_,h=>absurd h (uU _)
 | n+1,lo,0,_=>by show lo=_; omega
 | n+1,lo,k+1,h=>by
  show(bg (lo+1) n)[k]'(Nat.lt_of_succ_lt_succ h)=_
  rw[kU n (lo+1) k];omega
end Mp
namespace Mp
open PySem L2 Tw
theorem qB (xs:List Val) (i:Nat) (x:Val) (h:xs[i]?=some x):aP (.fz (.lst xs)) (.fz (.int (i:Nat)))=some (.fz x):=by
 have e:atI xs (i:Int)=some x:=atI_nat h
 show(((atI xs (i:Int)).map OV.fz).or _).or _=_
 rw[e]<;>rfl
theorem ixN (xs:List Val) (i:Nat) (x:Val) (h:xs[i]?=some x):aP (ag xs) (.fz (.int (i:Nat)))=some (.fz x):=by
 have e:atI (aF xs) (i:Int)=some (.fz x):=atI_nat (by unfold aF; rw[cB,h]<;>rfl)
 show((atI (aF xs) (i:Int)).or _).or _=_
 rw[e]<;>rfl
end Mp
namespace Mp
open PySem L2 Tw
abbrev jW:=Int×Int×List Int
structure Sys where
 n:Nat
 own:List Int
 rows:List (List Int)
 hr:Int->List Int
namespace Sys
variable (Y:Sys)
def go (s:Int) (j:Nat):Int:=(((Y.rows[s.toNat]?).getD [])[j]?).getD 0
def ow (j:Nat):Int:=(Y.own[j]?).getD 0
def led (t:jW) (j:Nat):jW:=(Y.go t.1 j,Y.go t.2.1 j,if Y.ow j∈t.2.2 then uI (t.2.2++Y.hr (Y.ow j)) else t.2.2)
def full (t:jW):Bool:=decide (Y.n<=t.2.2.length)
inductive Rch (S:List jW):jW->Prop
 | base {t:jW}:t∈S->Y.full t=false->Rch S t
 | step {t:jW} {j:Nat}:Rch S t->j<Y.own.length->Y.full (Y.led t j)=false->Rch S (Y.led t j)
structure Wf:Prop where
 n4:Y.n<=4
 N1:1<=Y.rows.length
 N8:Y.rows.length<=12
 nb:Y.rows.length<=8\/Y.n<=2\/(Y.n<=3/\Y.rows.length<=9)
 m6:Y.own.length<=8
 rw_:∀r∈Y.rows,r.length=Y.own.length/\∀z∈r,0<=z/\z<(Y.rows.length:Int)
 ow_:∀z∈Y.own,0<=z/\z<(Y.n:Int)
 hr_:∀p,0<=p->p<(Y.n:Int)->∀z∈Y.hr p,0<=z/\z<(Y.n:Int)
structure Ok (t:jW):Prop where
 a:0<=t.1/\t.1<(Y.rows.length:Int)
 b:0<=t.2.1/\t.2.1<(Y.rows.length:Int)
 l:t.2.2.Pairwise (·<·)
 m:∀z∈t.2.2,0<=z/\z<(Y.n:Int)
variable {Y}
def lh (l:List Int) (k w:Int):Int:=if k∈l then w else 0
def mask (l:List Int):Int:=lh l 0 1+lh l 1 2+lh l 2 4+lh l 3 8
theorem ib (l:List Int) (k w:Int):(k∈l/\lh l k w=w)\/(k∉l/\lh l k w=0):=by
 unfold lh
 by_cases h:k∈l
 ·rw[if_pos h]; exact .inl ⟨h,rfl⟩
 ·rw[if_neg h]; exact .inr ⟨h,rfl⟩
theorem mask_rng (l:List Int):0<=mask l/\mask l<16:=by
 unfold mask
 rcases ib l 0 1 with⟨_,h0⟩|⟨_,h0⟩<;>rcases ib l 1 2 with⟨_,h1⟩|⟨_,h1⟩<;>rcases ib l 2 4 with⟨_,h2⟩|⟨_,h2⟩<;>rcases ib l 3 8 with⟨_,h3⟩|⟨_,h3⟩<;>rw[h0,h1,h2,h3]<;>omega
theorem N2 {l:List Int} (h:∀z∈l,z<2):0<=mask l/\mask l<4:=by
 have n2:(2:Int)∉l:=fun z=>absurd (h 2 z) (by decide)
 have n3:(3:Int)∉l:=fun z=>absurd (h 3 z) (by decide)
 unfold mask;rw[show lh l 2 4=0 from if_neg n2,show lh l 3 8=0 from if_neg n3]
 rcases ib l 0 1 with⟨_,h0⟩|⟨_,h0⟩<;>rcases ib l 1 2 with⟨_,h1⟩|⟨_,h1⟩<;>rw[h0,h1]<;>omega
theorem N0 {l:List Int} (h:∀z∈l,z<3):0<=mask l/\mask l<8:=by
 have n3:(3:Int)∉l:=fun z=>absurd (h 3 z) (by decide)
 unfold mask;rw[show lh l 3 8=0 from if_neg n3]
 rcases ib l 0 1 with⟨_,h0⟩|⟨_,h0⟩<;>rcases ib l 1 2 with⟨_,h1⟩|⟨_,h1⟩<;>rcases ib l 2 4 with⟨_,h2⟩|⟨_,h2⟩<;>rw[h0,h1,h2]<;>omega
theorem mask_inj {l m:List Int} (e:mask l=mask m):(0∈l↔(0:Int)∈m)/\(1∈l↔(1:Int)∈m)/\(2∈l↔(2:Int)∈m)/\(3∈l↔(3:Int)∈m):=by
 unfold mask at e
 rcases ib l 0 1 with⟨a0,h0⟩|⟨a0,h0⟩<;>rcases ib l 1 2 with⟨a1,h1⟩|⟨a1,h1⟩<;>rcases ib l 2 4 with⟨a2,h2⟩|⟨a2,h2⟩<;>rcases ib l 3 8 with⟨a3,h3⟩|⟨a3,h3⟩ <;>
 rcases ib m 0 1 with⟨b0,k0⟩|⟨b0,k0⟩<;>rcases ib m 1 2 with⟨b1,k1⟩|⟨b1,k1⟩<;>rcases ib m 2 4 with⟨b2,k2⟩|⟨b2,k2⟩<;>rcases ib m 3 8 with⟨b3,k3⟩|⟨b3,k3⟩ <;>
 rw[h0,h1,h2,h3,k0,k1,k2,k3] at e<;>first|(exfalso; omega)|exact⟨⟨fun _=>by assumption,fun _=>by assumption⟩,⟨fun _=>by assumption,fun _=>by assumption⟩,⟨fun _=>by assumption,fun _=>by assumption⟩,⟨fun _=>by assumption,fun _=>by assumption⟩⟩|(refine⟨?_,?_,?_,?_⟩<;>constructor<;>intro hh<;>first|assumption|exact absurd hh (by assumption))
def code (b:Int) (N:Nat) (t:jW):Int:=(t.1 * N+t.2.1) * b+mask t.2.2
theorem Rf (h:Y.Wf) {b:Int} (hb:b=4\/b=8\/b=16) {s t:jW} (hs:Y.Ok s) (ht:Y.Ok t) (ms:0<=mask s.2.2/\mask s.2.2<b) (mt:0<=mask t.2.2/\mask t.2.2<b) (e:code b Y.rows.length s=code b Y.rows.length t):s=t:=by
 unfold code at e;obtain⟨m1,m2⟩:=ms;obtain⟨m3,m4⟩:=mt
 have e1:s.1 * Y.rows.length+s.2.1=t.1 * Y.rows.length+t.2.1:=by rcases hb with rfl|rfl|rfl<;>omega
 have e2:mask s.2.2=mask t.2.2:=by rcases hb with rfl|rfl|rfl<;>omega
 have key:∀{a b c d N:Int},0<=b->b<N->0<=d->d<N->a * N+b=c * N+d->a=c/\b=d:=fun {a b c d N} h1 h2 h3 h4 h=>by
  have hN:0<N:=by omega
  have q1:(a * N+b) / N=a:=by rw[Int.add_comm,Int.add_mul_ediv_right _ _ (by omega),Int.ediv_eq_zero_of_lt h1 h2,nZ]
  have q2:(c * N+d) / N=c:=by rw[Int.add_comm,Int.add_mul_ediv_right _ _ (by omega),Int.ediv_eq_zero_of_lt h3 h4,nZ]
  have:a=c:=by rw[←q1,h,q2]
  subst this;exact⟨rfl,by omega⟩
 obtain⟨k1,k2⟩:=key hs.b.1 hs.b.2 ht.b.1 ht.b.2 e1;obtain⟨b0,b1,b2,b3⟩:=mask_inj e2
 have el:s.2.2=t.2.2:=by
  rw[oq hs.l (ns:=t.2.2) fun k=>?_,←oq ht.l (ns:=t.2.2) fun k=>Iff.rfl];have n4:=h.n4
  constructor
  ·intro hk;have:=hs.m k hk
   have:k=0\/k=1\/k=2\/k=3:=by omega
   rcases this with rfl|rfl|rfl|rfl
   ·exact b0.mp hk
   ·exact b1.mp hk
   ·exact b2.mp hk
   ·exact b3.mp hk
  ·intro hk;have:=ht.m k hk
   have:k=0\/k=1\/k=2\/k=3:=by omega
   rcases this with rfl|rfl|rfl|rfl
   ·exact b0.mpr hk
   ·exact b1.mpr hk
   ·exact b2.mpr hk
   ·exact b3.mpr hk
 obtain⟨s1,s2,s3⟩:=s;obtain⟨t1,t2,t3⟩:=t;simp only at k1 k2 el;rw[k1,k2,el]
theorem Ba (h:Y.Wf) {b N:Int} (hb:b=4\/b=8\/b=16) (hN:(Y.rows.length:Int)<=N) (hNb:N * N * b<=1024) {L:List jW} (nd:L.Nodup) (ok:∀t∈L,Y.Ok t) (mk:∀t∈L,0<=mask t.2.2/\mask t.2.2<b):L.length<=1024:=by
 have N1:=h.N1
 have nd2:(L.map (code b Y.rows.length)).Nodup:=by
  unfold List.Nodup;rw[nX];exact List.Pairwise.imp_of_mem (fun {x y} ha hc ne e=>ne (Rf h hb (ok x ha) (ok y hc) (mk x ha) (mk y hc) e)) nd
 have:=wm 1024 (L.map (code b Y.rows.length)) nd2 fun a ha=>by
  obtain⟨t,ht,rfl⟩:=aW.mp ha;have o:=ok t ht;obtain⟨m1,m2⟩:=mk t ht;have a1:=o.a;have b1:=o.b;have p0:0<=t.1 * (Y.rows.length:Int):=Int.mul_nonneg a1.1 (by omega);have p1:t.1 * (Y.rows.length:Int)<=(N - 1) * N:=Int.mul_le_mul (by omega) hN (by omega) (by omega)
  have p2:(N - 1) * N=N * N - N:=by rw[Int.sub_mul,Int.one_mul]
  unfold code
  generalize N * N=NN at *
  constructor
  ·rcases hb with rfl|rfl|rfl<;>omega
  ·show _<((1024:Nat):Int)
   rcases hb with rfl|rfl|rfl<;>omega
 rw[aT] at this;exact this
theorem few (h:Y.Wf) {L:List jW} (nd:L.Nodup) (ok:∀t∈L,Y.Ok t):L.length<=1024:=by
 rcases h.nb with z|z|⟨z,z2⟩
 ·exact Ba h (b:=16) (N:=8) (.inr (.inr rfl)) (by omega) (by decide) nd ok fun t _=>mask_rng _
 ·have:=h.N8
  exact Ba h (b:=4) (N:=12) (.inl rfl) (by omega) (by decide) nd ok fun t ht=>N2 fun k hk=>by have:=(ok t ht).m k hk; omega
 ·exact Ba h (b:=8) (N:=9) (.inr (.inl rfl)) (by omega) (by decide) nd ok fun t ht=>N0 fun k hk=>by have:=(ok t ht).m k hk; omega
end Sys
end Mp
namespace Mp
open Tw
section
variable (h:Int->Int->Bool) (w:Nat->Int)
def j5 (U:List Int) (r r':List Nat):Prop:=∀v∈U,aK h w r v=aK h w r' v
inductive Led (A:Nat->Prop) (l:Bool) (N:Nat) (U:List Int):List Nat->List Nat->Prop
 | refl (r:List Nat):Led A l N U r r
 | symm {r r':List Nat}:Led A l N U r r'->Led A l N U r' r
 | trans {r r' r'':List Nat}:Led A l N U r r'->Led A l N U r' r''->Led A l N U r r''
 | left (a:List Nat) (x:Nat) (b:List Nat):(a++x::b).length<=N->(∀y∈a++x::b,A y)->j5 h w U (a++x::b) (a++b)->Led A l N U (a++x::b) (a++b)
 | turn (a:List Nat) (x y:Nat) (b:List Nat):l=false->(a++y::x::b).length<=N->(∀c∈a++y::x::b,A c)->h (w x) (w y)=false->h (w y) (w x)=false->j5 h w U (a++y::x::b) (a++x::y::b)->Led A l N U (a++y::x::b) (a++x::y::b)
variable {h w} {A:Nat->Prop} {l:Bool} {N:Nat}
theorem all_cons {x:Nat} {r:List Nat} (hx:A x) (hr:∀y∈r,A y):∀y∈x::r,A y:=fun y hy=>by
 rcases aU.mp hy with e|e
 ·rw[e]; exact hx
 ·exact hr y e
theorem iO (x:Nat) (r:List Nat) (q:Int):aK h w (x::r) q=if h (w x) q then .node (aK h w r q) (aK h w r (w x)) x else aK h w r q:=rfl
theorem DA {U:List Int} {x:Nat} {r r':List Nat} (s:j5 h w (w x::U) r r'):j5 h w U (x::r) (x::r'):=fun v hv=>by
 rw[iO,iO,s v (aE _ hv),s (w x) (ao ..)]
theorem Led.cons {U:List Int} {x:Nat} (hx:A x) {r r':List Nat} (d:Led h w A l N (w x::U) r r'):Led h w A l (N+1) U (x::r) (x::r'):=by
 induction d with
 | refl r=>exact .refl _
 | symm _ ih=>exact .symm ih
 | trans _ _ i1 i2=>exact .trans i1 i2
 | left a y b n k s=>exact .left (x::a) y b (uT n) (all_cons hx k) (DA s)
 | turn a y z b e n k n1 n2 s=>exact .turn (x::a) y z b e (uT n) (all_cons hx k) n1 n2 (DA s)
theorem ug:∀(r:List Nat) (N:Nat) (U:List Int),r.length<=N->(∀y∈r,A y)->Led h w A l N U r (bu h w U r)
 | [],_,_,_,_=>.refl _
 | x::r,0,_,n,_=>absurd n (Nat.not_succ_le_zero _)
 | x :: r, N + 1, U, n, k => by
  have k2:∀y∈r,A y:=fun y hy=>k y (aE _ hy)
  unfold bu
  by_cases a:U.any (h (w x))=true
  ·rw[if_pos a];exact .cons (k x (ao ..)) (ug r N (w x::U) (Nat.le_of_succ_le_succ n) k2)
  ·rw[if_neg a];refine .trans (.left [] x r n k fun v hv=>?_) (ug r (N+1) U (Nat.le_of_succ_le n) k2)
   show aK h w (x::r) v=aK h w r v
   rw[iO,if_neg fun q=>a (iK.mpr ⟨v,hv,q⟩)]
theorem wO {x:Nat} {q:List Nat}:∀(z:List Nat) (v:Int),bE h w (fun u=>h (w x) u) z v=true->(aK h w (z++x::q) v).has (aK h w q (w x),x)
 | [],v,e=>by
  have e:h (w x) v=true:=e
  show(aK h w (x::q) v).has _
  rw[iO,if_pos e];exact .inr (.inr rfl)
 | y :: z, v, e => by
  have e:(bE h w (fun u=>h (w x) u) z v || (bE h w (fun u=>h (w x) u) z (w y) && h (w y) v))=true:=e;rw[i3,bN] at e
  show(aK h w (y::(z++x::q)) v).has _
  rw[iO]
  by_cases c:h (w y) v=true
  ·rw[if_pos c]
   rcases e with e|e
   ·exact .inl (wO z v e)
   ·exact .inr (.inl (wO z (w y) e.1))
  ·rw[if_neg c]
   rcases e with e|e
   ·exact wO z v e
   ·exact absurd e.2 c
theorem Ay {L L':Int->Bool} (hL:∀q,L q=true->L' q=true):∀(z:List Nat) (v:Int),bE h w L z v=true->bE h w L' z v=true
 | [],v,e=>hL v e
 | y::z,v,e=>by
  have e:(bE h w L z v || (bE h w L z (w y) && h (w y) v))=true:=e;rw[i3,bN] at e
  show(bE h w L' z v || (bE h w L' z (w y) && h (w y) v))=true
  rw[i3,bN]
  exact e.imp (Ay hL z v) fun e=>⟨Ay hL z (w y) e.1,e.2⟩
theorem uf {L:Int->Bool} (z2:List Nat):∀(z1:List Nat) (v:Int),bE h w (bE h w L z2) z1 v=bE h w L (z1++z2) v
 | [],_=>rfl
 | y::z1,v=>by
  show(bE h w (bE h w L z2) z1 v || (bE h w (bE h w L z2) z1 (w y) && h (w y) v))=(bE h w L (z1++z2) v || (bE h w L (z1++z2) (w y) && h (w y) v))
  rw[uf z2 z1 v,uf z2 z1 (w y)]
theorem Az {L:Int->Bool}:∀(z:List Nat) (v:Int),L v=true->bE h w L z v=true
 | [],_,e=>e
 | y::z,v,e=>by
  show(bE h w L z v || _)=true
  rw[Az z v e,qZ]
theorem zd {t s:Tr} {x:Nat} {v:Int}:∀(p:List Nat),aK h w p v=.node t s x->∃z q,p=z++x::q/\(∀y∈z,h (w y) v=false)/\h (w x) v=true/\aK h w q v=t/\aK h w q (w x)=s
 | [],e=>(nomatch e)
 | y :: p, e => by
  rw[iO] at e
  by_cases c:h (w y) v=true
  ·rw[if_pos c] at e
   injection e with e1 e2 e3
   subst e3;exact⟨[],p,rfl,fun _ z=>(nomatch z),c,e1,e2⟩
  ·rw[if_neg c] at e;obtain⟨z,q,rfl,h1,h2,h3,h4⟩:=zd p e;refine⟨y::z,q,rfl,fun u hu=>?_,h2,h3,h4⟩
   rcases aU.mp hu with rfl|hu
   ·exact Bool.not_eq_true _▸c
   ·exact h1 u hu
end
end Mp
namespace Mp
open Tw
section
variable {h:Int->Int->Bool} {w:Nat->Int} {A:Nat->Prop} {l:Bool} {N:Nat}
theorem Fk {L:Int->Bool}:∀(z:List Nat) (v:Int),(∀z1 y z2,z=z1++y::z2->bE h w L z2 (w y)=false)->bE h w L z v=true->L v=true
 | [],_,_,e=>e
 | y::z,v,a,e=>by
  have e:(bE h w L z v || (bE h w L z (w y) && h (w y) v))=true:=e;rw[a [] y z rfl,Bool.false_and,Bool.or_false] at e;exact Fk z v (fun z1 c z2 q=>a (y::z1) c z2 (by rw[q]<;>rfl)) e
theorem E7 {U:List Int} {x:Nat} {q:List Nat} (hh:∀p,h p p=true) (z:List Nat) (hn:(z++x::q).length<=N) (hk:∀y∈z++x::q,A y) (hA:∀z1 y z2,z=z1++y::z2->bE h w (fun u=>h (w x) u) z2 (w y)=false) (hB:∀y∈z,h (w y) (w x)=false) (hC:∀v∈U,h (w x) v=true->∀y∈z,h (w y) v=false):∀(z2 z1:List Nat),z=z1++z2->Led h w A false N U (z++x::q) (z1++x::(z2++q))
 | [],z1,e=>by
  rw[b6] at e;subst e;exact .refl _
 | y :: z2, z1, e => by
  have i:=E7 (q:=q) hh z hn hk hA hB hC z2 (z1++[y]) (by rw[e,dI]<;>rfl);rw[dI] at i;refine .trans i ?_
  have ym:y∈z:=by rw[e]; exact aJ _ (ao ..)
  have n2:=hB y ym
  have n1:h (w x) (w y)=false:=by
   cases c:h (w x) (w y) with
   | false=>rfl
   | true =>
    have:=hA z1 y z2 e;rw[Az z2 (w y) c] at this
    cases this
  refine .turn z1 x y (z2++q) rfl (by rw[e] at hn; simp only[List.length_append,List.length_cons] at hn ⊢; omega) (fun c hc=>hk c ?_) n1 n2 fun v hv=>?_
  ·rw[e];simp only[List.mem_append,List.mem_cons] at hc ⊢
   rcases hc with k|k|k|k|k<;>simp[k]
  refine(qv h w (fun u=>yZ h w hh n1 n2 (z2++q) u) z1 v).mpr ?_
  cases c:bE h w (fun u=>h (w x) u && h (w y) u) z1 v with
  | false=>rfl
  | true =>
   exfalso
   have b:=Fk z1 v (fun za c zb ez=>by
    cases d:bE h w (fun u=>h (w x) u && h (w y) u) zb (w c) with
    | false=>rfl
    | true =>
     have m:=Ay (L':=bE h w (fun u=>h (w x) u) (y::z2)) (fun u hu=>Az (y::z2) u (Bool.and_eq_true_iff.mp hu).1) zb (w c) d;rw[uf] at m;have:=hA za c (zb++y::z2) (by rw[e,ez,dI]<;>rfl);rw[this] at m
     cases m) c
   have b:(h (w x) v && h (w y) v)=true:=b;rw[bN] at b;have:=hC v hv b.1 y ym;rw[this] at b
   cases b.2
theorem Oo {U:List Int} {r r':List Nat} (d:Led h w A l N U r r'):j5 h w U r r':=by
 induction d with
 | refl r=>exact fun _ _=>rfl
 | symm _ ih=>exact fun v hv=>(ih v hv).symm
 | trans _ _ i1 i2=>exact fun v hv=>(i1 v hv).trans (i2 v hv)
 | left a y b _ _ s=>exact s
 | turn a y z b _ _ _ n1 n2 s=>exact s
theorem AY {e:Tr×Nat} {y:Nat} {t1:Tr} (h1:t1.has e):∀{t:Tr},t.has (t1,y)->t.has e
 | .nil,z=>z.elim
 | .node t s x, z => by
  rcases z with z|z|z
  ·exact .inl (AY h1 z)
  ·exact .inr (.inl (AY h1 z))
  ·have:t1=s:=(Prod.ext_iff.mp z).1;exact .inr (.inl (this▸h1))
theorem JR (y:Nat) (r:List Nat) (v:Int):(aK h w r v).size<=(aK h w (y::r) v).size:=by
 rw[iO];split
 ·show _<=_+_+1
  omega
 ·exact bS _
theorem rX:∀(z r:List Nat) (v:Int),(aK h w r v).size<=(aK h w (z++r) v).size
 | [],_,_=>bS _
 | y::z,r,v=>dH (rX z r v) (JR y (z++r) v)
theorem ze (hh:∀p,h p p=true) (x:Nat) (r:List Nat):(aK h w r (w x)).size<(aK h w (x::r) (w x)).size:=by
 rw[iO,if_pos (hh _)]
 show _<_+_+1
 omega
theorem sQ:∀(r:List Nat) (U:List Int),bu h w U (bu h w U r)=bu h w U r
 | [],_=>rfl
 | x :: r, U => by
  by_cases a:U.any (h (w x))=true
  ·have e:bu h w U (x::r)=x::bu h w (w x::U) r:=by
    show(if U.any (h (w x)) then _ else _)=_
    rw[if_pos a]
   rw[e]
   show(if U.any (h (w x)) then x::bu h w (w x::U) (bu h w (w x::U) r) else _)=_
   rw[if_pos a,sQ r]
  ·have e:bu h w U (x::r)=bu h w U r:=by
    show(if U.any (h (w x)) then _ else _)=_
    rw[if_neg a]
   rw[e];exact sQ r U
theorem pZ:∀(r:List Nat) (U:List Int),(bu h w U r).length<=r.length
 | [],_=>bS _
 | x::r,U=>by
  unfold bu;split
  ·exact uT (pZ r _)
  ·exact Nat.le_succ_of_le (pZ r U)
theorem zN {x:Nat} {r:List Nat} {U:List Int} (e:bu h w U (x::r)=x::r):U.any (h (w x))=true/\bu h w (w x::U) r=r:=by
 unfold bu at e
 by_cases a:U.any (h (w x))=true
 ·rw[if_pos a] at e
  injection e with _ e
  exact⟨a,e⟩
 ·rw[if_neg a] at e;have:=pZ (h:=h) (w:=w) r U;rw[e,cR] at this;omega
theorem zM {y:Nat} {b:List Nat}:∀(a:List Nat) (U:List Int),bu h w U (a++y::b)=a++y::b->(aK h w b (w y),y)∈iD h w U (a++y::b)
 | [],U,e=>by
  obtain⟨c,_⟩:=zN e
  show _∈(if U.any (h (w y)) then _ else _)
  rw[if_pos c];exact ao ..
 | x::a,U,e=>by
  obtain⟨c,e2⟩:=zN e
  show _∈(if U.any (h (w x)) then _ else _)
  rw[if_pos c];exact aE _ (zM a _ e2)
theorem Bc {e:Tr×Nat} {v:Int} (hv:h (w e.2) v=true):∀(r:List Nat) (U:List Int),e∈iD h w U r->(aK h w r v).has e
 | [],_,z=>nomatch z
 | x :: r, U, z => by
  rw[iO]
  have up:(aK h w r v).has e->(if h (w x) v then Tr.node (aK h w r v) (aK h w r (w x)) x else aK h w r v).has e:=fun q=>by
   split
   ·exact .inl q
   ·exact q
  unfold iD at z;split at z
  ·rcases aU.mp z with rfl|z
   ·rw[if_pos hv];exact .inr (.inr rfl)
   ·exact up (Bc hv r _ z)
  ·exact up (Bc hv r _ z)
end
end Mp
namespace Mp
open Tw
section
variable {h:Int->Int->Bool} {w:Nat->Int} {A:Nat->Prop} {N:Nat}
theorem Go {U:List Int} {r r':List Nat} (s:j5 h w U r r') (e:Tr×Nat):e∈iD h w U r↔e∈iD h w U r':=by
 rw[oE,oE];exact⟨fun⟨v,m,q⟩=>⟨v,m,s v m▸q⟩,fun⟨v,m,q⟩=>⟨v,m,(s v m).symm▸q⟩⟩
theorem Fq (hh:∀p,h p p=true):∀(p:List Nat) (N:Nat) (U:List Int) (r':List Nat),p.length<=N->r'.length<=N->bu h w U p=p->(∀y∈p,A y)->(∀y∈r',A y)->j5 h w U p r'->Led h w A false N U p r'
 | [], N, U, r', _, nr, _, _, kr, s => by
  refine .trans ?_ (.symm (ug r' N U nr kr))
  cases e:bu h w U r' with
  | nil=>exact .refl _
  | cons y b =>
   have ri:=sQ r' U (h:=h) (w:=w);rw[e] at ri;have ev:=zM (h:=h) (w:=w) [] U ri
   have s2:j5 h w U [] (y::b):=fun v hv=>by rw[s v hv,←pR h w r' U v hv,e]
   have:=(Go s2 _).mpr ev
   cases this
 | x::p0,0,U,r',np,nr,e,kp,kr,s=>absurd np (Nat.not_succ_le_zero _)
 | x :: p0, N + 1, U, r', np, nr, e, kp, kr, s => by
  obtain⟨ua,e0⟩:=zN e;obtain⟨v0,m0,h0⟩:=iK.mp ua;refine .trans ?_ (.symm (ug r' (N+1) U nr kr));have nq:(bu h w U r').length<=N+1:=dH (pZ r' U) nr
  have kq:∀y∈bu h w U r',A y:=fun y hy=>kr y ((vZ h w r' U).subset hy)
  have s1:j5 h w U (x::p0) (bu h w U r'):=fun v hv=>(s v hv).trans (pR h w r' U v hv).symm
  have ri:=sQ r' U (h:=h) (w:=w)
  generalize bu h w U r'=p' at s1 ri kq nq
  have t0:aK h w p' v0=.node (aK h w p0 v0) (aK h w p0 (w x)) x:=by
   rw[←s1 v0 m0,iO,if_pos h0]
  obtain⟨z,q,rfl,z1,_,z3,z4⟩:=zd p' t0;have nd:=zO hh (x::p0) U (w:=w)
  have re:iD h w U (x::p0)=(aK h w p0 (w x),x)::iD h w (w x::U) p0:=by
   show(if U.any (h (w x)) then _ else _)=_
   rw[if_pos ua]
  rw[re] at nd;have nd1:=(bT.mp nd).1
  -- the event of an action of z is one of p0's
  have evz:∀za y zb,z=za++y::zb->(aK h w (zb++x::q) (w y),y)∈iD h w (w x::U) p0:=fun za y zb ez=>by
   have ep:z++x::q=za++y::(zb++x::q):=by rw[ez,dI]<;>rfl
   have ev:=zM (h:=h) (w:=w) (y:=y) (b:=zb++x::q) za U (by rw[←ep]; exact ri);rw[←ep] at ev;have ev:=(Go s1 _).mpr ev;rw[re] at ev
   rcases aU.mp ev with c|c
   ·exfalso
    have c1:aK h w (zb++x::q) (w y)=aK h w p0 (w x):=(Prod.ext_iff.mp c).1;have c2:y=x:=(Prod.ext_iff.mp c).2;subst c2;have g1:=rX (h:=h) (w:=w) zb (y::q) (w y);have g2:=ze (w:=w) hh y q;rw[c1,←z4] at g1;omega
   ·exact c
  have hA:∀za y zb,z=za++y::zb->bE h w (fun u=>h (w x) u) zb (w y)=false:=fun za y zb ez=>by
   cases c:bE h w (fun u=>h (w x) u) zb (w y) with
   | false=>rfl
   | true =>
    exfalso
    have hs:=wO (x:=x) (q:=q) zb (w y) c;obtain⟨v,hv,tv⟩:=(oE h w _ p0 (w x::U)).mp (evz za y zb ez);refine nd1 ((oE h w _ p0 (w x::U)).mpr ⟨v,hv,?_⟩);rw[←z4];exact AY hs tv
  have hB:∀y∈z,h (w y) (w x)=false:=fun y hy=>by
   cases c:h (w y) (w x) with
   | false=>rfl
   | true =>
    exfalso
    obtain⟨za,zb,ez⟩:=List.append_of_mem hy;have ev:=evz za y zb ez;have hs:=Bc (h:=h) (w:=w) (v:=w x) c p0 _ ev;rw[←z4] at hs;have l:=v4 hh q [w x] _ ((oE h w _ q [w x]).mpr ⟨w x,bm.mpr rfl,hs⟩);have g:=rX (h:=h) (w:=w) (zb++[x]) q (w y);rw[dI] at g;have l:(aK h w (zb++x::q) (w y)).size<(aK h w q (w y)).size:=l;have g:(aK h w q (w y)).size<=(aK h w (zb++x::q) (w y)).size:=g;omega
  have hC:∀v∈U,h (w x) v=true->∀y∈z,h (w y) v=false:=fun v hv c y hy=>by
   have tv:aK h w (z++x::q) v=.node (aK h w p0 v) (aK h w p0 (w x)) x:=by
    rw[←s1 v hv,iO,if_pos c]
   obtain⟨za,qa,ez,y1,_,_,y4⟩:=zd _ tv
   have zz:z=za:=by
    rcases List.append_eq_append_iff.mp ez with⟨m,m1,m2⟩|⟨m,m1,m2⟩
    ·cases m with
     | nil=>rw[b6] at m1; exact m1.symm
     | cons c m =>
      exfalso
      injection m2 with e1 e2
      have e2:q=m++x::qa:=e2;have g1:=rX (h:=h) (w:=w) m (x::qa) (w x);have g2:=ze (w:=w) hh x qa;rw[←e2,z4,←y4] at g1;omega
    ·cases m with
     | nil=>rw[b6] at m1; exact m1
     | cons c m =>
      exfalso
      injection m2 with e1 e2
      have e2:qa=m++x::q:=e2;have g1:=rX (h:=h) (w:=w) m (x::q) (w x);have g2:=ze (w:=w) hh x q;rw[←e2,y4,←z4] at g1;omega
   exact y1 y (zz▸hy)
  have mv:=E7 (q:=q) hh z nq kq hA hB hC z [] rfl;have mv:Led h w A false (N+1) U (z++x::q) (x::(z++q)):=mv
  have s2:j5 h w U (x::p0) (x::(z++q)):=fun v hv=>(s1 v hv).trans (Oo mv v hv)
  refine .trans (.cons (kp x (ao ..)) (Fq hh p0 N (w x::U) (z++q) (Nat.le_of_succ_le_succ np) (by simp only[List.length_append,List.length_cons] at nq ⊢; omega) e0 (fun y hy=>kp y (aE _ hy)) (fun y hy=>kq y ?_) fun v hv=>?_)) (.symm mv)
  ·rcases bc.mp hy with k|k
   ·exact au _ k
   ·exact aJ _ (aE _ k)
  have k0:=s2 v0 m0;rw[iO,iO,if_pos h0,if_pos h0] at k0
  injection k0 with k1 k2
  rcases aU.mp hv with rfl|hv
  ·exact k2
  ·have kv:=s2 v hv;rw[iO,iO] at kv
   by_cases c:h (w x) v=true
   ·rw[if_pos c,if_pos c] at kv;injection kv
   ·rw[if_neg c,if_neg c] at kv;exact kv
theorem Op (hh:∀p,h p p=true) {U:List Int} {r r':List Nat} (n:r.length<=N) (n':r'.length<=N) (k:∀y∈r,A y) (k':∀y∈r',A y) (s:j5 h w U r r'):Led h w A false N U r r' :=
 .trans (ug r N U n k) (Fq hh _ N U r' (dH (pZ r U) n) n' (sQ r U) (fun y hy=>k y ((vZ h w r U).subset hy)) k' fun v hv=>(pR h w r U v hv).trans (s v hv))
end
end Mp
namespace Mp
open PySem L2 Tw
section
variable {f:Int->List Int} {h:Int->Int->Bool} {w:Nat->Int}
def eY (f:Int->List Int) (L:List Int) (u:Int):List Int:=if u∈L then uI (L++f u) else L
theorem vD {L:List Int} {u k:Int}:k∈eY f L u↔k∈L\/(u∈L/\k∈f u):=by
 unfold eY
 by_cases m:u∈L
 ·rw[if_pos m,pQ,bc];exact⟨fun z=>z.imp id fun z=>⟨m,z⟩,fun z=>z.imp id fun z=>z.2⟩
 ·rw[if_neg m];exact⟨.inl,fun z=>z.elim id fun z=>absurd z.1 m⟩
theorem op (hf:∀p q,q∈f p↔h p q=true):∀(zs:List Nat) (H:List Int) (L:Int->Bool),(∀q,q∈H↔L q=true)->∀q,q∈(zs.map w).foldl (eY f) H↔bE h w L zs.reverse q=true
 | [],_,_,hL,q=>hL q
 | z :: zs, H, L, hL, q => by
  have ih:=op hf zs (eY f H (w z)) (bE h w L [z]) (fun q=>by
   rw[vD,hL,hL,hf]
   show _↔(L q || (L (w z) && h (w z) q))=true
   rw[i3,bN]) q
  rw[bU,List.foldl_cons,ih,uf,pB]
abbrev Kq:=List Int×List Int×List Int
def b8 (f:Int->List Int) (K:Kq) (u:Int):Kq:=(eY f K.1 u,eY f K.2.1 u,eY f K.2.2 u)
def key0 (f:Int->List Int) (p q:Int):Kq:=(f p,f q,(f p).filter fun k=>decide (k∈f q))
theorem qQ:∀(zs:List Int) (K:Kq),zs.foldl (b8 f) K=(zs.foldl (eY f) K.1,zs.foldl (eY f) K.2.1,zs.foldl (eY f) K.2.2)
 | [],_=>rfl
 | z::zs,K=>qQ zs (b8 f K z)
def f0 (n:Nat) (zs:List Int):Prop:=∀u∈zs,0<=u/\u<(n:Int)
def kg (f:Int->List Int) (n:Nat) (K0 K:Kq):Prop:=∃zs,f0 n zs/\K=zs.foldl (b8 f) K0
def j9 (K:Kq) (k:Int):Prop:=k∈K.1/\k∈K.2.1/\k∉K.2.2
def iN (f:Int->List Int) (n:Nat) (p q:Int):Prop:=∃K k,kg f n (key0 f p q) K/\j9 K k
theorem LY (n:Nat) (K:Kq):kg f n K K:=⟨[],(fun _ z=>nomatch z),rfl⟩
theorem DM {n:Nat} {K0 K:Kq} (r:kg f n K0 K) {u:Int} (hu:0<=u/\u<(n:Int)):kg f n K0 (b8 f K u):=by
 obtain⟨zs,hz,rfl⟩:=r;refine⟨zs++[u],fun v hv=>?_,by rw[List.foldl_append]<;>rfl⟩
 rcases bc.mp hv with hv|hv
 ·exact hz v hv
 ·rw[bm.mp hv];exact hu
theorem GJ {n:Nat} {F:List Kq} (hF:∀K∈F,∀u,0<=u->u<(n:Int)->b8 f K u∈F):∀(zs:List Int) (K:Kq),f0 n zs->K∈F->zs.foldl (b8 f) K∈F
 | [],_,_,h=>h
 | z::zs,K,hz,h=>GJ hF zs (b8 f K z) (fun u hu=>hz u (aE _ hu)) (hF K h z (hz z (ao ..)).1 (hz z (ao ..)).2)
structure OkK (n:Nat) (K:Kq):Prop where
 a:K.1.Pairwise (·<·)
 b:K.2.1.Pairwise (·<·)
 c:K.2.2.Pairwise (·<·)
 a':f0 n K.1
 b':f0 n K.2.1
 c':f0 n K.2.2
theorem zq {L:List Int} (hL:L.Pairwise (·<·)) (u:Int):(eY f L u).Pairwise (·<·):=by
 unfold eY;split
 ·exact vw _
 ·exact hL
theorem vE {n:Nat} (fo:∀p,0<=p->p<(n:Int)->f0 n (f p)) {L:List Int} (hL:f0 n L) {u:Int}:f0 n (eY f L u):=fun k hk=>by
 rcases vD.mp hk with hk|⟨hu,hk⟩
 ·exact hL k hk
 ·exact fo u (hL u hu).1 (hL u hu).2 k hk
theorem OkK.step {n:Nat} {K:Kq} (fo:∀p,0<=p->p<(n:Int)->f0 n (f p)) (o:OkK n K) (u:Int):OkK n (b8 f K u):=⟨zq o.a u,zq o.b u,zq o.c u,vE fo o.a',vE fo o.b',vE fo o.c'⟩
theorem Bp {n:Nat} (n4:n<=4) {l m:List Int} (hl:l.Pairwise (·<·)) (hm:m.Pairwise (·<·)) (il:f0 n l) (im:f0 n m) (e:Sys.mask l=Sys.mask m):l=m:=by
 obtain⟨b0,b1,b2,b3⟩:=Sys.mask_inj e;rw[oq hl (ns:=m) fun k=>?_,←oq hm (ns:=m) fun k=>Iff.rfl]
 constructor
 ·intro hk;have:=il k hk
  have:k=0\/k=1\/k=2\/k=3:=by omega
  rcases this with rfl|rfl|rfl|rfl
  ·exact b0.mp hk
  ·exact b1.mp hk
  ·exact b2.mp hk
  ·exact b3.mp hk
 ·intro hk;have:=im k hk
  have:k=0\/k=1\/k=2\/k=3:=by omega
  rcases this with rfl|rfl|rfl|rfl
  ·exact b0.mpr hk
  ·exact b1.mpr hk
  ·exact b2.mpr hk
  ·exact b3.mpr hk
def qS (K:Kq):Int:=Sys.mask K.1+16 * Sys.mask K.2.1+256 * Sys.mask K.2.2
theorem Rg {n:Nat} (n4:n<=4) {K L:Kq} (hK:OkK n K) (hL:OkK n L) (e:qS K=qS L):K=L:=by
 have a1:=Sys.mask_rng K.1;have a2:=Sys.mask_rng K.2.1;have a3:=Sys.mask_rng K.2.2;have b1:=Sys.mask_rng L.1;have b2:=Sys.mask_rng L.2.1;have b3:=Sys.mask_rng L.2.2;unfold qS at e;have e1:=Bp n4 hK.a hL.a hK.a' hL.a' (by omega);have e2:=Bp n4 hK.b hL.b hK.b' hL.b' (by omega);have e3:=Bp n4 hK.c hL.c hK.c' hL.c' (by omega);exact Prod.ext e1 (Prod.ext e2 e3)
theorem A9 {n:Nat} (n4:n<=4) {F:List Kq} (nd:F.Nodup) (ok:∀K∈F,OkK n K):F.length<=4096:=by
 have nd2:(F.map qS).Nodup:=by
  unfold List.Nodup;rw[nX];exact List.Pairwise.imp_of_mem (fun {x y} ha hc ne e=>ne (Rg n4 (ok x ha) (ok y hc) e)) nd
 have:=wm 4096 (F.map qS) nd2 fun a ha=>by
  obtain⟨K,hK,rfl⟩:=aW.mp ha;have a1:=Sys.mask_rng K.1;have a2:=Sys.mask_rng K.2.1;have a3:=Sys.mask_rng K.2.2;unfold qS
  show _/\_<((4096:Nat):Int)
  omega
 rw[aT] at this;exact this
theorem Gi {H H':List Int} (e:∀k,k∈H↔k∈H'):∀(zs:List Int) (k:Int),k∈zs.foldl (eY f) H↔k∈zs.foldl (eY f) H'
 | [],k=>e k
 | z::zs,k=>Gi (H:=eY f H z) (H':=eY f H' z) (fun k=>by rw[vD,vD,e,e]) zs k
theorem iN.symm {n:Nat} {p q:Int} (g:iN f n p q):iN f n q p:=by
 obtain⟨K,k,⟨zs,hz,rfl⟩,h1,h2,h3⟩:=g;rw[qQ] at h1 h2 h3;refine⟨_,k,⟨zs,hz,rfl⟩,?_⟩;rw[qQ];refine⟨h2,h1,fun z=>h3 ((Gi (fun j=>?_) zs k).mp z)⟩
 show j∈(f q).filter (fun k=>decide (k∈f p))↔j∈(f p).filter fun k=>decide (k∈f q)
 rw[gL,gL,decide_eq_true_eq,decide_eq_true_eq];exact And.comm
end
section
variable {h:Int->Int->Bool} {w:Nat->Int}
theorem sP {x:Nat} {b:List Nat}:∀(a:List Nat) (U:List Int),(∀v∈U,bE h w (fun q=>h (w x) q) a v=false)->bu h w U (a++x::b)=bu h w U (a++b)
 | [], U, hU => by
  have e:U.any (h (w x))=false:=List.any_eq_false.mpr fun v hv=>by
   have:=hU v hv
   show ¬h (w x) v=true
   rw[show h (w x) v=false from this];exact kn
  show(if U.any (h (w x))=true then _ else bu h w U b)=bu h w U b
  rw[e,if_neg kn]
 | y :: a, U, hU => by
  have hU2:∀v∈U,bE h w (fun q=>h (w x) q) a v=false/\(bE h w (fun q=>h (w x) q) a (w y) && h (w y) v)=false:=fun v hv=>by
   have:=hU v hv;have e:(bE h w (fun q=>h (w x) q) a v || (bE h w (fun q=>h (w x) q) a (w y) && h (w y) v))=false:=this;exact Bool.or_eq_false_iff.mp e
  show(if U.any (h (w y))=true then y::bu h w (w y::U) (a++x::b) else bu h w U (a++x::b))=(if U.any (h (w y))=true then y::bu h w (w y::U) (a++b) else bu h w U (a++b))
  by_cases c:U.any (h (w y))=true
  ·rw[if_pos c,if_pos c,sP a (w y::U) fun v hv=>?_]
   rcases aU.mp hv with rfl|hv
   ·obtain⟨u,hu,hh⟩:=iK.mp c;have:=(hU2 u hu).2;rw[hh,Bool.and_true] at this;exact this
   ·exact(hU2 v hv).1
  ·rw[if_neg c,if_neg c,sP a U fun v hv=>(hU2 v hv).1]
theorem Oi {x y:Nat} (n1:h (w x) (w y)=false) (a:List Nat) (v:Int):bE h w (fun q=>h (w x) q) (a++[y]) v=bE h w (fun q=>h (w x) q) a v:=by
 rw[←uf]
 congr 1
 funext q
 show(h (w x) q || (h (w x) (w y) && h (w y) q))=h (w x) q
 rw[n1,Bool.false_and,Bool.or_false]
def GZ (h:Int->Int->Bool) (w:Nat->Int) (A:Nat->Prop):Prop:=∀x y (a:List Nat),A x->A y->(∀z∈a,A z)->h (w x) (w y)=false->h (w y) (w x)=false->∀u,bE h w (fun q=>h (w x) q) a u=true->bE h w (fun q=>h (w y) q) a u=true->bE h w (fun q=>h (w x) q && h (w y) q) a u=true
theorem LW (hh:∀p,h p p=true) {A:Nat->Prop} (ng:GZ h w A) {l:Bool} {N:Nat} {u:Int} {r r':List Nat} (d:Led h w A l N [u] r r'):bu h w [u] r=bu h w [u] r':=by
 induction d with
 | refl r=>rfl
 | symm _ ih=>exact ih.symm
 | trans _ _ i1 i2=>exact i1.trans i2
 | left a x b _ _ s =>
  refine sP a [u] fun v hv=>?_
  have e:=s u (bm.mpr rfl);have:=(qv h w (fun q=>On h w x b q) a u).mp e;rw[bm.mp hv];exact this
 | turn a x y b _ _ k n1 n2 s =>
  have e:=s u (bm.mpr rfl);have nl:=(qv h w (fun q=>yZ h w hh n1 n2 b q) a u).mp e
  have hA:∀c∈a++y::x::b,A c:=k
  have ax:A x:=hA x (by simp);have ay:A y:=hA y (by simp)
  have aa:∀z∈a,A z:=fun z hz=>hA z (by simp[hz])
  have one:∀{x y:Nat},h (w x) (w y)=false->bE h w (fun q=>h (w x) q) a u=false->bu h w [u] (a++y::x::b)=bu h w [u] (a++x::y::b):=fun {x y} n1 c=>by
   have e1:bu h w [u] (a++y::x::b)=bu h w [u] (a++y::b):=by
    have:=sP (h:=h) (w:=w) (x:=x) (b:=b) (a++[y]) [u] fun v hv=>by
     rw[bm.mp hv,Oi n1];exact c
    rw[dI,dI] at this;exact this
   have e2:bu h w [u] (a++x::y::b)=bu h w [u] (a++y::b):=sP a [u] fun v hv=>by
    rw[bm.mp hv];exact c
   rw[e1,e2]
  cases c1:bE h w (fun q=>h (w x) q) a u with
  | false=>exact one n1 c1
  | true =>
   cases c2:bE h w (fun q=>h (w y) q) a u with
   | false=>exact(one n2 c2).symm
   | true =>
    have:=ng x y a ax ay aa n1 n2 u c1 c2;rw[nl] at this
    cases this
def eW (h:Int->Int->Bool) (w:Nat->Int):List Int->List Nat->List Int
 | U,[]=>U
 | U,y::a=>if U.any (h (w y)) then eW h w (w y::U) a else eW h w U a
theorem sR (b:List Nat):∀(a:List Nat) (U:List Int),bu h w U (a++b)=bu h w U a++bu h w (eW h w U a) b
 | [],_=>rfl
 | y::a,U=>by
  show(if U.any (h (w y))=true then y::bu h w (w y::U) (a++b) else bu h w U (a++b))=(if U.any (h (w y))=true then y::bu h w (w y::U) a else bu h w U a)++bu h w (if U.any (h (w y)) then eW h w (w y::U) a else eW h w U a) b
  by_cases c:U.any (h (w y))=true
  ·rw[if_pos c,if_pos c,if_pos c,sR b a]<;>rfl
  ·rw[if_neg c,if_neg c,if_neg c,sR b a]
theorem rV {x:Nat}:∀(a:List Nat) (U:List Int) (v:Int),v∈U->bE h w (fun q=>h (w x) q) a v=true->(eW h w U a).any (h (w x))=true
 | [],U,v,hv,e=>iK.mpr ⟨v,hv,e⟩
 | y :: a, U, v, hv, e => by
  have e:(bE h w (fun q=>h (w x) q) a v || (bE h w (fun q=>h (w x) q) a (w y) && h (w y) v))=true:=e
  show(if U.any (h (w y)) then eW h w (w y::U) a else eW h w U a).any (h (w x))=true
  rw[i3,bN] at e
  by_cases c:U.any (h (w y))=true
  ·rw[if_pos c]
   rcases e with e|e
   ·exact rV a _ v (aE _ hv) e
   ·exact rV a _ (w y) (ao ..) e.1
  ·rw[if_neg c]
   rcases e with e|e
   ·exact rV a _ v hv e
   ·exact absurd (iK.mpr ⟨v,hv,e.2⟩) c
theorem any_cons {U:List Int} {g:Int->Bool} {v:Int} (e:U.any g=true):(v::U).any g=true:=by
 obtain⟨u,hu,e⟩:=iK.mp e;exact iK.mpr ⟨u,aE _ hu,e⟩
theorem LV {x y:Nat} (a:List Nat) {u:Int} (c1:bE h w (fun q=>h (w x) q) a u=true) (c2:bE h w (fun q=>h (w y) q) a u=true) (ne:x≠y):bu h w [u] (a++[x,y])≠bu h w [u] (a++[y,x]):=by
 have k1:=rV a [u] u (bm.mpr rfl) c1;have k2:=rV a [u] u (bm.mpr rfl) c2;rw[sR,sR]
 have two:∀{U:List Int} {x y:Nat},U.any (h (w x))=true->U.any (h (w y))=true->bu h w U [x,y]=[x,y]:=fun {U x y} k1 k2=>by
  show(if U.any (h (w x))=true then x::(if (w x::U).any (h (w y))=true then [y] else []) else _)=_
  rw[if_pos k1,if_pos (any_cons k2)]
 rw[two k1 k2,two k2 k1];intro e;have:=List.append_cancel_left e
 injection this with e1
 exact ne e1
end
end Mp
namespace Mp
open PySem L2 Tw
local macro_rules | `(tactic| wtm_at "at") => `(tactic| first | exact SetAt.z | (apply SetAt.s; wtm_at "at"))
local macro_rules | `(tactic| wtm_at "st") => `(tactic| first | exact StA.z | (apply StA.c; wtm_at "st") | (apply StA.n; wtm_at "st"))
local macro_rules | `(tactic| wtm_at "gat") => `(tactic| first | (with_reducible exact Qf) | ((with_reducible apply Qo); wtm_at "at") | ((with_reducible apply Qm); (focus rfl); wtm_at "gat") | ((with_reducible apply Qg); (focus wtm_at "gat"); wtm_at "gat"))
local macro_rules | `(tactic| wtm_at "pat") => `(tactic| first | (with_reducible exact L8) | ((with_reducible apply L9); (focus wtm_at "at"); wtm_at "pat") | (with_reducible exact Mb) | ((with_reducible apply Ma); (focus wtm_at "at"); wtm_at "pat"))
local macro_rules | `(tactic| wtm_at "gg") => `(tactic| with_reducible first | exact JK | exact JM | exact JL | exact JN | exact OG | exact OH | exact Pf | exact Ph | exact FS | exact NF | exact Pg | exact eP _ _ | exact fU _ _ | exact gj _ _ | exact fx _ _ | exact fY _ _ | exact fZ _ _ | exact gb _ _ | exact fA _ _ | exact eM _ | exact mU _ | assumption | exact JJ)
local macro_rules | `(tactic| wtm_at "nm") => `(tactic| dsimp only [ei, aA, db, List.set_cons_zero, List.set_cons_succ, List.getElem?_cons_zero, List.getElem?_cons_succ, Option.join_some, Option.join_none])
local macro_rules | `(tactic| wtm_at "w1") => `(tactic| first
 | (with_reducible refine Jh ?_)
 | ((with_reducible apply H9); (focus exact rfl))
 | (with_reducible refine Is ?_)
 | (with_reducible refine Cg ?_)
 | (with_reducible refine IZ ?_)
 | (with_reducible refine Ir ?_)
 | ((with_reducible apply Bb); (focus wtm_at "gg"))
 | ((with_reducible apply Qz); (focus wtm_at "at"))
 | ((with_reducible apply Bb); (focus wtm_at "gat"))
 | ((with_reducible apply Bb); (focus wtm_at "pat"))
 | (with_reducible refine QG ?_)
 | (with_reducible refine QE ?_)
 | (with_reducible refine Qy ?_)
 | (with_reducible refine QF ?_)
 | (with_reducible refine QB ?_)
 | (with_reducible refine Cn ?_)
 | (with_reducible refine IV ?_)
 | (with_reducible refine Jk ?_)
 | (with_reducible refine Jl ?_)
 | (with_reducible refine Iu ?_)
 | (with_reducible refine Iy ?_)
 | (with_reducible refine Iv ?_)
 | ((with_reducible apply Ix); (focus exact rfl); (focus wtm_at "at"))
 | ((with_reducible apply Iw); (focus exact rfl))
 | ((with_reducible apply QD); (focus exact rfl); (focus wtm_at "at"))
 | (with_reducible refine Jg ?_)
 | (with_reducible refine Jf ?_)
 | (with_reducible refine Ia ?_)
 | (with_reducible refine IH ?_)
 | ((with_reducible apply RJ); (focus (first | omega | (simp only [List.length_cons, List.length_nil]; omega))))
 | (with_reducible refine Js ?_)
 | (with_reducible refine Jr ?_)
 | (with_reducible refine Ox ?_)
 | (with_reducible refine Ow ?_)
 | (with_reducible refine Qt ?_)
 | (with_reducible refine Qv ?_)
 | (with_reducible refine Qs ?_)
 | (with_reducible refine Qu ?_)
 | (with_reducible refine Ih ?_)
 | (with_reducible refine yu ?_)
 | (with_reducible refine IC ?_)
 | (with_reducible refine Ji ?_)
 | (with_reducible refine Ig ?_)
 | (with_reducible refine Ik ?_)
 | (with_reducible refine Ij ?_)
 | (with_reducible refine I6 ?_)
 | (with_reducible refine Ip ?_)
 | (with_reducible refine Io ?_)
 | (with_reducible refine Ii ?_)
 | (with_reducible refine IU ?_)
 | (with_reducible refine IA ?_)
 | (with_reducible refine Cd ?_)
 | (with_reducible refine IN ?_)
 | (with_reducible refine IP ?_)
 | (with_reducible refine IT ?_)
 | (with_reducible refine IL ?_)
 | (with_reducible refine IQ ?_)
 | (with_reducible refine IS ?_)
 | (with_reducible refine IR ?_)
 | (with_reducible refine Ic ?_)
 | (with_reducible refine IB ?_)
 | (with_reducible refine Im ?_)
 | (with_reducible refine IF ?_)
 | (with_reducible refine IG ?_)
 | (with_reducible refine Je ?_)
 | (with_reducible refine Jd ?_)
 | (with_reducible refine Jc ?_)
 | (with_reducible refine Iz ?_)
 | (with_reducible refine Ib ?_)
 | (with_reducible refine I9 ?_)
 | (with_reducible refine Jb ?_)
 | (with_reducible refine Ja ?_)
 | (with_reducible refine I7 ?_)
 | ((with_reducible apply IW); (focus exact rfl); (focus wtm_at "at"))
 | ((with_reducible apply yx); (focus exact rfl); (focus wtm_at "at"))
 | (with_reducible refine Px ?_)
 | (with_reducible refine PH ?_) | (with_reducible refine Pw ?_) | (with_reducible refine PF ?_) | (with_reducible refine Pz ?_) | (with_reducible refine PD ?_) | (with_reducible refine Py ?_) | (with_reducible refine PB ?_))
local macro_rules | `(tactic| wtm_at "w") => `(tactic| repeat wtm_at "w1")
theorem kW (neg:Bool) (k:Int) (is:List Int):cV neg (.fz (.int k)) (.fz (.tup (il is)))=some (.fz (.bool (decide (k∈is) !=neg))):=by
 have e3:((il is).any fun e=>cJ e (.int k))=decide (k∈is):=by
  induction is with
  | nil=>rfl
  | cons p ps ih =>
   show(cJ (.int p) (.int k) || (il ps).any fun e=>cJ e (.int k))=_
   rw[ih,CT]
   by_cases h:p=k
   ·rw[h]; simp
   ·have h':¬k=p:=fun z=>h z.symm
    simp[h,h']
 have e1:mC neg (.fz (.int k)) (.fz (.tup (il is)))=none:=rfl
 have e2:pa neg (.fz (.int k)) (.fz (.tup (il is)))=some (.fz (.bool (decide (k∈is) !=neg))):=by
  cases neg with
  | false =>
   show(if br 60 (.int k)=true/\br 59 (.tup (il is))=true then some (vB ((il is).any fun e=>cJ e (.int k))) else none)=_
   rw[if_pos ⟨rfl,nA 58 is⟩,e3]
   cases decide (k∈is)<;>rfl
  | true =>
   show(if br 60 (.int k)=true/\br 59 (.tup (il is))=true then some (vB (!(il is).any fun e=>cJ e (.int k))) else none)=_
   rw[if_pos ⟨rfl,nA 58 is⟩,e3]
   cases decide (k∈is)<;>rfl
 unfold cV;rw[e1,e2]<;>rfl
theorem Dq {ns:List Int} (h:ns.length<63):o6 (.fz (.tup (il ns)))=some (ag (il (uI ns))):=by
 show(gu (il ns)).bind _=_
 rw[w9,du,if_pos h]<;>rfl
theorem GK {a b:List Int} (h:a.length+b.length<100):bI (.fz (.tup (il a))) (.fz (.tup (il b)))=some (.fz (.tup (il (a++b)))):=by
 have e1:mD (.fz (.tup (il a))) (.fz (.tup (il b)))=some (.fz (.tup (il a++il b))):=by
  show(if (il a).length+(il b).length<bL then some _ else none)=_
  rw[if_pos (by rw[g7,g7]; unfold bL; omega)]
 have e2:il a++il b=il (a++b):=by unfold il; rw[dA]
 rw[e2] at e1
 show(none:Option OV).or ((none:Option OV).or ((mD (.fz (.tup (il a))) (.fz (.tup (il b)))).or _))=_
 rw[e1]<;>rfl
theorem xL:∀l:List Int,asNs (il l)=some (l.map NestedKey.num)
 | []=>rfl
 | a::l=>by
  show(jF (.int a)).bind (fun k=>(asNs (il l)).map (k::·))=_
  rw[xL l]<;>rfl
theorem xD:∀l:List Int,NestedKey.depthAll (l.map NestedKey.num)<=1
 | []=>by simp[NestedKey.depthAll]
 | a::l=>by
  have:=xD l;simp only[List.map_cons,NestedKey.depthAll,NestedKey.depth];omega
theorem NQ (a b c:List Int):fy (.tup [.tup (il a),.tup (il b),.tup (il c)])=true:=by
 have e:jF (.tup [.tup (il a),.tup (il b),.tup (il c)])=some (.tup [.tup (a.map NestedKey.num),.tup (b.map NestedKey.num),.tup (c.map NestedKey.num)]):=by
  show((((asNs (il a)).map NestedKey.tup).bind fun k=>((((asNs (il b)).map NestedKey.tup).bind fun k=>((((asNs (il c)).map NestedKey.tup).bind fun k=>(some []).map (k::·))).map (k::·))).map (k::·))).map NestedKey.tup=_
  rw[xL,xL,xL]<;>rfl
 have d:(NestedKey.tup [.tup (a.map NestedKey.num),.tup (b.map NestedKey.num),.tup (c.map NestedKey.num)]).depth<=8:=by
  have h1:=xD a;have h2:=xD b;have h3:=xD c;simp only[NestedKey.depthAll,NestedKey.depth];omega
 unfold fy;rw[e]
 show(decide (kindOf (.tup [.tup (il a),.tup (il b),.tup (il c)])=none) && decide _)=true
 rw[decide_eq_true d,Bool.and_true];exact decide_eq_true rfl
def aM (K:Kq):Val:=.tup [.tup (il K.1),.tup (il K.2.1),.tup (il K.2.2)]
theorem AO {a b:List Int} (h:il a=il b):a=b:=(List.map_inj_right fun x y e=>Val.int.inj e).mp h
theorem AC {K L:Kq} (h:aM K=aM L):K=L:=by
 obtain⟨a,b,c⟩:=K;obtain⟨a',b',c'⟩:=L;have h:=Val.tup.inj h;have e1:=AO (Val.tup.inj (List.cons.inj h).1);have e2:=AO (Val.tup.inj (List.cons.inj (List.cons.inj h).2).1);have e3:=AO (Val.tup.inj (List.cons.inj (List.cons.inj (List.cons.inj h).2).2).1);exact Prod.ext e1 (Prod.ext e2 e3)
def dO (G:List (Kq×OV)):List (Val×OV):=G.map fun q=>(aM q.1,q.2)
theorem AB (G:List (Kq×OV)):(dO G).length=G.length:=aT ..
theorem Ar (K:Kq):∀G:List (Kq×OV),(aG (dO G) (aM K)).isSome=decide (K∈G.map (·.1))
 | []=>rfl
 | (L, o) :: G => by
  show(if aM L=aM K then some o else aG (dO G) (aM K)).isSome=_
  by_cases e:L=K
  ·subst e;rw[if_pos rfl];exact(decide_eq_true (ao ..)).symm
  ·rw[if_neg fun z=>e (AC z),Ar K G];exact decide_eq_decide.mpr ⟨aE _,fun z=>(aU.mp z).elim (fun z=>absurd z.symm e) id⟩
theorem look_at {K:Kq} {o:OV}:∀{G:List (Kq×OV)},(G.map (·.1)).Nodup->(K,o)∈G->aG (dO G) (aM K)=some o
 | [],_,h=>nomatch h
 | (L, u) :: G, nd, h => by
  show(if aM L=aM K then some u else aG (dO G) (aM K))=_
  rw[bU,bT] at nd
  rcases aU.mp h with e|h
  ·cases e
   rw[if_pos rfl]
  ·rw[if_neg fun z=>nd.1 (by rw[AC z]; exact aW.mpr ⟨_,h,rfl⟩),look_at nd.2 h]
theorem zB {K:Kq} (o:OV):∀{G:List (Kq×OV)},K∉G.map (·.1)->bJ (dO G) (aM K) o=dO (G++[(K,o)])
 | [],_=>rfl
 | (L,u)::G,h=>by
  show(if aM L=aM K then (aM L,o)::dO G else (aM L,u)::bJ (dO G) (aM K) o)=_
  rw[if_neg fun z=>h (by rw[AC z]; exact ao ..),zB o fun z=>h (aE _ z)]<;>rfl
theorem ud (K:Kq):fy (aM K)=true:=NQ _ _ _
theorem xw (K:Kq):∀G:List (Kq×OV),iU (dO G) (aM K)=true
 | []=>ud K
 | (L,_)::_=>by
  show(fy (aM L) && fy (aM K))=true
  rw[ud,ud]<;>rfl
theorem EG (n:Nat) (K:Kq):br (n+3) (aM K)=true:=by
 show(br (n+2) (.tup (il K.1)) && (br (n+2) (.tup (il K.2.1)) && (br (n+2) (.tup (il K.2.2)) && true)))=true
 rw[nA,nA,nA]<;>rfl
section
variable {n:Nat} {ps:List (Int×Int)}
theorem PO.hin (h:PO n ps):∀p,0<=p->p<(n:Int)->f0 n (ai ps p):=fun p p0 p1 k hk=>by
 rw[AS h p0 p1] at hk;have:=mw _ _ _ (gL.mp hk).1;omega
theorem PO.hpw (h:PO n ps) {p:Int} (p0:0<=p) (p1:p<(n:Int)):(ai ps p).Pairwise (·<·):=by
 rw[AS h p0 p1];exact(ur n 0).sublist List.filter_sublist
theorem uO {n:Nat} {L:List Int} (a:L.Pairwise (·<·)) (i:f0 n L):L.length<=n:=by
 have:=AM L 0 n a (fun x hx=>i x hx) (by omega);omega
theorem PO.key0 (h:PO n ps) {p q:Int} (hp:0<=p/\p<(n:Int)) (hq:0<=q/\q<(n:Int)):OkK n (key0 (ai ps) p q):=⟨h.hpw hp.1 hp.2,h.hpw hq.1 hq.2,(h.hpw hp.1 hp.2).filter _,h.hin _ hp.1 hp.2,h.hin _ hq.1 hq.2,fun k hk=>h.hin _ hp.1 hp.2 k (gL.mp hk).1⟩
theorem yG (h:PO n ps) {L:List Int} (aL:L.Pairwise (·<·)) (iL:f0 n L) {u:Int} (hu:0<=u/\u<(n:Int)):q7 [.fz (bC n ps),.fz (.tup (il L)),.fz (.int u)]=.ok (.fz (.tup (il (eY (ai ps) L u)))) []:=by
 have n4:=h.n4;have lp:=h.len;have he:=AR n ps u (by omega);have so:mX "Policy" "hearers" (bC n ps)=true:=rfl;have i1:=kW true u L;have l1:=uO aL iL;have l2:=uO (h.hpw hu.1 hu.2) (h.hin u hu.1 hu.2)
 generalize bC n ps=p at *
 unfold eY;refine jZ ?_;unfold q7;refine iq rfl (by wtm_at "st") ?_;unfold G4
 by_cases m:u∈L
 ·have i2:cV true (.fz (.int u)) (.fz (.tup (il L)))=some (.fz (.bool false)):=by rw[i1,decide_eq_true m]<;>rfl
  clear i1
  rw[if_pos m];have ca:=GK (a:=L) (b:=ai ps u) (by omega);have ss:=Dq (ns:=L++ai ps u) (by rw[cX]; omega);have tn:=mU (il (uI (L++ai ps u)));wtm_at "w";refine⟨so,?_⟩;wtm_at "w";refine bG he ?_;wtm_at "w";exact⟨rfl,rfl⟩
 ·have i2:cV true (.fz (.int u)) (.fz (.tup (il L)))=some (.fz (.bool true)):=by rw[i1,decide_eq_false m]<;>rfl
  clear i1
  rw[if_neg m];wtm_at "w";exact⟨rfl,rfl⟩
def nS (n:Nat) (ps:List (Int×Int)):List (List Int):=(bg 0 n).map (ai ps)
def cL (n:Nat) (ps:List (Int×Int)):Val:=.lst (m8 (nS n ps))
theorem uB {u:Int} (hu:0<=u/\u<(n:Int)):aP (.fz (cL n ps)) (.fz (.int u))=some (.fz (.tup (il (ai ps u)))):=by
 obtain⟨j,rfl⟩:∃j:Nat,u=(j:Int):=⟨u.toNat,by omega⟩
 have e:(bg 0 n)[j]?=some ((j:Nat):Int):=by
  have hl:j<(bg 0 n).length:=by rw[dQ]; omega
  rw[c8 hl,kU,nZ]
 refine qB _ j _ ?_;unfold m8 nS;rw[cB,cB,e]<;>rfl
def pE (ps:List (Int×Int)) (j:Int):Val->Bool
 | .int k=>k==j || decide ((j,k)∈ps)
 | _=>false
def yE (n:Nat) (ps:List (Int×Int)):Val->Val
 | .int j=>.tup (((il (bg 0 n)).filter (pE ps j)).map id)
 | _=>.none
theorem Es (j:Int):∀is:List Int,((il is).filter (pE ps j)).map id=il (is.filter fun k=>k==j || decide ((j,k)∈ps))
 | []=>rfl
 | i::is=>by
  have ih:=Es j is
  show((Val.int i::il is).filter (pE ps j)).map id=_
  cases h:(i==j || decide ((j,i)∈ps)) with
  | true=>rw[jK (show pE ps j (.int i)=true from h),jK (p:=fun k=>k==j || decide ((j,k)∈ps)) h,bU,ih]<;>rfl
  | false=>rw[jL (show ¬pE ps j (.int i)=true by rw[show pE ps j (.int i)=false from h]; exact kn),jL (p:=fun k=>k==j || decide ((j,k)∈ps)) (by rw[h]; exact kn),ih]
theorem Be (h:PO n ps):pH [.fz (.int n),.fz (.lst (ap ps))]=.ok (ag (m8 (nS n ps))) []:=by
 have n4:=h.n4;have gr:=k9 (n:=n) (by omega)
 have inl:=fun q=>Pu q ps
 have em:(il (bg 0 n)).map (yE n ps)=m8 (nS n ps):=by
  unfold nS m8 il;rw[cF,cF]
  refine jJ fun j hj=>?_
  obtain⟨j0,j1⟩:=mw _ _ _ hj
  show Val.tup (((il (bg 0 n)).filter (pE ps j)).map id)=.tup (il (ai ps j))
  rw[Es,AS h j0 (by omega)]<;>rfl
 refine jZ ?_;unfold pH;refine iq rfl (by wtm_at "st") ?_;unfold Hf;wtm_at "w";refine mR (yE n ps) ?_;wtm_at "w";refine⟨fun x hx=>?_,rfl,?_⟩
 ·obtain⟨j,_,rfl⟩:=aW.mp hx;wtm_at "nm";wtm_at "w";refine ol (pE ps j) id ?_;wtm_at "w";refine⟨fun y hy=>?_,rfl,?_⟩
  ·obtain⟨k,_,rfl⟩:=aW.mp hy;have ik:=inl (j,k);have ik:cV false (.fz (.tup [.int j,.int k])) (.fz (.lst (ap ps)))=some (.fz (.bool (decide ((j,k)∈ps)))):=ik;wtm_at "nm";wtm_at "w";refine Iq ?_;wtm_at "w";refine⟨rfl,?_⟩;wtm_at "w";refine⟨rfl,rfl,rfl,fun _=>?_⟩;wtm_at "w";exact⟨rfl,rfl⟩
  ·wtm_at "w";exact⟨rfl,rfl⟩
 ·rw[em];wtm_at "w";exact⟨rfl,rfl⟩
theorem Ao (h:PO n ps) {L:List Int} (aL:L.Pairwise (·<·)) (iL:f0 n L) {u:Int} (hu:0<=u/\u<(n:Int)):q9 [.fz (cL n ps),.fz (.tup (il L)),.fz (.int u)]=.ok (.fz (.tup (il (eY (ai ps) L u)))) []:=by
 have n4:=h.n4;have i1:=kW false u L;have l1:=uO aL iL;have l2:=uO (h.hpw hu.1 hu.2) (h.hin u hu.1 hu.2);have ex:=uB (ps:=ps) hu
 generalize cL n ps=E at *
 unfold eY;refine jZ ?_;unfold q9;refine iq rfl (by wtm_at "st") ?_;unfold Ha
 by_cases m:u∈L
 ·have i2:cV false (.fz (.int u)) (.fz (.tup (il L)))=some (.fz (.bool true)):=by rw[i1,decide_eq_true m]<;>rfl
  clear i1
  rw[if_pos m];have ca:=GK (a:=L) (b:=ai ps u) (by omega);have ss:=Dq (ns:=L++ai ps u) (by rw[cX]; omega);have tn:=mU (il (uI (L++ai ps u)));wtm_at "w";exact⟨rfl,rfl⟩
 ·have i2:cV false (.fz (.int u)) (.fz (.tup (il L)))=some (.fz (.bool false)):=by rw[i1,decide_eq_false m]<;>rfl
  clear i1
  rw[if_neg m];wtm_at "w";exact⟨rfl,rfl⟩
end
section
variable {a:Ef} {S:Env} {Q:OV->Env->Prop} {kvs:List (Val×OV)}
theorem vp {neg:Bool} {k:Nat} (h0:S[k]?=some (some (.dict kvs))) (h:Wp (a S) fun x S1=>∃key,x=.fz key/\iU kvs key=true/\∃q:Bool,(if neg then !(aG kvs key).isSome else (aG kvs key).isSome)=q/\Q (.fz (.bool q)) S1):Wp (pg neg k [] a S) Q:=by
 unfold pg;refine av (bx ⟨kvs,by rw[nu (p:=[]) h0 rfl]<;>rfl,av (aH h fun x S1 ⟨key,e,hf,q,eq,hq⟩=>av (bx ⟨key,by rw[e]<;>rfl,bx ⟨vB _,if_pos hf,?_⟩⟩))⟩);rw[eq];exact hq
end
def iu (F:List Kq):List (Kq×OV):=F.map fun K=>(K,.fz (.bool true))
theorem C2 (F:List Kq):(iu F).map (·.1)=F:=by
 unfold iu;rw[cF];exact List.map_id F
theorem E1 (K:Kq) (W:List Kq):cz (ag (aM K::W.map aM)) (ag [])=some (.fz (.bool true)):=by
 unfold cz;have e1:(ag (aM K::W.map aM)).val=.lst (aM K::W.map aM):=mS _;have e2:(ag []).val=.lst []:=rfl;rw[e1,e2]
 have o1:br 60 (.lst (aM K::W.map aM))=true:=by
  show((aM K::W.map aM).all (br 59))=true
  refine dv.mpr fun x hx=>?_
  rcases aU.mp hx with rfl|hx
  ·exact EG 56 K
  ·obtain⟨L,_,rfl⟩:=aW.mp hx;exact EG 56 L
 rw[if_pos ⟨o1,rfl⟩]<;>rfl
theorem NI (W:List Kq) (K:Kq):cz (ag (W.map aM++[aM K])) (ag [])=some (.fz (.bool true)):=by
 cases W with
 | nil=>exact E1 K []
 | cons L W =>
  have e:(L::W).map aM++[aM K]=aM L::(W++[K]).map aM:=by rw[dA]<;>rfl
  rw[e];exact E1 L (W++[K])
def pF (L K:List Int):Val->Bool
 | .int k=>decide (k∈L) && !decide (k∈K)
 | _=>false
def xo (K:Kq):List Int:=K.1.filter fun k=>decide (k∈K.2.1) && !decide (k∈K.2.2)
theorem Ac (L C:List Int):∀is:List Int,((il is).filter (pF L C)).map id=il (is.filter fun k=>decide (k∈L) && !decide (k∈C))
 | []=>rfl
 | i::is=>by
  have ih:=Ac L C is
  show((Val.int i::il is).filter (pF L C)).map id=_
  cases h:(decide (i∈L) && !decide (i∈C)) with
  | true=>rw[jK (show pF L C (.int i)=true from h),jK (p:=fun k=>decide (k∈L) && !decide (k∈C)) h,bU,ih]<;>rfl
  | false=>rw[jL (show ¬pF L C (.int i)=true by rw[show pF L C (.int i)=false from h]; exact kn),jL (p:=fun k=>decide (k∈L) && !decide (k∈C)) (by rw[h]; exact kn),ih]
theorem Gh {K:Kq} {k:Int}:k∈xo K↔j9 K k:=by
 unfold xo j9;rw[gL,bN,Bool.not_eq_true',decide_eq_true_eq,decide_eq_false_iff_not]
def pM (L:List Int):Val->Bool
 | .int k=>decide (k∈L)
 | _=>false
theorem wv (L:List Int):∀is:List Int,((il is).filter (pM L)).map id=il (is.filter fun k=>decide (k∈L))
 | []=>rfl
 | i::is=>by
  have ih:=wv L is
  show((Val.int i::il is).filter (pM L)).map id=_
  cases h:decide (i∈L) with
  | true=>rw[jK (show pM L (.int i)=true from h),jK (p:=fun k=>decide (k∈L)) h,bU,ih]<;>rfl
  | false=>rw[jL (show ¬pM L (.int i)=true by rw[show pM L (.int i)=false from h]; exact kn),jL (p:=fun k=>decide (k∈L)) (by rw[h]; exact kn),ih]
theorem wJ (fr:List Int) (b:Bool) (e:fr.isEmpty=!b):cz (.fz (.lst (il fr))) (ag [])=some (.fz (.bool b)):=by
 cases fr with
 | nil =>
  cases b with
  | false=>rfl
  | true=>cases e
 | cons k fr =>
  cases b with
  | true =>
   unfold cz;have e2:(ag []).val=.lst []:=rfl;rw[e2]
   have o1:br 60 (OV.fz (.lst (il (k::fr)))).val=true:=by
    have:=nA 59 (k::fr);exact this
   rw[if_pos ⟨o1,rfl⟩]<;>rfl
  | false=>cases e
def yS (f:Int->List Int) (u:Int):Val->Val
 | .tup xs=>match gu xs with
  | some l=>.tup (il (eY f l u))
  | none=>.none
 | _=>.none
theorem rC (f:Int->List Int) (u:Int) (L:List Int):yS f u (.tup (il L))=.tup (il (eY f L u)):=by
 unfold yS;simp only[w9]
theorem BW (f:Int->List Int) (u:Int) (K:Kq):[Val.tup (il K.1),.tup (il K.2.1),.tup (il K.2.2)].map (yS f u)=[.tup (il (b8 f K u).1),.tup (il (b8 f K u).2.1),.tup (il (b8 f K u).2.2)]:=by
 rw[bU,bU,bU,List.map_nil,rC,rC,rC]<;>rfl
section
variable {n:Nat} {f:Int->List Int}
structure Sch (f:Int->List Int) (n:Nat) (K0:Kq) (F W:List Kq):Prop where
 nd:F.Nodup
 ok:∀K∈F,OkK n K
 r:∀K∈F,kg f n K0 K
 b:K0∈F
 wn:W.Nodup
 sub:∀K∈W,K∈F
 done:∀K∈F,K∈W\/((∀k,¬j9 K k)/\∀u,0<=u->u<(n:Int)->b8 f K u∈F)
theorem Sch.start {K0:Kq} (o:OkK n K0):Sch f n K0 [K0] [K0]:=⟨bT.mpr ⟨(fun z=>nomatch z),b5⟩,fun K hK=>by rw[bm.mp hK]; exact o,fun K hK=>by rw[bm.mp hK]; exact LY n K0,bm.mpr rfl,bT.mpr ⟨(fun z=>nomatch z),b5⟩,fun _ h=>h,fun _ h=>.inl h⟩
theorem Sch.over {K0:Kq} {F:List Kq} (s:Sch f n K0 F []) {K:Kq} {k:Int} (r:kg f n K0 K):¬j9 K k:=by
 obtain⟨zs,hz,rfl⟩:=r
 have:=GJ (f:=f) (n:=n) (F:=F) (fun K hK u u0 u1=>by
  rcases s.done K hK with z|⟨_,z⟩
  ·cases z
  ·exact z u u0 u1) zs K0 hz s.b
 rcases s.done _ this with z|⟨z,_⟩
 ·cases z
 ·exact z k
structure Grow (f:Int->List Int) (n:Nat) (K0:Kq) (F N:List Kq):Prop where
 nd:(F++N).Nodup
 ok:∀K∈N,OkK n K
 r:∀K∈N,kg f n K0 K
theorem Grow.none {K0:Kq} {F W:List Kq} (s:Sch f n K0 F W):Grow f n K0 F []:=⟨by rw[b6]; exact s.nd,(fun _ z=>nomatch z),(fun _ z=>nomatch z)⟩
theorem Grow.add {K0 K:Kq} {F N:List Kq} (g:Grow f n K0 F N) (o:OkK n K) (r:kg f n K0 K) (h:K∉F++N):Grow f n K0 F (N++[K]):=by
 refine⟨?_,fun L hL=>?_,fun L hL=>?_⟩
 ·rw[←dI];exact cA.mpr ⟨g.nd,bT.mpr ⟨(fun z=>nomatch z),b5⟩,fun x hx y hy e=>h (by rw[bm.mp hy] at e; rw[←e]; exact hx)⟩
 ·rcases bc.mp hL with hL|hL
  ·exact g.ok L hL
  ·rw[bm.mp hL]; exact o
 ·rcases bc.mp hL with hL|hL
  ·exact g.r L hL
  ·rw[bm.mp hL]; exact r
theorem Grow.all {K0:Kq} {F N:List Kq} (g:Grow f n K0 F N) (oF:∀K∈F,OkK n K):∀K∈F++N,OkK n K:=fun L hL=>(bc.mp hL).elim (oF L) (g.ok L)
theorem Grow.few {K0:Kq} {F N:List Kq} (n4:n<=4) (g:Grow f n K0 F N) (oF:∀K∈F,OkK n K):(F++N).length<=4096:=A9 n4 g.nd (g.all oF)
theorem Grow.sch {K0 K:Kq} {F W0 W N:List Kq} (s:Sch f n K0 F W0) (g:Grow f n K0 F N) (w1:∀L∈W0,L∈W\/L=K) (w2:∀L∈W,L∈W0) (w3:W.Nodup) (nb:∀k,¬j9 K k) (st:∀u,0<=u->u<(n:Int)->b8 f K u∈F++N):Sch f n K0 (F++N) (W++N):=by
 obtain⟨q1,q2,q3⟩:=cA.mp g.nd;refine⟨g.nd,g.all s.ok,fun L hL=>?_,au _ s.b,cA.mpr ⟨w3,q2,fun x hx y hy=>q3 x (s.sub x (w2 x hx)) y hy⟩,fun L hL=>?_,fun L hL=>?_⟩
 ·exact(bc.mp hL).elim (s.r L) (g.r L)
 ·rcases bc.mp hL with hL|hL
  ·exact au _ (s.sub L (w2 L hL))
  ·exact aJ _ hL
 ·rcases bc.mp hL with hL|hL
  ·rcases s.done L hL with z|⟨z1,z2⟩
   ·rcases w1 L z with z|z
    ·exact .inl (au _ z)
    ·rw[z];exact .inr ⟨nb,st⟩
   ·exact .inr ⟨z1,fun u u0 u1=>au _ (z2 u u0 u1)⟩
  ·exact .inl (aJ _ hL)
end
def NS (S:Env):Nat:=match S with
 | _::_::_::_::_::_::_::some (.lst xs)::some (.dict kvs)::_=>4097+xs.length - kvs.length
 | _=>0
theorem JG (F:List Kq) (K:Kq):iu F++[(K,.fz (.bool true))]=iu (F++[K]):=by
 unfold iu;rw[dA]<;>rfl
section
variable {n:Nat} {ps:List (Int×Int)}
theorem MZ (h:PO n ps) {K0 K:Kq} {F W N:List Kq} {a b u:Int} (g:Grow (ai ps) n K0 F N) (oF:∀K∈F,OkK n K) (rK:kg (ai ps) n K0 K) (oK:OkK n K) (hu:0<=u/\u<(n:Int)) (lw:W.length<=4096) {x2 x5 x10 x11:Option OV} :
  Wp (BO [some (.fz (bC n ps)),some (.fz (.lst (il (bg 0 n)))),x2,some (.fz (.int a)),some (.fz (.int b)),x5,some (.fz (.int u)),some (ag ((W++N).map aM)),some (.dict (dO (iu (F++N)))),some (.fz (aM K)),x10,x11,none]) fun fl S=>fl=.nx/\∃(N':List Kq) (y11:Option OV),S=[some (.fz (bC n ps)),some (.fz (.lst (il (bg 0 n)))),x2,some (.fz (.int a)),some (.fz (.int b)),x5,some (.fz (.int u)),some (ag ((W++N').map aM)),some (.dict (dO (iu (F++N')))),some (.fz (aM K)),x10,y11,none]/\Grow (ai ps) n K0 F N'/\(∀L∈F++N,L∈F++N')/\b8 (ai ps) K u∈F++N':=by
 have n4:=h.n4;have fw:=g.few n4 oF
 have wt:∀L∈[K.1,K.2.1,K.2.2],q7 [.fz (bC n ps),.fz (.tup (il L)),.fz (.int u)]=.ok (.fz (.tup (il (eY (ai ps) L u)))) []:=fun L hL=>by
  rcases aU.mp hL with rfl|hL
  ·exact yG h oK.a oK.a' hu
  ·rcases aU.mp hL with rfl|hL
   ·exact yG h oK.b oK.b' hu
   ·rw[bm.mp hL];exact yG h oK.c oK.c' hu
 have ik:fg (.fz (aM K))=some [.tup (il K.1),.tup (il K.2.1),.tup (il K.2.2)]:=rfl;have tn:=mU [Val.tup (il (b8 (ai ps) K u).1),.tup (il (b8 (ai ps) K u).2.1),.tup (il (b8 (ai ps) K u).2.2)];have kd:Val.tup [.tup (il (b8 (ai ps) K u).1),.tup (il (b8 (ai ps) K u).2.1),.tup (il (b8 (ai ps) K u).2.2)]=aM (b8 (ai ps) K u):=rfl;have lk:=Ar (b8 (ai ps) K u) (iu (F++N));rw[C2] at lk;have fk:=xw (b8 (ai ps) K u) (iu (F++N))
 have kl:(dO (iu (F++N))).length=(F++N).length:=by rw[AB]; exact aT ..
 have oS:=oK.step h.hin u;have rS:=DM rK hu
 generalize bC n ps=pf at *
 unfold BO;wtm_at "w";refine mR (yS (ai ps) u) ?_;wtm_at "w";refine⟨fun x hx=>?_,rfl,?_⟩
 ·obtain⟨L,hL,rfl⟩:∃L∈[K.1,K.2.1,K.2.2],x=.tup (il L):=by
   rcases aU.mp hx with rfl|hx
   ·exact⟨_,ao ..,rfl⟩
   ·rcases aU.mp hx with rfl|hx
    ·exact⟨_,aE _ (ao ..),rfl⟩
    ·exact⟨_,aE _ (aE _ (ao ..)),bm.mp hx⟩
  have hw:=wt L hL;wtm_at "nm";wtm_at "w";refine bG hw ?_;exact⟨by rw[rC]<;>rfl,rfl⟩
 rw[BW];wtm_at "w";rw[kd]
 generalize b8 (ai ps) K u=K2 at *
 by_cases m:K2∈F++N
 ·refine vp rfl ?_;wtm_at "w";refine⟨fk,false,by rw[if_pos rfl,lk,decide_eq_true m]<;>rfl,?_⟩;wtm_at "w";exact⟨rfl,N,_,rfl,g,fun _ z=>z,m⟩
 ·have sk:=zB (K:=K2) (.fz (.bool true)) (G:=iu (F++N)) (by rw[C2]; exact m);rw[JG,dI] at sk;refine vp rfl ?_;wtm_at "w";refine⟨fk,true,by rw[if_pos rfl,lk,decide_eq_false m]<;>rfl,?_⟩;wtm_at "w";refine Ch rfl ?_;wtm_at "w";refine⟨rfl,⟨by omega,fk⟩,_,by wtm_at "at",?_⟩;rw[sk];wtm_at "w"
  have wl:((W++N).map aM).length<900000:=by
   rw[aT];rw[cX] at fw ⊢;omega
  refine Co rfl ?_;wtm_at "w";refine⟨rfl,wl,_,by wtm_at "at",?_⟩
  have em:(W++N).map aM++[aM K2]=(W++(N++[K2])).map aM:=by rw[←dI,dA (l₁:=W++N)]<;>rfl
  rw[em];wtm_at "w";exact⟨rfl,N++[K2],_,rfl,g.add oS rS m,fun L hL=>by rw[←dI]; exact au _ hL,aJ _ (aJ _ (bm.mpr rfl))⟩
theorem MB (h:PO n ps) {a b:Int} (ha:0<=a/\a<(n:Int)) (hb:0<=b/\b<(n:Int)) {x2 x5 x6 x7 x8 x9 x10 x11:Option OV} :
  Wp (xX [some (.fz (bC n ps)),some (.fz (.lst (il (bg 0 n)))),x2,some (.fz (.int a)),some (.fz (.int b)),x5,x6,x7,x8,x9,x10,x11,none]) fun fl S=>(fl=.nx/\(∃y5 y6 y7 y8 y9 y10 y11,S=[some (.fz (bC n ps)),some (.fz (.lst (il (bg 0 n)))),x2,some (.fz (.int a)),some (.fz (.int b)),y5,y6,y7,y8,y9,y10,y11,none])/\¬iN (ai ps) n a b)\/∃k:Int,fl=.rt (.fz (.tup [.int a,.int b,.int k]))/\iN (ai ps) n a b:=by
 have n4:=h.n4;have lp:=h.len;have so:mX "Policy" "hearers" (bC n ps)=true:=rfl;have hha:=AR n ps a (by omega);have hhb:=AR n ps b (by omega);have fm:=wv (ai ps b) (ai ps a);have one:=@MZ n ps h (key0 (ai ps) a b);have st:=Sch.start (f:=ai ps) (h.key0 ha hb);have nk:=ud (key0 (ai ps) a b);have kd:aM (key0 (ai ps) a b)=.tup [.tup (il (ai ps a)),.tup (il (ai ps b)),.tup (il ((ai ps a).filter fun k=>decide (k∈ai ps b)))]:=rfl;have tn1:=mU (il ((ai ps a).filter fun k=>decide (k∈ai ps b)));have ix:aP (ag [aM (key0 (ai ps) a b)]) (.fz (.int 0))=some (.fz (aM (key0 (ai ps) a b))):=rfl
 have gap:∀{K:Kq} {k:Int},kg (ai ps) n (key0 (ai ps) a b) K->j9 K k->iN (ai ps) n a b:=fun r z=>⟨_,_,r,z⟩
 have nogap:∀{F:List Kq},Sch (ai ps) n (key0 (ai ps) a b) F []->¬iN (ai ps) n a b:=fun s ⟨_,_,r,z⟩=>s.over r z
 generalize bC n ps=pf at *
 unfold xX;wtm_at "w";refine ol (pM (ai ps b)) id ?_;wtm_at "w";refine⟨so,?_⟩;wtm_at "w";refine bG hha ?_;wtm_at "w";refine⟨fun x hx=>?_,rfl,?_⟩
 ·obtain⟨k,_,rfl⟩:=aW.mp hx;have it:=kW false k (ai ps b);wtm_at "nm";wtm_at "w";refine⟨so,?_⟩;wtm_at "w";refine bG hhb ?_;wtm_at "w";refine⟨?_,rfl,fun _=>?_⟩
  ·show(decide (k∈ai ps b) !=false)=decide (k∈ai ps b)
   cases decide (k∈ai ps b)<;>rfl
  ·wtm_at "w";exact⟨rfl,rfl⟩
 rw[fm];wtm_at "w";refine⟨so,?_⟩;wtm_at "w";refine bG hha ?_;wtm_at "w";refine⟨so,?_⟩;wtm_at "w";refine bG hhb ?_;wtm_at "w";rw[←kd];refine IE ?_;wtm_at "w";refine⟨nk,?_⟩
 generalize key0 (ai ps) a b=K0 at *
 have kp:bO [] (.dict [(aM K0,.fz (.bool true))])=some (.dict [(aM K0,.fz (.bool true))]):=rfl;wtm_at "w";refine vo (fun S=>∃(F W:List Kq) (y6 y9 y10 y11:Option OV),S=[some (.fz pf),some (.fz (.lst (il (bg 0 n)))),x2,some (.fz (.int a)),some (.fz (.int b)),some (.fz (.tup (il ((ai ps a).filter fun k=>decide (k∈ai ps b))))),y6,some (ag (W.map aM)),some (.dict (dO (iu F))),y9,y10,y11,none]/\Sch (ai ps) n K0 F W) NS (fun S hS=>?_) 5000 _ ⟨[K0],[K0],_,_,_,_,rfl,st⟩ (by show 4097+1 - 1<5000; decide);obtain⟨F,W,y6,y9,y10,y11,rfl,s⟩:=hS
 rcases List.eq_nil_or_concat W with rfl|⟨W,K,rfl⟩
 ·have n0:cz (ag ([].map aM)) (ag [])=some (.fz (.bool false)):=rfl;wtm_at "w";exact .inl ⟨rfl,⟨_,_,_,_,_,_,_,rfl⟩,nogap s⟩
 ·rw [List.concat_eq_append] at s ⊢;rw[dA];have n1:=NI W K;have rK:=s.r K (s.sub K (aJ _ (bm.mpr rfl)));have oK:=s.ok K (s.sub K (aJ _ (bm.mpr rfl)));have i0:aP (.fz (aM K)) (.fz (.int 0))=some (.fz (.tup (il K.1))):=rfl;have i1:aP (.fz (aM K)) (.fz (.int 1))=some (.fz (.tup (il K.2.1))):=rfl;have i2:aP (.fz (aM K)) (.fz (.int 2))=some (.fz (.tup (il K.2.2))):=rfl;have ff:=Ac K.2.1 K.2.2 K.1
  have wl:W.length<=4096:=A9 n4 ((cA.mp s.wn).1) fun L hL=>s.ok L (s.sub L (au _ hL))
  have n1:cz (ag (W.map aM++[K].map aM)) (ag [])=some (.fz (.bool true)):=n1;wtm_at "w";unfold Hm;wtm_at "w";refine Il (us:=W.map aM) rfl (by wtm_at "at") ?_;wtm_at "w";refine ol (pF K.2.1 K.2.2) id ?_;wtm_at "w";refine⟨fun x hx=>?_,rfl,?_⟩
  ·obtain⟨k,_,rfl⟩:=aW.mp hx;have t1:=kW false k K.2.1;have t2:=kW true k K.2.2;wtm_at "nm";wtm_at "w";refine Cp ?_;wtm_at "w";refine⟨rfl,?_⟩;wtm_at "w";refine⟨rfl,?_,rfl,fun _=>?_⟩
   ·show((decide (k∈K.2.1) !=false) && (decide (k∈K.2.2) !=true))=(decide (k∈K.2.1) && !decide (k∈K.2.2))
    cases decide (k∈K.2.1)<;>cases decide (k∈K.2.2)<;>rfl
   ·wtm_at "w";exact⟨rfl,rfl⟩
  rw[ff];have fb:=@Gh K;unfold xo at fb
  generalize K.1.filter (fun k=>decide (k∈K.2.1) && !decide (k∈K.2.2))=fr at fb ⊢
  cases fr with
  | cons k fr =>
   have nf:=wJ (k::fr) true rfl;have x0:aP (.fz (.lst (il (k::fr)))) (.fz (.int 0))=some (.fz (.int k)):=qB (il (k::fr)) 0 (.int k) rfl;wtm_at "w";exact .inr ⟨k,rfl,gap rK (fb.mp (ao ..))⟩
  | nil =>
   have nf:=wJ [] false rfl
   have nb:∀k,¬j9 K k:=fun k z=>nomatch fb.mpr z
   wtm_at "w";refine yA 6 7 8 11 (fun i _ x7 x8 _=>∃N:List Kq,x7=some (ag ((W++N).map aM))/\x8=some (.dict (dO (iu (F++N))))/\Grow (ai ps) n K0 F N/\∀u:Int,0<=u->u<(i:Int)->b8 (ai ps) K u∈F++N) ?_;wtm_at "w";refine⟨⟨_,_,_,_,rfl,[],by rw[b6],by rw[b6],Grow.none s,fun u u0 u1=>by omega⟩,fun i x x6 x7 x8 x11 hx hP=>?_,fun x6 x7 x8 x11 hP=>?_⟩
   ·obtain⟨N,rfl,rfl,g,hs⟩:=hP;unfold il at hx;rw[cB] at hx;obtain⟨u,hu,rfl⟩:=jH.mp hx;have um:=mw _ _ _ (fP hu)
    have ui:u=(i:Int):=by
     have hl:=(fE.mp hu).1;rw[dQ] at hl;rw[c8 (by rw[dQ]; exact hl),kU] at hu;have:=Option.some.inj hu;omega
    have O:=one (K:=K) (F:=F) (W:=W) (N:=N) (a:=a) (b:=b) (u:=u) g s.ok rK oK (by omega) wl (x2:=x2) (x5:=some (.fz (.tup (il ((ai ps a).filter fun k=>decide (k∈ai ps b)))))) (x10:=some (.fz (.lst (il [])))) (x11:=x11);wtm_at "nm";wtm_at "w"
    refine aH O fun fl S ⟨e1,N',y11,e2,g',sub,m⟩=>?_
    subst e1 e2;wtm_at "w";refine⟨_,_,_,_,rfl,N',rfl,rfl,g',fun v v0 v1=>?_⟩
    by_cases e:v=u
    ·rw[e];exact m
    ·exact sub _ (hs v v0 (by omega))
   ·obtain⟨N,rfl,rfl,g,hs⟩:=hP;rw[g7,dQ] at hs;wtm_at "nm";wtm_at "w";have fw:=g.few n4 s.ok;refine⟨⟨F++N,W++N,_,_,_,_,rfl,g.sch s (fun L hL=>(bc.mp hL).imp id bm.mp) (fun L hL=>au _ hL) (cA.mp s.wn).1 nb hs⟩,?_⟩
    show 4097+(aF ((W++N).map aM)).length - (dO (iu (F++N))).length<4097+(aF (W.map aM++[K].map aM)).length - (dO (iu F)).length
    unfold aF iu;simp only[List.length_map,List.length_append,AB,List.length_singleton] at fw ⊢;omega
end
def gX (ps:List (Int×Int)) (p q:Int):Bool:=!(p==q || decide ((p,q)∈ps)) && !(q==p || decide ((q,p)∈ps))
theorem mj {ps:List (Int×Int)} {p q:Int}:gX ps p q=true↔bb ps p q=false/\bb ps q p=false:=by
 show(!(bb ps p q) && !(bb ps q p))=true↔_
 rw[bN,Bool.not_eq_true',Bool.not_eq_true']
theorem EV {ps:List (Int×Int)} {p q:Int} (h:gX ps p q=true):gX ps q p=true:=mj.mpr (mj.mp h).symm
def oY (L:List Val):Val->List Val
 | .int a=>cutG L (some (a+1)) none
 | _=>[]
def p7 (ws:List (Int×Int)):Val->Val->Bool
 | .int a,.int b=>gX ws a b
 | _,_=>false
theorem GE {L:List Val} {a:Int} {z:Val} (h:z∈cutG L (some (a+1)) none):z∈L:=List.mem_of_mem_drop (List.mem_of_mem_take h)
section
variable {n:Nat} {ps:List (Int×Int)}
theorem NG (p q:Int) (h1:0<=p/\p<(n:Int)) (h2:0<=q/\q<(n:Int)):rA [.fz (bC n ps),.fz (.int p),.fz (.int q)]=.ok (.fz (.bool (gX ps p q))) []:=by
 have k1:=fun S=>FI true n ps (pv (p,q)) (GI ps h1 h2) S
 have k2:=fun S=>FI true n ps (pv (q,p)) (GI ps h2 h1) S
 have k1:∀S,kIn "Policy" ky true (.tup [.int p,.int q]) (bC n ps) S=.ok (.fz (.bool (!(p==q || decide ((p,q)∈ps))))) S:=k1
 have k2:∀S,kIn "Policy" ky true (.tup [.int q,.int p]) (bC n ps) S=.ok (.fz (.bool (!(q==p || decide ((q,p)∈ps))))) S:=k2
 unfold gX
 generalize bC n ps=pf at *
 refine jZ ?_;unfold rA;refine iq rfl (by wtm_at "st") ?_;unfold Hh;wtm_at "w";refine I8 ?_;wtm_at "w";refine bG (k1 _) ?_;wtm_at "w";refine⟨fun e=>?_,fun e=>?_⟩
 ·wtm_at "w";exact⟨by rw[e]<;>rfl,rfl⟩
 ·wtm_at "w";refine bG (k2 _) ?_;wtm_at "w";exact⟨by rw[e,Bool.true_and],rfl⟩
def u8 (ps:List (Int×Int)) (n:Nat) (r:Val):Prop:=(r=.none/\∀a b:Int,0<=a->a<b->b<(n:Int)->gX ps a b=true->¬iN (ai ps) n a b)\/∃a b k:Int,r=.tup [.int a,.int b,.int k]/\(0<=a/\a<(n:Int))/\(0<=b/\b<(n:Int))/\gX ps a b=true/\iN (ai ps) n a b
theorem Qi (h:PO n ps):Wp (u9 [.fz (bC n ps)]) fun r outs=>∃v,r=.fz v/\outs=[]/\u8 ps n v:=by
 have n4:=h.n4;have n1:=h.n1;have pu:=Er (n:Int) ps;have sm:j4 (n:Int)=true:=zx (by omega)
 have lr:nP (.fz (.int (n:Nat)))=some (ag (il (bg 0 n))):=by
  show(if j4 (n:Int)=true/\(0:Int)<=(n:Nat) then some (ag (i7 0 1 ((n:Int)).toNat)) else none)=_
  rw[if_pos ⟨sm,by omega⟩,vX,pD]
 have rg:∀x∈il (bg 0 n),∃a:Int,x=.int a/\0<=a/\a<(n:Int):=fun x hx=>by
  obtain⟨a,ha,rfl⟩:=aW.mp hx;obtain⟨h0,h1⟩:=mw _ _ _ ha;exact⟨a,rfl,h0,by omega⟩
 have pair:=@MB n ps h
 have ne:∀a b:Int,0<=a->a<(n:Int)->0<=b->b<(n:Int)->rA [.fz (bC n ps),.fz (.int a),.fz (.int b)]=.ok (.fz (.bool (gX ps a b))) []:=fun a b a0 a1 b0 b1=>NG a b ⟨a0,a1⟩ ⟨b0,b1⟩
 have bd:((il (bg 0 n)).flatMap fun x=>((oY (il (bg 0 n)) x).filter (p7 ps x)).map fun z=>Val.tup [x,z]).length<=sizeLine:=by
  have hb:∀L:List Val,L.length<=4->∀M:List Val,(∀x∈M,((oY L x).filter (p7 ps x)).length<=4)->(M.flatMap fun x=>((oY L x).filter (p7 ps x)).map fun z=>Val.tup [x,z]).length<=4 * M.length:=fun L _ M hM=>by
   induction M with
   | nil=>exact bS _
   | cons x M ih =>
    rw[List.flatMap_cons,cX,aT,cR];have i1:=hM x (ao ..)
    have i2:=ih fun y hy=>hM y (aE _ hy)
    omega
  have l4:(il (bg 0 n)).length<=4:=by rw[g7,dQ]; omega
  have h:=hb (il (bg 0 n)) l4 (il (bg 0 n)) fun x hx=>by
   obtain⟨a,rfl,_⟩:=rg x hx;refine dH (uY _ _) ?_
   show(((il (bg 0 n)).drop _).take _).length<=4
   rw[List.length_take,List.length_drop];omega
  refine dH h ?_
  have:sizeLine=16777216:=by first|rfl|exact sizeLine_eq
  omega
 have mem:∀x∈((il (bg 0 n)).flatMap fun x=>((oY (il (bg 0 n)) x).filter (p7 ps x)).map fun z=>Val.tup [x,z]),∃a b:Int,x=.tup [.int a,.int b]/\(0<=a/\a<(n:Int))/\(0<=b/\b<(n:Int))/\gX ps a b=true:=fun x hx=>by
  obtain⟨y,hy,hx⟩:=List.mem_flatMap.mp hx;obtain⟨a,rfl,a0,a1⟩:=rg y hy;obtain⟨z,hz,rfl⟩:=aW.mp hx;obtain⟨z1,z2⟩:=gL.mp hz;obtain⟨b,rfl,b0,b1⟩:=rg z (GE z1);exact⟨a,b,rfl,⟨a0,a1⟩,⟨b0,b1⟩,z2⟩
 have has:∀a b:Int,0<=a->a<b->b<(n:Int)->gX ps a b=true->Val.tup [.int a,.int b]∈((il (bg 0 n)).flatMap fun x=>((oY (il (bg 0 n)) x).filter (p7 ps x)).map fun z=>Val.tup [x,z]):=fun a b a0 ab bn e=>by
  refine List.mem_flatMap.mpr ⟨.int a,aW.mpr ⟨a,w6 n 0 a a0 (by omega),rfl⟩,aW.mpr ⟨.int b,gL.mpr ⟨?_,e⟩,rfl⟩⟩
  show Val.int b∈cutG (il (bg 0 n)) (some (a+1)) none
  have e1:cutG (il (bg 0 n)) (some (a+1)) none=(il (bg 0 n)).drop (a+1).toNat:=by
   rcases (show n=1\/n=2\/n=3\/n=4 by omega) with rfl|rfl|rfl|rfl<;>rcases (show a=0\/a=1\/a=2 by omega) with rfl|rfl|rfl<;>rfl
  rw[e1];unfold il;rw[←List.map_drop];refine aW.mpr ⟨b,?_,rfl⟩
  have hl:b.toNat<(bg 0 n).length:=by rw[dQ]; omega
  have hd:b.toNat - (a+1).toNat<((bg 0 n).drop (a+1).toNat).length:=by rw[List.length_drop]; omega
  have:=List.getElem_mem hd;rw[List.getElem_drop,kU] at this
  have eb:(0:Int)+(((a+1).toNat+(b.toNat - (a+1).toNat):Nat):Int)=b:=by omega
  rw[eb] at this;exact this
 unfold u9;refine iq rfl (by wtm_at "st") ?_;unfold G5
 generalize xX=BB at pair ⊢
 generalize bC n ps=pf at *
 wtm_at "w";refine IJ (oY (il (bg 0 n))) (p7 ps) (fun x z=>.tup [x,z]) ?_;wtm_at "w";refine⟨fun x hx=>?_,rfl,bd,?_⟩
 ·obtain⟨a,rfl,a0,a1⟩:=rg x hx;wtm_at "nm";wtm_at "w";refine IM ?_;have sl:k7 (.fz (.lst (il (bg 0 n)))) (some (a+1)) none=some (ag (cutG (il (bg 0 n)) (some (a+1)) none)):=rfl;wtm_at "w";refine⟨rfl,rfl,fun z hz=>?_⟩;obtain⟨b,rfl,b0,b1⟩:=rg z (GE hz);have nv:=ne a b a0 a1 b0 b1;wtm_at "nm";wtm_at "w";refine bG nv ?_;wtm_at "w";refine⟨rfl,rfl,fun _=>?_⟩;wtm_at "w";exact⟨rfl,rfl⟩
 generalize ((il (bg 0 n)).flatMap fun x=>((oY (il (bg 0 n)) x).filter (p7 ps x)).map fun z=>Val.tup [x,z])=PL at *
 wtm_at "w";refine lJ (fun i S=>(∃x3 x4 y5 y6 y7 y8 y9 y10 y11,S=[some (.fz pf),some (.fz (.lst (il (bg 0 n)))),some (.fz (.lst PL)),x3,x4,y5,y6,y7,y8,y9,y10,y11,none])/\∀j,j<i->∀a b:Int,PL[j]?=some (.tup [.int a,.int b])->¬iN (ai ps) n a b) ?_;wtm_at "w";refine⟨⟨⟨_,_,_,_,_,_,_,_,_,rfl⟩,fun j hj=>absurd hj (uU j)⟩,fun i x S hx hS=>?_,fun S hS=>?_⟩
 ·obtain⟨a,b,rfl,ha,hb,nv⟩:=mem x (fP hx);obtain⟨⟨x3,x4,y5,y6,y7,y8,y9,y10,y11,rfl⟩,hS⟩:=hS;wtm_at "w"
  refine aH (pair ha hb) fun fl S1 hq=>?_
  rcases hq with⟨e1,⟨z5,z6,z7,z8,z9,z10,z11,e2⟩,ng⟩|⟨k,e1,g⟩
  ·subst e1 e2;wtm_at "w";refine⟨⟨_,_,_,_,_,_,_,_,_,rfl⟩,fun j hj c d e=>?_⟩
   by_cases ij:j=i
   ·subst ij;rw[hx] at e
    cases e
    exact ng
   ·exact hS j (by omega) c d e
  ·subst e1;wtm_at "w";exact⟨rfl,.inr ⟨a,b,k,rfl,ha,hb,nv,g⟩⟩
 ·obtain⟨⟨x3,x4,y5,y6,y7,y8,y9,y10,y11,rfl⟩,hS⟩:=hS;wtm_at "w";refine⟨rfl,.inl ⟨rfl,fun a b a0 ab bn e=>?_⟩⟩;obtain⟨j,hj⟩:=uZ (has a b a0 ab bn e);exact hS j (fE.mp hj).1 a b hj
def lA (ps:List (Int×Int)) (n:Nat):Prop:=∃a b:Int,(0<=a/\a<(n:Int))/\(0<=b/\b<(n:Int))/\gX ps a b=true/\iN (ai ps) n a b
theorem u8.none {r:Val} (g:u8 ps n r) (e:r=.none):¬lA ps n:=fun⟨a,b,ha,hb,nv,q⟩=>by
 rcases g with⟨_,g⟩|⟨_,_,_,e2,_⟩
 ·have ne:a≠b:=fun z=>by
   have:=(mj.mp nv).1;unfold bb at this;rw[z,beq_self_eq_true,qZ] at this
   cases this
  rcases Int.lt_or_gt_of_ne ne with z|z
  ·exact g a b ha.1 z hb.2 nv q
  ·exact g b a hb.1 z ha.2 (EV nv) q.symm
 ·rw[e] at e2
  cases e2
theorem u8.some {r:Val} (g:u8 ps n r) (e:r≠.none):lA ps n:=by
 rcases g with⟨z,_⟩|⟨a,b,_,_,ha,hb,nv,q⟩
 ·exact absurd z e
 ·exact⟨a,b,ha,hb,nv,q⟩
theorem Rc (h:PO n ps):∃b:Bool,jY [.fz (bC n ps)]=.ok (.fz (.bool b)) []/\(b=true↔lA ps n):=by
 obtain⟨r,outs,e,v,rfl,rfl,g⟩:=dB (Qi h)
 generalize bC n ps=pf at *
 have hv:v=.none\/∃a b k:Int,v=.tup [.int a,.int b,.int k]:=g.imp (fun z=>z.1) fun⟨a,b,k,e,_⟩=>⟨a,b,k,e⟩
 rcases hv with rfl|⟨a,b,k,rfl⟩
 ·have c:=g.none rfl;have is:o8 true (.fz .none) (.fz .none)=some (.fz (.bool false)):=rfl;refine⟨false,jZ ?_,⟨(fun z=>by cases z),fun z=>absurd z c⟩⟩;unfold jY;refine iq rfl (by wtm_at "st") ?_;unfold Bz;wtm_at "w";refine bG e ?_;wtm_at "w";exact⟨rfl,rfl⟩
 ·have c:=g.some (fun z=>by cases z);have is:o8 true (.fz (.tup [.int a,.int b,.int k])) (.fz .none)=some (.fz (.bool true)):=rfl;refine⟨true,jZ ?_,⟨fun _=>c,fun _=>rfl⟩⟩;unfold jY;refine iq rfl (by wtm_at "st") ?_;unfold Bz;wtm_at "w";refine bG e ?_;wtm_at "w";exact⟨rfl,rfl⟩
end
theorem Bn (xs ys:List Val) (h:xs.length+ys.length<100000):bI (.fz (.lst xs)) (ag ys)=some (ag (xs++ys)):=by
 show(none:Option OV).or ((none:Option OV).or ((mD (.fz (.lst xs)) (ag ys)).or (mE (.fz (.lst xs)) (ag ys))))=_
 have e1:mD (.fz (.lst xs)) (ag ys)=none:=rfl
 have e2:mE (.fz (.lst xs)) (ag ys)=some (ag (xs++ys)):=by
  have e3:dC (.fz (.lst xs))=some xs:=rfl;unfold mE;rw[e3,mr,du,du,if_pos (by unfold bL; omega)]
 rw[e1,e2]<;>rfl
theorem Et {xs:List Val} {j:Nat} {x:Val} (h:xs[j]?=some x):aP (ag xs) (.fz (.int (j:Nat)))=some (.fz x):=by
 have g:(aF xs)[j]?=some (.fz x):=by unfold aF; rw[cB,h]<;>rfl
 have hl:=(fE.mp g).1
 have e:atI (aF xs) (j:Int)=some (.fz x):=by
  have ix:L2.ixN (aF xs).length (j:Int)=some j:=by
   unfold L2.ixN;rw[if_pos (by omega),if_pos (by omega),pD]
  unfold atI;rw[ix];exact g
 show(((qM (.lst (aF xs)) (.fz (.int (j:Nat)))).or _).or _)=_
 rw[show qM (.lst (aF xs)) (.fz (.int (j:Nat)))=atI (aF xs) (j:Int) from rfl,e]<;>rfl
theorem lenN (xs:List Val):jT (ag xs)=some (.fz (.int (xs.length:Nat))):=by
 unfold jT ag
 show some (OV.fz (.int ((aF xs).length:Nat)))=_
 unfold aF;rw[aT]
abbrev GL:=List (Kq×List Int)
def fW (G:GL):List (Kq×OV):=G.map fun q=>(q.1,.fz (.lst (il q.2)))
def cw (G:GL):List Kq:=G.map (·.1)
theorem vW (G:GL):(fW G).map (·.1)=cw G:=by
 unfold fW cw;rw[cF]
 exact jJ fun _ _=>rfl
theorem Ly (G:GL) (q:Kq×List Int):fW G++[(q.1,.fz (.lst (il q.2)))]=fW (G++[q]):=by
 unfold fW;rw[dA]<;>rfl
theorem kQ (G H:GL):cw (G++H)=cw G++cw H:=dA
theorem qy (G:GL):(cw G).length=G.length:=aT ..
def xN (f:Int->List Int) (n:Nat) (K0:Kq) (m:Nat) (G:GL):Prop:=∀q∈G,f0 n q.2/\q.1=q.2.foldl (b8 f) K0/\q.2.length<m
section
variable {n:Nat} {ps:List (Int×Int)}
theorem M3 (h:PO n ps) {K0 K:Kq} {row:List Int} {G N:GL} {a b u:Int} (g:Grow (ai ps) n K0 (cw G) (cw N)) (oF:∀L∈cw G,OkK n L) (rk:xN (ai ps) n K0 (G++N).length (G++N)) (hK:(K,row)∈G) (hu:0<=u/\u<(n:Int)) {x0 x1 x5 x6 x9 x11 x13:Option OV} :
  Wp (BT [x0,x1,some (.fz (cL n ps)),some (.fz (.int a)),some (.fz (.int b)),x5,x6,some (.dict (dO (fW (G++N)))),some (ag ((cw (G++N)).map aM)),x9,some (.fz (aM K)),x11,some (.fz (.int u)),x13,none]) fun fl S=>fl=.nx/\∃(N':GL) (y13:Option OV),S=[x0,x1,some (.fz (cL n ps)),some (.fz (.int a)),some (.fz (.int b)),x5,x6,some (.dict (dO (fW (G++N')))),some (ag ((cw (G++N')).map aM)),x9,some (.fz (aM K)),x11,some (.fz (.int u)),y13,none]/\Grow (ai ps) n K0 (cw G) (cw N')/\(∀L∈cw (G++N),L∈cw (G++N'))/\b8 (ai ps) K u∈cw (G++N')/\xN (ai ps) n K0 (G++N').length (G++N'):=by
 have n4:=h.n4;have fw:=g.few n4 oF;rw[←kQ,qy] at fw;have oK:OkK n K:=oF K (aW.mpr ⟨_,hK,rfl⟩);obtain⟨ir,er,lr⟩:=rk _ (au N hK);have lr:row.length<(G++N).length:=lr
 have rK:kg (ai ps) n K0 K:=⟨row,ir,er⟩
 have wt:∀L∈[K.1,K.2.1,K.2.2],q9 [.fz (cL n ps),.fz (.tup (il L)),.fz (.int u)]=.ok (.fz (.tup (il (eY (ai ps) L u)))) []:=fun L hL=>by
  rcases aU.mp hL with rfl|hL
  ·exact Ao h oK.a oK.a' hu
  ·rcases aU.mp hL with rfl|hL
   ·exact Ao h oK.b oK.b' hu
   ·rw[bm.mp hL];exact Ao h oK.c oK.c' hu
 have ik:fg (.fz (aM K))=some [.tup (il K.1),.tup (il K.2.1),.tup (il K.2.2)]:=rfl;have tn:=mU [Val.tup (il (b8 (ai ps) K u).1),.tup (il (b8 (ai ps) K u).2.1),.tup (il (b8 (ai ps) K u).2.2)];have kd:Val.tup [.tup (il (b8 (ai ps) K u).1),.tup (il (b8 (ai ps) K u).2.1),.tup (il (b8 (ai ps) K u).2.2)]=aM (b8 (ai ps) K u):=rfl;have lk:=Ar (b8 (ai ps) K u) (fW (G++N));rw[vW] at lk;have fk:=xw (b8 (ai ps) K u) (fW (G++N));have fk0:=xw K (fW (G++N))
 have kl:(dO (fW (G++N))).length=(G++N).length:=by rw[AB]; exact aT ..
 have oS:=oK.step h.hin u;have rS:=DM rK hu
 have nd:((fW (G++N)).map (·.1)).Nodup:=by rw[vW,kQ]; exact g.nd
 have la:=look_at (K:=K) (o:=.fz (.lst (il row))) nd (aW.mpr ⟨_,au N hK,rfl⟩)
 have nx:o7 (.dict (dO (fW (G++N)))) (.fz (aM K))=some (.fz (.lst (il row))):=by
  show(if iU (dO (fW (G++N))) (aM K)=true then aG (dO (fW (G++N))) (aM K) else none)=_
  rw[if_pos fk0,la]
 have ca:=Bn (il row) (il [u]) (by rw[g7]; show row.length+1<100000; omega)
 have eA:il row++il [u]=il (row++[u]):=by unfold il; rw[dA]
 rw[eA] at ca;have ca:bI (.fz (.lst (il row))) (ag [.int u])=some (ag (il (row++[u]))):=ca
 have eS:b8 (ai ps) K u=(row++[u]).foldl (b8 (ai ps)) K0:=by rw[List.foldl_append,←er]<;>rfl
 have iS:f0 n (row++[u]):=fun v hv=>(bc.mp hv).elim (ir v) fun hv=>by rw[bm.mp hv]; exact hu
 generalize cL n ps=E at *
 unfold BT;wtm_at "w";refine mR (yS (ai ps) u) ?_;wtm_at "w";refine⟨fun x hx=>?_,rfl,?_⟩
 ·obtain⟨L,hL,rfl⟩:∃L∈[K.1,K.2.1,K.2.2],x=.tup (il L):=by
   rcases aU.mp hx with rfl|hx
   ·exact⟨_,ao ..,rfl⟩
   ·rcases aU.mp hx with rfl|hx
    ·exact⟨_,aE _ (ao ..),rfl⟩
    ·exact⟨_,aE _ (aE _ (ao ..)),bm.mp hx⟩
  have hw:=wt L hL;wtm_at "nm";wtm_at "w";refine bG hw ?_;exact⟨by rw[rC]<;>rfl,rfl⟩
 rw[BW];wtm_at "w";rw[kd]
 generalize b8 (ai ps) K u=K2 at *
 by_cases m:K2∈cw (G++N)
 ·refine vp rfl ?_;wtm_at "w";refine⟨fk,false,by rw[if_pos rfl,lk,decide_eq_true m]<;>rfl,?_⟩;wtm_at "w";exact⟨rfl,N,_,rfl,g,fun _ z=>z,m,rk⟩
 ·have sk:=zB (K:=K2) (.fz (.lst (il (row++[u])))) (G:=fW (G++N)) (by rw[vW]; exact m);have ra:=Ly (G++N) (K2,row++[u]);rw[ra,dI] at sk;refine vp rfl ?_;wtm_at "w";refine⟨fk,true,by rw[if_pos rfl,lk,decide_eq_false m]<;>rfl,?_⟩;wtm_at "w";refine Ch rfl ?_;refine Ie ?_;wtm_at "w";refine⟨rfl,⟨by omega,fk⟩,_,by wtm_at "at",?_⟩;rw[sk];wtm_at "w"
  have wl:((cw (G++N)).map aM).length<900000:=by
   rw[aT,qy];omega
  refine Co rfl ?_;wtm_at "w";refine⟨rfl,wl,_,by wtm_at "at",?_⟩
  have em:(cw (G++N)).map aM++[aM K2]=(cw (G++(N++[(K2,row++[u])]))).map aM:=by rw[←dI,kQ (G++N),dA]<;>rfl
  rw[em];wtm_at "w";refine⟨rfl,N++[(K2,row++[u])],_,rfl,?_,fun L hL=>?_,?_,fun q hq=>?_⟩
  ·rw[kQ];exact g.add oS rS (by rw[←kQ]; exact m)
  ·rw[←dI,kQ (G++N)];exact au _ hL
  ·rw[←dI,kQ (G++N)];exact aJ _ (bm.mpr rfl)
  ·rw[←dI] at hq ⊢;rw[cX (as:=G++N)]
   rcases bc.mp hq with hq|hq
   ·obtain⟨c1,c2,c3⟩:=rk q hq;exact⟨c1,c2,by omega⟩
   ·rw[bm.mp hq];refine⟨iS,eS,?_⟩
    show(row++[u]).length<_
    rw[cX]
    show row.length+1<(G++N).length+1
    omega
end
section
variable {n:Nat} {ps:List (Int×Int)}
def NU (S:Env):Nat:=match (S[9]?:Option (Option OV)) with
 | some (some (.fz (.int k)))=>(4097 - k).toNat
 | _=>0
def pG (ps:List (Int×Int)) (n:Nat) (p q:Int) (row:List Int) (k:Int):Prop:=gX ps p q=true/\f0 n row/\row.length<=4096/\j9 (row.foldl (b8 (ai ps)) (key0 (ai ps) p q)) k
def xy (n:Nat) (x1:Option OV) (ps:List (Int×Int)) (p q:Int) (x5 x6 x7 x8 x9 x10 x11 x12 x13:Option OV):Env:=[some (.fz (.int n)),x1,some (.fz (cL n ps)),some (.fz (.int p)),some (.fz (.int q)),x5,x6,x7,x8,x9,x10,x11,x12,x13,none]
theorem MC (h:PO n ps) {p q:Int} (hp:0<=p/\p<(n:Int)) (hq:0<=q/\q<(n:Int)) {x1 x5 x6 x7 x8 x9 x10 x11 x12 x13:Option OV} :
  Wp (yc (xy n x1 ps p q x5 x6 x7 x8 x9 x10 x11 x12 x13)) fun fl S=>(fl=.nx/\(∃y5 y6 y7 y8 y9 y10 y11 y12 y13,S=xy n x1 ps p q y5 y6 y7 y8 y9 y10 y11 y12 y13)/\(gX ps p q=true->¬iN (ai ps) n p q))\/∃(row:List Int) (k:Int),fl=.rt (.fz (.tup [.int p,.int q,.lst (il row),.int k]))/\pG ps n p q row k:=by
 have n4:=h.n4;have xp:=uB (n:=n) (ps:=ps) hp;have xq:=uB (n:=n) (ps:=ps) hq;have i1:=kW true p (ai ps q);have i2:=kW true q (ai ps p)
 have d1:decide (p∈ai ps q)=bb ps q p:=by
  cases e:bb ps q p with
  | true=>exact decide_eq_true ((kY ps q p).mpr e)
  | false=>exact decide_eq_false fun z=>by rw[(kY ps q p).mp z] at e; cases e
 have d2:decide (q∈ai ps p)=bb ps p q:=by
  cases e:bb ps p q with
  | true=>exact decide_eq_true ((kY ps p q).mpr e)
  | false=>exact decide_eq_false fun z=>by rw[(kY ps p q).mp z] at e; cases e
 rw[d1] at i1;rw[d2] at i2;unfold xy;unfold yc
 cases e1:bb ps q p with
 | true =>
  rw[e1] at i1;have i1:cV true (.fz (.int p)) (.fz (.tup (il (ai ps q))))=some (.fz (.bool false)):=i1;wtm_at "w";refine lM ?_;wtm_at "w";refine .inl ⟨rfl,⟨_,_,_,_,_,_,_,_,_,rfl⟩,fun z=>?_⟩;rw[mj,e1] at z
  cases z.2
 | false =>
 rw[e1] at i1;have i1:cV true (.fz (.int p)) (.fz (.tup (il (ai ps q))))=some (.fz (.bool true)):=i1
 cases e2:bb ps p q with
 | true =>
  rw[e2] at i2;have i2:cV true (.fz (.int q)) (.fz (.tup (il (ai ps p))))=some (.fz (.bool false)):=i2;wtm_at "w";refine lM ?_;wtm_at "w";refine .inl ⟨rfl,⟨_,_,_,_,_,_,_,_,_,rfl⟩,fun z=>?_⟩;rw[mj,e2] at z
  cases z.1
 | false =>
 rw[e2] at i2;have i2:cV true (.fz (.int q)) (.fz (.tup (il (ai ps p))))=some (.fz (.bool true)):=i2;have nv:gX ps p q=true:=mj.mpr ⟨e2,e1⟩;have fm:=wv (ai ps q) (ai ps p);have one:=@M3 n ps h (key0 (ai ps) p q);have st:=Sch.start (f:=ai ps) (h.key0 hp hq);have nk:=ud (key0 (ai ps) p q);have kd:aM (key0 (ai ps) p q)=.tup [.tup (il (ai ps p)),.tup (il (ai ps q)),.tup (il ((ai ps p).filter fun k=>decide (k∈ai ps q)))]:=rfl;have tn1:=mU (il ((ai ps p).filter fun k=>decide (k∈ai ps q)));have gr:=k9 (n:=n) (by omega)
 have gap:∀{row:List Int} {k:Int} {K:Kq},f0 n row->K=row.foldl (b8 (ai ps)) (key0 (ai ps) p q)->row.length<=4096->j9 K k->pG ps n p q row k:=fun r e l z=>⟨nv,r,l,e▸z⟩
 have nogap:Sch (ai ps) n (key0 (ai ps) p q)=Sch (ai ps) n (key0 (ai ps) p q)->∀{F:List Kq},Sch (ai ps) n (key0 (ai ps) p q) F []->¬iN (ai ps) n p q:=fun _ {F} s ⟨_,_,r,z⟩=>s.over r z
 have nogap:=fun {F:List Kq} (s:Sch (ai ps) n (key0 (ai ps) p q) F [])=>nogap rfl s
 generalize hE:cL n ps=E at *
 wtm_at "w";refine lM ?_;wtm_at "w";refine ol (pM (ai ps q)) id ?_;wtm_at "w";refine⟨fun x hx=>?_,rfl,?_⟩
 ·obtain⟨k,_,rfl⟩:=aW.mp hx;have it:=kW false k (ai ps q);wtm_at "nm";wtm_at "w";refine⟨?_,rfl,fun _=>?_⟩
  ·show(decide (k∈ai ps q) !=false)=decide (k∈ai ps q)
   cases decide (k∈ai ps q)<;>rfl
  ·wtm_at "w";exact⟨rfl,rfl⟩
 rw[fm];wtm_at "w";rw[←kd];refine ID ?_;wtm_at "w";refine⟨nk,?_⟩
 generalize key0 (ai ps) p q=K0 at *
 wtm_at "w";refine vo (fun S=>∃(G:GL) (at_:Nat) (y6 y10 y11 y12 y13:Option OV),S=[some (.fz (.int n)),x1,some (.fz E),some (.fz (.int p)),some (.fz (.int q)),some (.fz (aM K0)),y6,some (.dict (dO (fW G))),some (ag ((cw G).map aM)),some (.fz (.int (at_:Nat))),y10,y11,y12,y13,none]/\Sch (ai ps) n K0 (cw G) ((cw G).drop at_)/\at_<=G.length/\xN (ai ps) n K0 G.length G) NU (fun S hS=>?_) 5000 _ ⟨[(K0,[])],0,_,_,_,_,_,rfl,st,eR _,fun q hq=>by rw[bm.mp hq]; exact⟨(fun _ z=>nomatch z),rfl,Nat.zero_lt_one⟩⟩ (by show(4097 - ((0:Nat):Int)).toNat<5000; decide);obtain⟨G,i,y6,y10,y11,y12,y13,rfl,s,il_,rk⟩:=hS;have ln:=lenN ((cw G).map aM);rw[aT,qy] at ln
 have fw:G.length<=4096:=by
  have:=A9 n4 s.nd s.ok;rw[qy] at this;exact this
 by_cases hi:i<G.length
 ·have hT:decide (((i:Nat):Int)<((G.length:Nat):Int))=true:=decide_eq_true (by omega)
  obtain⟨⟨K,row⟩,hG⟩:∃z,G[i]?=some z:=⟨_,c8 hi⟩
  have hk:(cw G)[i]?=some K:=by unfold cw; rw[cB,hG]<;>rfl
  have hm:(K,row)∈G:=fP hG;have km:K∈cw G:=aW.mpr ⟨_,hm,rfl⟩;have ox:=Et (xs:=(cw G).map aM) (j:=i) (x:=aM K) (by rw[cB,hk]<;>rfl);obtain⟨ir,er,lr⟩:=rk _ hm;have er:K=row.foldl (b8 (ai ps)) K0:=er;have lr:row.length<G.length:=lr;have i0:aP (.fz (aM K)) (.fz (.int 0))=some (.fz (.tup (il K.1))):=rfl;have i1:aP (.fz (aM K)) (.fz (.int 1))=some (.fz (.tup (il K.2.1))):=rfl;have i2:aP (.fz (aM K)) (.fz (.int 2))=some (.fz (.tup (il K.2.2))):=rfl;have ff:=Ac K.2.1 K.2.2 K.1
  have dr:(cw G).drop i=K::(cw G).drop (i+1):=by
   obtain⟨hl,e⟩:=fE.mp hk;rw[u7 hl,e]
  have hl:i<(cw G).length:=by rw[qy]; exact hi
  have wn:=s.wn;rw[dr] at wn;wtm_at "w";unfold Hq;refine⟨fun z=>(by rw[hT] at z; cases z),fun _=>?_⟩;wtm_at "w";refine ol (pF K.2.1 K.2.2) id ?_;wtm_at "w";refine⟨fun x hx=>?_,rfl,?_⟩
  ·obtain⟨k,_,rfl⟩:=aW.mp hx;have t1:=kW false k K.2.1;have t2:=kW true k K.2.2;wtm_at "nm";wtm_at "w";refine Cp ?_;wtm_at "w";refine⟨rfl,?_⟩;wtm_at "w";refine⟨rfl,?_,rfl,fun _=>?_⟩
   ·show((decide (k∈K.2.1) !=false) && (decide (k∈K.2.2) !=true))=(decide (k∈K.2.1) && !decide (k∈K.2.2))
    cases decide (k∈K.2.1)<;>cases decide (k∈K.2.2)<;>rfl
   ·wtm_at "w";exact⟨rfl,rfl⟩
  rw[ff];have fb:=@Gh K;unfold xo at fb
  generalize K.1.filter (fun k=>decide (k∈K.2.1) && !decide (k∈K.2.2))=fr at fb ⊢
  cases fr with
  | cons k fr =>
   have nf:=wJ (k::fr) true rfl;have x0:aP (.fz (.lst (il (k::fr)))) (.fz (.int 0))=some (.fz (.int k)):=qB (il (k::fr)) 0 (.int k) rfl
   have nd:((fW G).map (·.1)).Nodup:=by rw[vW]; exact s.nd
   have la:=look_at (K:=K) (o:=.fz (.lst (il row))) nd (aW.mpr ⟨_,hm,rfl⟩)
   have nx:o7 (.dict (dO (fW G))) (.fz (aM K))=some (.fz (.lst (il row))):=by
    show(if iU (dO (fW G)) (aM K)=true then aG (dO (fW G)) (aM K) else none)=_
    rw[if_pos (xw K (fW G)),la]
   wtm_at "w";exact .inr ⟨row,k,rfl,gap ir er (by omega) (fb.mp (ao ..))⟩
  | nil =>
   have nf:=wJ [] false rfl
   have nb:∀k,¬j9 K k:=fun k z=>nomatch fb.mpr z
   wtm_at "w";refine yA 7 8 12 13 (fun j x7 x8 _ _=>∃N:GL,x7=some (.dict (dO (fW (G++N))))/\x8=some (ag ((cw (G++N)).map aM))/\Grow (ai ps) n K0 (cw G) (cw N)/\xN (ai ps) n K0 (G++N).length (G++N)/\∀u:Int,0<=u->u<(j:Int)->b8 (ai ps) K u∈cw (G++N)) ?_;wtm_at "w";refine⟨⟨_,_,_,_,rfl,[],by rw[b6],by rw[b6],Grow.none s,by rw[b6]; exact rk,fun u u0 u1=>by omega⟩,fun j x x7 x8 x12 x13 hx hP=>?_,fun x7 x8 x12 x13 hP=>?_⟩
   ·obtain⟨N,rfl,rfl,g,rk2,hs⟩:=hP;unfold il at hx;rw[cB] at hx;obtain⟨u,hu,rfl⟩:=jH.mp hx;have um:=mw _ _ _ (fP hu)
    have ui:u=(j:Int):=by
     have hl:=(fE.mp hu).1;rw[dQ] at hl;rw[c8 (by rw[dQ]; exact hl),kU] at hu;have:=Option.some.inj hu;omega
    have O:=one (K:=K) (row:=row) (G:=G) (N:=N) (a:=p) (b:=q) (u:=u) g s.ok rk2 hm (by omega) (x0:=some (.fz (.int n))) (x1:=x1) (x5:=some (.fz (aM K0))) (x6:=y6) (x9:=some (.fz (.int ((i:Int)+1)))) (x11:=some (.fz (.lst (il [])))) (x13:=x13);wtm_at "nm";wtm_at "w"
    refine aH O fun fl S ⟨e1,N',y13,e2,g',sub,m,rk3⟩=>?_
    subst e1 e2;wtm_at "w";refine⟨_,_,_,_,rfl,N',rfl,rfl,g',rk3,fun v v0 v1=>?_⟩
    by_cases e:v=u
    ·rw[e];exact m
    ·exact sub _ (hs v v0 (by omega))
   ·obtain⟨N,rfl,rfl,g,rk2,hs⟩:=hP;rw[g7,dQ] at hs;wtm_at "nm";wtm_at "w"
    have e3:(cw (G++N)).drop (i+1)=(cw G).drop (i+1)++cw N:=by
     rw[kQ,List.drop_append_of_le_length (by omega)]
    refine⟨⟨G++N,i+1,_,_,_,_,_,rfl,?_,by rw[cX]; omega,rk2⟩,?_⟩
    ·rw[e3,kQ];refine g.sch s (K:=K) (fun L hL=>?_) (fun L hL=>?_) (bT.mp wn).2 nb (by rw[←kQ]; exact hs)
     ·rw[dr] at hL;exact(aU.mp hL).symm
     ·rw[dr];exact aE _ hL
    ·show(4097 - ((i:Int)+1)).toNat<(4097 - (i:Int)).toNat
     omega
 ·have hF:decide (((i:Nat):Int)<((G.length:Nat):Int))=false:=decide_eq_false (by omega);wtm_at "w";refine⟨fun _=>?_,fun z=>(by rw[hF] at z; cases z)⟩;rw[List.drop_eq_nil_of_le (by rw[qy]; omega)] at s;exact .inl ⟨rfl,⟨_,_,_,_,_,_,_,_,_,rfl⟩,fun _=>nogap s⟩
def RS (ps:List (Int×Int)) (n:Nat) (r:Val):Prop:=(r=.none/\¬lA ps n)\/∃(p q:Int) (row:List Int) (k:Int),r=.tup [.int p,.int q,.lst (il row),.int k]/\(0<=p/\p<(n:Int))/\(0<=q/\q<(n:Int))/\pG ps n p q row k
theorem pG.counts {p q k:Int} {row:List Int} (hp:0<=p/\p<(n:Int)) (hq:0<=q/\q<(n:Int)) (g:pG ps n p q row k):lA ps n:=⟨p,q,hp,hq,g.1,_,k,⟨row,g.2.1,rfl⟩,g.2.2.2⟩
theorem NB (h:∀p q:Int,0<=q->q<p->p<(n:Int)->gX ps p q=true->¬iN (ai ps) n p q):¬lA ps n:=fun⟨a,b,ha,hb,nv,g⟩=>by
 have ne:a≠b:=fun z=>by
  have:=(mj.mp nv).1;unfold bb at this;rw[z,beq_self_eq_true,qZ] at this
  cases this
 rcases Int.lt_or_gt_of_ne ne with z|z
 ·exact h b a ha.1 z hb.2 (EV nv) g.symm
 ·exact h a b hb.1 z ha.2 nv g
theorem Os (h:PO n ps):Wp (vg [.fz (.int n),.fz (.lst (ap ps))]) fun r outs=>∃v,r=.fz v/\outs=[]/\RS ps n v:=by
 have n4:=h.n4;have gr:=k9 (n:=n) (by omega);have ee:=Be h;have pair:=@MC n ps h;unfold vg;refine iq rfl (by wtm_at "st") ?_;unfold Hd;unfold Ho
 generalize yc=BB at pair ⊢
 unfold xy at pair;wtm_at "w";refine bG ee ?_;wtm_at "w";have eV:Val.lst (m8 (nS n ps))=cL n ps:=rfl;rw[eV]
 have rgp:∀(m:Nat) (i:Nat) (x:Val),(il (bg 0 m))[i]?=some x->x=.int (i:Nat)/\i<m:=fun m i x hx=>by
  unfold il at hx;rw[cB] at hx;obtain⟨u,hu,rfl⟩:=jH.mp hx;have hl:=(fE.mp hu).1;rw[dQ] at hl;rw[c8 (by rw[dQ]; exact hl),kU,nZ] at hu;exact⟨by rw[←Option.some.inj hu],hl⟩
 refine lJ (fun i S=>(∃y3 y4 y5 y6 y7 y8 y9 y10 y11 y12 y13,S=[some (.fz (.int n)),some (.fz (.lst (ap ps))),some (.fz (cL n ps)),y3,y4,y5,y6,y7,y8,y9,y10,y11,y12,y13,none])/\∀p q:Int,0<=q->q<p->p<(i:Int)->gX ps p q=true->¬iN (ai ps) n p q) ?_;wtm_at "w";refine⟨⟨⟨_,_,_,_,_,_,_,_,_,_,_,rfl⟩,fun p q q0 qp pi=>by omega⟩,fun i x S hx hS=>?_,fun S hS=>?_⟩
 ·obtain⟨⟨y3,y4,y5,y6,y7,y8,y9,y10,y11,y12,y13,rfl⟩,hS⟩:=hS;obtain⟨rfl,hi⟩:=rgp n i x hx;have gri:=k9 (n:=i) (by omega);wtm_at "w";refine lJ (fun j S=>(∃y4 y5 y6 y7 y8 y9 y10 y11 y12 y13,S=[some (.fz (.int n)),some (.fz (.lst (ap ps))),some (.fz (cL n ps)),some (.fz (.int (i:Nat))),y4,y5,y6,y7,y8,y9,y10,y11,y12,y13,none])/\∀q:Int,0<=q->q<(j:Int)->gX ps (i:Nat) q=true->¬iN (ai ps) n (i:Nat) q) ?_;wtm_at "w";refine⟨⟨⟨_,_,_,_,_,_,_,_,_,_,rfl⟩,fun q q0 qj=>by omega⟩,fun j x S hx hS2=>?_,fun S hS2=>?_⟩
  ·obtain⟨⟨y4,y5,y6,y7,y8,y9,y10,y11,y12,y13,rfl⟩,hS2⟩:=hS2;obtain⟨rfl,hj⟩:=rgp i j x hx;wtm_at "w"
   refine aH (pair (p:=((i:Nat):Int)) (q:=((j:Nat):Int)) (by omega) (by omega) (x1:=some (.fz (.lst (ap ps)))) (x5:=y5) (x6:=y6) (x7:=y7) (x8:=y8) (x9:=y9) (x10:=y10) (x11:=y11) (x12:=y12) (x13:=y13)) fun fl S1 hq=>?_
   rcases hq with⟨e1,⟨z5,z6,z7,z8,z9,z10,z11,z12,z13,e2⟩,ng⟩|⟨row,k,e1,g⟩
   ·subst e1 e2;wtm_at "w";refine⟨⟨_,_,_,_,_,_,_,_,_,_,rfl⟩,fun q q0 qj nv=>?_⟩
    by_cases e:q=((j:Nat):Int)
    ·subst e;exact ng nv
    ·exact hS2 q q0 (by omega) nv
   ·subst e1;wtm_at "w";exact⟨rfl,.inr ⟨_,_,row,k,rfl,by omega,by omega,g⟩⟩
  ·obtain⟨⟨y4,y5,y6,y7,y8,y9,y10,y11,y12,y13,rfl⟩,hS2⟩:=hS2;rw[g7,dQ] at hS2;wtm_at "w";refine⟨⟨_,_,_,_,_,_,_,_,_,_,_,rfl⟩,fun p q q0 qp pi nv=>?_⟩
   by_cases e:p=((i:Nat):Int)
   ·subst e;exact hS2 q q0 qp nv
   ·exact hS p q q0 qp (by omega) nv
 ·obtain⟨⟨y3,y4,y5,y6,y7,y8,y9,y10,y11,y12,y13,rfl⟩,hS⟩:=hS;rw[g7,dQ] at hS;wtm_at "w";exact⟨rfl,.inl ⟨rfl,NB hS⟩⟩
end
def wq (c:Nat):Int:=(c:Int) - 97
def ie (n:Nat):Str:=bA ((List.range n).map (97+·))
def uK (n:Nat):Bool:=(List.range n).all fun j=>match nO (.fz (.str (ie n))) (.fz (.str (cn (97+j)))) with
 | some (.fz (.int k))=>decide (k=(j:Nat))
 | _=>false
theorem Rl:(uK 1 && (uK 2 && (uK 3 && uK 4)))=true:=by decide +kernel
theorem Du {n:Nat} (n1:1<=n) (n4:n<=4) {j:Nat} (hj:j<n):nO (.fz (.str (ie n))) (.fz (.str (cn (97+j))))=some (.fz (.int (j:Nat))):=by
 have h:uK n=true:=by
  have h:=Rl;simp only[Bool.and_eq_true] at h
  rcases (show n=1\/n=2\/n=3\/n=4 by omega) with rfl|rfl|rfl|rfl
  ·exact h.1
  ·exact h.2.1
  ·exact h.2.2.1
  ·exact h.2.2.2
 have:=dv.mp h j (List.mem_range.mpr hj);split at this
 ·rename_i k e
  rw[e,of_decide_eq_true this]
 ·cases this
def wR (n:Nat):List (Val×Val):=[(.str "many",.int n),(.str "deeds",.str (ie n)),(.str "whose",.lst (il (bg 0 n)))]
def eU (n:Nat):Val:=.dict (wR n)
theorem Au {kvs:List (Val×Val)} {k:Str} {x:Val} (h:aG kvs (.str k)=some x):aP (.fz (.dict kvs)) (.fz (.str k))=some (.fz x):=by
 have e:aP (.fz (.dict kvs)) (.fz (.str k))=(aG kvs (.str k)).map .fz:=rfl;rw[e,h]<;>rfl
theorem Jt (n:Nat):aP (.fz (eU n)) (.fz (.str "many"))=some (.fz (.int n)):=Au (by unfold wR; simp (decide:=true) [aG])
theorem yK (n:Nat):aP (.fz (eU n)) (.fz (.str "deeds"))=some (.fz (.str (ie n))):=Au (by unfold wR; simp (decide:=true) [aG])
theorem Cu (n:Nat):aP (.fz (eU n)) (.fz (.str "whose"))=some (.fz (.lst (il (bg 0 n)))):=Au (by unfold wR; simp (decide:=true) [aG])
def jR (n:Nat) (cs:List Nat):Prop:=∀c∈cs,97<=c/\c<97+n
abbrev tq (ps:List (Int×Int)) (r:List Nat) (q:Nat):Tr:=aK (bb ps) wq r (q:Int)
theorem C3 {ps:List (Int×Int)} {c:Nat} {r:List Nat} {q p:Nat} (hp:wq c=(p:Int)):tq ps (c::r) q=if bb ps p q then .node (tq ps r q) (tq ps r p) c else tq ps r q:=by
 show(if bb ps (wq c) q then _ else _)=_
 rw[hp]
def kM (ps:List (Int×Int)) (c:Nat) (r:List Nat) (H:List Int) (q:Nat):Tr:=if (q:Int)∈H then tq ps (c::r) q else tq ps r q
section
variable {n:Nat} {ps:List (Int×Int)}
theorem L5 {D':NT} {ns':List Int} {c p q:Nat} {r:List Nat} {H:List Int} {bp:Int} (hp:wq c=(p:Int)) (o:D'.ok) (h1:hX D' (kM ps c r H) n ns') (hbp:D'.num (tq ps r p) bp) (hq:q<n) (nH:(q:Int)∉H) (hb:bb ps (p:Int) (q:Int)=true):∃bq:Int,ns'[q]?=some bq/\(D'.put (bq,bp,c)).ok/\(∀z∈D',z∈D'.put (bq,bp,c))/\(D'.put (bq,bp,c)).length<=D'.length+1/\hX (D'.put (bq,bp,c)) (kM ps c r (H++[(q:Int)])) n (ns'.set q (D'.get (bq,bp,c))):=by
 obtain⟨bq,q1,q2⟩:=h1.2 q hq;unfold kM at q2;rw[if_neg nH] at q2;obtain⟨k1,k2,k3,k4⟩:=NT.put_ok o (bq,bp,c);have tc:=C3 (ps:=ps) (c:=c) (r:=r) (q:=q) hp;rw[if_pos hb] at tc;refine⟨bq,q1,k1,k3,k4,by rw[gG]; exact h1.1,fun q' hq'=>?_⟩
 by_cases e:q'=q
 ·subst e;refine⟨D'.get (bq,bp,c),by rw[ig (by rw[h1.1]; exact hq')],?_⟩;unfold kM;rw[if_pos (aJ _ (bm.mpr rfl)),tc];exact NT.put_num o q2 hbp
 ·obtain⟨m,a,b1⟩:=h1.2 q' hq';have b:=NT.num_mono k3 _ b1;refine⟨m,by rw[cG (fun z=>e z.symm)]; exact a,?_⟩;unfold kM at b ⊢
  by_cases m:(q':Int)∈H
  ·rw[if_pos m] at b;rw[if_pos (au _ m)];exact b
  ·rw[if_neg m] at b
   rw[if_neg (by
    intro z
    rcases bc.mp z with z|z
    ·exact m z
    ·have:=bm.mp z
     omega)]
   exact b
theorem L6 {D:NT} {ns:List Int} {c p:Nat} {r:List Nat} (hp:wq c=(p:Int)) (h:hX D (kM ps c r (ai ps p)) n ns):hX D (tq ps (c::r)) n ns:=by
 refine⟨h.1,fun q hq=>?_⟩;obtain⟨m,a,b⟩:=h.2 q hq;refine⟨m,a,?_⟩;unfold kM at b
 by_cases z:(q:Int)∈ai ps p
 ·rw[if_pos z] at b;exact b
 ·rw[if_neg z] at b;rw[C3 hp,if_neg (fun y=>z ((kY ps _ _).mpr y))];exact b
theorem L7 {D:NT} {ns:List Int} {c:Nat} {r:List Nat} (h:hX D (tq ps r) n ns):hX D (kM ps c r []) n ns:=by
 refine⟨h.1,fun q hq=>?_⟩;obtain⟨m,a,b⟩:=h.2 q hq;exact⟨m,a,by unfold kM; rw[if_neg (fun z=>by cases z)]; exact b⟩
theorem xa {ns:List Int} {q:Nat} {b:Int} (h:ns[q]?=some b):aP (ag (il ns)) (.fz (.int (q:Nat)))=some (.fz (.int b)):=Et (by unfold il; rw[cB,h]<;>rfl)
theorem Om (D:NT):jT (df D)=some (.fz (.int D.length)):=by
 show some (OV.fz (.int (iG D).length))=_
 rw[FE]
theorem JI {D:NT} {ns:List Int} {c q:Nat} {bq bp:Int} (h1:ns[q]?=some bq) (hl:D.length<900000) (x0 x1 x3 x6:Option OV) :
  Wp (BQ [x0,x1,some (df D),x3,some (ag (il ns)),some (.fz (.str (cn c))),x6,some (.fz (.int bp)),some (.fz (.int (q:Nat)))]) fun f S=>f=.nx/\S=[x0,x1,some (df (D.put (bq,bp,c))),x3,some (ag (il (ns.set q (D.get (bq,bp,c))))),some (.fz (.str (cn c))),x6,some (.fz (.int bp)),some (.fz (.int (q:Nat)))]:=by
 have g1:=xa h1;have hq:=(fE.mp h1).1;have ln:=Om D;have t3:gTup [.int bq,.int bp,.str (cn c)]=some (.fz (kN (bq,bp,c))):=rfl
 have fa:(ah [] (cj (ah [4] (ae aP (ac 4) (ac 8)) (ah [7] (ac 7) (ah [5] (ac 5) az)))) (ah [] (ae bI (aC jT (ac 2)) (eC (.int 1))) az)) [x0,x1,some (df D),x3,some (ag (il ns)),some (.fz (.str (cn c))),x6,some (.fz (.int bp)),some (.fz (.int (q:Nat)))]=.ok [kN (bq,bp,c),.int ((D.length:Int)+1)] [x0,x1,some (df D),x3,some (ag (il ns)),some (.fz (.str (cn c))),x6,some (.fz (.int bp)),some (.fz (.int (q:Nat)))]:=by
  simp (implicitDefEqProofs:=false) only[af,aj,aZ,ci,aX,fV,bj,bY,dL,cC,eZ,eE,gq,gm,ae,aC,c6,dD,ac,dY,cP,eC,dF,fh,fj,eB,dX,gh,ev_tup,dE,gy,dZ,d7,cQ,az,ah,aS,aq,de,cK,cY,c7,c5,dR,fq,gz,cE,cD,cb,bP,bF,bH,cZ,cW,dz,ev_fld,dN,bo,di,dW,eO,aI,bO,OV.fzv,OV.val,putS,bR,gN,cU,bB,bW,Option.bind_some,Option.map_some,List.getElem?_cons_zero,List.getElem?_cons_succ,List.length_cons,List.length_nil,Nat.reduceAdd,Nat.reduceLT,if_true,List.set_cons_zero,List.set_cons_succ,fK,fH,eM,eP,fU,fY,fZ,gb,fA,gj,fx,t3,g1,ln]
 have sd:=Li (i:=2) (p:=[]) (o:=df D) (k:=(bq,bp,c)) (S:=[x0,x1,some (df D),x3,some (ag (il ns)),some (.fz (.str (cn c))),x6,some (.fz (.int bp)),some (.fz (.int (q:Nat)))]) rfl rfl fa hl;unfold BQ;refine yu ?_;refine IK ?_;refine bG sd ?_;wtm_at "nm";refine⟨_,rfl,⟨_,rfl⟩,?_⟩;wtm_at "w";refine⟨il ns,rfl,⟨by omega,by rw[g7,pD]; exact hq⟩,_,by wtm_at "at",?_⟩;wtm_at "w";refine⟨rfl,?_⟩;rw[pD];unfold il;rw[List.map_set]<;>rfl
theorem JH (h:PO n ps) {D:NT} {ns:List Int} {c:Nat} {r:List Nat} (hc:97<=c/\c<97+n) (oD:D.ok) (hn:hX D (tq ps r) n ns) (dl:D.length+10<800000) (x3 x6 x7 x8:Option OV) :
  Wp (BP [some (.fz (eU n)),some (.fz (cL n ps)),some (df D),x3,some (ag (il ns)),some (.fz (.str (cn c))),x6,x7,x8]) fun f S=>f=.nx/\∃(D':NT) (ns':List Int) (y6 y7 y8:Option OV),S=[some (.fz (eU n)),some (.fz (cL n ps)),some (df D'),x3,some (ag (il ns')),some (.fz (.str (cn c))),y6,y7,y8]/\D'.ok/\(∀z∈D,z∈D')/\D'.length<=D.length+4/\hX D' (tq ps (c::r)) n ns':=by
 have n4:=h.n4;have n1:=h.n1
 obtain⟨p,rfl⟩:∃p:Nat,c=97+p:=⟨c - 97,by omega⟩
 have hp:wq (97+p)=(p:Int):=by show((97+p:Nat):Int) - 97=_; omega
 have pn:p<n:=by omega
 have iw:=Cu n;have idd:=yK n;have sx:=Du n1 n4 pn
 have ix:aP (.fz (.lst (il (bg 0 n)))) (.fz (.int (p:Nat)))=some (.fz (.int (p:Nat))):=by
  refine qB _ p _ ?_
  have hl:p<(bg 0 n).length:=by rw[dQ]; omega
  unfold il;rw[cB,c8 hl,kU,nZ]<;>rfl
 obtain⟨bp,b1,b2⟩:=hn.2 p pn;have gp:=xa b1;have ex:=uB (n:=n) (ps:=ps) (u:=((p:Nat):Int)) (by omega);have pw:=h.hpw (p:=((p:Nat):Int)) (by omega) (by omega);have hi:=h.hin ((p:Nat):Int) (by omega) (by omega);have al:=uO pw hi
 generalize eU n=w at *
 generalize cL n ps=E at *
 unfold BP;wtm_at "w";refine yB 2 4 8 (fun i x2 x4 x8=>i<=(ai ps p).length/\∃(D':NT) (ns':List Int),x2=some (df D')/\x4=some (ag (il ns'))/\D'.ok/\(∀z∈D,z∈D')/\D'.length<=D.length+i/\hX D' (kM ps (97+p) r ((ai ps p).take i)) n ns') ?_;wtm_at "w";refine⟨⟨_,_,_,rfl,eR _,D,ns,rfl,rfl,oD,fun _ z=>z,bS _,by rw[List.take_zero]; exact L7 hn⟩,fun i x x2 x4 x8 hx hP=>?_,fun x2 x4 x8 hP=>?_⟩
 ·obtain⟨_,D',ns',rfl,rfl,o',sub,dl',hn'⟩:=hP;unfold il at hx;rw[cB] at hx;obtain⟨q,hq,rfl⟩:=jH.mp hx;have il_:=(fE.mp hq).1;have qm:=fP hq;have qr:=hi q qm
  obtain⟨q,rfl⟩:∃k:Nat,q=(k:Int):=⟨q.toNat,by omega⟩
  have hb:bb ps (p:Int) (q:Int)=true:=(kY ps _ _).mp qm
  have nH:(q:Int)∉(ai ps p).take i:=fun z=>by
   obtain⟨j,hj,e⟩:=List.getElem_of_mem z;rw[List.getElem_take] at e;rw[List.length_take] at hj;have:=List.pairwise_iff_getElem.mp pw j i (by omega) il_ (by omega);have e2:(ai ps p)[i]=(q:Int):=(fE.mp hq).2;omega
  obtain⟨bq,h1,k1,k2,k3,k4⟩:=L5 hp o' hn' (NT.num_mono sub _ b2) (by omega) nH hb;have T:=JI (D:=D') (ns:=ns') (c:=97+p) (bp:=bp) h1 (by omega) (some (.fz w)) (some (.fz E)) x3 (some (.fz (.int (p:Nat))));wtm_at "nm";wtm_at "w"
  refine aH T fun f S ⟨e1,e2⟩=>?_
  subst e1 e2;wtm_at "w";refine⟨_,_,_,rfl,il_,_,_,rfl,rfl,k1,fun z hz=>k2 z (sub z hz),by omega,?_⟩;rw[List.take_add_one,hq];exact k4
 ·obtain⟨_,D',ns',rfl,rfl,o',sub,dl',hn'⟩:=hP;rw[g7] at hn' dl';rw[List.take_length] at hn';wtm_at "nm";wtm_at "w";exact⟨rfl,D',ns',_,_,_,rfl,o',sub,by omega,L6 hp hn'⟩
theorem zc (h:PO n ps) {D:NT} {cs:List Nat} (hc:jR n cs) (oD:D.ok) (dl:D.length+4 * cs.length+10<800000) :
  ∃(D':NT) (ns':List Int),lz [.fz (eU n),.fz (cL n ps),df D,.fz (.str (bA cs))]=.ok (ag (il ns')) [some (df D')]/\D'.ok/\(∀z∈D,z∈D')/\D'.length<=D.length+4 * cs.length/\hX D' (tq ps cs.reverse) n ns':=by
 have n4:=h.n4;have im:=Jt n;have two:=@JH n ps h
 have key:Wp (lz [.fz (eU n),.fz (cL n ps),df D,.fz (.str (bA cs))]) fun r outs=>∃(D':NT) (ns':List Int),r=ag (il ns')/\outs=[some (df D')]/\D'.ok/\(∀z∈D,z∈D')/\D'.length<=D.length+4 * cs.length/\hX D' (tq ps cs.reverse) n ns':=by
  generalize eU n=w at *
  generalize cL n ps=E at *
  have rp:gv (ag [.int 0]) (.fz (.int (n:Nat)))=some (ag (il (List.replicate n 0))):=by
   rcases (show n=0\/n=1\/n=2\/n=3\/n=4 by omega) with rfl|rfl|rfl|rfl|rfl<;>rfl
  unfold lz;refine iq rfl (by wtm_at "st") ?_;unfold G6;wtm_at "w";refine Ck 2 4 5 6 7 8 (fun i x2 x4 _ _ _ _=>i<=cs.length/\∃(D':NT) (ns':List Int),x2=some (df D')/\x4=some (ag (il ns'))/\D'.ok/\(∀z∈D,z∈D')/\D'.length<=D.length+4 * i/\hX D' (tq ps (cs.take i).reverse) n ns') ?_;wtm_at "w";refine⟨⟨_,_,_,_,_,_,rfl,eR _,D,List.replicate n 0,rfl,rfl,oD,fun _ z=>z,bS _,xQ,fun q hq=>⟨0,by rw[List.getElem?_replicate,if_pos hq],rfl⟩⟩,fun i x x2 x4 x5 x6 x7 x8 hx hP=>?_,fun x2 x4 x5 x6 x7 x8 hP=>?_⟩
  ·obtain⟨_,D',ns',rfl,rfl,o',sub,dl',hn'⟩:=hP;have hx:(cs.map fun c=>Val.str (cn c))[i]?=some x:=hx;rw[cB] at hx;obtain⟨c,hcx,rfl⟩:=jH.mp hx;have hi:=(fE.mp hcx).1
   have tk:(cs.take (i+1)).reverse=c::(cs.take i).reverse:=by rw[List.take_add_one,hcx,List.reverse_append]<;>rfl
   have T:=two (c:=c) (r:=(cs.take i).reverse) (hc c (fP hcx)) o' hn' (by omega) (some (.fz (.str (bA cs)))) x6 x7 x8;wtm_at "nm";wtm_at "w"
   refine aH T fun f S ⟨e1,D2,ns2,y6,y7,y8,e2,o2,sub2,dl2,gD⟩=>?_
   subst e1 e2;wtm_at "w";exact⟨_,_,_,_,_,_,rfl,hi,D2,ns2,rfl,rfl,o2,fun z hz=>sub2 z (sub z hz),by omega,by rw[tk]; exact gD⟩
  ·obtain⟨_,D',ns',rfl,rfl,o',sub,dl',hn'⟩:=hP;have e:(mH (bA cs)).length=cs.length:=aT ..;rw[e] at hn' dl';rw[List.take_length] at hn';wtm_at "nm";wtm_at "w";exact⟨D',ns',rfl,rfl,o',sub,dl',hn'⟩
 obtain⟨r,outs,e,D',ns',rfl,rfl,h1⟩:=dB key;exact⟨D',ns',e,h1⟩
end
theorem LP (cs:List Nat) (h:cs.length<100000):qH (.fz (.str (bA cs)))=some (.fz (.str (bA cs.reverse))):=by
 unfold qH;dsimp only;have l:(bA cs).length=cs.length:=rfl;rw[if_pos (by rw[l]; unfold bL; omega)];unfold pX;rfl
theorem qU (cs ds:List Nat) (h:cs.length+ds.length<100000):bI (.fz (.str (bA cs))) (.fz (.str (bA ds)))=some (.fz (.str (bA (cs++ds)))):=by
 have e:bA cs++bA ds=bA (cs++ds):=by
  show(⟨cs.toArray++ds.toArray⟩:Str)=⟨(cs++ds).toArray⟩
  simp
 rw[←e];exact RK _ _ (by show cs.length+ds.length<bL; unfold bL; omega)
theorem Pt (neg:Bool) (k:Int) (is:List Int):cV neg (.fz (.int k)) (.fz (.lst (il is)))=some (.fz (.bool (decide (k∈is) !=neg))):=Pr neg k is rfl rfl rfl
theorem NJ (fr:List Int) (b:Bool) (e:fr.isEmpty=!b):cz (ag (il fr)) (ag [])=some (.fz (.bool b)):=by
 cases fr with
 | nil =>
  cases b with
  | false=>rfl
  | true=>cases e
 | cons k fr =>
  cases b with
  | true =>
   unfold cz;have e1:(ag (il (k::fr))).val=.lst (il (k::fr)):=mS _;have e2:(ag []).val=.lst []:=rfl;rw[e1,e2];have o1:br 60 (.lst (il (k::fr)))=true:=nA 59 (k::fr);rw[if_pos ⟨o1,rfl⟩]<;>rfl
  | false=>cases e
section
variable {n:Nat} {ps:List (Int×Int)}
theorem yX {h:Int->Int->Bool} {w:Nat->Int} (b:List Nat):∀(a:List Nat) (U:List Int),eW h w U (a++b)=eW h w (eW h w U a) b
 | [],_=>rfl
 | y::a,U=>by
  show(if U.any (h (w y)) then eW h w (w y::U) (a++b) else eW h w U (a++b))=eW h w (if U.any (h (w y)) then eW h w (w y::U) a else eW h w U a) b
  by_cases c:U.any (h (w y))=true
  ·rw[if_pos c,if_pos c,yX b a]
  ·rw[if_neg c,if_neg c,yX b a]
theorem Re (h:PO n ps) {c:Nat} (hc:97<=c/\c<97+n) {T:List Int} {ds:List Nat} (lT:T.length<50000) (ld:ds.length<50000) (x2 x3 x7:Option OV) :
  Wp (yd [some (.fz (eU n)),some (.fz (cL n ps)),x2,x3,some (.fz (.lst (il T))),some (.fz (.str (bA ds))),some (.fz (.str (cn c))),x7,none]) fun f S=>f=.nx/\∃y7:Option OV,S=[some (.fz (eU n)),some (.fz (cL n ps)),x2,x3,some (.fz (.lst (il (if T.any (bb ps (wq c)) then T++[wq c] else T)))),some (.fz (.str (bA (if T.any (bb ps (wq c)) then c::ds else ds)))),some (.fz (.str (cn c))),y7,none]:=by
 have n4:=h.n4;have n1:=h.n1
 obtain⟨p,rfl⟩:∃p:Nat,c=97+p:=⟨c - 97,by omega⟩
 have hp:wq (97+p)=(p:Int):=by show((97+p:Nat):Int) - 97=_; omega
 rw[hp]
 have pn:p<n:=by omega
 have iw:=Cu n;have idd:=yK n;have sx:=Du n1 n4 pn
 have ix:aP (.fz (.lst (il (bg 0 n)))) (.fz (.int (p:Nat)))=some (.fz (.int (p:Nat))):=by
  refine qB _ p _ ?_
  have hl:p<(bg 0 n).length:=by rw[dQ]; omega
  unfold il;rw[cB,c8 hl,kU,nZ]<;>rfl
 have ex:=uB (n:=n) (ps:=ps) (u:=((p:Nat):Int)) (by omega);have fm:=wv T (ai ps p)
 have em:((ai ps p).filter fun k=>decide (k∈T)).isEmpty=!(T.any (bb ps p)):=by
  cases e:T.any (bb ps p) with
  | true =>
   obtain⟨v,hv,hh⟩:=iK.mp e
   have:v∈(ai ps p).filter fun k=>decide (k∈T):=gL.mpr ⟨(kY ps p v).mpr hh,decide_eq_true hv⟩
   cases e2:(ai ps p).filter fun k=>decide (k∈T) with
   | nil=>rw[e2] at this; cases this
   | cons _ _=>rfl
  | false =>
   have:(ai ps p).filter (fun k=>decide (k∈T))=[]:=List.filter_eq_nil_iff.mpr fun v hv z=>by
    have:=iK.mpr ⟨v,of_decide_eq_true z,(kY ps p v).mp hv⟩;rw[e] at this
    cases this
   rw[this]<;>rfl
 have nn:=NJ _ _ em;have aw:bI (.fz (.str (cn (97+p)))) (.fz (.str (bA ds)))=some (.fz (.str (bA ((97+p)::ds)))):=qU [97+p] ds (by show 1+ds.length<100000; omega);have ca:=Bn (il T) (il [(p:Int)]) (by rw[g7]; show T.length+1<100000; omega)
 have eA:il T++il [(p:Int)]=il (T++[(p:Int)]):=by unfold il; rw[dA]
 rw[eA] at ca;have ca:bI (.fz (.lst (il T))) (ag [.int (p:Nat)])=some (ag (il (T++[(p:Int)]))):=ca
 generalize eU n=w at *
 generalize cL n ps=E at *
 unfold yd;wtm_at "w";refine ol (pM T) id ?_;wtm_at "w";refine⟨fun x hx=>?_,rfl,?_⟩
 ·obtain⟨k,_,rfl⟩:=aW.mp hx;have it:=Pt false k T;wtm_at "nm";wtm_at "w";refine⟨?_,rfl,fun _=>?_⟩
  ·show(decide (k∈T) !=false)=decide (k∈T)
   cases decide (k∈T)<;>rfl
  ·wtm_at "w";exact⟨rfl,rfl⟩
 rw[fm]
 cases e:T.any (bb ps p) with
 | true =>
  rw[e] at nn;wtm_at "w";exact⟨rfl,_,rfl⟩
 | false =>
  rw[e] at nn;wtm_at "w";exact⟨rfl,_,rfl⟩
theorem RG {T U:List Int} (e:∀v,v∈T↔v∈U) (g:Int->Bool):T.any g=U.any g:=by
 cases h:U.any g with
 | true =>
  obtain⟨v,hv,z⟩:=iK.mp h;exact iK.mpr ⟨v,(e v).mpr hv,z⟩
 | false =>
  refine List.any_eq_false.mpr fun v hv z=>?_
  have:=iK.mpr ⟨v,(e v).mp hv,z⟩;rw[h] at this
  cases this
theorem Bi (h:PO n ps) {cs:List Nat} (hc:jR n cs) (lc:cs.length<40000) (u:Int):oi [.fz (eU n),.fz (cL n ps),.fz (.str (bA cs)),.fz (.int u)]=.ok (.fz (.str (bA (iC ps wq u cs)))) []:=by
 have one:=@Re n ps h;have rv:=LP cs (by omega)
 generalize eU n=w at *
 generalize cL n ps=E at *
 refine jZ ?_;unfold oi;refine iq rfl (by wtm_at "st") ?_;unfold Hg
 generalize yd=BB at one ⊢
 wtm_at "w";refine yA 4 5 6 7 (fun i x4 x5 _ _=>i<=cs.reverse.length/\∃T:List Int,x4=some (.fz (.lst (il T)))/\x5=some (.fz (.str (bA (bu (bb ps) wq [u] (cs.reverse.take i)).reverse)))/\T.length<=i+1/\∀v,v∈T↔v∈eW (bb ps) wq [u] (cs.reverse.take i)) ?_;wtm_at "w";refine⟨⟨_,_,_,_,rfl,eR _,[u],rfl,rfl,bS _,fun v=>Iff.rfl⟩,fun i x x4 x5 x6 x7 hx hP=>?_,fun x4 x5 x6 x7 hP=>?_⟩
 ·obtain⟨_,T,rfl,rfl,lT,hT⟩:=hP;have hx:(cs.reverse.map fun c=>Val.str (cn c))[i]?=some x:=hx;rw[cB] at hx;obtain⟨c,hcx,rfl⟩:=jH.mp hx;have hi:=(fE.mp hcx).1;have hm:c∈cs:=List.mem_reverse.mp (fP hcx)
  have tk:cs.reverse.take (i+1)=cs.reverse.take i++[c]:=by rw[List.take_add_one,hcx]<;>rfl
  have lr:(bu (bb ps) wq [u] (cs.reverse.take i)).length<=i:=dH (pZ _ _) (by rw[List.length_take]; omega)
  have hi2:i<cs.length:=by rw[nY] at hi; exact hi
  have an:=RG hT (bb ps (wq c));have O:=one (c:=c) (hc c hm) (T:=T) (ds:=(bu (bb ps) wq [u] (cs.reverse.take i)).reverse) (by omega) (by rw[nY]; omega) (some (.fz (.str (bA cs)))) (some (.fz (.int u))) x7;wtm_at "nm";wtm_at "w"
  refine aH O fun f S ⟨e1,y7,e2⟩=>?_
  subst e1 e2;wtm_at "w";refine⟨_,_,_,_,rfl,hi,_,rfl,?_,?_,fun v=>?_⟩
  ·rw[tk,sR,an]
   have e:bu (bb ps) wq (eW (bb ps) wq [u] (cs.reverse.take i)) [c]=if (eW (bb ps) wq [u] (cs.reverse.take i)).any (bb ps (wq c))=true then [c] else []:=rfl
   rw[e]
   by_cases z:(eW (bb ps) wq [u] (cs.reverse.take i)).any (bb ps (wq c))=true
   ·rw[if_pos z,if_pos z,List.reverse_append]<;>rfl
   ·rw[if_neg z,if_neg z,b6]
  ·split
   ·rw[cX,List.length_singleton];omega
   ·omega
  ·rw[tk,yX,an]
   have e:eW (bb ps) wq (eW (bb ps) wq [u] (cs.reverse.take i)) [c]=if (eW (bb ps) wq [u] (cs.reverse.take i)).any (bb ps (wq c))=true then wq c::eW (bb ps) wq [u] (cs.reverse.take i) else eW (bb ps) wq [u] (cs.reverse.take i):=rfl
   rw[e]
   by_cases z:(eW (bb ps) wq [u] (cs.reverse.take i)).any (bb ps (wq c))=true
   ·rw[if_pos z,if_pos z,bc,bm,aU,hT];exact or_comm
   ·rw[if_neg z,if_neg z,hT]
 ·obtain⟨_,T,rfl,rfl,_,_⟩:=hP;have e:(mH (bA cs.reverse)).length=cs.reverse.length:=aT ..;rw[e,List.take_length];wtm_at "nm";wtm_at "w";exact⟨rfl,rfl⟩
end
def wV (cs:List Nat):Val:=.str (bA cs)
def yR (cs:List Nat):Val->Val
 | .str s=>.str (bA cs++s)
 | _=>.none
theorem GV (n:Nat):mH (ie n)=(List.range n).map fun j=>Val.str (cn (97+j)):=by
 show(((List.range n).map (97+·)).toArray.toList.map fun c=>Val.str ⟨#[c]⟩)=_
 rw[cF]<;>rfl
theorem Cq (cs:List Nat) (c:Nat):bA cs++cn c=bA (cs++[c]):=by
 show(⟨cs.toArray++#[c]⟩:Str)=⟨(cs++[c]).toArray⟩
 simp
theorem Hv (n:Nat) (cs:List Nat):(mH (ie n)).map (yR cs)=((List.range n).map fun j=>cs++[97+j]).map wV:=by
 rw[GV,cF,cF]
 refine jJ fun j _=>?_
 show Val.str (bA cs++cn (97+j))=.str (bA (cs++[97+j]))
 rw[Cq]
def jh (n m:Nat) (R:List (List Nat)):Prop:=∀cs∈R,jR n cs/\cs.length<=m
theorem jh.mono {n m k:Nat} {R:List (List Nat)} (h:jh n m R) (l:m<=k):jh n k R:=fun cs hc=>⟨(h cs hc).1,dH (h cs hc).2 l⟩
theorem jh.app {n m:Nat} {R L:List (List Nat)} (h:jh n m R) (g:jh n m L):jh n m (R++L):=fun cs hc=>(bc.mp hc).elim (h cs) (g cs)
theorem Qx {n m:Nat} {cs:List Nat} (h:jR n cs) (l:cs.length<=m):jh n (m+1) ((List.range n).map fun j=>cs++[97+j]):=fun ds hd=>by
 obtain⟨j,hj,rfl⟩:=aW.mp hd;have hj:=List.mem_range.mp hj;refine⟨fun c hc=>?_,by rw[cX,List.length_singleton]; omega⟩
 rcases bc.mp hc with hc|hc
 ·exact h c hc
 ·rw[bm.mp hc];omega
section
variable {n:Nat}
theorem LC (n4:n<=4) {cs:List Nat} (lc:cs.length<100) {L:List (List Nat)} (lL:L.length<10000) (x1 x2 x3 x4:Option OV) :
  Wp (BR [some (.fz (.str (ie n))),x1,x2,x3,x4,some (ag (L.map wV)),some (.fz (wV cs)),none]) fun f S=>f=.nx/\S=[some (.fz (.str (ie n))),x1,x2,x3,x4,some (ag ((L++(List.range n).map fun j=>cs++[97+j]).map wV)),some (.fz (wV cs)),none]:=by
 have ym:=Hv n cs;have ni:oN (ag (((List.range n).map fun j=>cs++[97+j]).map wV))=some (((List.range n).map fun j=>cs++[97+j]).map wV):=qT _;unfold BR;wtm_at "w";refine Cm rfl ?_;refine mR (yR cs) ?_;wtm_at "w";refine⟨fun x hx=>?_,rfl,?_⟩
 ·rw[GV] at hx;obtain⟨j,_,rfl⟩:=aW.mp hx;have aw:=qU cs [97+j] (by show cs.length+1<100000; omega);rw[←Cq] at aw;have aw:bI (.fz (wV cs)) (.fz (.str (cn (97+j))))=some (.fz (.str (bA cs++cn (97+j)))):=aw;wtm_at "nm";wtm_at "w";exact⟨rfl,rfl⟩
 ·rw[ym];refine⟨_,ni,rfl,?_,_,by wtm_at "at",?_⟩
  ·rw[aT,aT,aT,List.length_range];omega
  ·rw[←dA];wtm_at "w";exact⟨rfl,rfl⟩
theorem DC (n4:n<=4) {m:Nat} (m4:m<=4):∃R:List (List Nat),oh [.fz (.str (ie n)),.fz (.int m)]=.ok (.fz (.lst (R.map wV))) []/\R.length<=3000/\jh n 4 R:=by
 have key:Wp (oh [.fz (.str (ie n)),.fz (.int m)]) fun r outs=>∃R:List (List Nat),r=.fz (.lst (R.map wV))/\outs=[]/\R.length<=3000/\jh n 4 R:=by
  have gr:=k9 (n:=m) (by omega);have one:=@LC n n4;have w0:Val.str ""=wV []:=rfl;unfold oh;refine iq rfl (by wtm_at "st") ?_;unfold G8;wtm_at "w";refine IX 2 3 4 5 6 (fun i x2 x3 _ _ _=>i<=m/\∃R L:List (List Nat),x2=some (.fz (.lst (R.map wV)))/\x3=some (.fz (.lst (L.map wV)))/\jh n i R/\jh n i L/\L.length<=4 ^ i/\R.length<=1+300 * i) ?_;wtm_at "w";refine⟨⟨_,_,_,_,_,rfl,eR _,[[]],[[]],rfl,rfl,fun cs hc=>?_,fun cs hc=>?_,bS _,bS _⟩,fun i x x2 x3 x4 x5 x6 hx hP=>?_,fun x2 x3 x4 x5 x6 hP=>?_⟩
  ·rw[bm.mp hc];exact⟨(fun _ z=>nomatch z),bS _⟩
  ·rw[bm.mp hc];exact⟨(fun _ z=>nomatch z),bS _⟩
  ·obtain⟨_,R,L,rfl,rfl,hR,hL,lL,lR⟩:=hP
   have im:i<m:=by
    have:=(fE.mp hx).1;rw[g7,dQ] at this;exact this
   have p1:4 ^ i<=64:=dH (Nat.pow_le_pow_right (by decide) (show i<=3 by omega)) (by decide);have p2:4 ^ (i+1)=4 ^ i * 4:=Nat.pow_succ ..;wtm_at "nm";unfold Hn;wtm_at "w";refine IY 5 6 (fun j x5 _=>∃N:List (List Nat),x5=some (ag (N.map wV))/\jh n (i+1) N/\N.length<=4 * j) ?_;wtm_at "w";refine⟨⟨_,_,rfl,[],rfl,(fun _ z=>nomatch z),bS _⟩,fun j x x5 x6 hx hQ=>?_,fun x5 x6 hQ=>?_⟩
   ·obtain⟨N,rfl,hN,lN⟩:=hQ;rw[cB] at hx;obtain⟨cs,jC,rfl⟩:=jH.mp hx;have jl:=(fE.mp jC).1;obtain⟨c1,c2⟩:=hL cs (fP jC);have O:=one (cs:=cs) (by omega) (L:=N) (by omega) (some (.fz (.int m))) (some (.fz (.lst (R.map wV)))) (some (.fz (.lst (L.map wV)))) (some (.fz x));wtm_at "nm";wtm_at "w"
    refine aH O fun f S ⟨e1,e2⟩=>?_
    subst e1 e2;wtm_at "w";refine⟨_,_,rfl,N++(List.range n).map (fun j=>cs++[97+j]),rfl,hN.app (Qx c1 c2),?_⟩;rw[cX,aT,List.length_range];omega
   ·obtain⟨N,rfl,hN,lN⟩:=hQ;rw[aT] at lN;have ca:=Bn (R.map wV) (N.map wV) (by rw[aT,aT]; omega);rw[←dA] at ca;wtm_at "nm";wtm_at "w";refine⟨_,_,_,_,_,rfl,im,R++N,N,rfl,by rw[mS],(hR.mono (Nat.le_succ i)).app hN,hN,by omega,?_⟩;rw[cX];omega
  ·obtain⟨_,R,L,rfl,rfl,hR,hL,lL,lR⟩:=hP;rw[g7,dQ] at hR lR;wtm_at "nm";wtm_at "w";exact⟨R,rfl,rfl,by omega,hR.mono m4⟩
 obtain⟨r,outs,e,R,rfl,rfl,h1,h2⟩:=dB key;exact⟨R,e,h1,h2⟩
end
section
variable {F:be} {fc:Cf} {S:Env} {Q:OV->Env->Prop} {k:Nat}
theorem yD (h:Wp (fc S) fun os S1=>Wp (F os) fun r outs=>∃o S2,outs=[o]/\SetAt S1 k o S2/\Q r S2):Wp (bo F fc [none,none,some k,none] [2] S) Q :=
 yF (aH h fun _ S1 h=>aH h fun r outs ⟨o,S2,e,hs,q⟩=>by
  subst e
  show Q r (S1.set k o)
  rw[hs.set.1]
  exact q)
end
theorem QM:("":Str)=⟨#[]⟩:=by decide +kernel
theorem FP:∀cs:List Nat,Str.join ("":Str) (cs.map cn)=bA cs
 | []=>by
  show Str.empty=bA []
  decide +kernel
 | [c]=>rfl
 | c::e::cs=>by
  show cn c++("":Str)++Str.join ("":Str) ((e::cs).map cn)=_
  rw[FP (e::cs),QM]
  show(⟨(#[c]++#[])++(e::cs).toArray⟩:Str)=⟨(c::e::cs).toArray⟩
  simp
theorem De:∀(ss:List Str),lU (ss.map .str)=some ss
 | []=>rfl
 | s::ss=>by
  show(lU (ss.map .str)).bind _=_
  rw[De ss]<;>rfl
theorem O9 (cs:List Nat) (h:cs.length<100000):qK (.fz (.str "")) (ag (cs.map fun c=>Val.str (cn c)))=some (.fz (.str (bA cs))):=by
 have e1:mu (ag (cs.map fun c=>Val.str (cn c)))=some ((cs.map cn).map .str):=by
  unfold mu;rw[mr,cF]<;>rfl
 show(mu _).bind _=_
 rw[e1,du,De,du,FP]
 have e2:(("":Str)).length=0:=by decide +kernel
 have e3:∀cs:List Nat,((cs.map cn).map (·.length)).sum=cs.length:=fun cs=>by
  induction cs with
  | nil=>rfl
  | cons c cs ih =>
   rw[bU,bU,List.sum_cons,ih,cR]
   show 1+cs.length=_
   omega
 rw[if_pos (by rw[e3,e2,Nat.mul_zero]; unfold bL; omega)]<;>rfl
theorem EZ (a b:Str):cz (.fz (.str a)) (.fz (.str b))=some (.fz (.bool (!decide (a=b)))):=by
 unfold cz;rw[if_pos ⟨rfl,rfl⟩]<;>rfl
theorem Jm {u w:List Nat} (h:bA u=bA w):u=w:=by
 have:(bA u).cps.toList=(bA w).cps.toList:=by rw[h]
 simpa [bA] using this
theorem RN:(("abcd":Str).cps.toList[0]?=some 97/\("abcd":Str).cps.toList[1]?=some 98)/\("abcd":Str).cps.toList[2]?=some 99/\("abcd":Str).cps.toList[3]?=some 100:=by decide +kernel
theorem RM {p:Nat} (h:p<4):aP (.fz (.str "abcd")) (.fz (.int (p:Nat)))=some (.fz (.str (cn (97+p)))):=by
 have key:∀{c:Nat},("abcd":Str).cps.toList[p]?=some c->aP (.fz (.str "abcd")) (.fz (.int (p:Nat)))=some (.fz (.str (cn c))):=fun {c} hc=>by
  have hl:=(fE.mp hc).1
  have e:atI ("abcd":Str).cps.toList (p:Int)=some c:=by
   have ix:L2.ixN ("abcd":Str).cps.toList.length (p:Int)=some p:=by
    unfold L2.ixN;rw[if_pos (by omega),if_pos (by omega),pD]
   unfold atI;rw[ix];exact hc
  have e2:qL (.fz (.str "abcd")) (.fz (.int (p:Nat)))=some (.fz (.str (cn c))):=by
   show(atI ("abcd":Str).cps.toList (p:Int)).map _=_
   rw[e]<;>rfl
  show((none:Option OV).or ((none:Option OV).or (qL (.fz (.str "abcd")) (.fz (.int (p:Nat)))))).or _=_
  rw[e2]<;>rfl
 have a:=RN
 rcases (show p=0\/p=1\/p=2\/p=3 by omega) with rfl|rfl|rfl|rfl
 ·exact key a.1.1
 ·exact key a.1.2
 ·exact key a.2.1
 ·exact key a.2.2
theorem GU {n:Nat} (n1:1<=n) (n4:n<=4):k7 (.fz (.str "abcd")) none (some (n:Int))=some (.fz (.str (ie n))):=by
 have key:∀n:Nat,cutG ("abcd":Str).cps.toList none (some (n:Int))=(List.range n).map (97+·)->k7 (.fz (.str "abcd")) none (some (n:Int))=some (.fz (.str (ie n))):=fun n e=>by
  show some (vS ⟨(cutG ("abcd":Str).cps.toList none (some (n:Int))).toArray⟩)=_
  rw[e]<;>rfl
 rcases (show n=1\/n=2\/n=3\/n=4 by omega) with rfl|rfl|rfl|rfl
 ·exact key 1 (by decide +kernel)
 ·exact key 2 (by decide +kernel)
 ·exact key 3 (by decide +kernel)
 ·exact key 4 (by decide +kernel)
theorem DN {n:Nat} (n4:n<=4):nP (.fz (.int (n:Nat)))=some (ag (il (bg 0 n))):=by
 show(if j4 (n:Int)=true/\(0:Int)<=(n:Nat) then some (ag (i7 0 1 ((n:Int)).toNat)) else none)=_
 rw[if_pos ⟨zx (by omega),by omega⟩,vX,pD]
def GD (n:Nat):OV:=.dict [(.str "many",.fz (.int n)),(.str "deeds",.fz (.str (ie n))),(.str "whose",ag (il (bg 0 n)))]
theorem Gu (n:Nat):qN [(.str "many",.fz (.int n)),(.str "deeds",.fz (.str (ie n))),(.str "whose",ag (il (bg 0 n)))]=some (GD n):=by
 refine if_pos ⟨?_,by show 3<=15; decide⟩;simp (decide:=true)
theorem C4 (n:Nat):aI [] (GD n)=some (eU n):=by
 show some (Val.dict [(.str "many",.int n),(.str "deeds",.str (ie n)),(.str "whose",(ag (il (bg 0 n))).val)])=_
 rw[mS]<;>rfl
def yJ:Val->Val
 | .int u=>.str (cn (97+u.toNat))
 | _=>.none
def aD (u:Int):Nat:=97+u.toNat
theorem yt {u:Int} (h:0<=u):wq (aD u)=u:=by
 show((97+u.toNat:Nat):Int) - 97=u
 omega
section
variable {n:Nat} {ps:List (Int×Int)}
theorem LD {row:List Int} (h:f0 n row):(row.map aD).map wq=row:=by
 rw[cF]
 have:row.map (wq∘aD)=row.map id:=jJ fun u hu=>yt (h u hu).1
 rw[this,List.map_id]
theorem LG {row:List Int} (h:f0 n row):jR n (row.map aD):=fun c hc=>by
 obtain⟨u,hu,rfl⟩:=aW.mp hc;have:=h u hu
 show 97<=97+u.toNat/\97+u.toNat<97+n
 omega
theorem Qh {p q k:Int} {row:List Int} (hp:0<=p/\p<(n:Int)) (hq:0<=q/\q<(n:Int)) (g:pG ps n p q row k) (rf:∀p,bb ps p p=true):aK (bb ps) wq ((aD p::aD q::row.map aD).reverse) k=aK (bb ps) wq ((aD q::aD p::row.map aD).reverse) k/\iC ps wq k (aD p::aD q::row.map aD)≠iC ps wq k (aD q::aD p::row.map aD):=by
 obtain⟨nv,ir,_,b1,b2,b3⟩:=g;obtain⟨n1,n2⟩:=mj.mp nv;rw[qQ] at b1 b2 b3;have wp_:=yt hp.1;have wq_:=yt hq.1;have e:=LD ir
 have hf:∀p q,q∈ai ps p↔bb ps p q=true:=fun p q=>kY ps p q
 have l1:=(op (w:=wq) hf (row.map aD) (ai ps p) (fun u=>bb ps (wq (aD p)) u) (fun u=>by rw[wp_]; exact hf p u) k)
 have l2:=(op (w:=wq) hf (row.map aD) (ai ps q) (fun u=>bb ps (wq (aD q)) u) (fun u=>by rw[wq_]; exact hf q u) k)
 have l3:=(op (w:=wq) hf (row.map aD) ((ai ps p).filter fun k=>decide (k∈ai ps q)) (fun u=>bb ps (wq (aD p)) u && bb ps (wq (aD q)) u) (fun u=>by rw[wp_,wq_,gL,decide_eq_true_eq,hf,hf,bN]) k)
 rw[e] at l1 l2 l3;have c1:=l1.mp b1;have c2:=l2.mp b2
 have c3:bE (bb ps) wq (fun u=>bb ps (wq (aD p)) u && bb ps (wq (aD q)) u) (row.map aD).reverse k=false:=by
  cases z:bE (bb ps) wq (fun u=>bb ps (wq (aD p)) u && bb ps (wq (aD q)) u) (row.map aD).reverse k with
  | false=>rfl
  | true=>exact absurd (l3.mpr z) b3
 have r1:(aD p::aD q::row.map aD).reverse=(row.map aD).reverse++[aD q,aD p]:=by rw[pB,pB,dI]<;>rfl
 have r2:(aD q::aD p::row.map aD).reverse=(row.map aD).reverse++[aD p,aD q]:=by rw[pB,pB,dI]<;>rfl
 have ne:aD q≠aD p:=fun z=>by
  have z2:q=p:=by rw[←wq_,←wp_,z]
  rw[z2,rf] at n1
  cases n1
 refine⟨?_,?_⟩
 ·rw[r1,r2];exact(qv (bb ps) wq (fun u=>yZ (bb ps) wq rf (x:=aD p) (y:=aD q) (by rw[wp_,wq_]; exact n1) (by rw[wp_,wq_]; exact n2) [] u) (row.map aD).reverse k).mpr c3
 ·unfold iC;rw[r1,r2];intro z;exact LV (row.map aD).reverse c2 c1 ne (List.reverse_inj.mp z)
theorem Pm (h:PO n ps) {p q k:Int} {row:List Int} (hp:0<=p/\p<(n:Int)) (hq:0<=q/\q<(n:Int)) (g:pG ps n p q row k):ve [.fz (.int n),.fz (.lst (ap ps)),.fz (.tup [.int p,.int q,.lst (il row),.int k])]=.ok (.fz (.bool true)) []:=by
 have n4:=h.n4;have n1:=h.n1
 have rf:∀p,bb ps p p=true:=fun p=>by unfold bb; rw[beq_self_eq_true,qZ]
 obtain⟨t1,t2⟩:=Qh hp hq g rf;have ee:=Be h;have sl:=GU n1 n4;have lr:=DN n4;have vl:(ag (il (bg 0 n))).val=.lst (il (bg 0 n)):=mS _;obtain⟨_,ir,lr4,b1,_⟩:=g
 have kr:0<=k/\k<(n:Int):=by
  rw[qQ] at b1
  have:∀(zs L:List Int),f0 n L->f0 n (zs.foldl (eY (ai ps)) L):=fun zs=>by
   induction zs with
   | nil=>exact fun L h=>h
   | cons z zs ih=>exact fun L hL=>ih _ (vE h.hin hL)
  exact this row (ai ps p) (h.hin p hp.1 hp.2) k b1
 have ri:=LG ir
 have pl:∀u:Int,0<=u/\u<(n:Int)->97<=aD u/\aD u<97+n:=fun u hu=>by
  show 97<=97+u.toNat/\97+u.toNat<97+n
  omega
 have i1:jR n (aD p::aD q::row.map aD):=fun c hc=>by
  rcases aU.mp hc with rfl|hc
  ·exact pl p hp
  ·rcases aU.mp hc with rfl|hc
   ·exact pl q hq
   ·exact ri c hc
 have i2:jR n (aD q::aD p::row.map aD):=fun c hc=>by
  rcases aU.mp hc with rfl|hc
  ·exact pl q hq
  ·rcases aU.mp hc with rfl|hc
   ·exact pl p hp
   ·exact ri c hc
 have lw:(row.map aD).length<=4096:=by rw[aT]; exact lr4
 have o0:NT.ok []:=⟨b5,fun i q z=>by simp at z⟩
 obtain⟨D1,ns1,e1,o1,s1,d1,u1⟩:=zc h (D:=[]) i1 o0 (by show 0+4 * ((row.map aD).length+1+1)+10<800000; omega);have d1:D1.length<=0+4 * ((row.map aD).length+1+1):=d1;obtain⟨D2,ns2,e2,o2,s2,d2,u2⟩:=zc h (D:=D1) i2 o1 (by show D1.length+4 * ((row.map aD).length+1+1)+10<800000; omega);have c1:=Bi h i1 (by show(row.map aD).length+1+1<40000; omega) k;have c2:=Bi h i2 (by show(row.map aD).length+1+1<40000; omega) k
 obtain⟨j,rfl⟩:∃j:Nat,k=(j:Int):=⟨k.toNat,by omega⟩
 obtain⟨m1,g1,q1⟩:=u1.2 j (by omega);obtain⟨m2,g2,q2⟩:=u2.2 j (by omega)
 have em:m1=m2:=by
  have q1:=NT.num_mono s2 _ q1;have t1:tq ps (aD p::aD q::row.map aD).reverse j=tq ps (aD q::aD p::row.map aD).reverse j:=t1;rw[t1] at q1;exact NT.num_fun o2 _ q1 q2
 subst em;have x1:=xa g1;have x2:=xa g2;have nn:=fx m1 m1;have nw:=EZ (bA (iC ps wq j (aD p::aD q::row.map aD))) (bA (iC ps wq j (aD q::aD p::row.map aD)));rw[decide_eq_false fun z=>t2 (Jm z)] at nw;have dd:=Gu n;have tv:=C4 n
 have xg:∀u:Int,0<=u/\u<(n:Int)->aP (.fz (.str "abcd")) (.fz (.int u))=some (.fz (.str (cn (aD u)))):=fun u hu=>by
  obtain⟨i,rfl⟩:∃i:Nat,u=(i:Int):=⟨u.toNat,by omega⟩
  exact RM (by omega)
 have xp:=xg p hp;have xq:=xg q hq
 have jm:(il row).map yJ=(row.map aD).map fun c=>Val.str (cn c):=by
  unfold il;rw[cF,cF]
  exact jJ fun u _=>rfl
 have je:=O9 (row.map aD) (by omega);have a1:bI (.fz (.str (cn (aD p)))) (.fz (.str (cn (aD q))))=some (.fz (.str (bA [aD p,aD q]))):=qU [aD p] [aD q] (by show 2<100000; decide);have a2:bI (.fz (.str (cn (aD q)))) (.fz (.str (cn (aD p))))=some (.fz (.str (bA [aD q,aD p]))):=qU [aD q] [aD p] (by show 2<100000; decide);have a3:bI (.fz (.str (bA [aD p,aD q]))) (.fz (.str (bA (row.map aD))))=some (.fz (.str (bA (aD p::aD q::row.map aD)))):=qU [aD p,aD q] (row.map aD) (by show 2+(row.map aD).length<100000; omega);have a4:bI (.fz (.str (bA [aD q,aD p]))) (.fz (.str (bA (row.map aD))))=some (.fz (.str (bA (aD q::aD p::row.map aD)))):=qU [aD q,aD p] (row.map aD) (by show 2+(row.map aD).length<100000; omega);have e1:lz [.fz (eU n),.fz (cL n ps),.dict [],.fz (.str (bA (aD p::aD q::row.map aD)))]=.ok (ag (il ns1)) [some (df D1)]:=e1;have eV:Val.lst (m8 (nS n ps))=cL n ps:=rfl;refine jZ ?_;unfold ve;refine iq rfl (by wtm_at "st") ?_
 unfold Hb
 generalize eU n=w at *
 wtm_at "w";refine bG ee ?_;wtm_at "w";rw[eV]
 generalize cL n ps=E at *
 refine mR yJ ?_;wtm_at "w";refine⟨fun x hx=>?_,rfl,?_⟩
 ·obtain⟨u,hu,rfl⟩:=aW.mp hx;have xu:=xg u (ir u hu);wtm_at "nm";wtm_at "w";exact⟨rfl,rfl⟩
 rw[jm];wtm_at "w";refine yD ?_;wtm_at "w";refine bG e1 ?_;refine⟨_,_,rfl,by wtm_at "at",?_⟩;wtm_at "w";refine yD ?_;wtm_at "w";refine bG e2 ?_;refine⟨_,_,rfl,by wtm_at "at",?_⟩;wtm_at "w";refine⟨fun z=>(by simp at z),fun _=>?_⟩;wtm_at "w";refine bG c1 ?_;wtm_at "w";refine bG c2 ?_;wtm_at "w";exact⟨rfl,rfl⟩
end
theorem If {fa:Af} {S:Env} {k:Nat} {Q:OV->Env->Prop} {kvs:List (Val×OV)} (h0:S[k]?=some (some (.dict kvs))) (hq:∀q∈kvs,(kindOf q.1).isSome=true) (h:Wp (fa S) fun us S1=>∃u x,us=[u,x]/\S1[k]?=some (some (.dict kvs))/\kvs.length<900000/\fits kvs u=true/\(∀o,aG kvs u=some o->∃y,o=.fz y/\Q (.fz y) S1)/\(aG kvs u=none->∃S2,SetAt S1 k (some (.dict (bJ kvs u (.fz x)))) S2/\Q (.fz x) S2)):Wp (nU k [] fa S) Q:=by
 have dq:uo (.dict kvs)=some ():=if_pos (dv.mpr hq);refine av (bx ⟨(),by rw[nu (p:=[]) h0 rfl]; exact dq,av (aH h ?_)⟩)
 rintro us S1 ⟨u,x,rfl,h1,hl,hf,ho,hn⟩
 show Wp (match bF k [] S1 with
  | some (.dict kvs) => if fits kvs u = true then (match aG kvs u with
    | some (.fz y)=>(Out.ok (OV.fz y) S1:Out OV)
    | some _=>.no
    | none=>(Out.of (bH k [] (iR u (.fz x)) S1) S1).bind fun S2 _=>Out.ok (OV.fz x) S2) else .no
  | _=>.no) Q
 rw[nu (p:=[]) h1 rfl]
 show Wp (if fits kvs u=true then (match aG kvs u with
    | some (.fz y)=>(Out.ok (OV.fz y) S1:Out OV)
    | some _=>.no
    | none=>(Out.of (bH k [] (iR u (.fz x)) S1) S1).bind fun S2 _=>Out.ok (OV.fz x) S2) else .no) Q
 rw[if_pos hf]
 cases e:aG kvs u with
 | some o =>
  obtain⟨y,rfl,q⟩:=ho o e;exact q
 | none =>
  obtain⟨S2,hs,q⟩:=hn e;refine av (bx ⟨S2,qt (p:=[]) (c':=.dict (bJ kvs u (.fz x))) h1 rfl ?_ hs,q⟩)
  show(if kvs.length<bL/\fits kvs u=true then some (OV.dict (bJ kvs u (.fz x))) else none)=_
  rw[if_pos ⟨Nat.lt_trans hl (by decide),hf⟩]
abbrev SL:=List ((Int×Int)×List Nat)
def kS (k:Int×Int):Val:=.tup [.int k.1,.int k.2]
def jb (L:SL):List (Val×OV):=L.map fun q=>(kS q.1,.fz (.str (bA q.2)))
theorem Oy (L:SL):(jb L).length=L.length:=aT ..
theorem Oz (L:SL):∀q∈jb L,(kindOf q.1).isSome=true:=fun q hq=>by
 obtain⟨z,_,rfl⟩:=aW.mp hq;rfl
theorem OA (k:Int×Int):∀L:SL,fits (jb L) (kS k)=true
 | []=>rfl
 | _::_=>rfl
theorem O8 {k l:Int×Int} (h:kS k=kS l):k=l:=by
 have h:=Val.tup.inj h;exact Prod.ext (Val.int.inj (List.cons.inj h).1) (Val.int.inj (List.cons.inj (List.cons.inj h).2).1)
theorem FD {k:Int×Int} {o:OV}:∀{L:SL},aG (jb L) (kS k)=some o->∃q∈L,q.1=k/\o=.fz (.str (bA q.2))
 | [],h=>nomatch h
 | q :: L, h => by
  have h:(if kS q.1=kS k then some (OV.fz (.str (bA q.2))) else aG (jb L) (kS k))=some o:=h
  by_cases e:kS q.1=kS k
  ·rw[if_pos e] at h;exact⟨q,ao ..,O8 e,(Option.some.inj h).symm⟩
  ·rw[if_neg e] at h;obtain⟨z,hz,e1,e2⟩:=FD h;exact⟨z,aE _ hz,e1,e2⟩
theorem FC {k:Int×Int} (ds:List Nat):∀{L:SL},aG (jb L) (kS k)=none->bJ (jb L) (kS k) (.fz (.str (bA ds)))=jb (L++[(k,ds)])
 | [],_=>rfl
 | q :: L, h => by
  have h:(if kS q.1=kS k then some (OV.fz (.str (bA q.2))) else aG (jb L) (kS k))=none:=h
  by_cases e:kS q.1=kS k
  ·rw[if_pos e] at h
   cases h
  ·rw[if_neg e] at h
   show(if kS q.1=kS k then _ else (kS q.1,OV.fz (.str (bA q.2)))::bJ (jb L) (kS k) (.fz (.str (bA ds))))=_
   rw[if_neg e,FC ds h]<;>rfl
def py (ps:List (Int×Int)) (n:Nat) (D:NT) (L:SL):Prop:=∀q∈L,∃(cs:List Nat) (j:Nat),q.1.1=(j:Int)/\j<n/\jR n cs/\cs.length<=4/\D.num (tq ps cs.reverse j) q.1.2/\q.2=iC ps wq (j:Int) cs
section
variable {n:Nat} {ps:List (Int×Int)}
theorem py.mono {D D':NT} {L:SL} (h:py ps n D L) (hs:∀q∈D,q∈D'):py ps n D' L:=fun q hq=>by
 obtain⟨cs,j,a,b,c,d,e,f⟩:=h q hq;exact⟨cs,j,a,b,c,d,NT.num_mono hs _ e,f⟩
theorem Ls (h:PO n ps) (nc:¬lA ps n) {cs ds:List Nat} (hc:jR n cs) (hd:jR n ds) (l1:cs.length<=4) (l2:ds.length<=4) {j:Nat} (e:tq ps cs.reverse j=tq ps ds.reverse j):iC ps wq (j:Int) cs=iC ps wq (j:Int) ds:=by
 have rf:∀p,bb ps p p=true:=fun p=>by unfold bb; rw[beq_self_eq_true,qZ]
 have hf:∀p q,q∈ai ps p↔bb ps p q=true:=fun p q=>kY ps p q
 have ng:GZ (bb ps) wq (fun c=>0<=wq c/\wq c<(n:Int)):=fun x y a hx hy ha n1 n2 u c1 c2=>by
  cases c3:bE (bb ps) wq (fun q=>bb ps (wq x) q && bb ps (wq y) q) a u with
  | true=>rfl
  | false =>
   exfalso
   refine nc ⟨wq x,wq y,hx,hy,mj.mpr ⟨n1,n2⟩,_,u,⟨a.reverse.map wq,fun v hv=>?_,rfl⟩,?_⟩
   ·obtain⟨c,hc,rfl⟩:=aW.mp hv;exact ha c (List.mem_reverse.mp hc)
   ·rw[qQ];have l1:=op (w:=wq) hf a.reverse (ai ps (wq x)) (fun q=>bb ps (wq x) q) (fun q=>hf _ q) u;have l2:=op (w:=wq) hf a.reverse (ai ps (wq y)) (fun q=>bb ps (wq y) q) (fun q=>hf _ q) u;have l3:=op (w:=wq) hf a.reverse ((ai ps (wq x)).filter fun k=>decide (k∈ai ps (wq y))) (fun q=>bb ps (wq x) q && bb ps (wq y) q) (fun q=>by rw[gL,decide_eq_true_eq,hf,hf,bN]) u;rw[List.reverse_reverse] at l1 l2 l3;refine⟨l1.mpr c1,l2.mpr c2,fun z=>?_⟩;rw[l3.mp z] at c3
    cases c3
 have hA:∀{cs:List Nat},jR n cs->∀c∈cs.reverse,0<=wq c/\wq c<(n:Int):=fun hc c hm=>by
  have:=hc c (List.mem_reverse.mp hm)
  show 0<=((c:Nat):Int) - 97/\((c:Nat):Int) - 97<(n:Int)
  omega
 have led:=Op (h:=bb ps) (w:=wq) (A:=fun c=>0<=wq c/\wq c<(n:Int)) (N:=4) (U:=[(j:Int)]) (r:=cs.reverse) (r':=ds.reverse) rf (by rw[nY]; exact l1) (by rw[nY]; exact l2) (hA hc) (hA hd) (fun v hv=>by rw[bm.mp hv]; exact e);have:=LW rf ng led;unfold iC;rw[this]
theorem ND (h:PO n ps) (nc:¬lA ps n) {D:NT} {L:SL} {cs:List Nat} {ns:List Int} (oD:D.ok) (hL:py ps n D L) (hc:jR n cs) (lc:cs.length<=4) (hn:hX D (tq ps cs.reverse) n ns) (lL:L.length<800000) {j:Nat} (hj:j<n) (x0 x1 x3 x9:Option OV) :
  Wp (BS [x0,x1,some (.fz (eU n)),x3,some (.fz (cL n ps)),some (.dict (jb L)),some (.fz (wV cs)),some (.fz (.lst (il ns))),some (.fz (.int (j:Nat))),x9]) fun fl S=>fl=.nx/\∃(L':SL) (y9:Option OV),S=[x0,x1,some (.fz (eU n)),x3,some (.fz (cL n ps)),some (.dict (jb L')),some (.fz (wV cs)),some (.fz (.lst (il ns))),some (.fz (.int (j:Nat))),y9]/\py ps n D L'/\L'.length<=L.length+1:=by
 have ce:=Bi h hc (by omega) (j:Int);obtain⟨m,g1,q1⟩:=hn.2 j hj;have gx:aP (.fz (.lst (il ns))) (.fz (.int (j:Nat)))=some (.fz (.int m)):=qB _ j _ (by unfold il; rw[cB,g1]<;>rfl);have kk:=Oz L;have kf:=OA ((j:Int),m) L;have kl:=Oy L;have nn:=EZ (bA (iC ps wq (j:Int) cs)) (bA (iC ps wq (j:Int) cs));rw[decide_eq_true rfl] at nn;have ks:Val.tup [.int (j:Nat),.int m]=kS ((j:Int),m):=rfl
 generalize eU n=w at *
 generalize cL n ps=E at *
 have ce:oi [.fz w,.fz E,.fz (wV cs),.fz (.int (j:Nat))]=.ok (.fz (.str (bA (iC ps wq (j:Int) cs)))) []:=ce;unfold BS;wtm_at "w";refine bG ce ?_;wtm_at "w";refine If rfl kk ?_;wtm_at "w";rw[ks];refine⟨_,_,rfl,rfl,by omega,kf,fun o ho=>?_,fun ho=>?_⟩
 ·obtain⟨q,hq,e1,rfl⟩:=FD ho;obtain⟨ds,i,a,b,c,d,e,f⟩:=hL q hq;rw[e1] at a e
  have ij:j=i:=by
   have a:((j:Nat):Int)=(i:Nat):=a;omega
  subst ij;have te:=NT.num_inj oD _ _ q1 e;have sc:=Ls h nc hc c lc d te;have f:q.2=iC ps wq (j:Int) cs:=f.trans sc.symm;refine⟨_,rfl,?_⟩;rw[f];wtm_at "w";exact⟨rfl,L,_,rfl,hL,Nat.le_succ _⟩
 ·have st:=FC (iC ps wq (j:Int) cs) ho;refine⟨_,by wtm_at "at",?_⟩;rw[st];wtm_at "w";refine⟨rfl,L++[(((j:Int),m),iC ps wq (j:Int) cs)],_,rfl,fun q hq=>?_,by rw[cX]<;>exact bS _⟩
  rcases bc.mp hq with hq|hq
  ·exact hL q hq
  ·rw[bm.mp hq];exact⟨cs,j,rfl,hj,hc,lc,q1,rfl⟩
theorem NA (h:PO n ps) (nc:¬lA ps n) {x0 x1:Option OV} (h0:x0=some (.fz (.int n))) {fa:Af} (hfa:Wp (fa [x0,x1,some (.fz (eU n)),some (.dict []),some (.fz (cL n ps)),some (.dict []),none,none,none,none]) fun us S1=>S1=[x0,x1,some (.fz (eU n)),some (.dict []),some (.fz (cL n ps)),some (.dict []),none,none,none,none]/\∃R:List (List Nat),us=R.map wV/\R.length<=3000/\jh n 4 R) :
  Wp (cT fa (gN 6) ya [x0,x1,some (.fz (eU n)),some (.dict []),some (.fz (cL n ps)),some (.dict []),none,none,none,none]) fun fl S=>fl=.nx/\∃y3 y5 y6 y7 y8 y9:Option OV,S=[x0,x1,some (.fz (eU n)),y3,some (.fz (cL n ps)),y5,y6,y7,y8,y9]:=by
 have n4:=h.n4;have gr:=k9 (n:=n) (by omega);have one:=@ND n ps h nc;have td:=@zc n ps h;subst h0
 generalize eU n=w at *
 generalize cL n ps=E at *
 refine Ck 3 5 6 7 8 9 (fun i x3 x5 _ _ _ _=>i<=3000/\∃(D:NT) (L:SL),x3=some (df D)/\x5=some (.dict (jb L))/\D.ok/\py ps n D L/\D.length<=16 * i/\L.length<=4 * i) (aH hfa fun us S1 ⟨e,R,eu,lR,hR⟩=>?_);subst e eu;refine⟨⟨_,_,_,_,_,_,rfl,eR _,[],[],rfl,rfl,⟨b5,fun i q z=>(by simp at z)⟩,(fun _ z=>nomatch z),bS _,bS _⟩,fun i x x3 x5 x6 x7 x8 x9 hx hP=>?_,fun x3 x5 x6 x7 x8 x9 hP=>?_⟩
 ·obtain⟨_,D,L,rfl,rfl,oD,sL,lD,lL⟩:=hP;rw[cB] at hx;obtain⟨cs,jC,rfl⟩:=jH.mp hx;have hi:=(fE.mp jC).1;obtain⟨ic,lc⟩:=hR cs (fP jC);obtain⟨D',ns,et,o',sub,ld,hn⟩:=td ic oD (by omega);have et:lz [.fz w,.fz E,df D,.fz (wV cs)]=.ok (ag (il ns)) [some (df D')]:=et;have vl:(ag (il ns)).val=.lst (il ns):=mS _;have sL':=sL.mono sub;wtm_at "nm";wtm_at "w";unfold ya;wtm_at "w";refine yD ?_;wtm_at "w";refine bG et ?_;refine⟨_,_,rfl,by wtm_at "at",?_⟩;wtm_at "w";refine yB 5 8 9 (fun j x5 _ _=>∃L':SL,x5=some (.dict (jb L'))/\py ps n D' L'/\L'.length<=L.length+j) ?_;wtm_at "w";refine⟨⟨_,_,_,rfl,L,rfl,sL',bS _⟩,fun j x x5 x8 x9 hx hQ=>?_,fun x5 x8 x9 hQ=>?_⟩
  ·obtain⟨L',rfl,s',l'⟩:=hQ;unfold il at hx;rw[cB] at hx;obtain⟨u,hu,rfl⟩:=jH.mp hx;have hl:=(fE.mp hu).1;rw[dQ] at hl;rw[c8 (by rw[dQ]; exact hl),kU,nZ] at hu;have ue:u=(j:Int):=(Option.some.inj hu).symm;subst ue;have O:=one o' s' ic lc hn (by omega) hl (some (.fz (.int n))) x1 (some (df D')) x9;wtm_at "nm";wtm_at "w"
   refine aH O fun fl S ⟨e1,L2,y9,e2,s2,l2⟩=>?_
   subst e1 e2;wtm_at "w";exact⟨_,_,_,rfl,L2,rfl,s2,by omega⟩
  ·obtain⟨L',rfl,s',l'⟩:=hQ;rw[g7,dQ] at l';wtm_at "nm";wtm_at "w";exact⟨_,_,_,_,_,_,rfl,by omega,D',L',rfl,rfl,o',s',by omega,by omega⟩
 ·wtm_at "nm";exact⟨rfl,_,_,_,_,_,_,rfl⟩
theorem NC (h:PO n ps) (nc:¬lA ps n):vf [.fz (.int n),.fz (.lst (ap ps))]=.ok (.fz (.bool true)) []:=by
 have n4:=h.n4;have n1:=h.n1;have ee:=Be h;have sl:=GU n1 n4;have lr:=DN n4;have dd:=Gu n;have tv:=C4 n;have idd:=yK n;have fl:=@NA n ps h nc;have eV:Val.lst (m8 (nS n ps))=cL n ps:=rfl;obtain⟨R4,q1,q2,q3⟩:=DC (n:=n) n4 (m:=4) (bS _);obtain⟨R3,p1,p2,p3⟩:=DC (n:=n) n4 (m:=3) (by omega);have q1:oh [.fz (.str (ie n)),.fz (.int 4)]=.ok (.fz (.lst (R4.map wV))) []:=q1;have p1:oh [.fz (.str (ie n)),.fz (.int 3)]=.ok (.fz (.lst (R3.map wV))) []:=p1
 generalize eU n=w at *
 generalize cL n ps=E at *
 refine jZ ?_;unfold vf;refine iq rfl (by wtm_at "st") ?_;unfold Hc
 generalize ya=BB at fl ⊢
 wtm_at "w";refine bG ee ?_;wtm_at "w";rw[eV]
 refine aH (fl rfl (x1:=some (.fz (.lst (ap ps)))) ?_) fun f S ⟨e1,y3,y5,y6,y7,y8,y9,e2⟩=>?_
 ·wtm_at "w";refine⟨fun _=>?_,fun _=>?_⟩
  ·wtm_at "w";refine bG q1 ?_;wtm_at "w";exact⟨rfl,R4,rfl,q2,q3⟩
  ·wtm_at "w";refine bG p1 ?_;wtm_at "w";exact⟨rfl,R3,rfl,p2,p3⟩
 ·subst e1 e2;wtm_at "w";exact⟨rfl,rfl⟩
end
section
variable {n:Nat}
def Bm (n:Nat):List (Int×Int):=(bg 0 (n - 1)).map fun k=>(k,k+1)
def sN (n:Nat):List (Int×Int):=(bg 0 n).map fun k=>(k,(k+1) % (n:Int))
theorem Rp (n1:1<=n) (n4:n<=4):GP n (Bm n):=by
 rcases (show n=1\/n=2\/n=3\/n=4 by omega) with rfl|rfl|rfl|rfl
 ·exact⟨by decide,by decide⟩
 ·exact⟨by decide,by decide⟩
 ·exact⟨by decide,by decide⟩
 ·exact⟨by decide,by decide⟩
theorem LM (n3:3<=n) (n4:n<=4):GP n (sN n):=by
 rcases (show n=3\/n=4 by omega) with rfl|rfl
 ·exact⟨by decide,by decide⟩
 ·exact⟨by decide,by decide⟩
def yC:Val->Val
 | .int k=>.tup [.int k,.int (k+1)]
 | _=>.none
def yN (n:Nat):Val->Val
 | .int k=>.tup [.int k,.int ((k+1) % (n:Int))]
 | _=>.none
theorem Hx (n:Nat):(il (bg 0 (n - 1))).map yC=ap (Bm n):=by
 unfold il ap Bm;rw[cF,cF]
 exact jJ fun _ _=>rfl
theorem Hw (n:Nat):(il (bg 0 n)).map (yN n)=ap (sN n):=by
 unfold il ap sN;rw[cF,cF]
 exact jJ fun _ _=>rfl
def BU (n:Nat) (j:Int) (qs:List (Int×Int)):Prop:=(∀q∈qs,fX n q=true/\q.1<j)/\qs.Nodup
def pJ (j:Int):Val->Bool
 | .int k=>!(k==j)
 | _=>false
def yf (j:Int):Val->Val
 | .int k=>.tup [.int j,.int k]
 | _=>.none
def j6 (n:Nat) (j:Int):List (Int×Int):=((bg 0 n).filter fun k=>!(k==j)).map fun k=>(j,k)
theorem LI (n:Nat) (j:Int):((il (bg 0 n)).filter (pJ j)).map (yf j)=ap (j6 n j):=by
 unfold j6 ap
 induction bg 0 n with
 | nil=>rfl
 | cons i is ih =>
  show((Val.int i::il is).filter (pJ j)).map (yf j)=_
  cases h:(!(i==j)) with
  | true=>rw[jK (show pJ j (.int i)=true from h),jK (p:=fun k=>!(k==j)) h,bU,ih]<;>rfl
  | false=>rw[jL (show ¬pJ j (.int i)=true by rw[show pJ j (.int i)=false from h]; exact kn),jL (p:=fun k=>!(k==j)) (by rw[h]; exact kn),ih]
theorem LH {j:Nat} (hj:j<n) {qs:List (Int×Int)} (h:BU n j qs):BU n ((j+1:Nat):Int) (qs++j6 n j):=by
 have key:∀q∈j6 n j,fX n q=true/\q.1=j:=fun q hq=>by
  obtain⟨k,hk,rfl⟩:=aW.mp hq;obtain⟨h1,h2⟩:=gL.mp hk;have r:=mw _ _ _ h1
  have ne:k≠(j:Int):=by simpa using h2
  refine⟨mh.mpr ⟨?_,?_,fun z=>ne z.symm⟩,rfl⟩
  ·show 0<=(j:Int)/\(j:Int)<(n:Int)
   omega
  ·show 0<=k/\k<(n:Int)
   omega
 refine⟨fun q hq=>?_,cA.mpr ⟨h.2,?_,fun a ha b hb e=>?_⟩⟩
 ·rcases bc.mp hq with hq|hq
  ·have:=h.1 q hq;exact⟨this.1,by omega⟩
  ·have:=key q hq;exact⟨this.1,by omega⟩
 ·unfold j6 List.Nodup;rw[nX]
  exact((ur n 0).sublist List.filter_sublist).imp fun {a b} h e=>by
   have:a=b:=(Prod.ext_iff.mp e).2;omega
 ·have h1:=(h.1 a ha).2;have h2:=(key b hb).2;rw[e] at h1;omega
theorem LF (n:Nat) (j:Int):(j6 n j).length<=n:=by
 unfold j6;rw[aT];refine dH (uY _ _) ?_;rw[dQ];exact bS _
theorem K9 {o:OV} {d:Nat} (ho:gQ o d) (hd:d+30<=900000):∃(n:Nat) (ps:List (Int×Int)) (o':OV),q8 [o]=.ok (.fz (.tup [.int n,.lst (ap ps)])) [some o']/\PO n ps/\gQ o' (d+30):=by
 obtain⟨m,o1,a1,m0,m4,k1⟩:=xB ho (by omega) (b:=4) (by omega) (by omega);obtain⟨way,o2,b1,w0,w8,k2⟩:=xB k1 (by omega) (b:=8) (by omega) (by omega)
 obtain⟨n,hn⟩:∃n:Nat,(1:Int)+m=(n:Int):=⟨(1+m).toNat,by omega⟩
 have n1:1<=n:=by omega
 have n4:n<=4:=by omega
 obtain⟨qs0,o3,c1,c2,c3,k3⟩:=JP n n1 n4 k2 (by omega);have k4:=k3.mono (show d+1+1+20<=d+30 by omega);have gr:=k9 (n:=n) (by omega)
 have gr1:fB [.int ((n:Int) - 1)]=some (il (bg 0 (n - 1))):=by
  have e:((n:Int) - 1)=((n - 1:Nat):Int):=by omega
  rw[e];exact k9 (by omega)
 have srt:∀qs,kZ (ag (ap qs))=some (ag (ap (iz qs))):=K8
 have key : Wp (q8 [o]) fun r outs => ∃ qs, GP n qs /\ r = .fz (.tup [.int n, .lst (ap (iz qs))]) /\ outs = [some o3] := by
  have last:∀(qs:List (Int×Int)) (y4 y5:Option OV),GP n qs->Wp ((af (aX [] (cj (ah [1] (ac 1) (ah [] (aC kZ (ac 3)) az)))) aj) [some o3,some (.fz (.int n)),some (.fz (.int way)),some (ag (ap qs)),y4,y5]) (nR [0] fun r outs=>∃qs,GP n qs/\r=.fz (.tup [.int n,.lst (ap (iz qs))])/\outs=[some o3]):=fun qs y4 y5 g=>by
   have s:=srt qs;wtm_at "w";exact⟨qs,g,rfl,rfl⟩
  have I0:ko [o,.fz (.int 4)]=.ok (.fz (.int m)) [some o1]:=a1;have I1:ko [o1,.fz (.int 8)]=.ok (.fz (.int way)) [some o2]:=b1;unfold q8;refine iq rfl (by wtm_at "st") ?_;unfold G7
  generalize (af (aX [] (cj (ah [1] (ac 1) (ah [] (aC kZ (ac 3)) az)))) aj)=LL at last ⊢
  have st3 : ∀ (qs : List (Int × Int)) (y4 y5 : Option OV), GP n qs -> Wp ((af (bj (eB (ae gw (ac 2) (eC (.int 2))))
   (af (ci 3 [] (cM az))
   (af (cT (dP fB (ah [1] (ac 1) az)) (gN 5)
    xZ) aj))
   aj) LL) [some o3,some (.fz (.int n)),some (.fz (.int way)),some (ag (ap qs)),y4,y5]) (nR [0] fun r outs=>∃qs,GP n qs/\r=.fz (.tup [.int n,.lst (ap (iz qs))])/\outs=[some o3]):=fun qs y4 y5 g=>by
   wtm_at "w";refine⟨fun _=>?_,fun _=>?_⟩
   ·wtm_at "w";refine yB 3 4 5 (fun j x3 _ _=>∃qs,x3=some (ag (ap qs))/\BU n (j:Nat) qs/\qs.length<=4 * j) ?_;wtm_at "w";refine⟨⟨_,_,_,rfl,[],rfl,⟨(fun _ z=>nomatch z),b5⟩,bS _⟩,fun j x x3 x4 x5 hx hP=>?_,fun x3 x4 x5 hP=>?_⟩
    ·obtain⟨qs,rfl,hq,lq⟩:=hP;unfold il at hx;rw[cB] at hx;obtain⟨u,hu,rfl⟩:=jH.mp hx;have hl:=(fE.mp hu).1;rw[dQ] at hl;rw[c8 (by rw[dQ]; exact hl),kU,nZ] at hu;have ue:u=(j:Int):=(Option.some.inj hu).symm;subst ue;have rm:=LI n (j:Int);have rl:=LF n (j:Int);have ni:oN (ag (ap (j6 n (j:Int))))=some (ap (j6 n (j:Int))):=qT _;wtm_at "nm";wtm_at "w";unfold xZ;wtm_at "w";refine Cm rfl ?_;refine ol (pJ (j:Int)) (yf (j:Int)) ?_;wtm_at "w";refine⟨fun x hx=>?_,rfl,?_⟩
     ·obtain⟨k,_,rfl⟩:=aW.mp hx;wtm_at "nm";wtm_at "w";refine⟨rfl,rfl,fun _=>?_⟩;wtm_at "w";exact⟨rfl,rfl⟩
     ·rw[rm];refine⟨_,ni,rfl,?_,_,by wtm_at "at",?_⟩
      ·unfold ap;rw[aT,aT];omega
      ·have e:ap qs++ap (j6 n (j:Int))=ap (qs++j6 n (j:Int)):=by unfold ap; rw[dA]
       rw[e];wtm_at "w";exact⟨_,_,_,rfl,_,rfl,LH hl hq,by rw[cX]; omega⟩
    ·obtain⟨qs,rfl,hq,lq⟩:=hP;wtm_at "nm";wtm_at "w";exact last qs _ _ ⟨fun q h=>(hq.1 q h).1,hq.2⟩
   ·wtm_at "w";exact last qs _ _ g
  generalize (af (bj (eB (ae gw (ac 2) (eC (.int 2))))
   (af (ci 3 [] (cM az))
   (af (cT (dP fB (ah [1] (ac 1) az)) (gN 5)
    xZ) aj))
   aj) LL)=L3 at st3 ⊢
  have st2:∀(qs:List (Int×Int)) (y4 y5:Option OV),GP n qs->Wp ((af (bj (cE (eB (ae gw (ac 2) (eC (.int 1)))) (eB (ae xm (ac 1) (eC (.int 2)))))
   (af (ci 3 [] (aC kZ (cu (dP fB (ah [1] (ac 1) az)) (gN 4) bP [] (cj (ah [4] (ac 4) (ah [] (ae eN (aC dU (ae bI (ac 4) (eC (.int 1)))) (ac 1)) az))) [4]))) aj)
   aj) L3) [some o3,some (.fz (.int n)),some (.fz (.int way)),some (ag (ap qs)),y4,y5]) (nR [0] fun r outs=>∃qs,GP n qs/\r=.fz (.tup [.int n,.lst (ap (iz qs))])/\outs=[some o3]):=fun qs y4 y5 g=>by
   have ym:=Hw n;have sr:=srt (sN n);wtm_at "w";refine lM ?_;wtm_at "w";refine⟨fun _=>?_,fun _=>?_⟩
   ·wtm_at "w";exact st3 qs _ _ g
   ·wtm_at "w";refine⟨fun z=>?_,fun _=>?_⟩
    ·have n3:3<=n:=by
      have:=of_decide_eq_true z;omega
     have ro:=LM n3 n4;obtain⟨r1,r2⟩:=zr n1 n4 ro.1 ro.2
     have sg:GP n (iz (sN n)):=⟨fun q hq=>ro.1 q ((r2 q).mp hq),r1.nodup⟩
     wtm_at "w";refine mR (yN n) ?_;wtm_at "w";refine⟨fun x hx=>?_,rfl,?_⟩
     ·obtain⟨k,_,rfl⟩:=aW.mp hx;have mo:=kL (k+1) (n:Int) (by omega);wtm_at "nm";wtm_at "w";exact⟨rfl,rfl⟩
     ·rw[ym];wtm_at "w";exact st3 _ _ _ sg
    ·wtm_at "w";exact st3 qs _ _ g
  generalize (af (bj (cE (eB (ae gw (ac 2) (eC (.int 1)))) (eB (ae xm (ac 1) (eC (.int 2)))))
   (af (ci 3 [] (aC kZ (cu (dP fB (ah [1] (ac 1) az)) (gN 4) bP [] (cj (ah [4] (ac 4) (ah [] (ae eN (aC dU (ae bI (ac 4) (eC (.int 1)))) (ac 1)) az))) [4]))) aj)
   aj) L3)=L2 at st2 ⊢
  wtm_at "w";refine bG I0 ?_;refine⟨_,_,rfl,by wtm_at "at",?_⟩;wtm_at "w";refine bG I1 ?_;refine⟨_,_,rfl,by wtm_at "at",?_⟩;rw[hn];wtm_at "w";refine bG c1 ?_;refine⟨_,_,rfl,by wtm_at "at",?_⟩;wtm_at "w";have ym:=Hx n;refine⟨fun _=>?_,fun _=>?_⟩
  ·wtm_at "w";refine mR yC ?_;wtm_at "w";refine⟨fun x hx=>?_,rfl,?_⟩
   ·obtain⟨k,_,rfl⟩:=aW.mp hx;wtm_at "nm";wtm_at "w";exact⟨rfl,rfl⟩
   ·rw[ym];wtm_at "w";exact st2 _ _ _ (Rp n1 n4)
  ·wtm_at "w";exact st2 _ _ _ ⟨c2,c3⟩
 obtain⟨r,outs,e,qs,g,rfl,rfl⟩:=dB key;obtain⟨po,_⟩:=zr n1 n4 g.1 g.2;exact⟨n,iz qs,o3,e,po,k4⟩
end
section
variable {n:Nat} {ps:List (Int×Int)}
theorem LN (h:PO n ps):vd [.fz (.int n),.fz (.lst (ap ps))]=.ok (.fz (.bool true)) []:=by
 have mk:=wL h;have mk:ku [.obj "Policy" [],.fz (.int n),.fz (.tup (ap ps))]=.ok (.fz .none) [some (i8 n ps)]:=mk;have tv:aI [] (i8 n ps)=some (bC n ps):=rfl;have tt:g9 (.fz (.lst (ap ps)))=some (.fz (.tup (ap ps))):=rfl;have pp:=Ab (n:Int) ps;have lg:=Os h;have eq:=QI (.tup (ap ps)) (M6 ps);have rT:=DJ (v:=.bool true) rfl (by decide) rfl;have rF:=DJ (v:=.bool false) rfl (by decide) rfl;have mT:=DK (t:=.bool true);have mF:=DK (t:=.bool false);have nT:=EY (Val.lst [.bool true,.bool true,.bool true]).pd.shown;have nF:=EY (Val.lst [.bool false,.bool false,.bool false]).pd.shown;have hn:=NC h;have hg:=@Pm n ps h;obtain⟨b,hc,hb⟩:=Rc h
 generalize hp:bC n ps=pf at *
 generalize hv:i8 n ps=pv_ at *
 refine jZ ?_;unfold vd;refine iq rfl (by wtm_at "st") ?_;unfold G9;wtm_at "w";refine bG mk ⟨rfl,_,rfl,?_⟩;wtm_at "w"
 refine aH lg fun r outs ⟨v,e1,e2,g⟩=>?_
 subst e1 e2;wtm_at "w"
 rcases g with⟨rfl,nc⟩|⟨p,q,row,k,rfl,hp',hq',g⟩
 ·have is:o8 true (.fz .none) (.fz .none)=some (.fz (.bool false)):=rfl
  have bf:b=false:=by
   cases b with
   | false=>rfl
   | true=>exact absurd (hb.mp rfl) nc
  subst bf;have hn:=hn nc;wtm_at "w";refine bG hc ?_;wtm_at "w";refine⟨⟨rfl,rfl⟩,?_⟩;refine bG hc ?_;wtm_at "w";refine bG hc ?_;wtm_at "w";refine yw ?_;refine lM ?_;wtm_at "w";refine lM ?_;wtm_at "w";refine bG hn ?_;wtm_at "w";exact⟨rfl,rfl⟩
 ·have is:o8 true (.fz (.tup [.int p,.int q,.lst (il row),.int k])) (.fz .none)=some (.fz (.bool true)):=rfl;have bt:=hb.mpr (g.counts hp' hq');subst bt;have hg:=hg hp' hq' g;wtm_at "w";refine bG hc ?_;wtm_at "w";refine⟨⟨rfl,rfl⟩,?_⟩;refine bG hc ?_;wtm_at "w";refine bG hc ?_;wtm_at "w";refine yw ?_;refine lM ?_;wtm_at "w";refine bG hg ?_;wtm_at "w";refine lM ?_;wtm_at "w";exact⟨rfl,rfl⟩
end
def jB:List (Int×Int):=[(1,2),(2,0)]
def hd2:List (Int×Int):=[(0,1),(0,2),(1,0),(1,2),(2,0),(2,1)]
def jA:List (Int×Int):=[(0,2),(1,2)]
theorem Qc:ul (jY [.fz (bC 3 jB)]) (.bool true)=true:=by decide +kernel
theorem Qb:ul (jY [.fz (bC 3 hd2)]) (.bool false)=true:=by decide +kernel
theorem Qa:ul (jY [.fz (bC 3 jA)]) (.bool false)=true:=by decide +kernel
def yH:Val->Val
 | .tup [_,.lst [.tup [.int 1,_],_]]=>.bool true
 | _=>.bool false
theorem law_holds:Holds xT:=by
 intro ns hn;obtain⟨o0,k1,k2⟩:=QZ ns hn;have k1:rj [.fz (Val.scr ns)]=.ok o0 []:=k1;have h1:=AJ Qc;have h2:=AJ Qb;have h3:=AJ Qa;have p1:ku [.obj "Policy" [],.fz (.int 3),.fz (.tup (ap jB))]=.ok (.fz .none) [some (i8 3 jB)]:=wL (n:=3) (ps:=jB) (PO.of (by decide) (by decide) (by decide +kernel));have p2:ku [.obj "Policy" [],.fz (.int 3),.fz (.tup (ap hd2))]=.ok (.fz .none) [some (i8 3 hd2)]:=wL (n:=3) (ps:=hd2) (PO.of (by decide) (by decide) (by decide +kernel));have p3:ku [.obj "Policy" [],.fz (.int 3),.fz (.tup (ap jA))]=.ok (.fz .none) [some (i8 3 jA)]:=wL (n:=3) (ps:=jA) (PO.of (by decide) (by decide) (by decide +kernel));have g8:fB [.int 8]=some (il (bg 0 8)):=rfl;refine⟨[],jZ ?_⟩
 show Wp (xT [.fz (Val.scr ns)]) _
 unfold xT;refine iq rfl (by wtm_at "st") ?_;unfold BE
 generalize Val.scr ns=sc at *
 wtm_at "w";refine bG k1 ?_;wtm_at "w";refine lJ (fun i S=>∃(o:OV) (x2 x3 x4:Option OV),S=[some (.fz sc),some o,x2,x3,x4,none]/\gQ o (30 * i)) ?_;wtm_at "w";refine⟨⟨_,_,_,_,rfl,k2⟩,fun i x S hx hS=>?_,fun S hS=>?_⟩
 ·obtain⟨o,x2,x3,x4,rfl,ho⟩:=hS;have hi:i<8:=(fE.mp hx).1;obtain⟨n,ps,o',e1,po,ho'⟩:=K9 ho (by omega);have r:=LN po;wtm_at "w";unfold Hr;wtm_at "w";refine bG e1 ?_;refine⟨_,_,rfl,by wtm_at "at",?_⟩;wtm_at "w";refine bG r ?_;wtm_at "w";exact⟨_,_,_,_,rfl,ho'⟩
 ·obtain⟨o,x2,x3,x4,rfl,_⟩:=hS;wtm_at "w";have e1:Val.lst [Val.tup [.int 1,.int 2],.tup [.int 2,.int 0]]=.lst (ap jB):=rfl;have e2:Val.lst [Val.tup [.int 0,.int 1],.tup [.int 0,.int 2],.tup [.int 1,.int 0],.tup [.int 1,.int 2],.tup [.int 2,.int 0],.tup [.int 2,.int 1]]=.lst (ap hd2):=rfl;have e3:Val.lst [Val.tup [.int 0,.int 2],.tup [.int 1,.int 2]]=.lst (ap jA):=rfl;rw[e1,e2,e3];have y1:yH (.tup [.int 3,.lst (ap jB)])=.bool true:=rfl;have y2:yH (.tup [.int 3,.lst (ap hd2)])=.bool false:=rfl;have y3:yH (.tup [.int 3,.lst (ap jA)])=.bool false:=rfl;have t1:g9 (.fz (.lst (ap jB)))=some (.fz (.tup (ap jB))):=rfl;have t2:g9 (.fz (.lst (ap hd2)))=some (.fz (.tup (ap hd2))):=rfl;have t3:g9 (.fz (.lst (ap jA)))=some (.fz (.tup (ap jA))):=rfl;have v1:aI [] (i8 3 jB)=some (bC 3 jB):=rfl;have v2:aI [] (i8 3 hd2)=some (bC 3 hd2):=rfl;have v3:aI [] (i8 3 jA)=some (bC 3 jA):=rfl
  generalize i8 3 jB=q1 at *
  generalize i8 3 hd2=q2 at *
  generalize i8 3 jA=q3 at *
  generalize bC 3 jB=f1 at *
  generalize bC 3 hd2=f2 at *
  generalize bC 3 jA=f3 at *
  generalize ap jB=l1 at *
  generalize ap hd2=l2 at *
  generalize ap jA=l3 at *
  refine mR yH ?_;wtm_at "w";refine⟨fun x hx=>?_,rfl,?_⟩
  ·rcases aU.mp hx with rfl|hx
   ·wtm_at "nm";wtm_at "w";refine bG p1 ⟨rfl,_,rfl,?_⟩;wtm_at "w";refine bG h1 ?_;exact⟨by rw[y1]<;>rfl,rfl⟩
   ·rcases aU.mp hx with rfl|hx
    ·wtm_at "nm";wtm_at "w";refine bG p2 ⟨rfl,_,rfl,?_⟩;wtm_at "w";refine bG h2 ?_;exact⟨by rw[y2]<;>rfl,rfl⟩
    ·rw[bm.mp hx];wtm_at "nm";wtm_at "w";refine bG p3 ⟨rfl,_,rfl,?_⟩;wtm_at "w";refine bG h3 ?_;exact⟨by rw[y3]<;>rfl,rfl⟩
  ·rw[bU,bU,bU,List.map_nil,y1,y2,y3];have rp:my (ag [.bool true,.bool false,.bool false])=some (.fz (.str (Val.lst [.bool true,.bool false,.bool false]).pd.shown)):=DI (mS _) rfl rfl (by decide)
   have sh:(Val.lst [.bool true,.bool false,.bool false]).pd.shown = "[True, False, False]":=by decide +kernel
   rw[sh] at rp;have eq:=QH "[True, False, False]" "[True, False, False]";rw[decide_eq_true rfl] at eq;wtm_at "w";exact⟨rfl,rfl⟩
end Mp
namespace Mp
open PySem L2 Tw in
theorem all_mk (HL:Holds xT) {l:PySem.W.OpenLaw} {w:World} {K:PySem.W.Frag} {h:Heap} {mg:Str->Option Value} {fa C_Policy f25:Addr} {t_PAIR:Tok} (X:K.In h) (G:h.Ns mainGlobals mg) (hfa:mg "law"=some (.ref fa))
  {od25 an25:Option Addr} {sl25:Array (Option Value)} {oc25 kV25 dc25 pm25 cd25 ct25:Value}
  (nCPolicy:PySem.W.nsIn K mainGlobals "Policy"=some (some (.ref C_Policy)))
  (pgPolicy:PySem.W.plainGet K C_Policy Str.empty=true)
  (hdPolicy:PySem.W.hasDictIn K C_Policy=true)
  (poPolicy:PySem.W.plainOver K C_Policy=true)
  (saPolicy:PySem.W.findIn K (.ref C_Policy) "__setattr__"=some (some (.builtin "object.__setattr__")))
  (mkPolicy:PySem.W.makesIn K C_Policy=true)
  (kcPolicy:PySem.W.keepIn K (.ref C_Policy)=true)
  (noPolicy_pairs:PySem.W.findIn K (.ref C_Policy) "pairs"=some none)
  (noPolicy_users:PySem.W.findIn K (.ref C_Policy) "users"=some none)
  (a1:PySem.W.nsIn K mainGlobals "_law_deck"=some (some (.ref f1)))
  (l1:d9 K f1 "_law_deck" "_law_deck" vQ)
  (a2:PySem.W.nsIn K mainGlobals "_law_draw"=some (some (.ref f2)))
  (l2:d9 K f2 "_law_draw" "_law_draw" vP)
  (a3:PySem.W.nsIn K mainGlobals "_law_ties"=some (some (.ref f3)))
  (l3:d9 K f3 "_law_ties" "_law_ties" sv)
  (a4:PySem.W.nsIn K mainGlobals "_law_some"=some (some (.ref f4)))
  (l4:d9 K f4 "_law_some" "_law_some" oB)
  (a5:PySem.W.nsIn K mainGlobals "_law_ears"=some (some (.ref f5)))
  (l5:d9 K f5 "_law_ears" "_law_ears" sA)
  (a6:PySem.W.nsIn K mainGlobals "_law_more"=some (some (.ref f6)))
  (l6:d9 K f6 "_law_more" "_law_more" vN)
  (a7:PySem.W.nsIn K mainGlobals "_law_gap"=some (some (.ref f7)))
  (l7:d9 K f7 "_law_gap" "_law_gap" oC)
  (a8:PySem.W.nsIn K mainGlobals "is_integer"=some (some (.ref f8)))
  (l8:d9 K f8 "is_integer" "is_integer" vR)
  (a9:PySem.W.nsIn K mainGlobals "is_below"=some (some (.ref f9)))
  (l9:d9 K f9 "is_below" "is_below" vT)
  (a10:PySem.W.nsIn K mainGlobals "is_pair"=some (some (.ref f10)))
  (l10:d9 K f10 "is_pair" "is_pair" sD)
  (a11:PySem.W.nsIn K mainGlobals "do_rise"=some (some (.ref f11)))
  (l11:d9 K f11 "do_rise" "do_rise" sF)
  (a12:PySem.W.findIn K (.ref C_Policy) "__init__"=some (some (.ref f12)))
  (i12:PySem.W.isFn K (.ref f12)=true)
  (l12:d9 K f12 "__init__" "Policy.__init__" sG)
  (a13:PySem.W.findIn K (.ref C_Policy) "__contains__"=some (some (.ref f13)))
  (i13:PySem.W.isFn K (.ref f13)=true)
  (l13:d9 K f13 "__contains__" "Policy.__contains__" sJ)
  (a14:PySem.W.nsIn K mainGlobals "hear_neither"=some (some (.ref f14)))
  (l14:d9 K f14 "hear_neither" "hear_neither" vU)
  (a15:PySem.W.findIn K (.ref C_Policy) "hearers"=some (some (.ref f15)))
  (i15:PySem.W.isFn K (.ref f15)=true)
  (l15:d9 K f15 "hearers" "Policy.hearers" sH)
  (a16:PySem.W.nsIn K mainGlobals "with_hearers"=some (some (.ref f16)))
  (l16:d9 K f16 "with_hearers" "with_hearers" vK)
  (a17:PySem.W.nsIn K mainGlobals "order_gap"=some (some (.ref f17)))
  (l17:d9 K f17 "order_gap" "order_gap" mZ)
  (a18:PySem.W.nsIn K mainGlobals "order_counts"=some (some (.ref f18)))
  (l18:d9 K f18 "order_counts" "order_counts" sq)
  (a19:PySem.W.nsIn K mainGlobals "_law_told"=some (some (.ref f19)))
  (l19:d9 K f19 "_law_told" "_law_told" vL)
  (a20:PySem.W.nsIn K mainGlobals "_law_come"=some (some (.ref f20)))
  (l20:d9 K f20 "_law_come" "_law_come" sB)
  (a21:PySem.W.nsIn K mainGlobals "_law_is_gap"=some (some (.ref f21)))
  (l21:d9 K f21 "_law_is_gap" "_law_is_gap" sy)
  (a22:PySem.W.nsIn K mainGlobals "_law_rows"=some (some (.ref f22)))
  (l22:d9 K f22 "_law_rows" "_law_rows" sw)
  (a23:PySem.W.nsIn K mainGlobals "_law_has_none"=some (some (.ref f23)))
  (l23:d9 K f23 "_law_has_none" "_law_has_none" vO)
  (a24:PySem.W.nsIn K mainGlobals "_law_right"=some (some (.ref f24)))
  (l24:d9 K f24 "_law_right" "_law_right" vM)
  (a25:PySem.W.nsIn K mainGlobals "law"=some (some (.ref f25)))
  (l25:K.lookup f25=some ⟨oc25,od25,.func (PySem.W.fnOf "law" "law" (defArgs jw) (defBody jw) (defScope jw) .none kV25 dc25 pm25 an25 cd25 ct25),sl25⟩)
  (c25:PySem.W.codeIn K cd25 "law"=true)
  (k25:PySem.W.keepIn K (.ref f25)=true)
  (z_all:PySem.W.nsIn K mainGlobals "all"=some none)
  (z_bool:PySem.W.nsIn K mainGlobals "bool"=some none)
  (z_int:PySem.W.nsIn K mainGlobals "int"=some none)
  (z_isinstance:PySem.W.nsIn K mainGlobals "isinstance"=some none)
  (z_len:PySem.W.nsIn K mainGlobals "len"=some none)
  (z_list:PySem.W.nsIn K mainGlobals "list"=some none)
  (z_range:PySem.W.nsIn K mainGlobals "range"=some none)
  (z_repr:PySem.W.nsIn K mainGlobals "repr"=some none)
  (z_set:PySem.W.nsIn K mainGlobals "set"=some none)
  (z_sorted:PySem.W.nsIn K mainGlobals "sorted"=some none)
  (z_tuple:PySem.W.nsIn K mainGlobals "tuple"=some none)
  (z_zip:PySem.W.nsIn K mainGlobals "zip"=some none)
  (g_PAIR:PySem.W.nsIn K mainGlobals "PAIR"=some (some (.int 2 t_PAIR))) :
  ∃fd:FuncData,(∀(s:Shared) (v:Value),BindsTo s fd ⟨[v],[]⟩ [("_law_script",v)])/\∀base:Heap,K.In base->base.Ns mainGlobals mg->FnG l.prog w K mg base CX0 8 fa fd ["_law_script"] (r8 K):=by
 have e:=hfa.symm.trans (PySem.W.mg_of X G a25)
 cases e
 let ct:Tw.Ct:=⟨uH [("Policy",C_Policy)] C_Policy,hashStr w⟩
 have ePolicy:C_Policy=ct "Policy":=by rfl
 have cPolicy:Cls K C_Policy:=⟨pgPolicy,hdPolicy,poPolicy,saPolicy⟩
 have T:Lw l.prog w K mg ct:={
  b_all:=PySem.W.mg_none_of X G z_all,
  b_bool:=PySem.W.mg_none_of X G z_bool,
  b_int:=PySem.W.mg_none_of X G z_int,
  b_isinstance:=PySem.W.mg_none_of X G z_isinstance,
  b_len:=PySem.W.mg_none_of X G z_len,
  b_list:=PySem.W.mg_none_of X G z_list,
  b_range:=PySem.W.mg_none_of X G z_range,
  b_repr:=PySem.W.mg_none_of X G z_repr,
  b_set:=PySem.W.mg_none_of X G z_set,
  b_sorted:=PySem.W.mg_none_of X G z_sorted,
  b_tuple:=PySem.W.mg_none_of X G z_tuple,
  b_zip:=PySem.W.mg_none_of X G z_zip,
  hs:=rfl,
  g_PAIR:=⟨_,PySem.W.mg_of X G g_PAIR,_,rfl⟩,
  f_pairs:=Gk (xt cPolicy noPolicy_pairs (xt cPolicy noPolicy_pairs Gm)),
  f_users:=Gk (xt cPolicy noPolicy_users (xt cPolicy noPolicy_users Gm)) }
 refine⟨PySem.W.fnOf "law" "law" (defArgs jw) (defBody jw) (defScope jw) .none kV25 dc25 pm25 an25 cd25 ct25,fun s v=>.of_eq rfl,fun base _ _=>?_⟩;have x_law_deck:=OY (base:=base) T (gE X G a1 l1);have x_law_draw:=OX (base:=base) T (gE X G a2 l2);have x_law_ties:=ON (base:=base) T x_law_draw (gE X G a3 l3);have x_law_some:=OO (base:=base) T x_law_draw x_law_ties (gE X G a4 l4);have x_law_ears:=OW (base:=base) T (gE X G a5 l5);have x_law_more:=OR (base:=base) T (gE X G a6 l6);have x_law_gap:=OU (base:=base) T x_law_ears x_law_more (gE X G a7 l7);have x_is_integer:=O1 (base:=base) T (gE X G a8 l8);have x_is_below:=O2 (base:=base) T x_is_integer (gE X G a9 l9);have x_is_pair:=O0 (base:=base) T x_is_below (gE X G a10 l10);have x_do_rise:=O4 (base:=base) T (gE X G a11 l11);have x_Policy_init:=O5 (base:=base) T x_is_integer x_is_pair x_do_rise (QY ePolicy X G nCPolicy cPolicy mkPolicy kcPolicy a12 i12 l12)
 have x_Policy_contains:=O7 (base:=base) T x_is_below (Gv ePolicy cPolicy a13 i13 l13);have x_hear_neither:=O3 (base:=base) T x_Policy_contains (gE X G a14 l14);have x_Policy_hearers:=O6 (base:=base) T (Gv ePolicy cPolicy a15 i15 l15);have x_with_hearers:=OJ (base:=base) T x_Policy_hearers (gE X G a16 l16);have x_order_gap:=OK (base:=base) T x_hear_neither x_Policy_hearers x_with_hearers (gE X G a17 l17);obtain⟨_,_,_,_,_,_,_,_,_,l18,c18,k18⟩:=l18;have F18:=fun_mk (st:=sq) l18 c18 k18;have x_order_counts:=OL (base:=base) T x_order_gap (gE X G a18 ⟨_,_,_,_,_,_,_,_,_,l18,c18,k18⟩);have x_law_told:=OM (base:=base) T (gE X G a19 l19);have x_law_come:=OZ (base:=base) T (gE X G a20 l20);have x_law_is_gap:=OS (base:=base) T x_law_ears x_law_told x_law_come (gE X G a21 l21);have x_law_rows:=OP (base:=base) T (gE X G a22 l22);have x_law_has_none:=OT (base:=base) T x_law_ears x_law_told x_law_come x_law_rows (gE X G a23 l23)
 have kf_order_counts_0:KFact K mg "order_counts" 0 ["policy"] (fun vs zs=>gJ [0] (vs++zs)):=OE (PySem.W.mg_of X G a18) l18 fun s us ws h1 h2=>match us,ws,h1,h2 with|[],[_],_,_=>.of_eq rfl
 have x_law_right:=OQ (base:=base) T x_law_gap x_Policy_init x_order_counts x_law_is_gap x_law_has_none kf_order_counts_0 (gE X G a24 l24);have F25:=fun_mk (st:=jw) l25 c25 k25;exact Mp.Qr F25 lX rfl rfl (by decide) (px.b (HJ T x_law_deck x_law_some x_Policy_init x_order_counts x_law_right)) HL
end Mp
namespace Mp
open PySem PySem.Spec PyProof.Rows L2 Tw
theorem fL {K:PySem.W.Frag} {a:Addr} {n q:Str} {st:Stmt} (e:dM K a=fv n q st) (d:uG K a=.none/\PySem.W.codeIn K (uM K a) q=true/\PySem.W.keepIn K (.ref a)=true):d9 K a n q st:=⟨_,_,_,_,_,_,_,_,_,Gj e d.1,d.2.1,d.2.2⟩
theorem Jq {l:PySem.W.OpenLaw} {n k:Nat} {q:Program} {loose:List Str} {XP:(Str->Option Value)->Heap->Prop} {YP:World->Heap->Prop} {d:DefRec} {CX:CXT} {x:Str}
  (hn:l.most=some n) (gD:n<=sizeLine) (hdf:d.params.defaults=[]) (hr:Room k callerA)
  (F:∀(w:World) (mg:Str->Option Value) (fa:Addr) (h:Heap),YP w h->h.Ns mainGlobals mg->mg d.name=some (.ref fa) ->
   ∃(K:PySem.W.Frag) (sp:Sp) (fd:FuncData),K.In h/\(∀(H:Hp) (a:Addr) (ns:List Int),ns.length<=n->SqL K H a (ns.map V.int)->sp [.ref a] H (fun v _=>v=.bl true) fun _ _ _=>False) /\
    (∀(s:Shared) (u:Value),BindsTo s fd ⟨[u],[]⟩ [(x,u)])/\∀base:Heap,K.In base->base.Ns mainGlobals mg->Tw.FnG l.prog w K mg base CX k fa fd [x] sp)
  (hCX:∀(H:Hp) (s:Shared) (e:Value) (s2:Shared),CX [] H s (fun _ _ _=>False) e s2->False):PySem.W.WalkO q loose XP YP l.row.toRowW d [] (fun f vs=>PySem.call f vs):=by
 refine Att.attach_call hn hdf fun w s₀ s₁ mg mb fa o pm cd doc a vs ns G Y ho hd hcd hmg hobj hints hlen hg=>?_
 obtain⟨K,sp,fd,KX,hsp,hb,hF⟩:=F w mg fa _ Y G.T.g hmg
 exact Tw.Ou KX G.T.g G.T.b G.T.builtins G.T.nolimit hg hobj hints (dH hlen gD) hr hF hb (fun H hS=>hsp H a ns hlen hS) fun H e s2=>hCX H s₁ e s2
end Mp
namespace Mp
open PySem PySem.Spec PyProof.Rows L2 Tw
open Tw
theorem aV {l:List Bool} (c:l.all id=true) (i:Nat) {b:Bool} (e:l[i]?=some b):b=true:=dv.mp c _ (fP e)
set_option maxHeartbeats 0 in
theorem P5 {l:PySem.W.OpenLaw} {w:World} {K:PySem.W.Frag} {h:Heap} {mg:Str->Option Value} {fa:Addr} (X:K.In h) (G:h.Ns mainGlobals mg) (hfa:mg "law"=some (.ref fa)) (c:(((jC K).all id,ut K):He.AlD)=(true,xc)) :
  ∃fd:FuncData,(∀(s:Shared) (v:Value),BindsTo s fd ⟨[v],[]⟩ [("_law_script",v)])/\∀base:Heap,K.In base->base.Ns mainGlobals mg->FnG l.prog w K mg base CX0 8 fa fd ["_law_script"] (r8 K) :=
 have c1:(jC K).all id=true:=congrArg (fun z:He.AlD=>z.1) c;have c2:ut K=xc:=congrArg (fun z:He.AlD=>z.2) c
 all_mk (C_Policy:=iE K) (f1:=tR K) (f2:=tH K) (f3:=sZ K) (f4:=sY K) (f5:=sX K) (f6:=sW K) (f7:=sV K) (f8:=sU K) (f9:=sT K) (f10:=tQ K) (f11:=tP K) (f12:=qe K) (f13:=qd K) (f14:=tN K) (f15:=qc K) (f16:=tM K) (f17:=tL K) (f18:=tK K) (f19:=tJ K) (f20:=tF K) (f21:=tD K) (f22:=tx K) (f23:=tj K) (f24:=s9 K) (f25:=oI K) (t_PAIR:=DV K) law_holds X G hfa
  (ck (aV c1 0 rfl) 0 rfl)
  (ck (aV c1 0 rfl) 1 rfl)
  (ck (aV c1 0 rfl) 2 rfl)
  (ck (aV c1 0 rfl) 3 rfl)
  (ck (aV c1 0 rfl) 4 rfl)
  (ck (aV c1 0 rfl) 5 rfl)
  (ck (aV c1 0 rfl) 6 rfl)
  (ck (aV c1 0 rfl) 7 rfl)
  (ck (aV c1 0 rfl) 8 rfl)
  (ck (aV c1 0 rfl) 9 rfl)
  (fL (a:=tR K) (fk c2 0 rfl rfl) (ck (aV c1 0 rfl) 10 rfl))
  (ck (aV c1 0 rfl) 11 rfl)
  (fL (a:=tH K) (fk c2 1 rfl rfl) (ck (aV c1 0 rfl) 12 rfl))
  (ck (aV c1 0 rfl) 13 rfl)
  (fL (a:=sZ K) (fk c2 2 rfl rfl) (ck (aV c1 0 rfl) 14 rfl))
  (ck (aV c1 0 rfl) 15 rfl)
  (fL (a:=sY K) (fk c2 3 rfl rfl) (ck (aV c1 0 rfl) 16 rfl))
  (ck (aV c1 0 rfl) 17 rfl)
  (fL (a:=sX K) (fk c2 4 rfl rfl) (ck (aV c1 0 rfl) 18 rfl))
  (ck (aV c1 0 rfl) 19 rfl)
  (fL (a:=sW K) (fk c2 5 rfl rfl) (ck (aV c1 0 rfl) 20 rfl))
  (ck (aV c1 0 rfl) 21 rfl)
  (fL (a:=sV K) (fk c2 6 rfl rfl) (ck (aV c1 0 rfl) 22 rfl))
  (ck (aV c1 0 rfl) 23 rfl)
  (fL (a:=sU K) (fk c2 7 rfl rfl) (ck (aV c1 0 rfl) 24 rfl))
  (ck (aV c1 1 rfl) 0 rfl)
  (fL (a:=sT K) (fk c2 8 rfl rfl) (ck (aV c1 1 rfl) 1 rfl))
  (ck (aV c1 1 rfl) 2 rfl)
  (fL (a:=tQ K) (fk c2 9 rfl rfl) (ck (aV c1 1 rfl) 3 rfl))
  (ck (aV c1 1 rfl) 4 rfl)
  (fL (a:=tP K) (fk c2 10 rfl rfl) (ck (aV c1 1 rfl) 5 rfl))
  (ck (aV c1 1 rfl) 6 rfl)
  (ck (aV c1 1 rfl) 7 rfl)
  (fL (a:=qe K) (fk c2 11 rfl rfl) (ck (aV c1 1 rfl) 8 rfl))
  (ck (aV c1 1 rfl) 9 rfl)
  (ck (aV c1 1 rfl) 10 rfl)
  (fL (a:=qd K) (fk c2 12 rfl rfl) (ck (aV c1 1 rfl) 11 rfl))
  (ck (aV c1 1 rfl) 12 rfl)
  (fL (a:=tN K) (fk c2 13 rfl rfl) (ck (aV c1 1 rfl) 13 rfl))
  (ck (aV c1 1 rfl) 14 rfl)
  (ck (aV c1 1 rfl) 15 rfl)
  (fL (a:=qc K) (fk c2 14 rfl rfl) (ck (aV c1 1 rfl) 16 rfl))
  (ck (aV c1 1 rfl) 17 rfl)
  (fL (a:=tM K) (fk c2 15 rfl rfl) (ck (aV c1 1 rfl) 18 rfl))
  (ck (aV c1 1 rfl) 19 rfl)
  (fL (a:=tL K) (fk c2 16 rfl rfl) (ck (aV c1 1 rfl) 20 rfl))
  (ck (aV c1 1 rfl) 21 rfl)
  (fL (a:=tK K) (fk c2 17 rfl rfl) (ck (aV c1 1 rfl) 22 rfl))
  (ck (aV c1 1 rfl) 23 rfl)
  (fL (a:=tJ K) (fk c2 18 rfl rfl) (ck (aV c1 1 rfl) 24 rfl))
  (ck (aV c1 2 rfl) 0 rfl)
  (fL (a:=tF K) (fk c2 19 rfl rfl) (ck (aV c1 2 rfl) 1 rfl))
  (ck (aV c1 2 rfl) 2 rfl)
  (fL (a:=tD K) (fk c2 20 rfl rfl) (ck (aV c1 2 rfl) 3 rfl))
  (ck (aV c1 2 rfl) 4 rfl)
  (fL (a:=tx K) (fk c2 21 rfl rfl) (ck (aV c1 2 rfl) 5 rfl))
  (ck (aV c1 2 rfl) 6 rfl)
  (fL (a:=tj K) (fk c2 22 rfl rfl) (ck (aV c1 2 rfl) 7 rfl))
  (ck (aV c1 2 rfl) 8 rfl)
  (fL (a:=s9 K) (fk c2 23 rfl rfl) (ck (aV c1 2 rfl) 9 rfl))
  (ck (aV c1 2 rfl) 10 rfl)
  (Gj (a:=oI K) (fk c2 24 rfl rfl) (ck (aV c1 2 rfl) 11 rfl))
  (ck (aV c1 2 rfl) 12 rfl)
  (ck (aV c1 2 rfl) 13 rfl)
  (ck (aV c1 2 rfl) 14 rfl)
  (ck (aV c1 2 rfl) 15 rfl)
  (ck (aV c1 2 rfl) 16 rfl)
  (ck (aV c1 2 rfl) 17 rfl)
  (ck (aV c1 2 rfl) 18 rfl)
  (ck (aV c1 2 rfl) 19 rfl)
  (ck (aV c1 2 rfl) 20 rfl)
  (ck (aV c1 2 rfl) 21 rfl)
  (ck (aV c1 2 rfl) 22 rfl)
  (ck (aV c1 2 rfl) 23 rfl)
  (ck (aV c1 2 rfl) 24 rfl)
  (ck (aV c1 3 rfl) 0 rfl)
  (ck (aV c1 3 rfl) 1 rfl)
end Mp
open PySem PySem.W PySem.Calls PyProof.Rows
set_option maxRecDepth 100000 in
set_option maxHeartbeats 0 in
theorem PySem.Challenge.cw_bytoldways_k43_whether_order_counts_holds : PySem.Challenge.rw_bytoldways_k43_whether_order_counts.Holds := by
 refine Mp.Qd ?hc
 case hc =>
  refine Mp.Jq (l:=PySem.Challenge.rw_bytoldways_k43_whether_order_counts) (n:=63) (k:=8) (x := "_law_script") (CX:=L2.CX0) rfl (by decide) (by kernel_rfl) ⟨rfl,by decide,by decide⟩ ?F (fun _ _ _ _ z=>z);intro w mg fa h Y G hmg0;obtain⟨K,KX,c⟩:=Y
  have hmg:mg ("law":PySem.Str)=some (.ref fa):=by
   have e:(HandSHeadRun.topDef (OpenLaw.row PySem.Challenge.rw_bytoldways_k43_whether_order_counts).prog 46).name=("law":PySem.Str):=by kernel_rfl
   rw[←e];exact hmg0
  obtain⟨fd,hb,hF⟩:=Mp.P5 (l:=PySem.Challenge.rw_bytoldways_k43_whether_order_counts) (w:=w) KX G hmg c;exact⟨K,Mp.r8 K,fd,KX,fun H a ns hl hS=>⟨a,ns,rfl,hS,hl,fun _=>rfl⟩,hb,hF⟩