import PyProof.Rows.All
import Wide.All
import OpenK.AllK
import Wide.FinOn
import HandS.ForMost
import HandS.Words
import HandS.HeadHook1
import HandS.ExcField
import KE.OsRunLaw
import PyProof.Rows.FactsT3
import PySem.Challenge.RW_unlikekeys_k09_texts_of_worlds
import KE.KFromBytes
import KE.KSuper
import KE.KExcSuper
import HandS.More
import HandS.ExcInit
import HandS.ExcSuper
import HandS.Lambda
import KE.KNest
import KE.KDictKeyed
import KE.KDictCopyH
import HandS.Walk
import HandS.TupLen
import KE.KDictDisplayH
import KE.KDictWalk
import KE.KDictSum
import KE.SortData
import HandS.Wide
import HandS.TupAny
import HandS.Style
import HandS.Deep
import HandS.Conv
import HandS.IsInst
import HandS.Star
import HandS.RaiseMore
import HandS.SortInts
import HandS.WordsDict
import HandS.TryOnly
import HandS.Small
import HandS.Ends
import HandS.List
import HandS.Dict
import HandS.SetFor
import PyProof.SetRoads
import KE.GoesMore
import KE.GoesEnum
import HandS.Iter
import HandS.Zip
import HandS.Strs
import KE.KRevSl
import PyProof.AutoSeq1
import KE.DatumOrd
import KE.OsSortAny
import HandS.DictSubView
import HandS.DictTup
import HandS.Flow
import PyProof.DictTruth
import PyProof.DictRoads
import KE.KDictZip
import PyProof.ReprRoads
import HandS.Property
import HandS.ExcIs
import HandS.DictComp
import HandS.OwnEq
import HandS.ListItems
import KE.DataCmp
import HandS.TupSets
import KE.KeyNested
import KE.LtData
import KE.KSortTupAny
import KE.KDictLaws
import PyProof.SeqRoads2
import KE.KDictList
import HandS.TupMul
import PyProof.SeqIndex
import KE.DataEq
import HandS.Text
import KE.IntTextLaws
import PyProof.P3Eq
import PyProof.Rows.StrCase
set_option Elab.async false
set_option linter.all false
set_option maxRecDepth 100000
set_option maxHeartbeats 4000000
namespace L2.AL
abbrev AM:=@List.mem_map
abbrev AN:=@List.mem_cons_self
abbrev AO:=@Option.map_eq_some_iff
abbrev AP:=@List.all_eq_true
abbrev AQ:=@List.getElem?_eq_some_iff
abbrev AR:=@Bool.and_eq_true_iff
abbrev AS:=@List.length_append
abbrev AT:=@List.getElem?_append_left
abbrev AU:=@Nat.le_trans
abbrev AV:=@List.getElem?_append_right
abbrev AW:=@List.mem_append
abbrev AX:=@List.getElem?_eq_getElem
abbrev AY:=@List.map_map
abbrev AZ:=@List.getElem?_set_ne
abbrev A0:=@List.getElem?_set_self
abbrev A6:=@List.append_nil
abbrev A7:=@List.map_append
abbrev A8:=@List.mem_singleton
abbrev A9:=@List.length_take
abbrev Ba:=@PySem.F.plainAttrs_list
abbrev Bb:=@PyProof.Rows.boot_tuple
abbrev Bc:=@Option.bind_eq_some_iff
abbrev Be:=@Nat.ne_of_lt
abbrev Bf:=@List.length_singleton
abbrev Bg:=@Nat.zero_le
abbrev Bh:=@List.mem_of_getElem?
abbrev Bi:=@List.append_assoc
abbrev Bj:=@Bool.not_eq_true
abbrev Bl:=@List.nodup_cons
abbrev Bm:=@PyProof.Rows.boot_all
abbrev Bn:=@Bool.false_ne_true
abbrev Bo:=@List.mem_range
abbrev Bp:=@PyProof.Rows.boot_int
abbrev Bq:=@Nat.lt_of_lt_of_le
abbrev Br:=@List.pairwise_map
abbrev Bs:=@List.getElem?_eq_none
abbrev Bt:=@Nat.lt_trans
abbrev Bu:=@Int.emod_nonneg
abbrev Bv:=@Int.emod_lt_of_pos
abbrev Bw:=@List.length_drop
abbrev Bx:=@Bool.or_eq_true
abbrev By:=@List.length_replicate
abbrev Bz:=@List.pairwise_cons
abbrev BA:=@PySem.F.plainAttrs_str
abbrev BC:=@PySem.F.slot_list_extend
abbrev BD:=@PySem.F.type_list_extend
abbrev BE:=@List.any_eq_true
abbrev BF:=@Nat.lt_irrefl
abbrev BG:=@List.size_toArray
abbrev BH:=@Nat.lt_succ_of_lt
abbrev BI:=@List.nodup_nil
abbrev BJ:=@PySem.F.slot_list_append
abbrev BK:=@PySem.F.type_list_append
abbrev BL:=@PyProof.Rows.boot_isinstance
abbrev BM:=@Nat.pow_lt_pow_right
abbrev BO:=@Array.length_toList
abbrev BP:=@List.getElem?_replicate
abbrev BQ:=@List.of_mem_zip
abbrev BR:=@List.take_of_length_le
abbrev BS:=@List.mem_of_mem_drop
abbrev BT:=@List.getElem?_take_of_lt
abbrev BU:=@List.mem_append_left
abbrev BV:=@List.mem_of_mem_take
abbrev BW:=@PyProof.Rows.boot_sorted
abbrev BX:=@List.pairwise_mergeSort
end L2.AL
namespace L2.AL.HX
open PySem PySem.Spec PyProof.Rows L2
abbrev Fr:=PySem.W.Frag
abbrev eqO:=He.eqO
def NG (a:Addr) (o:Obj):Bool:=(match o.cls with
 | .none=>false
 |_=>true)||(Nat.beq a cStatics||Nat.beq a mainGlobals)
def M5 (g:Addr→Option Obj) (a:Addr):Option (Addr×Obj):=match g a with
 |some o=>(match NG a o with
  |true=>some (a,o)
  |false=>none)
 |none=>none
def tY (g:Addr→Option Obj) (as:List Addr):Fr:=as.filterMap (M5 g)
theorem M6 {g:Addr→Option Obj} {a b:Addr} {o:Obj} (h:M5 g a=some (b,o)):b=a∧g a=some o:=by
 unfold M5 at h
 cases e:g a with
 |none=>rw[e]at h; cases h
 |some u=>
  rw[e]at h
  cases k:NG a u with
  |false=>simp only[k]at h; cases h
  |true=>
   simp only[k]at h
   cases h
   exact⟨rfl,rfl⟩
theorem b8 {g:Addr→Option Obj} {a:Addr} {o:Obj}:∀as:List Addr,(tY g as).lookup a=some o→g a=some o
 |[],e=>nomatch (show(none:Option Obj)=some o from e)
 |b::r,e=>by
  unfold tY at e
  rw[List.filterMap_cons]at e
  cases hb:M5 g b with
  |none=>
   rw[hb]at e
   exact b8 r e
  |some p=>
   obtain⟨c,ob⟩:=p
   rw[hb]at e
   have e2:(match a==c with|true=>some ob|false=>(tY g r).lookup a)=some o:=e
   obtain⟨rfl,hg⟩:=M6 hb
   cases q:(a==c)with
   |true=>
    rw[q]at e2
    rw[beq_iff_eq.mp q,hg]
    exact e2
   |false=>
    rw[q]at e2
    exact b8 r e2
theorem Mn {as:List Addr} {h:Heap}:PySem.W.Frag.In (tY h.get? as) h:=fun _ _ e=>b8 as e
def Ll:Value→List Addr
 | .ref a=>[a]
 |_=>[]
def Sf (o:Obj):List Addr:=match o.data with
 | .seq its _=>its.toList.flatMap Ll
 | .dict es _=>es.toList.flatMap fun e=>Ll e.val
 | .func fd=>Ll fd.code++fd.closure.map (·.2)
 | .cls cd=>cd.ns::cd.mro.tail.flatMap Ll
 | .fields vs=>(match o.cls with
   | .type "property"=>vs.toList.flatMap Ll
   |_=>[])
 |_=>[]
def next (g:Addr→Option Obj) (as:List Addr):List Addr:=as.flatMap fun a=>match g a with
 |some o=>Sf o
 |none=>[]
def asG (g:Addr→Option Obj):List Addr:=
 let a0:=next g [mainGlobals]
 let a1:=next g a0
 let a2:=next g a1
 let a3:=next g a2
 cStatics::mainGlobals::(a0++(a1++(a2++(a3++next g a3))))
structure FD where
 adr:Fr→Addr
 name:Str
 qual:Str
 st:Stmt
 cl:List Str:=[]
abbrev FnV:Type:=Option (Str×Str×Arguments×FuncBody×Scope×Addr×List Str×Value×Addr)
def dP (K:Fr) (a:Addr):FnV:=match K.lookup a with
 |some ⟨_,_,.func fd,_⟩=>some (fd.name,fd.qualname,fd.params,fd.body,fd.scope,fd.globals,fd.closure.map (·.1),fd.defaults,fd.builtins)
 |_=>none
def FD.val (d:FD):FnV:=some (d.name,d.qual,defArgs d.st,.stmts (defBody d.st),defScope d.st,mainGlobals,d.cl,.none,builtinsNs)
def fnB (K:Fr) (d:FD):Bool:=(match K.lookup (d.adr K)with
 |some ⟨_,_,.func fd,_⟩=>PySem.W.codeIn K fd.code d.qual
 |_=>false)&&PySem.W.keepIn K (.ref (d.adr K))
theorem NC {K:Fr} {d:FD} (e:dP K (d.adr K)=d.val) (c:fnB K d=true) :
  ∃oc od osl kV doc pm an cdv ct cl,K.lookup (d.adr K)=some ⟨oc,od,.func (PySem.W.fnX d.name d.qual (defArgs d.st) (defBody d.st) (defScope d.st) cl .none kV doc pm an cdv ct),osl⟩∧cl.map (·.1)=d.cl∧PySem.W.codeIn K cdv d.qual=true∧PySem.W.keepIn K (.ref (d.adr K))=true:=by
 obtain⟨c2,c3⟩:=AR.mp c
 unfold dP at e
 cases q:K.lookup (d.adr K)with
 |none=>
  rw[q]at c2
  cases c2
 |some o=>
  obtain⟨oc,od,dt,osl⟩:=o
  rw[q]at c2 e
  cases dt with
  |func fd=>
   obtain⟨n1,n2,n3,n4,n5,n6,n7,n8,n9,n10,n11,n12,n13,n14,n15⟩:=fd
   have e2:(some (n1,n2,n3,n4,n5,n6,n7.map (·.1),n8,n15):FnV)=some (d.name,d.qual,defArgs d.st,.stmts (defBody d.st),defScope d.st,mainGlobals,d.cl,.none,builtinsNs):=e
   simp only[Option.some.injEq,Prod.mk.injEq]at e2
   obtain⟨h1,h2,h3,h4,h5,h6,h7,h8,h9⟩:=e2
   subst h1 h2 h3 h4 h5 h6 h8 h9
   exact⟨oc,od,osl,n9,n10,n11,n12,n13,n14,n7,rfl,h7,c2,c3⟩
  |_=>cases c2
def OZ (K:Fr) (a:Addr):Option (List Int):=match K.lookup a with
 |some ⟨_,_,.dict es _,_⟩=>some (es.toList.map (·.hash))
 |_=>none
abbrev Al:Type:=Bool×List FnV×List (Option (List Int))
def RR (fa:List (Fr→Bool)) (fn:List FD) (dc:List (Str×List Str)) (K:Fr):Al:=
 ((fa.all fun f=>f K)&&fn.all (fnB K),fn.map fun d=>dP K (d.adr K),dc.map fun t=>OZ K (He.ga K t.1))
def Ra (fn:List FD) (dc:List (Str×List Str)) (w:World):Al:=(true,fn.map FD.val,dc.map fun t=>some (t.2.map fun k=>PyData.keyHash w.params k))
def Says (fa:List (Fr→Bool)) (fn:List FD) (dc:List (Str×List Str)) (w:World) (K:Fr):Prop:=RR fa fn dc K=Ra fn dc w
def RQ (fa:List (Fr→Bool)) (fn:List FD) (dc:List (Str×List Str)) (g:Addr→Option Obj):Al:=RR fa fn dc (tY g (asG g))
def hookH (fa:List (Fr→Bool)) (fn:List FD) (dc:List (Str×List Str)):PySem.W.Hook where
 α:=Al
 obs:=fun s=>RQ fa fn dc s.heap.get?
 val:=fun w=>Ra fn dc w
 says:=fun w h=>∃K:Fr,K.In h∧Says fa fn dc w K
 of:=fun _ _ e=>⟨_,Mn,e⟩
 keeps:=fun _ _ _ ⟨K,hK,c⟩ k=>⟨K,PySem.W.Frag.In.keeps hK k,c⟩
def obT (fa:List (Fr→Bool)) (fn:List FD) (dc:List (Str×List Str)) (s:PySem.W.SharedT):Al:=RQ fa fn dc (HeadRun.getT s)
theorem obT_eq {fa:List (Fr→Bool)} {fn:List FD} {dc:List (Str×List Str)} (s:PySem.W.SharedT):obT fa fn dc s=(hookH fa fn dc).obs s.abs:=by
 have e:HeadRun.getT s=s.abs.heap.get?:=funext fun a=>HeadRun.getT_eq s a
 unfold obT
 rw[e]; rfl
def aG (x:Str) (K:Fr):Addr:=He.ga K x
def aM (C m:Str) (K:Fr):Addr:=He.ma K (He.ga K C) m
def aP (C m:Str) (K:Fr):Addr:=match PySem.W.recIn K (aM C m K) "property" with
 |some (.ref f::_)=>f
 |_=>0
def bGlo (x:Str) (K:Fr):Bool:=eqO (PySem.W.nsIn K mainGlobals x) (some (some (.ref (He.ga K x))))
def bFree (x:Str) (K:Fr):Bool:=eqO (PySem.W.nsIn K mainGlobals x) (some none)
inductive Cv where
 |non|bl (b:Bool)|int (i:Int)|str (x:Str)|tup (xs:List Cv)
def Kh:Value→Bool
 | .none=>true
 |_=>false
def ND (b:Bool):Value→Bool
 | .bool c=>b==c
 |_=>false
def Kg (i:Int):Value→Bool
 | .int j _=>decide (i=j)
 |_=>false
def cg (x:Str):Value→Bool
 | .str y _=>decide (x=y)
 |_=>false
def a7 (K:Fr):Value→Option (List Value)
 | .ref a=>(match K.lookup a with
   |some ⟨.type c,none,.seq its _,_⟩=>(match decide (c="tuple")&&Nat.ble its.size 1000 with
    |true=>some its.toList
    |false=>none)
   |_=>none)
 |_=>none
def SU (f:List Value→Bool):Option (List Value)→Bool
 |some us=>f us
 |none=>false
def Ru (f:Value→Bool) (g:List Value→Bool):List Value→Bool
 |u::us=>f u&&g us
 |[]=>false
mutual
def cst (K:Fr):Cv→Value→Bool
 | .non,u=>Kh u
 | .bl b,u=>ND b u
 | .int i,u=>Kg i u
 | .str x,u=>cg x u
 | .tup ds,u=>SU (cstL K ds) (a7 K u)
def cstL (K:Fr):List Cv→List Value→Bool
 |[],us=>us.isEmpty
 |d::ds,us=>Ru (cst K d) (cstL K ds) us
end
def bCst (x:Str) (d:Cv) (K:Fr):Bool:=match PySem.W.nsIn K mainGlobals x with
 |some (some u)=>cst K d u
 |_=>false
def MU (K:Fr) (C:Addr) (as:List Str):Bool:=as.all fun f=>eqO (PySem.W.findIn K (.ref C) f) (some none)
def bCls (x:Str) (as:List Str) (K:Fr):Bool:=bGlo x K&&((He.Fa.cls x).ok K&&MU K (aG x K) as)
def Rl (K:Fr) (a b:Value) (r:Bool):Bool:=decide (PySem.W.kitOne K a b=some r)
def bIs (x:Str) (K:Fr):Bool:=["NoneType","bool","int","str","tuple","list","dict"].all (fun t=>Rl K (.type t) (.ref (aG x K)) false)&&(Rl K (.ref (aG x K)) (.ref (aG x K)) true&&
 (eqO (PySem.W.findIn K (.ref (aG x K)) "__class__") (some (some (.builtin "object.__class__")))&&(eqO (PySem.W.specialIn K (.builtin "object.__class__") "__get__") (some (some (.builtin "getset_descriptor.__get__")))&&
 (decide (PySem.W.takesIn K (.builtin "object.__class__")=some true)&&decide (PySem.W.mroIn K (aG x K) (.type "object")=some true)))))
def bMk (x:Str) (K:Fr):Bool:=(He.Fa.mkr x).ok K
def bProp (x m:Str) (K:Fr):Bool:=eqO (PySem.W.findIn K (.ref (aG x K)) m) (some (some (.ref (aM x m K))))&&(eqO (PySem.W.specialIn K (.ref (aM x m K)) "__get__") (some (some (.builtin "property.__get__")))&&
 (decide (PySem.W.takesIn K (.ref (aM x m K))=some true)&&(match PySem.W.recIn K (aM x m K) "property" with
   |some (.ref _::_)=>true
   |_=>false)))
def bEq (x:Str) (K:Fr):Bool:=eqO (PySem.W.findIn K (.ref (aG x K)) "__eq__") (some (some (.ref (aM x "__eq__" K))))&&(PySem.W.isFn K (.ref (aM x "__eq__" K))&&(eqO (PySem.W.findIn K (.ref (aG x K)) "__ne__") (some (some (.builtin "object.__ne__")))&&
 (decide (PySem.W.subIn K (.ref (aG x K)) (.type "object")=some true)&&(["tuple","int","str","NoneType"].all (fun t=>decide (PySem.W.subIn K (.ref (aG x K)) (.type t)=some false)&&PySem.W.notFirst K (aG x K) (.type t))))))
def bNo (x f:Str) (K:Fr):Bool:=eqO (PySem.W.findIn K (.ref (aG x K)) f) (some none)
def OT (K:Fr) (C:Addr):Bool:=match K.lookup C with
 |some ⟨.type "type",_,.cls cd,sl⟩=>(match cd.mro,sl.toList with
  | .ref C'::bm,[_,_,_,_,some (.builtin n),_]=>Nat.beq C' C&&(decide (n="ValueError.__new__")&&(!cd.hasDel&&(cd.hasDict&&PySem.HandSPX.refsVE bm)))
  |_,_=>false)
 |_=>false
def SV (f:Value→Bool):Option Value→Bool
 |some u=>f u
 |none=>false
def tq (K:Fr) (C fI:Addr) (file:Str):Bool:=match K.lookup fI with
 |some ⟨_,_,.func fd,_⟩=>(match fd.closure,fd.code with
  |[(_,cc)],.ref cda=>(match K.lookup cc with
   |some ⟨_,_,.cell (some (.ref C')),_⟩=>Nat.beq C' C
   |_=>false)&&(match K.lookup cda with
   |some ⟨_,_,.fields vs,_⟩=>SV (cg file) vs[2]?
   |_=>false)
  |_,_=>false)
 |_=>false
def bErr (x fld:Str) (file:Str) (K:Fr):Bool:=bGlo x K&&(OT K (aG x K)&&(tq K (aG x K) (aM x "__init__" K) file&&(eqO (PySem.W.findIn K (.ref (aG x K)) "__setattr__") (some (some (.builtin "object.__setattr__")))&&
 (bNo x fld K&&(eqO (PySem.W.ks_superIn K (aG x K) (aG x K) "__init__") (some (some (.builtin "ValueError.__init__")))&&(decide (PySem.W.subIn K (.ref (aG x K)) (.type "ValueError")=some true)&&(decide (PySem.W.mroIn K (aG x K) (.ref (aG x K))=some true)&&
 (eqO (PySem.W.nsIn K cStatics "thirdparty.any") (some none)&&(bFree "super" K&&(eqO (PySem.W.findIn K (.ref (aG x K)) "__init__") (some (some (.ref (aM x "__init__" K))))&&(decide (PySem.W.typeIn K (.ref (aM x "__init__" K))=some (.type "function"))&&
 (decide (PySem.W.subIn K (.ref (aG x K)) (.type "BaseException")=some true)&&(decide (PySem.W.typeIn K (.ref (aG x K))=some (.type "type"))&&PySem.W.keepIn K (.ref (aG x K)))))))))))))))
def EqL (r:PySem.W.OpenRow) (M:Nat) (w:World):Prop:=∀os:OsState,(HeadRun.endF (HeadRun.stepQ (HeadRun.denQ HeadRun.tabQ) r.prog w) M r.prog w os).map (fun s=>HeadRun.looksF r.prog (PySem.W.boot_heap w.params) s.abs)=some true
def EqS (r:PySem.W.OpenRow) (q:Program) (loose:List Str) (M:Nat) (w:World):Prop:=∀os:OsState,(HeadRun.endF (HeadRun.stepQ (HeadRun.denQ HeadRun.tabQ) r.prog w) M r.prog w os).map (fun s=>HeadRun.seenQ q loose (PySem.importedModules r.prog.main.body) (fun s=>PySem.W.xlAt q [] s&&PySem.W.recOk r.toRowW.records s) s.abs)=some (PySem.W.openGood q loose)
def EqO (r:PySem.W.OpenRow) (fa:List (Fr→Bool)) (fn:List FD) (dc:List (Str×List Str)) (M:Nat) (w:World):Prop:=∀os:OsState,(HeadRun.endF (HeadRun.stepQ (HeadRun.denQ HeadRun.tabQ) r.prog w) M r.prog w os).map (fun s=>obT fa fn dc s)=some (Ra fn dc w)
theorem SL {σ α β:Type} {x:Option σ} {f:σ→Bool} {g:σ→α} {h:σ→β} {a:α} {b:β} (h1:x.map f=some true) (h2:x.map g=some a) (h3:x.map h=some b):x.map (fun s=>(f s,g s,h s))=some (true,a,b):=by
 cases x with
 |none=>cases h1
 |some s=>
  injection h1 with h1
  injection h2 with h2
  injection h3 with h3
  show some (f s,g s,h s)=_
  rw[h1,h2,h3]
theorem run_of {r:PySem.W.OpenRow} {q:Program} {loose:List Str} {fa:List (Fr→Bool)} {fn:List FD} {dc:List (Str×List Str)} {M:Nat} {w:World} (h1:EqL r M w) (h2:EqS r q loose M w) (h3:EqO r fa fn dc M w):HeadRun.RunEq r q (hookH fa fn dc) (obT fa fn dc) M loose w:=
 fun os=>SL (h1 os) (h2 os) (h3 os)
end L2.AL.HX
namespace L2.AL.WS.R.K09
open PySem PySem.Spec PyProof.Rows L2
def top (i:Nat):Stmt:=PySem.Challenge.pw_unlikekeys_k09_texts_of_worlds.main.body.getD i (.Pass ⟨0,0,0,0⟩)
def fa_:List (HX.Fr→Bool):=([HX.bFree "abs",HX.bFree "all",HX.bFree "any",HX.bFree "enumerate",HX.bFree "int",HX.bFree "isinstance",HX.bFree "len",HX.bFree "list",HX.bFree "max",HX.bFree "min",HX.bFree "range",HX.bFree "repr",HX.bFree "set",HX.bFree "sorted",HX.bFree "str",HX.bFree "tuple",HX.bFree "zip",HX.bCst "BLANK" (.str " "),HX.bCst "COLON" (.str ":"),HX.bCst "FEED" (.str "\n"),HX.bCst "IS" (.str "="),HX.bCst "KINDS" (.tup [.str "houses",.str "slot",.str "bears",.str "never",.str "lapse"]),HX.bCst "LEAST_WORDS" (.int 2),HX.bCst "LETTERS" (.str "abcdefghijklmnopqrstuvwxyz"),HX.bCst "LONGEST_NAME" (.int 8),HX.bCst "MOST_HOUSES" (.int 4),HX.bCst "MOST_LAPSES" (.int 4),HX.bCst "MOST_SLOTS" (.int 6),HX.bCst "MOST_STANDS" (.int 32),HX.bCst "MOST_WORDS" (.int 4),HX.bCst "PAIR_reading" (.int 2),HX.bCst "PAIR_worlds" (.int 2),HX.bCst "PATTERN_KINDS" (.tup [.str "bears",.str "never"]),HX.bCst "TRIPLE" (.int 3),HX.bCls "World" ["own_places","own_parts","own_stands"],HX.bIs "World",HX.bErr "BadWorld" "value" "/claim/cut.py",HX.bErr "BadText" "line" "/claim/cut.py",HX.bGlo "_law_jar",HX.bGlo "_law_take",HX.bGlo "_law_of",HX.bGlo "_law_names",HX.bGlo "_law_crossed",HX.bGlo "_law_lapses",HX.bGlo "_law_any_world",HX.bGlo "is_word",HX.bGlo "is_tuple",HX.bGlo "slots_at",HX.bGlo "is_part",HX.bGlo "is_ascending"]:List (HX.Fr→Bool))++([HX.bGlo "is_pattern_of",HX.bGlo "is_lapse",HX.bGlo "are_lapses",HX.bGlo "is_name",HX.bGlo "are_different",HX.bGlo "are_names",HX.bGlo "is_slot",HX.bGlo "are_slots",HX.bGlo "are_houses",HX.bGlo "are_patterns",HX.bGlo "are_parts",HX.bGlo "places_of",HX.bGlo "agrees",HX.bGlo "some_agrees",HX.bGlo "first_of",HX.bGlo "all_stands",HX.bGlo "World",HX.bMk "World",HX.bGlo "_law_made",HX.bGlo "_law_pairs",HX.bGlo "_law_world_page",HX.bProp "World" "houses",HX.bProp "World" "slots",HX.bProp "World" "bears",HX.bGlo "pattern_words",HX.bProp "World" "never",HX.bProp "World" "lapses",HX.bGlo "lapse_words",HX.bGlo "line_of",HX.bGlo "show_world",HX.bGlo "lines_of",HX.bGlo "names_in",HX.bGlo "two_and_more",HX.bGlo "pattern_in",HX.bGlo "house_and_patterns",HX.bGlo "parts_of",HX.bGlo "thing_in",HX.bGlo "can_stand",HX.bGlo "read_world",HX.bEq "World",HX.bGlo "_law_parts",HX.bProp "World" "stands",HX.bProp "World" "first",HX.bGlo "_law_right",HX.bGlo "law"]:List (HX.Fr→Bool))
def fn_:List HX.FD:=([⟨HX.aM "BadWorld" "__init__","__init__","BadWorld.__init__",(inClass (top 3) 0),["__class__"]⟩,⟨HX.aM "BadText" "__init__","__init__","BadText.__init__",(inClass (top 6) 0),["__class__"]⟩,⟨HX.aG "_law_jar","_law_jar","_law_jar",(top 65),[]⟩,⟨HX.aG "_law_take","_law_take","_law_take",(top 66),[]⟩,⟨HX.aG "_law_of","_law_of","_law_of",(top 67),[]⟩,⟨HX.aG "_law_names","_law_names","_law_names",(top 68),[]⟩,⟨HX.aG "_law_crossed","_law_crossed","_law_crossed",(top 69),[]⟩,⟨HX.aG "_law_lapses","_law_lapses","_law_lapses",(top 70),[]⟩,⟨HX.aG "_law_any_world","_law_any_world","_law_any_world",(top 71),[]⟩,⟨HX.aG "is_word","is_word","is_word",(top 12),[]⟩,⟨HX.aG "is_tuple","is_tuple","is_tuple",(top 11),[]⟩,⟨HX.aG "slots_at","slots_at","slots_at",(top 44),[]⟩,⟨HX.aG "is_part","is_part","is_part",(top 41),[]⟩,⟨HX.aG "is_ascending","is_ascending","is_ascending",(top 14),[]⟩,⟨HX.aG "is_pattern_of","is_pattern_of","is_pattern_of",(top 42),[]⟩,⟨HX.aG "is_lapse","is_lapse","is_lapse",(top 45),[]⟩,⟨HX.aG "are_lapses","are_lapses","are_lapses",(top 46),[]⟩,⟨HX.aG "is_name","is_name","is_name",(top 10),[]⟩,⟨HX.aG "are_different","are_different","are_different",(top 15),[]⟩,⟨HX.aG "are_names","are_names","are_names",(top 13),[]⟩,⟨HX.aG "is_slot","is_slot","is_slot",(top 39),[]⟩,⟨HX.aG "are_slots","are_slots","are_slots",(top 40),[]⟩,⟨HX.aG "are_houses","are_houses","are_houses",(top 38),[]⟩,⟨HX.aG "are_patterns","are_patterns","are_patterns",(top 43),[]⟩,⟨HX.aG "are_parts","are_parts","are_parts",(top 47),[]⟩,⟨HX.aG "places_of","places_of","places_of",(top 26),[]⟩,⟨HX.aG "agrees","agrees","agrees",(top 27),[]⟩,⟨HX.aG "some_agrees","some_agrees","some_agrees",(top 28),[]⟩,⟨HX.aG "first_of","first_of","first_of",(top 48),[]⟩,⟨HX.aG "all_stands","all_stands","all_stands",(top 49),[]⟩,⟨HX.aM "World" "__init__","__init__","World.__init__",(inClass (top 50) 0),[]⟩,⟨HX.aG "_law_made","_law_made","_law_made",(top 74),[]⟩,⟨HX.aG "_law_pairs","_law_pairs","_law_pairs",(top 72),[]⟩,⟨HX.aG "_law_world_page","_law_world_page","_law_world_page",(top 73),[]⟩,⟨HX.aP "World" "houses","houses","World.houses",(inClass (top 50) 2),[]⟩,⟨HX.aP "World" "slots","slots","World.slots",(inClass (top 50) 3),[]⟩,⟨HX.aP "World" "bears","bears","World.bears",(inClass (top 50) 4),[]⟩,⟨HX.aG "pattern_words","pattern_words","pattern_words",(top 22),[]⟩,⟨HX.aP "World" "never","never","World.never",(inClass (top 50) 5),[]⟩,⟨HX.aP "World" "lapses","lapses","World.lapses",(inClass (top 50) 6),[]⟩,⟨HX.aG "lapse_words","lapse_words","lapse_words",(top 23),[]⟩,⟨HX.aG "line_of","line_of","line_of",(top 21),[]⟩,⟨HX.aG "show_world","show_world","show_world",(top 24),[]⟩,⟨HX.aG "lines_of","lines_of","lines_of",(top 55),[]⟩,⟨HX.aG "names_in","names_in","names_in",(top 56),[]⟩,⟨HX.aG "two_and_more","two_and_more","two_and_more",(top 60),[]⟩,⟨HX.aG "pattern_in","pattern_in","pattern_in",(top 57),[]⟩,⟨HX.aG "house_and_patterns","house_and_patterns","house_and_patterns",(top 59),[]⟩,⟨HX.aG "parts_of","parts_of","parts_of",(top 58),[]⟩,⟨HX.aG "thing_in","thing_in","thing_in",(top 61),[]⟩]:List HX.FD)++([⟨HX.aG "can_stand","can_stand","can_stand",(top 62),[]⟩,⟨HX.aG "read_world","read_world","read_world",(top 63),[]⟩,⟨HX.aM "World" "__eq__","__eq__","World.__eq__",(inClass (top 50) 1),[]⟩,⟨HX.aG "_law_parts","_law_parts","_law_parts",(top 75),[]⟩,⟨HX.aP "World" "stands","stands","World.stands",(inClass (top 50) 8),[]⟩,⟨HX.aP "World" "first","first","World.first",(inClass (top 50) 7),[]⟩,⟨HX.aG "_law_right","_law_right","_law_right",(top 76),[]⟩,⟨HX.aG "law","law","law",(top 77),[]⟩]:List HX.FD)
def dc_:List (Str×List Str):=[]
def q_:Program:=PySem.W.view PySem.Challenge.pw_unlikekeys_k09_texts_of_worlds [77]
def loose_:List Str:=List.map Str.ofString ["_wall","UnlikeError","BadWorld","BadPattern","NoStand","BadText","LETTERS","LONGEST_NAME","is_name","is_tuple","is_word","are_names","is_ascending","are_different","FEED","BLANK","COLON","IS","line_of","pattern_words","lapse_words","show_world","places_of","agrees","some_agrees","MOST_HOUSES","MOST_SLOTS","LEAST_WORDS","MOST_WORDS","MOST_STANDS","MOST_LAPSES","PAIR_worlds","TRIPLE","are_houses","is_slot","are_slots","is_part","is_pattern_of","are_patterns","slots_at","is_lapse","are_lapses","are_parts","first_of","all_stands","World","KINDS","PATTERN_KINDS","PAIR_reading","lines_of","names_in","pattern_in","parts_of","house_and_patterns","two_and_more","thing_in","can_stand","read_world","_law_jar","_law_take","_law_of","_law_names","_law_crossed","_law_lapses","_law_any_world","_law_pairs","_law_world_page","_law_made","_law_parts","_law_right"]
set_option maxHeartbeats 0 in
theorem Sh (w:World):HX.EqL PySem.Challenge.rw_unlikekeys_k09_texts_of_worlds.row 60000 (w.withFollow "special-get-raises" false):=fun os=>by kernel_rfl
set_option maxHeartbeats 0 in
theorem Si (w:World):HX.EqL PySem.Challenge.rw_unlikekeys_k09_texts_of_worlds.row 60000 (w.withFollow "special-get-raises" true):=fun os=>by kernel_rfl
set_option maxHeartbeats 0 in
theorem Sl (w:World):HX.EqS PySem.Challenge.rw_unlikekeys_k09_texts_of_worlds.row q_ loose_ 60000 (w.withFollow "special-get-raises" false):=fun os=>by kernel_rfl
set_option maxHeartbeats 0 in
theorem Sm (w:World):HX.EqS PySem.Challenge.rw_unlikekeys_k09_texts_of_worlds.row q_ loose_ 60000 (w.withFollow "special-get-raises" true):=fun os=>by kernel_rfl
set_option maxHeartbeats 0 in
theorem Sj (w:World):HX.EqO PySem.Challenge.rw_unlikekeys_k09_texts_of_worlds.row fa_ fn_ dc_ 60000 (w.withFollow "special-get-raises" false):=fun os=>by kernel_rfl
set_option maxHeartbeats 0 in
theorem Sk (w:World):HX.EqO PySem.Challenge.rw_unlikekeys_k09_texts_of_worlds.row fa_ fn_ dc_ 60000 (w.withFollow "special-get-raises" true):=fun os=>by kernel_rfl
theorem run_ (w:World):HeadRun.RunEq PySem.Challenge.rw_unlikekeys_k09_texts_of_worlds.row q_ (HX.hookH fa_ fn_ dc_) (HX.obT fa_ fn_ dc_) 60000 loose_ w:=PySem.W.byRow2 "special-get-raises" (P:=HeadRun.RunEq PySem.Challenge.rw_unlikekeys_k09_texts_of_worlds.row q_ (HX.hookH fa_ fn_ dc_) (HX.obT fa_ fn_ dc_) 60000 loose_) (fun w=>HX.run_of (Sh w) (Sl w) (Sj w)) (fun w=>HX.run_of (Si w) (Sm w) (Sk w)) w
set_option maxHeartbeats 0 in
theorem ok_:(PySem.W.chainsOk q_&&PySem.W.opensWell PySem.Challenge.rw_unlikekeys_k09_texts_of_worlds.row.prog&&(PySem.W.frees PySem.Challenge.rw_unlikekeys_k09_texts_of_worlds.row.toRowW&&PySem.Challenge.rw_unlikekeys_k09_texts_of_worlds.row.within.isEmpty))=true:=by decide+kernel
set_option maxHeartbeats 0 in
theorem bare_:PySem.Challenge.rw_unlikekeys_k09_texts_of_worlds.row.prog.bare:=⟨rfl,rfl,rfl,rfl,rfl,by decide+kernel⟩
end L2.AL.WS.R.K09
open PySem PySem.W PyProof.Rows in
set_option maxRecDepth 100000 in
set_option maxHeartbeats 0 in
theorem L2.AL.WS.R.K09.end_ (hW:∀d:DefRec,d.params.defaults=[]→d.name="law"→PySem.W.WalkO L2.AL.WS.R.K09.q_ L2.AL.WS.R.K09.loose_ (PySem.W.XL L2.AL.WS.R.K09.q_ []) (L2.AL.HX.hookH L2.AL.WS.R.K09.fa_ L2.AL.WS.R.K09.fn_ L2.AL.WS.R.K09.dc_).says PySem.Challenge.rw_unlikekeys_k09_texts_of_worlds.row.toRowW d [] (fun f vs=>PySem.call f vs)):PySem.Challenge.rw_unlikekeys_k09_texts_of_worlds.Holds:=by
 w_on; o_law
 refine HeadRun.head_any (q:=L2.AL.WS.R.K09.q_) (M:=60000) (loose:=L2.AL.WS.R.K09.loose_) (kwd:=[]) L2.AL.HX.obT_eq (by kernel_rfl) (fun s=>by kernel_rfl) L2.AL.WS.R.K09.run_ (by rfl) (by rfl) (by rfl) (by rfl) (by assumption) L2.AL.WS.R.K09.ok_ L2.AL.WS.R.K09.bare_ ?hw (hW _ rfl rfl)
 w_witness2
namespace L2.AL.XI
open PySem PySem.Spec PySem.W PySem.Calls PyProof.Rows PySem.HandSPX
section
variable {prog:Program} {w:World} {A:Around} {E:Value→Shared→Prop} {h:Heap} {g:Array GenState} {d:Drawn} {t:Nat} {os:OsState}
variable {nm q:Str} {C N:Addr} {bs bm:List Value} {hdct:Bool} {sn:List Str} {sub:List Value} {ab:Bool} {col:Option Bool} {dd:Option Addr} {k0 k1 k2 k3 k5:Option Value}
theorem L9 {u e t0:Addr} {rest:List Value} {Q:Value→Shared→Prop}
  (hC:h.get? C=some (excClassObj nm q C N bs bm hdct sn sub ab col dd k0 k1 k2 k3 k5 "ValueError.__new__")) (he:h.get? e=some (excO C t0)) (hu:h.get? u=some (kxs_mw "ValueError.__init__" e)) (hrest:rest.length≤sizeLine)
  (hq:∀h' t1,(∀b o,b≠e→h.get? b=some o→h'.get? b=some o)→h'.get? e=some (excO C t1)→Q .none ⟨h',g,d,t,os⟩) :
  wpAny (model prog w) A (call (.ref u) rest) Q E ⟨h,g,d,t,os⟩:=by
 refine wpAny_call (codeAny_of_tree ?_)
 show wpAny _ A.in1 (callAny (.ref u) ⟨rest,[]⟩) _ _ _
 simp only[callAny]
 refine wpAny_bind (wpAny_load hu ?_)
 simp only[kxs_mw,show(Value.type "method-wrapper"==Value.type "method"||Value.type "method-wrapper"==Value.type "builtin_function_or_method"||Value.type "method-wrapper"==Value.type "method-wrapper")=true by decide,if_true]
 refine W.KFB.if_so (by decide) ?_
 refine wpAny_bind (ESX.check_bound F.excBase_ValueError hC he rfl ?_)
 refine wpAny_bind (wpAny_pure (wpAny_pure ?_))
 refine⟨Code.quiet_builtin _ (by decide+kernel),codeAny_builtin F.excBase_ValueError.initEntry ?_⟩
 rw[Around.under_plainId F.excBase_ValueError.init.plain _]
 wp_walk
 refine hq _ h.objs.size (fun b o hb ho=>?_) ?_
 ·rw[Heap.get?_update_other _ _ (Ne.symm hb)]
  exact Heap.get?_push_of_some _ ho
 ·rw[Heap.get?_update_self _ (Heap.get?_push_of_some _ he) rfl]
  rfl
end
structure SupC (P:Program) (K:Frag) (mg:Str→Option Value) (C fI cc cda:Addr) (fld arg:Str) (qual:Str) (ar:Arg):Prop where
 cls:∃nm q N bs bm sn sub ab col dd k0 k1 k2 k3 k5,K.lookup C=some (excClassObj nm q C N bs bm true sn sub ab col dd k0 k1 k2 k3 k5 "ValueError.__new__")∧refsVE bm=true
 sa:findIn K (.ref C) "__setattr__"=some (some (.builtin "object.__setattr__"))
 no:findIn K (.ref C) fld=some none
 sup:ks_superIn K C C "__init__"=some (some (.builtin "ValueError.__init__"))
 ve:subIn K (.ref C) (.type "ValueError")=some true
 me:mroIn K C (.ref C)=some true
 opq:nsIn K cStatics "thirdparty.any"=some none
 cell:∃cl cld csl,K.lookup cc=some ⟨cl,cld,.cell (some (.ref C)),csl⟩
 code:∃ccl cdd vs ccs file tf,K.lookup cda=some ⟨ccl,cdd,.fields vs,ccs⟩∧vs[2]?=some (.str file tf)∧((P.main.file:Str)==file)=true
 top:(P.main.scope.names.lookup ("super":Str)).isSome=false
 gsu:mg "super"=none
variable {C fI cc cda:Addr} {fld arg qual slf:Str}
theorem init_run {P:Program} {w:World} {K:Frag} {mg:Str→Option Value} {base:Heap} {CX:CXT} {k:Nat} {A:Around} {up:List Env} {s:Shared} {H:Hp} {given:Args} {a:Addr} {y:V} {u:Value} {Q:VK} {Ex:XK}
  {oc:Value} {od:Option Addr} {osl:Array (Option Value)} {name:Str} {params:Arguments} {scope:Scope} {dV kV doc pm ct:Value} {an:Option Addr} {p0 p1 p2 p3 p4 p5 p6 p7 p8:Pos} {ar:Arg}
  (T:SupC P K mg C fI cc cda fld arg qual ar) (lk:K.lookup fI=some ⟨oc,od,.func (ksFn name qual params [.Expr (.Call (.Attribute (.Call (.Name "super" p0) [] [] p1) "__init__" p2) [] [] p3) p4,.Assign [.Attribute (.Name slf p5) fld p6] (.Name arg p7) p8] scope dV kV doc pm an (.ref cda) ct cc),osl⟩)
  (hcd:codeIn K (.ref cda) qual=true) (hp:(params.posonlyargs++params.args).head?=some ar) (hslf:ar.arg=slf) (hne:slf≠arg)
  (s1:scope.names.lookup ("super":Str)=some .globalImplicit) (s2:scope.names.lookup ("__class__":Str)=some .free) (s3:scope.names.lookup slf=some .local) (s4:scope.names.lookup arg=some .local) (hcell:∀x∈scope.names,x.2≠.cell) (hk:scope.kind=.function)
  (hco:scope.isCoroutine=false) (hgen:scope.isGenerator=false) (hd5:(slf==("__debug__":Str))=false) (hd7:(arg==("__debug__":Str))=false)
  (hc:∀env:Env,∃pl:Sem Bool,eval (.Call (.Attribute (.Call (.Name "super" p0) [] [] p1) "__init__" p2) [] [] p3) env=(do
    let ov←attributeBase (.Call (.Name "super" p0) [] [] p1) "__init__" env (eval (.Call (.Name "super" p0) [] [] p1) env)
    standAt p2.atName
    let (f,first)←holding [ov] (getMethod ov "__init__" pl)
    callWith p3 f first (backTo p3 (starEach [] env)) []))
  (hr:Room k A) (e0:Env0 P w K mg base A up s H) (hb:BindsTo s (ksFn name qual params [.Expr (.Call (.Attribute (.Call (.Name "super" p0) [] [] p1) "__init__" p2) [] [] p3) p4,.Assign [.Attribute (.Name slf p5) fld p6] (.Name arg p7) p8] scope dV kV doc pm an (.ref cda) ct cc) given [(slf,.ref a),(arg,u)])
  (ry:RelV y u) (ea:H a=some (exo a C none)) (q:∀dx,H dx=none→dx≠a→Q .non (upd (upd H dx (exd dx [(fld,y)])) a (exo a C (some dx)))) :
  codeAny (model P w) A (.call (.ref fI) given) (CR CX up P w H s Q Ex) s:=by
 obtain⟨nm,qn,N,bs,bm,sn,sub,ab,col,dd,k0,k1,k2,k3,k5,hC,hbm⟩:=T.cls
 obtain⟨ccl,cdd,vs,ccs,file,tf,hcc,hvs,hfile⟩:=T.code
 obtain⟨cl,cld,csl,hcl⟩:=T.cell
 have still:K.In s.heap:=e0.mod.kin.keeps fun b o e=>(e0.bs b o e).1
 have nolim:s.heap.NoLimit:=e0.mod.nolimit.keeps fun b o e=>(e0.bs b o e).1
 have gns:s.heap.Ns mainGlobals mg:=e0.mod.glob.keeps fun b o e=>(e0.bs b o e).1
 obtain⟨mb,bl1,bl2⟩:=e0.mod.blt
 have bns:s.heap.Ns builtinsNs mb:=bl1.keeps fun b o e=>(e0.bs b o e).1
 have hcls:clsIn K C=some { name:=nm,bases:=bs,mro:=.ref C::bm,ns:=N,qualname:=qn,hasDict:=true,slotNames:=sn,subclasses:=sub,abstract:=ab,collection:=col,hasDel:=false }:=by unfold clsIn; rw[hC]<;>rfl
 obtain⟨t0,hoa⟩:=exo_at e0.hok ea
 refine ks_codeAny_call_defAt (fd:=ksFn name qual params _ scope dV kV doc pm an (.ref cda) ct cc) hr.depth (still _ _ lk) rfl nolim (codeRec_of still hcd) rfl hb hcell (fun x hx=>?_) (fun h₁ hns hk₁=>?_) hco hgen hk
 ·have hx:x=(slf,.ref a)∨x=(arg,u):=by simpa using hx
  rcases hx with rfl|rfl
  ·exact s3
  ·exact s4
 ·have vself:([(slf,Value.ref a),(arg,u)]:List (Str×Value)).reverse.lookup slf=some (.ref a):=by
   have n:(slf==arg)=false:=by simpa using hne
   simp[List.lookup,n]
  have varg:([(slf,Value.ref a),(arg,u)]:List (Str×Value)).reverse.lookup arg=some u:=by simp[List.lookup]
  have X1:K.In h₁:=still.keeps hk₁
  have hoa1:=hk₁ _ _ hoa
  obtain⟨env,henv⟩:∃env:Env,env=callEnv (ksFn name qual params [.Expr (.Call (.Attribute (.Call (.Name "super" p0) [] [] p1) "__init__" p2) [] [] p3) p4,.Assign [.Attribute (.Name slf p5) fld p6] (.Name arg p7) p8] scope dV kV doc pm an (.ref cda) ct cc) s.heap.objs.size fI:=⟨_,rfl⟩
  obtain⟨pl,hpl⟩:=hc env
  have eL:env.locals=s.heap.objs.size:=by rw[henv]; rfl
  have eS:env.scope=scope:=by rw[henv]; rfl
  have eK:env.scope.kind=.function:=by rw[eS]; exact hk
  have eG:env.globals=mainGlobals:=by rw[henv]; rfl
  have eB:env.builtins=builtinsNs:=by rw[henv]; rfl
  have eC:env.cells.lookup ("__class__":Str)=some cc:=by rw[henv]; rfl
  have ks:env.kindOf "super"=some .globalImplicit:=by rw[henv]; exact s1
  have kc:env.kindOf "__class__"=some .free:=by rw[henv]; exact s2
  have kself:env.kindOf slf=some .local:=by rw[henv]; exact s3
  have karg:env.kindOf arg=some .local:=by rw[henv]; exact s4
  have ei:interactive env=false:=by unfold interactive; simp[eK]
  have ecode:env.code=.ref cda:=by rw[henv]; rfl
  have efn:env.func=some fI:=by rw[henv]; rfl
  rw[←henv]
  have hnsE:h₁.Ns env.locals (fun x=>([(slf,Value.ref a),(arg,u)]:List (Str×Value)).reverse.lookup x):=by rw[eL]; exact hns
  have sw1:swapsWith (.Call (.Attribute (.Call (.Name "super" p0) [] [] p1) "__init__" p2) [] [] p3) none p4.line env=pure false:=by rfl
  refine ks_wpAt_execs_cons (ks_wpAt_Expr_any (ks_wpAt_MethodCall ?_ hpl) ei sw1)
  refine ks_wpAt_super_base (env:=env) ks kc (by decide+kernel) efn (X1 _ _ lk) rfl hp ecode (X1 _ _ hcc) rfl hvs hfile T.top ?_
  refine ks_loadName_global eK ks (loadGlobal_builtin (by rw[eG]; exact gns.keeps hk₁) T.gsu (by rw[eB]; exact bns.keeps hk₁) ((bl2 _ (by decide)).trans (show bootBuiltins "super"=some (.type "super")by rfl)) ⟨rfl,?_⟩)
  refine wpAny_loadName_free eK kc eC ⟨_,X1 _ _ hcl,rfl⟩ ?_
  rw[hslf]
  refine wpAny_loadName_local eK kself hnsE vself ?_
  refine ks_wpAny_isType_cls (X1 _ _ hC) rfl ⟨rfl,?_⟩
  obtain⟨sh,sg,sd,st,so⟩:=s
  have me:Looks (model P w) h₁ (isSubtype (.ref C) (.ref C)) true:=looks_mroIn X1 T.me
  refine ks_wpAny_call_super (X1 _ _ hC) rfl hoa1 rfl (fun c z=>by cases z) me (fun h2 e2 k2=>?_)
  have X2:K.In h2:=X1.keeps k2
  have hoa2:=k2 _ _ hoa1
  have I2:InstAt h2 a { cls:=.ref C,dict:=none,data:=.fields #[.ref t0,.none,.none,.none,.bool false,.none] } C none:=⟨hoa2,rfl,rfl,trivial⟩
  have hm:=T.sup
  unfold ks_superIn at hm
  rw[hcls]at hm
  have hI:Looks (model P w) h2 (isInstance (.ref a) (.type "ValueError")) true:=I2.type.andThen (looks_subIn X2 T.ve)
  have hmr:Looks (model P w) h2 (mroOf (.ref C)) (.ref C::bm):=(looks_clsIn X2 hcls).andThen .now
  refine kxs_getMethod kxs_ValueError e2 (looks_opaque X2 T.opq) hmr rfl X2 hm hI (ks_ne X2 I2 hcls) (by decide+kernel) ?_
  have hoa3:=Heap.get?_push_of_some (kxs_mw "ValueError.__init__" a) hoa2
  have hmw:(h2.push (kxs_mw "ValueError.__init__" a)).get? h2.objs.size=some (kxs_mw "ValueError.__init__" a):=Heap.get?_push_at rfl rfl
  have X3:K.In (h2.push (kxs_mw "ValueError.__init__" a)):=X2.keeps fun b o e=>Heap.get?_push_of_some _ e
  refine kxs_callWith (i:="ValueError.__init__") (x:=a) (by rfl) ?_
  refine PyProof.Rows.evalArgs_nil3 ⟨hmw,?_⟩
  show wpAny _ _ (call (.ref h2.objs.size) []) _ _ _
  refine L9 (X3 _ _ hC) hoa3 hmw (Bg _) (fun h4 t1 k4 he4=>?_)
  have k04:∀b o,b≠a→sh.get? b=some o→h4.get? b=some o:=fun b o hb e=>k4 b o hb (Heap.get?_push_of_some _ (k2 _ _ (hk₁ _ _ e)))
  have nC:∀{b:Addr} {o:Obj},K.lookup b=some o→b≠a:=fun {b o} e z=>by
   subst z
   have z1:=X2 _ _ e
   rw[hoa2]at z1
   cases z1
   have z2:H b=none:=by
    cases hh:base.get? b with
    |none=>
     have:=e0.mod.kin _ _ e
     rw[hh]at this; cases this
    |some o'=>exact(e0.bs _ _ hh).2
   rw[ea]at z2; cases z2
  have X4:K.In h4:=fun b o e=>k4 b o (nC e) (X3 _ _ e)
  have hns4:h4.Ns env.locals (fun x=>([(slf,Value.ref a),(arg,u)]:List (Str×Value)).reverse.lookup x):=by
   obtain⟨oL,es,ep,hL,r⟩:=hnsE
   refine⟨oL,es,ep,k4 _ _ (fun z=>?_) (Heap.get?_push_of_some _ (k2 _ _ hL)),r⟩
   have:=Heap.lt_size hoa
   rw[eL]at z
   rw[←z]at this
   exact absurd this (BF _)
  have sw2:swapsWith (.Name arg p7) (some (.Attribute (.Name slf p5) fld p6)) p8.line env=pure false:=by rfl
  refine ks_wpAt_execs_cons (ks_wpAt_Assign_Attr ?_ sw2)
  refine wpAt_of_wpAny (wpAny_Name (wpAny_loadName_local eK karg hns4 varg ?_) hd7)
  refine wpAny_Name (wpAny_loadName_local eK kself hns4 vself ?_) hd5
  refine PySem.W.set_plain X4 (ox:={ cls:=.ref C,dict:=none,data:=.fields #[.ref t1,.none,.none,.none,.bool false,.none] }) (od:=none) ⟨he4,rfl,rfl,trivial⟩ T.sa ?_
  refine exc_osa X4 he4 hcls (show refsVE (.ref C::bm)=true from hbm) rfl T.no (fun h5 tk5 dx k5 dn dne hx hn=>?_)
  have k05:∀b o,b≠a→sh.get? b=some o→h5.get? b=some o:=fun b o hb e=>k5 b o hb (k04 b o hb e)
  have up4:sh.objs.size≤h4.objs.size:=by
   obtain⟨oL,es,ep,hL,r⟩:=hns4
   rw[eL]at hL
   exact Nat.le_of_lt (Heap.lt_size hL)
  have nd:∀{b:Addr} {o:Obj},sh.get? b=some o→b≠dx:=fun {b o} q=>Be (Bq (Heap.lt_size q) (AU up4 dn))
  have hnd:H dx=none:=e0.hok.fresh (AU up4 dn)
  have na:∀{b:Addr},H b=none→b≠a:=fun {b} n z=>by
   rw[z,ea]at n
   cases n
  have Un1:Un (frs up) [] H (upd (upd H dx (exd dx [(fld,y)])) a (exo a C (some dx))) sh h5:={
   keep:=fun b o q n _ _=>k05 b o (na n) q
   slot:=fun b o q n _ _=>⟨o.slots,k05 b o (na n) q⟩
   free:=fun b o q n _=>by rw[upd_ne (na n),upd_ne (nd q)]; exact n
   there:=fun b o q _=>by
    by_cases hb:b=a
    ·exact⟨_,by rw[hb]; exact hx⟩
    ·exact⟨o,k05 b o hb q⟩
   tups:=fun b xs q=>by rw[upd_ne (at_ne ea q exo_tup),upd_ne (ne_of_none q hnd)]; exact q
   frzs:=fun b o v q=>by rw[upd_ne (at_ne ea q exo_frz),upd_ne (ne_of_none q hnd)]; exact q
   tbls:=fun b ps q=>⟨#[],by rw[upd_ne (at_ne ea q exo_tbl),upd_ne (ne_of_none q hnd),q]; simp⟩ }
  have hok5:HOk P w (upd (upd H dx (exd dx [(fld,y)])) a (exo a C (some dx))) h5:=fun b o q=>by
   by_cases hb:b=a
   ·subst hb
    rw[upd_same]at q
    cases q
    exact exo_ok hx
   ·rw[upd_ne hb]at q
    by_cases hd:b=dx
    ·subst hd
     rw[upd_same]at q
     cases q
     exact exd_ok hn (relO_put (fs:=[]) ry fun g=>True.intro)
    ·rw[upd_ne hd]at q
     exact(e0.hok b o q).stay (fun c v hc z=>k05 c v (by
       rcases hc with hc|hc
       ·rw[hc]
        exact hb
       ·exact at_ne ea hc exo_own) z)
      (fun c hc=>by rw[upd_ne (at_ne ea hc exo_own),upd_ne (ne_of_none hc hnd)]; exact hc) (fun c xs hc=>by rw[upd_ne (at_ne ea hc exo_tup),upd_ne (ne_of_none hc hnd)]; exact hc)
  refine wpAt_of_wpAny (wpAny_execs_nil ?_)
  exact⟨.non,_,rfl,e0.bare,Un1,hok5,rfl,q dx hnd dne⟩
end L2.AL.XI
namespace L2.AL
open PySem PySem.Spec PyProof.Rows
def lamNames:List Str:=[]
structure Bk where
 K:PySem.W.Frag
 mg:Str→Option Value
 w:World
inductive D where
 |non|bl (b:Bool)|int (i:Int)|str (x:Str)
 |tup (xs:List D)|lst (xs:List D)|dct (kvs:List (Key×D))|fn (x:Str)|ty (n:String)|scr (ns:List Int)|cd (kvs:List (Str×D))
 |dd (kvs:List (D×D))|ins (c:Str) (fs:List (Str×D))|raw (u:V)
 |db (ks:List Bool)
 |exc (c:Str) (fs:List (Str×D))
 |wt (xs:List D)
inductive O where
 |lst (xs:List D)|dct (kvs:List (Key×D))|dd (kvs:List (D×D))|ins (c:Str) (fs:List (Str×D))|db (ks:List Bool)
def O.toD:O→D
 | .lst xs=>.lst xs
 | .dct kvs=>.dct kvs
 | .dd kvs=>.dd kvs
 | .db ks=>.db ks
 | .ins c fs=>.ins c fs
mutual
def D.nk?:D→Option NestedKey
 | .non=>some .none
 | .bl b=>some (.num (if b=true then 1 else 0))
 | .int i=>some (.num i)
 | .str x=>some (.text x)
 | .tup xs=>(D.nkL xs).map .tup
 | .lst _=>none
 | .dct _=>none
 | .fn _=>none
 | .ty _=>none
 | .scr _=>none
 | .cd _=>none
 | .dd _=>none
 | .db _=>none
 | .ins _ _=>none
 | .raw _=>none
 | .exc _ _=>none
 | .wt _=>none
def D.nkL:List D→Option (List NestedKey)
 |[]=>some []
 |x::xs=>match D.nk? x,D.nkL xs with
  |some k,some ks=>some (k::ks)
  |_,_=>none
end
def SG (w:World) (a:Addr) (o:Obj) (es:List (NestedKey×Addr×V)):Prop:=(a==sysModules)=false∧es.length≤sizeLine∧(es.map (·.1)).Nodup∧o.ExactDict∧
 ∃arr ep,o.data=.dict arr ep∧Paired (fun(e:NestedKey×Addr×V) (x:DictEntry)=>x.hash=e.1.hash w∧x.key=.ref e.2.1∧RelV e.2.2 x.val) es arr.toList
def dnO (w:World) (a:Addr) (o:Obj) (es:List (NestedKey×Addr×V)):HO:=.ext fun h=>h.get? a=some o∧SG w a o es
def Rv (b:Bool):PySem.Leaf:=.num (if b=true then 1 else 0)
def SF (w:World) (h:Heap) (a:Addr) (vs:List (PySem.Leaf×Value)):Prop:=∃P:Program,h.DictOf (PySem.leafKind P w) a vs
def dbO (w:World) (a:Addr) (ks:List Bool):HO:=.ext fun h=>(a==sysModules)=false∧ks.length≤sizeLine∧∃vs,vs.map (·.1)=ks.map Rv∧SF w h a vs
def Mem:={ f:Addr→Option O //∃n,∀a,n≤a→f a=none }
instance:CoeFun Mem (fun _=>Addr→Option O):=⟨fun τ=>τ.1⟩
theorem Mem.room (τ:Mem):∃a,τ a=none:=let ⟨n,h⟩:=τ.2; ⟨n,h n (Nat.le_refl _)⟩
inductive S where
 |no|d (x:D)|own (o:O)|clo (u:V) (F:Hp)|mem (τ:Mem)
inductive E where
 |d (x:D)|sl (i:Nat)|fr (o:O)|ad (a:Addr)
structure Exc where
 cls:Str
 fs:List (Str×D)
inductive Res (α:Type) where
 |ok (a:α) (ρ:List S)|ex (e:Exc) (ρ:List S)|no|new (τ:Mem) (k:Addr→Res α)
def Res.bind {α β:Type}:Res α→(α→List S→Res β)→Res β
 | .ok a ρ,k=>k a ρ
 | .ex e ρ,_=>.ex e ρ
 | .no,_=>.no
 | .new τ h,k=>.new τ fun a=>(h a).bind k
theorem BZ {α β γ:Type} (r:Res α) (f:α→List S→Res β) (g:β→List S→Res γ):(r.bind f).bind g=r.bind fun a ρ=>(f a ρ).bind g:=by
 induction r with
 |ok a ρ=>rfl
 |ex e ρ=>rfl
 |no=>rfl
 |new τ k ih=>exact congrArg (Res.new τ) (funext ih)
def Res.nn {α:Type}:Res α→Res α
 | .new _ _=>.no
 |r=>r
@[simp] theorem Res.nn_ok {α:Type} (a:α) (ρ:List S):(Res.ok a ρ).nn=.ok a ρ:=rfl
@[simp] theorem Res.nn_ex {α:Type} (e:Exc) (ρ:List S):(Res.ex e ρ:Res α).nn=.ex e ρ:=rfl
@[simp] theorem Res.nn_no {α:Type}:(Res.no:Res α).nn=.no:=rfl
@[simp] theorem Res.nn_new {α:Type} (τ:Mem) (k:Addr→Res α):(Res.new τ k).nn=.no:=rfl
@[simp] theorem Res.bind_new {α β:Type} (τ:Mem) (h:Addr→Res α) (k:α→List S→Res β):(Res.new τ h).bind k=.new τ fun a=>(h a).bind k:=rfl
@[simp] theorem Res.bind_ok {α β:Type} (a:α) (ρ:List S) (k:α→List S→Res β):(Res.ok a ρ).bind k=k a ρ:=rfl
@[simp] theorem Res.bind_ex {α β:Type} (e:Exc) (ρ:List S) (k:α→List S→Res β):(Res.ex e ρ:Res α).bind k=.ex e ρ:=rfl
@[simp] theorem Res.bind_no {α β:Type} (k:α→List S→Res β):(Res.no:Res α).bind k=.no:=rfl
def exK (a C:Addr) (d:Option Addr):HO:=.ext fun h=>∃(oe:Obj) (vs:Array Value),h.get? a=some oe∧oe.cls=.ref C∧oe.dict=d∧oe.data=.fields vs
def sj:List DictEntry→List Str→Prop
 |[],[]=>True
 |e::es,k::ks=>(∃t,e.key=.str k t)∧sj es ks
 |[],_::_=>False
 |_::_,[]=>False
def PlT (K:PySem.W.Frag) (G:Hp) (a:Addr):Prop:=(∃o u,G a=some (.frz o u)∧o.dict=none)∨∃o,K.lookup a=some o∧o.dict=none
section
variable (B:Bk) (G:Hp)
mutual
def Fz:V→D→Prop
 |v,.non=>v=.non
 |v,.bl b=>v=.bl b
 |v,.int i=>v=.int i
 |v,.str x=>v=.str x
 |v,.tup ds=>∃a xs,v=.ref a∧SqT B.K G a xs∧FzL xs ds∧PlT B.K G a
 |v,.lst ds=>∃a xs,v=.ref a∧G a=some (.lst xs)∧FzL xs ds
 |v,.wt ds=>∃a xs,v=.ref a∧SqT B.K G a xs∧FzL xs ds
 |v,.dct ds=>∃a kvs,v=.ref a∧G a=some (.dK kvs)∧FzK kvs ds
 |v,.fn x=>∃a,v=.ref a∧B.mg x=some (.ref a)
 |v,.ty n=>v=.ty n
 |v,.scr ns=>∃a,v=.ref a∧SqL B.K G a (ns.map V.int)
 |v,.cd kvs=>∃a,v=.ref a∧((∃es n,KDict B.K B.w a es n∧sj es.toList (kvs.map (fun p=>p.1))∧(kvs.map (fun p=>p.1)).Nodup∧kvs.length≤1000)∧∀z:Str,kvs.lookup z=none→PySem.W.nsIn B.K a z=some none)∧FzC a kvs
 |v,.dd ds=>∃a ob es,v=.ref a∧G a=some (dnO B.w a ob es)∧FzD es ds
 |v,.db ks=>∃a,v=.ref a∧G a=some (dbO B.w a ks)
 |v,.ins c ds=>∃a C dx fs,v=.ref a∧G a=some (.ins C dx fs)∧G dx=some (.own a)∧B.mg c=some (.ref C)∧FzF fs ds
 |v,.raw u=>v=u
 |v,.exc c ds=>∃a C d,v=.ref a∧G a=some (exK a C d)∧B.mg c=some (.ref C)∧((d=none∧ds=[])∨∃dd fs,d=some dd∧G dd=some (.xd fs)∧FzF fs ds)
def FzL:List V→List D→Prop
 |[],[]=>True
 |v::vs,d::ds=>Fz v d∧FzL vs ds
 |[],_::_=>False
 |_::_,[]=>False
def FzK:List (Key×V)→List (Key×D)→Prop
 |[],[]=>True
 |v::vs,d::ds=>v.1=d.1∧Fz v.2 d.2∧FzK vs ds
 |[],_::_=>False
 |_::_,[]=>False
def FzD:List (NestedKey×Addr×V)→List (D×D)→Prop
 |[],[]=>True
 |v::vs,d::ds=>(d.1.nk?=some v.1∧v.1.depth≤8)∧Fz (.ref v.2.1) d.1∧Fz v.2.2 d.2∧FzD vs ds
 |[],_::_=>False
 |_::_,[]=>False
def FzF:List (Str×V)→List (Str×D)→Prop
 |[],[]=>True
 |v::vs,d::ds=>v.1=d.1∧Fz v.2 d.2∧FzF vs ds
 |[],_::_=>False
 |_::_,[]=>False
def FzC:Addr→List (Str×D)→Prop
 |a,[]=>True
 |a,d::ds=>(∃u v,PySem.W.nsIn B.K a d.1=some (some u)∧RelV v u∧Fz v d.2)∧FzC a ds
end
end
section
variable {B:Bk} {G G':Hp}
theorem Same.rd {a:Addr} {u:HO} (s:Same G G') (h:Rd G a u):Rd G' a u:=by
 rcases h with h|⟨o,h⟩
 ·exact .inl (s _ _ h)
 ·exact .inr ⟨o,s _ _ h⟩
theorem BY {a:Addr} {xs:List V} (e:Same G G') (h:SqT B.K G a xs):SqT B.K G' a xs:=by
 rcases h with h|h
 ·exact .inl (Same.rd e h)
 ·exact .inr h
theorem PlT.mono {K:PySem.W.Frag} {a:Addr} (s:Same G G') (h:PlT K G a):PlT K G' a:=by
 rcases h with⟨o,u,h,d⟩|h
 ·exact .inl ⟨o,u,s _ _ h,d⟩
 ·exact .inr h
mutual
theorem Fz.mono (s:Same G G'):∀(d:D) (v:V),Fz B G v d→Fz B G' v d
 | .non,v,h=>by simpa[Fz]using h
 | .bl b,v,h=>by simpa[Fz]using h
 | .int i,v,h=>by simpa[Fz]using h
 | .str x,v,h=>by simpa[Fz]using h
 | .tup ds,v,h=>by
   rw[Fz]at h
   obtain⟨a,xs,e,hq,hr,hp⟩:=h
   rw[Fz]; exact⟨a,xs,e,BY s hq,FzL.mono s ds xs hr,hp.mono s⟩
 | .wt ds,v,h=>by
   rw[Fz]at h
   obtain⟨a,xs,e,hq,hr⟩:=h
   rw[Fz]; exact⟨a,xs,e,BY s hq,FzL.mono s ds xs hr⟩
 | .lst ds,v,h=>by
   rw[Fz]at h
   obtain⟨a,xs,e,hq,hr⟩:=h
   rw[Fz]; exact⟨a,xs,e,s _ _ hq,FzL.mono s ds xs hr⟩
 | .dct ds,v,h=>by
   rw[Fz]at h
   obtain⟨a,xs,e,hq,hr⟩:=h
   rw[Fz]; exact⟨a,xs,e,s _ _ hq,FzK.mono s ds xs hr⟩
 | .fn x,v,h=>by simpa[Fz]using h
 | .ty n,v,h=>by simpa[Fz]using h
 | .scr ns,v,h=>by
   rw[Fz]at h
   obtain⟨a,e,hq⟩:=h
   rw[Fz]; exact⟨a,e,Same.seq s hq⟩
 | .cd kvs,v,h=>by
   rw[Fz]at h
   obtain⟨a,e,hq,hr⟩:=h
   rw[Fz]; exact⟨a,e,hq,FzC.mono s kvs a hr⟩
 | .dd ds,v,h=>by
   rw[Fz]at h
   obtain⟨a,ob,es,e,hq,hr⟩:=h
   rw[Fz]; exact⟨a,ob,es,e,s _ _ hq,FzD.mono s ds es hr⟩
 | .db ks,v,h=>by
   rw[Fz]at h
   obtain⟨a,e,hq⟩:=h
   rw[Fz]; exact⟨a,e,s _ _ hq⟩
 | .ins c ds,v,h=>by
   rw[Fz]at h
   obtain⟨a,C,dx,fs,e,hq,ho,hc,hr⟩:=h
   rw[Fz]; exact⟨a,C,dx,fs,e,s _ _ hq,s _ _ ho,hc,FzF.mono s ds fs hr⟩
 | .raw u,v,h=>by simpa[Fz]using h
 | .exc c ds,v,h=>by
   rw[Fz]at h
   obtain⟨a,C,d,e,hq,hc,hr⟩:=h
   rw[Fz]
   refine⟨a,C,d,e,s _ _ hq,hc,?_⟩
   rcases hr with hr|⟨dd,fs,h1,h2,h3⟩
   ·exact .inl hr
   ·exact .inr ⟨dd,fs,h1,s _ _ h2,FzF.mono s ds fs h3⟩
theorem FzL.mono (s:Same G G'):∀(ds:List D) (vs:List V),FzL B G vs ds→FzL B G' vs ds
 |[],[],h=>by rw[FzL]; trivial
 |[],_::_,h=>by rw[FzL]at h; exact h.elim
 |_::_,[],h=>by rw[FzL]at h; exact h.elim
 |d::ds,v::vs,h=>by
  rw[FzL]at h⊢
  exact⟨Fz.mono s d v h.1,FzL.mono s ds vs h.2⟩
theorem FzK.mono (s:Same G G'):∀(ds:List (Key×D)) (vs:List (Key×V)),FzK B G vs ds→FzK B G' vs ds
 |[],[],h=>by rw[FzK]; trivial
 |[],_::_,h=>by rw[FzK]at h; exact h.elim
 |_::_,[],h=>by rw[FzK]at h; exact h.elim
 |d::ds,v::vs,h=>by
  rw[FzK]at h⊢
  exact⟨h.1,Fz.mono s d.2 v.2 h.2.1,FzK.mono s ds vs h.2.2⟩
theorem FzD.mono (s:Same G G'):∀(ds:List (D×D)) (vs:List (NestedKey×Addr×V)),FzD B G vs ds→FzD B G' vs ds
 |[],[],h=>by rw[FzD]; trivial
 |[],_::_,h=>by rw[FzD]at h; exact h.elim
 |_::_,[],h=>by rw[FzD]at h; exact h.elim
 |d::ds,v::vs,h=>by
  rw[FzD]at h⊢
  exact⟨h.1,Fz.mono s d.1 _ h.2.1,Fz.mono s d.2 _ h.2.2.1,FzD.mono s ds vs h.2.2.2⟩
theorem FzF.mono (s:Same G G'):∀(ds:List (Str×D)) (vs:List (Str×V)),FzF B G vs ds→FzF B G' vs ds
 |[],[],h=>by rw[FzF]; trivial
 |[],_::_,h=>by rw[FzF]at h; exact h.elim
 |_::_,[],h=>by rw[FzF]at h; exact h.elim
 |d::ds,v::vs,h=>by
  rw[FzF]at h⊢
  exact⟨h.1,Fz.mono s d.2 _ h.2.1,FzF.mono s ds vs h.2.2⟩
theorem FzC.mono (s:Same G G'):∀(ds:List (Str×D)) (a:Addr),FzC B G a ds→FzC B G' a ds
 |[],a,h=>by rw[FzC]; trivial
 |d::ds,a,h=>by
  rw[FzC]at h⊢
  obtain⟨⟨u,v,h1,h2,h3⟩,h4⟩:=h
  exact⟨⟨u,v,h1,h2,Fz.mono s d.2 v h3⟩,FzC.mono s ds a h4⟩
end
theorem FzL.length:∀{ds:List D} {vs:List V},FzL B G vs ds→vs.length=ds.length
 |[],[],_=>rfl
 |[],_::_,h=>by rw[FzL]at h; exact h.elim
 |_::_,[],h=>by rw[FzL]at h; exact h.elim
 |_::ds,_::vs,h=>by rw[FzL]at h; rw[List.length_cons,List.length_cons,FzL.length h.2]
theorem FzL.get:∀{ds:List D} {vs:List V} {i:Nat} {d:D},FzL B G vs ds→ds[i]?=some d→∃v,vs[i]?=some v∧Fz B G v d
 |[],_,_,_,_,e=>by simp at e
 |_::_,[],_,_,h,_=>by rw[FzL]at h; exact h.elim
 |_::ds,v::vs,0,_,h,e=>by
  rw[FzL]at h; simp at e; subst e; exact⟨v,rfl,h.1⟩
 |_::ds,v::vs,i+1,_,h,e=>by
  rw[FzL]at h
  obtain⟨u,e1,h1⟩:=FzL.get (i:=i) h.2 (by simpa using e)
  exact⟨u,by simpa using e1,h1⟩
theorem FzL.get':∀{ds:List D} {vs:List V} {i:Nat} {v:V},FzL B G vs ds→vs[i]?=some v→∃d,ds[i]?=some d∧Fz B G v d
 |_,[],_,_,_,e=>by simp at e
 |[],_::_,_,_,h,_=>by rw[FzL]at h; exact h.elim
 |d::ds,_::vs,0,_,h,e=>by
  rw[FzL]at h; simp at e; subst e; exact⟨d,rfl,h.1⟩
 |_::ds,v::vs,i+1,_,h,e=>by
  rw[FzL]at h
  obtain⟨u,e1,h1⟩:=FzL.get' (i:=i) h.2 (by simpa using e)
  exact⟨u,by simpa using e1,h1⟩
theorem FzL.append:∀{ds es:List D} {vs us:List V},FzL B G vs ds→FzL B G us es→FzL B G (vs++us) (ds++es)
 |[],_,[],_,_,h=>h
 |[],_,_::_,_,h,_=>by rw[FzL]at h; exact h.elim
 |_::_,_,[],_,h,_=>by rw[FzL]at h; exact h.elim
 |_::ds,_,_::vs,_,h,h'=>by
  rw[FzL]at h
  show FzL B G (_::(vs++_)) (_::(ds++_))
  rw[FzL]
  exact⟨h.1,FzL.append h.2 h'⟩
theorem FzL.nil:FzL B G [] []:=by rw[FzL]; trivial
theorem FzL.cons {v:V} {d:D} {vs:List V} {ds:List D} (h:Fz B G v d) (h':FzL B G vs ds):FzL B G (v::vs) (d::ds):=by
 rw[FzL]; exact⟨h,h'⟩
theorem FzL.one {v:V} {d:D} (h:Fz B G v d):FzL B G [v] [d]:=.cons h .nil
theorem FzL.drop:∀(n:Nat) {ds:List D} {vs:List V},FzL B G vs ds→FzL B G (vs.drop n) (ds.drop n)
 |0,_,_,h=>h
 |_+1,[],[],_=>.nil
 |_+1,[],_::_,h=>by rw[FzL]at h; exact h.elim
 |_+1,_::_,[],h=>by rw[FzL]at h; exact h.elim
 |n+1,_::ds,_::vs,h=>by rw[FzL]at h; exact FzL.drop n h.2
theorem FzL.take:∀(n:Nat) {ds:List D} {vs:List V},FzL B G vs ds→FzL B G (vs.take n) (ds.take n)
 |0,_,_,_=>.nil
 |_+1,[],[],_=>.nil
 |_+1,[],_::_,h=>by rw[FzL]at h; exact h.elim
 |_+1,_::_,[],h=>by rw[FzL]at h; exact h.elim
 |n+1,_::ds,_::vs,h=>by rw[FzL]at h; exact .cons h.1 (FzL.take n h.2)
theorem FzL.set {v:V} {d:D} (r:Fz B G v d):∀{ds:List D} {vs:List V} (i:Nat),FzL B G vs ds→FzL B G (vs.set i v) (ds.set i d)
 |[],[],_,_=>.nil
 |[],_::_,_,h=>by rw[FzL]at h; exact h.elim
 |_::_,[],_,h=>by rw[FzL]at h; exact h.elim
 |_::ds,_::vs,0,h=>by rw[FzL]at h; exact .cons r h.2
 |_::ds,_::vs,i+1,h=>by rw[FzL]at h; exact .cons h.1 (FzL.set r i h.2)
end
section
variable (B:Bk)
def RO (G:Hp) (a:Addr) (ho:HO):O→Prop
 | .lst ds=>∃xs,ho=.lst xs∧FzL B G xs ds
 | .dct ds=>∃kvs,ho=.dK kvs∧FzK B G kvs ds
 | .dd ds=>∃ob es,ho=dnO B.w a ob es∧FzD B G es ds
 | .db ks=>ho=dbO B.w a ks
 | .ins c ds=>∃C dx fs,ho=.ins C dx fs∧G dx=some (.own a)∧B.mg c=some (.ref C)∧FzF B G fs ds
def SlotOk (G H:Hp) (v:Option V):S→Prop
 | .no=>True
 | .clo u F=>v=some u∧Same F G
 | .d x=>∃u,v=some u∧Fz B G u x
 | .own o=>∃a ho,v=some (.ref a)∧H a=some ho∧G a=none∧RO B G a ho o
 | .mem τ=>v=some .non∧∀a o,τ a=some o→∃ho,H a=some ho∧G a=none∧RO B G a ho o
def S.has (v:Option V) (a:Addr):S→Prop
 | .own _=>v=some (.ref a)
 | .mem τ=>∃o,τ a=some o
 |_=>False
def Own (σ:St) (ρ:List S) (i:Nat) (a:Addr):Prop:=∃v s,σ[i]?=some v∧ρ[i]?=some s∧s.has v a
theorem Own.of {σ:St} {ρ:List S} {i:Nat} {a:Addr} {o:O} (h:σ[i]?=some (some (.ref a))) (h':ρ[i]?=some (.own o)):Own σ ρ i a:=⟨_,_,h,h',rfl⟩
theorem Own.off {σ:St} {ρ:List S} {i:Nat} {a:Addr} {s:S} (w:Own σ ρ i a) (h:ρ[i]?=some s) (n:∀v,¬s.has v a):False:=by
 obtain⟨v,t,h1,h2,h3⟩:=w
 rw[h]at h2; cases h2
 exact n v h3
theorem Own.eq {σ σ':St} {ρ ρ':List S} {i k:Nat} {a:Addr} (w:Own σ ρ i a) (h:σ'[k]?=σ[i]?) (h':ρ'[k]?=ρ[i]?):Own σ' ρ' k a:=by
 obtain⟨v,t,h1,h2,h3⟩:=w
 exact⟨v,t,h.trans h1,h'.trans h2,h3⟩
theorem Own.at' {σ:St} {ρ:List S} {i:Nat} {a b:Addr} {o:O} (w:Own σ ρ i a) (h:ρ[i]?=some (.own o)) (h':σ[i]?=some (some (.ref b))):a=b:=by
 obtain⟨v,t,h1,h2,h3⟩:=w
 rw[h]at h2; cases h2
 rw[h']at h1; cases h1
 have h3:some (V.ref b)=some (V.ref a):=h3
 cases h3; rfl
theorem vj {v:Option V} {a:Addr} {x:D}:¬S.has v a (.d x):=fun z=>z
theorem nh {v:Option V} {a:Addr}:¬S.has v a .no:=fun z=>z
def Ye (K:PySem.W.Frag):List (Addr×Str):=lamNames.filterMap fun x=>(PySem.W.tabIn K x).map fun c=>(c.2,x++".<locals>."++"<lambda>")
def NT (o:HO):Prop:=∀ps,o≠.tbl ps
theorem gy {xs:List V}:NT (.lst xs):=fun _ e=>by cases e
theorem gu {xs:List (Key×V)}:NT (.dK xs):=fun _ e=>by cases e
def SJ (G H:Hp) (P:Addr) (q:Str):Prop:=∃ps:Array Value,H P=some (.tbl ps)∧TriplesOk ps.toList∧∀(pos:Pos) (cv:Value),codeAmong pos ps.toList=some cv→∃c,cv=.ref c∧G c=some (LamX.CodeO c q)
def TabsG (G H:Hp):Prop:=∀p∈Ye B.K,SJ G H p.1 p.2∧G p.1=none
structure Rel (G:Hp) (σ:St) (ρ:List S) (H:Hp):Prop where
 sub:Same G H
 len:σ.length=ρ.length
 slot:∀(i:Nat) (s:S),ρ[i]?=some s→∃v,σ[i]?=some v∧SlotOk B G H v s
 sep:∀i j a,Own σ ρ i a→Own σ ρ j a→i=j
 tab:TabsG B G H
structure Post (σ:St) (ρ:List S) (H G:Hp) (σ':St) (ρ':List S) (H' G':Hp):Prop where
 grow:Same G G'
 dom:∀b,H' b=none→H b=none
 frame:∀b o,H b=some o→NT o→(∀i,¬Own σ ρ i b)→H' b=some o
 keep:∀b o,H b=some o→NT o→G b=none→(∀i,¬Own σ ρ i b)→G' b=none
 rel:Rel B G' σ' ρ' H'
 own:∀i a,Own σ' ρ' i a→Own σ ρ i a∨H a=none
def RE (G:Hp) (σ:St) (ρ:List S) (H:Hp) (u:V):E→Prop
 | .d x=>Fz B G u x
 | .sl i=>σ[i]?=some (some u)
 | .fr o=>∃a ho,u=.ref a∧H a=some ho∧G a=none∧RO B G a ho o∧∀i,¬Own σ ρ i a
 | .ad a=>u=.ref a
def XF (H:Hp) (u:V):E→Prop
 | .fr _=>∀a,u=.ref a→H a=none
 |_=>True
def RX (H0 G H:Hp) (cls:Value) (d:Option Addr) (e:Exc):Prop:=∃a,B.mg e.cls=some (.ref a)∧cls=.ref a∧
 ((d=none∧e.fs=[])∨∃dd fs,d=some dd∧H0 dd=none∧H dd=some (.xd fs)∧FzF B G fs e.fs)
theorem RX.dom {H0 H1 G H:Hp} {cls:Value} {d:Option Addr} {e:Exc} (p:∀b,H1 b=none→H0 b=none) (h:RX B H1 G H cls d e):RX B H0 G H cls d e:=by
 obtain⟨a,h1,h2,h3⟩:=h
 refine⟨a,h1,h2,?_⟩
 rcases h3 with h3|⟨dd,fs,k1,k2,k3⟩
 ·exact .inl h3
 ·exact .inr ⟨dd,fs,k1,p _ k2,k3⟩
abbrev WX':=Value→Option Addr→St→Hp→Prop
end
section
variable {B:Bk} {G G' G1 G2 G3 H H' H1 H2 H3:Hp} {σ σ' σ1 σ2 σ3:St} {ρ ρ' ρ1 ρ2 ρ3:List S}
theorem RO.mono {a:Addr} {ho:HO} {o:O} (s:Same G G') (h:RO B G a ho o):RO B G' a ho o:=by
 cases o with
 |lst ds=>obtain⟨xs,e,r⟩:=h; exact⟨xs,e,FzL.mono s _ _ r⟩
 |dct ds=>obtain⟨xs,e,r⟩:=h; exact⟨xs,e,FzK.mono s _ _ r⟩
 |dd ds=>obtain⟨ob,xs,e,r⟩:=h; exact⟨ob,xs,e,FzD.mono s _ _ r⟩
 |db ks=>exact h
 |ins c ds=>obtain⟨C,dx,fs,e,r1,r2,r⟩:=h; exact⟨C,dx,fs,e,s _ _ r1,r2,FzF.mono s _ _ r⟩
theorem RO.fz {ho:HO} {o:O} {a:Addr} (h:RO B G a ho o) (e:G a=some ho):Fz B G (.ref a) o.toD:=by
 cases o with
 |lst ds=>
  obtain⟨xs,rfl,r⟩:=h
  show Fz B G _ (.lst ds)
  rw[Fz]; exact⟨a,xs,rfl,e,r⟩
 |dct ds=>
  obtain⟨xs,rfl,r⟩:=h
  show Fz B G _ (.dct ds)
  rw[Fz]; exact⟨a,xs,rfl,e,r⟩
 |dd ds=>
  obtain⟨ob,xs,rfl,r⟩:=h
  show Fz B G _ (.dd ds)
  rw[Fz]; exact⟨a,ob,xs,rfl,e,r⟩
 |db ks=>
  have h:ho=dbO B.w a ks:=h
  subst h
  show Fz B G _ (.db ks)
  rw[Fz]; exact⟨a,rfl,e⟩
 |ins c ds=>
  obtain⟨C,dx,fs,rfl,r1,r2,r⟩:=h
  show Fz B G _ (.ins c ds)
  rw[Fz]; exact⟨a,C,dx,fs,rfl,e,r1,r2,r⟩
theorem RO.nt {a:Addr} {ho:HO} {o:O} (h:RO B G a ho o):NT ho:=fun ps e=>by
 cases o with
 |lst ds=>obtain⟨xs,e',_⟩:=h; rw[e]at e'; cases e'
 |dct ds=>obtain⟨xs,e',_⟩:=h; rw[e]at e'; cases e'
 |dd ds=>obtain⟨ob,xs,e',_⟩:=h; rw[e]at e'; unfold dnO at e'; cases e'
 |db ks=>have h:ho=dbO B.w a ks:=h; rw[e]at h; unfold dbO at h; cases h
 |ins c ds=>obtain⟨C,dx,fs,e',_⟩:=h; rw[e]at e'; cases e'
theorem SlotOk.step {v:Option V} {s:S} (h:SlotOk B G H v s) (sg:Same G G') (k:∀a ho,s.has v a→H a=some ho→NT ho→G a=none→H' a=some ho∧G' a=none):SlotOk B G' H' v s:=by
 cases s with
 |no=>trivial
 |clo u F=>exact⟨h.1,h.2.trans sg⟩
 |d x=>obtain⟨u,q1,q2⟩:=h; exact⟨u,q1,Fz.mono sg _ _ q2⟩
 |own o=>
  obtain⟨a,ho,q1,q2,q3,q4⟩:=h
  obtain⟨k1,k2⟩:=k a ho q1 q2 q4.nt q3
  exact⟨a,ho,q1,k1,k2,q4.mono sg⟩
 |mem τ=>
  refine⟨h.1,fun a o e=>?_⟩
  obtain⟨ho,q2,q3,q4⟩:=h.2 a o e
  obtain⟨k1,k2⟩:=k a ho ⟨o,e⟩ q2 q4.nt q3
  exact⟨ho,k1,k2,q4.mono sg⟩
theorem SlotOk.obj {v:Option V} {s:S} {a:Addr} (h:SlotOk B G H v s) (w:s.has v a):∃ho,H a=some ho∧G a=none∧NT ho:=by
 cases s with
 |no=>exact w.elim
 |clo u F=>exact w.elim
 |d x=>exact w.elim
 |own o=>
  obtain⟨b,ho,q1,q2,q3,q4⟩:=h
  have w:v=some (.ref a):=w
  rw[w]at q1; cases q1
  exact⟨ho,q2,q3,q4.nt⟩
 |mem τ=>
  obtain⟨o,e⟩:=w
  obtain⟨ho,q2,q3,q4⟩:=h.2 a o e
  exact⟨ho,q2,q3,q4.nt⟩
theorem Rel.obj {i:Nat} {a:Addr} (r:Rel B G σ ρ H) (w:Own σ ρ i a):∃ho,H a=some ho∧G a=none∧NT ho:=by
 obtain⟨v,s,h1,h2,h3⟩:=w
 obtain⟨v',e1,e2⟩:=r.slot i s h2
 rw[h1]at e1; cases e1
 exact e2.obj h3
theorem TabsG.mono (t:TabsG B G H) (sg:Same G G') (sh:∀b ps,H b=some (.tbl ps)→H' b=some (.tbl ps)) (k:∀b ps,H b=some (.tbl ps)→G b=none→G' b=none):TabsG B G' H':=fun p hp=>by
 obtain⟨⟨ps,h1,h2,h3⟩,h4⟩:=t p hp
 exact⟨⟨ps,sh _ _ h1,h2,fun pos cv e=>let ⟨c,e1,e2⟩:=h3 pos cv e; ⟨c,e1,sg _ _ e2⟩⟩,k _ _ h1 h4⟩
theorem TabsG.same (t:TabsG B G H) (sh:∀b ps,H b=some (.tbl ps)→H' b=some (.tbl ps)):TabsG B G H':=t.mono (.refl _) sh fun _ _ _ h=>h
theorem Post.refl (r:Rel B G σ ρ H):Post B σ ρ H G σ ρ H G:=
 ⟨.refl _,fun _ h=>h,fun _ _ h _ _=>h,fun _ _ _ _ h _=>h,r,fun _ _ h=>.inl h⟩
theorem Post.notown (p:Post B σ1 ρ1 H1 G1 σ2 ρ2 H2 G2) {b:Addr} {o:HO} (h:H1 b=some o) (n:∀i,¬Own σ1 ρ1 i b):∀i,¬Own σ2 ρ2 i b:=fun i w=>by
 rcases p.own i b w with z|z
 ·exact n i z
 ·rw[h]at z; cases z
theorem Post.trans (p:Post B σ1 ρ1 H1 G1 σ2 ρ2 H2 G2) (q:Post B σ2 ρ2 H2 G2 σ3 ρ3 H3 G3):Post B σ1 ρ1 H1 G1 σ3 ρ3 H3 G3 where
 grow:=p.grow.trans q.grow
 dom:=fun b h=>p.dom b (q.dom b h)
 frame:=fun b o h t n=>q.frame b o (p.frame b o h t n) t (p.notown h n)
 keep:=fun b o h t g n=>q.keep b o (p.frame b o h t n) t (p.keep b o h t g n) (p.notown h n)
 rel:=q.rel
 own:=fun i a w=>by
  rcases q.own i a w with z|z
  ·exact p.own i a z
  ·exact .inr (p.dom a z)
theorem RE.step {u:V} {v:E} (h:RE B G σ ρ H u v) (p:Post B σ ρ H G σ ρ' H' G'):RE B G' σ ρ' H' u v:=by
 cases v with
 |d x=>exact Fz.mono p.grow _ _ h
 |sl i=>exact h
 |ad a=>exact h
 |fr o=>
  obtain⟨a,ho,e,e1,e2,r,n⟩:=h
  exact⟨a,ho,e,p.frame a ho e1 r.nt n,p.keep a ho e1 r.nt e2 n,r.mono p.grow,p.notown e1 n⟩
def qm:List S→Option Mem
 |[]=>none
 |[s]=>match s with
  | .mem τ=>some τ
  |_=>none
 |_::s::ρ=>qm (s::ρ)
def JW (ρ:List S) (a:Addr):Option O:=match qm ρ with
 |some τ=>τ a
 |none=>none
theorem d_:∀{ρ:List S} {τ:Mem},qm ρ=some τ→∃i:Nat,ρ[i]?=some (S.mem τ)
 |[],τ,h=>by cases h
 |[s],τ,h=>by
  unfold qm at h
  split at h
  ·cases h; exact⟨0,rfl⟩
  ·cases h
 |_::s::ρ,τ,h=>by
  obtain⟨i,hi⟩:=d_ (ρ:=s::ρ) h
  exact⟨i+1,hi⟩
def E.val (ρ:List S):E→Option D
 | .d x=>some x
 | .ad a=>match JW ρ a with
   |some o=>some o.toD
   |none=>none
 | .sl i=>match ρ[i]? with
   |some (.d x)=>some x
   |some (.own o)=>some o.toD
   |_=>none
 | .fr o=>some o.toD
theorem gf {ρ:List S} {a:Addr} {o:O} (h:JW ρ a=some o):∃τ,qm ρ=some τ∧τ a=some o:=by
 unfold JW at h
 split at h
 ·rename_i τ hτ; exact⟨τ,hτ,h⟩
 ·cases h
theorem oT {ρ:List S} {a:Addr} {o:O} (h:JW ρ a=some o) (r:Rel B G σ ρ H):∃ho,H a=some ho∧G a=none∧RO B G a ho o:=by
 obtain⟨τ,h1,h2⟩:=gf h
 obtain⟨i,hi⟩:=d_ h1
 obtain⟨v,_,_,h3⟩:=r.slot i _ hi
 exact h3 a o h2
def zq (i:Nat) (ρ:List S):Option (D×List S):=
 match ρ[i]? with
 |some (.d x)=>some (x,ρ)
 |some (.own o)=>some (o.toD,ρ.set i (.d o.toD))
 |_=>none
def keep1:E→List S→Option (D×List S)
 | .d x,ρ=>some (x,ρ)
 | .ad a,ρ=>some (.raw (.ref a),ρ)
 | .sl i,ρ=>zq i ρ
 | .fr o,ρ=>some (o.toD,ρ)
def keepL:List E→List S→Option (List D×List S)
 |[],ρ=>some ([],ρ)
 |v::vs,ρ=>match keep1 v ρ with
  |none=>none
  |some (x,ρ1)=>match keepL vs ρ1 with
   |none=>none
   |some (xs,ρ2)=>some (x::xs,ρ2)
theorem qe {G:Hp} {a:Addr} {o:HO} (h:G a=none):Same G (upd G a o):=fun b u e=>by rw[upd_ne (ne_of_none e h)]; exact e
theorem Vx {i:Nat} {x:D} {u:V} (r:Rel B G σ ρ H) (h:σ[i]?=some (some u)) (e:zq i ρ=some (x,ρ')) :
  ∃G',Post B σ ρ H G σ ρ' H G'∧Fz B G' u x∧(∀b,(∀i,¬Own σ ρ i b)→G b=none→G' b=none):=by
 unfold zq at e
 split at e
 ·rename_i y hy
  cases e
  obtain⟨v,h1,w,h2,h3⟩:=r.slot i _ hy
  rw[h]at h1; cases h1; cases h2
  exact⟨G,.refl r,h3,fun _ _ h=>h⟩
 ·rename_i o ho
  cases e
  obtain⟨v,h1,a,ob,h2,h3,h4,h5⟩:=r.slot i _ ho
  rw[h]at h1; cases h1; cases h2
  have sg:Same G (upd G a ob):=qe h4
  have ow:Own σ ρ i a:=.of h ho
  have hi:i<ρ.length:=by
   have:=(AQ.mp ho).1
   exact this
  have oo:∀j b,Own σ (ρ.set i (.d o.toD)) j b→Own σ ρ j b∧j≠i:=fun j b w=>by
   by_cases hj:i=j
   ·subst hj
    exact(w.off (A0 hi) fun _=>vj).elim
   ·exact⟨w.eq rfl (AZ hj).symm,fun z=>hj z.symm⟩
  refine⟨upd G a ob,⟨sg,fun _ h=>h,fun _ _ h _ _=>h,fun b q hb _ hg n=>?_,⟨fun b q hb=>?_,by rw[List.length_set]; exact r.len,fun j s hs=>?_,fun j k b w1 w2=>r.sep j k b (oo j b w1).1 (oo k b w2).1,r.tab.mono sg (fun _ _ h=>h) fun b ps hb hg=>by rw[upd_ne (fun z=>by rw[z,h3]at hb; exact h5.nt _ (Option.some.inj hb))]; exact hg⟩,fun j b w=>.inl (oo j b w).1⟩,(h5.mono sg).fz upd_same,fun b n hg=>?_⟩
  ·rw[upd_ne (fun z=>n i (by rw[z]; exact ow))]; exact hg
  ·by_cases hb':b=a
   ·subst hb'; rw[upd_same]at hb; cases hb; exact h3
   ·rw[upd_ne hb']at hb; exact r.sub b q hb
  ·by_cases hj:i=j
   ·subst hj
    rw[A0 hi]at hs
    cases hs
    exact⟨_,h,_,rfl,(h5.mono sg).fz upd_same⟩
   ·rw[AZ hj]at hs
    obtain⟨v,e1,e2⟩:=r.slot j s hs
    refine⟨v,e1,e2.step sg fun b hb w q1 _ q2=>⟨q1,?_⟩⟩
    rw[upd_ne]
    ·exact q2
    ·intro z
     subst z
     exact hj (r.sep i j b ow ⟨v,s,e1,hs,w⟩)
  ·rw[upd_ne (fun z=>n i (by rw[z]; exact ow))]; exact hg
 ·cases e
structure Pend (B:Bk) (σ:St) (ρ0:List S) (H0 G0:Hp) (ρ:List S) (H G:Hp) (us:List V) (vs:List E):Prop where
 post:Post B σ ρ0 H0 G0 σ ρ H G
 len:us.length=vs.length
 re:∀(i:Nat) (v:E),vs[i]?=some v→∃u,us[i]?=some u∧RE B G σ ρ H u v
 new:∀(i:Nat) (o:O) (a:Addr),vs[i]?=some (.fr o)→us[i]?=some (.ref a)→H0 a=none
 apart:∀(i j:Nat) (o o':O) (a:Addr),vs[i]?=some (.fr o)→vs[j]?=some (.fr o')→us[i]?=some (.ref a)→us[j]?=some (.ref a)→i=j
theorem Pend.nil (r:Rel B G σ ρ H):Pend B σ ρ H G ρ H G [] []:=
 ⟨.refl r,rfl,fun i v e=>by simp at e,fun i o a e=>by simp at e,fun i j o o' a e=>by simp at e⟩
theorem getElem?_snoc {α:Type} {l:List α} {x y:α} {i:Nat} (h:(l++[x])[i]?=some y):l[i]?=some y∨(i=l.length∧y=x):=by
 by_cases hi:i<l.length
 ·rw[AT hi]at h; exact .inl h
 ·have hl:i<(l++[x]).length:=(AQ.mp h).1
  rw[AS,Bf]at hl
  have e:i=l.length:=by omega
  subst e
  rw[AV (Nat.le_refl _)]at h
  simp at h
  exact .inr ⟨rfl,h.symm⟩
theorem getElem?_snoc_of {α:Type} {l:List α} {x y:α} {i:Nat} (h:l[i]?=some y):(l++[x])[i]?=some y:=by
 rw[AT (AQ.mp h).1]; exact h
theorem getElem?_snoc_last {α:Type} {l:List α} {x:α}:(l++[x])[l.length]?=some x:=by
 rw[AV (Nat.le_refl _)]; simp
theorem Pend.snoc {ρ0:List S} {H0 G0:Hp} {us:List V} {vs:List E} {u:V} {v:E} (p:Pend B σ ρ0 H0 G0 ρ H G us vs) (q:Post B σ ρ H G σ ρ' H' G') (re:RE B G' σ ρ' H' u v) (fr:XF H u v) :
  Pend B σ ρ0 H0 G0 ρ' H' G' (us++[u]) (vs++[v]) where
 post:=p.post.trans q
 len:=by simp[p.len]
 re:=fun i w e=>by
   rcases getElem?_snoc e with e|⟨rfl,rfl⟩
   ·obtain⟨x,e1,e2⟩:=p.re i w e
    exact⟨x,getElem?_snoc_of e1,e2.step q⟩
   ·exact⟨u,by rw[←p.len]; exact getElem?_snoc_last,re⟩
 new:=fun i o a e e'=>by
  rcases getElem?_snoc e with e|⟨rfl,rfl⟩
  ·obtain⟨x,e1,e2⟩:=p.re i _ e
   rw[getElem?_snoc_of e1]at e'
   cases e'
   exact p.new i o a e e1
  ·rw[←p.len,getElem?_snoc_last]at e'
   cases e'
   exact p.post.dom a (fr a rfl)
 apart:=fun i j o o' a e e' w w'=>by
  have old:∀{k:Nat} {q:O},vs[k]?=some (.fr q)→(us++[u])[k]?=some (.ref a)→us[k]?=some (.ref a)∧∃ho,H a=some ho:=fun {k q} e1 e2=>by
   obtain⟨x,e3,e4⟩:=p.re k _ e1
   rw[getElem?_snoc_of e3]at e2
   cases e2
   obtain⟨b,ho,e5,e6,_⟩:=e4
   cases e5
   exact⟨e3,ho,e6⟩
  rcases getElem?_snoc e with e1|⟨i1,v1⟩
  ·rcases getElem?_snoc e' with e2|⟨i2,v2⟩
   ·exact p.apart i j o o' a e1 e2 (old e1 w).1 (old e2 w').1
   ·obtain⟨_,ho,h⟩:=old e1 w
    rw[i2,←p.len,getElem?_snoc_last]at w'
    cases w'
    subst v2
    rw[fr a rfl]at h; cases h
  ·rcases getElem?_snoc e' with e2|⟨i2,v2⟩
   ·obtain⟨_,ho,h⟩:=old e2 w'
    rw[i1,←p.len,getElem?_snoc_last]at w
    cases w
    subst v1
    rw[fr a rfl]at h; cases h
   ·rw[i1,i2]
theorem Pend.one {u:V} {v:E} (q:Post B σ ρ H G σ ρ' H' G') (r:Rel B G σ ρ H) (re:RE B G' σ ρ' H' u v) (fr:XF H u v):Pend B σ ρ H G ρ' H' G' [u] [v]:=
 (Pend.nil r).snoc q re fr
end
section
variable (B:Bk) (W:WX')
section
variable (σ:St) (ρ:List S) (H G:Hp)
def Out (e:Exc) (ρ':List S):Prop:=∀cls d H' G',Post B σ ρ H G σ ρ' H' G'→RX B H G' H' cls d e→W cls d σ H'
def Aft (Q:VK):Res E→Prop
 | .ok v ρ'=>∀u H' G',Post B σ ρ H G σ ρ' H' G'→RE B G' σ ρ' H' u v→XF H u v→Q u H'
 | .ex e ρ'=>Out B W σ ρ H G e ρ'
 | .no=>False
 | .new τ k=>∀a,τ a=none→Aft Q (k a)
def AftT (Q:Bool→Hp→Prop):Res Bool→Prop
 | .ok b ρ'=>∀H' G',Post B σ ρ H G σ ρ' H' G'→Q b H'
 | .ex e ρ'=>Out B W σ ρ H G e ρ'
 | .no=>False
 | .new τ k=>∀a,τ a=none→AftT Q (k a)
def AftA (Q:List V→Hp→Prop):Res (List E)→Prop
 | .ok vs ρ'=>∀us H' G',Pend B σ ρ H G ρ' H' G' us vs→Q us H'
 | .ex e ρ'=>Out B W σ ρ H G e ρ'
 | .no=>False
 | .new τ k=>∀a,τ a=none→AftA Q (k a)
structure Cl {β:Type} (Φ:Res β→Prop):Prop where
 ex:∀e ρ',Φ (.ex e ρ')→Out B W σ ρ H G e ρ'
 no:¬Φ .no
 new:∀τ k,Φ (.new τ k)→∀a,τ a=none→Φ (k a)
end
abbrev AK:=List S→Res E
def jb (f:AK):TE:=fun σ H Q=>∃G ρ,Rel B G σ ρ H∧Aft B W σ ρ H G Q (f ρ)
def Xn (f:List S→Res Bool):TT:=fun σ H Q=>∃G ρ,Rel B G σ ρ H∧AftT B W σ ρ H G Q (f ρ)
def w7 (f:List S→Res (List E)):TA:=fun σ H Q=>∃G ρ,Rel B G σ ρ H∧AftA B W σ ρ H G Q (f ρ)
end
section
variable {B:Bk} {W:WX'} {G G0 G1 G' H H0 H1 H':Hp} {σ:St} {ρ ρ0 ρ1 ρ':List S} {us us':List V} {vs vs':List E} {β:Type} {Φ:Res β→Prop}
theorem Out.back {e:Exc} {ρ2:List S} (h:Out B W σ ρ H G e ρ2) (p:Post B σ ρ H G σ ρ1 H1 G1):Out B W σ ρ1 H1 G1 e ρ2:=
 fun cls d H' G' q r=>h cls d H' G' (p.trans q) (RX.dom _ p.dom r)
theorem Cl.step (c:Cl B W σ ρ H G Φ) (p:Post B σ ρ H G σ ρ1 H1 G1):Cl B W σ ρ1 H1 G1 Φ:=
 ⟨fun e ρ' h=>(c.ex e ρ' h).back p,c.no,c.new⟩
theorem Aft.cl {Q:VK}:Cl B W σ ρ H G (Aft B W σ ρ H G Q):=⟨fun _ _ h=>h,fun h=>h,fun _ _ h=>h⟩
theorem AftT.cl {Q:Bool→Hp→Prop}:Cl B W σ ρ H G (AftT B W σ ρ H G Q):=⟨fun _ _ h=>h,fun h=>h,fun _ _ h=>h⟩
theorem AftA.cl {Q:List V→Hp→Prop}:Cl B W σ ρ H G (AftA B W σ ρ H G Q):=⟨fun _ _ h=>h,fun h=>h,fun _ _ h=>h⟩
theorem Pend.append (p:Pend B σ ρ0 H0 G0 ρ H G us vs) (q:Pend B σ ρ H G ρ' H' G' us' vs'):Pend B σ ρ0 H0 G0 ρ' H' G' (us++us') (vs++vs') where
 post:=p.post.trans q.post
 len:=by rw[AS,AS,p.len,q.len]
 re:=fun i v e=>by
   by_cases hi:i<vs.length
   ·rw[AT hi]at e
    obtain⟨u,e1,e2⟩:=p.re i v e
    exact⟨u,by rw[AT (by rw[p.len]; exact hi)]; exact e1,e2.step q.post⟩
   ·rw[AV (by omega)]at e
    obtain⟨u,e1,e2⟩:=q.re _ v e
    exact⟨u,by rw[AV (by rw[p.len]; omega),p.len]; exact e1,e2⟩
 new:=fun i o a e e'=>by
  by_cases hi:i<vs.length
  ·rw[AT hi]at e
   rw[AT (by rw[p.len]; exact hi)]at e'
   exact p.new i o a e e'
  ·rw[AV (by omega)]at e
   rw[AV (by rw[p.len]; omega),p.len]at e'
   exact p.post.dom a (q.new _ o a e e')
 apart:=fun i j o o' a e e' w w'=>by
  have old:∀{k:Nat} {x:O},vs[k]?=some (.fr x)→us[k]?=some (.ref a)→∃ho,H a=some ho:=fun {k x} e1 e2=>by
   obtain⟨y,e3,e4⟩:=p.re k _ e1
   rw[e3]at e2; cases e2
   obtain⟨b,ho,e5,e6,_⟩:=e4
   cases e5
   exact⟨ho,e6⟩
  by_cases hi:i<vs.length
  ·rw[AT hi]at e
   rw[AT (by rw[p.len]; exact hi)]at w
   by_cases hj:j<vs.length
   ·rw[AT hj]at e'
    rw[AT (by rw[p.len]; exact hj)]at w'
    exact p.apart i j o o' a e e' w w'
   ·rw[AV (by omega)]at e'
    rw[AV (by rw[p.len]; omega),p.len]at w'
    obtain⟨ho,h⟩:=old e w
    rw[q.new _ o' a e' w']at h; cases h
  ·rw[AV (by omega)]at e
   rw[AV (by rw[p.len]; omega),p.len]at w
   by_cases hj:j<vs.length
   ·rw[AT hj]at e'
    rw[AT (by rw[p.len]; exact hj)]at w'
    obtain⟨ho,h⟩:=old e' w'
    rw[q.new _ o a e w]at h; cases h
   ·rw[AV (by omega)]at e'
    rw[AV (by rw[p.len]; omega),p.len]at w'
    have:=q.apart _ _ o o' a e e' w w'
    omega
theorem Z_ {f:AK} {k:E→List S→Res β} (p:Pend B σ ρ0 H0 G0 ρ H G us vs) (c:Cl B W σ ρ0 H0 G0 Φ) (h:Φ ((f ρ).bind k)) :
  jb B W f σ H (fun u H1=>∃v ρ1 G1,Pend B σ ρ0 H0 G0 ρ1 H1 G1 (us++[u]) (vs++[v])∧Φ (k v ρ1)):=by
 refine⟨G,ρ,p.post.rel,?_⟩
 generalize f ρ=r at h
 induction r with
 |ok v ρ1=>exact fun u H' G' q re fr=>⟨v,ρ1,G',p.snoc q re fr,h⟩
 |ex x ρ1=>exact(c.ex x ρ1 h).back p.post
 |no=>exact c.no h
 |new τ kk ih=>exact fun a e=>ih a (c.new τ _ h a e)
theorem yx {f:AK} {k:E→List S→Res β} (r:Rel B G σ ρ H) (c:Cl B W σ ρ H G Φ) (h:Φ ((f ρ).bind k)) :
 jb B W f σ H (fun u H1=>∃v ρ1 G1,Pend B σ ρ H G ρ1 H1 G1 [u] [v]∧Φ (k v ρ1)):=Z_ (Pend.nil r) c h
theorem yr {f:AK} {Q Q':VK} (h:jb B W f σ H Q) (w:∀u H,Q u H→Q' u H):jb B W f σ H Q':=by
 obtain⟨G,ρ,r,h⟩:=h
 refine⟨G,ρ,r,?_⟩
 generalize f ρ=r at h
 induction r with
 |ok v ρ1=>exact fun u H' G' p re fr=>w _ _ (h u H' G' p re fr)
 |ex x ρ1=>exact h
 |no=>exact h
 |new τ kk ih=>exact fun a e=>ih a (h a e)
theorem Xo {f:List S→Res Bool} {Q Q':Bool→Hp→Prop} (h:Xn B W f σ H Q) (w:∀u H,Q u H→Q' u H):Xn B W f σ H Q':=by
 obtain⟨G,ρ,r,h⟩:=h
 refine⟨G,ρ,r,?_⟩
 generalize f ρ=r at h
 induction r with
 |ok v ρ1=>exact fun H' G' p=>w _ _ (h H' G' p)
 |ex x ρ1=>exact h
 |no=>exact h
 |new τ kk ih=>exact fun a e=>ih a (h a e)
theorem yY {f:List S→Res (List E)} {Q Q':List V→Hp→Prop} (h:w7 B W f σ H Q) (w:∀u H,Q u H→Q' u H):w7 B W f σ H Q':=by
 obtain⟨G,ρ,r,h⟩:=h
 refine⟨G,ρ,r,?_⟩
 generalize f ρ=r at h
 induction r with
 |ok v ρ1=>exact fun u H' G' p=>w _ _ (h u H' G' p)
 |ex x ρ1=>exact h
 |no=>exact h
 |new τ kk ih=>exact fun a e=>ih a (h a e)
theorem Xp {f:List S→Res Bool} {k:Bool→List S→Res β} (p:Pend B σ ρ0 H0 G0 ρ H G us vs) (c:Cl B W σ ρ0 H0 G0 Φ) (h:Φ ((f ρ).bind k)) :
  Xn B W f σ H (fun b H1=>∃ρ1 G1,Post B σ ρ H G σ ρ1 H1 G1∧Φ (k b ρ1)):=by
 refine⟨G,ρ,p.post.rel,?_⟩
 generalize f ρ=r at h
 induction r with
 |ok v ρ1=>exact fun H' G' q=>⟨ρ1,G',q,h⟩
 |ex x ρ1=>exact(c.ex x ρ1 h).back p.post
 |no=>exact c.no h
 |new τ kk ih=>exact fun a e=>ih a (c.new τ _ h a e)
theorem qV {f:List S→Res (List E)} {k:List E→List S→Res β} (p:Pend B σ ρ0 H0 G0 ρ H G us vs) (c:Cl B W σ ρ0 H0 G0 Φ) (h:Φ ((f ρ).bind k)) :
  w7 B W f σ H (fun us' H1=>∃vs' ρ1 G1,Pend B σ ρ0 H0 G0 ρ1 H1 G1 (us++us') (vs++vs')∧Φ (k vs' ρ1)):=by
 refine⟨G,ρ,p.post.rel,?_⟩
 generalize f ρ=r at h
 induction r with
 |ok v ρ1=>exact fun us' H' G' q=>⟨v,ρ1,G',p.append q,h⟩
 |ex x ρ1=>exact(c.ex x ρ1 h).back p.post
 |no=>exact c.no h
 |new τ kk ih=>exact fun a e=>ih a (c.new τ _ h a e)
theorem xt {f:List S→Res (List E)} {k:List E→List S→Res β} (r:Rel B G σ ρ H) (c:Cl B W σ ρ H G Φ) (h:Φ ((f ρ).bind k)) :
 w7 B W f σ H (fun us' H1=>∃vs' ρ1 G1,Pend B σ ρ H G ρ1 H1 G1 us' vs'∧Φ (k vs' ρ1)):=qV (Pend.nil r) c h
def Tz (B:Bk) (G H:Hp) (u:V):D→Prop
 | .lst ds=>∃a xs,u=.ref a∧H a=some (.lst xs)∧FzL B G xs ds
 | .dct ds=>∃a kvs,u=.ref a∧H a=some (.dK kvs)∧FzK B G kvs ds
 | .dd ds=>∃a ob es,u=.ref a∧H a=some (dnO B.w a ob es)∧FzD B G es ds
 | .db ks=>∃a,u=.ref a∧H a=some (dbO B.w a ks)
 | .ins c ds=>∃a C dx fs,u=.ref a∧H a=some (.ins C dx fs)∧G dx=some (.own a)∧B.mg c=some (.ref C)∧FzF B G fs ds
 |x=>Fz B G u x
theorem Fz.tz {u:V} {x:D} (s:Same G H) (h:Fz B G u x):Tz B G H u x:=by
 cases x with
 |lst ds=>rw[Fz]at h; obtain⟨a,xs,e,q,r⟩:=h; exact⟨a,xs,e,s _ _ q,r⟩
 |dct ds=>rw[Fz]at h; obtain⟨a,xs,e,q,r⟩:=h; exact⟨a,xs,e,s _ _ q,r⟩
 |dd ds=>rw[Fz]at h; obtain⟨a,ob,xs,e,q,r⟩:=h; exact⟨a,ob,xs,e,s _ _ q,r⟩
 |db ks=>rw[Fz]at h; obtain⟨a,e,q⟩:=h; exact⟨a,e,s _ _ q⟩
 |ins c ds=>rw[Fz]at h; obtain⟨a,C,dx,fs,e,q,q1,q2,r⟩:=h; exact⟨a,C,dx,fs,e,s _ _ q,q1,q2,r⟩
 |_=>exact h
theorem RO.tz {ho:HO} {o:O} {a:Addr} (e:H a=some ho) (h:RO B G a ho o):Tz B G H (.ref a) o.toD:=by
 cases o with
 |lst ds=>obtain⟨xs,rfl,r⟩:=h; exact⟨a,xs,rfl,e,r⟩
 |dct ds=>obtain⟨xs,rfl,r⟩:=h; exact⟨a,xs,rfl,e,r⟩
 |dd ds=>obtain⟨ob,xs,rfl,r⟩:=h; exact⟨a,ob,xs,rfl,e,r⟩
 |db ks=>have h:ho=dbO B.w a ks:=h; subst h; exact⟨a,rfl,e⟩
 |ins c ds=>obtain⟨C,dx,fs,rfl,r1,r2,r⟩:=h; exact⟨a,C,dx,fs,rfl,e,r1,r2,r⟩
theorem Tz.fz {u:V} {x:D} (s:Same G H) (h:Tz B G H u x):Fz B H u x:=by
 cases x with
 |lst ds=>obtain⟨a,xs,e,q,r⟩:=h; rw[Fz]; exact⟨a,xs,e,q,FzL.mono s _ _ r⟩
 |dct ds=>obtain⟨a,xs,e,q,r⟩:=h; rw[Fz]; exact⟨a,xs,e,q,FzK.mono s _ _ r⟩
 |dd ds=>obtain⟨a,ob,xs,e,q,r⟩:=h; rw[Fz]; exact⟨a,ob,xs,e,q,FzD.mono s _ _ r⟩
 |db ks=>obtain⟨a,e,q⟩:=h; rw[Fz]; exact⟨a,e,q⟩
 |ins c ds=>obtain⟨a,C,dx,fs,e,q,q1,q2,r⟩:=h; rw[Fz]; exact⟨a,C,dx,fs,e,q,s _ _ q1,q2,FzF.mono s _ _ r⟩
 |_=>exact Fz.mono s _ _ h
theorem Rel.val {u:V} {v:E} {x:D} (r:Rel B G σ ρ H) (h:RE B G σ ρ H u v) (e:v.val ρ=some x):Tz B G H u x:=by
 cases v with
 |d y=>
  cases e
  exact Fz.tz r.sub h
 |ad a=>
  have h:u=.ref a:=h
  subst h
  simp only[E.val]at e
  split at e
  ·rename_i o ho
   cases e
   obtain⟨hob,q1,q2,q3⟩:=oT ho r
   exact q3.tz q1
  ·cases e
 |sl i=>
  have h:σ[i]?=some (some u):=h
  simp only[E.val]at e
  split at e
  ·rename_i y hy
   cases e
   obtain⟨v,h1,w,h2,h3⟩:=r.slot i _ hy
   rw[h]at h1; cases h1; cases h2
   exact Fz.tz r.sub h3
  ·rename_i o ho
   cases e
   obtain⟨v,h1,a,ob,h2,h3,h4,h5⟩:=r.slot i _ ho
   rw[h]at h1; cases h1; cases h2
   exact h5.tz h3
  ·cases e
 |fr o=>
  cases e
  obtain⟨a,ho,rfl,e1,e2,r',n⟩:=h
  exact r'.tz e1
structure New (B:Bk) (G H:Hp) (u:V) (v:E) (H' G':Hp):Prop where
 grow:Same G G'
 stay:Same H H'
 sub:Same G' H'
 keep:∀b o,H b=some o→G b=none→G' b=none
 val:match v with
  | .d x=>Fz B G' u x
  | .sl _=>False
  | .ad _=>False
  | .fr o=>∃a ho,u=.ref a∧H a=none∧H' a=some ho∧G' a=none∧RO B G' a ho o
theorem New.scalar {u:V} {x:D} (s:Same G H) (h:Fz B G u x):New B G H u (.d x) H G:=⟨.refl _,.refl _,s,fun _ _ _ h=>h,h⟩
theorem New.tup {p:Addr} {us:List V} {ds:List D} {o:Obj} (s:Same G H) (hp:H p=none) (hd:o.dict=none) (h:FzL B G us ds):New B G H (.ref p) (.d (.tup ds)) (upd H p (.frz o (.tup us))) (upd G p (.frz o (.tup us))):=by
 have sg:Same G (upd G p (.frz o (.tup us))):=qe (s.free hp)
 refine⟨sg,qe hp,fun b o e=>?_,fun b o e g=>?_,?_⟩
 ·by_cases hb:b=p
  ·subst hb; rw[upd_same]at e⊢; exact e
  ·rw[upd_ne hb]at e⊢; exact s b o e
 ·rw[upd_ne (ne_of_none e hp)]; exact g
 ·show Fz B _ _ (.tup ds)
  rw[Fz]
  exact⟨p,us,rfl,.inl (.inr ⟨o,upd_same⟩),FzL.mono sg _ _ h,.inl ⟨o,_,upd_same,hd⟩⟩
theorem New.wt {p:Addr} {us:List V} {ds:List D} (s:Same G H) (hp:H p=none) (h:FzL B G us ds):New B G H (.ref p) (.d (.wt ds)) (upd H p (.tup us)) (upd G p (.tup us)):=by
 have sg:Same G (upd G p (.tup us)):=qe (s.free hp)
 refine⟨sg,qe hp,fun b o e=>?_,fun b o e g=>?_,?_⟩
 ·by_cases hb:b=p
  ·subst hb; rw[upd_same]at e⊢; exact e
  ·rw[upd_ne hb]at e⊢; exact s b o e
 ·rw[upd_ne (ne_of_none e hp)]; exact g
 ·show Fz B _ _ (.wt ds)
  rw[Fz]
  exact⟨p,us,rfl,SqT.of upd_same,FzL.mono sg _ _ h⟩
theorem New.own {p:Addr} {ho:HO} {o:O} (s:Same G H) (hp:H p=none) (h:RO B G p ho o):New B G H (.ref p) (.fr o) (upd H p ho) G:=
 ⟨.refl _,qe hp,fun b u e=>by rw[upd_ne (ne_of_none e (s.free hp))]; exact s b u e,fun _ _ _ g=>g,p,ho,rfl,hp,upd_same,s.free hp,h⟩
theorem New.post {u:V} {v:E} (p:Post B σ ρ0 H0 G0 σ ρ H G) (n:New B G H u v H' G'):Post B σ ρ0 H0 G0 σ ρ H' G'∧RE B G' σ ρ H' u v∧XF H0 u v:=by
 have r:Rel B G' σ ρ H':=⟨n.sub,p.rel.len,fun i s e=>by
  obtain⟨x,e1,e2⟩:=p.rel.slot i s e
  exact⟨x,e1,e2.step n.grow fun a ho _ q2 _ q3=>⟨n.stay _ _ q2,n.keep _ _ q2 q3⟩⟩,p.rel.sep,p.rel.tab.mono n.grow (fun b _ e=>n.stay b _ e) fun b _ e g=>n.keep b _ e g⟩
 have q:Post B σ ρ H G σ ρ H' G':=⟨n.grow,fun b e=>Same.free n.stay e,fun b o e _ _=>n.stay b o e,fun b o e _ g _=>n.keep b o e g,r,fun _ _ w=>.inl w⟩
 refine⟨p.trans q,?_,?_⟩
 ·have nv:=n.val
  cases v with
  |d x=>exact nv
  |sl i=>exact nv.elim
  |ad a=>exact nv.elim
  |fr o=>
   obtain⟨a,ho,e,h0,h1,h2,h3⟩:=nv
   refine⟨a,ho,e,h1,h2,h3,fun i w=>?_⟩
   obtain⟨ho',e3,_⟩:=p.rel.obj w
   rw[h0]at e3; cases e3
 ·have nv:=n.val
  cases v with
  |d x=>trivial
  |sl i=>trivial
  |ad a=>trivial
  |fr o=>
   obtain⟨a,ho,e,h0,h1,h2,h3⟩:=nv
   intro b eb
   rw[e]at eb; cases eb
   exact p.dom _ h0
theorem Aft.fin {Q:VK} {u:V} {v:E} (h:Aft B W σ ρ0 H0 G0 Q (.ok v ρ)) (p:Post B σ ρ0 H0 G0 σ ρ H G) (n:New B G H u v H' G'):Q u H':=by
 obtain⟨p',r,f⟩:=n.post p
 exact h u H' G' p' r f
end
section
variable {X:Cx} {W:WX'}
abbrev _root_.L2.Cx.bk (X:Cx):Bk:=⟨X.K,X.mg,X.w⟩
abbrev PEa (X:Cx) (W:WX') (e:Expr) (f:AK):Prop:=PE X e (jb X.bk W f)
abbrev PTa (X:Cx) (W:WX') (e:Expr) (f:List S→Res Bool):Prop:=PT X e (Xn X.bk W f)
abbrev PAa (X:Cx) (W:WX') (es:List Expr) (f:List S→Res (List E)):Prop:=PA X es (w7 X.bk W f)
theorem xv {e:Expr} {t t':TE} (h:PE X e t) (w:∀σ H Q,t' σ H Q→t σ H Q):PE X e t':=⟨fun pins s σ H Q I q=>h.run pins s σ H Q I (w σ H Q q)⟩
theorem cE {e:Expr} {t t':TT} (h:PT X e t) (w:∀σ H Q,t' σ H Q→t σ H Q):PT X e t':=⟨fun pins s σ H Q I q=>h.run pins s σ H Q I (w σ H Q q)⟩
theorem nr {es:List Expr} {t t':TA} (h:PA X es t) (w:∀σ H Q,t' σ H Q→t σ H Q):PA X es t':=⟨fun pos pins s σ H Q I q=>h.run pos pins s σ H Q I (w σ H Q q)⟩
def zb (i:Nat):AK:=fun ρ=>match ρ[i]? with
 |some (.d x)=>.ok (.d x) ρ
 |some (.own _)=>.ok (.sl i) ρ
 |_=>.no
theorem zf (i:Nat) {x:Str} {pos:Pos} (hN:X.N[i]?=some x:=by rfl) (hv:Vis X.env.scope x:=by first|exact Or.inl rfl|exact Or.inr (Or.inl rfl)|exact Or.inr (Or.inr rfl))
  (hd:(x==("__debug__":Str))=false:=by decide) (hcd:(x==("__classdict__":Str))=false:=by decide):PEa X W (.Name x pos) (zb i):=by
 refine xv (pe_var hN hv hd hcd) fun σ H Q ⟨G,ρ,r,h⟩=>?_
 unfold zb at h
 split at h
 ·rename_i y hy
  obtain⟨v,e1,w,e2,e3⟩:=r.slot i _ hy
  exact⟨w,by rw[e1,e2],h w H G (.refl r) e3 trivial⟩
 ·rename_i o ho
  obtain⟨v,e1,a,ob,e2,e3,e4,e5⟩:=r.slot i _ ho
  exact⟨.ref a,by rw[e1,e2],h _ H G (.refl r) (by show σ[i]?=_; rw[e1,e2]) trivial⟩
 ·exact h.elim
def aK (x:D):AK:=fun ρ=>.ok (.d x) ρ
theorem Vs {e:Expr} {v:V} {x:D} (h:PE X e (tC v)) (z:∀G,Fz X.bk G v x):PEa X W e (aK x):=
 xv h fun σ H Q ⟨G,ρ,r,h⟩=>h v H G (.refl r) (z G) trivial
theorem zI {i:Int} {j pos}:PEa X W (.Constant (.int i) j pos) (aK (.int i)):=Vs pe_int fun G=>by rw[Fz]
theorem ux {b:Bool} {j pos}:PEa X W (.Constant (.bool b) j pos) (aK (.bl b)):=Vs pe_bl fun G=>by rw[Fz]
theorem XG {j pos}:PEa X W (.Constant .none j pos) (aK .non):=Vs pe_non fun G=>by rw[Fz]
theorem qd {x:Str} {j pos}:PEa X W (.Constant (.str x) j pos) (aK (.str x)):=Vs pe_str fun G=>by rw[Fz]
def GC (B:Bk) (x:Str) (d:D):Prop:=∃u v,B.mg x=some u∧RelV v u∧∀G,Fz B G v d
theorem yS {x:Str} {d:D} {pos:Pos} (h:GC X.bk x d) (hg:Gl X x:=by rfl) (hd:(x==("__debug__":Str))=false:=by decide):PEa X W (.Name x pos) (aK d):=by
 obtain⟨u,v,e,r,z⟩:=h
 exact Vs (pe_glob hg e r hd) z
def jI (B:Bk) (g:D→D→Option E) (r:R2):Prop:=
 ∀(x y:D) (v:E) (a b:V) (G H:Hp) (Q:VK),g x y=some v→Same G H→Tz B G H a x→Tz B G H b y→(∀u H' G',New B G H u v H' G'→Q u H')→r a b H Q
def zX (g:D→D→Option E) (va vb:E) (ρ:List S):Res E:=match va.val ρ,vb.val ρ with
 |some x,some y=>match g x y with
  |some v=>.ok v ρ
  |none=>.no
 |_,_=>.no
def zg (g:D→D→Option E) (fa fb:AK):AK:=fun ρ=>(fa ρ).bind fun va ρ1=>(fb ρ1).bind fun vb ρ2=>zX g va vb ρ2
section
variable {a b:Expr} {fa fb:AK} {pos:Pos} {g:D→D→Option E} {r:R2}
theorem uL (sn:jI X.bk g r) (σ:St) (H:Hp) (Q:VK) (h:jb X.bk W (zg g fa fb) σ H Q):tOp r (jb X.bk W fa) (jb X.bk W fb) σ H Q:=by
 obtain⟨G,ρ,rl,h⟩:=h
 refine yr (yx rl (Aft.cl (Q:=Q)) h) fun u1 H1 ⟨va,ρa,Ga,P1,h1⟩=>?_
 refine yr (Z_ P1 (Aft.cl (Q:=Q)) h1) fun u2 H2 ⟨vb,ρb,Gb,P2,h2⟩=>?_
 obtain⟨x1,ex1,rx1⟩:=P2.re 0 va rfl
 obtain⟨x2,ex2,rx2⟩:=P2.re 1 vb rfl
 cases ex1
 cases ex2
 unfold zX at h2
 split at h2
 ·rename_i dx dy hx hy
  split at h2
  ·rename_i z hz
   exact sn dx dy z _ _ Gb H2 Q hz P2.post.rel.sub (P2.post.rel.val rx1 hx) (P2.post.rel.val rx2 hy) fun w H' G' n=>h2.fin P2.post n
  ·exact h2.elim
 ·exact h2.elim
theorem yE {op:Operator} (ho:OpR X (binaryOp op) r) (sn:jI X.bk g r) (ha:PEa X W a fa) (hb:PEa X W b fb):PEa X W (.BinOp a op b pos) (zg g fa fb):=
 xv (pe_op ho ha hb) (uL sn)
theorem ZF {op:CmpOp} (ho:OpR X (compareOp op) r) (sn:jI X.bk g r) (ha:PEa X W a fa) (hb:PEa X W b fb) (hm:behindInMarks op b=false:=by first|exact nomark _|rfl):PEa X W (.Compare a [op] [b] pos) (zg g fa fb):=
 xv (pe_cmpR ho ha hb hm) (uL sn)
theorem yL (hr:IxR X r) (sn:jI X.bk g r) (ha:PEa X W a fa) (hb:PEa X W b fb) (hs:PlainIx b:=by intro _ _; rfl):PEa X W (.Subscript a b pos) (zg g fa fb):=
 xv (pe_ix hr ha hb hs) (uL sn)
end
end
mutual
inductive NkV (K:PySem.W.Frag) (H:Hp):NestedKey→V→Prop
 |non:NkV K H .none .non
 |bl (b:Bool):NkV K H (.num (if b=true then 1 else 0)) (.bl b)
 |int (i:Int):NkV K H (.num i) (.int i)
 |str (x:Str):NkV K H (.text x) (.str x)
 |tup {a:Addr} {xs:List V} {ks:List NestedKey}:SqT K H a xs→NkA K H ks xs→NkV K H (.tup ks) (.ref a)
inductive NkA (K:PySem.W.Frag) (H:Hp):List NestedKey→List V→Prop
 |nil:NkA K H [] []
 |cons {k:NestedKey} {ks:List NestedKey} {v:V} {vs:List V}:NkV K H k v→NkA K H ks vs→NkA K H (k::ks) (v::vs)
end
section
variable {B:Bk} {G H:Hp}
mutual
theorem rD (s:Same G H):∀(x:D) (u:V) (k:NestedKey),x.nk?=some k→Fz B G u x→NkV B.K H k u
 | .non,u,k,e,h=>by rw[D.nk?]at e; cases e; rw[Fz]at h; subst h; exact .non
 | .bl b,u,k,e,h=>by rw[D.nk?]at e; cases e; rw[Fz]at h; subst h; exact .bl b
 | .int i,u,k,e,h=>by rw[D.nk?]at e; cases e; rw[Fz]at h; subst h; exact .int i
 | .str x,u,k,e,h=>by rw[D.nk?]at e; cases e; rw[Fz]at h; subst h; exact .str x
 | .tup xs,u,k,e,h=>by
   rw[D.nk?]at e
   obtain⟨ks,e1,rfl⟩:=AO.mp e
   rw[Fz]at h
   obtain⟨a,vs,rfl,h1,h2,_⟩:=h
   exact .tup (BY s h1) (nkA_of s xs vs ks e1 h2)
 | .lst _,_,_,e,_=>by rw[D.nk?]at e; cases e
 | .dct _,_,_,e,_=>by rw[D.nk?]at e; cases e
 | .fn _,_,_,e,_=>by rw[D.nk?]at e; cases e
 | .ty _,_,_,e,_=>by rw[D.nk?]at e; cases e
 | .scr _,_,_,e,_=>by rw[D.nk?]at e; cases e
 | .cd _,_,_,e,_=>by rw[D.nk?]at e; cases e
 | .dd _,_,_,e,_=>by rw[D.nk?]at e; cases e
 | .db _,_,_,e,_=>by rw[D.nk?]at e; cases e
 | .ins _ _,_,_,e,_=>by rw[D.nk?]at e; cases e
 | .raw _,_,_,e,_=>by rw[D.nk?]at e; cases e
 | .exc _ _,_,_,e,_=>by rw[D.nk?]at e; cases e
 | .wt _,_,_,e,_=>by rw[D.nk?]at e; cases e
theorem nkA_of (s:Same G H):∀(xs:List D) (us:List V) (ks:List NestedKey),D.nkL xs=some ks→FzL B G us xs→NkA B.K H ks us
 |[],[],ks,e,h=>by rw[D.nkL]at e; cases e; exact .nil
 |[],_::_,_,_,h=>by rw[FzL]at h; exact h.elim
 |_::_,[],_,_,h=>by rw[FzL]at h; exact h.elim
 |x::xs,u::us,ks,e,h=>by
  rw[FzL]at h
  rw[D.nkL]at e
  split at e
  ·rename_i a as e1 e2
   cases e
   exact .cons (rD s x u a e1 h.1) (nkA_of s xs us as e2 h.2)
  ·cases e
end
end
section
variable {X:Cx} {pins:List (Addr×Obj)} {σ:St} {H:Hp} {s:Shared}
mutual
theorem NkV.is (I:Inv X pins σ H s):∀(k:NestedKey) (v:V) (u:Value),NkV X.K H k v→RelV v u→NestedIs s.heap k u
 | .none,_,_,h,r=>by cases h; cases r; exact .none
 | .num i,_,_,h,r=>by
   cases h with
   |bl b=>cases r; exact .bool rfl
   |int i=>obtain⟨t,rfl⟩:=r; exact .int _ _
 | .text x,_,_,h,r=>by
   cases h
   obtain⟨t,rfl⟩:=r
   exact .text _ _
 | .tup ks,_,_,h,r=>by
   cases h with
   |tup hs ha=>
    cases r
    obtain⟨its,rv,⟨o,ho,hc,n,hd⟩,_⟩:=I.tuple hs
    exact .tup ho hc hd (NkA.is I ks _ _ ha rv)
theorem NkA.is (I:Inv X pins σ H s):∀(ks:List NestedKey) (vs:List V) (us:List Value),NkA X.K H ks vs→Vals vs us→NestedAll s.heap ks us
 |[],_,_,h,r=>by cases h; cases r; exact .nil
 |k::ks,_,_,h,r=>by
  cases h with
  |cons h1 h2=>
   cases r with
   |cons r1 r2=>exact .cons (NkV.is I k _ _ h1 r1) (NkA.is I ks _ _ h2 r2)
end
end
abbrev EnL:=List (NestedKey×Addr×V)
abbrev XnL:=List (NestedKey×Addr×Value)
def EnX:EnL→XnL→Prop:=Paired fun e x=>e.1=x.1∧e.2.1=x.2.1∧RelV e.2.2 x.2.2
def DnK (K:PySem.W.Frag) (H:Hp) (es:EnL):Prop:=∀e∈es,NkV K H e.1 (.ref e.2.1)∧e.1.depth≤8
def XB (es:EnL) (k:NestedKey):Option (Addr×V):=(es.find? fun e=>decide (e.1=k)).map (·.2)
theorem tR {P:Program} {w:World}:∀{es:EnL} {l:List DictEntry},Paired (fun(e:NestedKey×Addr×V) (x:DictEntry)=>x.hash=e.1.hash w∧x.key=.ref e.2.1∧RelV e.2.2 x.val) es l→
  ∃xs,EnX es xs∧l=xs.map (entryOfKey (nestedKind P w))
 |_,_,.nil=>⟨[],.nil,rfl⟩
 |_,_,.cons (a:=e) (b:=x) ⟨h1,h2,h3⟩ t=>by
  obtain⟨xs,q,rfl⟩:=tR (P:=P) t
  refine⟨(e.1,e.2.1,x.val)::xs,.cons ⟨rfl,rfl,h3⟩ q,?_⟩
  rw[List.map_cons]
  congr 1
  cases x
  simp only at h1 h2
  subst h1 h2
  rfl
theorem KQ {P:Program} {w:World}:∀{es:EnL} {xs:XnL},EnX es xs→Paired (fun(e:NestedKey×Addr×V) (x:DictEntry)=>x.hash=e.1.hash w∧x.key=.ref e.2.1∧RelV e.2.2 x.val) es (xs.map (entryOfKey (nestedKind P w)))
 |_,_,.nil=>.nil
 |_,_,.cons ⟨h1,h2,h3⟩ t=>.cons ⟨by rw[h1]; rfl,by rw[h2]; rfl,h3⟩ (KQ t)
theorem EnX.keys:∀{es:EnL} {xs:XnL},EnX es xs→xs.map (·.1)=es.map (·.1)
 |_,_,.nil=>rfl
 |_,_,.cons ⟨h1,_,_⟩ t=>by rw[List.map_cons,List.map_cons,h1,EnX.keys t]
theorem EnX.at_ {k:NestedKey}:∀{es:EnL} {xs:XnL},EnX es xs→match XB es k with
  |some e=>∃x,atKey xs k=some x∧e.1=x.1∧RelV e.2 x.2
  |none=>atKey xs k=none
 |_,_,.nil=>rfl
 |e::es,x::xs,.cons ⟨h1,h2,h3⟩ t=>by
  by_cases hk:e.1=k
  ·have q1:XB (e::es) k=some e.2:=by unfold XB; rw[List.find?_cons_of_pos (by simpa using hk)]; rfl
   have q2:atKey (x::xs) k=some x.2:=by unfold atKey; rw[List.find?_cons_of_pos (by simpa[←h1]using hk)]; rfl
   rw[q1]
   exact⟨x.2,q2,h2,h3⟩
  ·have q1:XB (e::es) k=XB es k:=by unfold XB; rw[List.find?_cons_of_neg (by simpa using hk)]
   have q2:atKey (x::xs) k=atKey xs k:=by unfold atKey; rw[List.find?_cons_of_neg (by simpa[←h1]using hk)]
   rw[q1,q2]
   exact EnX.at_ t
section
variable {X:Cx} {pins:List (Addr×Obj)} {σ:St} {H:Hp} {s:Shared} {p:Addr} {ob:Obj} {es:EnL}
theorem sP (I:Inv X pins σ H s) (hp:H p=some (dnO X.w p ob es)) (hk:DnK X.K H es):∃xs,EnX es xs∧s.heap.DictOfH (nestedKind X.prog X.w) p xs∧(p==sysModules)=false∧es.length≤sizeLine:=by
 obtain⟨ho,h1,h2,h3,h4,arr,ep,h5,h6⟩:=(I.hok p _ hp).1
 obtain⟨xs,q,e⟩:=tR (P:=X.prog) h6
 refine⟨xs,q,⟨ob,arr,ep,ho,h4,h5,e,fun x hx=>?_,by rw[q.keys]; exact h3⟩,h1,h2⟩
 obtain⟨i,hi⟩:=List.mem_iff_getElem?.mp hx
 have:∀{es:EnL} {xs:XnL} {i:Nat} {x:NestedKey×Addr×Value},EnX es xs→xs[i]?=some x→∃e,es[i]?=some e∧e.1=x.1∧e.2.1=x.2.1:=by
  intro es xs i x q hi
  induction q generalizing i with
  |nil=>simp at hi
  |cons h t ih=>
   cases i with
   |zero=>simp at hi; subst hi; exact⟨_,rfl,h.1,h.2.1⟩
   |succ i=>exact ih (i:=i) (by simpa using hi)
 obtain⟨e,e1,e2,e3⟩:=this q hi
 obtain⟨n1,n2⟩:=hk e (Bh e1)
 rw[←e2,←e3]
 exact⟨NkV.is I _ _ _ n1 rfl,n2⟩
theorem Ry {P:Program} {w:World} {H:Hp} {h:Heap} {xs:XnL} (q:EnX es xs) (hd:(p==sysModules)=false) (hl:es.length≤sizeLine) (hm:h.DictOfH (nestedKind P w) p xs):∃ob,ObjOk P w H h p (dnO w p ob es):=by
 obtain⟨o,arr,ep,ho,hx,hdat,e,_,nd⟩:=hm
 refine⟨o,⟨ho,hd,hl,by rw[←q.keys]; exact nd,hx,arr,ep,hdat,by rw[e]; exact KQ q⟩,⟨o,ho⟩,fun h1 h2 z k=>⟨k _ z.1,z.2⟩⟩
end
theorem cu {A:Around} (hu:A.units+64<cLine):A.in1.units+8<cLine:=by
 rw[Around.in1_units]; omega
section
variable {X:Cx}
def KeyA (K:PySem.W.Frag) (H:Hp) (k:NestedKey) (x:V):Prop:=∃b,x=.ref b∧NkV K H k x∧k.depth≤8
theorem KeyA.is {pins:List (Addr×Obj)} {σ:St} {H:Hp} {s:Shared} {k:NestedKey} {x:V} {v:Value} (I:Inv X pins σ H s) (h:KeyA X.K H k x) (r:RelV x v):∃b,v=.ref b∧x=.ref b∧(nestedKind X.prog X.w).is s.heap k b:=by
 obtain⟨b,rfl,h1,h2⟩:=h
 cases r
 exact⟨b,rfl,rfl,NkV.is I _ _ _ h1 rfl,h2⟩
def dq (K:PySem.W.Frag) (w:World) (H:Hp) (p:Addr) (es:EnL):Prop:=∃ob,H p=some (dnO w p ob es)∧DnK K H es
def SY (K:PySem.W.Frag) (w:World) (neg:Bool):R2:=fun x y H Q=>∃p es k,y=.ref p∧dq K w H p es∧KeyA K H k x∧Q (.bl (if neg then !(XB es k).isSome else(XB es k).isSome)) H
theorem dN {es:EnL} {xs:XnL} {k:NestedKey} (q:EnX es xs):(atKey xs k).isSome=(XB es k).isSome:=by
 have:=q.at_ (k:=k)
 cases e:XB es k with
 |some z=>rw[e]at this; obtain⟨x,h,_⟩:=this; rw[h]; rfl
 |none=>rw[e]at this; rw[this]; rfl
theorem Pt (hu:X.A.units+64<cLine):OpR X (compareOp .In) (SY X.K X.w false):=by
 intro pins s σ H x y v u Q I rx ry h
 obtain⟨p,es,k,rfl,⟨ob,hp,hk⟩,ka,q⟩:=h
 cases ry
 obtain⟨b,rfl,rfl,ks⟩:=ka.is I rx
 obtain⟨xs,ex,hm,hd,_⟩:=sP I hp hk
 refine wpAny_in_heap (cu hu) ks hd hm ?_
 rw[dN ex]
 exact⟨.bl _,H,I.tok _,rfl,q⟩
def R7 (K:PySem.W.Frag) (w:World):R2:=fun x y H Q=>∃p es k a z,x=.ref p∧dq K w H p es∧KeyA K H k y∧XB es k=some (a,z)∧Q z H
theorem SO (hu:X.A.units+64<cLine):IxR X (R7 X.K X.w):=by
 intro value slice pins s σ H x y v u Q I rx ry h hs
 obtain⟨p,es,k,a,z,rfl,⟨ob,hp,hk⟩,ka,e,q⟩:=h
 obtain rfl:v=Value.ref p:=rx
 obtain⟨b,rfl,rfl,ks⟩:=ka.is I ry
 obtain⟨xs,ex,hm,hd,_⟩:=sP I hp hk
 have:=ex.at_ (k:=k)
 rw[e]at this
 obtain⟨w,e2,_,rv⟩:=this
 exact tail_any hm.typeIs PySem.F.slot_dict_getitem.lookup (wpAny_getItem_heap (cu hu) ks hm e2 ⟨z,H,I.tok _,rv,q⟩) hs
def UR (es:EnL) (k:NestedKey) (b:Addr) (v:V):EnL:=if (XB es k).isSome=true then es.map (fun e=>if e.1=k then(e.1,e.2.1,v)else e)else es++[(k,b,v)]
theorem EnX.mapP {k:NestedKey} {v:V} {u:Value} (r:RelV v u):∀{es:EnL} {xs:XnL},EnX es xs→EnX (es.map fun e=>if e.1=k then(e.1,e.2.1,v)else e) (xs.map (putAt k u))
 |_,_,.nil=>.nil
 |e::es,x::xs,.cons ⟨h1,h2,h3⟩ t=>by
  refine .cons ?_ (EnX.mapP r t)
  unfold putAt
  dsimp only
  by_cases hk:e.1=k
  ·rw[if_pos hk,if_pos (h1.symm.trans hk)]; exact⟨h1,h2,r⟩
  ·rw[if_neg hk,if_neg (fun z=>hk (h1.trans z))]; exact⟨h1,h2,h3⟩
theorem EnX.app {es es':EnL} {xs xs':XnL} (q:EnX es xs) (q':EnX es' xs'):EnX (es++es') (xs++xs'):=by
 induction q with
 |nil=>exact q'
 |cons h t ih=>exact .cons h ih
theorem EnX.put {es:EnL} {xs:XnL} {k:NestedKey} {b:Addr} {v:V} {u:Value} (q:EnX es xs) (r:RelV v u):EnX (UR es k b v) (storedH xs k b u):=by
 unfold UR storedH
 rw[dN q]
 split
 ·exact q.mapP r
 ·exact q.app (.cons ⟨rfl,rfl,r⟩ .nil)
theorem og {es:EnL} {k:NestedKey} {b:Addr} {v:V}:(UR es k b v).length≤es.length+1:=by
 unfold UR
 split<;>simp
def Su (K:PySem.W.Frag) (w:World):TSet:=fun o i v H Q=>∃p es k b,o=.ref p∧i=.ref b∧dq K w H p es∧KeyA K H k i∧es.length<sizeLine∧∀ob',Q (upd H p (dnO w p ob' (UR es k b v)))
theorem Sr (hu:X.A.units+64<cLine):PSet X (Su X.K X.w):=by
 intro pins s σ H o i v ov iv u Q I r1 r2 r3 h
 obtain⟨p,es,k,b,rfl,rfl,⟨ob,hp,hk⟩,ka,hl,q⟩:=h
 cases r1
 obtain⟨b',rfl,e,ks⟩:=ka.is I r2
 cases e
 obtain⟨xs,ex,hm,hd,hl'⟩:=sP I hp hk
 have hx:xs.length=es.length:=by have:=congrArg List.length ex.keys; simpa using this
 refine wpAny_setItem_heap (cu hu) ks hm (fun h' hm' hs=>?_) (by rw[hx]; exact hl')
 have there:∃q,h'.get? p=some q:=let ⟨q,_,_,hq,_⟩:=hm'; ⟨q,hq⟩
 obtain⟨ob',ok⟩:=Ry (H:=upd H p (.own p)) (ex.put r3) hd (AU og hl) hm'
 have ok':ObjOk X.prog X.w (upd H p (dnO X.w p ob' (UR es k b v))) h' p (dnO X.w p ob' (UR es k b v)):=ok
 exact⟨_,d_write I (by rw[hp]; exact True.intro) hs there ok',q ob'⟩
def N2 (K:PySem.W.Frag) (w:World):List V→Hp→VK→Prop:=fun xs H Q=>∃p es,xs=[.ref p]∧dq K w H p es∧Q (.int ((es.length:Nat):Int)) H
theorem eW:CallR X (.builtin "len") (N2 X.K X.w):=by
 intro pins s σ H xs us Q I r h
 obtain⟨p,es,rfl,⟨ob,hp,hk⟩,q⟩:=h
 obtain⟨u,rfl,rx⟩:=vals1 r
 obtain rfl:u=.ref p:=rx
 obtain⟨xs,ex,hm,hd,hl⟩:=sP I hp hk
 have hx:xs.length=es.length:=by have:=congrArg List.length ex.keys; simpa using this
 refine call_len_dictH hd hm (by rw[hx]; rw[sizeLine_eq]at hl; omega) ?_
 rw[hx]
 exact⟨.int ((es.length:Nat):Int),H,I.tok _,⟨_,rfl⟩,q⟩
def ItN (w:World) (p:Addr) (ob:Obj) (es:EnL):It where
 go:=fun i H=>H p=some (dnO w p ob es)∧i<es.length
 yld:=fun i H v H'=>H'=H∧∃e,es[i]?=some e∧v=.ref e.2.1
 stop:=fun i H=>H p=some (dnO w p ob es)∧i=es.length
theorem B0 {α β:Type} {F:α→β→Prop}:∀{as:List α} {bs:List β} {i:Nat} {b:β},Paired F as bs→bs[i]?=some b→∃a,as[i]?=some a∧F a b
 |_,_,_,_,.nil,e=>by simp at e
 |_,_,0,_,.cons r _,e=>by simp at e; subst e; exact⟨_,rfl,r⟩
 |_,_,i+1,_,.cons _ t,e=>by
  obtain⟨a,h1,h2⟩:=B0 (i:=i) t (by simpa using e)
  exact⟨a,by simpa using h1,h2⟩
theorem P9 {P:Program} {w:World} {K:PySem.W.Frag} {tg:Expr} {p it ep:Addr} {ob:Obj} {es:EnL} {arr:Array DictEntry} (hne:p≠it) (hdat:ob.data=.dict arr ep) (hex:ob.ExactDict)
  (hpr:Paired (fun(e:NestedKey×Addr×V) (x:DictEntry)=>x.hash=e.1.hash w∧x.key=.ref e.2.1∧RelV e.2.2 x.val) es arr.toList) :
  Turn P w K tg (ItN w p ob es) [it] it (fun i h=>h.IsKeyIter it p i arr.size ep) where
 mem:=by simp
 obj:=fun i h st b hb=>by
  obtain rfl:b=it:=by simpa using hb
  obtain⟨o,ho,hc,hd⟩:=st
  exact⟨o,ho,fun v q=>by rw[hd]at q; cases q⟩
 keep:=fun i h h' st k=>st.at fun o e=>k it (by simp) o e
 item:=by
  rintro X rfl rfl rfl hc i pins s σ H E I hf st ⟨hp,hi⟩
  obtain⟨ho,_⟩:=(I.hok p _ hp).1
  have hl:arr.size=es.length:=by have:=Paired.length hpr; simpa using this.symm
  have raw:s.heap.DictRaw p arr ep:=⟨ob,ho,hex,hdat⟩
  have hi':i<arr.size:=by omega
  refine wpAny_pyNext_keys_item_raw st raw hi' fun h' st' sb=>?_
  obtain⟨e,e1,_,e2,_⟩:=B0 hpr (show arr.toList[i]?=some arr[i]by rw[Array.getElem?_toList]; simp[hi'])
  obtain⟨f0,f1,f2,f3,f4,f5⟩:=hf it (by simp)
  have J:Inv X pins σ H { s with heap:=h' }:=I.turned (t':=s.toks) (fun b o hb q=>(sb.2 b hb).trans q) f0 f1 f3 f4 f5
  obtain⟨io,hio,hic,hid⟩:=st'
  refine⟨_,rfl,go_of hio hic hid (by decide) ?_⟩
  rw[e2]
  exact⟨.ref e.2.1,H,J,rfl,⟨rfl,e,e1,rfl⟩,⟨io,hio,hic,hid⟩,fun b hb=>(hf b hb).1⟩
 done:=by
  rintro X rfl rfl rfl hc i pins s σ H E I hf st ⟨hp,hi⟩
  obtain⟨ho,_⟩:=(I.hok p _ hp).1
  have hl:arr.size=es.length:=by have:=Paired.length hpr; simpa using this.symm
  have raw:s.heap.DictRaw p arr ep:=⟨ob,ho,hex,hdat⟩
  obtain⟨f0,f1,f2,f3,f4,f5⟩:=hf it (by simp)
  refine wpAny_pyNext_keys_end_raw (I.ok.hd hc) st raw (by omega) fun h' eb=>⟨rfl,I.turned (t':=s.toks) (fun b o hb q=>eb b o hb q) f0 f1 f3 f4 f5⟩
 self:=fun A i s Q E st h=>wpAny_pyIter_keyiter st h
def RD (K:PySem.W.Frag) (w:World) (te:TE):TI:=fun σ H R=>te σ H fun v H1=>∃p ob es,v=.ref p∧H1 p=some (dnO w p ob es)∧R (ItN w p ob es) H1
theorem SW {tg e:Expr} {te:TE} (he:PE X e te):PI X tg e (RD X.K X.w te):=by
 constructor
 intro pins s σ H R I h
 refine thn (he.run pins s σ H _ I h) ?_
 rintro v s1 ⟨x,H1,I1,r1,p,ob,es,rfl,hp,q⟩
 cases r1
 obtain⟨ho,h1,h2,h3,h4,arr,ep,h5,h6⟩:=(I1.hok p _ hp).1
 have raw:s1.heap.DictRaw p arr ep:=⟨ob,ho,h4,h5⟩
 refine wpAny_pyIter_dict_raw h1 raw ?_
 have J:Inv X pins σ H1 { s1 with heap:=s1.heap.push { cls:=.type "dict_keyiterator",data:=.fields #[.ref p,.int 0 0,.int arr.size 0,.int ep 0] } }:=I1.kept (t':=s1.toks) fun b o q=>Heap.get?_push_of_some _ q
 refine⟨s1.heap.objs.size,[s1.heap.objs.size],_,ItN X.w p ob es,H1,rfl,J,P9 (Be (Heap.lt_size ho)) h5 h4 h6,⟨_,Heap.get?_push_size _ rfl,rfl,rfl⟩,fun b hb=>?_,q⟩
 obtain rfl:b=s1.heap.objs.size:=by simpa using hb
 exact I1.fpOk (Nat.le_refl _) (I1.hok.fresh (Nat.le_refl _))
def nD (w:World):List V→Hp→VK→Prop:=fun xs H Q=>∃p ob es,xs=[.ref p]∧H p=some (dnO w p ob es)∧∀l,H l=none→Q (.ref l) (upd H l (.lst (es.map fun e=>.ref e.2.1)))
theorem dZ {w:World} {es:EnL} {arr:Array DictEntry} {acc:Array Value} (hpr:Paired (fun(e:NestedKey×Addr×V) (x:DictEntry)=>x.hash=e.1.hash w∧x.key=.ref e.2.1∧RelV e.2.2 x.val) es arr.toList)
  (h:PySem.ItemsOf (fun i v=>∃hi:i<arr.size,v=arr[i].key) acc arr.size):Vals (es.map fun e=>V.ref e.2.1) acc.toList:=by
 have hk:acc.toList=es.map fun e=>Value.ref e.2.1:=by
  have hl:es.length=arr.size:=by have:=Paired.length hpr; simpa using this
  apply List.ext_getElem?
  intro i
  by_cases hi:i<arr.size
  ·have ha:i<acc.size:=by rw[h.1]; exact hi
   obtain⟨hi',ev⟩:=h.2 i acc[i] (by simp[ha])
   obtain⟨e,e1,_,e2,_⟩:=B0 hpr (show arr.toList[i]?=some arr[i]by rw[Array.getElem?_toList]; simp[hi])
   rw[List.getElem?_map,e1,Array.getElem?_toList]
   simp[ha,ev,e2]
  ·rw[Bs (by rw[BO,h.1]; omega),Bs (by rw[List.length_map]; omega)]
 rw[hk]
 clear hk h hpr
 induction es with
 |nil=>exact .nil
 |cons e es ih=>exact .cons rfl ih
theorem l9 (hc:X.calm=true):CallR X (.type "list") (nD X.w):=by
 intro pins s σ H xs us Q I r h
 obtain⟨p,ob,es,rfl,hp,q⟩:=h
 obtain⟨u,rfl,rx⟩:=vals1 r
 obtain rfl:u=.ref p:=rx
 obtain⟨ho,h1,h2,h3,h4,arr,ep,h5,h6⟩:=(I.hok p _ hp).1
 have raw:s.heap.DictRaw p arr ep:=⟨ob,ho,h4,h5⟩
 have hl:arr.size=es.length:=by have:=Paired.length h6; simpa using this.symm
 refine PySem.W.kdl_call (KdlSrc.rawDict h1) (I.ok.hd hc) raw (by omega) fun h' tk acc c hk hS hacc=>?_
 exact⟨.ref _,_,I.laid (a:=s.heap.objs.size) (t':=tk) (o:=.lst (es.map fun e=>.ref e.2.1)) hk (Nat.le_refl _) ⟨by rw[List.length_map]; exact h2,acc.toList,c,dZ h6 hacc,by simpa using hS⟩,rfl,q _ (I.hok.fresh (Nat.le_refl _))⟩
end
abbrev iD (us:Array Value):Obj:={ cls:=.type "tuple",data:=.seq us }
section
variable {X:Cx} {pins:List (Addr×Obj)} {σ:St} {H:Hp} {s:Shared}
theorem RK {us:Array Value} {xs:List V} (I:Inv X pins σ H s) (r:Vals xs us.toList) (z:xs.length≤sizeLine) :
  Inv X pins σ (upd H s.heap.objs.size (.frz (iD us) (.tup xs))) { s with heap:=s.heap.push (iD us) }:=by
 have at_:(s.heap.push (iD us)).get? s.heap.objs.size=some (iD us):=Heap.get?_push_size _ rfl
 exact I.laid (t':=s.toks) (o:=.frz (iD us) (.tup xs)) (fun b u e=>Heap.get?_push_of_some _ e) (Nat.le_refl _) ⟨at_,z,us.toList,r,_,at_,rfl,0,by simp⟩
def KO (H:Hp) (xs:List V) (Q:VK):Prop:=∀p o,o.dict=none→H p=none→Q (.ref p) (upd H p (.frz o (.tup xs)))
theorem U4 {us:Array Value} {xs:List V} {Q:VK} (I:Inv X pins σ H s) (r:Vals xs us.toList) (z:xs.length≤sizeLine) (q:KO H xs Q):EP X pins σ Q (.ref s.heap.objs.size) { s with heap:=s.heap.push (iD us) }:=
 ⟨.ref s.heap.objs.size,_,RK I r z,rfl,q _ _ rfl (I.hok.fresh (Nat.le_refl _))⟩
end
section
variable {X:Cx} {es:List Expr} {t:TA} {pos:Pos}
def Sv (t:TA):TE:=fun σ H Q=>t σ H fun xs H1=>xs.length≤sizeLine∧KO H1 xs Q
theorem M4 {x1} (h:PA X es t):PE X (.Tuple es x1 pos) (Sv t):=by
 constructor
 intro pins s σ H Q I hq
 refine wpAny_Tuple_spliced (thn (h.run pos pins s σ H _ I hq) fun ws s2 ⟨ys,H2,J,rv,z,q⟩=>⟨by rw[←rv.length]; exact z,?_⟩)
 exact U4 (us:=ws.toArray) J (by simpa using rv) z q
def NR (K:PySem.W.Frag):R2:=fun x y H Q=>∃a b xs ys,x=.ref a∧y=.ref b∧SqT K H a xs∧SqT K H b ys∧xs.length+ys.length≤sizeLine∧
 (xs=[]→Q (.ref b) H)∧(xs≠[]→ys=[]→Q (.ref a) H)∧(xs≠[]→ys≠[]→KO H (xs++ys) Q)
theorem MX:OpR X (binaryOp .Add) (NR X.K):=by
 intro pins s σ H x y v u Q I rx ry h
 obtain⟨a,b,xs,ys,rfl,rfl,ha,hb,hz,q0,q1,q2⟩:=h
 cases rx; cases ry
 obtain⟨i1,v1,t1,_⟩:=I.tuple ha
 obtain⟨i2,v2,t2,_⟩:=I.tuple hb
 by_cases e:xs=[]
 ·subst e
  cases v1
  exact cat_tup0 t1 t2 ⟨.ref b,H,I,rfl,q0 rfl⟩
 ·refine HT.cat_tup t1 t2 (fun z=>e (v1.nil_iff.mp z)) (fun z=>⟨.ref a,H,I,rfl,q1 e (v2.nil_iff.mp z)⟩) (fun z=>?_) (by rw[←v1.length,←v2.length]; exact hz)
  exact U4 (us:=(i1++i2).toArray) I (by simpa using v1.append v2) (by rw[AS]; exact hz) (q2 e fun w=>z (v2.nil_iff.mpr w))
def Sb (K:PySem.W.Frag):V→Option Int→Option Int→Hp→VK→Prop:=fun x lo hi H Q=>∃a xs,x=.ref a∧SqT K H a xs∧
 (HT.sIx xs.length 0 lo=0∧HT.sIx xs.length xs.length hi=xs.length→Q (.ref a) H)∧(¬(HT.sIx xs.length 0 lo=0∧HT.sIx xs.length xs.length hi=xs.length)→KO H (cutV xs lo hi) Q)
theorem sl_tupP:SlR X (Sb X.K):=by
 intro pins s σ H x v vl vu lo hi sl Q I rx hs pl pu h
 obtain⟨a,xs,rfl,hx,q1,q2⟩:=h
 cases rx
 obtain⟨its,rv,ht,hz⟩:=I.tuple hx
 have n:its.toArray.size=xs.length:=by rw[BG,rv.length]
 refine⟨"tuple",_,PyProof.Rows.slot_tuple_getitem.lookup,ht.typeIs,?_⟩
 by_cases c:HT.sIx xs.length 0 lo=0∧HT.sIx xs.length xs.length hi=xs.length
 ·exact getItem_tuple_whole ht hs pl pu (by rw[n]; exact c) ⟨.ref a,H,I,rfl,q1 c⟩
 ·refine HT.getItem_tuple_cut ht hs pl pu (by rw[n]; exact c) ?_ (by rw[n]; exact hz)
  rw[n]
  exact U4 I (by simpa[cutV]using(rv.drop (HT.sIx xs.length 0 lo)).take (HT.sIx xs.length xs.length hi - HT.sIx xs.length 0 lo)) (AU (cutV_length xs lo hi) hz) (q2 c)
def N9 (K:PySem.W.Frag):List V→Hp→VK→Prop:=fun xs H Q=>∃p ys,xs=[.ref p]∧((SqL K H p ys∧KO H ys Q)∨(SqT K H p ys∧Q (.ref p) H))
theorem xw:CallR X (.type "tuple") (N9 X.K):=by
 intro pins s σ H xs us Q I r h
 obtain⟨p,ys,rfl,h⟩:=h
 rw[Vals.ref1 r]
 rcases h with⟨hq,q⟩|⟨hq,q⟩
 ·obtain⟨its,rv,pl,hz⟩:=I.list hq
  have n:=rv.length
  refine call_tuple_list pl.isList (fun h1 kp=>?_) (by simp only[BG]<;>omega)
  have J:Inv X pins σ H { s with heap:=h1 }:=I.kept (t':=s.toks) kp
  exact U4 (us:=its.toArray) J (by simpa using rv) hz q
 ·obtain⟨its,_,pl,_⟩:=I.tuple hq
  exact call_tuple_same pl ⟨.ref p,H,I,rfl,q⟩
end
section
variable {B:Bk} {G H:Hp}
theorem Zm {u:V} (h:Tz B G H u .non):u=.non:=by simpa[Tz,Fz]using h
theorem y0 {u:V} {i:Int} (h:Tz B G H u (.int i)):u=.int i:=by simpa[Tz,Fz]using h
theorem Vq {u:V} {i:Bool} (h:Tz B G H u (.bl i)):u=.bl i:=by simpa[Tz,Fz]using h
theorem xk {u:V} {i:Str} (h:Tz B G H u (.str i)):u=.str i:=by simpa[Tz,Fz]using h
theorem qO {u:V} {ds:List D} (h:Tz B G H u (.tup ds)):∃a xs,u=.ref a∧SqT B.K G a xs∧FzL B G xs ds:=by
 have h:Fz B G u (.tup ds):=h
 rw[Fz]at h
 obtain⟨a,xs,e,h1,h2,_⟩:=h
 exact⟨a,xs,e,h1,h2⟩
theorem LN {u:V} {ds:List D} (h:Tz B G H u (.tup ds)):∃a xs,u=.ref a∧SqT B.K G a xs∧FzL B G xs ds∧PlT B.K G a:=by
 have h:Fz B G u (.tup ds):=h
 rwa [Fz]at h
theorem wN:Fz B G .non .non:=by rw[Fz]
theorem xu (i:Int):Fz B G (.int i) (.int i):=by rw[Fz]
theorem jL (i:Bool):Fz B G (.bl i) (.bl i):=by rw[Fz]
theorem YC (i:Str):Fz B G (.str i) (.str i):=by rw[Fz]
end
abbrev zN (i:Int):E:=.d (.int i)
abbrev eBl (b:Bool):E:=.d (.bl b)
abbrev z_ (x:Str):E:=.d (.str x)
def yP:D→D→Option E
 | .int i,.int j=>some (zN (i+j))
 | .str x,.str y=>if x.length+y.length≤sizeLine then some (z_ (x++y))else none
 | .lst x,.lst y=>if x.length+y.length≤sizeLine then some (.fr (.lst (x++y)))else none
 | .tup x,.tup y=>if x.length+y.length≤sizeLine then some (.d (.tup (x++y)))else none
 |_,_=>none
def Zh:D→D→Option E
 | .int i,.int j=>if i.natAbs.log2+j.natAbs.log2<1000000 then some (zN (i * j))else none
 |_,_=>none
def XD:D→D→Option E
 | .int i,.int j=>if 0<j then some (zN (i % j))else none
 |_,_=>none
def oy:D→D→Option E
 | .int i,.int j=>if 0<j∧j.natAbs.log2<9000 then some (zN (i / j))else none
 |_,_=>none
def Ur:D→D→Option E
 | .int i,.int j=>if 0≤j∧(Builtin.Int.intBits i:Int) * j≤2 ^ 27 then some (zN (i ^ j.toNat))else none
 |_,_=>none
section
variable {X:Cx}
theorem uM:OpR X (binaryOp .Pow) (rI (fun i j=>0≤j∧(Builtin.Int.intBits i:Int) * j≤2 ^ 27) fun i j=>.int (i ^ j.toNat)):=opI fun _ _ _ _ _ _ _ hc q=>PyProof.Rows.pow_int hc.1 hc.2 q
end
section
variable {B:Bk}
theorem cI {g:D→D→Option E} {C:Int→Int→Prop} {f:Int→Int→Int} (hg:∀x y v,g x y=some v→∃i j,x=.int i∧y=.int j∧C i j∧v=zN (f i j)):jI B g (rI C fun i j=>.int (f i j)):=by
 intro x y v a b G H Q e s hx hy q
 obtain⟨i,j,rfl,rfl,c,rfl⟩:=hg x y v e
 exact⟨i,j,y0 hx,y0 hy,c,q _ _ _ (.scalar s (xu _))⟩
theorem qp {α:Type} {v:α} (h:(none:Option α)=some v):False:=nomatch h
theorem if_some' {α:Type} {c:Prop} [Decidable c] {a v:α} (h:(if c then some a else none)=some v):c∧v=a:=by
 split at h
 ·rename_i hc; cases h; exact⟨hc,rfl⟩
 ·cases h
theorem jB:jI B Zh (rI CMulW fun i j=>.int (i * j)):=cI fun x y v e=>by
 cases x<;>first|exact(qp e).elim|(cases y<;>first|exact(qp e).elim|(obtain⟨h1,rfl⟩:=if_some' e; exact⟨_,_,rfl,rfl,h1,rfl⟩))
theorem Yk:jI B XD (rI (fun _ j=>0<j) fun i j=>.int (i % j)):=cI fun x y v e=>by
 cases x<;>first|exact(qp e).elim|(cases y<;>first|exact(qp e).elim|(obtain⟨h1,rfl⟩:=if_some' e; exact⟨_,_,rfl,rfl,h1,rfl⟩))
theorem sO:jI B oy (rI CDivW fun i j=>.int (i / j)):=cI fun x y v e=>by
 cases x<;>first|exact(qp e).elim|(cases y<;>first|exact(qp e).elim|(obtain⟨h1,rfl⟩:=if_some' e; exact⟨_,_,rfl,rfl,h1,rfl⟩))
theorem uP:jI B Ur (rI (fun i j=>0≤j∧(Builtin.Int.intBits i:Int) * j≤2 ^ 27) fun i j=>.int (i ^ j.toNat)):=cI fun x y v e=>by
 cases x<;>first|exact(qp e).elim|(cases y<;>first|exact(qp e).elim|(obtain⟨h1,rfl⟩:=if_some' e; exact⟨_,_,rfl,rfl,h1,rfl⟩))
abbrev NQ (K:PySem.W.Frag):R2:=fun x y H Q=>((rI0 fun i j=>.int (i+j)) x y H Q∨(∃i j,x=.str i∧y=.str j∧i.length+j.length≤sizeLine∧Q (.str (i++j)) H))∨(rCat x y H Q∨NR K x y H Q)
theorem yW {X:Cx}:OpR X (binaryOp .Add) (NQ X.K):=(op_add.or op_add_str).or (op_cat.or MX)
theorem yV:jI B yP (NQ B.K):=by
 intro x y v a b G H Q e s hx hy q
 cases x<;>cases y<;>simp[yP]at e
 ·subst e
  exact .inl (.inl ⟨_,_,y0 hx,y0 hy,q _ _ _ (.scalar s (xu _))⟩)
 ·obtain⟨h,rfl⟩:=e
  exact .inl (.inr ⟨_,_,xk hx,xk hy,h,q _ _ _ (.scalar s (YC _))⟩)
 ·rename_i ds es
  obtain⟨h,rfl⟩:=e
  obtain⟨p,xs,rfl,h1,r1⟩:=qO hx
  obtain⟨p',ys,rfl,h2,r2⟩:=qO hy
  have l1:=r1.length
  have l2:=r2.length
  refine .inr (.inr ⟨p,p',xs,ys,rfl,rfl,BY s h1,BY s h2,by omega,fun e=>?_,fun e e'=>?_,fun e e' r o hd hr=>q _ _ _ (.tup s hr hd (r1.append r2))⟩)
  ·subst e
   have:ds=[]:=List.length_eq_zero_iff.mp (by simpa using l1.symm)
   subst this
   exact q _ _ _ (.scalar s hy)
  ·subst e'
   have:es=[]:=List.length_eq_zero_iff.mp (by simpa using l2.symm)
   subst this
   exact q _ _ _ (.scalar s (by rw[A6]; exact hx))
 ·rename_i ds es
  obtain⟨h,rfl⟩:=e
  obtain⟨p,xs,rfl,h1,r1⟩:=hx
  obtain⟨p',ys,rfl,h2,r2⟩:=hy
  have l1:=r1.length
  have l2:=r2.length
  exact .inr (.inl ⟨p,p',xs,ys,rfl,rfl,h1,h2,by omega,fun r hr=>q _ _ _ (.own s hr ⟨_,rfl,r1.append r2⟩)⟩)
mutual
def D.py:D→Option PyData
 | .non=>some .none
 | .bl b=>some (.bool b)
 | .int i=>some (.int i)
 | .str x=>some (.str x)
 | .tup xs=>(D.pyL xs).map .tuple
 | .lst xs=>(D.pyL xs).map .list
 | .dct _=>none
 | .fn _=>none
 | .ty _=>none
 | .scr _=>none
 | .cd _=>none
 | .dd _=>none
 | .db _=>none
 | .ins _ _=>none
 | .raw _=>none
 | .exc _ _=>none
 | .wt _=>none
def D.pyL:List D→Option (List PyData)
 |[]=>some []
 |x::xs=>match D.py x,D.pyL xs with
  |some a,some as=>some (a::as)
  |_,_=>none
end
mutual
theorem Qx {G:Hp}:∀(x:D) (u:V) (p:PyData),x.py=some p→Fz B G u x→Dp B.K G u p
 | .non,u,p,e,h=>by rw[D.py]at e; cases e; rw[Fz]at h; subst h; exact .non
 | .bl b,u,p,e,h=>by rw[D.py]at e; cases e; rw[Fz]at h; subst h; exact .bl b
 | .int i,u,p,e,h=>by rw[D.py]at e; cases e; rw[Fz]at h; subst h; exact .int i
 | .str x,u,p,e,h=>by rw[D.py]at e; cases e; rw[Fz]at h; subst h; exact .str x
 | .tup xs,u,p,e,h=>by
   rw[D.py]at e
   obtain⟨ps,e1,rfl⟩:=AO.mp e
   rw[Fz]at h
   obtain⟨a,vs,rfl,h1,h2,_⟩:=h
   exact .tup h1 (dpL_of xs vs ps e1 h2)
 | .lst xs,u,p,e,h=>by
   rw[D.py]at e
   obtain⟨ps,e1,rfl⟩:=AO.mp e
   rw[Fz]at h
   obtain⟨a,vs,rfl,h1,h2⟩:=h
   exact .lst (SqL.of h1) (dpL_of xs vs ps e1 h2)
 | .dct _,_,_,e,_=>by rw[D.py]at e; cases e
 | .fn _,_,_,e,_=>by rw[D.py]at e; cases e
 | .ty _,_,_,e,_=>by rw[D.py]at e; cases e
 | .scr _,_,_,e,_=>by rw[D.py]at e; cases e
 | .cd _,_,_,e,_=>by rw[D.py]at e; cases e
 | .dd _,_,_,e,_=>by rw[D.py]at e; cases e
 | .db _,_,_,e,_=>by rw[D.py]at e; cases e
 | .ins _ _,_,_,e,_=>by rw[D.py]at e; cases e
 | .raw _,_,_,e,_=>by rw[D.py]at e; cases e
 | .exc _ _,_,_,e,_=>by rw[D.py]at e; cases e
 | .wt _,_,_,e,_=>by rw[D.py]at e; cases e
theorem dpL_of {G:Hp}:∀(xs:List D) (us:List V) (ps:List PyData),D.pyL xs=some ps→FzL B G us xs→DpAll B.K G us ps
 |[],[],ps,e,h=>by rw[D.pyL]at e; cases e; exact .nil
 |[],_::_,_,_,h=>by rw[FzL]at h; exact h.elim
 |_::_,[],_,_,h=>by rw[FzL]at h; exact h.elim
 |x::xs,u::us,ps,e,h=>by
  rw[FzL]at h
  rw[D.pyL]at e
  split at e
  ·rename_i a as e1 e2
   cases e
   exact .cons (Qx x u a e1 h.1) (dpL_of xs us as e2 h.2)
  ·cases e
end
def D.eq? (x y:D):Option Bool:=match x,y with
 | .int i,.int j=>some (i==j)
 | .str i,.str j=>some (i==j)
 | .bl i,.bl j=>some (i==j)
 |x,y=>match x.py,y.py with
  |some a,some b=>if SeqAt.shaped a=true∧SeqAt.shaped b=true then some (PyData.eqv a b)else none
  |_,_=>none
def gEq (x y:D):Option E:=(x.eq? y).map eBl
def gNe (x y:D):Option E:=(x.eq? y).map fun b=>eBl (!b)
theorem bT {α:Type} [DecidableEq α] (i j:α):decide (i=j)=(i==j):=by
 rw[Bool.eq_iff_iff]; simp
theorem mD {x y:D} {b:Bool} (h:x.eq? y=some b):(∃i j,x=.int i∧y=.int j∧b=(i==j))∨(∃i j,x=.str i∧y=.str j∧b=(i==j))∨(∃i j,x=.bl i∧y=.bl j∧b=(i==j))∨
  ∃p q,x.py=some p∧y.py=some q∧SeqAt.shaped p=true∧SeqAt.shaped q=true∧b=PyData.eqv p q:=by
 unfold D.eq? at h
 split at h
 ·cases h; exact .inl ⟨_,_,rfl,rfl,rfl⟩
 ·cases h; exact .inr (.inl ⟨_,_,rfl,rfl,rfl⟩)
 ·cases h; exact .inr (.inr (.inl ⟨_,_,rfl,rfl,rfl⟩))
 ·split at h
  ·rename_i p q e1 e2
   split at h
   ·rename_i hs
    cases h
    exact .inr (.inr (.inr ⟨p,q,e1,e2,hs.1,hs.2,rfl⟩))
   ·cases h
  ·cases h
abbrev R0 (K:PySem.W.Frag):R2:=fun x y H Q=>rEq x y H Q∨rEqD K x y H Q
abbrev R_ (K:PySem.W.Frag):R2:=fun x y H Q=>rNe x y H Q∨rNeD K x y H Q
theorem jx {X:Cx} (hu:X.A.units+64<cLine):OpR X (compareOp .Eq) (R0 X.K):=op_eq.or (op_eqD hu)
theorem gB {X:Cx} (hu:X.A.units+64<cLine):OpR X (compareOp .NotEq) (R_ X.K):=op_ne.or (op_neD hu)
theorem js:jI B gEq (R0 B.K):=by
 intro x y v a b G H Q e s hx hy q
 obtain⟨k,e1,rfl⟩:=AO.mp e
 have fin:=q _ _ _ (.scalar s (jL k))
 rcases mD e1 with⟨i,j,rfl,rfl,rfl⟩|⟨i,j,rfl,rfl,rfl⟩|⟨i,j,rfl,rfl,rfl⟩|⟨p,r,e2,e3,s1,s2,rfl⟩
 ·rw[y0 hx,y0 hy]; exact .inl ⟨rfl,by rw[dec_int]; exact fin⟩
 ·rw[xk hx,xk hy]; exact .inl ⟨rfl,by rw[dec_str]; exact fin⟩
 ·rw[Vq hx,Vq hy]; exact .inl ⟨rfl,by rw[dec_bl]; exact fin⟩
 ·exact .inr ⟨p,r,Qx _ _ _ e2 (hx.fz s),Qx _ _ _ e3 (hy.fz s),s1,s2,fin⟩
theorem gq:jI B gNe (R_ B.K):=by
 intro x y v a b G H Q e s hx hy q
 obtain⟨k,e1,rfl⟩:=AO.mp e
 have fin:=q _ _ _ (.scalar s (jL (!k)))
 rcases mD e1 with⟨i,j,rfl,rfl,rfl⟩|⟨i,j,rfl,rfl,rfl⟩|⟨i,j,rfl,rfl,rfl⟩|⟨p,r,e2,e3,s1,s2,rfl⟩
 ·rw[y0 hx,y0 hy]; exact .inl ⟨rfl,by rw[dec_int]; exact fin⟩
 ·rw[xk hx,xk hy]; exact .inl ⟨rfl,by rw[dec_str]; exact fin⟩
 ·rw[Vq hx,Vq hy]; exact .inl ⟨rfl,by rw[dec_bl]; exact fin⟩
 ·exact .inr ⟨p,r,Qx _ _ _ e2 (hx.fz s),Qx _ _ _ e3 (hy.fz s),s1,s2,fin⟩
def gLt:D→D→Option E
 | .int i,.int j=>some (eBl (decide (i<j)))
 | .str i,.str j=>some (eBl (decide (i.cps.toList<j.cps.toList)))
 |_,_=>none
def gLe:D→D→Option E
 | .int i,.int j=>some (eBl (decide (i≤j)))
 | .str i,.str j=>some (eBl (!decide (j.cps.toList<i.cps.toList)))
 |_,_=>none
def gGt:D→D→Option E
 | .int i,.int j=>some (eBl (decide (j<i)))
 |_,_=>none
def gGe:D→D→Option E
 | .int i,.int j=>some (eBl (decide (j≤i)))
 |_,_=>none
theorem OY:jI B gGt (rI0 fun i j=>.bl (decide (j<i))):=by
 intro x y v a b G H Q e s hx hy q
 cases x<;>first|exact(qp e).elim|(cases y<;>first|exact(qp e).elim|skip)
 cases Option.some.inj e
 exact⟨_,_,y0 hx,y0 hy,q _ _ _ (.scalar s (jL _))⟩
theorem t_:jI B gGe (rI0 fun i j=>.bl (decide (j≤i))):=by
 intro x y v a b G H Q e s hx hy q
 cases x<;>first|exact(qp e).elim|(cases y<;>first|exact(qp e).elim|skip)
 cases Option.some.inj e
 exact⟨_,_,y0 hx,y0 hy,q _ _ _ (.scalar s (jL _))⟩
abbrev PR:R2:=fun x y H Q=>(rI0 fun i j=>.bl (decide (i<j))) x y H Q∨(∃i j,x=.str i∧y=.str j∧Q (.bl (decide (i.cps.toList<j.cps.toList))) H)
theorem op_ltA {X:Cx}:OpR X (compareOp .Lt) PR:=op_lt.or op_lt_str
theorem nf:jI B gLt PR:=by
 intro x y v a b G H Q e s hx hy q
 cases x<;>first|exact(qp e).elim|(cases y<;>first|exact(qp e).elim|skip)
 ·cases Option.some.inj e; exact .inl ⟨_,_,y0 hx,y0 hy,q _ _ _ (.scalar s (jL _))⟩
 ·cases Option.some.inj e; exact .inr ⟨_,_,xk hx,xk hy,q _ _ _ (.scalar s (jL _))⟩
abbrev R8:R2:=fun x y H Q=>(rI0 fun i j=>.bl (decide (i≤j))) x y H Q∨(∃i j,x=.str i∧y=.str j∧Q (.bl (!decide (j.cps.toList<i.cps.toList))) H)
theorem vm {X:Cx}:OpR X (compareOp .LtE) R8:=op_le.or op_le_str
theorem kZ:jI B gLe R8:=by
 intro x y v a b G H Q e s hx hy q
 cases x<;>first|exact(qp e).elim|(cases y<;>first|exact(qp e).elim|skip)
 ·cases Option.some.inj e; exact .inl ⟨_,_,y0 hx,y0 hy,q _ _ _ (.scalar s (jL _))⟩
 ·cases Option.some.inj e; exact .inr ⟨_,_,xk hx,xk hy,q _ _ _ (.scalar s (jL _))⟩
def D.flat:D→Bool
 | .non=>true
 | .bl _=>true
 | .int _=>true
 | .str _=>true
 |_=>false
def D.eqf:D→D→Bool
 | .non,.non=>true
 | .bl a,.bl b=>a==b
 | .bl a,.int b=>(if a then 1 else 0)==b
 | .int a,.bl b=>a==(if b then 1 else 0)
 | .int a,.int b=>a==b
 | .str a,.str b=>a==b
 |_,_=>false
def D.inF (x:D) (xs:List D):Bool:=xs.any fun y=>D.eqf y x
def D.key?:D→Option Key
 | .int i=>some (.inl i)
 | .str x=>some (.inr x)
 |_=>none
def Uu (kvs:List (Key×D)) (k:Key):Option D:=(kvs.find? fun kv=>decide (kv.1=k)).map (·.2)
def D.keyN?:D→Option NestedKey
 | .tup xs=>(D.nkL xs).bind fun ks=>if NestedKey.depthAll ks+1≤8 then some (.tup ks)else none
 |_=>none
def wq (kvs:List (D×D)) (k:NestedKey):Option D:=(kvs.find? fun kv=>decide (kv.1.nk?=some k)).map (·.2)
def D.in?:D→D→Option Bool
 | .str c,.str z=>match c.cps.toList with
   |[k]=>some (decide (k∈z.cps.toList))
   |_=>none
 |x,.lst ys=>if x.flat=true∧ys.all D.flat=true then some (x.inF ys)else none
 |x,.tup ys=>if x.flat=true∧ys.all D.flat=true then some (x.inF ys)else none
 |x,.dct kvs=>x.key?.map fun k=>(Uu kvs k).isSome
 | .str z,.cd kvs=>some (kvs.lookup z).isSome
 |x,.dd kvs=>x.keyN?.map fun k=>(wq kvs k).isSome
 |_,_=>none
def gIn (x y:D):Option E:=(x.in? y).map eBl
theorem wK {G:Hp} {x:D} {u:V} (h:Fz B G u x) (f:x.flat=true):flatV u=true:=by
 cases x<;>simp[D.flat]at f<;>rw[Fz]at h<;>subst h<;>rfl
theorem UW {G:Hp}:∀{ds:List D} {us:List V},FzL B G us ds→ds.all D.flat=true→us.all flatV=true
 |[],[],_,_=>rfl
 |[],_::_,h,_=>by rw[FzL]at h; exact h.elim
 |_::_,[],h,_=>by rw[FzL]at h; exact h.elim
 |d::ds,u::us,h,f=>by
  rw[FzL]at h
  rw[List.all_cons,Bool.and_eq_true]at f⊢
  exact⟨wK h.1 f.1,UW h.2 f.2⟩
theorem NB {G:Hp} {x y:D} {u v:V} (h:Fz B G u x) (h':Fz B G v y) (f:x.flat=true) (f':y.flat=true):eqV u v=x.eqf y:=by
 cases x<;>simp[D.flat]at f<;>rw[Fz]at h<;>subst h<;>cases y<;>simp[D.flat]at f'<;>rw[Fz]at h'<;>subst h'<;>rfl
theorem Kd {G:Hp} {x:D} {v:V} (h:Fz B G v x) (f:x.flat=true):∀{ds:List D} {us:List V},FzL B G us ds→ds.all D.flat=true→inV v us=x.inF ds
 |[],[],_,_=>rfl
 |[],_::_,h,_=>by rw[FzL]at h; exact h.elim
 |_::_,[],h,_=>by rw[FzL]at h; exact h.elim
 |d::ds,u::us,h1,f1=>by
  rw[FzL]at h1
  rw[List.all_cons,Bool.and_eq_true]at f1
  have q:=Kd h f h1.2 f1.2
  unfold inV D.inF at q⊢
  rw[List.any_cons,List.any_cons,NB h1.1 h f1.1 f,q]
theorem s_ {G:Hp} {x:D} {u:V} {k:Key} (h:Fz B G u x) (e:x.key?=some k):u=kV k:=by
 cases x<;>simp[D.key?]at e<;>subst e<;>rw[Fz]at h<;>exact h
theorem pV {G:Hp} {k:Key}:∀{ds:List (Key×D)} {kvs:List (Key×V)},FzK B G kvs ds→match Uu ds k with
  |some d=>∃v,valV kvs k=some v∧Fz B G v d
  |none=>valV kvs k=none
 |[],[],_=>rfl
 |[],_::_,h=>by rw[FzK]at h; exact h.elim
 |_::_,[],h=>by rw[FzK]at h; exact h.elim
 |d::ds,p::kvs,h=>by
  rw[FzK]at h
  by_cases hk:d.1=k
  ·have e1:Uu (d::ds) k=some d.2:=by unfold Uu; rw[List.find?_cons_of_pos (by simpa using hk)]; rfl
   rw[e1]
   exact⟨p.2,valV_pos (h.1.trans hk),h.2.1⟩
  ·have e1:Uu (d::ds) k=Uu ds k:=by unfold Uu; rw[List.find?_cons_of_neg (by simpa using hk)]
   rw[e1,valV_neg (fun z=>hk (h.1.symm.trans z))]
   exact pV h.2.2
theorem d0 {G:Hp} {k:Key} {ds:List (Key×D)} {kvs:List (Key×V)} {d:D} (h:FzK B G kvs ds) (e:Uu ds k=some d):∃v,valV kvs k=some v∧Fz B G v d:=by
 have:=pV (k:=k) h
 rw[e]at this; exact this
theorem oH {G:Hp} {k:Key} {ds:List (Key×D)} {kvs:List (Key×V)} (h:FzK B G kvs ds) (e:Uu ds k=none):valV kvs k=none:=by
 have:=pV (k:=k) h
 rw[e]at this; exact this
theorem mY {G:Hp} {k:Key} {ds:List (Key×D)} {kvs:List (Key×V)} (h:FzK B G kvs ds):(valV kvs k).isSome=(Uu ds k).isSome:=by
 cases e:Uu ds k with
 |some d=>obtain⟨v,e1,_⟩:=d0 h e; rw[e1]; rfl
 |none=>rw[oH h e]; rfl
theorem pq {G:Hp} {a:Addr} {z:Str}:∀{kvs:List (Str×D)} {d:D},FzC B G a kvs→kvs.lookup z=some d→∃u v,PySem.W.nsIn B.K a z=some (some u)∧RelV v u∧Fz B G v d
 |[],_,_,e=>by cases e
 |p::kvs,d,h,e=>by
  rw[FzC]at h
  rw[List.lookup_cons]at e
  split at e
  ·rename_i hb
   have hz:z=p.1:=by simpa using hb
   cases e
   subst hz
   exact h.1
  ·exact pq h.2 e
theorem O5 {G H:Hp} {x:D} {u:V} {k:NestedKey} (s:Same G H) (h:Fz B G u x) (e:x.keyN?=some k):KeyA B.K H k u:=by
 cases x<;>simp only[D.keyN?,reduceCtorEq]at e
 rename_i xs
 obtain⟨ks,e1,e2⟩:=Bc.mp e
 split at e2
 ·rename_i hd
  cases e2
  have n:=rD s (.tup xs) u (.tup ks) (by rw[D.nk?,e1]; rfl) h
  rw[Fz]at h
  obtain⟨a,us,rfl,_⟩:=h
  exact⟨a,rfl,n,hd⟩
 ·cases e2
theorem ck {G H:Hp} {x:D} {u:V} {k:NestedKey} (s:Same G H) (h:Tz B G H u x) (e:x.keyN?=some k):KeyA B.K H k u:=by
 cases x<;>first|exact O5 s h e|(simp only[D.keyN?,reduceCtorEq]at e)
theorem mS {G H:Hp} (s:Same G H):∀{ds:List (D×D)} {es:EnL},FzD B G es ds→DnK B.K H es
 |[],[],_=>fun e he=>by simp at he
 |[],_::_,h=>by rw[FzD]at h; exact h.elim
 |_::_,[],h=>by rw[FzD]at h; exact h.elim
 |d::ds,e::es,h=>fun e' he=>by
  rw[FzD]at h
  rcases List.mem_cons.mp he with rfl|he
  ·exact⟨rD s _ _ _ h.1.1 h.2.1,h.1.2⟩
  ·exact mS s h.2.2.2 e' he
theorem pG {G:Hp} {k:NestedKey}:∀{ds:List (D×D)} {es:EnL},FzD B G es ds→match wq ds k with
  |some d=>∃a v,XB es k=some (a,v)∧Fz B G v d
  |none=>XB es k=none
 |[],[],_=>rfl
 |[],_::_,h=>by rw[FzD]at h; exact h.elim
 |_::_,[],h=>by rw[FzD]at h; exact h.elim
 |d::ds,e::es,h=>by
  rw[FzD]at h
  by_cases hk:e.1=k
  ·have e1:wq (d::ds) k=some d.2:=by unfold wq; rw[List.find?_cons_of_pos (by simp[h.1.1,hk])]; rfl
   have e2:XB (e::es) k=some e.2:=by unfold XB; rw[List.find?_cons_of_pos (by simpa using hk)]; rfl
   rw[e1]
   exact⟨e.2.1,e.2.2,e2,h.2.2.1⟩
  ·have e1:wq (d::ds) k=wq ds k:=by unfold wq; rw[List.find?_cons_of_neg (by simp[h.1.1,hk])]
   have e2:XB (e::es) k=XB es k:=by unfold XB; rw[List.find?_cons_of_neg (by simpa using hk)]
   rw[e1,e2]
   exact pG h.2.2.2
theorem vL {G:Hp} {k:NestedKey} {ds:List (D×D)} {es:EnL} (h:FzD B G es ds):(XB es k).isSome=(wq ds k).isSome:=by
 have:=pG (k:=k) h
 cases e:wq ds k with
 |some d=>rw[e]at this; obtain⟨a,v,q,_⟩:=this; rw[q]; rfl
 |none=>rw[e]at this; rw[this]; rfl
def R4 (K:PySem.W.Frag) (w:World) (neg:Bool):R2:=fun x y H Q=>∃b,Q (.bl (if neg then !b else b)) H∧
 ((∃c:Nat,∃z:Str,∃s:Str,x=.str s∧s.cps.toList=[c]∧y=.str z∧b=decide (c∈z.cps.toList))∨
  (∃p xs,y=.ref p∧(SqL K H p xs∨SqT K H p xs)∧flatV x=true∧xs.all flatV=true∧b=inV x xs)∨
  (∃p kvs k,y=.ref p∧H p=some (.dK kvs)∧x=kV k∧b=(valV kvs k).isSome)∨
  (∃p es n z r,y=.ref p∧KDict K w p es n∧x=.str z∧PySem.W.nsIn K p z=some r∧b=r.isSome)∨
  (∃p es k,y=.ref p∧dq K w H p es∧KeyA K H k x∧b=(XB es k).isSome))
theorem cx {X:Cx} (hu:X.A.units+64<cLine):OpR X (compareOp .In) (R4 X.K X.w false):=by
 intro pins s σ H x y v u Q I rx ry h
 obtain⟨b,q,h|h|h|h|h⟩:=h
 ·obtain⟨c,z,sg,rfl,e,rfl,rfl⟩:=h
  have es:sg=⟨#[c]⟩:=by
   cases sg with
   |mk cps=>simp at e; congr 1; apply Array.toList_inj.mp; simpa using e
  subst es
  exact op_in_sign pins s σ H _ _ v u Q I rx ry ⟨c,z,rfl,rfl,q⟩
 ·obtain⟨p,xs,rfl,hq,f1,f2,rfl⟩:=h
  exact op_in_seq pins s σ H _ _ v u Q I rx ry ⟨p,xs,rfl,hq,f1,f2,q⟩
 ·obtain⟨p,kvs,k,rfl,hq,rfl,rfl⟩:=h
  obtain rfl:u=Value.ref p:=ry
  exact d_in (by omega) I (DGet.k hq) rx fun s' I'=>⟨.bl _,H,I',rfl,q⟩
 ·obtain⟨p,es,n,z,r,rfl,kd,rfl,e,rfl⟩:=h
  exact op_in_kd kd pins s σ H _ _ v u Q I rx ry ⟨z,r,rfl,rfl,e,q⟩
 ·obtain⟨p,es,k,rfl,dn,ka,rfl⟩:=h
  exact Pt hu pins s σ H _ _ v u Q I rx ry ⟨p,es,k,rfl,dn,ka,q⟩
theorem O3 {x y:D} {b:Bool} {u v:V} {G H:Hp} (e:x.in? y=some b) (s:Same G H) (hx:Tz B G H u x) (hy:Tz B G H v y) :
   (∃c:Nat,∃z:Str,∃s:Str,u=.str s∧s.cps.toList=[c]∧v=.str z∧b=decide (c∈z.cps.toList))∨
  (∃p xs,v=.ref p∧(SqL B.K H p xs∨SqT B.K H p xs)∧flatV u=true∧xs.all flatV=true∧b=inV u xs)∨
  (∃p kvs k,v=.ref p∧H p=some (.dK kvs)∧u=kV k∧b=(valV kvs k).isSome)∨
  (∃p es n z r,v=.ref p∧KDict B.K B.w p es n∧u=.str z∧PySem.W.nsIn B.K p z=some r∧b=r.isSome)∨
  (∃p es k,v=.ref p∧dq B.K B.w H p es∧KeyA B.K H k u∧b=(XB es k).isSome):=by
 unfold D.in? at e
 split at e
 ·split at e
  ·rename_i k hk
   cases e
   exact .inl ⟨k,_,_,xk hx,hk,xk hy,rfl⟩
  ·cases e
 ·split at e
  ·rename_i ys hf
   cases e
   obtain⟨p,xs,rfl,h1,h2⟩:=hy
   have h2:=FzL.mono s _ _ h2
   have hx':=hx.fz s
   exact .inr (.inl ⟨p,xs,rfl,.inl (SqL.of h1),wK hx' hf.1,UW h2 hf.2,(Kd hx' hf.1 h2 hf.2).symm⟩)
  ·cases e
 ·split at e
  ·rename_i ys hf
   cases e
   obtain⟨p,xs,rfl,h1,h2⟩:=qO hy
   have h2:=FzL.mono s _ _ h2
   have hx':=hx.fz s
   exact .inr (.inl ⟨p,xs,rfl,.inr (BY s h1),wK hx' hf.1,UW h2 hf.2,(Kd hx' hf.1 h2 hf.2).symm⟩)
  ·cases e
 ·obtain⟨k,e1,rfl⟩:=AO.mp e
  obtain⟨p,kvs,rfl,h1,h2⟩:=hy
  exact .inr (.inr (.inl ⟨p,kvs,k,rfl,h1,s_ (hx.fz s) e1,(mY h2).symm⟩))
 ·cases e
  rename_i z kvs
  have hy:Fz B G v (.cd kvs):=hy
  rw[Fz]at hy
  obtain⟨a,rfl,⟨⟨es,n,kd,_⟩,hn⟩,hc⟩:=hy
  cases el:kvs.lookup z with
  |some d=>
   obtain⟨u0,v0,e0,_,_⟩:=pq hc el
   exact .inr (.inr (.inr (.inl ⟨a,es,n,z,_,rfl,kd,xk hx,e0,rfl⟩)))
  |none=>exact .inr (.inr (.inr (.inl ⟨a,es,n,z,_,rfl,kd,xk hx,hn z el,rfl⟩)))
 ·obtain⟨k,e1,rfl⟩:=AO.mp e
  obtain⟨p,ob,es,rfl,h1,h2⟩:=hy
  exact .inr (.inr (.inr (.inr ⟨p,es,k,rfl,⟨ob,h1,mS s h2⟩,ck s hx e1,(vL h2).symm⟩)))
 ·cases e
theorem cb:jI B gIn (R4 B.K B.w false):=by
 intro x y v a b G H Q e s hx hy q
 obtain⟨k,e1,rfl⟩:=AO.mp e
 exact⟨k,q _ _ _ (.scalar s (jL k)),O3 e1 s hx hy⟩
def D.is?:D→D→Option Bool
 | .bl a,.bl b=>some (decide (a=b))
 | .non,.non=>some true
 | .bl _,.non=>some false
 | .int _,.non=>some false
 | .str _,.non=>some false
 | .tup _,.non=>some false
 | .lst _,.non=>some false
 | .dct _,.non=>some false
 | .dd _,.non=>some false
 | .ins _ _,.non=>some false
 | .exc _ _,.non=>some false
 |_,_=>none
def gIs (x y:D):Option E:=(x.is? y).map eBl
def yj (x y:D):Option E:=(x.is? y).map fun b=>eBl (!b)
abbrev R5:R2:=fun x y H Q=>(y=.non∧Q (.bl (decide (x=.non))) H)∨rIsB x y H Q
abbrev NZ:R2:=fun x y H Q=>(y=.non∧Q (.bl (!decide (x=.non))) H)∨rNotB x y H Q
theorem cy {X:Cx}:OpR X (compareOp .Is) R5:=op_isN.or op_isBl
theorem MY {X:Cx}:OpR X (compareOp .IsNot) NZ:=op_notN.or op_notBl
theorem Ki {x y:D} {b:Bool} {u v:V} {G H:Hp} (e:x.is? y=some b) (hx:Tz B G H u x) (hy:Tz B G H v y) :
  (v=.non∧b=decide (u=.non))∨∃p q:Bool,u=.bl p∧v=.bl q∧b=decide (p=q):=by
 unfold D.is? at e
 split at e<;>cases e
 ·exact .inr ⟨_,_,Vq hx,Vq hy,rfl⟩
 ·exact .inl ⟨Zm hy,by rw[Zm hx]; simp⟩
 ·exact .inl ⟨Zm hy,by rw[Vq hx]; simp⟩
 ·exact .inl ⟨Zm hy,by rw[y0 hx]; simp⟩
 ·exact .inl ⟨Zm hy,by rw[xk hx]; simp⟩
 ·obtain⟨p,xs,rfl,_⟩:=qO hx; exact .inl ⟨Zm hy,by simp⟩
 ·obtain⟨p,xs,rfl,_⟩:=hx; exact .inl ⟨Zm hy,by simp⟩
 ·obtain⟨p,xs,rfl,_⟩:=hx; exact .inl ⟨Zm hy,by simp⟩
 ·obtain⟨p,ob,xs,rfl,_⟩:=hx; exact .inl ⟨Zm hy,by simp⟩
 ·obtain⟨p,C,dx,xs,rfl,_⟩:=hx; exact .inl ⟨Zm hy,by simp⟩
 ·have hx:Fz B G u (.exc _ _):=hx
  rw[Fz]at hx; obtain⟨p,C,dx,rfl,_⟩:=hx; exact .inl ⟨Zm hy,by simp⟩
theorem ci:jI B gIs R5:=by
 intro x y v a b G H Q e s hx hy q
 obtain⟨k,e1,rfl⟩:=AO.mp e
 have fin:=q _ _ _ (.scalar s (jL k))
 rcases Ki e1 hx hy with⟨h1,h2⟩|⟨p,r,h1,h2,h3⟩
 ·exact .inl ⟨h1,by rw[←h2]; exact fin⟩
 ·exact .inr ⟨p,r,h1,h2,by rw[←h3]; exact fin⟩
theorem Mz:jI B yj NZ:=by
 intro x y v a b G H Q e s hx hy q
 obtain⟨k,e1,rfl⟩:=AO.mp e
 have fin:=q _ _ _ (.scalar s (jL (!k)))
 rcases Ki e1 hx hy with⟨h1,h2⟩|⟨p,r,h1,h2,h3⟩
 ·exact .inl ⟨h1,by rw[←h2]; exact fin⟩
 ·exact .inr ⟨p,r,h1,h2,by rw[←h3]; exact fin⟩
def gIx:D→D→Option E
 | .lst xs,.int i=>(atI xs i).map .d
 | .tup xs,.int i=>(atI xs i).map .d
 | .scr ns,.int i=>(atI ns i).map zN
 | .str z,.int i=>if z.length≤sizeLine then(atI z.cps.toList i).map (fun c=>z_ ⟨#[c]⟩)else none
 | .dct kvs,k=>k.key?.bind fun k=>(Uu kvs k).map .d
 | .cd kvs,.str z=>(kvs.lookup z).map .d
 | .dd kvs,k=>k.keyN?.bind fun k=>(wq kvs k).map .d
 |_,_=>none
theorem L6 {α β:Type} {f:α→β} {xs:List α} {i:Int}:atI (xs.map f) i=(atI xs i).map f:=by
 unfold atI
 rw[List.length_map]
 cases ixN xs.length i with
 |none=>rfl
 |some j=>simp
theorem FzL.at {G:Hp} {ds:List D} {us:List V} {i:Int} {d:D} (h:FzL B G us ds) (e:atI ds i=some d):∃u,atI us i=some u∧Fz B G u d:=by
 unfold atI at e⊢
 rw[h.length]
 cases hx:ixN ds.length i with
 |none=>rw[hx]at e; cases e
 |some j=>
  rw[hx]at e
  exact h.get (i:=j) e
def N0:R2:=fun x y H Q=>∃p kvs k v,x=.ref p∧y=kV k∧H p=some (.dK kvs)∧valV kvs k=some v∧Q v H
theorem RI {X:Cx} (hu:X.A.units+64<cLine):IxR X N0:=by
 intro value slice pins s σ H x y v u Q I rx ry h hs
 obtain⟨p,kvs,k,z,rfl,rfl,hp,hv,q⟩:=h
 obtain rfl:v=Value.ref p:=rx
 have g:DGet H p (kV k) (some z):=by rw[←hv]; exact DGet.k hp
 exact tail_any (dict_typeIs I g) PySem.F.slot_dict_getitem.lookup (d_getItem (by omega) I g ry fun w' s' I' r'=>⟨z,H,I',r',q⟩) hs
abbrev R6 (K:PySem.W.Frag) (w:World):R2:=fun x y H Q=>((rIx K x y H Q∨N0 x y H Q)∨rIxD K w x y H Q)∨R7 K w x y H Q
theorem zR {X:Cx} (hu:X.A.units+64<cLine):IxR X (R6 X.K X.w):=((ix_seq.or (RI hu)).or ix_kdict).or (SO hu)
theorem zS:jI B gIx (R6 B.K B.w):=by
 intro x y v a b G H Q e s hx hy q
 unfold gIx at e
 split at e
 ·obtain⟨d,e1,rfl⟩:=AO.mp e
  obtain⟨p,us,rfl,h1,h2⟩:=hx
  obtain⟨u,e2,hf⟩:=h2.at e1
  exact .inl (.inl (.inl (.inl ⟨p,us,_,u,rfl,y0 hy,SqL.of h1,e2,q _ _ _ (.scalar s hf)⟩)))
 ·obtain⟨d,e1,rfl⟩:=AO.mp e
  obtain⟨p,us,rfl,h1,h2⟩:=qO hx
  obtain⟨u,e2,hf⟩:=h2.at e1
  exact .inl (.inl (.inl (.inr (.inl ⟨p,us,_,u,rfl,y0 hy,BY s h1,e2,q _ _ _ (.scalar s hf)⟩))))
 ·rename_i ns i
  obtain⟨d,e1,rfl⟩:=AO.mp e
  have hx:Fz B G a (.scr ns):=hx
  rw[Fz]at hx
  obtain⟨p,rfl,h1⟩:=hx
  exact .inl (.inl (.inl (.inl ⟨p,_,_,.int d,rfl,y0 hy,Same.seq s h1,by rw[L6,e1]; rfl,q _ _ _ (.scalar s (xu _))⟩)))
 ·split at e
  ·rename_i hz
   obtain⟨c,e1,rfl⟩:=AO.mp e
   exact .inl (.inl (.inl (.inr (.inr ⟨_,_,c,xk hx,y0 hy,hz,e1,q _ _ _ (.scalar s (YC _))⟩))))
  ·cases e
 ·obtain⟨k,e1,e2⟩:=Bc.mp e
  obtain⟨d,e3,rfl⟩:=AO.mp e2
  obtain⟨p,kvs,rfl,h1,h2⟩:=hx
  obtain⟨w,e4,hf⟩:=d0 h2 e3
  exact .inl (.inl (.inr ⟨p,kvs,k,w,rfl,s_ (hy.fz s) e1,h1,e4,q _ _ _ (.scalar s hf)⟩))
 ·rename_i kvs z
  obtain⟨d,e1,rfl⟩:=AO.mp e
  have hx:Fz B G a (.cd kvs):=hx
  rw[Fz]at hx
  obtain⟨p,rfl,⟨⟨es,n,kd,_⟩,hn⟩,hc⟩:=hx
  obtain⟨u0,v0,e0,r0,f0⟩:=pq hc e1
  exact .inl (.inr ⟨p,z,v0,rfl,xk hy,⟨es,n,u0,kd.at_,kd.lit,e0,r0⟩,q _ _ _ (.scalar s f0)⟩)
 ·obtain⟨k,e1,e2⟩:=Bc.mp e
  obtain⟨d,e3,rfl⟩:=AO.mp e2
  obtain⟨p,ob,es,rfl,h1,h2⟩:=hx
  have:=pG (k:=k) h2
  rw[e3]at this
  obtain⟨a,w,e4,hf⟩:=this
  exact .inr ⟨p,es,k,a,w,rfl,⟨ob,h1,mS s h2⟩,ck s hy e1,e4,q _ _ _ (.scalar s hf)⟩
 ·cases e
end
section
variable {X:Cx} {W:WX'} {a b c e:Expr} {rest es:List Expr} {fa fb fc:AK} {ta tb:List S→Res Bool} {fs:List S→Res (List E)} {pos:Pos}
def aT (f:AK):List S→Res Bool:=fun ρ=>(f ρ).bind fun v ρ1=>match v with
 | .d (.bl b)=>.ok b ρ1
 |_=>.no
theorem uV {B:Bk} {σ:St} {H:Hp} {Q:Bool→Hp→Prop} {f:AK} (h:Xn B W (aT f) σ H Q):jb B W f σ H (fun x H'=>∃k,x=.bl k∧Q k H'):=by
 obtain⟨G,ρ,r,h⟩:=h
 refine yr (yx r (AftT.cl (Q:=Q)) h) fun u H1 ⟨v,ρ1,G1,P,h1⟩=>?_
 obtain⟨x,e,re⟩:=P.re 0 v rfl
 cases e
 split at h1
 ·rename_i k
  have re:Fz B G1 u (.bl k):=re
  rw[Fz]at re
  exact⟨k,re,h1 _ _ P.post⟩
 ·exact h1.elim
theorem xU {f:AK} (h:PEa X W a f) (he:∀whole,isTrue a X.env whole=(do let v←whole; standAt a.pos; holding [v] (truthy v)):=by intro _; rfl):PTa X W a (aT f):=
 cE (pt_val h he) fun σ H Q q=>uV q
theorem xH {op:CmpOp} {g:D→D→Option E} {r:R2} (ho:OpR X (compareOp op) r) (sn:jI X.bk g r) (ha:PEa X W a fa) (hb:PEa X W b fb) (hm:behindInMarks op b=false:=by first|exact nomark _|rfl):PTa X W (.Compare a [op] [b] pos) (aT (zg g fa fb)):=
 cE (pt_cmpR ho ha hb hm) fun σ H Q q=>uL sn σ H _ (uV q)
def D.truth:D→Option Bool
 | .non=>some false
 | .bl b=>some b
 | .int i=>some (i != 0)
 | .str x=>if x.length≤sizeLine then some ((x.length:Int) != 0)else none
 | .lst xs=>some (!xs.isEmpty)
 | .tup xs=>some (!xs.isEmpty)
 | .dct xs=>some (!xs.isEmpty)
 |_=>none
def zz (t:List S→Res Bool):List S→Res Bool:=fun ρ=>(t ρ).bind fun c ρ1=>.ok (!c) ρ1
theorem qC (h:PTa X W a ta):PTa X W (.UnaryOp .Not a pos) (zz ta):=
 cE (pt_not h) fun σ H Q ⟨G,ρ,r,h⟩=>by
  refine Xo (Xp (Pend.nil r) (AftT.cl (Q:=Q)) h) fun c H1 ⟨ρ1,G1,p,h1⟩=>h1 _ _ p
def zF (t u:List S→Res Bool):List S→Res Bool:=fun ρ=>(t ρ).bind fun c ρ1=>if c=true then u ρ1 else .ok false ρ1
def zW (t u:List S→Res Bool):List S→Res Bool:=fun ρ=>(t ρ).bind fun c ρ1=>if c=true then .ok true ρ1 else u ρ1
abbrev PWa (X:Cx) (W:WX') (e:Expr) (f:List S→Res Bool):Prop:=PW X e (Xn X.bk W f)
theorem Lf {e:Expr} {t t':TT} (h:PW X e t) (w:∀σ H Q,t' σ H Q→t σ H Q):PW X e t':=⟨fun wh pins s σ H Q I q=>h.run wh pins s σ H Q I (w σ H Q q)⟩
theorem lT (h:PTa X W a ta):PWa X W (.BoolOp .And [a] pos) ta:=pw_and1 h
theorem Jo (h:PTa X W a ta):PWa X W (.BoolOp .Or [a] pos) ta:=pw_or1 h
theorem sy {B:Bk} {σ:St} {ρ ρ1:List S} {H H1 G G1:Hp} {Q:Bool→Hp→Prop} {r:Res Bool} (p:Post B σ ρ H G σ ρ1 H1 G1) (h:AftT B W σ ρ H G Q r):AftT B W σ ρ1 H1 G1 Q r:=by
 induction r with
 |ok b ρ'=>exact fun H' G' q=>h H' G' (p.trans q)
 |ex x ρ'=>exact Out.back h p
 |no=>exact h
 |new τ k ih=>exact fun a e=>ih a (h a e)
theorem pQ {B:Bk} {σ:St} {ρ ρ1:List S} {H H1 G G1:Hp} {u:V} {v:E} (p:Post B σ ρ H G σ ρ1 H1 G1) (h:XF H1 u v):XF H u v:=by
 cases v with
 |d x=>trivial
 |sl i=>trivial
 |ad a=>trivial
 |fr o=>exact fun a e=>p.dom a (h a e)
theorem lY {B:Bk} {σ:St} {ρ ρ1:List S} {H H1 G G1:Hp} {Q:VK} {r:Res E} (p:Post B σ ρ H G σ ρ1 H1 G1) (h:Aft B W σ ρ H G Q r):Aft B W σ ρ1 H1 G1 Q r:=by
 induction r with
 |ok b ρ'=>exact fun u H' G' q re fr=>h u H' G' (p.trans q) re (pQ p fr)
 |ex x ρ'=>exact Out.back h p
 |no=>exact h
 |new τ k ih=>exact fun a e=>ih a (h a e)
theorem lU (ha:PTa X W a ta) (hb:PWa X W (.BoolOp .And (b::rest) pos) tb):PWa X W (.BoolOp .And (a::b::rest) pos) (zF ta tb):=
 Lf (pw_and ha hb) fun σ H Q ⟨G,ρ,r,h⟩=>by
  refine Xo (Xp (Pend.nil r) (AftT.cl (Q:=Q)) h) fun c H1 ⟨ρ1,G1,p,h1⟩=>?_
  cases c with
  |true=>rw[if_pos rfl]at h1⊢; exact⟨G1,ρ1,p.rel,sy p h1⟩
  |false=>rw[if_neg Bn]at h1⊢; exact h1 _ _ p
theorem Xb (ha:PTa X W a ta) (hb:PWa X W (.BoolOp .Or (b::rest) pos) tb):PWa X W (.BoolOp .Or (a::b::rest) pos) (zW ta tb):=
 Lf (pw_or ha hb) fun σ H Q ⟨G,ρ,r,h⟩=>by
  refine Xo (Xp (Pend.nil r) (AftT.cl (Q:=Q)) h) fun c H1 ⟨ρ1,G1,p,h1⟩=>?_
  cases c with
  |false=>rw[if_neg Bn]at h1⊢; exact⟨G1,ρ1,p.rel,sy p h1⟩
  |true=>rw[if_pos rfl]at h1⊢; exact h1 _ _ p
def zB (f g:AK):AK:=fun ρ=>(aT f ρ).bind fun c ρ1=>if c=true then g ρ1 else .ok (.d (.bl false)) ρ1
def yl (f g:AK):AK:=fun ρ=>(aT f ρ).bind fun c ρ1=>if c=true then .ok (.d (.bl true)) ρ1 else g ρ1
def zK (f:AK):AK:=fun ρ=>(aT f ρ).bind fun c ρ1=>.ok (.d (.bl (!c))) ρ1
theorem aTV {B:Bk} {σ:St} {H G:Hp} {ρ:List S} {Q:VK} {f:AK} {k:Bool→AK} (r:Rel B G σ ρ H) (h:Aft B W σ ρ H G Q ((aT f ρ).bind k)) :
  jb B W f σ H (fun x H1=>∃c,x=.bl c∧∃ρ1 G1,Post B σ ρ H G σ ρ1 H1 G1∧Aft B W σ ρ H G Q (k c ρ1)):=by
 refine uV ⟨G,ρ,r,?_⟩
 generalize aT f ρ=r at h
 induction r with
 |ok c ρ1=>exact fun H' G' p=>⟨ρ1,G',p,h⟩
 |ex x ρ1=>exact h
 |no=>exact h
 |new τ k ih=>exact fun a e=>ih a (h a e)
theorem Xa {op} (h:PEa X W a fa):PEa X W (.BoolOp op [a] pos) fa:=pe_one h
theorem jj (ha:PEa X W a fa) (hb:PEa X W (.BoolOp .And (b::rest) pos) fb):PEa X W (.BoolOp .And (a::b::rest) pos) (zB fa fb):=
 xv (pe_and ha hb) fun σ H Q ⟨G,ρ,r,h⟩=>by
  refine yr (aTV r h) fun x H1 ⟨c,e,ρ1,G1,p,h1⟩=>⟨c,e,?_⟩
  cases c with
  |true=>rw[if_pos rfl]at h1⊢; exact⟨G1,ρ1,p.rel,lY p h1⟩
  |false=>rw[if_neg Bn]at h1⊢; exact h1.fin p (.scalar p.rel.sub (jL _))
def aIf (t:List S→Res Bool) (f g:AK):AK:=fun ρ=>(t ρ).bind fun c ρ1=>if c=true then f ρ1 else g ρ1
theorem dA (hc:PTa X W c ta) (ha:PEa X W a fa) (hb:PEa X W b fb):PEa X W (.IfExp c a b pos) (aIf ta fa fb):=
 xv (pe_ifExp hc ha hb) fun σ H Q ⟨G,ρ,r,h⟩=>by
  refine Xo (Xp (Pend.nil r) (Aft.cl (Q:=Q)) h) fun c H1 ⟨ρ1,G1,p,h1⟩=>?_
  cases c with
  |true=>rw[if_pos rfl]at h1⊢; exact⟨G1,ρ1,p.rel,lY p h1⟩
  |false=>rw[if_neg Bn]at h1⊢; exact⟨G1,ρ1,p.rel,lY p h1⟩
def zr (g g':D→D→Option E) (fa fb fc:AK):AK:=fun ρ=>(fa ρ).bind fun va ρ1=>(fb ρ1).bind fun vb ρ2=>
 match va.val ρ2,vb with
 |some x,.d y=>match g x y with
  |some (.d (.bl true))=>(fc ρ2).bind fun vc ρ3=>zX g' (.d y) vc ρ3
  |some (.d (.bl false))=>.ok (.d (.bl false)) ρ2
  |_=>.no
 |_,_=>.no
theorem dG {B:Bk} {g g':D→D→Option E} {r r':R2} (sn:jI B g r) (sn':jI B g' r') (nb:∀x y v,g x y=some v→∃k,v=eBl k) (σ:St) (H:Hp) (Q:VK) (h:jb B W (zr g g' fa fb fc) σ H Q) :
  tChain r r' (jb B W fa) (jb B W fb) (jb B W fc) σ H Q:=by
 obtain⟨G,ρ,rl,h⟩:=h
 refine yr (yx rl (Aft.cl (Q:=Q)) h) fun u1 H1 ⟨va,ρa,Ga,P1,h1⟩=>?_
 refine yr (Z_ P1 (Aft.cl (Q:=Q)) h1) fun u2 H2 ⟨vb,ρb,Gb,P2,h2⟩=>?_
 obtain⟨x1,ex1,rx1⟩:=P2.re 0 va rfl
 obtain⟨x2,ex2,rx2⟩:=P2.re 1 vb rfl
 cases ex1
 cases ex2
 split at h2
 ·rename_i dx dy hx
  have fy:Fz B Gb u2 dy:=rx2
  have ty:Tz B Gb H2 u2 dy:=Fz.tz P2.post.rel.sub fy
  cases eg:g dx dy with
  |none=>rw[eg]at h2; exact h2.elim
  |some z=>
   refine sn dx dy z _ _ Gb H2 _ eg P2.post.rel.sub (P2.post.rel.val rx1 hx) ty fun w H' G' n=>?_
   obtain⟨k,rfl⟩:=nb _ _ _ eg
   have hw:Fz B G' w (.bl k):=n.val
   rw[Fz]at hw
   obtain⟨p3,_,_⟩:=n.post P2.post
   refine⟨k,hw,?_⟩
   rw[eg]at h2
   cases k with
   |false=>rw[if_neg Bn]; exact h2.fin p3 (.scalar p3.rel.sub (jL _))
   |true=>
    rw[if_pos rfl]
    have pd:Pend B σ ρ H G ρb H' G' [u2] [.d dy]:=by
     refine⟨p3,rfl,fun i v e=>?_,fun i o a e=>?_,fun i j o o' a e=>?_⟩
     ·cases i with
      |zero=>cases e; exact⟨u2,rfl,Fz.mono n.grow _ _ fy⟩
      |succ i=>simp at e
     ·cases i with
      |zero=>cases e
      |succ i=>simp at e
     ·cases i with
      |zero=>cases e
      |succ i=>simp at e
    refine yr (Z_ pd (Aft.cl (Q:=Q)) h2) fun u3 H3 ⟨vc,ρc,Gc,P3,h3⟩=>?_
    obtain⟨x3,ex3,rx3⟩:=P3.re 0 _ rfl
    obtain⟨x4,ex4,rx4⟩:=P3.re 1 vc rfl
    cases ex3
    cases ex4
    unfold zX at h3
    split at h3
    ·rename_i d1 dz hx' hz
     split at h3
     ·rename_i z' hz'
      exact sn' d1 dz z' _ _ Gc H3 Q hz' P3.post.rel.sub (P3.post.rel.val rx3 hx') (P3.post.rel.val rx4 hz) fun w H' G' n=>h3.fin P3.post n
     ·exact h3.elim
    ·exact h3.elim
 ·exact h2.elim
theorem LX {op op':CmpOp} {g g':D→D→Option E} {r r':R2} (ho:OpR X (compareOp op) r) (ho':OpR X (compareOp op') r') (sn:jI X.bk g r) (sn':jI X.bk g' r') (nb:∀x y v,g x y=some v→∃k,v=eBl k)
  (ha:PEa X W a fa) (hb:PEa X W b fb) (hc:PEa X W c fc) (hm:lastMarks [op,op'] [b,c]=false:=by with_unfolding_all rfl):PEa X W (.Compare a [op,op'] [b,c] pos) (zr g g' fa fb fc):=
 xv (pe_chain ho ho' ha hb hc hm) (dG sn sn' nb)
theorem iV {op op':CmpOp} {g g':D→D→Option E} {r r':R2} (ho:OpR X (compareOp op) r) (ho':OpR X (compareOp op') r') (sn:jI X.bk g r) (sn':jI X.bk g' r') (nb:∀x y v,g x y=some v→∃k,v=eBl k)
  (ha:PEa X W a fa) (hb:PEa X W b fb) (hc:PEa X W c fc) (hm:lastMarks [op,op'] [b,c]=false:=by with_unfolding_all rfl):PTa X W (.Compare a [op,op'] [b,c] pos) (aT (zr g g' fa fb fc)):=
 cE (pt_chain ho ho' ha hb hc hm) fun σ H Q q=>dG sn sn' nb σ H _ (uV q)
theorem NK (x y:D) (v:E) (e:gLe x y=some v):∃k,v=eBl k:=by
 cases x<;>first|exact(qp e).elim|(cases y<;>first|exact(qp e).elim|exact⟨_,(Option.some.inj e).symm⟩)
def ze:List S→Res (List E):=fun ρ=>.ok [] ρ
def za (f:AK) (r:List S→Res (List E)):List S→Res (List E):=fun ρ=>(f ρ).bind fun v ρ1=>(r ρ1).bind fun vs ρ2=>.ok (v::vs) ρ2
theorem zi:PAa X W [] ze:=nr pa_nil fun σ H Q ⟨G,ρ,r,h⟩=>h [] H G (Pend.nil r)
theorem zd (he:PEa X W e fa) (hr:PAa X W es fs) (hs:starEach (e::es) X.env=(false,eval e X.env)::starEach es X.env:=by rfl):PAa X W (e::es) (za fa fs):=
 nr (pa_cons he hr hs) fun σ H Q ⟨G,ρ,r,h⟩=>by
  refine yr (yx r (AftA.cl (Q:=Q)) h) fun u H1 ⟨v,ρ1,G1,P1,h1⟩=>?_
  refine yY (qV P1 (AftA.cl (Q:=Q)) h1) fun us H2 ⟨vs,ρ2,G2,P2,h2⟩=>?_
  exact h2 _ _ _ P2
def zY (ρ:List S):List E→Option (List D)
 |[]=>some []
 |v::vs=>match v.val ρ,zY ρ vs with
  |some x,some xs=>some (x::xs)
  |_,_=>none
def TzL (B:Bk) (G H:Hp):List V→List D→Prop
 |[],[]=>True
 |u::us,d::ds=>Tz B G H u d∧TzL B G H us ds
 |[],_::_=>False
 |_::_,[]=>False
theorem Pend.tail {B:Bk} {σ:St} {ρ0 ρ:List S} {H0 G0 H G:Hp} {u:V} {v:E} {us:List V} {vs:List E} (p:Pend B σ ρ0 H0 G0 ρ H G (u::us) (v::vs)):Pend B σ ρ0 H0 G0 ρ H G us vs:=
 ⟨p.post,by simpa using p.len,fun i w e=>p.re (i+1) w e,fun i o a e e'=>p.new (i+1) o a e e',fun i j o o' a e e' w w'=>by have:=p.apart (i+1) (j+1) o o' a e e' w w'; omega⟩
theorem Pend.vals {B:Bk} {σ:St} {ρ0 ρ:List S} {H0 G0 H G:Hp}:∀{us:List V} {vs:List E} {xs:List D},Pend B σ ρ0 H0 G0 ρ H G us vs→zY ρ vs=some xs→TzL B G H us xs
 |[],[],xs,_,e=>by cases e; trivial
 |[],_::_,_,p,_=>by have:=p.len; simp at this
 |_::_,[],_,p,_=>by have:=p.len; simp at this
 |u::us,v::vs,xs,p,e=>by
  simp only[zY]at e
  split at e
  ·rename_i x ys e1 e2
   cases e
   obtain⟨w,ew,rw'⟩:=p.re 0 v rfl
   cases ew
   exact⟨p.post.rel.val rw' e1,Pend.vals p.tail e2⟩
  ·cases e
theorem Pend.keep1 {B:Bk} {σ:St} {ρ0 ρ ρ':List S} {H0 G0 H G:Hp} {u:V} {v:E} {us:List V} {vs:List E} {x:D} (p:Pend B σ ρ0 H0 G0 ρ H G (u::us) (v::vs)) (e:keep1 v ρ=some (x,ρ')) :
  ∃G',Pend B σ ρ0 H0 G0 ρ' H G' us vs∧Fz B G' u x∧Same G G':=by
 obtain⟨w,ew,rw'⟩:=p.re 0 v rfl
 cases ew
 have fr_of:∀{i:Nat} {o:O},(v::vs)[i]?=some (.fr o)→∃a ho,(u::us)[i]?=some (.ref a)∧H a=some ho∧G a=none∧RO B G a ho o∧∀j,¬Own σ ρ j a:=fun {i o} e=>by
  obtain⟨y,e1,a,ho,rfl,r1,r2,r3,r4⟩:=p.re i _ e
  exact⟨a,ho,e1,r1,r2,r3,r4⟩
 cases v with
 |d y=>
  cases e
  exact⟨G,p.tail,rw',.refl _⟩
 |ad a=>
  cases e
  have rw':u=.ref a:=rw'
  exact⟨G,p.tail,by rw[Fz]; exact rw',.refl _⟩
 |sl i=>
  obtain⟨G',q,hf,hk⟩:=Vx p.post.rel rw' e
  refine⟨G',⟨p.post.trans q,p.tail.len,fun j w ej=>?_,fun j o a ej e'=>p.tail.new j o a ej e',p.tail.apart⟩,hf,q.grow⟩
  obtain⟨y,e1,e2⟩:=p.tail.re j w ej
  exact⟨y,e1,e2.step q⟩
 |fr o=>
  cases e
  obtain⟨a,ho,rfl,r1,r2,r3,r4⟩:=rw'
  have h0:=p.new 0 o a rfl rfl
  have sg:Same G (upd G a ho):=qe r2
  have q:Post B σ ρ0 H0 G0 σ ρ H (upd G a ho):=by
   refine⟨p.post.grow.trans sg,p.post.dom,p.post.frame,fun b ob hb t hg n=>?_,⟨fun b ob hb=>?_,p.post.rel.len,fun j s hs=>?_,p.post.rel.sep,p.post.rel.tab.mono sg (fun _ _ h=>h) fun b ps hb hg=>by rw[upd_ne (fun z=>by rw[z,r1]at hb; exact r3.nt _ (Option.some.inj hb))]; exact hg⟩,p.post.own⟩
   ·rw[upd_ne (ne_of_none hb h0)]; exact p.post.keep b ob hb t hg n
   ·by_cases hb':b=a
    ·subst hb'; rw[upd_same]at hb; cases hb; exact r1
    ·rw[upd_ne hb']at hb; exact p.post.rel.sub b ob hb
   ·obtain⟨w,e1,e2⟩:=p.post.rel.slot j s hs
    refine⟨w,e1,e2.step sg fun b ob w1 q2 _ q3=>⟨q2,?_⟩⟩
    rw[upd_ne]
    ·exact q3
    ·intro z
     subst z
     exact r4 j ⟨_,s,e1,hs,w1⟩
  refine⟨upd G a ho,⟨q,p.tail.len,fun j w ej=>?_,p.tail.new,p.tail.apart⟩,(r3.mono sg).fz upd_same,sg⟩
  obtain⟨y,e1,e2⟩:=p.tail.re j w ej
  refine⟨y,e1,?_⟩
  cases w with
  |d z=>exact Fz.mono sg _ _ e2
  |sl k=>exact e2
  |ad k=>exact e2
  |fr o'=>
   obtain⟨b,ob,rfl,t1,t2,t3,t4⟩:=e2
   refine⟨b,ob,rfl,t1,?_,t3.mono sg,t4⟩
   rw[upd_ne]
   ·exact t2
   ·intro z
    subst z
    have:=p.apart 0 (j+1) o o' b rfl ej rfl e1
    omega
theorem Pend.keepL {B:Bk} {σ:St} {ρ0:List S} {H0 G0 H:Hp}:∀{us:List V} {vs:List E} {xs:List D} {ρ ρ':List S} {G:Hp},Pend B σ ρ0 H0 G0 ρ H G us vs→keepL vs ρ=some (xs,ρ')→
  ∃G',Post B σ ρ0 H0 G0 σ ρ' H G'∧FzL B G' us xs∧Same G G'
 |[],[],xs,ρ,ρ',G,p,e=>by cases e; exact⟨G,p.post,.nil,.refl _⟩
 |[],_::_,_,_,_,_,p,_=>by have:=p.len; simp at this
 |_::_,[],_,_,_,_,p,_=>by have:=p.len; simp at this
 |u::us,v::vs,xs,ρ,ρ',G,p,e=>by
  simp only[AL.keepL]at e
  split at e
  ·cases e
  ·rename_i x ρ1 e1
   split at e
   ·cases e
   ·rename_i ys ρ2 e2
    cases e
    obtain⟨G1,p1,f1,s1⟩:=p.keep1 e1
    obtain⟨G2,p2,f2,s2⟩:=Pend.keepL p1 e2
    exact⟨G2,p2,.cons (Fz.mono s2 _ _ f1) f2,s1.trans s2⟩
def zV (fs:List S→Res (List E)):AK:=fun ρ=>(fs ρ).bind fun vs ρ1=>match keepL vs ρ1 with
 |some (xs,ρ2)=>if xs.length≤sizeLine then .ok (.d (.tup xs)) ρ2 else .no
 |none=>.no
def zG (fs:List S→Res (List E)):AK:=fun ρ=>(fs ρ).bind fun vs ρ1=>match keepL vs ρ1 with
 |some (xs,ρ2)=>if xs.length≤sizeLine then .ok (.fr (.lst xs)) ρ2 else .no
 |none=>.no
theorem Z1 {x1:Nat} (h:PAa X W es fs):PEa X W (.Tuple es x1 pos) (zV fs):=
 xv (M4 h) fun σ H Q ⟨G,ρ,r,h⟩=>by
  refine yY (xt r (Aft.cl (Q:=Q)) h) fun us H1 ⟨vs,ρ1,G1,P,h1⟩=>?_
  split at h1
  ·rename_i xs ρ2 e
   split at h1
   ·rename_i hz
    obtain⟨G2,p,f,_⟩:=P.keepL e
    exact⟨by rw[f.length]; exact hz,fun q o hd hq=>h1.fin p (.tup p.rel.sub hq hd f)⟩
   ·exact h1.elim
  ·exact h1.elim
theorem qq (h:PAa X W es fs):PEa X W (.List es pos) (zG fs):=
 xv (pe_lst h) fun σ H Q ⟨G,ρ,r,h⟩=>by
  refine yY (xt r (Aft.cl (Q:=Q)) h) fun us H1 ⟨vs,ρ1,G1,P,h1⟩=>?_
  split at h1
  ·rename_i xs ρ2 e
   split at h1
   ·rename_i hz
    obtain⟨G2,p,f,_⟩:=P.keepL e
    exact⟨by rw[f.length]; exact hz,fun q hq=>h1.fin p (.own p.rel.sub hq ⟨us,rfl,f⟩)⟩
   ·exact h1.elim
  ·exact h1.elim
def SndL (B:Bk) (g:List D→Option E) (r:List V→Hp→VK→Prop):Prop:=
 ∀(xs:List D) (v:E) (as:List V) (G H:Hp) (Q:VK),g xs=some v→Same G H→TzL B G H as xs→(∀u H' G',New B G H u v H' G'→Q u H')→r as H Q
def zh (g:List D→Option E) (fs:List S→Res (List E)):AK:=fun ρ=>(fs ρ).bind fun vs ρ1=>match (zY ρ1 vs).bind g with
 |some v=>.ok v ρ1
 |none=>.no
theorem mu {B:Bk} {g:List D→Option E} {r:List V→Hp→VK→Prop} (sn:SndL B g r) (σ:St) (H:Hp) (Q:VK) (h:jb B W (zh g fs) σ H Q):tCB r (w7 B W fs) σ H Q:=by
 obtain⟨G,ρ,rl,h⟩:=h
 refine yY (xt rl (Aft.cl (Q:=Q)) h) fun us H1 ⟨vs,ρ1,G1,P,h1⟩=>?_
 split at h1
 ·rename_i v e
  obtain⟨xs,e1,e2⟩:=Bc.mp e
  exact sn xs v us G1 H1 Q e2 P.post.rel.sub (P.vals e1) fun u H' G' n=>h1.fin P.post n
 ·exact h1.elim
section
variable {x:Str} {p:Pos} {id T:String} {g:List D→Option E} {r:List V→Hp→VK→Prop}
theorem yt (hc:CallR X (.builtin id) r) (sn:SndL X.bk g r) (hm:X.mg x=none) (hv:bootBuiltins x=some (.builtin id)) (ha:PAa X W (e::es) fs) (hg:Gl X x:=by rfl) (hn:x≠"__name__":=by decide) (hdb:(x==("__debug__":Str))=false:=by decide)
  (he:starEach (e::es) X.env=(false,eval e X.env)::starEach es X.env:=by rfl) (hpl:(backTo pos (starEach es X.env)).any (·.1)=false:=by rfl):PEa X W (.Call (.Name x p) (e::es) [] pos) (zh g fs):=
 xv (pe_callB hc hg hm hv ha hn hdb he hpl) (mu sn)
theorem yU (hc:CallR X (.type T) r) (sn:SndL X.bk g r) (hm:X.mg x=none) (hv:bootBuiltins x=some (.type T)) (ha:PAa X W (e::es) fs) (hg:Gl X x:=by rfl) (hn:x≠"__name__":=by decide) (hdb:(x==("__debug__":Str))=false:=by decide)
  (he:starEach (e::es) X.env=(false,eval e X.env)::starEach es X.env:=by rfl) (hpl:(backTo pos (starEach es X.env)).any (·.1)=false:=by rfl):PEa X W (.Call (.Name x p) (e::es) [] pos) (zh g fs):=
 xv (pe_callTy hc hg hm hv ha hn hdb he hpl) (mu sn)
end
end
mutual
theorem gJ {h:Heap}:∀{v:Value} {d:PyData} {as:List Addr},Reads h v d as→∀a∈as,a<h.objs.size
 |_,_,_,.none=>fun a ha=>by simp at ha
 |_,_,_,.bool _=>fun a ha=>by simp at ha
 |_,_,_,.int _ _=>fun a ha=>by simp at ha
 |_,_,_,.str _ _=>fun a ha=>by simp at ha
 |_,_,_,.list h1 _ _ h4=>fun a ha=>by
  rcases List.mem_cons.mp ha with rfl|ha
  ·exact Heap.lt_size h1
  ·exact readsAll_lt h4 a ha
 |_,_,_,.tuple _ _ _ h4=>readsAll_lt h4
 |_,_,_,.dict h1 _ _ h4 h5=>fun a ha=>by
  rcases List.mem_cons.mp ha with rfl|ha
  ·exact Heap.lt_size h1
  ·rcases AW.mp ha with ha|ha
   ·exact readsAll_lt h4 a ha
   ·exact readsAll_lt h5 a ha
theorem readsAll_lt {h:Heap}:∀{vs:List Value} {ds:List PyData} {as:List Addr},ReadsAll h vs ds as→∀a∈as,a<h.objs.size
 |_,_,_,.nil=>fun a ha=>by simp at ha
 |_,_,_,.cons r rs=>fun a ha=>by
  rcases AW.mp ha with ha|ha
  ·exact gJ r a ha
  ·exact readsAll_lt rs a ha
end
def D.pyd (x:D):PyData:=x.py.getD .none
def D.sle (x y:D):Bool:=!PySem.W.dataLt y.pyd x.pyd
def P8:PyData→Bool
 | .tuple (_::_)=>true
 |_=>false
def nq:PyData→Bool
 | .tuple _=>false
 | .none=>false
 |_=>true
def xq (ds:List D):Bool:=ds.all (fun d=>d.py.isSome&&decide (d.pyd.depth≤60))&&(ds.all fun d=>ds.all fun e=>PySem.W.alike d.pyd e.pyd)&&((ds.all fun d=>P8 d.pyd)||ds.all fun d=>nq d.pyd)
def Xx (ds:List D):List D:=ds.mergeSort D.sle
def YM (ps:List (V×D)):List (V×D):=ps.mergeSort fun p q=>D.sle p.2 q.2
theorem bC (ps:List (V×D)):(YM ps).map (·.2)=Xx (ps.map (·.2)):=by
 unfold YM Xx
 exact List.map_mergeSort (fun _ _ _ _=>rfl)
theorem Xy (ds:List D):(Xx ds).Perm ds:=List.mergeSort_perm _ _
theorem Jf (ps:List (V×D)):(YM ps).Perm ps:=List.mergeSort_perm _ _
section
variable {X:Cx} {pins:List (Addr×Obj)} {σ:St} {H:Hp} {s:Shared} {Q:VK}
theorem UE (I:Inv X pins σ H s) (hu:X.A.units+64<cLine) {r:Addr} {ps:List (V×D)}
  (col:∀R:List Value→Shared→Prop,(∀h' tk vs,(∀b o,s.heap.get? b=some o→h'.get? b=some o)→Vals (ps.map (·.1)) vs→R vs { s with heap:=h',toks:=tk })→wpAny (model X.prog X.w) X.A.in1 (collect (.ref r)) R X.xe s)
  (hd:∀p∈ps,Dp X.K H p.1 p.2.pyd) (ok:xq (ps.map (·.2))=true) (hl:ps.length≤sizeLine) (q:∀l,H l=none→Q (.ref l) (upd H l (.lst ((YM ps).map (·.1))))) :
  wpAny (model X.prog X.w) X.A (call (.builtin "sorted") [.ref r]) (EP X pins σ Q) X.xe s:=by
 unfold xq at ok
 simp only[Bool.and_eq_true,Bx,AP,decide_eq_true_eq,AM,forall_exists_index,and_imp,forall_apply_eq_imp_iff₂]at ok
 obtain⟨⟨ok1,ok2⟩,ok3⟩:=ok
 refine Calls.call_function_entry PyProof.Rows.kind_sorted PyProof.Rows.plain_sorted PyProof.Rows.entry_sorted (PyProof.Rows.args_sorted1 _) ?_
 unfold Builtin.«sorted»
 refine wpAny_bind (m:=checkCount "sorted" 1 1 _) (wpAny_pure ?_)
 refine wpAny_bind (col _ fun h' tk vs hk rv=>?_)
 have hlen:vs.length=ps.length:=by rw[←rv.length,List.length_map]
 have I1:Inv X pins σ H { s with heap:=h',toks:=tk }:=I.kept hk
 refine wpAny_bind (wpAny_newList ?_ (by rw[hlen]; exact hl))
 have there:(h'.push (seqObj "list" vs.toArray 0)).get? h'.objs.size=some (seqObj "list" vs.toArray 0):=Heap.get?_push_size _ rfl
 show wpAny _ _ _ _ _ { s with heap:=h'.push (seqObj "list" vs.toArray 0),toks:=tk }
 have each:PySem.W.EachIs (fun(v:Value) (p:V×D)=>RelV p.1 v) vs ps:=by
  clear hlen hd ok1 ok2 ok3 hl q col there
  induction ps generalizing vs with
  |nil=>rw[List.map_nil]at rv; cases rv; exact .nil
  |cons p ps ih=>rw[List.map_cons]at rv; cases rv with|cons r1 r2=>exact .cons r1 (ih _ r2)
 have reads:PySem.W.EachIs (fun(v:Value) (p:V×D)=>∃as,Reads (h'.push (seqObj "list" vs.toArray 0)) v p.2.pyd as∧h'.objs.size∉as) vs ps:=by
  have:∀{us:List Value} {qs:List (V×D)},PySem.W.EachIs (fun(v:Value) (p:V×D)=>RelV p.1 v) us qs→(∀p∈qs,p∈ps)→PySem.W.EachIs (fun(v:Value) (p:V×D)=>∃as,Reads (h'.push (seqObj "list" vs.toArray 0)) v p.2.pyd as∧h'.objs.size∉as) us qs:=by
   intro us qs e
   induction e with
   |nil=>intro _; exact .nil
   |cons h t ih=>
    intro sub
    refine .cons ?_ (ih fun p hp=>sub p (List.mem_cons_of_mem _ hp))
    obtain⟨as,ra⟩:=Dp.reads I1 _ _ _ (hd _ (sub _ AN)) h
    exact⟨as,PyProof.Rows.Reads.keeps (fun _ _ e=>Heap.get?_push_of_some _ e) ra,fun hm=>BF _ (gJ ra _ hm)⟩
  exact this each fun _ h=>h
 refine wpAny_bind (wpAny_holding (PySem.W.list_sort_data (s:={ s with heap:=h'.push (seqObj "list" vs.toArray 0),toks:=tk }) (enc:=fun p:V×D=>p.2.pyd) there each reads ?_ ?_ hl ?_ fun out ho eo=>?_))
 ·intro d hd' e he'
  obtain⟨p,hp,rfl⟩:=AM.mp hd'
  obtain⟨p',hp',rfl⟩:=AM.mp he'
  exact ok2 p hp p' hp'
 ·rcases ok3 with h|h
  ·refine .inl fun d hd'=>?_
   obtain⟨p,hp,rfl⟩:=AM.mp hd'
   have:=h p hp
   unfold P8 at this
   split at this
   ·rename_i x r e; exact⟨x,r,e⟩
   ·cases this
  ·refine .inr fun d hd'=>?_
   obtain⟨p,hp,rfl⟩:=AM.mp hd'
   have:=h p hp
   unfold nq at this
   split at this
   ·cases this
   ·cases this
   ·rename_i h1 h2; exact⟨h2,h1⟩
 ·intro p hp
  have:=(ok1 p hp).2
  rw[Around.in1_units]; omega
 ·obtain⟨c,at_⟩:=PyProof.Rows.sortedHeap_at (vs:=vs) (out:=out.toArray) there
  have sv:Vals ((YM ps).map (·.1)) out:=by
   have all:∀{us:List Value} {qs:List (V×D)},PySem.W.EachIs (fun(v:Value) (p:V×D)=>RelV p.1 v) us qs→Vals (qs.map (·.1)) us:=by
    intro us qs e
    induction e with
    |nil=>exact .nil
    |cons h t ih=>exact .cons h ih
   exact all (show PySem.W.EachIs (fun(v:Value) (p:V×D)=>RelV p.1 v) out (YM ps)from eo)
  refine wpAny_pure ⟨_,rfl,.ref h'.objs.size,_,I1.laid (a:=h'.objs.size) (t':=tk) (o:=.lst ((YM ps).map (·.1))) (fun b u e=>?_) (Nat.le_refl _) ⟨by rw[List.length_map,(Jf ps).length_eq]; exact hl,out,c,sv,at_⟩,rfl,q _ (I1.hok.fresh (Nat.le_refl _))⟩
  have hb:b<h'.objs.size:=Heap.lt_size e
  rw[PyProof.Rows.sortedHeap_old (Be hb) (by rw[size_push']; exact BH hb)]
  exact Heap.get?_push_of_some _ e
end
section
variable {X:Cx} {W:WX'} {a b c e o:Expr} {rest es:List Expr} {fa fb fc:AK} {fs:List S→Res (List E)} {pos:Pos}
def D.seq?:D→Option (List D)
 | .tup xs=>some xs
 | .lst xs=>some xs
 |_=>none
def zD (f:AK) (r:List S→Res (List E)):List S→Res (List E):=fun ρ=>(f ρ).bind fun v ρ1=>match (v.val ρ1).bind D.seq? with
 |some xs=>(r ρ1).bind fun vs ρ2=>.ok (xs.map E.d++vs) ρ2
 |none=>.no
theorem nz {B:Bk} {σ:St} {ρ0 ρ:List S} {H0 G0 H G:Hp} {us:List V} {ds:List D} (p:Post B σ ρ0 H0 G0 σ ρ H G) (h:FzL B G us ds):Pend B σ ρ0 H0 G0 ρ H G us (ds.map E.d):=by
 refine⟨p,by rw[List.length_map]; exact h.length,fun i v e=>?_,fun i o a e=>?_,fun i j o o' a e=>?_⟩
 ·rw[List.getElem?_map]at e
  obtain⟨d,e1,rfl⟩:=AO.mp e
  obtain⟨u,e2,hf⟩:=h.get e1
  exact⟨u,e2,hf⟩
 ·rw[List.getElem?_map]at e
  obtain⟨d,e1,e2⟩:=AO.mp e
  cases e2
 ·rw[List.getElem?_map]at e
  obtain⟨d,e1,e2⟩:=AO.mp e
  cases e2
theorem PY {B:Bk} {G H:Hp} {u:V} {x:D} {xs:List D} (s:Same G H) (h:Tz B G H u x) (e:x.seq?=some xs):∃p us,u=.ref p∧(SqT B.K H p us∨SqL B.K H p us)∧FzL B G us xs:=by
 cases x<;>simp only[D.seq?,Option.some.injEq,reduceCtorEq]at e
 ·subst e
  obtain⟨p,us,rfl,h1,h2⟩:=qO h
  exact⟨p,us,rfl,.inl (BY s h1),h2⟩
 ·subst e
  obtain⟨p,us,rfl,h1,h2⟩:=h
  exact⟨p,us,rfl,.inr (SqL.of h1),h2⟩
theorem Uc {p:Pos} (he:PEa X W e fa) (hr:PAa X W es fs) (hs:starEach (.Starred e p::es) X.env=(true,eval e X.env)::starEach es X.env:=by rfl):PAa X W (.Starred e p::es) (zD fa fs):=
 nr (StX.pa_star he hr hs) fun σ H Q ⟨G,ρ,r,h⟩=>by
  refine yr (yx r (AftA.cl (Q:=Q)) h) fun u H1 ⟨v,ρ1,G1,P1,h1⟩=>?_
  obtain⟨w,ew,rw'⟩:=P1.re 0 v rfl
  cases ew
  split at h1
  ·rename_i xs hx
   obtain⟨d,e1,e2⟩:=Bc.mp hx
   obtain⟨q,us,rfl,hq,hf⟩:=PY P1.post.rel.sub (P1.post.rel.val rw' e1) e2
   refine⟨q,us,rfl,hq,?_⟩
   exact yY (qV (nz P1.post hf) (AftA.cl (Q:=Q)) h1) fun ys H2 ⟨vs,ρ2,G2,P2,h2⟩=>h2 _ _ _ P2
  ·exact h1.elim
def AftO (B:Bk) (W:WX') (σ:St) (ρ:List S) (H G:Hp) (Q:Option Int→Hp→Prop):Res (Option Int)→Prop
 | .ok b ρ'=>∀H' G',Post B σ ρ H G σ ρ' H' G'→Q b H'
 | .ex e ρ'=>Out B W σ ρ H G e ρ'
 | .no=>False
 | .new τ k=>∀a,τ a=none→AftO B W σ ρ H G Q (k a)
def ag (B:Bk) (W:WX') (f:List S→Res (Option Int)):TO:=fun σ H Q=>∃G ρ,Rel B G σ ρ H∧AftO B W σ ρ H G Q (f ρ)
theorem AftO.cl {B:Bk} {σ:St} {ρ:List S} {H G:Hp} {Q:Option Int→Hp→Prop}:Cl B W σ ρ H G (AftO B W σ ρ H G Q):=⟨fun _ _ h=>h,fun h=>h,fun _ _ h=>h⟩
abbrev POa (X:Cx) (W:WX') (e:Option Expr) (f:List S→Res (Option Int)):Prop:=PO X e (ag X.bk W f)
def zm:List S→Res (Option Int):=fun ρ=>.ok none ρ
def zw (f:AK):List S→Res (Option Int):=fun ρ=>(f ρ).bind fun v ρ1=>match v with
 | .d (.int i)=>.ok (some i) ρ1
 |_=>.no
theorem Ld {e:Option Expr} {t t':TO} (h:PO X e t) (w:∀σ H Q,t' σ H Q→t σ H Q):PO X e t':=⟨fun pins s σ H Q I q=>h.run pins s σ H Q I (w σ H Q q)⟩
theorem YN:POa X W none zm:=Ld po_none fun σ H Q ⟨G,ρ,r,h⟩=>h H G (.refl r)
theorem Z4 (h:PEa X W e fa):POa X W (some e) (zw fa):=Ld (po_some h) fun σ H Q ⟨G,ρ,r,h⟩=>by
 refine yr (yx r (AftO.cl (Q:=Q)) h) fun u H1 ⟨v,ρ1,G1,P1,h1⟩=>?_
 obtain⟨w,ew,rw'⟩:=P1.re 0 v rfl
 cases ew
 split at h1
 ·rename_i i
  have rw':Fz X.bk G1 u (.int i):=rw'
  rw[Fz]at rw'
  exact⟨i,rw',h1 _ _ P1.post⟩
 ·exact h1.elim
theorem w8 {B:Bk} {σ:St} {H:Hp} {f:List S→Res (Option Int)} {Q Q':Option Int→Hp→Prop} (h:ag B W f σ H Q) (w:∀u H,Q u H→Q' u H):ag B W f σ H Q':=by
 obtain⟨G,ρ,r,h⟩:=h
 refine⟨G,ρ,r,?_⟩
 generalize f ρ=r at h
 induction r with
 |ok v ρ1=>exact fun H' G' p=>w _ _ (h H' G' p)
 |ex x ρ1=>exact h
 |no=>exact h
 |new τ k ih=>exact fun a e=>ih a (h a e)
theorem Pend.step {B:Bk} {σ:St} {ρ0 ρ ρ':List S} {H0 G0 H G H' G':Hp} {us:List V} {vs:List E} (p:Pend B σ ρ0 H0 G0 ρ H G us vs) (q:Post B σ ρ H G σ ρ' H' G'):Pend B σ ρ0 H0 G0 ρ' H' G' us vs:=
 ⟨p.post.trans q,p.len,fun i v e=>let ⟨u,e1,e2⟩:=p.re i v e; ⟨u,e1,e2.step q⟩,p.new,p.apart⟩
theorem w9 {B:Bk} {σ:St} {ρ0 ρ:List S} {H0 G0 H G:Hp} {us:List V} {vs:List E} {β:Type} {Φ:Res β→Prop} {f:List S→Res (Option Int)} {k:Option Int→List S→Res β} (p:Pend B σ ρ0 H0 G0 ρ H G us vs) (c:Cl B W σ ρ0 H0 G0 Φ) (h:Φ ((f ρ).bind k)) :
  ag B W f σ H (fun b H1=>∃ρ1 G1,Pend B σ ρ0 H0 G0 ρ1 H1 G1 us vs∧Φ (k b ρ1)):=by
 refine⟨G,ρ,p.post.rel,?_⟩
 generalize f ρ=r at h
 induction r with
 |ok v ρ1=>exact fun H' G' q=>⟨ρ1,G',p.step q,h⟩
 |ex x ρ1=>exact(c.ex x ρ1 h).back p.post
 |no=>exact c.no h
 |new τ kk ih=>exact fun a e=>ih a (c.new τ _ h a e)
def Qc {α:Type} (xs:List α) (lo hi:Option Int):List α:=(xs.drop (HT.sIx xs.length 0 lo)).take (HT.sIx xs.length xs.length hi - HT.sIx xs.length 0 lo)
def gSl:D→Option Int→Option Int→Option E
 | .lst xs,lo,hi=>some (.fr (.lst (Qc xs lo hi)))
 | .tup xs,lo,hi=>some (.d (.tup (Qc xs lo hi)))
 | .str z,lo,hi=>if z.length≤sizeLine then some (z_ (cutS z lo hi))else none
 |_,_,_=>none
theorem FzL.cut {B:Bk} {G:Hp} {us:List V} {ds:List D} (h:FzL B G us ds) (lo hi:Option Int):FzL B G (cutV us lo hi) (Qc ds lo hi):=by
 unfold cutV Qc
 rw[h.length]
 exact FzL.take _ (FzL.drop _ h)
theorem pC {α:Type} {xs:List α} {lo hi:Option Int} (h:HT.sIx xs.length 0 lo=0∧HT.sIx xs.length xs.length hi=xs.length):Qc xs lo hi=xs:=by
 unfold Qc
 rw[h.1,h.2]
 simp
def Sd (K:PySem.W.Frag):V→Option Int→Option Int→Hp→VK→Prop:=fun x lo hi H Q=>rSlL K x lo hi H Q∨(Sb K x lo hi H Q∨rSlS x lo hi H Q)
theorem P6:SlR X (Sd X.K):=sl_list.or (sl_tupP.or sl_str)
theorem P7 {B:Bk} {x:D} {lo hi:Option Int} {v:E} {u:V} {G H:Hp} {Q:VK} (e:gSl x lo hi=some v) (s:Same G H) (h:Tz B G H u x) (q:∀w H' G',New B G H w v H' G'→Q w H'):Sd B.K u lo hi H Q:=by
 cases x<;>simp only[gSl,Option.some.injEq,reduceCtorEq]at e
 ·split at e
  ·rename_i hz
   cases e
   exact .inr (.inr ⟨_,xk h,hz,q _ _ _ (.scalar s (YC _))⟩)
  ·cases e
 ·subst e
  obtain⟨p,us,rfl,h1,h2⟩:=qO h
  refine .inr (.inl ⟨p,us,rfl,BY s h1,fun hw=>?_,fun hw r o hd hr=>q _ _ _ (.tup s hr hd (h2.cut lo hi))⟩)
  rw[h2.length]at hw
  refine q _ _ _ (.scalar s ?_)
  rw[pC hw]
  exact h
 ·subst e
  obtain⟨p,us,rfl,h1,h2⟩:=h
  exact .inl ⟨p,us,rfl,SqL.of h1,fun r hr=>q _ _ _ (.own s hr ⟨_,rfl,h2.cut lo hi⟩)⟩
def zj (f:AK) (fl fh:List S→Res (Option Int)):AK:=fun ρ=>(f ρ).bind fun v ρ1=>(fl ρ1).bind fun lo ρ2=>(fh ρ2).bind fun hi ρ3=>match (v.val ρ3).bind fun x=>gSl x lo hi with
 |some w=>.ok w ρ3
 |none=>.no
theorem ZG {lo hi:Option Expr} {fl fh:List S→Res (Option Int)} {p2:Pos} (he:PEa X W e fa) (hl:POa X W lo fl) (hu:POa X W hi fh):PEa X W (.Subscript e (.Slice lo hi none p2) pos) (zj fa fl fh):=
 xv (pe_slice P6 he hl hu) fun σ H Q ⟨G,ρ,r,h⟩=>by
  refine yr (yx r (Aft.cl (Q:=Q)) h) fun u H1 ⟨v,ρ1,G1,P1,h1⟩=>?_
  refine w8 (w9 P1 (Aft.cl (Q:=Q)) h1) fun l H2 ⟨ρ2,G2,P2,h2⟩=>?_
  refine w8 (w9 P2 (Aft.cl (Q:=Q)) h2) fun k H3 ⟨ρ3,G3,P3,h3⟩=>?_
  obtain⟨w,ew,rw'⟩:=P3.re 0 v rfl
  cases ew
  split at h3
  ·rename_i z hz
   obtain⟨d,e1,e2⟩:=Bc.mp hz
   exact P7 e2 P3.post.rel.sub (P3.post.rel.val rw' e1) fun w H' G' n=>h3.fin P3.post n
  ·exact h3.elim
theorem jD {B:Bk} {G H:Hp} {us:List V} {x:D} (h:TzL B G H us [x]):∃u,us=[u]∧Tz B G H u x:=by
 match us,h with
 |[u],h=>exact⟨u,rfl,h.1⟩
theorem Nu {B:Bk} {G H:Hp} {us:List V} {x y:D} (h:TzL B G H us [x,y]):∃u v,us=[u,v]∧Tz B G H u x∧Tz B G H v y:=by
 match us,h with
 |[u,v],h=>exact⟨u,v,rfl,h.1,h.2.1⟩
def xT:List D→Option E
 |[.lst xs]=>some (zN xs.length)
 |[.tup xs]=>some (zN xs.length)
 |[.scr xs]=>some (zN xs.length)
 |[.str z]=>if z.length≤sizeLine then some (zN z.length)else none
 |[.dct kvs]=>some (zN kvs.length)
 |[.dd kvs]=>some (zN kvs.length)
 |_=>none
theorem FzD.length {B:Bk} {G:Hp}:∀{us:EnL} {ds:List (D×D)},FzD B G us ds→us.length=ds.length
 |[],[],_=>rfl
 |[],_::_,h=>by rw[FzD]at h; exact h.elim
 |_::_,[],h=>by rw[FzD]at h; exact h.elim
 |_::_,_::_,h=>by rw[FzD]at h; rw[List.length_cons,List.length_cons,FzD.length h.2.2.2]
theorem FzK.length {B:Bk} {G:Hp}:∀{us:List (Key×V)} {ds:List (Key×D)},FzK B G us ds→us.length=ds.length
 |[],[],_=>rfl
 |[],_::_,h=>by rw[FzK]at h; exact h.elim
 |_::_,[],h=>by rw[FzK]at h; exact h.elim
 |_::_,_::_,h=>by rw[FzK]at h; rw[List.length_cons,List.length_cons,FzK.length h.2.2]
abbrev N1 (K:PySem.W.Frag) (w:World):List V→Hp→VK→Prop:=fun xs H Q=>((∃x n,xs=[x]∧LenV K x H n∧Q (.int n) H)∨(∃a kvs,xs=[V.ref a]∧H a=some (.dK kvs)∧Q (.int kvs.length) H))∨N2 K w xs H Q
theorem qK:CallR X (.builtin "len") (N1 X.K X.w):=(call_len.or call_lenD).or eW
theorem ZR {B:Bk}:SndL B xT (N1 B.K B.w):=by
 intro xs v us G H Q e s hx q
 unfold xT at e
 split at e
 ·cases e
  obtain⟨u,rfl,p,ws,rfl,h1,h2⟩:=jD hx
  exact .inl (.inl ⟨_,_,rfl,.inl ⟨ws,SqL.of h1,rfl⟩,by rw[h2.length]; exact q _ _ _ (.scalar s (xu _))⟩)
 ·cases e
  obtain⟨u,rfl,h⟩:=jD hx
  obtain⟨p,ws,rfl,h1,h2⟩:=qO h
  exact .inl (.inl ⟨_,_,rfl,.inr ⟨ws,BY s h1,rfl⟩,by rw[h2.length]; exact q _ _ _ (.scalar s (xu _))⟩)
 ·cases e
  rename_i ns
  obtain⟨u,rfl,h⟩:=jD hx
  have h:Fz B G u (.scr ns):=h
  rw[Fz]at h
  obtain⟨p,rfl,h1⟩:=h
  exact .inl (.inl ⟨_,_,rfl,.inl ⟨_,Same.seq s h1,rfl⟩,by rw[List.length_map]; exact q _ _ _ (.scalar s (xu _))⟩)
 ·split at e
  ·rename_i hz
   cases e
   obtain⟨u,rfl,h⟩:=jD hx
   exact .inl (.inl ⟨_,_,rfl,by rw[xk h]; exact⟨hz,rfl⟩,q _ _ _ (.scalar s (xu _))⟩)
  ·cases e
 ·cases e
  obtain⟨u,rfl,p,ws,rfl,h1,h2⟩:=jD hx
  exact .inl (.inr ⟨_,_,rfl,h1,by rw[h2.length]; exact q _ _ _ (.scalar s (xu _))⟩)
 ·cases e
  obtain⟨u,rfl,p,ob,es,rfl,h1,h2⟩:=jD hx
  exact .inr ⟨p,es,rfl,⟨ob,h1,mS s h2⟩,by rw[h2.length]; exact q _ _ _ (.scalar s (xu _))⟩
 ·cases e
def mT:List D→Option E
 |[.int i]=>some (zN (if i<0 then -i else i))
 |_=>none
theorem sx {B:Bk}:SndL B mT (fun xs H Q=>∃i,xs=[.int i]∧Q (.int (if i<0 then -i else i)) H):=by
 intro xs v us G H Q e s hx q
 unfold mT at e
 split at e
 ·cases e
  obtain⟨u,rfl,h⟩:=jD hx
  exact⟨_,by rw[y0 h],q _ _ _ (.scalar s (xu _))⟩
 ·cases e
def oz:List D→Option E
 |[.int i,.int j]=>some (zN (if j > i then j else i))
 |_=>none
def pS:List D→Option E
 |[.int i,.int j]=>some (zN (if j<i then j else i))
 |_=>none
theorem max_snd {B:Bk}:SndL B oz (fun xs H Q=>∃i j,xs=[.int i,.int j]∧Q (.int (if j > i then j else i)) H):=by
 intro xs v us G H Q e s hx q
 unfold oz at e
 split at e
 ·cases e
  obtain⟨u,w,rfl,h,h'⟩:=Nu hx
  exact⟨_,_,by rw[y0 h,y0 h'],q _ _ _ (.scalar s (xu _))⟩
 ·cases e
theorem min_snd {B:Bk}:SndL B pS (fun xs H Q=>∃i j,xs=[.int i,.int j]∧Q (.int (if j<i then j else i)) H):=by
 intro xs v us G H Q e s hx q
 unfold pS at e
 split at e
 ·cases e
  obtain⟨u,w,rfl,h,h'⟩:=Nu hx
  exact⟨_,_,by rw[y0 h,y0 h'],q _ _ _ (.scalar s (xu _))⟩
 ·cases e
def XC:List D→Option E
 |[.int i]=>some (zN i)
 |[.bl k]=>some (zN (if k then 1 else 0))
 |[.str z]=>if z.length≤640 then(PySem.intText? z).map zN else none
 |_=>none
abbrev NY:List V→Hp→VK→Prop:=fun xs H Q=>((∃i,xs=[.int i]∧Q (.int i) H)∨∃k,xs=[.bl k]∧Q (.int (if k then 1 else 0)) H)∨(∃a n,xs=[.str a]∧PySem.intText? a=some n∧a.length≤640∧Q (.int n) H)
theorem qJ:CallR X (.type "int") NY:=call_int1.or call_int_str
theorem ZP {B:Bk}:SndL B XC NY:=by
 intro xs v us G H Q e s hx q
 unfold XC at e
 split at e
 ·cases e
  obtain⟨u,rfl,h⟩:=jD hx
  exact .inl (.inl ⟨_,by rw[y0 h],q _ _ _ (.scalar s (xu _))⟩)
 ·cases e
  obtain⟨u,rfl,h⟩:=jD hx
  exact .inl (.inr ⟨_,by rw[Vq h],q _ _ _ (.scalar s (xu _))⟩)
 ·split at e
  ·rename_i hz
   obtain⟨n,e1,rfl⟩:=AO.mp e
   obtain⟨u,rfl,h⟩:=jD hx
   exact .inr ⟨_,n,by rw[xk h],e1,hz,q _ _ _ (.scalar s (xu _))⟩
  ·cases e
 ·cases e
def OW:List D→Option E
 |[.int i]=>if i.natAbs.log2<1920 then some (z_ (toString i))else none
 |[.str z]=>some (z_ z)
 |[.bl b]=>some (z_ (if b=true then "True" else "False"))
 |_=>none
abbrev N8:List V→Hp→VK→Prop:=fun xs H Q=>((∃i,xs=[.int i]∧i.natAbs.log2<1920∧Q (.str (toString i)) H)∨(∃a,xs=[.str a]∧Q (.str a) H))∨(∃b:Bool,xs=[.bl b]∧Q (.str (if b=true then "True" else "False")) H)
theorem mv:CallR X (.type "str") (fun xs H Q=>∃b:Bool,xs=[.bl b]∧Q (.str (if b=true then "True" else "False")) H):=by
 intro pins s σ H xs us Q I rx h
 obtain⟨b,rfl,q⟩:=h
 obtain⟨u,rfl,r⟩:=vals1 rx
 ·have r:RelV (.bl b) u:=r
  cases r
  refine P.str_of_bool ⟨.str _,H,I.tok _,⟨s.toks,?_⟩,q⟩
  cases b<;>rfl
theorem eZ:CallR X (.type "str") N8:=(call_str_int.or SkE.call_str_str).or mv
theorem Nk {B:Bk}:SndL B OW N8:=by
 intro xs v us G H Q e s hx q
 unfold OW at e
 split at e
 ·split at e
  ·rename_i hz
   cases e
   obtain⟨u,rfl,h⟩:=jD hx
   exact .inl (.inl ⟨_,by rw[y0 h],hz,q _ _ _ (.scalar s (YC _))⟩)
  ·cases e
 ·cases e
  obtain⟨u,rfl,h⟩:=jD hx
  exact .inl (.inr ⟨_,by rw[xk h],q _ _ _ (.scalar s (YC _))⟩)
 ·cases e
  obtain⟨u,rfl,h⟩:=jD hx
  exact .inr ⟨_,by rw[Vq h],q _ _ _ (.scalar s (YC _))⟩
 ·cases e
def D.bls?:List D→Option (List Bool)
 |[]=>some []
 | .bl b::r=>(D.bls? r).map (b::·)
 |_::_=>none
def D.ints?:List D→Option (List Int)
 |[]=>some []
 | .int b::r=>(D.ints? r).map (b::·)
 |_::_=>none
def D.strs?:List D→Option (List Str)
 |[]=>some []
 | .str b::r=>(D.strs? r).map (b::·)
 |_::_=>none
theorem td {B:Bk} {G:Hp}:∀{ds:List D} {us:List V} {bs:List Bool},FzL B G us ds→D.bls? ds=some bs→us=bs.map V.bl
 |[],[],_,_,e=>by cases e; rfl
 |[],_::_,_,h,_=>by rw[FzL]at h; exact h.elim
 |_::_,[],_,h,_=>by rw[FzL]at h; exact h.elim
 |d::ds,u::us,bs,h,e=>by
  rw[FzL]at h
  cases d<;>simp only[D.bls?,reduceCtorEq]at e
  obtain⟨r,e1,rfl⟩:=AO.mp e
  have h1:=h.1
  rw[Fz]at h1
  rw[h1,td h.2 e1]; rfl
theorem cf {B:Bk} {G:Hp}:∀{ds:List D} {us:List V} {bs:List Int},FzL B G us ds→D.ints? ds=some bs→us=bs.map V.int
 |[],[],_,_,e=>by cases e; rfl
 |[],_::_,_,h,_=>by rw[FzL]at h; exact h.elim
 |_::_,[],_,h,_=>by rw[FzL]at h; exact h.elim
 |d::ds,u::us,bs,h,e=>by
  rw[FzL]at h
  cases d<;>simp only[D.ints?,reduceCtorEq]at e
  obtain⟨r,e1,rfl⟩:=AO.mp e
  have h1:=h.1
  rw[Fz]at h1
  rw[h1,cf h.2 e1]; rfl
theorem nO {B:Bk} {G:Hp}:∀{ds:List D} {us:List V} {bs:List Str},FzL B G us ds→D.strs? ds=some bs→us=bs.map V.str
 |[],[],_,_,e=>by cases e; rfl
 |[],_::_,_,h,_=>by rw[FzL]at h; exact h.elim
 |_::_,[],_,h,_=>by rw[FzL]at h; exact h.elim
 |d::ds,u::us,bs,h,e=>by
  rw[FzL]at h
  cases d<;>simp only[D.strs?,reduceCtorEq]at e
  obtain⟨r,e1,rfl⟩:=AO.mp e
  have h1:=h.1
  rw[Fz]at h1
  rw[h1,nO h.2 e1]; rfl
@[simp] theorem L8 (bs:List Bool):D.bls? (bs.map .bl)=some bs:=by
  induction bs with
  |nil=>rfl
  |cons b r ih=>simp[D.bls?,ih]
@[simp] theorem RG (bs:List Int):D.ints? (bs.map .int)=some bs:=by
  induction bs with
  |nil=>rfl
  |cons b r ih=>simp[D.ints?,ih]
@[simp] theorem Lz (bs:List Str):D.strs? (bs.map .str)=some bs:=by
  induction bs with
  |nil=>rfl
  |cons b r ih=>simp[D.strs?,ih]
theorem sU {B:Bk} {G:Hp}:∀ns:List Int,FzL B G (ns.map V.int) (ns.map .int)
 |[]=>.nil
 |n::r=>.cons (xu n) (sU r)
theorem sV {B:Bk} {G:Hp}:∀ns:List Str,FzL B G (ns.map V.str) (ns.map .str)
 |[]=>.nil
 |n::r=>.cons (YC n) (sV r)
def YW:List D→Option E
 |[.lst xs]=>(D.bls? xs).map fun bs=>eBl (bs.all id)
 |_=>none
def ou:List D→Option E
 |[.lst xs]=>(D.bls? xs).map fun bs=>eBl (bs.any id)
 |_=>none
theorem jT {B:Bk}:SndL B YW (rAll B.K):=by
 intro xs v us G H Q e s hx q
 unfold YW at e
 split at e
 ·obtain⟨bs,e1,rfl⟩:=AO.mp e
  obtain⟨u,rfl,p,ws,rfl,h1,h2⟩:=jD hx
  rw[td h2 e1]at h1
  exact⟨p,bs,rfl,SqL.of h1,q _ _ _ (.scalar s (jL _))⟩
 ·cases e
theorem sB {B:Bk}:SndL B ou (rAny B.K):=by
 intro xs v us G H Q e s hx q
 unfold ou at e
 split at e
 ·obtain⟨bs,e1,rfl⟩:=AO.mp e
  obtain⟨u,rfl,p,ws,rfl,h1,h2⟩:=jD hx
  rw[td h2 e1]at h1
  exact⟨p,bs,rfl,SqL.of h1,q _ _ _ (.scalar s (jL _))⟩
 ·cases e
def yH:List D→Option E
 |[.lst xs]=>some (.d (.tup xs))
 |[.tup xs]=>some (.d (.tup xs))
 |_=>none
abbrev Se (K:PySem.W.Frag):List V→Hp→VK→Prop:=N9 K
theorem xC {B:Bk}:SndL B yH (Se B.K):=by
 intro xs v us G H Q e s hx q
 unfold yH at e
 split at e
 ·cases e
  obtain⟨u,rfl,p,ws,rfl,h1,h2⟩:=jD hx
  exact⟨p,ws,rfl,.inl ⟨SqL.of h1,fun l o hd hl=>q _ _ _ (.tup s hl hd h2)⟩⟩
 ·cases e
  obtain⟨u,rfl,h⟩:=jD hx
  obtain⟨p,ws,rfl,h1,h2⟩:=qO h
  exact⟨p,ws,rfl,.inr ⟨BY s h1,q _ _ _ (.scalar s h)⟩⟩
 ·cases e
def wR:List D→Option E
 |[.lst xs]=>some (.fr (.lst xs))
 |[.tup xs]=>some (.fr (.lst xs))
 |_=>none
abbrev Lg (K:PySem.W.Frag):List V→Hp→VK→Prop:=fun xs H Q=>∃p ys,xs=[.ref p]∧(SqL K H p ys∨SqT K H p ys)∧∀l,H l=none→Q (.ref l) (upd H l (.lst ys))
theorem list_snd {B:Bk}:SndL B wR (Lg B.K):=by
 intro xs v us G H Q e s hx q
 unfold wR at e
 split at e
 ·cases e
  obtain⟨u,rfl,p,ws,rfl,h1,h2⟩:=jD hx
  exact⟨p,ws,rfl,.inl (SqL.of h1),fun l hl=>q _ _ _ (.own s hl ⟨_,rfl,h2⟩)⟩
 ·cases e
  obtain⟨u,rfl,h⟩:=jD hx
  obtain⟨p,ws,rfl,h1,h2⟩:=qO h
  exact⟨p,ws,rfl,.inr (BY s h1),fun l hl=>q _ _ _ (.own s hl ⟨_,rfl,h2⟩)⟩
 ·cases e
def lf (ns:List Int):List Int:=ns.mergeSort (fun a b=>decide (a≤b))
theorem nL (ns:List Int):(lf ns).Perm ns:=List.mergeSort_perm _ _
theorem iw (ns:List Int):(lf ns).Pairwise (·≤·):=by
 have h:=BX (le:=fun a b:Int=>decide (a≤b)) (fun a b c h1 h2=>by simp at *; omega) (fun a b=>by simp; omega) ns
 exact h.imp fun h=>by simpa using h
theorem Lw {ns ns':List Int} (h:ns'.Perm ns) (h':ns'.Pairwise (·≤·)):ns'=lf ns:=PySem.W.ksm_same (h.trans (nL ns).symm) h' (iw ns)
def qx:List D→Option E
 |[.lst xs]=>match D.ints? xs with
  |some ns=>some (.fr (.lst ((lf ns).map .int)))
  |none=>if xq xs=true then some (.fr (.lst (Xx xs)))else none
 |[.tup xs]=>if xq xs=true then some (.fr (.lst (Xx xs)))else none
 |[.dd kvs]=>if xq (kvs.map (·.1))=true then some (.fr (.lst (Xx (kvs.map (·.1)))))else none
 |_=>none
def Rf (K:PySem.W.Frag) (w:World) (H:Hp) (a:Addr) (xs:List V):Prop:=SqL K H a xs∨SqT K H a xs∨∃ob es,H a=some (dnO w a ob es)∧xs=es.map fun e=>.ref e.2.1
def gI (K:PySem.W.Frag) (w:World):List V→Hp→VK→Prop:=fun vs H Q=>∃a ps,vs=[.ref a]∧Rf K w H a (ps.map (·.1))∧(∀p∈ps,Dp K H p.1 p.2.pyd)∧xq (ps.map (·.2))=true∧
 ∀l,H l=none→Q (.ref l) (upd H l (.lst ((YM ps).map (·.1))))
theorem pz (hc:X.calm=true) (hu:X.A.units+64<cLine):CallR X (.builtin "sorted") (gI X.K X.w):=by
 intro pins s σ H vs us Q I r h
 obtain⟨a,ps,rfl,src,hd,ok,q⟩:=h
 obtain⟨u,rfl,rx⟩:=vals1 r
 obtain rfl:u=.ref a:=rx
 rcases src with h|h|⟨ob,es,hp,e⟩
 ·obtain⟨its,rv,⟨o,n,ho,hcl,_,hdat⟩,hz⟩:=I.list h
  rw[List.length_map]at hz
  refine UE I hu (fun R w=>wpAny_collect_seq a (.inl rfl) ho hcl hdat (fun h' hk=>w h' s.toks _ hk (by simpa using rv)) ?_) hd ok hz q
  rw[BG,←rv.length,List.length_map]; exact hz
 ·obtain⟨its,rv,⟨o,ho,hcl,n,hdat⟩,hz⟩:=I.tuple h
  rw[List.length_map]at hz
  refine UE I hu (fun R w=>wpAny_collect_seq a (.inr rfl) ho hcl hdat (fun h' hk=>w h' s.toks _ hk (by simpa using rv)) ?_) hd ok hz q
  rw[BG,←rv.length,List.length_map]; exact hz
 ·obtain⟨ho,h1,h2,h3,h4,arr,ep,h5,h6⟩:=(I.hok a _ hp).1
  have raw:s.heap.DictRaw a arr ep:=⟨ob,ho,h4,h5⟩
  have hl:arr.size=es.length:=by have:=Paired.length h6; simpa using this.symm
  have hz:ps.length≤sizeLine:=by
   have:=congrArg List.length e
   rw[List.length_map,List.length_map]at this
   omega
  refine UE I hu (fun R w=>PySem.W.kdu_collect (KdlSrc.rawDict h1) (I.ok.hd hc) raw (by omega) fun h' tk acc hk hacc=>w h' tk _ hk ?_) hd ok hz q
  rw[e]
  exact dZ h6 hacc
theorem mR {B:Bk} {G H:Hp} (s:Same G H):∀{us:List V} {ds:List D},FzL B G us ds→ds.all (fun d=>d.py.isSome)=true→∃ps:List (V×D),ps.map (·.1)=us∧ps.map (·.2)=ds∧(∀p∈ps,Dp B.K H p.1 p.2.pyd)∧∀p∈ps,Fz B G p.1 p.2
 |[],[],_,_=>⟨[],rfl,rfl,fun p h=>by simp at h,fun p h=>by simp at h⟩
 |[],_::_,h,_=>by rw[FzL]at h; exact h.elim
 |_::_,[],h,_=>by rw[FzL]at h; exact h.elim
 |u::us,d::ds,h,hp=>by
  rw[FzL]at h
  rw[List.all_cons,Bool.and_eq_true]at hp
  obtain⟨ps,e1,e2,e3,e4⟩:=mR s h.2 hp.2
  obtain⟨p,hp'⟩:=Option.isSome_iff_exists.mp hp.1
  refine⟨(u,d)::ps,by rw[List.map_cons,e1],by rw[List.map_cons,e2],fun q hq=>?_,fun q hq=>?_⟩
  ·rcases List.mem_cons.mp hq with rfl|hq
   ·have:=Qx d u p hp' (Fz.mono s _ _ h.1)
    have e:d.pyd=p:=by unfold D.pyd; rw[hp']; rfl
    show Dp B.K H u d.pyd
    rw[e]; exact this
   ·exact e3 q hq
  ·rcases List.mem_cons.mp hq with rfl|hq
   ·exact h.1
   ·exact e4 q hq
theorem t5 {B:Bk} {G:Hp}:∀{ps:List (V×D)},(∀p∈ps,Fz B G p.1 p.2)→FzL B G (ps.map (·.1)) (ps.map (·.2))
 |[],_=>.nil
 |p::ps,h=>.cons (h p AN) (t5 fun q hq=>h q (List.mem_cons_of_mem _ hq))
theorem ix {ds:List D} (h:xq ds=true):ds.all (fun d=>d.py.isSome)=true:=by
 unfold xq at h
 simp only[Bool.and_eq_true,AP]at h
 rw[AP]
 exact fun d hd=>(h.1.1 d hd).1
theorem cL {B:Bk} {G H:Hp} {Q:VK} {a:Addr} {us:List V} {ds:List D} (s:Same G H) (f:FzL B G us ds) (src:Rf B.K B.w H a us) (ok:xq ds=true) (q:∀l us',H l=none→FzL B G us' (Xx ds)→Q (.ref l) (upd H l (.lst us'))):gI B.K B.w [.ref a] H Q:=by
 obtain⟨ps,rfl,rfl,h1,h2⟩:=mR s f (ix ok)
 refine⟨a,ps,rfl,src,h1,ok,fun l hl=>q l _ hl ?_⟩
 rw[←bC]
 exact t5 fun p hp=>h2 p ((Jf ps).mem_iff.mp hp)
theorem UY {B:Bk} {G:Hp}:∀{es:EnL} {ds:List (D×D)},FzD B G es ds→FzL B G (es.map fun e=>V.ref e.2.1) (ds.map (·.1))
 |[],[],_=>.nil
 |[],_::_,h=>by rw[FzD]at h; exact h.elim
 |_::_,[],h=>by rw[FzD]at h; exact h.elim
 |_::_,_::_,h=>by rw[FzD]at h; exact .cons h.2.1 (UY h.2.2.2)
abbrev rV (K:PySem.W.Frag) (w:World):List V→Hp→VK→Prop:=fun xs H Q=>rSortedI K xs H Q∨gI K w xs H Q
theorem Q6 (hc:X.calm=true) (hu:X.A.units+64<cLine):CallR X (.builtin "sorted") (rV X.K X.w):=cr_sortedI.or (pz hc hu)
theorem Jg {B:Bk}:SndL B qx (rV B.K B.w):=by
 intro xs v us G H Q e s hx q
 unfold qx at e
 split at e
 ·rename_i xs
  obtain⟨u,rfl,p,ws,rfl,h1,h2⟩:=jD hx
  split at e
  ·rename_i ns e1
   cases e
   rw[cf h2 e1]at h1
   refine .inl ⟨p,ns,rfl,SqL.of h1,fun ns' r hp ha hr=>?_⟩
   rw[Lw hp ha]
   exact q _ _ _ (.own s hr ⟨_,rfl,sU _⟩)
  ·split at e
   ·rename_i ok
    cases e
    exact .inr (cL s h2 (.inl (SqL.of h1)) ok fun l us' hl f=>q _ _ _ (.own s hl ⟨_,rfl,f⟩))
   ·cases e
 ·split at e
  ·rename_i ok
   cases e
   obtain⟨u,rfl,h⟩:=jD hx
   obtain⟨p,ws,rfl,h1,h2⟩:=qO h
   exact .inr (cL s h2 (.inr (.inl (BY s h1))) ok fun l us' hl f=>q _ _ _ (.own s hl ⟨_,rfl,f⟩))
  ·cases e
 ·split at e
  ·rename_i ok
   cases e
   obtain⟨u,rfl,p,ob,es,rfl,h1,h2⟩:=jD hx
   exact .inr (cL s (UY h2) (.inr (.inr ⟨ob,es,h1,rfl⟩)) ok fun l us' hl f=>q _ _ _ (.own s hl ⟨_,rfl,f⟩))
  ·cases e
 ·cases e
def D.tyn:D→String
 | .non=>"NoneType"
 | .bl _=>"bool"
 | .int _=>"int"
 | .str _=>"str"
 | .tup _=>"tuple"
 | .lst _=>"list"
 | .dct _=>"dict"
 | .scr _=>"list"
 | .cd _=>"written dict"
 | .dd _=>"nested dict"
 | .db _=>"truth dict"
 | .ins _ _=>"an own class"
 | .raw _=>"any value"
 | .exc _ _=>"any value"
 | .wt _=>"any value"
 | .fn _=>"function"
 | .ty _=>"type"
inductive Ty5 where|int|bool|str|tuple|list|dict
def Ty5.nm:Ty5→String
 | .int=>"int"| .bool=>"bool"| .str=>"str"| .tuple=>"tuple"| .list=>"list"| .dict=>"dict"
def D.isi:D→Ty5→Option Bool
 | .non,_=>some false
 | .bl _,.bool=>some true
 | .bl _,.int=>some true
 | .bl _,_=>some false
 | .int _,.int=>some true
 | .int _,_=>some false
 | .str _,.str=>some true
 | .str _,_=>some false
 | .tup _,.tuple=>some true
 | .tup _,_=>some false
 | .lst _,.list=>some true
 | .lst _,_=>some false
 | .dct _,.dict=>some true
 | .dct _,_=>some false
 |_,_=>none
def yc:List D→Option E
 |[x,.ty n]=>if n="int" then(x.isi .int).map eBl else if n="bool" then(x.isi .bool).map eBl else if n="str" then(x.isi .str).map eBl else if n="tuple" then(x.isi .tuple).map eBl
  else if n="list" then(x.isi .list).map eBl else if n="dict" then(x.isi .dict).map eBl else none
 |_=>none
theorem ME (t:Ty5):kitB "NoneType" t.nm=some false:=by cases t<;>decide+kernel
theorem Km (t:Ty5):kitB "bool" t.nm=some (match t with| .bool=>true| .int=>true|_=>false):=by cases t<;>decide+kernel
theorem MD (t:Ty5):kitB "int" t.nm=some (match t with| .int=>true|_=>false):=by cases t<;>decide+kernel
theorem MF (t:Ty5):kitB "str" t.nm=some (match t with| .str=>true|_=>false):=by cases t<;>decide+kernel
theorem oI (t:Ty5):kitB "tuple" t.nm=some (match t with| .tuple=>true|_=>false):=by cases t<;>decide+kernel
theorem Ko (t:Ty5):kitB "list" t.nm=some (match t with| .list=>true|_=>false):=by cases t<;>decide+kernel
theorem Kn (t:Ty5):kitB "dict" t.nm=some (match t with| .dict=>true|_=>false):=by cases t<;>decide+kernel
theorem a9 {B:Bk} {H:Hp} {a:Addr} {xs:List V} (h:SqT B.K H a xs):TyX B.K H (.ref a) (.type "tuple"):=by
 rcases h with(h|⟨o,h⟩)|⟨o,its,n,h,c,_⟩
 ·exact .base (.tup h)
 ·exact .fTuple h
 ·exact .kTuple h c
theorem RH {B:Bk} {G H:Hp} {x:D} {u:V} {t:Ty5} {k:Bool} (s:Same G H) (h:Tz B G H u x) (e:x.isi t=some k):∃ty,TyX B.K H u ty∧PySem.W.kitOne B.K ty (.type t.nm)=some k:=by
 cases x
 ·rw[Zm h]; exact⟨_,.base .non,by rw[kit_ty (ME t)]; cases t<;>exact e⟩
 ·rw[Vq h]; exact⟨_,.base (.bl _),by rw[kit_ty (Km t)]; cases t<;>exact e⟩
 ·rw[y0 h]; exact⟨_,.base (.int _),by rw[kit_ty (MD t)]; cases t<;>exact e⟩
 ·rw[xk h]; exact⟨_,.base (.str _),by rw[kit_ty (MF t)]; cases t<;>exact e⟩
 ·obtain⟨p,us,rfl,h1,h2⟩:=qO h; exact⟨_,a9 (BY s h1),by rw[kit_ty (oI t)]; cases t<;>exact e⟩
 ·obtain⟨p,us,rfl,h1,h2⟩:=h; exact⟨_,.base (.lst h1),by rw[kit_ty (Ko t)]; cases t<;>exact e⟩
 ·obtain⟨p,us,rfl,h1,h2⟩:=h; exact⟨_,.base (.dK h1),by rw[kit_ty (Kn t)]; cases t<;>exact e⟩
 all_goals (cases t<;>cases e)
theorem Vy {B:Bk}:SndL B yc (rIsi B.K):=by
 intro xs v us G H Q e s hx q
 unfold yc at e
 split at e
 ·rename_i x n
  obtain⟨u,w,rfl,h,h'⟩:=Nu hx
  have h':Fz B G w (.ty n):=h'
  rw[Fz]at h'
  subst h'
  have fin:∀t:Ty5,n=t.nm→(x.isi t).map eBl=some v→rIsi B.K [u,.ty n] H Q:=fun t en e=>by
   obtain⟨k,e1,rfl⟩:=AO.mp e
   obtain⟨ty,h1,h2⟩:=RH s h e1
   subst en
   exact⟨u,_,ty,_,k,rfl,.ty _,h1,h2,q _ _ _ (.scalar s (jL _))⟩
  split at e
  ·rename_i en; exact fin .int en e
  ·split at e
   ·rename_i en; exact fin .bool en e
   ·split at e
    ·rename_i en; exact fin .str en e
    ·split at e
     ·rename_i en; exact fin .tuple en e
     ·split at e
      ·rename_i en; exact fin .list en e
      ·split at e
       ·rename_i en; exact fin .dict en e
       ·cases e
 ·cases e
def OE (B:Bk) (g:D→List D→Option E) (r:V→List V→Hp→VK→Prop):Prop:=
 ∀(x:D) (xs:List D) (v:E) (a:V) (as:List V) (G H:Hp) (Q:VK),g x xs=some v→Same G H→Tz B G H a x→TzL B G H as xs→(∀u H' G',New B G H u v H' G'→Q u H')→r a as H Q
def zC (T:String) (g:D→List D→Option E) (fo:AK) (fs:List S→Res (List E)):AK:=fun ρ=>(fo ρ).bind fun v ρ1=>match v.val ρ1 with
 |some x0=>if x0.tyn=T∧T≠"tuple" then(fs ρ1).bind fun vs ρ2=>match v.val ρ2,zY ρ2 vs with
   |some x,some xs=>match g x xs with
    |some w=>.ok w ρ2
    |none=>.no
   |_,_=>.no
  else .no
 |none=>.no
theorem P_ {B:Bk} {G H:Hp} {x:D} {u:V} {T:String} (s:Same G H) (h:Tz B G H u x) (e:x.tyn=T) (ne:T≠"tuple") (hT:T="str"∨T="int"∨T="list"∨T="dict"):tyV B.K T u H:=by
 cases x<;>simp only[D.tyn]at e<;>subst e
 ·rcases hT with h|h|h|h<;>exact absurd h (by decide)
 ·rcases hT with h|h|h|h<;>exact absurd h (by decide)
 ·rw[y0 h]; rfl
 ·rw[xk h]; rfl
 ·exact absurd rfl ne
 ·obtain⟨p,us,rfl,h1,h2⟩:=h; exact .inl ⟨rfl,us,SqL.of h1⟩
 ·obtain⟨p,us,rfl,h1,h2⟩:=h; exact .inr (.inr (.inl ⟨rfl,.inl ⟨us,h1⟩⟩))
 ·rcases hT with h|h|h|h<;>exact absurd h (by decide)
 ·rcases hT with h|h|h|h<;>exact absurd h (by decide)
 ·rename_i ns
  have h:Fz B G u (.scr ns):=h
  rw[Fz]at h
  obtain⟨p,rfl,h1⟩:=h
  exact .inl ⟨rfl,_,Same.seq s h1⟩
 ·rcases hT with h|h|h|h<;>exact absurd h (by decide)
 ·rcases hT with h|h|h|h<;>exact absurd h (by decide)
 ·rcases hT with h|h|h|h<;>exact absurd h (by decide)
 ·rcases hT with h|h|h|h<;>exact absurd h (by decide)
 ·rcases hT with h|h|h|h<;>exact absurd h (by decide)
 ·rcases hT with h|h|h|h<;>exact absurd h (by decide)
 ·rcases hT with h|h|h|h<;>exact absurd h (by decide)
theorem JH {T id:String} {name:Str} {apos cpos:Pos} {g:D→List D→Option E} {r:V→List V→Hp→VK→Prop} (hT:T="str"∨T="int"∨T="list"∨T="dict") (pa:PlainAttrs T) (slot:Slot T name id) (hty:typeOf (.builtin id)=pure (.type "method_descriptor")) (hm:MtR X id r) (sn:OE X.bk g r)
  (ho:PEa X W o fa) (ha:PAa X W (e::es) fs) (hbase:attributeBase o name X.env (eval o X.env)=eval o X.env:=by rfl)
  (hfew:((backTo cpos (starEach (e::es) X.env)).all (fun x=>!x.1)&&(backToKw cpos (keywordEach [] X.env)).all (fun x=>x.1.isSome)
    &&decide ((e::es).length+([]:List Keyword).length+(if ([]:List Keyword).isEmpty then 0 else 1)<30))=true:=by rfl)
  (hline:(apos.endLine==cpos.line)=true:=by rfl) (hs:starEach (e::es) X.env=(false,eval e X.env)::starEach es X.env:=by rfl) (hplain:(backTo cpos (starEach es X.env)).any (·.1)=false:=by rfl) :
  PEa X W (.Call (.Attribute o name apos) (e::es) [] cpos) (zC T g fa fs):=
 xv (pe_bm pa slot hty hm ho ha hbase hfew hline hs hplain) fun σ H Q ⟨G,ρ,rl,h⟩=>by
  refine yr (yx rl (Aft.cl (Q:=Q)) h) fun u H1 ⟨v,ρ1,G1,P1,h1⟩=>?_
  obtain⟨w,ew,rw'⟩:=P1.re 0 v rfl
  cases ew
  split at h1
  ·rename_i x0 hx0
   split at h1
   ·rename_i hty
    refine⟨P_ P1.post.rel.sub (P1.post.rel.val rw' hx0) hty.1 hty.2 hT,?_⟩
    refine yY (qV P1 (Aft.cl (Q:=Q)) h1) fun us H2 ⟨vs,ρ2,G2,P2,h2⟩=>?_
    split at h2
    ·rename_i x xs hx hxs
     split at h2
     ·rename_i z hz
      obtain⟨w,ew,rw'⟩:=P2.re 0 v rfl
      cases ew
      exact sn x xs z u us G2 H2 Q hz P2.post.rel.sub (P2.post.rel.val rw' hx) (Pend.vals (P2.tail (us:=us) (vs:=vs)) hxs) fun w H' G' n=>h2.fin P2.post n
     ·exact h2.elim
    ·exact h2.elim
   ·exact h1.elim
  ·exact h1.elim
def Ys:D→List D→Option E
 | .str a,[.lst xs]=>(D.strs? xs).bind fun ys=>if (ys.map (·.length)).sum+ys.length * a.length≤16777216 then some (z_ (Txt.join a ys))else none
 | .str a,[.tup xs]=>(D.strs? xs).bind fun ys=>if (ys.map (·.length)).sum+ys.length * a.length≤16777216 then some (z_ (Txt.join a ys))else none
 |_,_=>none
abbrev PQ (K:PySem.W.Frag):V→List V→Hp→VK→Prop:=fun x xs H Q=>∃a p,∃ys:List Str,x=.str a∧xs=[.ref p]∧(SqL K H p (ys.map V.str)∨SqT K H p (ys.map V.str))∧(ys.map (·.length)).sum+ys.length * a.length≤16777216∧Q (.str (Txt.join a ys)) H
theorem JS {B:Bk}:OE B Ys (PQ B.K):=by
 intro x xs v a as G H Q e s hx hxs q
 unfold Ys at e
 split at e
 ·obtain⟨ys,e1,e2⟩:=Bc.mp e
  split at e2
  ·rename_i hz
   cases e2
   obtain⟨u,rfl,p,ws,rfl,h1,h2⟩:=jD hxs
   rw[nO h2 e1]at h1
   exact⟨_,p,ys,xk hx,rfl,.inl (SqL.of h1),hz,q _ _ _ (.scalar s (YC _))⟩
  ·cases e2
 ·obtain⟨ys,e1,e2⟩:=Bc.mp e
  split at e2
  ·rename_i hz
   cases e2
   obtain⟨u,rfl,h⟩:=jD hxs
   obtain⟨p,ws,rfl,h1,h2⟩:=qO h
   rw[nO h2 e1]at h1
   exact⟨_,p,ys,xk hx,rfl,.inr (BY s h1),hz,q _ _ _ (.scalar s (YC _))⟩
  ·cases e2
 ·cases e
def ZN:D→List D→Option E
 | .str a,[.str b]=>if (b.length==0)=false∧a.length+2≤sizeLine then some (.fr (.lst ((Txt.split a b).map .str)))else none
 |_,_=>none
theorem vC {B:Bk}:OE B ZN (fun x xs H Q=>∃a b,x=.str a∧xs=[.str b]∧(b.length==0)=false∧a.length+2≤sizeLine∧rNewStrs (Txt.split a b) H Q):=by
 intro x xs v a as G H Q e s hx hxs q
 unfold ZN at e
 split at e
 ·split at e
  ·rename_i hz
   cases e
   obtain⟨u,rfl,h⟩:=jD hxs
   exact⟨_,_,xk hx,by rw[xk h],hz.1,hz.2,fun p hp=>q _ _ _ (.own s hp ⟨_,rfl,sV _⟩)⟩
  ·cases e
 ·cases e
def D.imm:D→Bool
 | .lst _=>false
 | .dct _=>false
 | .dd _=>false
 | .db _=>false
 | .ins _ _=>false
 |_=>true
end
section
variable {B:Bk} {σ σ0:St} {ρ ρ0 ρ':List S} {H H0 H' G G0 G':Hp}
theorem gj {i:Nat} {a:Addr} {o o':O} {ho:HO} (p:Post B σ ρ0 H0 G0 σ ρ H G) (hs:σ[i]?=some (some (.ref a))) (hr:ρ[i]?=some (.own o)) (ro:RO B G a ho o') :
  Post B σ ρ0 H0 G0 σ (ρ.set i (.own o')) (upd H a ho) G:=by
 have ow:Own σ ρ i a:=.of hs hr
 have hi:i<ρ.length:=(AQ.mp hr).1
 obtain⟨v,e1,a',ob,e2,e3,e4,e5⟩:=p.rel.slot i _ hr
 rw[hs]at e1; cases e1; cases e2
 have oo:∀j b,Own σ (ρ.set i (.own o')) j b→Own σ ρ j b:=fun j b w=>by
  by_cases hj:i=j
  ·subst hj
   have:=w.at' (A0 hi) hs
   subst this
   exact ow
  ·exact w.eq rfl (AZ hj).symm
 refine⟨p.grow,fun b e=>p.dom b ?_,fun b u e t n=>?_,p.keep,⟨fun b u e=>?_,by rw[List.length_set]; exact p.rel.len,fun j s e=>?_,fun j k b w w'=>p.rel.sep j k b (oo j b w) (oo k b w'),p.rel.tab.same fun b ps hb=>by rw[upd_ne (fun z=>by rw[z,e3]at hb; exact e5.nt _ (Option.some.inj hb))]; exact hb⟩,fun j b w=>p.own j b (oo j b w)⟩
 ·by_cases hb:b=a
  ·subst hb; rw[upd_same]at e; cases e
  ·rw[upd_ne hb]at e; exact e
 ·have hb:b≠a:=fun z=>by
   subst z
   rcases p.own i b ow with w|w
   ·exact n i w
   ·rw[e]at w; cases w
  rw[upd_ne hb]; exact p.frame b u e t n
 ·have hb:b≠a:=fun z=>by subst z; rw[e4]at e; cases e
  rw[upd_ne hb]; exact p.rel.sub b u e
 ·by_cases hj:i=j
  ·subst hj
   rw[A0 hi]at e
   cases e
   exact⟨_,hs,a,ho,rfl,upd_same,e4,ro⟩
  ·rw[AZ hj]at e
   obtain⟨w,q1,q2⟩:=p.rel.slot j s e
   refine⟨w,q1,q2.step (.refl _) fun b ob w1 t2 _ t3=>⟨?_,t3⟩⟩
   have hb:b≠a:=fun z=>by
    subst z
    exact hj (p.rel.sep i j b ow ⟨_,s,q1,e,w1⟩)
   rw[upd_ne hb]; exact t2
def toS:E→List S→Option (S×List S)
 | .d x,ρ=>some (.d x,ρ)
 | .ad a,ρ=>some (.d (.raw (.ref a)),ρ)
 | .fr o,ρ=>some (.own o,ρ)
 | .sl i,ρ=>match zq i ρ with
   |some (x,ρ1)=>some (.d x,ρ1)
   |none=>none
def toSL:List E→List S→Option (List S×List S)
 |[],ρ=>some ([],ρ)
 |v::vs,ρ=>match toS v ρ with
  |none=>none
  |some (x,ρ1)=>match toSL vs ρ1 with
   |none=>none
   |some (xs,ρ2)=>some (x::xs,ρ2)
def setL {α:Type}:List α→List Nat→List α→List α
 |l,[],_=>l
 |l,_::_,[]=>l
 |l,i::is,x::xs=>setL (l.set i x) is xs
def Rg (B:Bk) (G:Hp) (σ:St) (ρ:List S) (H H0:Hp) (u:V):S→Prop
 | .no=>False
 | .clo _ _=>False
 | .mem _=>False
 | .d x=>Fz B G u x
 | .own o=>∃a ho,u=.ref a∧H a=some ho∧G a=none∧RO B G a ho o∧(∀i,¬Own σ ρ i a)∧H0 a=none
structure Wait (B:Bk) (G:Hp) (σ:St) (ρ:List S) (H H0:Hp) (us:List V) (ss:List S):Prop where
 len:us.length=ss.length
 ok:∀(k:Nat) (s:S),ss[k]?=some s→∃u,us[k]?=some u∧Rg B G σ ρ H H0 u s
 apart:∀(k l:Nat) (o o':O) (a:Addr),ss[k]?=some (.own o)→ss[l]?=some (.own o')→us[k]?=some (.ref a)→us[l]?=some (.ref a)→k=l
theorem Pend.toS1 {u:V} {v:E} {us:List V} {vs:List E} {s:S} (p:Pend B σ ρ0 H0 G0 ρ H G (u::us) (v::vs)) (e:toS v ρ=some (s,ρ')) :
  ∃G',Pend B σ ρ0 H0 G0 ρ' H G' us vs∧Same G G'∧(∀b,(∀i,¬Own σ ρ i b)→G b=none→G' b=none)∧(∀i b,Own σ ρ' i b→Own σ ρ i b)∧match s with
   | .no=>False
   | .clo _ _=>False
   | .mem _=>False
   | .d x=>Fz B G' u x
   | .own o=>v=.fr o:=by
 obtain⟨w,ew,rw'⟩:=p.re 0 v rfl
 cases ew
 cases v with
 |d y=>cases e; exact⟨G,p.tail,.refl _,fun _ _ h=>h,fun _ _ h=>h,rw'⟩
 |fr o=>cases e; exact⟨G,p.tail,.refl _,fun _ _ h=>h,fun _ _ h=>h,rfl⟩
 |ad a=>
  cases e
  have rw':u=.ref a:=rw'
  exact⟨G,p.tail,.refl _,fun _ _ h=>h,fun _ _ h=>h,by show Fz B G u (.raw (.ref a)); rw[Fz]; exact rw'⟩
 |sl i=>
  simp only[toS]at e
  split at e
  ·rename_i x ρ1 hf
   cases e
   obtain⟨G',q,f,hk⟩:=Vx p.post.rel rw' hf
   refine⟨G',⟨p.post.trans q,p.tail.len,fun j w ej=>?_,fun j o a ej e'=>p.tail.new j o a ej e',p.tail.apart⟩,q.grow,hk,fun j b w=>?_,f⟩
   ·obtain⟨y,e1,e2⟩:=p.tail.re j w ej
    exact⟨y,e1,e2.step q⟩
   ·unfold zq at hf
    split at hf
    ·cases hf; exact w
    ·rename_i o ho
     cases hf
     by_cases hj:i=j
     ·subst hj
      exact(w.off (A0 (AQ.mp ho).1) fun _=>vj).elim
     ·exact w.eq rfl (AZ hj).symm
    ·cases hf
  ·cases e
theorem Pend.toSL:∀{us:List V} {vs:List E} {ss:List S} {ρ ρ':List S} {G:Hp},Pend B σ ρ0 H0 G0 ρ H G us vs→AL.toSL vs ρ=some (ss,ρ')→
  ∃G',Post B σ ρ0 H0 G0 σ ρ' H G'∧Wait B G' σ ρ' H H0 us ss∧Same G G'∧(∀b,(∀i,¬Own σ ρ i b)→G b=none→G' b=none)∧(∀i b,Own σ ρ' i b→Own σ ρ i b)∧(∀(k:Nat) (o:O),ss[k]?=some (.own o)→vs[k]?=some (.fr o))
 |[],[],ss,ρ,ρ',G,p,e=>by
  cases e
  exact⟨G,p.post,⟨rfl,fun k s e=>by simp at e,fun k l o o' a e=>by simp at e⟩,.refl _,fun _ _ h=>h,fun _ _ h=>h,fun k o e=>by simp at e⟩
 |[],_::_,_,_,_,_,p,_=>by have:=p.len; simp at this
 |_::_,[],_,_,_,_,p,_=>by have:=p.len; simp at this
 |u::us,v::vs,ss,ρ,ρ',G,p,e=>by
  simp only[AL.toSL]at e
  split at e
  ·cases e
  ·rename_i x ρ1 e1
   split at e
   ·cases e
   ·rename_i ys ρ2 e2
    cases e
    obtain⟨G1,p1,s1,k1,o1,f1⟩:=p.toS1 e1
    obtain⟨G2,q2,w2,s2,k2,o2,f2⟩:=Pend.toSL p1 e2
    obtain⟨wv,ewv,rwv⟩:=p.re 0 v rfl
    cases ewv
    refine⟨G2,q2,⟨by simp[w2.len],fun k s ek=>?_,fun k l o o' a ek el uk ul=>?_⟩,s1.trans s2,fun b nb gb=>k2 b (fun i w=>nb i (o1 i b w)) (k1 b nb gb),fun i b w=>o1 i b (o2 i b w),fun k o ek=>?_⟩
    ·cases k with
     |zero=>
      cases ek
      refine⟨u,rfl,?_⟩
      cases x with
      |no=>exact f1.elim
      |clo u F=>exact f1.elim
      |mem τ=>exact f1.elim
      |d y=>exact Fz.mono s2 _ _ f1
      |own o=>
       have f1:v=.fr o:=f1
       subst f1
       obtain⟨a,ho,rfl,r1,r2,r3,r4⟩:=rwv
       exact⟨a,ho,rfl,r1,k2 a (fun i w=>r4 i (o1 i a w)) (k1 a r4 r2),r3.mono (s1.trans s2),fun i w=>r4 i (o1 i a (o2 i a w)),p.new 0 o a rfl rfl⟩
     |succ k=>
      obtain⟨y,e3,e4⟩:=w2.ok k s (by simpa using ek)
      exact⟨y,by simpa using e3,e4⟩
    ·have gv:∀{k:Nat} {o:O},(x::ys)[k]?=some (.own o)→(v::vs)[k]?=some (.fr o):=fun {k o} ek=>by
      cases k with
      |zero=>cases ek; exact congrArg some f1
      |succ k=>exact f2 k o (by simpa using ek)
     exact p.apart k l o o' a (gv ek) (gv el) uk ul
    ·cases k with
     |zero=>cases ek; exact congrArg some f1
     |succ k=>exact f2 k o (by simpa using ek)
theorem Wait.set1 {i:Nat} {u:V} {s:S} {us:List V} {ss:List S} (p:Post B σ0 ρ0 H0 G0 σ ρ H G) (w:Wait B G σ ρ H H0 (u::us) (s::ss)) (hi:i<ρ.length) :
  Post B σ0 ρ0 H0 G0 (σ.set i (some u)) (ρ.set i s) H G∧Wait B G (σ.set i (some u)) (ρ.set i s) H H0 us ss:=by
 obtain⟨y,ey,ws⟩:=w.ok 0 s rfl
 cases ey
 have hi':i<σ.length:=by rw[p.rel.len]; exact hi
 have oo:∀j b,Own (σ.set i (some u)) (ρ.set i s) j b→(j≠i∧Own σ ρ j b)∨(j=i∧u=.ref b∧∃o,s=.own o):=fun j b w1=>by
  by_cases hj:i=j
  ·subst hj
   obtain⟨v,t,e1,e2,e3⟩:=w1
   rw[A0 hi']at e1
   rw[A0 hi]at e2
   cases e1; cases e2
   cases s with
   |no=>exact e3.elim
   |d x=>exact e3.elim
   |clo u F=>exact e3.elim
   |mem τ=>exact ws.elim
   |own o=>exact .inr ⟨rfl,Option.some.inj e3,o,rfl⟩
  ·exact .inl ⟨fun z=>hj z.symm,w1.eq (AZ hj).symm (AZ hj).symm⟩
 have nown:∀{b:Addr} {o:O},u=.ref b→s=.own o→∀j,¬Own σ ρ j b:=fun {b o} eu es=>by
  subst eu es
  obtain⟨a,ho,e1,_,_,_,n,_⟩:=ws
  cases e1
  exact n
 refine⟨⟨p.grow,p.dom,p.frame,p.keep,⟨p.rel.sub,by rw[List.length_set,List.length_set]; exact p.rel.len,fun j t e=>?_,fun j k b w1 w2=>?_,p.rel.tab⟩,fun j b w1=>?_⟩,⟨by have:=w.len; simpa using this,fun k t e=>?_,fun k l o o' a e1 e2 e3 e4=>by have:=w.apart (k+1) (l+1) o o' a e1 e2 e3 e4; omega⟩⟩
 ·by_cases hj:i=j
  ·subst hj
   rw[A0 hi]at e
   cases e
   refine⟨some u,by rw[A0 hi'],?_⟩
   cases s with
   |no=>exact ws.elim
   |clo u F=>exact ws.elim
   |mem τ=>exact ws.elim
   |d x=>exact⟨u,rfl,ws⟩
   |own o=>obtain⟨a,ho,rfl,h1,h2,h3,_⟩:=ws; exact⟨a,ho,rfl,h1,h2,h3⟩
  ·rw[AZ hj]at e
   obtain⟨v,e1,e2⟩:=p.rel.slot j t e
   exact⟨v,by rw[AZ hj]; exact e1,e2⟩
 ·rcases oo j b w1 with⟨n1,o1⟩|⟨rfl,eu,o1,es⟩
  ·rcases oo k b w2 with⟨n2,o2⟩|⟨rfl,eu,o2,es⟩
   ·exact p.rel.sep j k b o1 o2
   ·exact absurd o1 (nown eu es j)
  ·rcases oo k b w2 with⟨n2,o2⟩|⟨rfl,eu',o2,es'⟩
   ·exact absurd o2 (nown eu es k)
   ·rfl
 ·rcases oo j b w1 with⟨n1,o1⟩|⟨rfl,eu,o1,es⟩
  ·exact p.own j b o1
  ·subst eu es
   obtain⟨a,ho,e1,_,_,_,_,h0⟩:=ws
   cases e1
   exact .inr h0
 ·obtain⟨y,e1,e2⟩:=w.ok (k+1) t e
  refine⟨y,e1,?_⟩
  cases t with
  |no=>exact e2
  |clo u F=>exact e2
  |mem τ=>exact e2
  |d x=>exact e2
  |own o=>
   obtain⟨a,ho,rfl,h1,h2,h3,h4,h5⟩:=e2
   refine⟨a,ho,rfl,h1,h2,h3,fun j w1=>?_,h5⟩
   rcases oo j a w1 with⟨n1,o1⟩|⟨rfl,eu,o1,es⟩
   ·exact h4 j o1
   ·subst eu es
    have:=w.apart 0 (k+1) o1 o a rfl e rfl e1
    omega
theorem Wait.setL:∀{is:List Nat} {us:List V} {ss:List S} {σ:St} {ρ:List S},Post B σ0 ρ0 H0 G0 σ ρ H G→Wait B G σ ρ H H0 us ss→is.length=ss.length→(∀i∈is,i<ρ.length)→
  Post B σ0 ρ0 H0 G0 (AL.setL σ is (us.map some)) (AL.setL ρ is ss) H G
 |[],us,ss,σ,ρ,p,w,_,_=>by simpa only[AL.setL]using p
 |i::is,[],ss,σ,ρ,p,w,hl,_=>by have:=w.len; rw[←this]at hl; simp at hl
 |i::is,u::us,[],σ,ρ,p,w,hl,_=>by simp at hl
 |i::is,u::us,s::ss,σ,ρ,p,w,hl,hi=>by
  obtain⟨p1,w1⟩:=w.set1 p (hi i AN)
  have z:=Wait.setL (is:=is) p1 w1 (by simpa using hl) fun j hj=>by rw[List.length_set]; exact hi j (List.mem_cons_of_mem _ hj)
  simpa only[AL.setL,List.map_cons]using z
end
inductive Tg where
 |nm (i:Nat)|tp (ts:List Tg)
mutual
def Tg.names:Tg→List Nat
 | .nm i=>[i]
 | .tp ts=>Tg.namesL ts
def Tg.namesL:List Tg→List Nat
 |[]=>[]
 |t::ts=>t.names++Tg.namesL ts
end
mutual
def zQ:Tg→D→List S→Option (List S)
 | .nm i,x,ρ=>some (ρ.set i (.d x))
 | .tp ts,x,ρ=>match x with
   | .tup xs=>tsetL ts xs ρ
   | .lst xs=>tsetL ts xs ρ
   | .wt xs=>tsetL ts xs ρ
   |_=>none
def tsetL:List Tg→List D→List S→Option (List S)
 |[],xs,ρ=>match xs with
  |[]=>some ρ
  |_=>none
 |t::ts,xs,ρ=>match xs with
  |[]=>none
  |x::xs=>match zQ t x ρ with
   |some ρ1=>tsetL ts xs ρ1
   |none=>none
end
section
variable {B:Bk} {σ σ' σ0:St} {ρ ρ0 ρ':List S} {H H0 H' G G0 G':Hp}
theorem Ca {v:V} {x:D} (i:Nat) (r:Rel B G σ ρ H) (h:Fz B G v x):Post B σ ρ H G (σ.set i (some v)) (ρ.set i (.d x)) H G:=by
 have oo:∀j b,Own (σ.set i (some v)) (ρ.set i (.d x)) j b→Own σ ρ j b:=fun j b w=>by
  by_cases hj:i=j
  ·subst hj
   by_cases hi:i<ρ.length
   ·exact(w.off (A0 hi) fun _=>vj).elim
   ·obtain⟨_,s,_,w2,_⟩:=w
    rw[Bs (by simpa using hi)]at w2; cases w2
  ·exact w.eq (AZ hj).symm (AZ hj).symm
 refine⟨.refl _,fun _ h=>h,fun _ _ h _ _=>h,fun _ _ _ _ h _=>h,⟨r.sub,by rw[List.length_set,List.length_set]; exact r.len,fun j t e=>?_,fun j k b w1 w2=>r.sep j k b (oo j b w1) (oo k b w2),r.tab⟩,fun j b w=>.inl (oo j b w)⟩
 by_cases hj:i=j
 ·subst hj
  have hi:i<ρ.length:=by
   have:=(AQ.mp e).1
   simpa using this
  rw[A0 hi]at e
  cases e
  exact⟨some v,by rw[A0 (by rw[r.len]; exact hi)],v,rfl,h⟩
 ·rw[AZ hj]at e
  obtain⟨w,e1,e2⟩:=r.slot j t e
  exact⟨w,by rw[AZ hj]; exact e1,e2⟩
def gD (B:Bk) (t:Tg):TG:=fun v σ H Q=>∃G ρ x ρ',Rel B G σ ρ H∧Fz B G v x∧zQ t x ρ=some ρ'∧∀σ',Post B σ ρ H G σ' ρ' H G→(∀j,j∉t.names→σ'[j]?=σ[j]?)→Q σ' H
def gDs (B:Bk) (ts:List Tg):TGs:=fun vs σ H Q=>∃G ρ xs ρ',Rel B G σ ρ H∧FzL B G vs xs∧tsetL ts xs ρ=some ρ'∧∀σ',Post B σ ρ H G σ' ρ' H G→(∀j,j∉Tg.namesL ts→σ'[j]?=σ[j]?)→Q σ' H
end
section
variable {X:Cx} {pos:Pos}
theorem K6 {tg:Expr} {t t':TG} (h:PG X tg t) (w:∀v σ H Q,t' v σ H Q→t v σ H Q):PG X tg t':=⟨fun pins s σ H v u Q I r q=>h.run pins s σ H v u Q I r (w v σ H Q q)⟩
theorem aD {tg:List Expr} {t t':TGs} (h:PGs X tg t) (w:∀v σ H Q,t' v σ H Q→t v σ H Q):PGs X tg t':=⟨fun pins s σ H v u Q I r q=>h.run pins s σ H v u Q I r (w v σ H Q q)⟩
theorem RT {tg:Expr} {t t':TG} (h:PG X tg t) (h':PG X tg t'):PG X tg (fun v σ H Q=>t v σ H Q∨t' v σ H Q):=⟨fun pins s σ H v u Q I r q=>q.elim (h.run pins s σ H v u Q I r) (h'.run pins s σ H v u Q I r)⟩
theorem yI {i:Nat} {x:Str} (hN:X.N.Nodup) (hi:X.N[i]?=some x) (hx:Loc X.env.scope x) (hf:X.fn x=true∨X.env.scope.names.lookup x=some .local:=by first|exact .inl rfl|exact .inr rfl|assumption):PG X (.Name x pos) (gD X.bk (.nm i)):=
 K6 (pg_name hN hi hx hf) fun v σ H Q ⟨G,ρ,x,ρ',r,f,e,q⟩=>by
  simp only[zQ,Option.some.injEq]at e
  subst e
  refine q _ (Ca i r f) fun j hj=>?_
  simp only[Tg.names,A8]at hj
  rw[AZ (Ne.symm hj)]
theorem Yt:PGs X [] (gDs X.bk []):=aD pgs_nil fun vs σ H Q ⟨G,ρ,xs,ρ',r,f,e,q⟩=>by
 cases xs with
 |nil=>
  simp only[tsetL,Option.some.injEq]at e
  subst e
  cases vs with
  |nil=>exact⟨rfl,q σ (.refl r) fun _ _=>rfl⟩
  |cons _ _=>rw[FzL]at f; exact f.elim
 |cons _ _=>simp[tsetL]at e
theorem yC {e:Expr} {es:List Expr} {t:Tg} {ts:List Tg} (h1:PG X e (gD X.bk t)) (h2:PGs X es (gDs X.bk ts))
  (hs:(assignEach (e::es) X.env).map (·.2)=assign e X.env::(assignEach es X.env).map (·.2):=by rfl):PGs X (e::es) (gDs X.bk (t::ts)):=
 aD (pgs_cons h1 h2 hs) fun vs σ H Q ⟨G,ρ,xs,ρ',r,f,e,q⟩=>by
  cases xs with
  |nil=>simp[tsetL]at e
  |cons x xs=>
   cases vs with
   |nil=>rw[FzL]at f; exact f.elim
   |cons v vs=>
    rw[FzL]at f
    simp only[tsetL]at e
    split at e
    ·rename_i ρ1 e1
     refine⟨v,vs,rfl,G,ρ,x,ρ1,r,f.1,e1,fun σ1 p1 k1=>?_⟩
     refine⟨G,ρ1,xs,ρ',p1.rel,f.2,e,fun σ2 p2 k2=>q σ2 (p1.trans p2) fun j hj=>?_⟩
     simp only[Tg.namesL,AW,not_or]at hj
     rw[k2 j hj.2,k1 j hj.1]
    ·cases e
theorem VH:∀{ts:List Tg} {xs:List D} {ρ ρ':List S},tsetL ts xs ρ=some ρ'→xs.length=ts.length
 |[],[],_,_,_=>rfl
 |[],_::_,_,_,e=>by simp[tsetL]at e
 |_::_,[],_,_,e=>by simp[tsetL]at e
 |t::ts,x::xs,ρ,ρ',e=>by
  simp only[tsetL]at e
  split at e
  ·rw[List.length_cons,List.length_cons,VH e]
  ·cases e
theorem JP {es:List Expr} {k:Nat} {ts:List Tg} (hc:X.calm=true) (h:PGs X es (gDs X.bk ts))
  (hn:(assignEach es X.env).length=ts.length:=by rfl) (hst:(assignEach es X.env).findIdx? (·.1)=none:=by rfl):PG X (.Tuple es k pos) (gD X.bk (.tp ts)):=
 K6 (RT (pg_tup hc h hn hst) (pg_lst hc h hn hst)) fun v σ H Q ⟨G,ρ,x,ρ',r,f,e,q⟩=>by
  cases x<;>simp only[zQ,reduceCtorEq]at e
  ·rw[Fz]at f
   obtain⟨a,us,rfl,h1,h2,_⟩:=f
   exact .inl ⟨a,us,rfl,BY r.sub h1,by rw[h2.length]; exact VH e,G,ρ,_,ρ',r,h2,e,fun σ' p k=>q σ' p fun j hj=>k j (by simpa only[Tg.names]using hj)⟩
  ·rw[Fz]at f
   obtain⟨a,us,rfl,h1,h2⟩:=f
   exact .inr ⟨a,us,rfl,SqL.of (r.sub _ _ h1),by rw[h2.length]; exact VH e,G,ρ,_,ρ',r,h2,e,fun σ' p k=>q σ' p fun j hj=>k j (by simpa only[Tg.names]using hj)⟩
  ·rw[Fz]at f
   obtain⟨a,us,rfl,h1,h2⟩:=f
   exact .inl ⟨a,us,rfl,BY r.sub h1,by rw[h2.length]; exact VH e,G,ρ,_,ρ',r,h2,e,fun σ' p k=>q σ' p fun j hj=>k j (by simpa only[Tg.names]using hj)⟩
end
structure WalksD (B:Bk) (J:It) (G:Hp) (xs:List D):Prop where
 go:∀i H G',i<xs.length→Same G G'→Same G' H→J.go i H
 stop:∀H G',Same G G'→Same G' H→J.stop xs.length H
 yld:∀i H G' v H',i<xs.length→Same G G'→Same G' H→J.yld i H v H'→∃x G'',xs[i]?=some x∧New B G' H v (.d x) H' G''
section
variable {B:Bk} {G:Hp}
theorem hJ {a:Addr} {us:List V} {xs:List D} (h:G a=some (.lst us)) (f:FzL B G us xs):WalksD B (Itl B.K a) G xs:=by
 have hl:=f.length
 refine⟨fun i H G' hi s1 s2=>?_,fun H G' s1 s2=>?_,fun i H G' v H' hi s1 s2 y=>?_⟩
 ·exact walk_list.goes i H (by rw[hl]; exact hi) (SqL.of (s2 _ _ (s1 _ _ h)))
 ·rw[←hl]; exact walk_list.stops H (SqL.of (s2 _ _ (s1 _ _ h)))
 ·obtain⟨rfl,e⟩:=walk_list.yields i H v H' (by rw[hl]; exact hi) (SqL.of (s2 _ _ (s1 _ _ h))) y
  obtain⟨x,e1,f1⟩:=f.get' e
  exact⟨x,G',e1,.scalar s2 (Fz.mono s1 _ _ f1)⟩
theorem iK {a:Addr} {ns:List Int} (h:SqL B.K G a (ns.map V.int)):WalksD B (Itl B.K a) G (ns.map .int):=by
 refine⟨fun i H G' hi s1 s2=>?_,fun H G' s1 s2=>?_,fun i H G' v H' hi s1 s2 y=>?_⟩
 ·exact walk_list.goes i H (by simpa using hi) (Same.seq s2 (Same.seq s1 h))
 ·have:=walk_list.stops H (Same.seq s2 (Same.seq s1 h)); simpa using this
 ·obtain⟨rfl,e⟩:=walk_list.yields i H v H' (by simpa using hi) (Same.seq s2 (Same.seq s1 h)) y
  rw[List.getElem?_map]at e
  obtain⟨n,e1,rfl⟩:=AO.mp e
  exact⟨.int n,G',by rw[List.getElem?_map,e1]; rfl,.scalar s2 (xu _)⟩
theorem iM {a:Addr} {us:List V} {xs:List D} (h:SqT B.K G a us) (f:FzL B G us xs):WalksD B (Itt B.K a) G xs:=by
 have hl:=f.length
 refine⟨fun i H G' hi s1 s2=>?_,fun H G' s1 s2=>?_,fun i H G' v H' hi s1 s2 y=>?_⟩
 ·exact walk_tup.goes i H (by rw[hl]; exact hi) (BY s2 (BY s1 h))
 ·rw[←hl]; exact walk_tup.stops H (BY s2 (BY s1 h))
 ·obtain⟨rfl,e⟩:=walk_tup.yields i H v H' (by rw[hl]; exact hi) (BY s2 (BY s1 h)) y
  obtain⟨x,e1,f1⟩:=f.get' e
  exact⟨x,G',e1,.scalar s2 (Fz.mono s1 _ _ f1)⟩
theorem LQ {a:Addr} {ob:Obj} {es:EnL} {ds:List (D×D)} (h:G a=some (dnO B.w a ob es)) (f:FzD B G es ds):WalksD B (ItN B.w a ob es) G (ds.map (·.1)):=by
 have hl:=f.length
 have fk:=UY f
 refine⟨fun i H G' hi s1 s2=>⟨s2 _ _ (s1 _ _ h),by rw[List.length_map]at hi; omega⟩,fun H G' s1 s2=>⟨s2 _ _ (s1 _ _ h),by rw[List.length_map]; omega⟩,fun i H G' v H' hi s1 s2 y=>?_⟩
 obtain⟨rfl,e,e1,rfl⟩:=y
 obtain⟨x,e2,f1⟩:=fk.get' (i:=i) (v:=.ref e.2.1) (by rw[List.getElem?_map,e1]; rfl)
 exact⟨x,G',e2,.scalar s2 (Fz.mono s1 _ _ f1)⟩
def bx (z:Str):List D:=z.cps.toList.map fun c=>.str ⟨#[c]⟩
theorem iL {z:Str}:WalksD B (Its z) G (bx z):=by
 have hl:(bx z).length=z.cps.size:=by unfold bx; simp
 refine⟨fun i H G' hi s1 s2=>?_,fun H G' s1 s2=>?_,fun i H G' v H' hi s1 s2 y=>?_⟩
 ·exact walk_str.goes i H (by rw[←hl]; exact hi) trivial
 ·rw[hl]; exact walk_str.stops H trivial
 ·obtain⟨rfl,c,e,rfl⟩:=walk_str.yields i H v H' (by rw[←hl]; exact hi) trivial y
  exact⟨.str ⟨#[c]⟩,G',by unfold bx; rw[List.getElem?_map,Array.getElem?_toList,e]; rfl,.scalar s2 (YC _)⟩
def qa (lo:Int) (n:Nat):List D:=(List.range n).map fun(i:Nat)=>.int (lo+(i:Int))
theorem lM {lo:Int} {n:Nat}:WalksD B (Itr lo n) G (qa lo n):=by
 have hl:(qa lo n).length=n:=by unfold qa; simp
 refine⟨fun i H G' hi s1 s2=>?_,fun H G' s1 s2=>?_,fun i H G' v H' hi s1 s2 y=>?_⟩
 ·exact walk_range.goes i H (by rw[←hl]; exact hi) trivial
 ·rw[hl]; exact walk_range.stops H trivial
 ·obtain⟨rfl,rfl⟩:=walk_range.yields i H v H' (by rw[←hl]; exact hi) trivial y
  rw[hl]at hi
  exact⟨.int (lo+i),G',by unfold qa; rw[List.getElem?_map,List.getElem?_range hi]; rfl,.scalar s2 (xu _)⟩
def YK (xs:List D):List D:=xs.mapIdx fun i x=>.wt [.int i,x]
theorem n_ {a:Addr} {us:List V} {xs:List D} (h:G a=some (.lst us)) (f:FzL B G us xs):WalksD B (Ite B.K a) G (YK xs):=by
 have hl:=f.length
 have hl':(YK xs).length=xs.length:=by unfold YK; simp
 refine⟨fun i H G' hi s1 s2=>?_,fun H G' s1 s2=>?_,fun i H G' v H' hi s1 s2 y=>?_⟩
 ·exact walk_enum.goes i H (by rw[hl,←hl']; exact hi) (SqL.of (s2 _ _ (s1 _ _ h)))
 ·rw[hl',←hl]; exact walk_enum.stops H (SqL.of (s2 _ _ (s1 _ _ h)))
 ·obtain⟨T,p,q,rfl,hT,rfl,e1,e2⟩:=walk_enum.yields i H v H' (by rw[hl,←hl']; exact hi) (SqL.of (s2 _ _ (s1 _ _ h))) y
  cases e1
  obtain⟨x,e3,f1⟩:=f.get' e2
  exact⟨.wt [.int i,x],_,by unfold YK; rw[List.getElem?_mapIdx,e3]; rfl,.wt s2 hT (.cons (xu _) (.one (Fz.mono s1 _ _ f1)))⟩
end
section
variable (B:Bk) (W:WX') (σ:St) (ρ:List S) (H G:Hp)
def AftI (R:It→Hp→Prop):Res (List D)→Prop
 | .ok xs ρ'=>∀J H' G',Post B σ ρ H G σ ρ' H' G'→WalksD B J G' xs→R J H'
 | .ex e ρ'=>Out B W σ ρ H G e ρ'
 | .no=>False
 | .new τ k=>∀a,τ a=none→AftI R (k a)
end
def Kw (B:Bk) (W:WX') (f:List S→Res (List D)):TI:=fun σ H R=>∃G ρ,Rel B G σ ρ H∧AftI B W σ ρ H G R (f ρ)
abbrev PIa (X:Cx) (W:WX') (tg e:Expr) (f:List S→Res (List D)):Prop:=PI X tg e (Kw X.bk W f)
section
variable {X:Cx} {W:WX'} {tg e:Expr} {fa:AK} {fs:List S→Res (List E)} {p pos:Pos}
theorem AftI.cl {B:Bk} {σ:St} {ρ:List S} {H G:Hp} {R:It→Hp→Prop}:Cl B W σ ρ H G (AftI B W σ ρ H G R):=⟨fun _ _ h=>h,fun h=>h,fun _ _ h=>h⟩
theorem cC {w w':TI} (h:PI X tg e w) (m:∀σ H R,w' σ H R→w σ H R):PI X tg e w':=⟨fun pins s σ H R I q=>h.run pins s σ H R I (m σ H R q)⟩
theorem aE {w w':TI} (h:PI X tg e w) (h':PI X tg e w'):PI X tg e (fun σ H R=>w σ H R∨w' σ H R):=⟨fun pins s σ H R I q=>q.elim (h.run pins s σ H R I) (h'.run pins s σ H R I)⟩
def D.items?:D→Option (List D)
 | .tup xs=>some xs
 | .lst xs=>some xs
 | .scr ns=>some (ns.map .int)
 | .str z=>some (bx z)
 | .dd kvs=>some (kvs.map (·.1))
 |_=>none
def zn (f:AK):List S→Res (List D):=fun ρ=>(f ρ).nn.bind fun v ρ1=>match keep1 v ρ1 with
 |some (x,ρ2)=>match x.items? with
  |some xs=>.ok xs ρ2
  |none=>.no
 |none=>.no
theorem xi (h:PEa X W e fa):PIa X W tg e (zn fa):=
 cC (aE (pi_list h) (aE (pi_tup h) (aE (pi_str h) (SW h)))) fun σ H R ⟨G,ρ,r,h⟩=>by
  unfold zn at h
  cases ef:fa ρ with
  |no=>rw[ef]at h; exact h.elim
  |new τ k=>rw[ef]at h; exact h.elim
  |ex x ρ'=>rw[ef]at h; exact .inl ⟨G,ρ,r,by rw[ef]; exact h⟩
  |ok v ρ1=>
   rw[ef,Res.nn_ok,Res.bind_ok]at h
   split at h
   ·rename_i x ρ2 hk
    split at h
    ·rename_i xs hx
     have go:∀u H' G',Post X.bk σ ρ H G σ ρ1 H' G'→RE X.bk G' σ ρ1 H' u v→XF H u v→∃G2,Post X.bk σ ρ H G σ ρ2 H' G2∧Fz X.bk G2 u x:=fun u H' G' p re fr=>by
      obtain⟨G2,p2,f2,_⟩:=Pend.keep1 (Pend.one p r re fr) hk
      exact⟨G2,p2.post,f2⟩
     cases x<;>simp only[D.items?,Option.some.injEq,reduceCtorEq]at hx
     ·subst hx
      refine .inr (.inr (.inl ⟨G,ρ,r,?_⟩))
      rw[ef]
      intro u H' G' p re fr
      obtain⟨G2,p2,f2⟩:=go u H' G' p re fr
      rw[Fz]at f2
      exact⟨_,f2,h _ _ _ p2 iL⟩
     ·subst hx
      refine .inr (.inl ⟨G,ρ,r,?_⟩)
      rw[ef]
      intro u H' G' p re fr
      obtain⟨G2,p2,f2⟩:=go u H' G' p re fr
      rw[Fz]at f2
      obtain⟨a,us,rfl,h1,h2,_⟩:=f2
      exact⟨a,rfl,⟨us,BY p2.rel.sub h1⟩,h _ _ _ p2 (iM h1 h2)⟩
     ·subst hx
      refine .inl ⟨G,ρ,r,?_⟩
      rw[ef]
      intro u H' G' p re fr
      obtain⟨G2,p2,f2⟩:=go u H' G' p re fr
      rw[Fz]at f2
      obtain⟨a,us,rfl,h1,h2⟩:=f2
      exact⟨a,rfl,⟨us,SqL.of (p2.rel.sub _ _ h1)⟩,h _ _ _ p2 (hJ h1 h2)⟩
     ·subst hx
      refine .inl ⟨G,ρ,r,?_⟩
      rw[ef]
      intro u H' G' p re fr
      obtain⟨G2,p2,f2⟩:=go u H' G' p re fr
      rw[Fz]at f2
      obtain⟨a,rfl,h1⟩:=f2
      exact⟨a,rfl,⟨_,Same.seq p2.rel.sub h1⟩,h _ _ _ p2 (iK h1)⟩
     ·subst hx
      refine .inr (.inr (.inr ⟨G,ρ,r,?_⟩))
      rw[ef]
      intro u H' G' p re fr
      obtain⟨G2,p2,f2⟩:=go u H' G' p re fr
      rw[Fz]at f2
      obtain⟨a,ob,es,rfl,h1,h2⟩:=f2
      exact⟨a,ob,es,rfl,p2.rel.sub _ _ h1,h _ _ _ p2 (LQ h1 h2)⟩
    ·exact h.elim
   ·exact h.elim
def qG (fs:List S→Res (List E)):List S→Res (List D):=fun ρ=>(fs ρ).bind fun vs ρ1=>match vs with
 |[.d (.int j)]=>if -(2 ^ 62)≤j∧j<2 ^ 62 then .ok (qa 0 j.toNat) ρ1 else .no
 |_=>.no
theorem pY {α:Type} {us:List α} (h:us.length=1):∃u,us=[u]:=by
 cases us with
 |nil=>cases h
 |cons a xs=>cases xs with
  |nil=>exact⟨a,rfl⟩
  |cons _ _=>simp at h
theorem Pk {α:Type} {us:List α} (h:us.length=2):∃u w,us=[u,w]:=by
 cases us with
 |nil=>cases h
 |cons a xs=>
  obtain⟨w,rfl⟩:=pY (us:=xs) (by simpa using h)
  exact⟨a,w,rfl⟩
theorem Us {a:Expr} (hg:Gl X "range") (hm:X.mg "range"=none) (ha:PAa X W [a] fs) (hs:starEach [a] X.env=[(false,eval a X.env)]:=by rfl):PIa X W tg (.Call (.Name "range" p) [a] [] pos) (qG fs):=
 cC (pi_range1 hg hm ha hs) fun σ H R ⟨G,ρ,r,h⟩=>by
  refine yY (xt r (AftI.cl (R:=R)) h) fun us H1 ⟨vs,ρ1,G1,P,h1⟩=>?_
  split at h1
  ·rename_i j
   split at h1
   ·rename_i hb
    obtain⟨u,e,re⟩:=P.re 0 _ rfl
    have re:Fz X.bk G1 u (.int j):=re
    rw[Fz]at re
    have hl:=P.len
    obtain⟨w,rfl⟩:=pY hl
    ·cases e
     exact⟨j,by rw[re],hb.1,hb.2,h1 _ _ _ P.post lM⟩
   ·exact h1.elim
  ·exact h1.elim
end
def zo (ρ:List S):List Nat→List S
 |[]=>ρ
 |v::vs=>(zo ρ vs).set v .no
def zA (ρ0 ρ:List S):List Nat→List S
 |[]=>ρ
 |v::vs=>(zA ρ0 ρ vs).set v ((ρ0[v]?).getD .no)
theorem Yw {σ:St}:∀{vs:List Nat} {j:Nat},(wipe σ vs)[j]?=if j∈vs then(if j<σ.length then some none else none)else σ[j]?
 |[],j=>by simp[wipe]
 |v::vs,j=>by
  rw[wipe]
  by_cases h:v=j
  ·subst h
   rw[if_pos AN]
   by_cases hl:v<σ.length
   ·rw[if_pos hl,A0 (by rw[wipe_length]; exact hl)]
   ·rw[if_neg hl,Bs (by rw[List.length_set,wipe_length]; omega)]
  ·rw[AZ h,Yw]
   have:(j∈v::vs)=(j∈vs):=by simp[Ne.symm h]
   simp only[this]
theorem YX {ρ:List S}:∀{vs:List Nat},(zo ρ vs).length=ρ.length
 |[]=>rfl
 |v::vs=>by rw[zo,List.length_set,YX]
theorem VI {ρ:List S}:∀{vs:List Nat} {j:Nat},(zo ρ vs)[j]?=if j∈vs then(if j<ρ.length then some .no else none)else ρ[j]?
 |[],j=>by simp[zo]
 |v::vs,j=>by
  rw[zo]
  by_cases h:v=j
  ·subst h
   rw[if_pos AN]
   by_cases hl:v<ρ.length
   ·rw[if_pos hl,A0 (by rw[YX]; exact hl)]
   ·rw[if_neg hl,Bs (by rw[List.length_set,YX]; omega)]
  ·rw[AZ h,VI]
   have:(j∈v::vs)=(j∈vs):=by simp[Ne.symm h]
   simp only[this]
theorem YV {ρ0 ρ:List S}:∀{vs:List Nat},(zA ρ0 ρ vs).length=ρ.length
 |[]=>rfl
 |v::vs=>by rw[zA,List.length_set,YV]
theorem Vv {ρ0 ρ:List S}:∀{vs:List Nat} {j:Nat},(zA ρ0 ρ vs)[j]?=if j∈vs then(if j<ρ.length then some ((ρ0[j]?).getD .no)else none)else ρ[j]?
 |[],j=>by simp[zA]
 |v::vs,j=>by
  rw[zA]
  by_cases h:v=j
  ·subst h
   rw[if_pos AN]
   by_cases hl:v<ρ.length
   ·rw[if_pos hl,A0 (by rw[YV]; exact hl)]
   ·rw[if_neg hl,Bs (by rw[List.length_set,YV]; omega)]
  ·rw[AZ h,Vv]
   have:(j∈v::vs)=(j∈vs):=by simp[Ne.symm h]
   simp only[this]
theorem c8 {σ σ2:St} {vs:List Nat} (hl:σ2.length=σ.length) (h:∀j,j∉vs→σ2[j]?=σ[j]?):wipe σ2 vs=wipe σ vs:=by
 refine List.ext_getElem? fun j=>?_
 rw[Yw,Yw,hl]
 by_cases hj:j∈vs
 ·rw[if_pos hj,if_pos hj]
 ·rw[if_neg hj,if_neg hj,h j hj]
theorem bG {σ:St} {vs:List Nat}:wipe (wipe σ vs) vs=wipe σ vs:=c8 (wipe_length _ _) fun j hj=>by rw[Yw,if_neg hj]
section
variable {B:Bk} {σ σ' σ0:St} {ρ ρ0 ρ':List S} {H H0 H' G G0 G':Hp} {vs:List Nat}
theorem xN {j:Nat} {b:Addr} (w:Own (wipe σ vs) (zo ρ vs) j b):Own σ ρ j b∧j∉vs:=by
 by_cases hj:j∈vs
 ·obtain⟨v,s,_,w2,w3⟩:=w
  rw[VI,if_pos hj]at w2
  split at w2
  ·cases w2; exact w3.elim
  ·cases w2
 ·exact⟨w.eq (by rw[Yw,if_neg hj]) (by rw[VI,if_neg hj]),hj⟩
theorem Rel.wipe (r:Rel B G σ ρ H):Rel B G (wipe σ vs) (zo ρ vs) H:=by
 refine⟨r.sub,by rw[wipe_length,YX]; exact r.len,fun j s e=>?_,fun i j a w1 w2=>r.sep i j a (xN w1).1 (xN w2).1,r.tab⟩
 rw[VI]at e
 rw[Yw]
 by_cases hj:j∈vs
 ·rw[if_pos hj]at e⊢
  by_cases hl:j<ρ.length
  ·rw[if_pos hl]at e
   rw[if_pos (by rw[r.len]; exact hl)]
   cases e
   exact⟨none,rfl,trivial⟩
  ·rw[if_neg hl]at e; cases e
 ·rw[if_neg hj]at e⊢
  exact r.slot j s e
theorem Post.wipeR (p:Post B σ0 ρ0 H0 G0 σ ρ H G):Post B σ0 ρ0 H0 G0 (wipe σ vs) (zo ρ vs) H G:=
 ⟨p.grow,p.dom,p.frame,p.keep,p.rel.wipe,fun i a w=>p.own i a (xN w).1⟩
theorem Post.poke {D:Addr} {o:HO} (p:Post B σ0 ρ0 H0 G0 σ ρ H G) (t0:TabsG B G0 H0) (h0:H0 D=none) (hg:G D=none) (hn:∀j,¬Own σ ρ j D):Post B σ0 ρ0 H0 G0 σ ρ (upd H D o) G:=by
 refine⟨p.grow,fun b e=>p.dom b ?_,fun b u e t n=>?_,p.keep,⟨fun b u e=>?_,p.rel.len,fun j s e=>?_,p.rel.sep,fun q hq=>by
  obtain⟨⟨ps,h1,h2,h3⟩,h4⟩:=p.rel.tab q hq
  exact⟨⟨ps,by rw[upd_ne (fun z=>by obtain⟨⟨_,k1,_⟩,_⟩:=t0 q hq; rw[z,h0]at k1; cases k1)]; exact h1,h2,h3⟩,h4⟩⟩,p.own⟩
 ·by_cases hb:b=D
  ·subst hb; rw[upd_same]at e; cases e
  ·rw[upd_ne hb]at e; exact e
 ·rw[upd_ne (ne_of_none e h0)]; exact p.frame b u e t n
 ·rw[upd_ne (ne_of_none e hg)]; exact p.rel.sub b u e
 ·obtain⟨v,e1,e2⟩:=p.rel.slot j s e
  refine⟨v,e1,e2.step (.refl _) fun b ob w1 q2 _ q3=>⟨?_,q3⟩⟩
  have hb:b≠D:=fun z=>hn j (by rw[←z]; exact⟨v,s,e1,e,w1⟩)
  rw[upd_ne hb]; exact q2
def LU (s:Option S):Prop:=∀o,s≠some (.own o)
theorem J0 {ρi:List S} (hl:ρi.length=ρ0.length) {j:Nat} {b:Addr} (w:Own σ (zA ρ0 ρi vs) j b):(j∈vs∧Own σ ρ0 j b)∨(j∉vs∧Own (wipe σ vs) ρi j b):=by
 by_cases hj:j∈vs
 ·refine .inl ⟨hj,w.eq rfl ?_⟩
  rw[Vv,if_pos hj]
  by_cases h:j<ρi.length
  ·rw[if_pos h,AX (by omega)]; rfl
  ·rw[if_neg h,Bs (by omega)]
 ·exact .inr ⟨hj,w.eq (by rw[Yw,if_neg hj]) (by rw[Vv,if_neg hj])⟩
theorem B5 {ρi:List S} (r:Rel B G0 σ ρ0 H0) (hv:∀v∈vs,LU ρ0[v]?) (p:Post B (wipe σ vs) (zo ρ0 vs) H0 G0 (wipe σ vs) ρi H G):Post B σ ρ0 H0 G0 σ (zA ρ0 ρi vs) H G:=by
 have hl:ρi.length=ρ0.length:=by rw[←p.rel.len,wipe_length,r.len]
 have cross:∀{i j:Nat} {b:Addr},i∈vs→Own σ ρ0 i b→j∉vs→Own (wipe σ vs) ρi j b→False:=fun {i j b} hi w hj w'=>by
  rcases p.own j b w' with z|z
  ·exact hj ((r.sep i j b w (xN z).1)▸hi)
  ·obtain⟨ho,e,_⟩:=r.obj w
   rw[z]at e; cases e
 refine⟨p.grow,p.dom,fun b o e t n=>p.frame b o e t fun i w=>n i (xN w).1,fun b o e t g n=>p.keep b o e t g fun i w=>n i (xN w).1,⟨p.rel.sub,by rw[YV,hl]; exact r.len,fun j s e=>?_,fun i j a w w'=>?_,p.rel.tab⟩,fun i a w=>?_⟩
 ·rw[Vv]at e
  by_cases hj:j∈vs
  ·rw[if_pos hj]at e
   by_cases hjl:j<ρi.length
   ·rw[if_pos hjl]at e
    cases e
    obtain⟨s,hs⟩:∃s,ρ0[j]?=some s:=⟨ρ0[j]'(by omega),by simp[show j<ρ0.length by omega]⟩
    rw[hs]
    obtain⟨v,e1,e2⟩:=r.slot j s hs
    refine⟨v,e1,e2.step p.grow fun a ho w1 q2 nt q3=>?_⟩
    have wj:Own σ ρ0 j a:=⟨v,s,e1,hs,w1⟩
    have nk:∀i,¬Own (wipe σ vs) (zo ρ0 vs) i a:=fun i w=>(xN w).2 ((r.sep j i a wj (xN w).1)▸hj)
    exact⟨p.frame a ho q2 nt nk,p.keep a ho q2 nt q3 nk⟩
   ·rw[if_neg hjl]at e; cases e
  ·rw[if_neg hj]at e
   obtain⟨v,e1,e2⟩:=p.rel.slot j s e
   rw[Yw,if_neg hj]at e1
   exact⟨v,e1,e2⟩
 ·rcases J0 hl w with⟨h1,z1⟩|⟨h1,z1⟩<;>rcases J0 hl w' with⟨h2,z2⟩|⟨h2,z2⟩
  ·exact r.sep i j a z1 z2
  ·exact(cross h1 z1 h2 z2).elim
  ·exact(cross h2 z2 h1 z1).elim
  ·exact p.rel.sep i j a z1 z2
 ·rcases J0 hl w with⟨_,z⟩|⟨_,z⟩
  ·exact .inl z
  ·rcases p.own i a z with z|z
   ·exact .inl (xN z).1
   ·exact .inr z
end
def Res.noex {α:Type}:Res α→Res α
 | .ok a ρ=>.ok a ρ
 | .ex _ _=>.no
 | .no=>.no
 | .new τ k=>.new τ fun a=>(k a).noex
def yX:List S→Res Bool:=fun ρ=>.ok true ρ
def Xl (t:Tg) (c:List S→Res Bool) (f:AK) (vs:List Nat):List D→List D→List S→Res (List D)
 |[],acc,ρ=>.ok acc ρ
 |x::xs,acc,ρ=>match zQ t x ρ with
  |none=>.no
  |some ρ1=>(c ρ1).bind fun b ρ2=>if b=true then(f ρ2).bind fun v ρ3=>match keep1 v ρ3 with
    |some (y,ρ4)=>if acc.length<sizeLine then Xl t c f vs xs (acc++[y]) (zo ρ4 vs)else .no
    |none=>.no
   else Xl t c f vs xs acc (zo ρ2 vs)
def ya (ρ:List S) (vs:List Nat):Bool:=vs.all fun v=>match ρ[v]? with
 |some (.own _)=>false
 |_=>true
theorem ap {ρ:List S} {vs:List Nat} (h:ya ρ vs=true):∀v∈vs,LU ρ[v]?:=fun v hv=>by
 have:=AP.mp h v hv
 exact fun o e=>(by rw[e]at this; cases this)
def aLc (vs:List Nat) (it:List S→Res (List D)) (t:Tg) (c:List S→Res Bool) (f:AK):AK:=fun ρ=>(it ρ).bind fun xs ρ1=>
 if ya ρ1 vs=true then(Xl t c f vs xs [] (zo ρ1 vs)).noex.bind fun acc ρ2=>.ok (.fr (.lst acc)) (zA ρ1 ρ2 vs)else .no
abbrev WF:WX':=fun _ _ _ _=>False
mutual
theorem g8:∀{t:Tg} {x:D} {ρ ρ':List S},zQ t x ρ=some ρ'→ρ'.length=ρ.length
 | .nm i,x,ρ,ρ',e=>by simp only[zQ,Option.some.injEq]at e; subst e; rw[List.length_set]
 | .tp ts,x,ρ,ρ',e=>by
   cases x<;>simp only[zQ,reduceCtorEq]at e
   ·exact tsetL_len2 e
   ·exact tsetL_len2 e
   ·exact tsetL_len2 e
theorem tsetL_len2:∀{ts:List Tg} {xs:List D} {ρ ρ':List S},tsetL ts xs ρ=some ρ'→ρ'.length=ρ.length
 |[],[],ρ,ρ',e=>by simp only[tsetL,Option.some.injEq]at e; rw[e]
 |[],_::_,_,_,e=>by simp[tsetL]at e
 |_::_,[],_,_,e=>by simp[tsetL]at e
 |t::ts,x::xs,ρ,ρ',e=>by
  simp only[tsetL]at e
  split at e
  ·rename_i ρ1 e1
   rw[tsetL_len2 e,g8 e1]
  ·cases e
end
section
variable {B:Bk} {W:WX'} {it:List S→Res (List D)} {t:Tg} {c:List S→Res Bool} {f:AK} {vs:List Nat}
structure WalksF (B:Bk) (J:It) (G:Hp) (C:Hp→Prop) (xs:List D):Prop where
 go:∀i H G',i<xs.length→Same G G'→Same G' H→C H→J.go i H
 stop:∀H G',Same G G'→Same G' H→C H→J.stop xs.length H
 yld:∀i H G' v H',i<xs.length→Same G G'→Same G' H→C H→J.yld i H v H'→∃x G'',xs[i]?=some x∧New B G' H v (.d x) H' G''
theorem WalksD.toF {J:It} {G:Hp} {xs:List D} (w:WalksD B J G xs):WalksF B J G (fun _=>True) xs:=⟨fun i H G' hi s1 s2 _=>w.go i H G' hi s1 s2,fun H G' s1 s2 _=>w.stop H G' s1 s2,fun i H G' v H' hi s1 s2 _=>w.yld i H G' v H' hi s1 s2⟩
theorem RM {J:It} {σ:St} {ρ1:List S} {H1 G1:Hp} {C:Hp→Prop} {xs:List D} {Q:VK} (ht:∀j,j∈t.names→j∈vs) (r1:Rel B G1 σ ρ1 H1) (wk:WalksF B J G1 C xs)
  (hC:∀ρi Hi Gi,Post B (wipe σ vs) (zo ρ1 vs) H1 G1 (wipe σ vs) ρi Hi Gi→C Hi) (hv:∀v∈vs,LU ρ1[v]?) {Φ:Res (List D)→Prop} (hnew:∀τ k,Φ (.new τ k)→∀a,τ a=none→Φ (k a)) (hno:¬Φ .no) (hex:∀e ρ',¬Φ (.ex e ρ')) (eg:Φ (Xl t c f vs xs [] (zo ρ1 vs)))
  (h:∀acc ρ2,Φ (.ok acc ρ2)→∀u H' G',Post B σ ρ1 H1 G1 σ (zA ρ1 ρ2 vs) H' G'→RE B G' σ (zA ρ1 ρ2 vs) H' u (.fr (.lst acc))→XF H1 u (.fr (.lst acc))→Q u H') (D:Addr) (hD:H1 D=none) :
  ∃W:Nat→Nat→Hp→Prop,(∃m,W 0 m (upd H1 D (.lst [])))∧∀i m H,W i m H→
 (J.stop i H∧Q (.ref D) H)∨(J.go i H∧∃Nx:Hp→Prop,(∀H',Nx H'→∃m',m'<m∧W (i+1) m' H')∧∀x H',J.yld i H x H'→gD B t x (wipe σ vs) H' fun σ2 H2=>wipe σ2 vs=wipe σ vs∧Xn B WF c σ2 H2 fun b H3=>
   if b=true then jb B WF f σ2 H3 fun y H4=>∃acc,H4 D=some (.lst acc)∧acc.length<sizeLine∧Nx (upd H4 D (.lst (acc++[y])))else Nx H3):=by
 have gD1:G1 D=none:=Same.free r1.sub hD
 have notD:∀j,¬Own σ ρ1 j D:=fun j w=>by
  obtain⟨ho,e3,_⟩:=r1.obj w
  rw[hD]at e3; cases e3
 refine⟨fun i m Hi=>m=xs.length - i∧i≤xs.length∧∃ρi Gi accv acci,Post B (wipe σ vs) (zo ρ1 vs) H1 G1 (wipe σ vs) ρi Hi Gi∧Hi D=some (.lst accv)∧Gi D=none∧(∀j,¬Own (wipe σ vs) ρi j D)∧FzL B Gi accv acci∧Φ (Xl t c f vs (xs.drop i) acci ρi),
  ⟨xs.length,by simp,Bg _,zo ρ1 vs,G1,[],[],?_,upd_same,gD1,fun j w=>notD j (xN w).1,.nil,by simpa using eg⟩,?_⟩
 ·exact(Post.refl r1.wipe).poke r1.tab hD gD1 fun j w=>notD j (xN w).1
 rintro i m Hi ⟨rfl,hi,ρi,Gi,accv,acci,P,hHD,hGD,hND,hF,hgo⟩
 by_cases hlt:i<xs.length
 ·refine .inr ⟨wk.go i Hi Gi hlt P.grow P.rel.sub (hC ρi Hi Gi P),fun H'=>∃ρi Gi accv acci,Post B (wipe σ vs) (zo ρ1 vs) H1 G1 (wipe σ vs) ρi H' Gi∧H' D=some (.lst accv)∧Gi D=none∧(∀j,¬Own (wipe σ vs) ρi j D)∧FzL B Gi accv acci∧Φ (Xl t c f vs (xs.drop (i+1)) acci ρi),
   fun H' q=>⟨xs.length - (i+1),by omega,rfl,hlt,q⟩,fun v H' y=>?_⟩
  obtain⟨x,G2,ex,nw⟩:=wk.yld i Hi Gi v H' hlt P.grow P.rel.sub (hC ρi Hi Gi P) y
  obtain⟨q1,re,_⟩:=nw.post (Post.refl P.rel)
  have re:Fz B G2 v x:=re
  have hdr:xs.drop i=x::xs.drop (i+1):=by
   rw[List.drop_eq_getElem_cons hlt]
   have:xs[i]=x:=by rw[AX hlt]at ex; exact Option.some.inj ex
   rw[this]
  rw[hdr,Xl]at hgo
  split at hgo
  ·exact(hno hgo).elim
  ·rename_i ρa ea
   refine⟨G2,ρi,x,ρa,q1.rel,re,ea,fun σ2 p2 k2=>?_⟩
   have w2:wipe σ2 vs=wipe (wipe σ vs) vs:=c8 (by have h1:=p2.rel.len; have h2:=q1.rel.len; have h3:=g8 ea; omega) fun j hj=>k2 j fun z=>hj (ht j z)
   rw[bG]at w2
   ·refine⟨w2,?_⟩
    have P2:=q1.trans p2
    have D2:H' D=some (.lst accv):=q1.frame D _ hHD gy hND
    refine⟨G2,ρa,p2.rel,?_⟩
    generalize c ρa=rc at hgo
    induction rc with
    |no=>exact(hno hgo).elim
    |ex e ρ'=>exact(hex _ _ hgo).elim
    |new τ k ih=>exact fun a e=>ih a (hnew _ _ hgo a e)
    |ok b ρb=>
     rw[Res.bind_ok]at hgo
     intro H3 G3 p3
     have P3:=P2.trans p3
     have D3:H3 D=some (.lst accv):=P3.frame D _ hHD gy hND
     have N3:∀j,¬Own σ2 ρb j D:=P3.notown hHD hND
     have K3:G3 D=none:=P3.keep D _ hHD gy hGD hND
     cases b with
     |false=>
      rw[if_neg Bn]at hgo⊢
      refine⟨zo ρb vs,G3,accv,acci,?_,D3,K3,fun j w=>?_,FzL.mono P3.grow _ _ hF,hgo⟩
      ·have:=(P.trans P3).wipeR (vs:=vs)
       rw[w2]at this; exact this
      ·rw[←w2]at w
       exact N3 j (xN w).1
     |true=>
      rw[if_pos rfl]at hgo⊢
      refine⟨G3,ρb,p3.rel,?_⟩
      generalize f ρb=rf at hgo
      induction rf with
      |no=>exact(hno hgo).elim
      |ex e ρ'=>exact(hex _ _ hgo).elim
      |new τ k ih=>exact fun a e=>ih a (hnew _ _ hgo a e)
      |ok w ρc=>
       rw[Res.bind_ok]at hgo
       split at hgo
       ·rename_i y ρd hk
        split at hgo
        ·rename_i hz
         intro u H4 G4 p4 re4 fr4
         obtain⟨G5,pd,f5,s5⟩:=Pend.keep1 (Pend.one p4 p3.rel re4 fr4) hk
         have P5:=P3.trans pd.post
         have D5:H4 D=some (.lst accv):=P5.frame D _ hHD gy hND
         have N5:∀j,¬Own σ2 ρd j D:=P5.notown hHD hND
         have K5:G5 D=none:=P5.keep D _ hHD gy hGD hND
         have F5:FzL B G5 accv acci:=FzL.mono P5.grow _ _ hF
         refine⟨accv,D5,by rw[F5.length]; exact hz,zo ρd vs,G5,accv++[u],acci++[y],?_,upd_same,K5,fun j w=>?_,F5.append (.one f5),hgo⟩
         ·have:=((P.trans P5).poke (o:=.lst (accv++[u])) r1.tab hD K5 N5).wipeR (vs:=vs)
          rw[w2]at this; exact this
         ·rw[←w2]at w
          exact N5 j (xN w).1
        ·exact(hno hgo).elim
       ·exact(hno hgo).elim
 ·have e:i=xs.length:=by omega
  subst e
  refine .inl ⟨wk.stop Hi Gi P.grow P.rel.sub (hC ρi Hi Gi P),?_⟩
  rw[List.drop_length,Xl]at hgo
  have pb:=B5 r1 hv P
  have pf:=pb
  refine h acci ρi hgo (.ref D) Hi Gi pf ⟨D,.lst accv,rfl,hHD,hGD,⟨accv,rfl,hF⟩,fun j w=>?_⟩ fun a e=>?_
  ·rcases J0 (by have h1:=P.rel.len; have h2:=r1.len; rw[wipe_length]at h1; omega) w with⟨_,z⟩|⟨_,z⟩
   ·exact notD j z
   ·exact hND j z
  ·cases e; exact hD
theorem Ku (ht:∀j,j∈t.names→j∈vs) (σ:St) (H:Hp) (Q:VK) (h:jb B W (aLc vs it t c f) σ H Q):tLc (Kw B W it) (gD B t) (Xn B WF c) (jb B WF f) vs σ H Q:=by
 obtain⟨G,ρ,r,h⟩:=h
 refine⟨G,ρ,r,?_⟩
 unfold aLc at h
 generalize it ρ=ri at h
 induction ri with
 |no=>exact h
 |ex e ρ'=>exact h
 |new τ k ih=>exact fun a e=>ih a (h a e)
 |ok xs ρ1=>
  rw[Res.bind_ok]at h
  split at h
  ·rename_i hno
   intro J H1 G1 p1 wk D hD
   exact RM (Φ:=fun r=>Aft B W σ ρ H G Q (r.noex.bind fun acc ρ2=>.ok (.fr (.lst acc)) (zA ρ1 ρ2 vs))) ht p1.rel wk.toF (fun _ _ _ _=>trivial) (ap hno) (fun τ k z a e=>z a e) (fun z=>z) (fun _ _ z=>z) h
    (fun acc ρ2 h u H' G' p re fr=>h u H' G' (p1.trans p) re fun a e=>p1.dom a (fr a e)) D hD
  ·exact h.elim
end
section
variable {X:Cx} {W:WX'} {tg iter elt:Expr} {ifs:List Expr} {scope:Scope} {own:List (Str×Nat)} {pos:Pos} {it:List S→Res (List D)} {t:Tg} {c:List S→Res Bool} {f:AK} {vs:List Nat}
theorem M7 {ifs:List Expr} {t t':TT} (h:PTs X ifs t) (w:∀σ H Q,t' σ H Q→t σ H Q):PTs X ifs t':=⟨fun pins s σ H Q I q=>h.run pins s σ H Q I (w σ H Q q)⟩
theorem xm:PTs X [] (Xn X.bk W yX):=M7 pts_nil fun σ H Q ⟨G,ρ,r,h⟩=>h H G (.refl r)
theorem sI {a:Expr} (h:PTa X W a c):PTs X [a] (Xn X.bk W c):=pts_one h
theorem ja (hc:X.calm=true) (hN:X.N.Nodup) (ok:BlkOk X.N X.env.scope scope own) (hv:own.map (·.2)=vs) (ht:∀j,j∈t.names→j∈vs) (hi:PIa X W tg iter it)
  (hg:∀(s:Shared) (H:Hp) (C:Addr) (cl:List (Str×Addr)) (fp:List Addr),PG (X.blk s H scope (compEnvC scope cl C X.env) fp) tg (gD X.bk t))
  (hc':∀(s:Shared) (H:Hp) (C:Addr) (cl:List (Str×Addr)) (fp:List Addr),PTs (X.blk s H scope (compEnvC scope cl C X.env) fp) ifs (Xn X.bk WF c))
  (he:∀(s:Shared) (H:Hp) (C:Addr) (cl:List (Str×Addr)) (fp:List Addr),PE (X.blk s H scope (compEnvC scope cl C X.env) fp) elt (jb X.bk WF f)) (hs:∀x,foldedSetIterable iter X.env x=pure x:=by intro _; rfl) :
  PEa X W (.ListComp elt [⟨tg,iter,ifs,0⟩] scope pos) (aLc vs it t c f):=by
 subst hv
 exact xv (pe_lc hc hN hi ok hg hc' he hs) fun σ H Q q=>Ku ht σ H Q q
end
def eE (B:Bk) (g:O→List D→Option (D×O)) (r:V→List V→Hp→VK→Prop):Prop:=
 ∀(o:O) (xs:List D) (y:D) (o':O) (a:Addr) (ho:HO) (us:List V) (G H:Hp) (Q:VK),g o xs=some (y,o')→Same G H→H a=some ho→G a=none→RO B G a ho o→FzL B G us xs→
  (∀u ho',Fz B G u y→RO B G a ho' o'→Q u (upd H a ho'))→r (.ref a) us H Q
def O.tyn:O→Option String
 | .lst _=>some "list"
 | .dct _=>some "dict"
 |_=>none
def Y_ (T:String) (i:Nat) (g:O→List D→Option (D×O)) (fs:List S→Res (List E)):AK:=fun ρ=>match ρ[i]? with
 |some (.own o0)=>if o0.tyn=some T then(fs ρ).bind fun vs ρ1=>match keepL vs ρ1 with
   |some (xs,ρ2)=>match ρ2[i]? with
    |some (.own o)=>match g o xs with
     |some (y,o')=>.ok (.d y) (ρ2.set i (.own o'))
     |none=>.no
    |_=>.no
   |none=>.no
  else .no
 |_=>.no
section
variable {X:Cx} {W:WX'} {e:Expr} {es:List Expr} {fs:List S→Res (List E)} {name:Str} {apos cpos npos:Pos} {T id:String} {g:O→List D→Option (D×O)} {r:V→List V→Hp→VK→Prop} {x:Str} {i:Nat}
theorem Nt {B:Bk} {σ:St} {ρ:List S} {H G:Hp} {u:V} {o:O} (rl:Rel B G σ ρ H) (h:σ[i]?=some (some u)) (ho:ρ[i]?=some (.own o)) (e:o.tyn=some T):tyV B.K T u H:=by
 obtain⟨v,e1,a,hob,e2,e3,e4,e5⟩:=rl.slot i _ ho
 rw[h]at e1; cases e1; cases e2
 cases o with
 |dd ds=>cases e
 |db ks=>cases e
 |ins c ds=>cases e
 |lst ds=>obtain⟨us,rfl,_⟩:=e5; cases e; exact .inl ⟨rfl,us,SqL.of e3⟩
 |dct ds=>obtain⟨us,rfl,_⟩:=e5; cases e; exact .inr (.inr (.inl ⟨rfl,.inl ⟨us,e3⟩⟩))
theorem MN {B:Bk} {σ:St} {ρ0 ρ1 ρ2:List S} {H0 G0 H G:Hp} {Q:VK} {u:V} {us:List V} {vs:List E} {xs:List D} {o o':O} {y:D} (sn:eE B g r)
  (P:Pend B σ ρ0 H0 G0 ρ1 H G (u::us) (.sl i::vs)) (hk:keepL vs ρ1=some (xs,ρ2)) (ho:ρ2[i]?=some (.own o)) (hg:g o xs=some (y,o')) (h:Aft B W σ ρ0 H0 G0 Q (.ok (.d y) (ρ2.set i (.own o')))):r u us H Q:=by
 obtain⟨w,ew,rw'⟩:=P.re 0 _ rfl
 cases ew
 have rw':σ[i]?=some (some u):=rw'
 obtain⟨G2,p2,f2,s2⟩:=Pend.keepL (Pend.tail P) hk
 obtain⟨v,e1,a,hob,e2,e3,e4,e5⟩:=p2.rel.slot i _ ho
 rw[rw']at e1; cases e1; cases e2
 refine sn o xs y o' a hob us G2 H Q hg p2.rel.sub e3 e4 e5 f2 fun w ho' fw ro=>?_
 exact h w _ G2 (gj p2 rw' ho ro) fw trivial
theorem Jn (pa:PlainAttrs T) (slot:Slot T name id) (hty:typeOf (.builtin id)=pure (.type "method_descriptor")) (hm:MtR X id r) (sn:eE X.bk g r)
  (hN:X.N[i]?=some x) (ha:PAa X W (e::es) fs) (hv:Vis X.env.scope x:=by first|exact Or.inl rfl|exact Or.inr (Or.inl rfl)|exact Or.inr (Or.inr rfl))
  (hd:(x==("__debug__":Str))=false:=by decide) (hcd:(x==("__classdict__":Str))=false:=by decide) (hbase:attributeBase (.Name x npos) name X.env (eval (.Name x npos) X.env)=eval (.Name x npos) X.env:=by rfl)
  (hfew:((backTo cpos (starEach (e::es) X.env)).all (fun x=>!x.1)&&(backToKw cpos (keywordEach [] X.env)).all (fun x=>x.1.isSome)
    &&decide ((e::es).length+([]:List Keyword).length+(if ([]:List Keyword).isEmpty then 0 else 1)<30))=true:=by rfl)
  (hline:(apos.endLine==cpos.line)=true:=by rfl) (hs:starEach (e::es) X.env=(false,eval e X.env)::starEach es X.env:=by rfl) (hplain:(backTo cpos (starEach es X.env)).any (·.1)=false:=by rfl) :
  PEa X W (.Call (.Attribute (.Name x npos) name apos) (e::es) [] cpos) (Y_ T i g fs):=
 xv (pe_bm pa slot hty hm (zf (W:=W) i hN hv hd hcd) ha hbase hfew hline hs hplain) fun σ H Q ⟨G,ρ,rl,h⟩=>by
  unfold Y_ at h
  split at h
  ·rename_i o0 ho0
   split at h
   ·rename_i hT
    refine⟨G,ρ,rl,?_⟩
    unfold zb
    rw[ho0]
    intro u H1 G1 p1 re1 fr1
    have re1:σ[i]?=some (some u):=re1
    refine⟨Nt p1.rel re1 ho0 hT,?_⟩
    have P0:Pend X.bk σ ρ H G ρ H1 G1 [u] [.sl i]:=Pend.one p1 rl re1 trivial
    refine yY (qV P0 (Aft.cl (Q:=Q)) h) fun us H2 ⟨vs,ρ1,G2,P2,h2⟩=>?_
    split at h2
    ·rename_i xs ρ2 hk
     split at h2
     ·rename_i o ho
      split at h2
      ·rename_i y o' hg
       exact MN sn P2 hk ho hg h2
      ·exact h2.elim
     ·exact h2.elim
    ·exact h2.elim
   ·exact h.elim
  ·exact h.elim
end
def qc:O→List D→Option (D×O)
 | .lst xs,[x]=>if xs.length<sizeLine then some (.non,.lst (xs++[x]))else none
 |_,_=>none
theorem Ze {B:Bk}:eE B qc rAppend:=by
 intro o xs y o' a ho us G H Q e s hH gn ro f q
 unfold qc at e
 split at e
 ·split at e
  ·rename_i ys x hz
   cases e
   obtain⟨zs,rfl,f1⟩:=ro
   match us,f with
   |[u],f=>
    rw[FzL]at f
    exact⟨a,zs,u,rfl,rfl,hH,by rw[f1.length]; exact hz,q _ _ wN ⟨_,rfl,f1.append (.one f.1)⟩⟩
  ·cases e
 ·cases e
inductive Fl where
 |nx|bk|ct|rt (v:E)
def Keeps (P:List Nat) (σ σ':St):Prop:=∀j∈P,σ'[j]?=σ[j]?
theorem Keeps.refl {P:List Nat} {σ:St}:Keeps P σ σ:=fun _ _=>rfl
theorem Keeps.trans {P:List Nat} {σ σ' σ2:St} (h:Keeps P σ σ') (h':Keeps P σ' σ2):Keeps P σ σ2:=fun j hj=>(h' j hj).trans (h j hj)
section
variable (B:Bk) (W:WX') (P:List Nat)
section
variable (σ:St) (ρ:List S) (H G:Hp)
def SI (e:Exc) (ρ':List S):Prop:=∀cls d σ' H' G',Post B σ ρ H G σ' ρ' H' G'→Keeps P σ σ'→RX B H G' H' cls d e→W cls d σ' H'
def AftS (D:Ends):Res Fl→Prop
 | .ok .nx ρ'=>∀σ' H' G',Post B σ ρ H G σ' ρ' H' G'→Keeps P σ σ'→D.nx σ' H'
 | .ok .bk ρ'=>∀σ' H' G',Post B σ ρ H G σ' ρ' H' G'→Keeps P σ σ'→D.bk σ' H'
 | .ok .ct ρ'=>∀σ' H' G',Post B σ ρ H G σ' ρ' H' G'→Keeps P σ σ'→D.ct σ' H'
 | .ok (.rt v) ρ'=>∀u σ' H' G',Post B σ ρ H G σ' ρ' H' G'→Keeps P σ σ'→RE B G' σ' ρ' H' u v→XF H u v→D.rt u H'
 | .ex e ρ'=>SI B W P σ ρ H G e ρ'
 | .no=>False
 | .new τ k=>∀a,τ a=none→AftS D (k a)
end
abbrev AJ:=List S→Res Fl
def ah (f:AJ):TS:=fun D σ H=>∃G ρ,Rel B G σ ρ H∧AftS B W P σ ρ H G D (f ρ)
end
theorem oq {H H1:Hp} {u:V} {v:E} (p:∀b,H1 b=none→H b=none) (h:XF H1 u v):XF H u v:=by
 cases v with
 |d x=>trivial
 |sl i=>trivial
 |ad a=>trivial
 |fr o=>exact fun a e=>p a (h a e)
section
variable {B:Bk} {W:WX'} {P:List Nat} {σ σ1 σ':St} {ρ ρ1 ρ':List S} {H H1 H' G G1 G':Hp} {D:Ends}
theorem AftS.cl:Cl B W σ ρ H G (AftS B W P σ ρ H G D):=⟨fun _ _ h cls d H' G' p r=>h cls d σ H' G' p .refl r,fun h=>h,fun _ _ h=>h⟩
theorem Vt {r:Res Fl} (p:Post B σ ρ H G σ1 ρ1 H1 G1) (k:Keeps P σ σ1) (h:AftS B W P σ ρ H G D r):AftS B W P σ1 ρ1 H1 G1 D r:=by
 induction r with
 |ok fl ρ'=>
  cases fl with
  |nx=>exact fun σ' H' G' q k'=>h σ' H' G' (p.trans q) (k.trans k')
  |bk=>exact fun σ' H' G' q k'=>h σ' H' G' (p.trans q) (k.trans k')
  |ct=>exact fun σ' H' G' q k'=>h σ' H' G' (p.trans q) (k.trans k')
  |rt v=>exact fun u σ' H' G' q k' re fr=>h u σ' H' G' (p.trans q) (k.trans k') re (oq p.dom fr)
 |ex e ρ'=>exact fun cls d σ' H' G' q k' rx=>h cls d σ' H' G' (p.trans q) (k.trans k') (RX.dom _ p.dom rx)
 |no=>exact h
 |new τ kk ih=>exact fun a e=>ih a (h a e)
end
abbrev PSa (X:Cx) (W:WX') (P:List Nat) (st:Stmt) (f:AJ):Prop:=PS X st (ah X.bk W P f)
abbrev kF (X:Cx) (W:WX') (P:List Nat) (st:List Stmt) (f:AJ):Prop:=PSs X st (ah X.bk W P f)
theorem YG {X:Cx} {st:Stmt} {t t':TS} (h:PS X st t) (w:∀D σ H,t' D σ H→t D σ H):PS X st t':=⟨fun pins s σ H D I q=>h.run pins s σ H D I (w D σ H q)⟩
theorem aR {X:Cx} {st:List Stmt} {t t':TS} (h:PSs X st t) (w:∀D σ H,t' D σ H→t D σ H):PSs X st t':=⟨fun pins s σ H D I q=>h.run pins s σ H D I (w D σ H q)⟩
def sNx:AJ:=fun ρ=>.ok .nx ρ
def Lq (g:AJ):Res Fl→Res Fl
 | .ok .nx ρ1=>g ρ1
 | .new τ k=>.new τ fun a=>Lq g (k a)
 |r=>r
def zt (f g:AJ):AJ:=fun ρ=>match f ρ with
 | .ok .nx ρ1=>g ρ1
 | .new τ k=>.new τ fun a=>Lq g (k a)
 |r=>r
theorem cJ {f g:AJ} {ρ:List S}:zt f g ρ=Lq g (f ρ):=by
 unfold zt
 cases f ρ with
 |ok fl ρ1=>cases fl<;>rfl
 |_=>rfl
def zy (f:AK):AJ:=fun ρ=>(f ρ).bind fun _ ρ1=>.ok .nx ρ1
def zH (f:AK):AJ:=fun ρ=>(f ρ).bind fun v ρ1=>.ok (.rt v) ρ1
def zL:AJ:=fun ρ=>.ok (.rt (.d .non)) ρ
def sIf (c:List S→Res Bool) (f g:AJ):AJ:=fun ρ=>(c ρ).bind fun b ρ1=>if b=true then f ρ1 else g ρ1
def z9 (is:List Nat) (f:List S→Res (List E)):AJ:=fun ρ=>(f ρ).bind fun vs ρ1=>match toSL vs ρ1 with
 |some (ss,ρ2)=>if is.length=ss.length∧is.all (fun i=>decide (i<ρ2.length))=true then .ok .nx (setL ρ2 is ss)else .no
 |none=>.no
def zp (i:Nat) (f:AK):AJ:=z9 [i] (za f ze)
def sTg (t:Tg) (f:AK):AJ:=fun ρ=>(f ρ).bind fun v ρ1=>match keep1 v ρ1 with
 |some (x,ρ2)=>match zQ t x ρ2 with
  |some ρ3=>.ok .nx ρ3
  |none=>.no
 |none=>.no
section
variable {X:Cx} {W:WX'} {P:List Nat} {st:Stmt} {rest a b:List Stmt} {e ce:Expr} {f g:AJ} {fe:AK} {c:List S→Res Bool} {pos pos':Pos}
theorem jm:kF X W P [] sNx:=aR pss_nil fun D σ H ⟨G,ρ,r,h⟩=>h σ H G (.refl r) .refl
theorem zP (h1:PSa X W P st f) (h2:kF X W P rest g):kF X W P (st::rest) (zt f g):=
 aR (pss_cons h1 h2) fun D σ H ⟨G,ρ,r,h⟩=>by
  refine⟨G,ρ,r,?_⟩
  rw[cJ]at h
  generalize f ρ=rf at h
  induction rf with
  |no=>exact h
  |ex x ρ'=>exact h
  |new τ k ih=>exact fun a e=>ih a (h a e)
  |ok fl ρ1=>
   cases fl with
   |nx=>exact fun σ' H' G' p k=>⟨G',ρ1,p.rel,Vt p k h⟩
   |bk=>exact h
   |ct=>exact h
   |rt v=>exact h
theorem ye (h1:PSa X W P st f):kF X W P [st] f:=pss_one h1
theorem Zl (he:PEa X W e fe) (hs:swapsWith e none pos.line X.env=pure false:=by rfl):PSa X W P (.Expr e pos) (zy fe):=
 YG (ps_expr he hs) fun D σ H ⟨G,ρ,r,h⟩=>yr (yx r (AftS.cl (P:=P) (D:=D)) h) fun u H1 ⟨v,ρ1,G1,Pd,h1⟩=>h1 σ H1 G1 Pd.post .refl
theorem yq (he:PEa X W e fe):PSa X W P (.Return (some e) pos) (zH fe):=
 YG (ps_ret he) fun D σ H ⟨G,ρ,r,h⟩=>yr (yx r (AftS.cl (P:=P) (D:=D)) h) fun u H1 ⟨v,ρ1,G1,Pd,h1⟩=>by
  obtain⟨w,ew,re⟩:=Pd.re 0 v rfl
  cases ew
  refine h1 u σ H1 G1 Pd.post .refl re ?_
  cases v with
  |d x=>trivial
  |sl i=>trivial
  |ad a=>trivial
  |fr o=>exact fun a ea=>Pd.new 0 o a rfl (by rw[ea]; rfl)
theorem YH (hc:PTa X W ce c) (ha:kF X W P a f) (hb:kF X W P b g):PSa X W P (.If ce a b pos) (sIf c f g):=
 YG (ps_if hc ha hb) fun D σ H ⟨G,ρ,r,h⟩=>Xo (Xp (Pend.nil r) (AftS.cl (P:=P) (D:=D)) h) fun b H1 ⟨ρ1,G1,p,h1⟩=>by
  cases b with
  |true=>rw[if_pos rfl]at h1⊢; exact⟨G1,ρ1,p.rel,Vt p .refl h1⟩
  |false=>rw[if_neg Bn]at h1⊢; exact⟨G1,ρ1,p.rel,Vt p .refl h1⟩
theorem rY {α:Type}:∀{is:List Nat} {xs l:List α} {j:Nat},j∉is→(setL l is xs)[j]?=l[j]?
 |[],_,_,_,_=>by simp[setL]
 |_::_,[],_,_,_=>by simp[setL]
 |i::is,x::xs,l,j,h=>by
  rw[setL,rY (fun z=>h (List.mem_cons_of_mem _ z)),AZ (fun z=>h (by rw[z]; exact AN))]
theorem uR {B:Bk} {is:List Nat} {D:Ends} {σ:St} {ρ ρ1 ρ2:List S} {H G H1 G1:Hp} {us:List V} {vs:List E} {ss:List S} (hP:∀i∈is,i∉P) (Pd:Pend B σ ρ H G ρ1 H1 G1 us vs) (et:toSL vs ρ1=some (ss,ρ2)) (hl:is.length=ss.length) (hi:is.all (fun i=>decide (i<ρ2.length))=true)
  (h:AftS B W P σ ρ H G D (.ok .nx (setL ρ2 is ss))):us.length=is.length∧D.nx (setL σ is (us.map some)) H1:=by
 obtain⟨G2,p2,w2,_⟩:=Pend.toSL Pd et
 refine⟨by rw[w2.len,hl],h _ H1 G2 (Wait.setL p2 w2 hl fun i hi'=>of_decide_eq_true (AP.mp hi i hi')) fun j hj=>?_⟩
 rw[rY fun z=>hP j z hj]
theorem xE {i:Nat} {x:Str} (hN:X.N.Nodup) (hi:X.N[i]?=some x) (he:PEa X W e fe) (hP:i∉P:=by decide) (hx:Loc X.env.scope x:=by first|exact Or.inl rfl|exact Or.inr rfl) (hs:swapsWith e (some (.Name x pos')) pos.line X.env=pure false:=by rfl) (hf:X.fn x=true∨X.env.scope.names.lookup x=some .local:=by first|exact .inl rfl|exact .inr rfl|assumption) :
  PSa X W P (.Assign [.Name x pos'] e pos) (zp i fe):=
 YG (ps_set hN hi hx he hs hf) fun D σ H ⟨G,ρ,r,h⟩=>by
  unfold zp z9 za at h
  refine⟨G,ρ,r,?_⟩
  generalize fe ρ=rf at h
  induction rf with
  |no=>exact h.elim
  |ex x ρ'=>exact AftS.cl.ex _ _ h
  |new τ k ih=>exact fun a e=>ih a (h a e)
  |ok v ρ1=>
   have h:AftS X.bk W P σ ρ H G D (match toSL [v] ρ1 with
    |some (ss,ρ2)=>if [i].length=ss.length∧[i].all (fun i=>decide (i<ρ2.length))=true then .ok .nx (setL ρ2 [i] ss)else .no
    |none=>.no):=h
   intro u H1 G1 p re fr
   split at h
   ·rename_i ss ρ2 et
    split at h
    ·rename_i hl
     have z:=(uR (is:=[i]) (us:=[u]) (fun j hj=>by simp at hj; subst hj; exact hP) (Pend.one p r re fr) et hl.1 hl.2 h).2
     exact z
    ·exact h.elim
   ·exact h.elim
theorem nJ {i j:Nat} {x y:Str} {a b:Expr} {fs:List S→Res (List E)} {px py pt:Pos} {kt k2 pt2} (hc:X.calm=true) (hN:X.N.Nodup) (hi:X.N[i]?=some x) (hj:X.N[j]?=some y) (ha:PAa X W [a,b] fs)
  (hw:swappedStores [.Tuple [.Name x px,.Name y py] kt pt] (.Tuple [a,b] k2 pt2) X.env=pure (some [x,y])) (hij:i≠j:=by decide) (hP:∀k∈[i,j],k∉P:=by decide)
  (hx:X.env.scope.names.lookup x=some .local:=by rfl) (hy:X.env.scope.names.lookup y=some .local:=by rfl)
  (hs:swapsWithSole [.Tuple [.Name x px,.Name y py] kt pt] (.Tuple [a,b] k2 pt2) pos.line X.env=pure false:=by rfl) :
  PSa X W P (.Assign [.Tuple [.Name x px,.Name y py] kt pt] (.Tuple [a,b] k2 pt2) pos) (z9 [i,j] fs):=
 YG (ps_par hc hN hi hj hij hx hy ha hw hs) fun D σ H ⟨G,ρ,r,h⟩=>by
  refine yY (xt r (AftS.cl (P:=P) (D:=D)) h) fun us H1 ⟨vs,ρ1,G1,Pd,h1⟩=>?_
  split at h1
  ·rename_i ss ρ2 et
   split at h1
   ·rename_i hl
    obtain⟨z1,z2⟩:=uR hP Pd et hl.1 hl.2 h1
    obtain⟨u,w,rfl⟩:=Pk z1
    exact⟨u,w,rfl,z2⟩
   ·exact h1.elim
  ·exact h1.elim
def OV:List Nat→TGs
 |[]=>gNil
 |i::is=>gCons (gName i) (OV is)
theorem sX:∀{is:List Nat} {us:List V} {σ:St} {H:Hp} {Q:St→Hp→Prop},us.length=is.length→Q (setL σ is (us.map some)) H→OV is us σ H Q
 |[],[],σ,H,Q,_,q=>⟨rfl,by simpa[setL]using q⟩
 |i::is,u::us,σ,H,Q,hl,q=>⟨u,us,rfl,sX (by simpa using hl) (by simpa[setL]using q)⟩
theorem nK {is:List Nat} {tgs es:List Expr} {fs:List S→Res (List E)} {pt:Pos} {kt k2 pt2} (hc:X.calm=true) (hg:PGs X tgs (OV is)) (ha:PAa X W es fs) (hP:∀k∈is,k∉P) (hn:(assignEach tgs X.env).length=is.length:=by rfl) (hz:is.length≤1000:=by decide)
  (hst:(assignEach tgs X.env).findIdx? (·.1)=none:=by rfl) (hs:swapsWithSole [.Tuple tgs kt pt] (.Tuple es k2 pt2) pos.line X.env=pure false:=by rfl) (hw:swappedStores [.Tuple tgs kt pt] (.Tuple es k2 pt2) X.env=pure none:=by rfl)
  (h1:(assignEach [.Tuple tgs kt pt] X.env).map (·.2)=[assign (.Tuple tgs kt pt) X.env]:=by rfl) :
  PSa X W P (.Assign [.Tuple tgs kt pt] (.Tuple es k2 pt2) pos) (z9 is fs):=
 YG (ps_asg (pe_tup ha) (pg_tup hc hg hn hst) hs hw h1) fun D σ H ⟨G,ρ,r,h⟩=>by
  refine yY (xt r (AftS.cl (P:=P) (D:=D)) h) fun us H1 ⟨vs,ρ1,G1,Pd,h1⟩=>?_
  split at h1
  ·rename_i ss ρ2 et
   split at h1
   ·rename_i hl
    have hlen:us.length=is.length:=by
     obtain⟨_,_,w2,_⟩:=Pend.toSL Pd et
     rw[w2.len,hl.1]
    refine⟨by rw[hlen]; exact AU hz (by rw[sizeLine_eq]; decide),fun q hq=>⟨q,us,rfl,SqT.of upd_same,hlen,sX hlen ?_⟩⟩
    have ph:Post X.bk σ ρ1 H1 G1 σ ρ1 (upd H1 q (.tup us)) G1:=(Post.refl Pd.post.rel).poke Pd.post.rel.tab hq (Same.free Pd.post.rel.sub hq) fun j w=>by
     obtain⟨ho,e3,_⟩:=Pd.post.rel.obj w
     rw[hq]at e3; cases e3
    exact(uR hP (Pd.step ph) et hl.1 hl.2 h1).2
   ·exact h1.elim
  ·exact h1.elim
theorem So {tg:Expr} {t:Tg} (he:PEa X W e fe) (hg:PG X tg (gD X.bk t)) (hP:∀j,j∈t.names→j∉P:=by decide) (hs:swapsWithSole [tg] e pos.line X.env=pure false:=by rfl) (hw:swappedStores [tg] e X.env=pure none:=by rfl)
  (h1:(assignEach [tg] X.env).map (·.2)=[assign tg X.env]:=by rfl):PSa X W P (.Assign [tg] e pos) (sTg t fe):=
 YG (ps_asg he hg hs hw h1) fun D σ H ⟨G,ρ,r,h⟩=>by
  refine yr (yx r (AftS.cl (P:=P) (D:=D)) h) fun u H1 ⟨v,ρ1,G1,Pd,h1⟩=>?_
  split at h1
  ·rename_i x ρ2 hk
   split at h1
   ·rename_i ρ3 et
    obtain⟨G2,p2,f2,_⟩:=Pend.keep1 Pd hk
    exact⟨G2,ρ2,x,ρ3,p2.post.rel,f2,et,fun σ' q k=>h1 σ' H1 G2 (p2.post.trans q) fun j hj=>k j fun z=>hP j z hj⟩
   ·exact h1.elim
  ·exact h1.elim
end
def JT (ds:List (Key×D)) (k:Key) (d:D):List (Key×D):=
 if (ds.any fun kv=>decide (kv.1=k))=true then ds.map (fun kv=>if kv.1=k then(kv.1,d)else kv)else ds++[(k,d)]
def OQ (ds:List (D×D)) (kd:D) (k:NestedKey) (x:D):List (D×D):=if (wq ds k).isSome=true then ds.map (fun kv=>if kv.1.nk?=some k then(kv.1,x)else kv)else ds++[(kd,x)]
def rQ:O→D→D→Option O
 | .lst xs,.int i,x=>(ixN xs.length i).map fun j=>.lst (xs.set j x)
 | .dct kvs,k,x=>if kvs.length<sizeLine then k.key?.map fun k=>.dct (JT kvs k x)else none
 | .dd kvs,k,x=>if kvs.length<sizeLine then k.keyN?.map fun n=>.dd (OQ kvs k n x)else none
 |_,_,_=>none
section
variable {B:Bk} {G:Hp}
theorem FzK.any {k:Key}:∀{us:List (Key×V)} {ds:List (Key×D)},FzK B G us ds→(us.any fun kv=>decide (kv.1=k))=(ds.any fun kv=>decide (kv.1=k))
 |[],[],_=>rfl
 |[],_::_,h=>by rw[FzK]at h; exact h.elim
 |_::_,[],h=>by rw[FzK]at h; exact h.elim
 |u::us,d::ds,h=>by
  rw[FzK]at h
  rw[List.any_cons,List.any_cons,h.1,FzK.any h.2.2]
theorem B9 {k:Key} {v:V} {d:D} (f:Fz B G v d):∀{us:List (Key×V)} {ds:List (Key×D)},FzK B G us ds→FzK B G (us.map fun kv=>if kv.1=k then(kv.1,v)else kv) (ds.map fun kv=>if kv.1=k then(kv.1,d)else kv)
 |[],[],h=>h
 |[],_::_,h=>by rw[FzK]at h; exact h.elim
 |_::_,[],h=>by rw[FzK]at h; exact h.elim
 |u::us,d'::ds,h=>by
  rw[FzK]at h
  rw[List.map_cons,List.map_cons,FzK]
  refine⟨?_,?_,B9 f h.2.2⟩
  ·by_cases e:u.1=k
   ·rw[if_pos e,if_pos (by rw[←h.1]; exact e)]; exact h.1
   ·rw[if_neg e,if_neg (by rw[←h.1]; exact e)]; exact h.1
  ·by_cases e:u.1=k
   ·rw[if_pos e,if_pos (by rw[←h.1]; exact e)]; exact f
   ·rw[if_neg e,if_neg (by rw[←h.1]; exact e)]; exact h.2.1
theorem B6:∀{us ws:List (Key×V)} {ds es:List (Key×D)},FzK B G us ds→FzK B G ws es→FzK B G (us++ws) (ds++es)
 |[],_,[],_,_,h=>h
 |[],_,_::_,_,h,_=>by rw[FzK]at h; exact h.elim
 |_::_,_,[],_,h,_=>by rw[FzK]at h; exact h.elim
 |u::us,_,d::ds,_,h,h'=>by
  rw[FzK]at h
  show FzK B G (u::(us++_)) (d::(ds++_))
  rw[FzK]
  exact⟨h.1,h.2.1,B6 h.2.2 h'⟩
theorem FzK.put {k:Key} {v:V} {d:D} {us:List (Key×V)} {ds:List (Key×D)} (f:Fz B G v d) (h:FzK B G us ds):FzK B G (putK us k v) (JT ds k d):=by
 unfold putK JT
 rw[FzK.any h]
 split
 ·exact B9 f h
 ·refine B6 h ?_
  rw[FzK]
  exact⟨rfl,f,by rw[FzK]; trivial⟩
end
theorem MC {x:D} {k:NestedKey} (e:x.keyN?=some k):x.nk?=some k∧k.depth≤8:=by
 cases x<;>simp only[D.keyN?,reduceCtorEq]at e
 obtain⟨ks,e1,e2⟩:=Bc.mp e
 split at e2
 ·rename_i hd
  cases e2
  exact⟨by rw[D.nk?,e1]; rfl,hd⟩
 ·cases e2
theorem MB {B:Bk} {G H:Hp} {x:D} {u:V} {k:NestedKey} (h:Tz B G H u x) (e:x.keyN?=some k):Fz B G u x:=by
 cases x<;>first|exact h|(simp only[D.keyN?,reduceCtorEq]at e)
theorem B7 {B:Bk} {G:Hp} {k:NestedKey} {v:V} {d:D} (f:Fz B G v d):∀{es:EnL} {ds:List (D×D)},FzD B G es ds→FzD B G (es.map fun e=>if e.1=k then(e.1,e.2.1,v)else e) (ds.map fun kv=>if kv.1.nk?=some k then(kv.1,d)else kv)
 |[],[],h=>h
 |[],_::_,h=>by rw[FzD]at h; exact h.elim
 |_::_,[],h=>by rw[FzD]at h; exact h.elim
 |e::es,d'::ds,h=>by
  rw[FzD]at h
  rw[List.map_cons,List.map_cons]
  by_cases hk:e.1=k
  ·rw[if_pos hk,if_pos (by rw[h.1.1,hk]),FzD]
   exact⟨h.1,h.2.1,f,B7 f h.2.2.2⟩
  ·rw[if_neg hk,if_neg (by rw[h.1.1]; intro z; exact hk (Option.some.inj z)),FzD]
   exact⟨h.1,h.2.1,h.2.2.1,B7 f h.2.2.2⟩
theorem FzD.app {B:Bk} {G:Hp}:∀{es es':EnL} {ds ds':List (D×D)},FzD B G es ds→FzD B G es' ds'→FzD B G (es++es') (ds++ds')
 |[],_,[],_,_,h=>h
 |[],_,_::_,_,h,_=>by rw[FzD]at h; exact h.elim
 |_::_,_,[],_,h,_=>by rw[FzD]at h; exact h.elim
 |e::es,_,d::ds,_,h,h'=>by
  rw[FzD]at h
  show FzD B G (e::(es++_)) (d::(ds++_))
  rw[FzD]
  exact⟨h.1,h.2.1,h.2.2.1,FzD.app h.2.2.2 h'⟩
theorem FzD.put {B:Bk} {G:Hp} {kd d:D} {k:NestedKey} {b:Addr} {v:V} {es:EnL} {ds:List (D×D)} (h:FzD B G es ds) (hk:kd.nk?=some k) (hd:k.depth≤8) (fk:Fz B G (.ref b) kd) (f:Fz B G v d):FzD B G (UR es k b v) (OQ ds kd k d):=by
 unfold UR OQ
 rw[vL h]
 split
 ·exact B7 f h
 ·refine FzD.app h ?_
  rw[FzD]
  exact⟨⟨hk,hd⟩,fk,f,by rw[FzD]; trivial⟩
def rX (i:Nat) (fk fv:AK):AJ:=fun ρ=>(fv ρ).bind fun v ρ1=>match ρ1[i]? with
 |some (.own _)=>(fk ρ1).bind fun k ρ2=>match keep1 v ρ2 with
  |some (x,ρ3)=>match k.val ρ3,ρ3[i]? with
   |some kd,some (.own o)=>match rQ o kd x with
    |some o'=>.ok .nx (ρ3.set i (.own o'))
    |none=>.no
   |_,_=>.no
  |none=>.no
 |_=>.no
theorem aQ {X:Cx} {t t':TSet} (h:PSet X t) (h':PSet X t'):PSet X (fun o i v H Q=>t o i v H Q∨t' o i v H Q):=
 fun pins s σ H o i v ov iv u Q I r1 r2 r3 q=>q.elim (h pins s σ H o i v ov iv u Q I r1 r2 r3) (h' pins s σ H o i v ov iv u Q I r1 r2 r3)
section
variable {X:Cx} {W:WX'} {P:List Nat} {e ke:Expr} {fv fk:AK} {pos tpos npos:Pos} {x:Str} {i:Nat}
theorem Lo (hu:X.A.units+64<cLine) (hN:X.N[i]?=some x) (hk:PEa X W ke fk) (hv:PEa X W e fv) (hvis:Vis X.env.scope x:=by first|exact Or.inl rfl|exact Or.inr (Or.inl rfl)|exact Or.inr (Or.inr rfl))
  (hd:(x==("__debug__":Str))=false:=by decide) (hcd:(x==("__classdict__":Str))=false:=by decide)
  (ha:∀v,assign (.Subscript (.Name x npos) ke tpos) X.env v=(do
    let ov←holding [v] (eval (.Name x npos) X.env)
    let iv←holding [v,ov] (eval ke X.env)
    standAt tpos
    holding [v,ov,iv] (setItem ov iv v)
    release [v,ov,iv] []):=by intro _; rfl)
  (hs:swapsWithSole [.Subscript (.Name x npos) ke tpos] e pos.line X.env=pure false:=by rfl) (hw:swappedStores [.Subscript (.Name x npos) ke tpos] e X.env=pure none:=by rfl)
  (h1:(assignEach [.Subscript (.Name x npos) ke tpos] X.env).map (·.2)=[assign (.Subscript (.Name x npos) ke tpos) X.env]:=by rfl) :
  PSa X W P (.Assign [.Subscript (.Name x npos) ke tpos] e pos) (rX i fk fv):=
 YG (ps_asg hv (pg_sub (zf (W:=W) i hN hvis hd hcd) hk (aQ (aQ set_list (set_dict (by omega))) (Sr hu)) ha) hs hw h1) fun D σ H ⟨G,ρ,r,h⟩=>by
  refine yr (yx r (AftS.cl (P:=P) (D:=D)) h) fun u H1 ⟨v,ρ1,G1,P1,h1⟩=>?_
  split at h1
  ·rename_i o0 ho0
   refine⟨G1,ρ1,P1.post.rel,?_⟩
   unfold zb
   rw[ho0]
   intro ov H2 G2 p2 re2 fr2
   have P2:=P1.snoc p2 re2 trivial
   refine yr (Z_ P2 (AftS.cl (P:=P) (D:=D)) h1) fun kv H3 ⟨k,ρ2,G3,P3,h3⟩=>?_
   split at h3
   ·rename_i xd ρ3 hk1
    split at h3
    ·rename_i kd o hkd ho
     split at h3
     ·rename_i o' hput
      obtain⟨G4,P4,f4,s4⟩:=Pend.keep1 (us:=[ov,kv]) (vs:=[.sl i,k]) P3 hk1
      obtain⟨w1,e1,r1⟩:=P4.re 0 _ rfl
      obtain⟨w2,e2,r2⟩:=P4.re 1 _ rfl
      cases e1
      cases e2
      have r1:σ[i]?=some (some ov):=r1
      obtain⟨z,e1,a,hob,e2,e3,e4,e5⟩:=P4.post.rel.slot i _ ho
      rw[r1]at e1; cases e1; cases e2
      have tk:=P4.post.rel.val r2 hkd
      have fin:∀ho',RO X.bk G4 a ho' o'→D.nx σ (upd H3 a ho'):=fun ho' ro=>h3 σ _ G4 (gj P4.post r1 ho ro) .refl
      cases o with
      |lst ds=>
       cases kd<;>simp only[rQ,reduceCtorEq]at hput
       obtain⟨j,e6,rfl⟩:=AO.mp hput
       obtain⟨us,rfl,f5⟩:=e5
       exact .inl (.inl ⟨a,us,_,j,rfl,y0 tk,e3,by rw[f5.length]; exact e6,fin _ ⟨_,rfl,FzL.set f4 j f5⟩⟩)
      |dd ds=>
       simp only[rQ]at hput
       split at hput
       ·rename_i hz
        obtain⟨key,e6,rfl⟩:=AO.mp hput
        obtain⟨ob,es,rfl,f5⟩:=e5
        have ka:=ck P4.post.rel.sub tk e6
        obtain⟨n1,n2⟩:=MC e6
        have fk:Fz X.bk G4 kv kd:=MB tk e6
        obtain⟨b,rfl,ka2⟩:=ka
        exact .inr ⟨a,es,key,b,rfl,rfl,⟨ob,e3,mS P4.post.rel.sub f5⟩,⟨b,rfl,ka2⟩,by rw[f5.length]; exact hz,fun ob'=>fin _ ⟨ob',_,rfl,f5.put n1 n2 fk f4⟩⟩
       ·cases hput
      |ins c ds=>simp only[rQ,reduceCtorEq]at hput
      |db ks=>simp only[rQ,reduceCtorEq]at hput
      |dct ds=>
       simp only[rQ]at hput
       split at hput
       ·rename_i hz
        obtain⟨key,e6,rfl⟩:=AO.mp hput
        obtain⟨us,rfl,f5⟩:=e5
        refine .inl (.inr ⟨a,_,rfl,?_,fin _ ⟨_,rfl,FzK.put (k:=key) f4 f5⟩⟩)
        rw[s_ (tk.fz P4.post.rel.sub) e6]
        exact DPut.k e3 (by rw[f5.length]; exact hz)
       ·cases hput
     ·exact h3.elim
    ·exact h3.elim
   ·exact h3.elim
  ·exact h1.elim
end
def Mm (K:AJ):Res Fl→Res Fl
 | .ok .nx ρ2=>K ρ2
 | .ok .ct ρ2=>K ρ2
 | .ok .bk ρ2=>.ok .nx ρ2
 | .new τ k=>.new τ fun a=>Mm K (k a)
 |r=>r
def xr (t:Tg) (body:AJ):List D→AJ
 |[],ρ=>.ok .nx ρ
 |x::xs,ρ=>match zQ t x ρ with
  |none=>.no
  |some ρ1=>match body ρ1 with
   | .ok .nx ρ2=>xr t body xs ρ2
   | .ok .ct ρ2=>xr t body xs ρ2
   | .ok .bk ρ2=>.ok .nx ρ2
   | .new τ k=>.new τ fun a=>Mm (fun ρ2=>xr t body xs ρ2) (k a)
   |r=>r
theorem UX {t:Tg} {body:AJ} {x:D} {xs:List D} {ρ ρ1:List S} (e:zQ t x ρ=some ρ1):xr t body (x::xs) ρ=Mm (fun ρ2=>xr t body xs ρ2) (body ρ1):=by
 rw[xr,e]
 simp only
 cases body ρ1 with
 |ok fl ρ1=>cases fl<;>rfl
 |_=>rfl
def Xt (it:List S→Res (List D)) (t:Tg) (body:AJ):AJ:=fun ρ=>(it ρ).bind fun xs ρ1=>xr t body xs ρ1
section
variable {X:Cx} {W:WX'} {P:List Nat} {tg iter:Expr} {body:List Stmt} {it:List S→Res (List D)} {t:Tg} {fb:AJ} {pos:Pos}
theorem V0 (hp:PassesOwn (model X.prog X.w) X.A X.env X.xe) (hc:X.calm=true) (hi:PIa X W tg iter it) (hg:PG X tg (gD X.bk t)) (hb:kF X W P body fb) (hP:∀j,j∈t.names→j∉P)
  (hs:∀x,foldedSetIterable iter X.env x=pure x:=by intro _; rfl):PSa X W P (.For tg iter body [] pos) (Xt it t fb):=
 YG (ps_for hp hc hi hg hb hs) fun D σ H ⟨G,ρ,r,h⟩=>by
  refine⟨G,ρ,r,?_⟩
  unfold Xt at h
  generalize it ρ=ri at h
  induction ri with
  |no=>exact h
  |ex e ρ'=>exact AftS.cl.ex _ _ h
  |new τ k ih=>exact fun a e=>ih a (h a e)
  |ok xs ρ1=>
   rw[Res.bind_ok]at h
   intro J H1 G1 p1 wk
   have h':AftS X.bk W P σ ρ1 H1 G1 D (xr t fb xs ρ1):=Vt p1 .refl h
   refine⟨fun i m σi Hi=>m=xs.length - i∧i≤xs.length∧∃ρi Gi,Post X.bk σ ρ1 H1 G1 σi ρi Hi Gi∧Keeps P σ σi∧AftS X.bk W P σ ρ1 H1 G1 D (xr t fb (xs.drop i) ρi),⟨xs.length,by simp,Bg _,ρ1,G1,.refl p1.rel,.refl,by simpa using h'⟩,?_⟩
   rintro i m σi Hi ⟨rfl,hi,ρi,Gi,Q,K,hgo⟩
   by_cases hlt:i<xs.length
   ·refine .inr ⟨wk.go i Hi Gi hlt Q.grow Q.rel.sub,fun σ' H'=>∃ρi Gi,Post X.bk σ ρ1 H1 G1 σ' ρi H' Gi∧Keeps P σ σ'∧AftS X.bk W P σ ρ1 H1 G1 D (xr t fb (xs.drop (i+1)) ρi),
     fun σ' H' q=>⟨xs.length - (i+1),by omega,rfl,hlt,q⟩,fun v H' y=>?_⟩
    obtain⟨x,G2,ex,nw⟩:=wk.yld i Hi Gi v H' hlt Q.grow Q.rel.sub y
    obtain⟨q1,re,_⟩:=nw.post (Post.refl Q.rel)
    have re:Fz X.bk G2 v x:=re
    have hdr:xs.drop i=x::xs.drop (i+1):=by
     rw[List.drop_eq_getElem_cons hlt]
     have:xs[i]=x:=by rw[AX hlt]at ex; exact Option.some.inj ex
     rw[this]
    rw[hdr]at hgo
    cases ea:zQ t x ρi with
    |none=>rw[xr,ea]at hgo; exact hgo.elim
    |some ρa=>
     rw[UX ea]at hgo
     refine⟨G2,ρi,x,ρa,q1.rel,re,ea,fun σ2 p2 k2=>?_⟩
     have kk:Keeps P σi σ2:=fun j hj=>k2 j fun z=>hP j z hj
     have P2:=(Q.trans q1).trans p2
     refine⟨G2,ρa,p2.rel,?_⟩
     generalize fb ρa=rb at hgo
     induction rb with
     |no=>exact hgo
     |ex e ρ'=>exact Vt P2 (K.trans kk) hgo
     |new τ k ih=>exact fun a e=>ih a (hgo a e)
     |ok fl ρb=>
      cases fl with
      |nx=>exact fun σ' H3 G3 p3 k3=>⟨ρb,G3,P2.trans p3,(K.trans kk).trans k3,hgo⟩
      |ct=>exact fun σ' H3 G3 p3 k3=>⟨ρb,G3,P2.trans p3,(K.trans kk).trans k3,hgo⟩
      |bk=>exact fun σ' H3 G3 p3 k3=>hgo σ' H3 G3 (P2.trans p3) ((K.trans kk).trans k3)
      |rt w=>exact Vt P2 (K.trans kk) hgo
   ·have e:i=xs.length:=by omega
    subst e
    refine .inl ⟨wk.stop Hi Gi Q.grow Q.rel.sub,?_⟩
    rw[List.drop_length,xr]at hgo
    exact hgo σi Hi Gi Q K
end
section
variable {X:Cx} {W:WX'} {P:List Nat} {tg iter elt:Expr} {ifs:List Expr} {scope:Scope} {own:List (Str×Nat)} {pos spos py:Pos} {it:List S→Res (List D)} {t:Tg} {c:List S→Res Bool} {f:AK} {vs:List Nat} {y:Str} {i:Nat}
theorem cK (hc:X.calm=true) (hN:X.N.Nodup) (hy:X.N[i]?=some y) (hsw:swapsWith (.ListComp elt [⟨tg,iter,ifs,0⟩] scope pos) (some (.Name y py)) spos.line X.env=pure true) (ok:BlkOk X.N X.env.scope scope own) (hv:own.map (·.2)=vs) (ht:∀j,j∈t.names→j∈vs) (hi:PIa X W tg iter it)
  (hg:∀(s:Shared) (H:Hp) (C:Addr) (cl:List (Str×Addr)) (fp:List Addr),PG (X.blk s H scope (compEnvC scope cl C X.env) fp) tg (gD X.bk t))
  (hc':∀(s:Shared) (H:Hp) (C:Addr) (cl:List (Str×Addr)) (fp:List Addr),PTs (X.blk s H scope (compEnvC scope cl C X.env) fp) ifs (Xn X.bk WF c))
  (he:∀(s:Shared) (H:Hp) (C:Addr) (cl:List (Str×Addr)) (fp:List Addr),PE (X.blk s H scope (compEnvC scope cl C X.env) fp) elt (jb X.bk WF f)) (hP:i∉P:=by decide) (hyl:X.env.scope.names.lookup y=some .local:=by rfl) (hs:∀x,foldedSetIterable iter X.env x=pure x:=by intro _; rfl) :
  PSa X W P (.Assign [.Name y py] (.ListComp elt [⟨tg,iter,ifs,0⟩] scope pos) spos) (zp i (aLc vs it t c f)):=by
 subst hv
 refine YG (ps_setLc hc hN hy hyl hsw hi ok hg hc' he hs) fun D σ H ⟨G,ρ,r,h⟩=>?_
 refine Ku (W:=W) ht σ H _ ?_
 unfold zp z9 za at h
 refine⟨G,ρ,r,?_⟩
 generalize aLc (own.map (·.2)) it t c f ρ=rf at h
 induction rf with
 |no=>exact h.elim
 |ex x ρ'=>exact AftS.cl.ex _ _ h
 |new τ k ih=>exact fun a e=>ih a (h a e)
 |ok v ρ1=>
  have h:AftS X.bk W P σ ρ H G D (match toSL [v] ρ1 with
   |some (ss,ρ2)=>if [i].length=ss.length∧[i].all (fun i=>decide (i<ρ2.length))=true then .ok .nx (setL ρ2 [i] ss)else .no
   |none=>.no):=h
  intro u H1 G1 p re fr
  split at h
  ·rename_i ss ρ2 et
   split at h
   ·rename_i hl
    exact(uR (is:=[i]) (us:=[u]) (fun j hj=>by simp at hj; subst hj; exact hP) (Pend.one p r re fr) et hl.1 hl.2 h).2
   ·exact h.elim
  ·exact h.elim
end
def zO (ρ:List S):List E→Option (List S)
 |[]=>some []
 |v::vs=>match (match v with
   | .d x=>some (S.d x)
   | .fr o=>some (S.own o)
   | .ad a=>some (S.d (.raw (.ref a)))
   | .sl i=>match ρ[i]? with
     |some (.d x)=>some (.d x)
     |some (.own o)=>some (.own o)
     |some (.mem τ)=>some (.mem τ)
     |_=>none),zO ρ vs with
  |some s,some ss=>some (s::ss)
  |_,_=>none
def zM:List E→List Nat
 |[]=>[]
 | .sl i::vs=>i::zM vs
 |_::vs=>zM vs
def wb:List E→List S→List S→List S
 |[],_,ρ=>ρ
 |v::vs,ss,ρ=>match ss with
  |[]=>ρ
  |s::ss=>match v with
   | .sl i=>wb vs ss (ρ.set i s)
   |_=>wb vs ss ρ
theorem ee {i:Nat} {vs:List E} {s:S} {ss ρ:List S}:wb (.sl i::vs) (s::ss) ρ=wb vs ss (ρ.set i s):=rfl
theorem Rb {x:D} {vs:List E} {s:S} {ss ρ:List S}:wb (.d x::vs) (s::ss) ρ=wb vs ss ρ:=rfl
theorem LS {x:O} {vs:List E} {s:S} {ss ρ:List S}:wb (.fr x::vs) (s::ss) ρ=wb vs ss ρ:=rfl
theorem LR {x:Addr} {vs:List E} {s:S} {ss ρ:List S}:wb (.ad x::vs) (s::ss) ρ=wb vs ss ρ:=rfl
theorem QO:∀{vs:List E} {ss ρ:List S},(wb vs ss ρ).length=ρ.length
 |[],_,_=>rfl
 |_::_,[],_=>rfl
 | .sl i::vs,s::ss,ρ=>by rw[ee,QO,List.length_set]
 | .d x::vs,s::ss,ρ=>by rw[Rb,QO]
 | .fr o::vs,s::ss,ρ=>by rw[LS,QO]
 | .ad o::vs,s::ss,ρ=>by rw[LR,QO]
theorem U2:∀{vs:List E} {k i:Nat},vs[k]?=some (.sl i)→i∈zM vs
 |[],_,_,e=>by simp at e
 |v::vs,0,i,e=>by simp at e; subst e; exact AN
 |v::vs,k+1,i,e=>by
  have:=U2 (k:=k) (by simpa using e)
  cases v with
  |sl j=>exact List.mem_cons_of_mem _ this
  |d x=>exact this
  |fr o=>exact this
  |ad o=>exact this
theorem UF:∀{vs:List E} {ss ρ:List S} {i:Nat},i∉zM vs→(wb vs ss ρ)[i]?=ρ[i]?
 |[],_,_,_,_=>rfl
 |_::_,[],_,_,_=>rfl
 | .sl j::vs,s::ss,ρ,i,h=>by
   simp only[zM,List.mem_cons,not_or]at h
   rw[ee,UF h.2,AZ (Ne.symm h.1)]
 | .d x::vs,s::ss,ρ,i,h=>by rw[Rb]; exact UF h
 | .fr o::vs,s::ss,ρ,i,h=>by rw[LS]; exact UF h
 | .ad o::vs,s::ss,ρ,i,h=>by rw[LR]; exact UF h
theorem bF:∀{vs:List E} {ss ρ:List S} {k i:Nat} {s:S},(zM vs).Nodup→vs[k]?=some (.sl i)→ss[k]?=some s→i<ρ.length→(wb vs ss ρ)[i]?=some s
 |[],_,_,_,_,_,_,e,_,_=>by simp at e
 |_::_,[],_,_,_,_,_,_,e,_=>by simp at e
 |v::vs,t::ss,ρ,0,i,s,nd,e1,e2,hi=>by
  simp at e1 e2
  subst e1 e2
  simp only[zM,Bl]at nd
  rw[ee,UF nd.1,A0 hi]
 | .sl j::vs,t::ss,ρ,k+1,i,s,nd,e1,e2,hi=>by
   simp only[zM,Bl]at nd
   rw[ee]
   exact bF (ρ:=ρ.set j t) (k:=k) nd.2 (by simpa using e1) (by simpa using e2) (by rw[List.length_set]; exact hi)
 | .d x::vs,t::ss,ρ,k+1,i,s,nd,e1,e2,hi=>by
   rw[Rb]; exact bF (k:=k) nd (by simpa using e1) (by simpa using e2) hi
 | .ad o::vs,t::ss,ρ,k+1,i,s,nd,e1,e2,hi=>by
   rw[LR]; exact bF (k:=k) nd (by simpa using e1) (by simpa using e2) hi
 | .fr o::vs,t::ss,ρ,k+1,i,s,nd,e1,e2,hi=>by
   rw[LS]; exact bF (k:=k) nd (by simpa using e1) (by simpa using e2) hi
theorem VC:∀{vs:List E} {i:Nat},i∈zM vs→∃k:Nat,vs[k]?=some (E.sl i)
 |[],i,h=>by simp[zM]at h
 | .sl j::vs,i,h=>by
   simp only[zM,List.mem_cons]at h
   rcases h with rfl|h
   ·exact⟨0,rfl⟩
   ·obtain⟨k,hk⟩:=VC h; exact⟨k+1,by simpa using hk⟩
 | .d x::vs,i,h=>by obtain⟨k,hk⟩:=VC (vs:=vs) h; exact⟨k+1,by simpa using hk⟩
 | .ad o::vs,i,h=>by obtain⟨k,hk⟩:=VC (vs:=vs) h; exact⟨k+1,by simpa using hk⟩
 | .fr o::vs,i,h=>by obtain⟨k,hk⟩:=VC (vs:=vs) h; exact⟨k+1,by simpa using hk⟩
theorem rZ:∀{vs:List E} {k l i:Nat},(zM vs).Nodup→vs[k]?=some (.sl i)→vs[l]?=some (.sl i)→k=l
 |[],_,_,_,_,e,_=>by simp at e
 |v::vs,0,0,_,_,_,_=>rfl
 |v::vs,0,l+1,i,nd,e1,e2=>by
  simp at e1; subst e1
  simp only[zM,Bl]at nd
  exact absurd (U2 (k:=l) (by simpa using e2)) nd.1
 |v::vs,k+1,0,i,nd,e1,e2=>by
  simp at e2; subst e2
  simp only[zM,Bl]at nd
  exact absurd (U2 (k:=k) (by simpa using e1)) nd.1
 |v::vs,k+1,l+1,i,nd,e1,e2=>by
  have nd':(zM vs).Nodup:=by
   cases v with
   |sl j=>simp only[zM,Bl]at nd; exact nd.2
   |d x=>exact nd
   |fr o=>exact nd
   |ad o=>exact nd
  exact congrArg (·+1) (rZ (k:=k) (l:=l) nd' (by simpa using e1) (by simpa using e2))
theorem uZ {ρ:List S}:∀{vs:List E} {ss:List S} {k:Nat} {s:S},zO ρ vs=some ss→ss[k]?=some s→∃v,vs[k]?=some v∧((∃x,(v=.d x∨∃a,v=.ad a∧x=.raw (.ref a))∧s=.d x)∨(∃o,v=.fr o∧s=.own o)∨∃i,v=.sl i∧ρ[i]?=some s∧s≠.no)
 |[],ss,k,s,e,e2=>by simp only[zO,Option.some.injEq]at e; subst e; simp at e2
 |v::vs,ss,k,s,e,e2=>by
  simp only[zO]at e
  split at e
  ·rename_i t ts e3 e4
   cases e
   cases k with
   |zero=>
    simp at e2; subst e2
    refine⟨v,rfl,?_⟩
    cases v with
    |d x=>cases e3; exact .inl ⟨x,.inl rfl,rfl⟩
    |ad a=>cases e3; exact .inl ⟨_,.inr ⟨a,rfl,rfl⟩,rfl⟩
    |fr o=>cases e3; exact .inr (.inl ⟨o,rfl,rfl⟩)
    |sl i=>
     simp only at e3
     split at e3
     ·rename_i x hx; cases e3; exact .inr (.inr ⟨i,rfl,hx,fun z=>by cases z⟩)
     ·rename_i o ho; cases e3; exact .inr (.inr ⟨i,rfl,ho,fun z=>by cases z⟩)
     ·rename_i o ho; cases e3; exact .inr (.inr ⟨i,rfl,ho,fun z=>by cases z⟩)
     ·cases e3
   |succ k=>
    obtain⟨w,q1,q2⟩:=uZ (k:=k) e4 (by simpa using e2)
    exact⟨w,by simpa using q1,q2⟩
  ·cases e
theorem mf {ρ:List S}:∀{vs:List E} {ss:List S},zO ρ vs=some ss→ss.length=vs.length
 |[],ss,e=>by simp only[zO,Option.some.injEq]at e; subst e; rfl
 |v::vs,ss,e=>by
  simp only[zO]at e
  split at e
  ·rename_i t ts e3 e4
   cases e
   rw[List.length_cons,List.length_cons,mf e4]
  ·cases e
section
variable {B:Bk} {σ:St} {ρ0 ρ1 ss ss':List S} {H0 G0 H1 G1 H2 G2:Hp} {us:List V} {vs:List E}
theorem ai {α β:Type} {f:α→β} {l:List α} {k:Nat} {y:β} (h:(l.map f)[k]?=some y):∃x,l[k]?=some x∧f x=y:=by
 rw[List.getElem?_map]at h
 exact AO.mp h
theorem UL (P:Pend B σ ρ0 H0 G0 ρ1 H1 G1 us vs) (ea:zO ρ1 vs=some ss) {k:Nat} {a:Addr} (w:Own (us.map some) ss k a) :
  (us[k]?=some (.ref a)∧∃o,vs[k]?=some (.fr o))∨∃i,vs[k]?=some (.sl i)∧Own σ ρ1 i a:=by
 obtain⟨v,s,w1,w2,w3⟩:=w
 obtain⟨x,e1,e2⟩:=ai w1
 subst e2
 obtain⟨v,e3,⟨x,_,e5⟩|⟨o',e4,e5⟩|⟨i,e4,e5,_⟩⟩:=uZ ea w2
 ·subst e5; exact w3.elim
 ·subst e5
  have w3:some x=some (V.ref a):=w3
  cases w3
  exact .inl ⟨e1,o',by rw[e3,e4]⟩
 ·subst e4
  obtain⟨u,q1,q2⟩:=P.re k _ e3
  rw[e1]at q1
  cases q1
  exact .inr ⟨i,e3,_,s,q2,e5,w3⟩
theorem Pend.args (P:Pend B σ ρ0 H0 G0 ρ1 H1 G1 us vs) (ea:zO ρ1 vs=some ss) (nd:(zM vs).Nodup):Rel B G1 (us.map some) ss H1:=by
 refine⟨P.post.rel.sub,by rw[List.length_map,P.len,mf ea],fun k s e=>?_,fun k l a w w'=>?_,P.post.rel.tab⟩
 ·obtain⟨v,e3,h⟩:=uZ ea e
  obtain⟨u,q1,q2⟩:=P.re k _ e3
  refine⟨some u,by rw[List.getElem?_map,q1]; rfl,?_⟩
  rcases h with⟨x,rfl|⟨a,rfl,rfl⟩,rfl⟩|⟨o,rfl,rfl⟩|⟨i,rfl,e5,_⟩
  ·exact⟨u,rfl,q2⟩
  ·have q2:u=.ref a:=q2
   exact⟨u,rfl,by rw[Fz]; exact q2⟩
  ·obtain⟨a,ho,rfl,h1,h2,h3,_⟩:=q2
   exact⟨a,ho,rfl,h1,h2,h3⟩
  ·have q2:σ[i]?=some (some u):=q2
   obtain⟨v,e1,e2⟩:=P.post.rel.slot i s e5
   rw[q2]at e1; cases e1
   exact e2
 ·have h1:=UL P ea w
  have h2:=UL P ea w'
  have fr_no:∀{k:Nat} {o:O},us[k]?=some (.ref a)→vs[k]?=some (.fr o)→∀i,¬Own σ ρ1 i a:=fun {k o} e e'=>by
   obtain⟨u,q1,b,ho,q2,_,_,_,q3⟩:=P.re k _ e'
   rw[e]at q1; cases q1; cases q2
   exact q3
  rcases h1 with⟨u1,o,h1⟩|⟨i,h1,w1⟩
  ·rcases h2 with⟨u2,o',h2⟩|⟨j,h2,w2⟩
   ·exact P.apart k l o o' a h1 h2 u1 u2
   ·exact absurd w2 (fr_no u1 h1 j)
  ·rcases h2 with⟨u2,o',h2⟩|⟨j,h2,w2⟩
   ·exact absurd w1 (fr_no u2 h2 i)
   ·have:=P.post.rel.sep i j a w1 w2
    subst this
    exact rZ nd h1 h2
theorem Pend.back (P:Pend B σ ρ0 H0 G0 ρ1 H1 G1 us vs) (ea:zO ρ1 vs=some ss) (nd:(zM vs).Nodup) (p:Post B (us.map some) ss H1 G1 (us.map some) ss' H2 G2) :
  Post B σ ρ0 H0 G0 σ (wb vs ss' ρ1) H2 G2∧∀i a,Own σ (wb vs ss' ρ1) i a→(∃k,vs[k]?=some (.sl i)∧Own (us.map some) ss' k a)∨Own σ ρ1 i a:=by
 have hl':ss'.length=vs.length:=by rw[←p.rel.len,List.length_map,P.len]
 have oo:∀i a,Own σ (wb vs ss' ρ1) i a→(∃k,vs[k]?=some (.sl i)∧Own (us.map some) ss' k a)∨(i∉zM vs∧Own σ ρ1 i a):=fun i a w=>by
  by_cases hi:i∈zM vs
  ·obtain⟨k,hk⟩:=VC hi
   refine .inl ⟨k,hk,?_⟩
   obtain⟨u,q1,q2⟩:=P.re k _ hk
   have q2:σ[i]?=some (some u):=q2
   have hkl:k<ss'.length:=by rw[hl']; exact(AQ.mp hk).1
   have hil:i<ρ1.length:=by rw[←P.post.rel.len]; exact(AQ.mp q2).1
   have e:=bF nd hk (AX hkl) hil
   exact w.eq (by rw[List.getElem?_map,q1,q2]; rfl) (by rw[e,AX hkl])
  ·exact .inr ⟨hi,w.eq rfl (UF hi).symm⟩
 have fr0:∀{b:Addr} {o:HO},H0 b=some o→(∀i,¬Own σ ρ0 i b)→∀k,¬Own (us.map some) ss k b:=fun {b o} e n k w=>by
  rcases UL P ea w with⟨u1,o',h1⟩|⟨i,h1,w1⟩
  ·have:=P.new k o' b h1 u1
   rw[e]at this; cases this
  ·exact P.post.notown e n i w1
 have own2:∀i a,(∃k,vs[k]?=some (.sl i)∧Own (us.map some) ss' k a)→Own σ ρ1 i a∨H1 a=none:=fun i a ⟨k,hk,w⟩=>by
  rcases p.own k a w with w'|z
  ·rcases UL P ea w' with⟨u1,o',h1⟩|⟨j,h1,w1⟩
   ·rw[hk]at h1; cases h1
   ·rw[hk]at h1; cases h1; exact .inl w1
  ·exact .inr z
 refine⟨⟨P.post.grow.trans p.grow,fun b e=>P.post.dom b (p.dom b e),fun b o e t n=>p.frame b o (P.post.frame b o e t n) t (fr0 e n),fun b o e t g n=>p.keep b o (P.post.frame b o e t n) t (P.post.keep b o e t g n) (fr0 e n),⟨p.rel.sub,by rw[QO]; exact P.post.rel.len,fun i s e=>?_,fun i j a w w'=>?_,p.rel.tab⟩,fun i a w=>?_⟩,fun i a w=>?_⟩
 ·by_cases hi:i∈zM vs
  ·obtain⟨k,hk⟩:=VC hi
   obtain⟨u,q1,q2⟩:=P.re k _ hk
   have q2:σ[i]?=some (some u):=q2
   have hkl:k<ss'.length:=by rw[hl']; exact(AQ.mp hk).1
   have hil:i<ρ1.length:=by rw[←P.post.rel.len]; exact(AQ.mp q2).1
   have e':=bF nd hk (AX hkl) hil
   rw[e]at e'
   obtain⟨v,e1,e2⟩:=p.rel.slot k s (by rw[AX hkl]; exact e'.symm)
   rw[List.getElem?_map,q1]at e1
   cases e1
   exact⟨_,q2,e2⟩
  ·rw[UF hi]at e
   obtain⟨v,e1,e2⟩:=P.post.rel.slot i s e
   refine⟨v,e1,e2.step p.grow fun a ho w1 q2 q4 q3=>?_⟩
   have wi:Own σ ρ1 i a:=⟨v,s,e1,e,w1⟩
   have nk:∀k,¬Own (us.map some) ss k a:=fun k w=>by
    rcases UL P ea w with⟨u1,o',h1⟩|⟨j,h1,w1⟩
    ·obtain⟨u,q5,b,ho',q6,_,_,_,q7⟩:=P.re k _ h1
     rw[u1]at q5; cases q5; cases q6
     exact q7 i wi
    ·have:=P.post.rel.sep i j a wi w1
     subst this
     exact hi (U2 h1)
   exact⟨p.frame a ho q2 q4 nk,p.keep a ho q2 q4 q3 nk⟩
 ·have has:∀{i:Nat},Own σ ρ1 i a→∃o,H1 a=some o:=fun {i} w=>by
   obtain⟨ho,e3,_⟩:=P.post.rel.obj w
   exact⟨ho,e3⟩
  have both:∀{i j:Nat},(∃k,vs[k]?=some (.sl i)∧Own (us.map some) ss' k a)→Own σ ρ1 j a→i=j:=fun {i j} w w'=>by
   rcases own2 i a w with z|z
   ·exact P.post.rel.sep i j a z w'
   ·obtain⟨o,z'⟩:=has w'
    rw[z]at z'; cases z'
  rcases oo i a w with h1|⟨_,h1⟩
  ·rcases oo j a w' with h2|⟨_,h2⟩
   ·obtain⟨k,hk,wk⟩:=h1
    obtain⟨l,hl,wl⟩:=h2
    have:=p.rel.sep k l a wk wl
    subst this
    rw[hk]at hl; cases hl; rfl
   ·exact both h1 h2
  ·rcases oo j a w' with h2|⟨_,h2⟩
   ·exact(both h2 h1).symm
   ·exact P.post.rel.sep i j a h1 h2
 ·rcases oo i a w with h1|⟨_,h1⟩
  ·rcases own2 i a h1 with z|z
   ·exact P.post.own i a z
   ·exact .inr (P.post.dom a z)
  ·exact P.post.own i a h1
 ·rcases oo i a w with⟨k,hk,h1⟩|⟨_,h1⟩
  ·exact .inl ⟨k,hk,h1⟩
  ·exact .inr h1
end
def i_ (vs:List E) (ρ1:List S):Res E→Res E
 | .ok v ss'=>match v with
   | .d x=>.ok (.d x) (wb vs ss' ρ1)
   | .fr o=>.ok (.fr o) (wb vs ss' ρ1)
   | .sl _=>.no
   | .ad _=>.no
 | .ex e ss'=>.ex e (wb vs ss' ρ1)
 | .no=>.no
 | .new τ k=>.new τ fun a=>i_ vs ρ1 (k a)
def zx (F:AK) (vs:List E) (ρ1:List S):Res E:=match zO ρ1 vs with
 |some ss=>if (zM vs).Nodup then match F ss with
   | .ok (.d x) ss'=>.ok (.d x) (wb vs ss' ρ1)
   | .ok (.fr o) ss'=>.ok (.fr o) (wb vs ss' ρ1)
   | .ok (.sl _) _=>.no
   | .ok (.ad _) _=>.no
   | .ex e ss'=>.ex e (wb vs ss' ρ1)
   | .no=>.no
   | .new τ k=>.new τ fun a=>i_ vs ρ1 (k a)
  else .no
 |none=>.no
theorem i8 {F:AK} {vs:List E} {ρ1:List S}:zx F vs ρ1=match zO ρ1 vs with
 |some ss=>if (zM vs).Nodup then i_ vs ρ1 (F ss)else .no
 |none=>.no:=by
 unfold zx
 cases zO ρ1 vs with
 |none=>rfl
 |some ss=>
  simp only
  split
  ·cases F ss with
   |ok v ss'=>cases v<;>rfl
   |_=>rfl
  ·rfl
def aFn (F:AK) (fs:List S→Res (List E)):AK:=fun ρ=>(fs ρ).bind fun vs ρ1=>zx F vs ρ1
def spC (B:Bk) (F:AK):Sp:=fun vs H Q E=>jb B (fun cls d _ H=>E cls d H) F (vs.map some) H Q
theorem UK {B:Bk} {W:WX'} {F:AK} {σ:St} {ρ0 ρ1:List S} {H0 G0 H1 G1:Hp} {us:List V} {vs:List E} {Q:VK} (P:Pend B σ ρ0 H0 G0 ρ1 H1 G1 us vs) (h:Aft B W σ ρ0 H0 G0 Q (zx F vs ρ1)) :
  spC B F us H1 Q (fun cls d H=>W cls d σ H):=by
 rw[i8]at h
 split at h
 ·rename_i ss ea
  split at h
  ·rename_i nd
   refine⟨G1,ss,P.args ea nd,?_⟩
   generalize F ss=rf at h
   induction rf with
   |no=>exact h
   |new τ k ih=>exact fun a e=>ih a (h a e)
   |ex e ss'=>exact fun cls d H' G' p rx=>h cls d H' G' (P.back ea nd p).1 (RX.dom _ P.post.dom rx)
   |ok v ss'=>
    intro u H' G' p re fr
    obtain⟨pb,po⟩:=P.back ea nd p
    cases v with
    |d x=>exact h u H' G' pb re trivial
    |sl i=>exact h.elim
    |ad a=>exact h.elim
    |fr o=>
     obtain⟨a,ho,rfl,h1,h2,h3,h4⟩:=re
     have n1:H1 a=none:=fr a rfl
     refine h _ H' G' pb ⟨a,ho,rfl,h1,h2,h3,fun i w=>?_⟩ fun b e=>by cases e; exact P.post.dom _ n1
     rcases po i a w with⟨k,_,w'⟩|w'
     ·exact h4 k w'
     ·obtain⟨ho',e3,_⟩:=P.post.rel.obj w'
      rw[n1]at e3; cases e3
  ·exact h.elim
 ·exact h.elim
structure FnG (P:Program) (w:World) (K:PySem.W.Frag) (mg:Str→Option Value) (base:Heap) (CX:CXT) (n:Nat) (a:Addr) (fd:FuncData) (par:List Str) (F:AK):Prop where
 go:∀(A:Around) (up:List Env) (s0:Shared) (H:Hp) (given:Args) (zs:List Value) (us:List V) (Q:VK) (Ex:XK),
   A.guards=some []→Room n A→Env0 P w K mg base A up s0 H→BindsTo s0 fd given (par.zip zs)→Vals us zs→us.length=par.length→spC ⟨K,mg,w⟩ F us H Q Ex→
   codeAny (model P w) A (.call (.ref a) given) (CR CX up P w H s0 Q Ex) s0
theorem FnG.mono {P:Program} {w:World} {K:PySem.W.Frag} {mg:Str→Option Value} {base:Heap} {CX:CXT} {m n:Nat} {a:Addr} {fd:FuncData} {par:List Str} {F:AK} (h:FnG P w K mg base CX m a fd par F) (le:m≤n):FnG P w K mg base CX n a fd par F:=
 ⟨fun A up s0 H given zs us Q Ex hg hr=>h.go A up s0 H given zs us Q Ex hg (hr.mono le)⟩
def yf (np:Nat):Res Fl→Res E
 | .ok .nx ρ'=>.ok (.d .non) (ρ'.take np)
 | .ok (.rt (.d x)) ρ'=>.ok (.d x) (ρ'.take np)
 | .ok (.rt (.fr o)) ρ'=>.ok (.fr o) (ρ'.take np)
 | .ok (.rt (.sl j)) ρ'=>if j<np then match zq j (ρ'.take np)with
    |some (x,ρ2)=>.ok (.d x) ρ2
    |none=>.no
   else match ρ'[j]? with
    |some (.d x)=>.ok (.d x) (ρ'.take np)
    |some (.own o)=>.ok (.fr o) (ρ'.take np)
    |_=>.no
 | .ok (.rt (.ad _)) _=>.no
 | .ok .bk _=>.no
 | .ok .ct _=>.no
 | .ex e ρ'=>.ex e (ρ'.take np)
 | .no=>.no
 | .new τ k=>.new τ fun a=>yf np (k a)
def zJ (np nl:Nat) (f:AJ):AK:=fun ρ=>if ρ.length=np then yf np (f (ρ++List.replicate nl .no))else .no
section
variable {B:Bk} {us:List V} {ρ ρ':List S} {H G H' G':Hp} {nl:Nat} {σ':St}
theorem vE {j:Nat} {b:Addr} (hl:us.length=ρ.length) (w:Own (us.map some++List.replicate nl none) (ρ++List.replicate nl S.no) j b):Own (us.map some) ρ j b:=by
 by_cases hj:j<ρ.length
 ·exact w.eq (AT (by rw[List.length_map]; omega)).symm (AT hj).symm
 ·obtain⟨v,s,_,w2,w3⟩:=w
  rw[AV (by omega),BP]at w2
  split at w2
  ·cases w2; exact w3.elim
  ·cases w2
theorem Rel.start (r:Rel B G (us.map some) ρ H):Rel B G (us.map some++List.replicate nl none) (ρ++List.replicate nl .no) H:=by
 have hl:us.length=ρ.length:=by have:=r.len; rwa [List.length_map]at this
 refine⟨r.sub,by rw[AS,AS,By,By,r.len],fun j s e=>?_,fun i j a w1 w2=>r.sep i j a (vE hl w1) (vE hl w2),r.tab⟩
 by_cases hj:j<ρ.length
 ·rw[AT hj]at e
  obtain⟨v,e1,e2⟩:=r.slot j s e
  exact⟨v,by rw[AT (by rw[List.length_map,hl]; exact hj)]; exact e1,e2⟩
 ·rw[AV (by omega),BP]at e
  split at e
  ·rename_i hx
   cases e
   exact⟨none,by rw[AV (by rw[List.length_map]; omega),BP,List.length_map,hl,if_pos hx],trivial⟩
  ·cases e
theorem Vl {np:Nat} (hnp:us.length=np) (k:Keeps (List.range np) (us.map some++List.replicate nl none) σ') {j:Nat} {b:Addr} (w:Own (us.map some) (ρ'.take np) j b):j<np∧Own σ' ρ' j b:=by
 have hj:j<np:=by
  obtain⟨_,_,_,w2,_⟩:=w
  have:=(AQ.mp w2).1
  rw[A9]at this; omega
 refine⟨hj,w.eq ?_ (BT hj).symm⟩
 rw[k j (Bo.mpr hj),AT (by rw[List.length_map]; omega)]
theorem Post.args {np:Nat} (hnp:us.length=np) (hr:ρ.length=np) (p:Post B (us.map some++List.replicate nl none) (ρ++List.replicate nl .no) H G σ' ρ' H' G') (k:Keeps (List.range np) (us.map some++List.replicate nl none) σ') :
  Post B (us.map some) ρ H G (us.map some) (ρ'.take np) H' G':=by
 have hl':np≤ρ'.length:=by
  rw[←p.rel.len]
  cases np with
  |zero=>exact Bg _
  |succ m=>
   have e:=k m (Bo.mpr (Nat.lt_succ_self m))
   rw[AT (by rw[List.length_map]; omega),List.getElem?_map,AX (show m<us.length by omega)]at e
   exact(AQ.mp e).1
 have up:∀{i:Nat} {b:Addr},Own (us.map some++List.replicate nl none) (ρ++List.replicate nl S.no) i b→Own (us.map some) ρ i b:=fun w=>vE (by omega) w
 refine⟨p.grow,p.dom,fun b o e t n=>p.frame b o e t fun i w=>n i (up w),fun b o e t g n=>p.keep b o e t g fun i w=>n i (up w),⟨p.rel.sub,by rw[List.length_map,A9]; omega,fun j s e=>?_,fun i j a w w'=>p.rel.sep i j a (Vl hnp k w).2 (Vl hnp k w').2,p.rel.tab⟩,fun i a w=>?_⟩
 ·have hj:j<np:=by
   have:=(AQ.mp e).1
   rw[A9]at this; omega
  rw[BT hj]at e
  obtain⟨v,e1,e2⟩:=p.rel.slot j s e
  rw[k j (Bo.mpr hj),AT (by rw[List.length_map]; omega)]at e1
  exact⟨v,e1,e2⟩
 ·rcases p.own i a (Vl hnp k w).2 with z|z
  ·exact .inl (up z)
  ·exact .inr z
theorem ti {np:Nat} {f:AJ} {Q:VK} {W:WX'} {Ex:XK} (hW:∀cls d σ H,Ex cls d H→W cls d σ H) (hnp:us.length=np) (h:spC B (zJ np nl f) us H Q Ex) :
  ah B W (List.range np) f { nx:=fun _ H'=>Q .non H',rt:=Q } (us.map some++List.replicate nl none) H:=by
 obtain⟨G,ρ,r,h⟩:=h
 unfold zJ at h
 split at h
 ·rename_i hr
  refine⟨G,ρ++List.replicate nl .no,r.start,?_⟩
  generalize f (ρ++List.replicate nl .no)=rf at h
  induction rf with
  |no=>exact h.elim
  |new τ kk ih=>exact fun a e=>ih a (h a e)
  |ex e ρ'=>exact fun cls d σ' H' G' p k rx=>hW _ _ _ _ (h cls d H' G' (p.args hnp hr k) rx)
  |ok fl ρ'=>
   cases fl with
   |bk=>exact h.elim
   |ct=>exact h.elim
   |nx=>exact fun σ' H' G' p k=>h .non H' G' (p.args hnp hr k) (wN (B:=B) (G:=G')) trivial
   |rt v=>
    intro u σ' H' G' p k re fr
    have pa:=p.args hnp hr k
    cases v with
    |ad a=>exact h.elim
    |d x=>exact h u H' G' pa re trivial
    |fr o=>
     obtain⟨a,ho,e,h1,h2,h3,h4⟩:=re
     exact h u H' G' pa ⟨a,ho,e,h1,h2,h3,fun i w=>h4 i (Vl hnp k w).2⟩ fr
    |sl j=>
     have re:σ'[j]?=some (some u):=re
     rw[yf]at h
     split at h
     ·rename_i hj
      split at h
      ·rename_i x ρ2 hf
       have ru:(us.map some)[j]?=some (some u):=by
        rw[←re,k j (Bo.mpr hj),AT (by rw[List.length_map]; omega)]
       obtain⟨G2,q,f2,_⟩:=Vx pa.rel ru hf
       exact h u H' G2 (pa.trans q) f2 trivial
      ·exact h.elim
     ·rename_i hj
      split at h
      ·rename_i x hx
       obtain⟨v,e1,w,e2,e3⟩:=p.rel.slot j _ hx
       rw[re]at e1; cases e1; cases e2
       exact h u H' G' pa e3 trivial
      ·rename_i o ho
       obtain⟨v,e1,a,hob,e2,e3,e4,e5⟩:=p.rel.slot j _ ho
       rw[re]at e1; cases e1; cases e2
       have wj:Own σ' ρ' j a:=.of re ho
       refine h _ H' G' pa ⟨a,hob,rfl,e3,e4,e5,fun i w=>?_⟩ fun b e=>?_
       ·obtain⟨hi,w'⟩:=Vl hnp k w
        have:=p.rel.sep i j a w' wj
        omega
       ·cases e
        rcases p.own j a wj with⟨_,t,_,z,z'⟩|z
        ·rw[AV (by omega),BP]at z
         split at z
         ·cases z; exact z'.elim
         ·cases z
        ·exact z
      ·exact h.elim
 ·exact h.elim
end
section
variable {CX:CXT} {P:Program} {w:World} {K:PySem.W.Frag} {mg:Str→Option Value} {base:Heap} {n:Nat} {a:Addr} {x qual:Str} {st:Stmt} {N par:List Str} {fd:FuncData}
theorem FnG.of {f:AJ} (F:Fun K x qual st a fd) (S:FnScope N par (defScope st)) (np nl:Nat) (hnp:par.length=np) (hnl:N.length - np=nl)
  (hbody:∀(cd:Value) (A:Around) (up:List Env) (s0:Shared) (H:Hp) (Ex:XK),(A.deeper (envOfC qual (defScope st) s0.heap.objs.size a cd)).guards=some []→Room n (A.deeper (envOfC qual (defScope st) s0.heap.objs.size a cd))→
    kF (cxOf CX P w K mg base N qual (defScope st) a cd A up s0 H Ex) (fun cls d _ H=>Ex cls d H) (List.range np) (defBody st) f) :
  FnG P w K mg base CX (n+1) a fd par (zJ np nl f):=by
 obtain⟨oc,od,kV,doc,pm,an,cd,ct,osl,rfl,lk,hcode⟩:=F.ex
 constructor
 intro A up s0 H given zs us Q Ex hgd hr e0 hb rv hlen hsp
 have still:K.In s0.heap:=e0.mod.kin.keeps fun b o e=>(e0.bs b o e).1
 have nolim:s0.heap.NoLimit:=e0.mod.nolimit.keeps fun b o e=>(e0.bs b o e).1
 have named:∀y∈par.zip zs,(defScope st).names.lookup y.1=some .local∨((defScope st).names.lookup y.1=some .cell∧((cellsFrom (s0.heap.objs.size+1) (defScope st).names []).lookup y.1).isSome=true):=by
  intro y hy
  have hy':y.1∈par:=(BQ (a:=y.1) (b:=y.2) hy).1
  cases S.par y.1 hy' with
  |inl z=>exact Or.inl z
  |inr z=>exact Or.inr ⟨z,PySem.W.cellsFrom_some _ _ _ (Or.inl z)⟩
 refine codeAny_call_function hr.depth (still _ _ lk) rfl S.co S.gen rfl (PySem.W.codeRec_of still hcode) (hb _ _ _ _ ?_)
 refine wpAny_newFunctionEnv_cells S.kind named ?_
 rintro env rfl s1 inside
 refine⟨nolim.keeps inside.toInCall.keep,codeAny_func ?_⟩
 have first:=inv_start (CX:=CX) (E:=Ex) S hr.hd e0 hlen rv inside
 have body:=hbody cd A up s0 H Ex hgd (hr.deeper _)
 have es:start N us=us.map some++List.replicate nl none:=by rw[start,hlen,hnp,hnl]
 rw[es]at first
 have ends:∀{σ':St} {H':Hp} {v:V} {u:Value} {s':Shared},Inv (cxOf CX P w K mg base N qual (defScope st) a cd A up s0 H Ex) [] σ' H' s'→RelV v u→Q v H'→CE up P w H s0 Q u s':=by
  intro σ' H' v u s' J r q
  exact⟨v,H',J.os,J.bare,J.base,J.hok,r,q⟩
 refine wpAny_mono (body.run [] s1 _ H _ first (ti (fun _ _ _ _ z=>z) (hlen.trans hnp) hsp)) ?_ (fun _ _ z=>z)
 intro fl s' z
 match fl,z with
 | .ret u,⟨v,σ',H',J,r,q⟩=>exact ends J r q
 | .next,⟨σ',H',J,q⟩=>exact ends (v:=.non) (u:=.none) J rfl q
 | .brk,⟨_,_,_,q⟩=>exact q.elim
 | .cont,⟨_,_,_,q⟩=>exact q.elim
end
def dw (CX:CXT) (X:Cx) (W:WX'):Prop:=∀(pins:List (Addr×Obj)) (σ:St) (H:Hp) (s:Shared) (e:Value) (s':Shared),Inv X pins σ H s→CX X.stack H s (fun cls d H=>W cls d σ H) e s'→X.xe e s'
section
variable {X:Cx} {W:WX'} {CX:CXT} {n:Nat} {a:Addr} {x:Str} {p pos:Pos} {fd:FuncData} {par ks:List Str} {F:AK} {fs:List S→Res (List E)} {e:Expr} {es:List Expr} {kws:List Keyword}
theorem N_ {pins:List (Addr×Obj)} {σ:St} {H:Hp} {s:Shared} {Q:VK} {given:Args} {zs:List Value} {us:List V} (hF:FnG X.prog X.w X.K X.mg X.base CX n a fd par F) (hgd:X.A.guards=some []) (hr:Room n X.A) (hx:dw CX X W)
  (I:Inv X pins σ H s) (hb:BindsTo s fd given (par.zip zs)) (rv:Vals us zs) (hl:us.length=par.length) (h:spC X.bk F us H Q (fun cls d H=>W cls d σ H)) :
  codeAny (model X.prog X.w) X.A (.call (.ref a) given) (fun r s'=>match r with
   | .ok (.ret u)=>EP X pins σ Q u s'
   | .ok _=>False
   | .error e=>X.xe e s') s:=by
 refine codeAny_mono (hF.go X.A X.stack s H given zs us Q _ hgd hr I.env0 hb rv hl h) ?_
 intro r s' q
 match r,q with
 | .error e,q=>exact hx pins σ H s e s' I q
 | .ok (.ret u),q=>exact I.after q
def Len (F:AK) (k:Nat):Prop:=∀ρ,F ρ≠.no→ρ.length=k
theorem zT {np nl:Nat} {f:AJ}:Len (zJ np nl f) np:=fun ρ h=>by
 unfold zJ at h
 split at h
 ·assumption
 ·exact absurd rfl h
theorem Len.of {B:Bk} {us:List V} {H:Hp} {Q:VK} {Ex:XK} {k:Nat} (L:Len F k) (h:spC B F us H Q Ex):us.length=k:=by
 obtain⟨G,ρ,r,h⟩:=h
 rw[←L ρ (fun z=>by rw[z]at h; exact h),←r.len,List.length_map]
theorem Ri (hF:FnG X.prog X.w X.K X.mg X.base CX n a fd par F) (hL:Len F par.length) (hgd:X.A.guards=some []) (hr:Room n X.A) (hx:dw CX X W) (hm:X.mg x=some (.ref a)) (hk:PySem.W.keepIn X.K (.ref a)=true) (hb:Binds X.K fd par [])
  (ha:PAa X W (e::es) fs) (hg:Gl X x:=by rfl) (hdb:(x==("__debug__":Str))=false:=by decide) (he:starEach (e::es) X.env=(false,eval e X.env)::starEach es X.env:=by rfl) (hpl:(backTo pos (starEach es X.env)).any (·.1)=false:=by rfl) :
  PEa X W (.Call (.Name x p) (e::es) [] pos) (aFn F fs):=by
 constructor
 intro pins s σ H Q I h
 obtain⟨G,ρ,rl,h⟩:=h
 have args:=xt rl (Aft.cl (W:=W) (Q:=Q)) h
 refine wpAny_Call_Name_kw (ld_glob I hg hm ?_ hdb)
 refine PySem.W.callWith_K (h₀:=X.base) I.ok.mod.kin hk (thn (ha.run pos pins s σ H _ I args) ?_) he hpl
 rintro zs s1 ⟨us,H1,I1,rv,vs,ρ1,G1,P,h1⟩
 have sp:=UK P h1
 have hl:=hL.of sp
 have hb':=hb s1 zs I1.kIn (by rw[A6,←rv.length]; exact hl)
 rw[A6]at hb'
 refine⟨I1.kIn,wpAny_call (codeAny_mono (N_ hF hgd hr hx I1 hb' rv hl sp) ?_)⟩
 intro r s' q
 match r,q with
 | .error e,q=>exact q
 | .ok (.ret u),q=>exact q
abbrev PKa (X:Cx) (W:WX') (kws:List Keyword) (f:List S→Res (List E)):Prop:=PK X kws (w7 X.bk W f)
theorem Lb {t t':TA} (h:PK X kws t) (w:∀σ H Q,t' σ H Q→t σ H Q):PK X kws t':=⟨fun pos pins s σ H Q I q=>h.run pos pins s σ H Q I (w σ H Q q)⟩
theorem NE:PKa X W [] ze:=Lb pk_nil fun σ H Q ⟨G,ρ,r,h⟩=>h [] H G (Pend.nil r)
theorem Kl {nm:Option Str} {kpos:Pos} {fe:AK} (ha:PEa X W e fe) (hr:PKa X W kws fs):PKa X W (⟨nm,e,kpos⟩::kws) (za fe fs):=
 Lb (pk_cons ha hr) fun σ H Q ⟨G,ρ,r,h⟩=>by
  refine yr (yx r (AftA.cl (Q:=Q)) h) fun u H1 ⟨v,ρ1,G1,P1,h1⟩=>?_
  refine yY (qV P1 (AftA.cl (Q:=Q)) h1) fun us H2 ⟨vs,ρ2,G2,P2,h2⟩=>?_
  exact h2 _ _ _ P2
def KwB (K:PySem.W.Frag) (fd:FuncData) (par ks:List Str):Prop:=∀(s:Shared) (zs:List Value),K.In s.heap→zs.length=par.length→BindsTo s fd ⟨[],ks.zip zs⟩ (par.zip zs)
theorem Nv (hF:FnG X.prog X.w X.K X.mg X.base CX n a fd par F) (hL:Len F par.length) (hgd:X.A.guards=some []) (hr:Room n X.A) (hx:dw CX X W) (hm:X.mg x=some (.ref a)) (hk:PySem.W.keepIn X.K (.ref a)=true) (hb:KwB X.K fd par ks)
  (ha:PKa X W kws fs) (hall:(backToKw pos (keywordEach kws X.env)).all (·.1.isSome)=true:=by rfl) (hks:(backToKw pos (keywordEach kws X.env)).filterMap (·.1)=ks:=by rfl)
  (hg:Gl X x:=by rfl) (hdb:(x==("__debug__":Str))=false:=by decide) (hpl:((backTo pos (starEach [] X.env)).any (·.1)||(backToKw pos (keywordEach kws X.env)).any (·.1.isNone))=false:=by rfl) :
  PEa X W (.Call (.Name x p) [] kws pos) (aFn F fs):=by
 constructor
 intro pins s σ H Q I h
 obtain⟨G,ρ,rl,h⟩:=h
 have args:=xt rl (Aft.cl (W:=W) (Q:=Q)) h
 refine wpAny_Call_Name_kw (ld_glob I hg hm ?_ hdb)
 refine PySem.W.callWith_KW0 (h₀:=X.base) I.ok.mod.kin hk hall (thn (ha.run pos pins s σ H _ I args) ?_) hpl
 rintro zs s1 ⟨us,H1,I1,rv,vs,ρ1,G1,P,h1⟩
 have sp:=UK P h1
 have hl:=hL.of sp
 have hb':=hb s1 zs I1.kIn (by rw[←rv.length]; exact hl)
 rw[hks]
 refine⟨I1.kIn,wpAny_call (codeAny_mono (N_ hF hgd hr hx I1 hb' rv hl sp) ?_)⟩
 intro r s' q
 match r,q with
 | .error e,q=>exact q
 | .ok (.ret u),q=>exact q
end
def scG (K:PySem.W.Frag) (a:Addr) (zs:List Value) (ns:List Int):Hp:=fun b=>
 if b=a∧(K.lookup a).isNone=true then some (.frz { cls:=.type "list",data:=.seq zs.toArray } (.lst (ns.map V.int)))else none
def scH (K:PySem.W.Frag) (a:Addr) (zs:List Value) (ns:List Int):Hp:=fun b=>
 if b∈(Ye K).map (·.1)then some (.tbl #[])else scG K a zs ns b
def bJ (K:PySem.W.Frag) (mg:Str→Option Value) (base:Heap):Prop:=base.NoDigits∧∀x∈lamNames,∀c P,PySem.W.tabIn K x=some (c,P)→LamX.TabB base mg c P
section
variable {K:PySem.W.Frag} {a:Addr} {zs:List Value} {ns:List Int}
theorem gM {b:Addr} {o:HO} (h:scG K a zs ns b=some o):b=a∧K.lookup a=none∧o=.frz { cls:=.type "list",data:=.seq zs.toArray } (.lst (ns.map V.int)):=by
 unfold scG at h
 split at h
 ·rename_i c
  cases h
  exact⟨c.1,Option.isNone_iff_eq_none.mp c.2,rfl⟩
 ·cases h
theorem KF {p:Addr×Str} (h:p∈Ye K):∃x∈lamNames,∃c,PySem.W.tabIn K x=some (c,p.1):=by
 unfold Ye at h
 obtain⟨x,hx,e⟩:=List.mem_filterMap.mp h
 obtain⟨⟨c,P⟩,e1,e2⟩:=AO.mp e
 subst e2
 exact⟨x,hx,c,e1⟩
theorem RL {P:Program} {w:World} {mg mb:Str→Option Value} {n k:Nat} {fa:Addr} {fd:FuncData} {x:Str} {F:AK} {s:Shared}
  (inK:K.In s.heap) (names:s.heap.Ns mainGlobals mg) (bnames:s.heap.Ns builtinsNs mb) (bis:∀x:Str,x≠"__name__"→mb x=bootBuiltins x) (nolim:s.heap.NoLimit) (nodig:s.heap.NoDigits) (nogen:s.gens=#[])
  (lay:∀x∈lamNames,∀c P,PySem.W.tabIn K x=some (c,P)→(PySem.W.CodeHd s.heap c P∧s.heap.get? P=some (PySem.W.tabObj #[]))∧K.lookup P=none)
  (bmod:∃(bm:Addr) (ob:Obj),mg "__builtins__"=some (.ref bm)∧bm≠builtinsNs∧s.heap.get? bm=some ob∧ob.cls=.type "module"∧ob.dict=some builtinsNs∧ob.data=.plain)
  (ha:s.heap.get? a=some { cls:=.type "list",data:=.seq zs.toArray }) (whole:IntsAre zs ns) (few:ns.length≤sizeLine) (hr:Room k callerA)
  (hF:∀base:Heap,K.In base→base.Ns mainGlobals mg→bJ K mg base→FnG P w K mg base CX0 k fa fd [x] F) (hb:∀(s:Shared) (u:Value),BindsTo s fd ⟨[u],[]⟩ [(x,u)])
  (math:∃ρ',F [.d (.scr ns)]=.ok (.d (.bl true)) ρ') :
  codeAny (model P w) callerA (.call (.ref fa) ⟨[.ref a],[]⟩) (fun r s'=>r=.ok (.ret (.bool true))∧OldK s.heap s'.heap∧s'.os=s.os∧AllBare s'.gens) s:=by
 have zv:=vals_ints whole
 have zl:=whole.length
 have tabAt:∀{b:Addr},b∈(Ye K).map (·.1)→s.heap.get? b=some (PySem.W.tabObj #[])∧K.lookup b=none∧∃c,PySem.W.CodeHd s.heap c b:=fun {b} h=>by
  obtain⟨p,hp,rfl⟩:=AM.mp h
  obtain⟨x,hx,c,e⟩:=KF hp
  obtain⟨⟨h1,h2⟩,h3⟩:=lay x hx c p.1 e
  exact⟨h2,h3,c,h1⟩
 have a_no:a∉(Ye K).map (·.1):=fun h=>by
  have z:=(tabAt h).1
  rw[ha]at z
  have z:Data.seq zs.toArray _=Data.fields #[]:=congrArg Obj.data (Option.some.inj z)
  cases z
 obtain⟨H,hH⟩:∃H,H=scH K a zs ns:=⟨_,rfl⟩
 have atH:∀{b:Addr} {o:HO},H b=some o→(b∈(Ye K).map (·.1)∧o=.tbl #[])∨(b=a∧K.lookup a=none∧o=.frz { cls:=.type "list",data:=.seq zs.toArray } (.lst (ns.map V.int))):=fun {b o} e=>by
  rw[hH]at e
  unfold scH at e
  split at e
  ·rename_i c; cases e; exact .inl ⟨c,rfl⟩
  ·exact .inr (gM e)
 have tabH:∀{b:Addr},b∈(Ye K).map (·.1)→H b=some (.tbl #[]):=fun h=>by rw[hH]; exact if_pos h
 have free:∀{b:Addr} {o:Obj},s.heap.get? b=some o→o≠PySem.W.tabObj #[]→(∀vs k,o.data≠.seq vs k)→H b=none:=fun {b o} e h1 h2=>by
  cases q:H b with
  |none=>rfl
  |some u=>
   rcases atH q with⟨z,_⟩|⟨rfl,_,_⟩
   ·rw[(tabAt z).1]at e
    exact absurd (Option.some.inj e).symm h1
   ·rw[ha]at e
    cases e
    exact absurd rfl (h2 _ _)
 have seq:SqL K (scG K a zs ns) a (ns.map V.int):=by
  cases e:K.lookup a with
  |some o=>
   have q:=inK a o e
   rw[ha]at q
   cases q
   exact .inr ⟨_,zs.toArray,_,e,rfl,rfl,rfl,by rw[BG,zl]; exact few,by simpa using zv⟩
  |none=>exact .inl (.inr ⟨{ cls:=.type "list",data:=.seq zs.toArray },by unfold scG; rw[if_pos ⟨rfl,by rw[e]; rfl⟩]⟩)
 have ok:HOk P w H s.heap:=fun b o e=>by
  rcases atH e with⟨z,rfl⟩|⟨rfl,_,rfl⟩
  ·exact(tabAt z).1
  ·exact⟨ha,by rw[List.length_map]; exact few,zs,_,zv,ha⟩
 have spaces:∀{b:Addr} {m:Str→Option Value},s.heap.Ns b m→(hidT s.heap H).Ns b m:=by
  rintro b m ⟨o,es,ep,e,d,rest⟩
  refine⟨o,es,ep,hidT_get e (free e (fun z=>?_) fun vs k z=>?_),d,rest⟩
  ·rw[z]at d; cases d
  ·rw[z]at d; cases d
 have still:K.In (hidT s.heap H):=by
  intro b o e
  refine hidT_get (inK b o e) ?_
  cases q:H b with
  |none=>rfl
  |some u=>
   rcases atH q with⟨z,_⟩|⟨rfl,z,_⟩
   ·rw[(tabAt z).2.1]at e; cases e
   ·rw[z]at e; cases e
 have modul:Mod K mg (hidT s.heap H):=by
  obtain⟨mc,n1,n2⟩:=nolim
  exact⟨still,spaces names,⟨mb,spaces bnames,bis⟩,mc,spaces n1,n2⟩
 have enter:Env0 P w K mg (hidT s.heap H) callerA [] s H:=by
  refine⟨rfl,modul,fun b o e=>of_hidT e,Nat.le_of_eq (hidT_size _ _),trivial,?_,ok,.of_eq nogen⟩
  intro b z
  exact absurd (show b∈([]:List Addr)from z) (by simp)
 have lams0:∀x∈lamNames,∀c P,PySem.W.tabIn K x=some (c,P)→LamX.TabB (hidT s.heap H) mg c P:=fun x hx c P0 e=>by
  obtain⟨⟨hC,hP⟩,_⟩:=lay x hx c P0 e
  refine⟨?_,?_,fun z=>?_⟩
  ·obtain⟨o,us,file,tf,flags,tg,inF,text,tt,e1,r1,r2,rest⟩:=hC
   exact⟨o,us,file,tf,flags,tg,inF,text,tt,hidT_get e1 (free e1 (fun z=>by rw[z]at r1; cases r1) fun vs k z=>by rw[r2]at z; cases z),r1,r2,rest⟩
  ·obtain⟨bm,ob,b1,b2,b3,b4,b5,b6⟩:=bmod
   refine⟨bm,ob,b1,b2,fun z=>?_,fun z=>?_,hidT_get b3 (free b3 (fun z=>by rw[z]at b4; cases b4) fun vs k z=>by rw[b6]at z; cases z),b4,b5,b6⟩
   ·obtain⟨o,es,ep,e,d,_⟩:=names
    rw[←z,b3]at e
    cases e
    rw[b6]at d
    cases d
   ·rw[z,hP]at b3
    cases b3
    cases b4
  ·obtain⟨o,es,ep,e,d,_⟩:=names
   rw[z,hP]at e
   cases e
   cases d
 have lams:bJ K mg (hidT s.heap H):=⟨(by obtain⟨mc,n1,n2⟩:=nodig; exact⟨mc,spaces n1,n2⟩),lams0⟩
 have sameG:Same (scG K a zs ns) H:=fun b o e=>by
  obtain⟨rfl,_,_⟩:=gM e
  rw[hH]
  unfold scH
  rw[if_neg a_no]
  exact e
 have asked:spC ⟨K,mg,w⟩ F [.ref a] H (fun v _=>v=.bl true) (fun _ _ _=>False):=by
  obtain⟨ρ',e⟩:=math
  refine⟨scG K a zs ns,[.d (.scr ns)],⟨sameG,rfl,?_,?_,?_⟩,?_⟩
  ·intro i t e
   match i,e with
   |0,e=>
    cases e
    refine⟨_,rfl,.ref a,rfl,?_⟩
    rw[Fz]
    exact⟨a,rfl,seq⟩
  ·rintro i j b ⟨_,_,_,z,z'⟩ _
   match i,z with
   |0,z=>cases z; exact z'.elim
  ·intro p hp
   have hm:p.1∈(Ye K).map (·.1):=AM.mpr ⟨p,hp,rfl⟩
   refine⟨⟨#[],tabH hm,trivial,fun pos cv z=>?_⟩,?_⟩
   ·have z:codeAmong pos []=some cv:=z
    simp[codeAmong]at z
   ·cases q:scG K a zs ns p.1 with
    |none=>rfl
    |some o=>exact absurd ((gM q).1▸hm) a_no
  ·rw[e]
   intro u H' G' _ re _
   have re:Fz ⟨K,mg,w⟩ G' u (.bl true):=re
   rw[Fz]at re
   exact re
 refine codeAny_mono ((hF _ still (spaces names) lams).go callerA [] s H ⟨[.ref a],[]⟩ [.ref a] [.ref a] _ _ rfl hr enter (hb s (.ref a)) (.cons rfl .nil) rfl asked) ?_
 intro r s' q
 match r,q with
 | .ok (.ret u),⟨v,H',os,bare,un,ok',rv,ev⟩=>
   have ev:v=.bl true:=ev
   subst ev
   have rv:u=Value.bool true:=rv
   subst rv
   have kept:∀{b:Addr} {o:Obj},s.heap.get? b=some o→b∉(Ye K).map (·.1)→s'.heap.get? b=some o:=fun {b o} e nt=>by
    cases q:H b with
    |none=>exact un.keep b o e q (fun z=>absurd (show b∈([]:List Addr)from z) (by simp)) (by simp)
    |some u=>
     rcases atH q with⟨z,_⟩|⟨rfl,_,rfl⟩
     ·exact absurd z nt
     ·rw[ha]at e
      cases e
      exact(ok' b _ (un.frzs b _ _ q)).1
   have grew:∀{b:Addr},b∈(Ye K).map (·.1)→∃more:Array Value,s'.heap.get? b=some (PySem.W.tabObj more):=fun {b} hm=>by
    obtain⟨more,z⟩:=un.tbls b #[] (tabH hm)
    exact⟨_,ok' b _ z⟩
   refine⟨rfl,⟨fun b o e=>?_,fun b o e=>?_⟩,os,bare⟩
   ·by_cases hm:b∈(Ye K).map (·.1)
    ·obtain⟨more,hg⟩:=grew hm
     obtain⟨t1,_,c,t2⟩:=tabAt hm
     rw[t1]at e
     cases e
     exact .inr (.inl ⟨(t2.tab t1).isCodeTable,rfl,#[],more,rfl,by rw[hg,Array.empty_append]⟩)
    ·exact .inl (kept e hm)
   ·by_cases hm:b∈(Ye K).map (·.1)
    ·obtain⟨more,hg⟩:=grew hm
     exact⟨_,hg⟩
    ·exact⟨o,kept e hm⟩
end
def NS (K:PySem.W.Frag):V→List V→Hp→VK→Prop:=fun x xs H Q=>∃(p:Addr) (ys:List V) (y:V),x=.ref p∧xs=[y]∧SqL K H p ys∧flatV y=true∧ys.all flatV=true∧Q (.int (ys.countP fun z=>eqV z y:Nat)) H
theorem kK {x:V}:∀{xs:List V} {us:List Value},Vals xs us→xs.all flatV=true→us.countP (eqU x)=xs.countP fun y=>eqV y x
 |_,_,.nil,_=>rfl
 |y::xs,u::us,.cons r t,f=>by
  rw[List.all_cons,Bool.and_eq_true]at f
  rw[List.countP_cons,List.countP_cons,eqU_of r f.1,kK t f.2]
theorem oV {X:Cx}:MtR X "list.count" (NS X.K):=by
 intro pins s σ H x xs v us Q I rx rxs h
 obtain⟨p,ys,y,rfl,rfl,hs,fy,fys,q⟩:=h
 cases rx
 obtain⟨u,rfl,ru⟩:=rxs.one
 obtain⟨its,rv,⟨⟨cls,dd,data,sl⟩,n,ho,hc,hdn,hd⟩,hlen⟩:=I.list hs
 simp only at hc hd
 subst hc hd
 refine call_meets PySem.F.slot_list_count ⟨_,ho,rfl⟩ PySem.F.entry_list_count (PySem.F.args_list_count_2 _ _)
  (SeqAt.list_countAt p its.toArray n dd sl u (eqU y)) ⟨ho,fun w hw=>mem_eqAt ru fy rv fys w (by simpa using hw),?_⟩
 have e:its.toArray.toList.countP (eqU y)=ys.countP fun z=>eqV z y:=kK rv fys
 refine⟨.int (ys.countP fun z=>eqV z y:Nat),H,I.tok _,⟨s.toks,?_⟩,q⟩
 show Value.int ((its.toArray.toList.countP (eqU y):Nat):Int) s.toks=_
 rw[e]
theorem we {B:Bk} {G:Hp} {x:D} {v:V} (h:Fz B G v x) (f:x.flat=true):∀{ds:List D} {us:List V},FzL B G us ds→ds.all D.flat=true→(us.countP fun z=>eqV z v)=ds.countP fun y=>y.eqf x
 |[],[],_,_=>rfl
 |[],_::_,h,_=>by rw[FzL]at h; exact h.elim
 |_::_,[],h,_=>by rw[FzL]at h; exact h.elim
 |d::ds,u::us,h1,f1=>by
  rw[FzL]at h1
  rw[List.all_cons,Bool.and_eq_true]at f1
  rw[List.countP_cons,List.countP_cons,NB h1.1 h f1.1 f,we h f h1.2 f1.2]
theorem a_ {B:Bk} {G H:Hp} {u:V} {x:D} (h:Tz B G H u x) (f:x.flat=true):Fz B G u x:=by
 cases x<;>first|exact h|cases f
def wX (ds:List (Key×D)):List (Key×D)→List (Key×D)
 |[]=>ds
 |p::r=>wX (JT ds p.1 p.2) r
def kG:List (Str×(AK))→List (Key×D)→List S→Res (List (Key×D))
 |[],acc,ρ=>.ok acc ρ
 |(k,f)::r,acc,ρ=>(f ρ).bind fun v ρ1=>match keep1 v ρ1 with
  |some (x,ρ2)=>kG r (acc++[(.inr k,x)]) ρ2
  |none=>.no
def su (ps:List (Str×(AK))):AK:=fun ρ=>(kG ps [] ρ).bind fun kvs ρ1=>if kvs.length≤15 then .ok (.fr (.dct (wX [] kvs))) ρ1 else .no
theorem rp {us r:List (Key×V)} {p:Key×V}:mergeK us (p::r)=mergeK (putK us p.1 p.2) r:=rfl
theorem B8 {B:Bk} {G:Hp}:∀{more:List (Key×V)} {ms:List (Key×D)} {us:List (Key×V)} {ds:List (Key×D)},FzK B G more ms→FzK B G us ds→FzK B G (mergeK us more) (wX ds ms)
 |[],[],_,_,_,h=>h
 |[],_::_,_,_,h,_=>by rw[FzK]at h; exact h.elim
 |_::_,[],_,_,h,_=>by rw[FzK]at h; exact h.elim
 |u::us,d::ds,xs,ys,h,h'=>by
  rw[FzK]at h
  rw[rp,wX,←h.1]
  exact B8 h.2.2 (FzK.put h.2.1 h')
def a6 (B:Bk) (W:WX') (ps:List (Str×(AK))):List (TE×TE):=ps.map fun p=>(jb B W (aK (.str p.1)),jb B W p.2)
theorem UA {B:Bk} {W:WX'}:∀{ps:List (Str×(AK))} {σ:St} {H:Hp} {Q Q':List (V×V)→Hp→Prop},(∀zs H,Q zs H→Q' zs H)→tPairs (a6 B W ps) σ H Q→tPairs (a6 B W ps) σ H Q'
 |[],_,_,_,_,w,h=>w _ _ h
 |(k,f)::r,σ,H,Q,Q',w,h=>yr (show jb B W (aK (.str k)) σ H _ from h) fun x H1 h1=>yr (show jb B W f σ H1 _ from h1) fun y H2 h2=>UA (ps:=r) (fun zs H3 h3=>w _ _ h3) h2
theorem FzK.mono' {B:Bk} {G G':Hp} (s:Same G G') {us:List (Key×V)} {ds:List (Key×D)} (h:FzK B G us ds):FzK B G' us ds:=FzK.mono s ds us h
def Ly (r:List (Str×(AK))) (acc:List (Key×D)) (key:Str) (k:List (Key×D)→AK) (v:E) (ρ1:List S):Res E:=match keep1 v ρ1 with
 |some (x,ρ2)=>(kG r (acc++[((Sum.inr key:Key),x)]) ρ2).bind k
 |none=>.no
theorem bp {B:Bk} {W:WX'} {σ:St} {ρ0:List S} {H0 G0:Hp} {Φ:Res E→Prop} {k:List (Key×D)→AK} {p:Addr} (cl:Cl B W σ ρ0 H0 G0 Φ) (h0:H0 p=none) :
  ∀(ps:List (Str×(AK))) (acc:List (Key×D)) (accV:List (Key×V)) (ρ:List S) (H G:Hp),Post B σ ρ0 H0 G0 σ ρ H G→H p=some (.dK [])→G p=none→(∀j,¬Own σ ρ j p)→FzK B G accV acc→
   Φ ((kG ps acc ρ).bind k)→tPairs (a6 B W ps) σ H fun zs H2=>∃kv2 ρ2 G2 all,Post B σ ρ0 H0 G0 σ ρ2 H2 G2∧H2 p=some (.dK [])∧G2 p=none∧(∀j,¬Own σ ρ2 j p)∧FzK B G2 (accV++kv2) all∧zs=kv2.map (fun kv=>(kV kv.1,kv.2))∧Φ (k all ρ2)
 |[],acc,accV,ρ,H,G,P,hp,gp,np,f,h=>⟨[],ρ,G,acc,P,hp,gp,np,by rw[A6]; exact f,rfl,h⟩
 |(key,g)::r,acc,accV,ρ,H,G,P,hp,gp,np,f,h=>by
  have c1:=cl.step P
  have h:Φ ((g ρ).bind fun v ρ1=>Ly r acc key k v ρ1):=by
   rw[kG,BZ]at h
   refine Eq.mp (congrArg (fun z=>Φ ((g ρ).bind z)) ?_) h
   funext v ρ1
   unfold Ly
   cases keep1 v ρ1 with
   |none=>rfl
   |some p=>rfl
  refine⟨G,ρ,P.rel,fun x H1 G1 p1 re1 fr1=>?_⟩
  have ex:x=.str key:=by
   have re1:Fz B G1 x (.str key):=re1
   rw[Fz]at re1; exact re1
  have P1:Pend B σ ρ H G ρ H1 G1 [x] [.d (.str key)]:=Pend.one p1 P.rel re1 trivial
  refine yr (Z_ P1 c1 h) fun y H2 ⟨v,ρ2,G2,P2,h2⟩=>?_
  unfold Ly at h2
  split at h2
  ·rename_i xd ρ3 hk
   obtain⟨G3,P3,f3,s3⟩:=Pend.keep1 (us:=[]) (vs:=[]) (Pend.tail (us:=[y]) (vs:=[v]) P2) hk
   have Q3:=P3.post
   have hp3:H2 p=some (.dK []):=Q3.frame p _ hp gu np
   have gp3:G3 p=none:=Q3.keep p _ hp gu gp np
   have np3:∀j,¬Own σ ρ3 j p:=Q3.notown hp np
   have f4:FzK B G3 (accV++[((Sum.inr key:Key),y)]) (acc++[((Sum.inr key:Key),xd)]):=B6 (FzK.mono' Q3.grow f) (by rw[FzK]; exact⟨rfl,f3,by rw[FzK]; trivial⟩)
   refine UA ?_ (bp cl h0 r _ _ ρ3 H2 G3 (P.trans Q3) hp3 gp3 np3 f4 h2)
   rintro zs H4 ⟨kv2,ρ4,G4,all,P4,hp4,gp4,np4,f5,ez,h4⟩
   refine⟨((Sum.inr key:Key),y)::kv2,ρ4,G4,all,P4,hp4,gp4,np4,by simpa using f5,?_,h4⟩
   rw[ez,ex]
   rfl
  ·exact(cl.no h2).elim
theorem OG {X:Cx} {W:WX'} {pos:Pos} {keys:List (Option Expr)} {values:List Expr} {ps:List (Str×(AK))} (h:PPs X pos keys values (a6 X.bk W ps)) (hall:keys.all (·.isSome)=true:=by rfl) (hl:keys.length=values.length:=by rfl) (h0:keys≠[]:=by exact List.cons_ne_nil _ _)
  (h15:keys.length≤15:=by decide):PEa X W (.Dict keys values pos) (su ps):=
 xv (pe_disp h hall hl h0 h15) fun σ H Q ⟨G,ρ,r,h⟩=>by
  intro p hp
  have gp:G p=none:=Same.free r.sub hp
  have np:∀j,¬Own σ ρ j p:=fun j w=>by
   obtain⟨ho,e3,_⟩:=r.obj w
   rw[hp]at e3; cases e3
  refine UA ?_ (bp (Aft.cl (Q:=Q)) hp ps [] [] ρ _ G ((Post.refl r).poke r.tab hp gp np) upd_same gp np (by rw[FzK]; trivial) h)
  rintro zs H2 ⟨kv2,ρ2,G2,all,P,hp2,gp2,np2,f,ez,h2⟩
  refine⟨hp2,kv2,ez,?_⟩
  split at h2
  ·rename_i hz
   have f':FzK X.bk G2 kv2 all:=f
   refine⟨by rw[f'.length]; exact hz,?_⟩
   refine h2 (.ref p) _ G2 (P.poke r.tab hp gp2 np2) ⟨p,_,rfl,upd_same,gp2,⟨_,rfl,B8 f' (by rw[FzK]; trivial)⟩,np2⟩ fun a e=>by cases e; exact hp
  ·exact h2.elim
open Sem (wp)
theorem tQ {v:Value} {o:Obj} {H:Heap→Prop} (B:Begins v o H) :
  Meets (Builtin.«enumerate.__new__» ⟨[.type "enumerate",v],[]⟩) (fun _ R s=>H s.heap∧
   R (.ok (.ret (.ref (s.heap.push o).objs.size))) { s with heap:=(s.heap.push o).push { cls:=.type "enumerate",data:=.fields #[.none,.bool false,.ref s.heap.objs.size,rawInt 0,.none,.none] } }):=by
 refine .of_wp fun prog w A R s h=>?_
 obtain⟨hp,gs,dr,tk,os⟩:=s
 obtain⟨h1,h⟩:=h
 have hsub:=sub_enumerate
 have it:∀{A':Around} {E:Value→Shared→Prop} {Q:Value→Shared→Prop},Q (.ref hp.objs.size) ⟨hp.push o,gs,dr,tk,os⟩→wpAny (model prog w) A' (pyIter v) Q E ⟨hp,gs,dr,tk,os⟩:=by
  intro A' E Q q
  exact B.iter prog w _ _ ⟨hp,gs,dr,tk,os⟩ _ h1 q
 wp_walk using it
 refine wpAny_stack_any fun st=>wpAny_pure ?_
 split
 ·rename_i c _ _ _ _ _
  cases(c==Value.type "enumerate")<;>(wp_walk using it; exact⟨_,rfl,h⟩)
 ·wp_walk using it
  exact⟨_,rfl,h⟩
theorem eV {prog:Program} {w:World} {A:Around} {E:Value→Shared→Prop} {s:Shared} {v:Value} {o:Obj} {H:Heap→Prop} {Q:Value→Shared→Prop} (B:Begins v o H) (h1:H s.heap)
  (h:∀h',IsEnum h' (s.heap.objs.size+1) s.heap.objs.size 0 .none→h'.get? s.heap.objs.size=some o→(∀b u,s.heap.get? b=some u→h'.get? b=some u)→Q (.ref (s.heap.objs.size+1)) { s with heap:=h' }) :
  wpAny (model prog w) A (call (.type "enumerate") [v]) Q E s:=by
 refine callType_new F.called_enumerate (by decide) (F.typeCall_enumerate_1 _) (F.newCall_enumerate_1 _) (fun obj=>F.args_object_init_2 obj _) F.entry_enumerate_new (tQ B) ⟨h1,?_⟩
 have size1:(s.heap.push o).objs.size=s.heap.objs.size+1:=Heap.size_push ..
 show _∧_
 rw[size1]
 have made:IsEnum ((s.heap.push o).push { cls:=.type "enumerate",data:=.fields #[.none,.bool false,.ref s.heap.objs.size,rawInt 0,.none,.none] }) (s.heap.objs.size+1) s.heap.objs.size 0 .none:=by
  have q:=Heap.get?_push_size (s.heap.push o) (o:={ cls:=.type "enumerate",data:=.fields #[.none,.bool false,.ref s.heap.objs.size,rawInt 0,.none,.none] }) rfl
  rw[size1]at q
  exact q
 exact⟨⟨_,made,rfl⟩,h _ made (Heap.get?_push_of_some _ (Heap.get?_push_size _ B.free)) fun b u q=>Heap.get?_push_of_some _ (Heap.get?_push_of_some _ q)⟩
def OD (K:PySem.W.Frag) (a:Addr):It where
 go:=fun i H=>∃(xs:List V) (x:V),SqT K H a xs∧xs[i]?=some x
 yld:=fun i H v H'=>∃T x,v=.ref T∧H T=none∧H'=upd H T (.tup [.int (i:Nat),x])∧∀xs,SqT K H a xs→xs[i]?=some x
 stop:=fun i H=>∃xs:List V,SqT K H a xs∧xs.length=i
theorem nR {P:Program} {w:World} {K:PySem.W.Frag} {elts:List Expr} {kk:Nat} {tpos:Pos} (a e it:Addr) (hne:e≠it) (hea:a≠e) (hia:a≠it) :
  Turn P w K (.Tuple elts kk tpos) (OD K a) [e,it] e (fun i h=>(∃old,IsEnum h e it ((i:Nat):Int) old)∧h.IsTupleIter it a i) where
 mem:=by simp
 obj:=by
  rintro i h ⟨⟨old,he⟩,⟨o,ho,hc,hd⟩⟩ b hb
  have e':b=e∨b=it:=by simpa using hb
  rcases e' with rfl|rfl
  ·exact⟨_,he,fun v q=>nomatch q⟩
  ·exact⟨o,ho,fun v q=>by rw[hd]at q; cases q⟩
 keep:=by
  rintro i h h' ⟨⟨old,he⟩,hi⟩ k
  exact⟨⟨old,k e (by simp) _ he⟩,hi.at fun o q=>k it (by simp) o q⟩
 item:=by
  intro X hP hw hK hc i pins s σ H E I hf st hg
  subst hP hw hK
  obtain⟨⟨old,he⟩,hit⟩:=st
  obtain⟨xs,x,hq,hx⟩:=hg
  obtain⟨its,rv,p,hz⟩:=I.tuple hq
  have hlen:=rv.length
  have hlt:i<its.toArray.size:=by
   have:=(AQ.mp hx).1
   rw[BG]; omega
  have size_e:e<s.heap.objs.size:=Heap.lt_size he
  have size_it:it<s.heap.objs.size:=by
   obtain⟨_,q,_⟩:=hit
   exact Heap.lt_size q
  have D:=Draws.tuple (prog:=X.prog) (w:=X.w) (A:=X.A.in1) (show X.A.in1.handled=none from I.ok.hd hc) it a hia its.toArray
  refine wpAny_pyNext_enum_itemD D he ⟨hit,show s.heap.IsTuple a its.toArray from p⟩ hlt hne (by simp[hne,Ne.symm hea]) ?_
  intro u h1 tk hu out st1 hT hsz hk
  obtain⟨x',hx',ru⟩:∃x',xs[i]?=some x'∧RelV x' u:=by
   obtain⟨u',hu',ru⟩:=rv.get hx
   have hu:its.toArray[i]?=some u:=hu
   rw[List.getElem?_toArray,hu']at hu
   cases hu
   exact⟨x,hx,ru⟩
  rw[hx]at hx'
  cases hx'
  refine⟨_,rfl,wpAny_letOwnedTupleGo_enum (s:={ s with heap:=h1,toks:=tk+1 }) out fun h2 he2 sb=>?_⟩
  have hT2:h2.get? s.heap.objs.size=some { cls:=.type "tuple",data:=.seq #[.int i tk,u] }:=(sb.2 _ (Nat.ne_of_gt size_e)).trans hT
  have pair:ObjOk X.prog X.w (upd H s.heap.objs.size (.tup [.int (i:Nat),x])) h2 s.heap.objs.size (.tup [.int (i:Nat),x]):=
   ⟨by show 2≤sizeLine; decide,[.int i tk,u],.cons ⟨_,rfl⟩ (.cons ru .nil),⟨_,hT2,rfl,_,rfl⟩⟩
  have J:Inv X pins σ (upd H s.heap.objs.size (.tup [.int (i:Nat),x])) { s with heap:=h2,toks:=tk+1 }:=by
   refine I.turnedNew (ch:=[e,it]) (fun b ob hb q=>?_) hf (Nat.le_refl _) pair
   exact(sb.2 b (fun z=>hb (by simp[z]))).trans (hk b ob (fun z=>hb (by simp[z])) (fun z=>hb (by simp[z])) q)
  refine⟨.ref s.heap.objs.size,_,J,rfl,⟨_,x,rfl,I.hok.fresh (Nat.le_refl _),rfl,fun ys hy=>by rw[I.tuple_inj hy hq]; exact hx⟩,⟨⟨u,?_⟩,st1.1.at fun o q=>(sb.2 it (Ne.symm hne)).trans q⟩,fun b hb=>?_⟩
  ·have e1:((i+1:Nat):Int)=(i:Int)+1:=by omega
   rw[e1]
   exact he2
  ·have small:b<s.heap.objs.size:=by
    have e':b=e∨b=it:=by simpa using hb
    rcases e' with rfl|rfl
    ·exact size_e
    ·exact size_it
   rw[upd_ne (Be small)]
   exact(hf b hb).1
 done:=by
  intro X hP hw hK hc i pins s σ H E I hf st hg
  subst hP hw hK
  obtain⟨⟨old,he⟩,hit⟩:=st
  obtain⟨xs,hq,hx⟩:=hg
  obtain⟨its,rv,p,hz⟩:=I.tuple hq
  obtain⟨f0,f1,f2,f3,f4,f5⟩:=hf it (by simp)
  have hlen:=rv.length
  have D:=Draws.tuple (prog:=X.prog) (w:=X.w) (A:=X.A.in1) (show X.A.in1.handled=none from I.ok.hd hc) it a hia its.toArray
  have hi:its.toArray.size=i:=by rw[BG]; omega
  exact wpAny_pyNext_enum_endD D he (by rw[hi]; exact⟨hit,show s.heap.IsTuple a its.toArray from p⟩) fun h' eb=>⟨rfl,I.turned (t':=s.toks) (fun b o hb q=>eb b o hb q) f0 f1 f3 f4 f5⟩
 self:=by
  rintro A i s Q E ⟨⟨_,he⟩,_⟩ h
  exact wpAny_pyIter_enum he h
def O0 (K:PySem.W.Frag) (ta:TA):TI:=fun σ H R=>ta σ H fun vs H1=>∃a xs,vs=[.ref a]∧SqT K H1 a xs∧R (OD K a) H1
theorem K7 {X:Cx} {e:Expr} {ta:TA} {p pos tpos:Pos} {elts:List Expr} {kk:Nat} (hg:Gl X "enumerate") (hm:X.mg "enumerate"=none) (ha:PA X [e] ta) (hs:starEach [e] X.env=[(false,eval e X.env)]:=by rfl) :
  PI X (.Tuple elts kk tpos) (.Call (.Name "enumerate" p) [e] [] pos) (O0 X.K ta):=by
 constructor
 intro pins s σ H R I h
 refine Call_ (ld_blt I hg hm boot_enumerate (PyProof.Rows.callWith_type1 (thn (ha.run pos pins s σ H _ I h) ?_) hs rfl))
 rintro us s1 ⟨vs,H1,I1,r1,a,xs,rfl,hq,q⟩
 cases r1 with
 |cons r rr=>
  cases rr
  cases r
  obtain⟨its,rv,p',hz⟩:=I1.tuple hq
  have tup:s1.heap.IsTuple a its.toArray:=p'
  have size_a:a<s1.heap.objs.size:=by
   obtain⟨o,q,_⟩:=tup
   exact Heap.lt_size q
  refine eV (begins_tuple a its.toArray) tup fun h' he ho hk=>wpAny_pyIter_enum he ?_
  have J:Inv X pins σ H1 { s1 with heap:=h' }:=I1.kept (t':=s1.toks) hk
  refine⟨s1.heap.objs.size+1,[s1.heap.objs.size+1,s1.heap.objs.size],_,_,H1,rfl,J,nR a (s1.heap.objs.size+1) s1.heap.objs.size (Nat.succ_ne_self _) (Be (BH size_a)) (Be size_a),⟨⟨.none,he⟩,⟨_,ho,rfl,rfl⟩⟩,fun b hb=>?_,q⟩
  have e':b=s1.heap.objs.size+1∨b=s1.heap.objs.size:=by simpa using hb
  have old:s1.heap.objs.size≤b:=by
   rcases e' with z|z
   ·rw[z]; exact Nat.le_add_right _ _
   ·rw[z]; exact Nat.le_refl _
  exact I1.fpOk old (I1.hok.fresh old)
section
variable {B:Bk} {G:Hp}
theorem lL {a:Addr} {us:List V} {xs:List D} (h:SqT B.K G a us) (f:FzL B G us xs):WalksD B (OD B.K a) G (YK xs):=by
 have hl:=f.length
 have hl':(YK xs).length=xs.length:=by unfold YK; simp
 refine⟨fun i H G' hi s1 s2=>?_,fun H G' s1 s2=>?_,fun i H G' v H' hi s1 s2 y=>?_⟩
 ·have hi':i<us.length:=by omega
  exact⟨us,us[i],BY s2 (BY s1 h),by simp[hi']⟩
 ·exact⟨us,BY s2 (BY s1 h),by omega⟩
 ·obtain⟨T,q,rfl,hT,rfl,e2⟩:=y
  obtain⟨x,e3,f1⟩:=f.get' (e2 us (BY s2 (BY s1 h)))
  exact⟨.wt [.int i,x],_,by unfold YK; rw[List.getElem?_mapIdx,e3]; rfl,.wt s2 hT (.cons (xu _) (.one (Fz.mono s1 _ _ f1)))⟩
end
def QQ (fs:List S→Res (List E)):List S→Res (List D):=fun ρ=>(fs ρ).nn.bind fun vs ρ1=>match vs with
 |[v]=>match keep1 v ρ1 with
  |some (.lst xs,ρ2)=>.ok (YK xs) ρ2
  |some (.tup xs,ρ2)=>.ok (YK xs) ρ2
  |_=>.no
 |_=>.no
theorem b_ {X:Cx} {W:WX'} {fs:List S→Res (List E)} {p pos:Pos} {a:Expr} {elts:List Expr} {kk:Nat} {tpos:Pos} (hg:Gl X "enumerate") (hm:X.mg "enumerate"=none) (ha:PAa X W [a] fs) (hs:starEach [a] X.env=[(false,eval a X.env)]:=by rfl):PIa X W (.Tuple elts kk tpos) (.Call (.Name "enumerate" p) [a] [] pos) (QQ fs):=
 cC (aE (pi_enum hg hm ha hs) (K7 hg hm ha hs)) fun σ H R ⟨G,ρ,r,h⟩=>by
  unfold QQ at h
  cases ef:fs ρ with
  |no=>rw[ef]at h; exact h.elim
  |new τ k=>rw[ef]at h; exact h.elim
  |ex x ρ'=>rw[ef]at h; exact .inl ⟨G,ρ,r,by rw[ef]; exact h⟩
  |ok vs ρ1=>
   rw[ef,Res.nn_ok,Res.bind_ok]at h
   split at h
   ·rename_i v
    split at h
    ·rename_i xs ρ2 hk
     refine .inl ⟨G,ρ,r,?_⟩
     rw[ef]
     intro us H' G' P
     have hl:=P.len
     match us,hl,P with
     |[w],_,P=>
      obtain⟨G2,p2,f2,_⟩:=P.keep1 hk
      rw[Fz]at f2
      obtain⟨a,us,rfl,q1,q2⟩:=f2
      exact⟨a,us,rfl,SqL.of (p2.post.rel.sub _ _ q1),h _ _ _ p2.post (n_ q1 q2)⟩
    ·rename_i xs ρ2 hk
     refine .inr ⟨G,ρ,r,?_⟩
     rw[ef]
     intro us H' G' P
     have hl:=P.len
     match us,hl,P with
     |[w],_,P=>
      obtain⟨G2,p2,f2,_⟩:=P.keep1 hk
      rw[Fz]at f2
      obtain⟨a,us,rfl,q1,q2,_⟩:=f2
      exact⟨a,us,rfl,BY p2.post.rel.sub q1,h _ _ _ p2.post (lL q1 q2)⟩
    ·exact h.elim
   ·exact h.elim
end L2.AL
namespace L2.AL
open PySem PySem.Spec PyProof.Rows
structure DefOk (P:Program) (w:World) (K:PySem.W.Frag) (mg:Str→Option Value) (base:Heap) (x:Str) (par:List Str) (n:Nat) (F:AK):Prop where
 ex:∃(a:Addr) (fd:FuncData),mg x=some (.ref a)∧PySem.W.keepIn K (.ref a)=true∧Binds K fd par []∧KwB K fd par par∧FnG P w K mg base CX0 n a fd par F
 len:Len F par.length
theorem yA {K:PySem.W.Frag} {x qual:Str} {st:Stmt} {a:Addr} {fd:FuncData} {par:List Str} (F:Fun K x qual st a fd)
  (h:∀(kV doc pm:Value) (an:Option Addr) (cdv ct:Value) (zs:List Value),zs.length=par.length→bindArgs (PySem.W.fnOf x qual (defArgs st) (defBody st) (defScope st) .none kV doc pm an cdv ct) ⟨[],par.zip zs⟩=pure (par.zip zs)):KwB K fd par par:=by
 obtain⟨oc,od,kV,doc,pm,an,cdv,ct,osl,rfl,lk,hcd⟩:=F.ex
 exact fun s zs _ hl=>.of_eq (h kV doc pm an cdv ct zs hl)
section
variable {P:Program} {w:World} {K:PySem.W.Frag} {mg:Str→Option Value} {base:Heap} {n:Nat} {a:Addr} {x qual:Str} {st:Stmt} {N par:List Str} {fd:FuncData}
theorem FnG.ofN {f:AJ} (F:Fun K x qual st a fd) (S:FnScope N par (defScope st)) (np nl:Nat) (hnp:par.length=np) (hnl:N.length - np=nl)
  (hbody:∀(cd:Value) (A:Around) (up:List Env) (s0:Shared) (H:Hp) (Ex:XK),(A.deeper (envOfC qual (defScope st) s0.heap.objs.size a cd)).guards=some []→Room n (A.deeper (envOfC qual (defScope st) s0.heap.objs.size a cd))→
    kF (cxOf CX0 P w K mg base N qual (defScope st) a cd A up s0 H Ex).nox (fun cls d _ H=>Ex cls d H) (List.range np) (defBody st) f) :
  FnG P w K mg base CX0 (n+1) a fd par (zJ np nl f):=
 FnG.of F S np nl hnp hnl fun cd A up s0 H Ex hg hr=>(hbody cd A up s0 H Ex hg hr).nox
theorem K0 {X:Cx} {W:WX'}:dw CX0 X W:=fun _ _ _ _ _ _ _ z=>z.elim
end
section
variable {X:Cx} {W:WX'} {x:Str} {p pos:Pos} {par:List Str} {m n:Nat} {F:AK} {fs:List S→Res (List E)} {e:Expr} {es:List Expr} {kws:List Keyword}
structure Rm (A:Around) (n:Nat):Prop where
 g:A.guards=some []
 r:Room n A
theorem Rm.u {A:Around} (r:Rm A n):A.units+64<cLine:=r.r.units
theorem Rm.u65 {A:Around} (r:Rm A n):A.units+65<cLine:=by have:=r.r.un; omega
theorem yy (D:DefOk X.prog X.w X.K X.mg X.base x par m F) (r:Rm X.A n) (hmn:m≤n) (ha:PAa X W (e::es) fs) (hg:Gl X x:=by rfl) (hdb:(x==("__debug__":Str))=false:=by decide) (he:starEach (e::es) X.env=(false,eval e X.env)::starEach es X.env:=by rfl) (hpl:(backTo pos (starEach es X.env)).any (·.1)=false:=by rfl) :
  PEa X W (.Call (.Name x p) (e::es) [] pos) (aFn F fs):=by
 obtain⟨a,fd,hm,hk,hb,_,hF⟩:=D.ex
 exact Ri (hF.mono hmn) D.len r.g r.r K0 hm hk hb ha hg hdb he hpl
theorem Rp (D:DefOk X.prog X.w X.K X.mg X.base x par m F) (r:Rm X.A n) (hmn:m≤n) (ha:PKa X W kws fs) (hall:(backToKw pos (keywordEach kws X.env)).all (·.1.isSome)=true:=by rfl) (hks:(backToKw pos (keywordEach kws X.env)).filterMap (·.1)=par:=by rfl)
  (hg:Gl X x:=by rfl) (hdb:(x==("__debug__":Str))=false:=by decide) (hpl:((backTo pos (starEach [] X.env)).any (·.1)||(backToKw pos (keywordEach kws X.env)).any (·.1.isNone))=false:=by rfl) :
  PEa X W (.Call (.Name x p) [] kws pos) (aFn F fs):=by
 obtain⟨a,fd,hm,hk,_,hb,hF⟩:=D.ex
 exact Nv (hF.mono hmn) D.len r.g r.r K0 hm hk hb ha hall hks hg hdb hpl
theorem eI {T:String} (hm:X.mg x=none) (hv:bootBuiltins x=some (.type T)) (hg:Gl X x:=by rfl) (hn:x≠"__name__":=by decide) (hd:(x==("__debug__":Str))=false:=by decide):PEa X W (.Name x pos) (aK (.ty T)):=
 Vs (pe_bltn (v:=.ty T) hg hm hv rfl hn hd) fun G=>by rw[Fz]
theorem RA {B:Bk} {x:Str} {a:Addr} (h:B.mg x=some (.ref a)):GC B x (.fn x):=⟨_,.ref a,h,rfl,fun G=>by rw[Fz]; exact⟨a,rfl,h⟩⟩
end
def okT (t:Tg) (vs:List Nat):Bool:=t.names.all fun j=>vs.contains j
theorem yF {t:Tg} {vs:List Nat} (h:okT t vs=true):∀j,j∈t.names→j∈vs:=fun j hj=>by
 have:=AP.mp h j hj
 simpa using this
def ST (t:Tg) (P:List Nat):Bool:=t.names.all fun j=>!P.contains j
theorem jZ {t:Tg} {P:List Nat} (h:ST t P=true):∀j,j∈t.names→j∉P:=fun j hj=>by
 have:=AP.mp h j hj
 simpa using this
def dk (xs ys:List D):List D:=(xs.zip ys).map fun p=>.wt [p.1,p.2]
section
variable {B:Bk} {G:Hp}
theorem lO {xs ys:List D}:(dk xs ys).length=min xs.length ys.length:=by unfold dk; simp
theorem lN {xs ys:List D} {i:Nat} {x y:D} (h:xs[i]?=some x) (h':ys[i]?=some y):(dk xs ys)[i]?=some (.wt [x,y]):=by
 unfold dk
 have e:(xs.zip ys)[i]?=some (x,y):=List.getElem?_zip_eq_some.mpr ⟨h,h'⟩
 rw[List.getElem?_map,e]
 rfl
theorem hO {a b:Addr} {us ws:List V} {xs ys:List D} (h:G a=some (.lst us)) (f:FzL B G us xs) (h':G b=some (.lst ws)) (f':FzL B G ws ys):WalksD B (Itz B.K a b) G (dk xs ys):=by
 have l1:=f.length
 have l2:=f'.length
 have wz:=walk_zip (K:=B.K) (a:=a) (b:=b) (xs:=us) (ys:=ws) (n:=(dk xs ys).length) (by rw[lO,l1,l2])
 have rd:∀{G' H:Hp},Same G G'→Same G' H→SqL B.K H a us∧SqL B.K H b ws:=fun s1 s2=>⟨SqL.of (s2 _ _ (s1 _ _ h)),SqL.of (s2 _ _ (s1 _ _ h'))⟩
 refine⟨fun i H G' hi s1 s2=>wz.goes i H hi (rd s1 s2),fun H G' s1 s2=>wz.stops H (rd s1 s2),fun i H G' v H' hi s1 s2 y=>?_⟩
 obtain⟨T,p,q,rfl,hT,rfl,e1,e2⟩:=wz.yields i H v H' hi (rd s1 s2) y
 obtain⟨x,e3,f3⟩:=f.get' e1
 obtain⟨z,e4,f4⟩:=f'.get' e2
 exact⟨_,_,lN e3 e4,.wt s2 hT (.cons (Fz.mono s1 _ _ f3) (.one (Fz.mono s1 _ _ f4)))⟩
theorem hU {a b:Addr} {us ws:List V} {xs ys:List D} (h:SqT B.K G a us) (f:FzL B G us xs) (h':SqT B.K G b ws) (f':FzL B G ws ys):WalksD B (RZ.ItzT B.K a b) G (dk xs ys):=by
 have l1:=f.length
 have l2:=f'.length
 have ll:=lO (xs:=xs) (ys:=ys)
 have rd:∀{G' H:Hp},Same G G'→Same G' H→SqT B.K H a us∧SqT B.K H b ws:=fun s1 s2=>⟨BY s2 (BY s1 h),BY s2 (BY s1 h')⟩
 refine⟨fun i H G' hi s1 s2=>?_,fun H G' s1 s2=>?_,fun i H G' v H' hi s1 s2 y=>?_⟩
 ·have i1:i<us.length:=by omega
  have i2:i<ws.length:=by omega
  exact⟨us,ws,us[i],ws[i],(rd s1 s2).1,(rd s1 s2).2,by simp[i1],by simp[i2]⟩
 ·exact⟨us,ws,(rd s1 s2).1,(rd s1 s2).2,by omega⟩
 ·obtain⟨T,p,q,rfl,hT,rfl,e1,e2⟩:=y
  obtain⟨x,e3,f3⟩:=f.get' (e1 us (rd s1 s2).1)
  obtain⟨z,e4,f4⟩:=f'.get' (e2 ws (rd s1 s2).2)
  exact⟨_,_,lN e3 e4,.wt s2 hT (.cons (Fz.mono s1 _ _ f3) (.one (Fz.mono s1 _ _ f4)))⟩
end
def LW (fs:List S→Res (List E)):List S→Res (List D):=fun ρ=>(fs ρ).bind fun vs ρ1=>match keepL vs ρ1 with
 |some ([.lst xs,.lst ys],ρ2)=>.ok (dk xs ys) ρ2
 |some ([.tup xs,.tup ys],ρ2)=>.ok (dk xs ys) ρ2
 |_=>.no
theorem RF {X:Cx} {W:WX'} {fs:List S→Res (List E)} {p pos:Pos} {a b:Expr} {elts:List Expr} {kk:Nat} {tpos:Pos} (hg:Gl X "zip") (hm:X.mg "zip"=none) (ha:PAa X W [a,b] fs) (hs:starEach [a,b] X.env=(false,eval a X.env)::starEach [b] X.env:=by rfl)
  (hpl:(backTo pos (starEach [b] X.env)).any (·.1)=false:=by rfl):PIa X W (.Tuple elts kk tpos) (.Call (.Name "zip" p) [a,b] [] pos) (LW fs):=
 cC (RZ.pi_zipA hg hm ha hs hpl) fun σ H R ⟨G,ρ,r,h⟩=>by
  refine yY (xt r (AftI.cl (R:=R)) h) fun us H1 ⟨vs,ρ1,G1,P,h1⟩=>?_
  split at h1
  ·rename_i xs ys ρ2 hk
   obtain⟨G2,p2,f2,_⟩:=P.keepL hk
   match us,f2 with
   |[u,w],f2=>
    rw[FzL,FzL]at f2
    obtain⟨f3,f4,_⟩:=f2
    rw[Fz]at f3 f4
    obtain⟨a1,w1,rfl,q1,r1⟩:=f3
    obtain⟨a2,w2,rfl,q2,r2⟩:=f4
    exact⟨a1,a2,w1,w2,rfl,.inl ⟨SqL.of (p2.rel.sub _ _ q1),SqL.of (p2.rel.sub _ _ q2),h1 _ _ _ p2 (hO q1 r1 q2 r2)⟩⟩
   |[],f2=>rw[FzL]at f2; exact f2.elim
   |[_],f2=>rw[FzL,FzL]at f2; exact f2.2.elim
   |_::_::_::_,f2=>rw[FzL,FzL,FzL]at f2; exact f2.2.2.elim
  ·rename_i xs ys ρ2 hk
   obtain⟨G2,p2,f2,_⟩:=P.keepL hk
   match us,f2 with
   |[u,w],f2=>
    rw[FzL,FzL]at f2
    obtain⟨f3,f4,_⟩:=f2
    rw[Fz]at f3 f4
    obtain⟨a1,w1,rfl,q1,r1,_⟩:=f3
    obtain⟨a2,w2,rfl,q2,r2,_⟩:=f4
    exact⟨a1,a2,w1,w2,rfl,.inr ⟨BY p2.rel.sub q1,BY p2.rel.sub q2,h1 _ _ _ p2 (hU q1 r1 q2 r2)⟩⟩
   |[],f2=>rw[FzL]at f2; exact f2.elim
   |[_],f2=>rw[FzL,FzL]at f2; exact f2.2.elim
   |_::_::_::_,f2=>rw[FzL,FzL,FzL]at f2; exact f2.2.2.elim
  ·exact h1.elim
def Re (B:Bk) (g:D→Option E) (r:V→Hp→VK→Prop):Prop:=
 ∀(x:D) (v:E) (a:V) (G H:Hp) (Q:VK),g x=some v→Same G H→Tz B G H a x→(∀u H' G',New B G H u v H' G'→Q u H')→r a H Q
def LV (g:D→Option E) (fa:AK):AK:=fun ρ=>(fa ρ).bind fun va ρ1=>match (va.val ρ1).bind g with
 |some v=>.ok v ρ1
 |none=>.no
theorem MW {B:Bk} {W:WX'} {g:D→Option E} {fa:AK} {r:V→Hp→VK→Prop} (sn:Re B g r) (σ:St) (H:Hp) (Q:VK) (h:jb B W (LV g fa) σ H Q):tUn r (jb B W fa) σ H Q:=by
 obtain⟨G,ρ,rl,h⟩:=h
 refine yr (yx rl (Aft.cl (Q:=Q)) h) fun u1 H1 ⟨va,ρa,Ga,P1,h1⟩=>?_
 obtain⟨x1,ex1,rx1⟩:=P1.re 0 va rfl
 cases ex1
 split at h1
 ·rename_i v hv
  obtain⟨d,e1,e2⟩:=Bc.mp hv
  exact sn d v _ Ga H1 Q e2 P1.post.rel.sub (P1.post.rel.val rx1 e1) fun w H' G' n=>h1.fin P1.post n
 ·exact h1.elim
def t6:D→Option E
 | .int i=>some (zN (-i))
 |_=>none
theorem MP {B:Bk}:Re B t6 (rU fun i=>.int (-i)):=by
 intro x v a G H Q e s hx q
 cases x<;>simp[t6]at e
 subst e
 exact⟨_,y0 hx,q _ _ _ (.scalar s (xu _))⟩
theorem Rj {X:Cx} {W:WX'} {a:Expr} {fa:AK} {pos:Pos} (ha:PEa X W a fa):PEa X W (.UnaryOp .USub a pos) (LV t6 fa):=xv (pe_un un_neg ha) (MW MP)
def jn:O→List D→Option (D×O)
 | .lst xs,[.lst ys]=>if xs.length+ys.length≤sizeLine then some (.non,.lst (xs++ys))else none
 |_,_=>none
theorem jt {B:Bk}:eE B jn rExtend:=by
 intro o xs y o' a ho us G H Q e s hH gn ro f q
 unfold jn at e
 split at e
 ·rename_i xs ys
  split at e
  ·rename_i hz
   cases e
   obtain⟨zs,rfl,f1⟩:=ro
   match us,f with
   |[w],f=>
    rw[FzL,Fz]at f
    obtain⟨⟨b,ws,rfl,h1,h2⟩,_⟩:=f
    exact⟨a,b,zs,ws,rfl,rfl,hH,s _ _ h1,by rw[f1.length,h2.length]; exact hz,q _ _ wN ⟨_,rfl,f1.append h2⟩⟩
   |[],f=>rw[FzL]at f; exact f.elim
   |_::_::_,f=>rw[FzL,FzL]at f; exact f.2.elim
  ·cases e
 ·cases e
def VJ (g h:List D→Option E):List D→Option E:=fun xs=>match g xs with
 |some v=>some v
 |none=>h xs
theorem SndL.or {B:Bk} {g h:List D→Option E} {r r':List V→Hp→VK→Prop} (a:SndL B g r) (b:SndL B h r'):SndL B (VJ g h) (fun xs H Q=>r xs H Q∨r' xs H Q):=by
 intro xs v us G H Q e s hx q
 unfold VJ at e
 split at e
 ·rename_i w hw
  cases e
  exact .inl (a xs v us G H Q hw s hx q)
 ·exact .inr (b xs v us G H Q e s hx q)
def SQ:List Int→Option Int
 |[]=>none
 |n::r=>some (r.foldl max n)
def SR:List Int→Option Int
 |[]=>none
 |n::r=>some (r.foldl min n)
theorem oj (r:List Int):∀n:Int,(n≤r.foldl max n∧∀y∈r,y≤r.foldl max n)∧(r.foldl max n=n∨r.foldl max n∈r):=by
 induction r with
 |nil=>intro n; simp
 |cons a r ih=>
  intro n
  obtain⟨⟨h1,h2⟩,h3⟩:=ih (max n a)
  rw[List.foldl_cons]
  refine⟨⟨by omega,fun y hy=>?_⟩,?_⟩
  ·rcases List.mem_cons.mp hy with rfl|hy
   ·omega
   ·exact h2 y hy
  ·rcases h3 with h3|h3
   ·rw[h3]
    by_cases h:a≤n
    ·left; omega
    ·right; rw[show max n a=a by omega]; exact AN
   ·exact .inr (List.mem_cons_of_mem _ h3)
theorem ol (r:List Int):∀n:Int,(r.foldl min n≤n∧∀y∈r,r.foldl min n≤y)∧(r.foldl min n=n∨r.foldl min n∈r):=by
 induction r with
 |nil=>intro n; simp
 |cons a r ih=>
  intro n
  obtain⟨⟨h1,h2⟩,h3⟩:=ih (min n a)
  rw[List.foldl_cons]
  refine⟨⟨by omega,fun y hy=>?_⟩,?_⟩
  ·rcases List.mem_cons.mp hy with rfl|hy
   ·omega
   ·exact h2 y hy
  ·rcases h3 with h3|h3
   ·rw[h3]
    by_cases h:n≤a
    ·left; omega
    ·right; rw[show min n a=a by omega]; exact AN
   ·exact .inr (List.mem_cons_of_mem _ h3)
def dR:List D→Option E
 |[.lst xs]=>(D.ints? xs).bind fun ns=>(SQ ns).map zN
 |_=>none
def wU:List D→Option E
 |[.lst xs]=>(D.ints? xs).bind fun ns=>(SR ns).map zN
 |_=>none
theorem KC {B:Bk}:SndL B dR (rMax B.K):=by
 intro xs v us G H Q e s hx q
 unfold dR at e
 split at e
 ·obtain⟨ns,e1,e2⟩:=Bc.mp e
  obtain⟨m,e3,rfl⟩:=AO.mp e2
  obtain⟨u,rfl,p,ws,rfl,h1,h2⟩:=jD hx
  rw[cf h2 e1]at h1
  cases ns with
  |nil=>cases e3
  |cons n r=>
   cases e3
   obtain⟨⟨f1,f2⟩,f3⟩:=oj r n
   refine⟨p,n::r,rfl,SqL.of h1,by simp,fun m hm hy=>?_⟩
   have:m=r.foldl max n:=by
    have a1:r.foldl max n≤m:=by
     rcases f3 with z|z
     ·rw[z]; exact hy n AN
     ·exact hy _ (List.mem_cons_of_mem _ z)
    have a2:m≤r.foldl max n:=by
     rcases List.mem_cons.mp hm with rfl|hm
     ·exact f1
     ·exact f2 m hm
    omega
   rw[this]
   exact q _ _ _ (.scalar s (xu _))
 ·cases e
theorem KH {B:Bk}:SndL B wU (rMin B.K):=by
 intro xs v us G H Q e s hx q
 unfold wU at e
 split at e
 ·obtain⟨ns,e1,e2⟩:=Bc.mp e
  obtain⟨m,e3,rfl⟩:=AO.mp e2
  obtain⟨u,rfl,p,ws,rfl,h1,h2⟩:=jD hx
  rw[cf h2 e1]at h1
  cases ns with
  |nil=>cases e3
  |cons n r=>
   cases e3
   obtain⟨⟨f1,f2⟩,f3⟩:=ol r n
   refine⟨p,n::r,rfl,SqL.of h1,by simp,fun m hm hy=>?_⟩
   have:m=r.foldl min n:=by
    have a1:m≤r.foldl min n:=by
     rcases f3 with z|z
     ·rw[z]; exact hy n AN
     ·exact hy _ (List.mem_cons_of_mem _ z)
    have a2:r.foldl min n≤m:=by
     rcases List.mem_cons.mp hm with rfl|hm
     ·exact f1
     ·exact f2 m hm
    omega
   rw[this]
   exact q _ _ _ (.scalar s (xu _))
 ·cases e
section
variable {X:Cx}
abbrev N4 (K:PySem.W.Frag):List V→Hp→VK→Prop:=fun xs H Q=>(∃i j,xs=[V.int i,V.int j]∧Q (.int (if j > i then j else i)) H)∨rMax K xs H Q
abbrev N6 (K:PySem.W.Frag):List V→Hp→VK→Prop:=fun xs H Q=>(∃i j,xs=[V.int i,V.int j]∧Q (.int (if j<i then j else i)) H)∨rMin K xs H Q
theorem eX (hc:X.calm=true):CallR X (.builtin "max") (N4 X.K):=(call_max2 hc).or (cr_max hc)
theorem eY (hc:X.calm=true):CallR X (.builtin "min") (N6 X.K):=(call_min2 hc).or (cr_min hc)
theorem KB {B:Bk}:SndL B (VJ oz dR) (N4 B.K):=max_snd.or KC
theorem KG {B:Bk}:SndL B (VJ pS wU) (N6 B.K):=min_snd.or KH
def Uq:List D→Option E
 |[.dd kvs]=>some (.fr (.lst (kvs.map (·.1))))
 |_=>none
theorem oQ {B:Bk}:SndL B Uq (nD B.w):=by
 intro xs v us G H Q e s hx q
 unfold Uq at e
 split at e
 ·cases e
  obtain⟨u,rfl,p,ob,es,rfl,h1,h2⟩:=jD hx
  exact⟨p,ob,es,rfl,h1,fun l hl=>q _ _ _ (.own s hl ⟨_,rfl,UY h2⟩)⟩
 ·cases e
abbrev Lh (K:PySem.W.Frag) (w:World):List V→Hp→VK→Prop:=fun xs H Q=>Lg K xs H Q∨nD w xs H Q
theorem wc (hc:X.calm=true):CallR X (.type "list") (Lh X.K X.w):=call_list_of.or (l9 hc)
theorem d8 {B:Bk}:SndL B (VJ wR Uq) (Lh B.K B.w):=list_snd.or oQ
end
def J7 {α:Type} (is:List Nat) (l:List α):List α:=is.filterMap fun i=>l[i]?
theorem VE {α:Type}:∀{is:List Nat} {l:List α} {k:Nat},(∀i∈is,i<l.length)→(J7 is l)[k]?=is[k]?.bind fun i=>l[i]?
 |[],_,_,_=>by simp[J7]
 |i::is,l,0,h=>by
  have hi:=h i AN
  simp[J7,hi]
 |i::is,l,k+1,h=>by
  have hi:=h i AN
  have:=VE (is:=is) (l:=l) (k:=k) fun j hj=>h j (List.mem_cons_of_mem _ hj)
  simpa[J7,hi]using this
theorem vt {α:Type}:∀{is:List Nat} {l:List α},(∀i∈is,i<l.length)→(J7 is l).length=is.length
 |[],_,_=>by simp[J7]
 |i::is,l,h=>by
  have hi:=h i AN
  have:=vt (is:=is) (l:=l) fun j hj=>h j (List.mem_cons_of_mem _ hj)
  simpa[J7,hi]using this
theorem Xs {α:Type} {is:List Nat} {l:List α} {k:Nat} {x:α} (h:∀i∈is,i<l.length) (e:(J7 is l)[k]?=some x):∃i,is[k]?=some i∧l[i]?=some x:=by
 rw[VE h]at e
 exact Bc.mp e
theorem Pend.perm {B:Bk} {σ:St} {ρ0 ρ:List S} {H0 G0 H G:Hp} {us:List V} {vs:List E} {is:List Nat} (p:Pend B σ ρ0 H0 G0 ρ H G us vs) (nd:is.Nodup) (h:∀i∈is,i<vs.length):Pend B σ ρ0 H0 G0 ρ H G (J7 is us) (J7 is vs):=by
 have h':∀i∈is,i<us.length:=fun i hi=>by rw[p.len]; exact h i hi
 refine⟨p.post,by rw[vt h',vt h],fun k v e=>?_,fun k o a e e'=>?_,fun k l o o' a e e' w w'=>?_⟩
 ·obtain⟨i,e1,e2⟩:=Xs h e
  obtain⟨u,e3,e4⟩:=p.re i v e2
  exact⟨u,by rw[VE h',e1]; exact e3,e4⟩
 ·obtain⟨i,e1,e2⟩:=Xs h e
  obtain⟨j,e3,e4⟩:=Xs h' e'
  rw[e1]at e3; cases e3
  exact p.new i o a e2 e4
 ·obtain⟨i,e1,e2⟩:=Xs h e
  obtain⟨j,e3,e4⟩:=Xs h e'
  obtain⟨i',e5,e6⟩:=Xs h' w
  obtain⟨j',e7,e8⟩:=Xs h' w'
  rw[e1]at e5; cases e5
  rw[e3]at e7; cases e7
  have:=p.apart i j o o' a e2 e4 e6 e8
  subst this
  have k1:k<is.length:=(AQ.mp e1).1
  have l1:l<is.length:=(AQ.mp e3).1
  exact(List.getElem?_inj k1 nd).mp (e1.trans e3.symm)
theorem FnG.none {P:Program} {w:World} {K:PySem.W.Frag} {mg:Str→Option Value} {base:Heap} {CX:CXT} {n:Nat} {a:Addr} {fd:FuncData} {par:List Str}:FnG P w K mg base CX n a fd par (fun _=>.no):=
 ⟨fun A up s0 H given zs us Q Ex hgd hr e0 hb rv hlen h=>by obtain⟨G,ρ,r,h⟩:=h; exact h.elim⟩
end L2.AL
namespace L2.AL
open PySem PySem.Spec PyProof.Rows L2
section
variable {Pr:Program} {wd:World} {K:Type} [DecidableEq K]
variable {kd:KeyKind Pr wd K}
def QD {K:Type} [DecidableEq K] (ks:List K):List K:=ks.foldl (fun acc k=>if k∈acc then acc else acc++[k]) []
theorem bj (ks:List K) (k:K):QD (ks++[k])=if k∈QD ks then QD ks else QD ks++[k]:=by
 unfold QD
 rw[List.foldl_append]
 rfl
theorem U8 (ks:List K) (k:K):k∈QD ks↔k∈ks:=by
 rw[←List.reverse_reverse ks]
 induction ks.reverse with
 |nil=>simp[QD]
 |cons x r ih=>
  rw[List.reverse_cons,bj]
  split
  ·rename_i h
   rw[ih,AW]
   constructor
   ·exact .inl
   ·rintro(z|z)
    ·exact z
    ·simp at z; subst z; exact ih.mp (by assumption)
  ·rw[AW,AW,ih]
theorem gz (ks:List K):(QD ks).Nodup:=by
 rw[←List.reverse_reverse ks]
 induction ks.reverse with
 |nil=>simp[QD]
 |cons x r ih=>
  rw[List.reverse_cons,bj]
  split
  ·exact ih
  ·rename_i h
   exact List.nodup_append.mpr ⟨ih,by simp,fun a ha b hb z=>by simp at hb; subst hb; exact h (z▸ha)⟩
abbrev qY (wd:World):Obj:={ cls:=.type "set",dict:=none,data:=.set #[] 0 (.fresh 0 0 (!wd.params.followText "set-order")) }
end
section
variable {X:Cx} {pins:List (Addr×Obj)} {σ:St} {H:Hp} {s:Shared} {Q:VK}
theorem nM (I:Inv X pins σ H s) (hu:X.A.units+64<cLine) {r:Addr} {Good:List (V×D)→Prop}
  (col:∀R:List Value→Shared→Prop,(∀s1 vs ps,(∀b o,s.heap.get? b=some o→s1.heap.get? b=some o)→s1.gens=s.gens→s1.os=s.os→Good ps→Vals (ps.map (·.1)) vs→R vs s1)→wpAny (model X.prog X.w) X.A.in1 (collect (.ref r)) R X.xe s)
  (hd:∀ps,Good ps→∀p∈ps,Dp X.K H p.1 p.2.pyd) (hok:∀ps,Good ps→xq (ps.map (·.2))=true) (hlen:∀ps,Good ps→ps.length≤sizeLine) (q:∀ps l,Good ps→H l=none→Q (.ref l) (upd H l (.lst ((YM ps).map (·.1))))) :
  wpAny (model X.prog X.w) X.A (call (.builtin "sorted") [.ref r]) (EP X pins σ Q) X.xe s:=by
 refine Calls.call_function_entry PyProof.Rows.kind_sorted PyProof.Rows.plain_sorted PyProof.Rows.entry_sorted (PyProof.Rows.args_sorted1 _) ?_
 unfold Builtin.«sorted»
 refine wpAny_bind (m:=checkCount "sorted" 1 1 _) (wpAny_pure ?_)
 refine wpAny_bind (col _ fun s1 vs ps hk hgens hos gd rv=>?_)
 have ok:=hok ps gd
 have hl:=hlen ps gd
 unfold xq at ok
 simp only[Bool.and_eq_true,Bx,AP,decide_eq_true_eq,AM,forall_exists_index,and_imp,forall_apply_eq_imp_iff₂]at ok
 obtain⟨⟨ok1,ok2⟩,ok3⟩:=ok
 have hvl:vs.length=ps.length:=by rw[←rv.length,List.length_map]
 have I1:Inv X pins σ H s1:=I.call' (ch:=[]) hos (Un.kept hk) (I.hok.kept hk) (by rw[hgens]; exact I.bare) (fun _ z=>nomatch z)
 refine wpAny_bind (wpAny_newList ?_ (by rw[hvl]; exact hl))
 have there:(s1.heap.push (seqObj "list" vs.toArray 0)).get? s1.heap.objs.size=some (seqObj "list" vs.toArray 0):=Heap.get?_push_size _ rfl
 have each:PySem.W.EachIs (fun(v:Value) (p:V×D)=>RelV p.1 v) vs ps:=by
  have go:∀(ps:List (V×D)) (vs:List Value),Vals (ps.map (·.1)) vs→PySem.W.EachIs (fun(v:Value) (p:V×D)=>RelV p.1 v) vs ps:=by
   intro ps
   induction ps with
   |nil=>intro vs rv; rw[List.map_nil]at rv; cases rv; exact .nil
   |cons p ps ih=>intro vs rv; rw[List.map_cons]at rv; cases rv with|cons r1 r2=>exact .cons r1 (ih _ r2)
  exact go ps vs rv
 have reads:PySem.W.EachIs (fun(v:Value) (p:V×D)=>∃as,Reads (s1.heap.push (seqObj "list" vs.toArray 0)) v p.2.pyd as∧s1.heap.objs.size∉as) vs ps:=by
  have go:∀{us:List Value} {qs:List (V×D)},PySem.W.EachIs (fun(v:Value) (p:V×D)=>RelV p.1 v) us qs→(∀p∈qs,p∈ps)→PySem.W.EachIs (fun(v:Value) (p:V×D)=>∃as,Reads (s1.heap.push (seqObj "list" vs.toArray 0)) v p.2.pyd as∧s1.heap.objs.size∉as) us qs:=by
   intro us qs e
   induction e with
   |nil=>intro _; exact .nil
   |cons h t ih=>
    intro sub
    refine .cons ?_ (ih fun p hp=>sub p (List.mem_cons_of_mem _ hp))
    obtain⟨as,ra⟩:=Dp.reads I1 _ _ _ (hd ps gd _ (sub _ AN)) h
    exact⟨as,PyProof.Rows.Reads.keeps (fun _ _ e=>Heap.get?_push_of_some _ e) ra,fun hm=>BF _ (gJ ra _ hm)⟩
  exact go each fun _ h=>h
 refine wpAny_bind (wpAny_holding (PySem.W.list_sort_data (s:={ s1 with heap:=s1.heap.push (seqObj "list" vs.toArray 0) }) (enc:=fun p:V×D=>p.2.pyd) there each reads ?_ ?_ hl ?_ fun out ho eo=>?_))
 ·intro d hd' e he'
  obtain⟨p,hp,rfl⟩:=AM.mp hd'
  obtain⟨p',hp',rfl⟩:=AM.mp he'
  exact ok2 p hp p' hp'
 ·rcases ok3 with h|h
  ·refine .inl fun d hd'=>?_
   obtain⟨p,hp,rfl⟩:=AM.mp hd'
   have:=h p hp
   unfold P8 at this
   split at this
   ·rename_i x r e; exact⟨x,r,e⟩
   ·cases this
  ·refine .inr fun d hd'=>?_
   obtain⟨p,hp,rfl⟩:=AM.mp hd'
   have:=h p hp
   unfold nq at this
   split at this
   ·cases this
   ·cases this
   ·rename_i h1 h2; exact⟨h2,h1⟩
 ·intro p hp
  have:=(ok1 p hp).2
  rw[Around.in1_units]; omega
 ·obtain⟨c,at_⟩:=PyProof.Rows.sortedHeap_at (vs:=vs) (out:=out.toArray) there
  have sv:Vals ((YM ps).map (·.1)) out:=by
   have all:∀{us:List Value} {qs:List (V×D)},PySem.W.EachIs (fun(v:Value) (p:V×D)=>RelV p.1 v) us qs→Vals (qs.map (·.1)) us:=by
    intro us qs e
    induction e with
    |nil=>exact .nil
    |cons h t ih=>exact .cons h ih
   exact all (show PySem.W.EachIs (fun(v:Value) (p:V×D)=>RelV p.1 v) out (YM ps)from eo)
  refine wpAny_pure ⟨_,rfl,.ref s1.heap.objs.size,_,I1.laid (a:=s1.heap.objs.size) (t':=s1.toks) (o:=.lst ((YM ps).map (·.1))) (fun b u e=>?_) (Nat.le_refl _) ⟨by rw[List.length_map,(Jf ps).length_eq]; exact hl,out,c,sv,at_⟩,rfl,q _ _ gd (I1.hok.fresh (Nat.le_refl _))⟩
  have hb:b<s1.heap.objs.size:=Heap.lt_size e
  rw[PyProof.Rows.sortedHeap_old (Be hb) (by rw[size_push']; exact BH hb)]
  exact Heap.get?_push_of_some _ e
end
section
open PySem.W
variable {α:Type} [DecidableEq α] [DatumOrd α]
end
end L2.AL
namespace PySem
mutual
inductive RdQ (h:Heap):Value→PyData→Prop
 |none:RdQ h .none .none
 |bool (b):RdQ h (.bool b) (.bool b)
 |int (i t):RdQ h (.int i t) (.int i)
 |str (x t):RdQ h (.str x t) (.str x)
 |list {a o vs n xs}:h.get? a=some o→o.cls=.type "list"→o.data=.seq vs n→RdQA h vs.toList xs→RdQ h (.ref a) (.list xs)
 |tuple {a o vs n xs}:h.get? a=some o→o.cls=.type "tuple"→o.data=.seq vs n→RdQA h vs.toList xs→RdQ h (.ref a) (.tuple xs)
 |dict {a o es n kvs}:(a==sysModules)=false→h.get? a=some o→o.cls=.type "dict"→o.data=.dict es n→RdQA h (es.toList.map (·.key)) (kvs.map (·.1))→RdQA h (es.toList.map (·.val)) (kvs.map (·.2))→RdQ h (.ref a) (.dict kvs)
inductive RdQA (h:Heap):List Value→List PyData→Prop
 |nil:RdQA h [] []
 |cons {v vs d ds}:RdQ h v d→RdQA h vs ds→RdQA h (v::vs) (d::ds)
end
mutual
theorem RdQ.reads {h:Heap}:∀{v:Value} {d:PyData},RdQ h v d→∃as,Reads h v d as
 |_,_,.none=>⟨_,.none⟩
 |_,_,.bool b=>⟨_,.bool b⟩
 |_,_,.int i t=>⟨_,.int i t⟩
 |_,_,.str x t=>⟨_,.str x t⟩
 |_,_,.list h1 h2 h3 h4=>let ⟨_,q⟩:=RdQA.reads h4; ⟨_,.list h1 h2 h3 q⟩
 |_,_,.tuple h1 h2 h3 h4=>let ⟨_,q⟩:=RdQA.reads h4; ⟨_,.tuple h1 h2 h3 q⟩
 |_,_,.dict _ h1 h2 h3 h4 h5=>let ⟨_,q⟩:=RdQA.reads h4; let ⟨_,q'⟩:=RdQA.reads h5; ⟨_,.dict h1 h2 h3 q q'⟩
theorem RdQA.reads {h:Heap}:∀{vs:List Value} {ds:List PyData},RdQA h vs ds→∃as,ReadsAll h vs ds as
 |_,_,.nil=>⟨_,.nil⟩
 |_,_,.cons r rs=>let ⟨_,q⟩:=RdQ.reads r; let ⟨_,q'⟩:=RdQA.reads rs; ⟨_,.cons q q'⟩
end
section
variable {prog:Program} {w:World} {h:Heap}
theorem Q8 {kvs:List (PyData×PyData)} (hz:(dictText (PyData.shownKv kvs)).length≤sizeLine):(∀t∈PyData.shownAll (kvs.map (·.1)),t.length≤sizeLine)∧∀t∈PyData.shownAll (kvs.map (·.2)),t.length≤sizeLine:=
 ⟨fun t ht=>let ⟨p,hp,hl⟩:=PyData.shownKv_key_le kvs t ht; Nat.le_trans hl (Nat.le_trans (dictText_mem_le hp) hz),fun t ht=>let ⟨p,hp,hl⟩:=PyData.shownKv_val_le kvs t ht; Nat.le_trans hl (Nat.le_trans (dictText_mem_le hp) hz)⟩
mutual
theorem RdQ.shows:∀{v:Value} {d:PyData},RdQ h v d→d.showable=true→d.shown.length≤sizeLine→∃bs,ReadAtMost h d.depth bs∧ReprK prog w bs h d.depth v d.shown
 |_,_,.none,_,_=>⟨[],(fun _ h=>nomatch h),by simp only[PyData.shown]; exact .of_is ReprIs.none _ _ _⟩
 |_,_,.bool b,_,_=>⟨[],(fun _ h=>nomatch h),by simp only[PyData.shown]; exact .of_is (ReprIs.bool b) _ _ _⟩
 |_,_,.int i t,hs,_=>⟨[],(fun _ h=>nomatch h),by simp only[PyData.shown]; exact .of_is (ReprIs.int t (by simpa[PyData.showable]using hs)) _ _ _⟩
 |_,_,.str x t,_,hz=>⟨[],(fun _ h=>nomatch h),by simp only[PyData.shown]; exact .of_is (ReprIs.str x t (by simpa only[PyData.shown]using hz)) _ _ _⟩
 |_,_,.list (a:=a) (vs:=vs) (xs:=xs) h1 h2 h3 h4,hs,hz=>by
  have hz':(listText (PyData.shownAll xs)).length≤sizeLine:=by simpa only[PyData.shown]using hz
  obtain⟨bs,hb,hk⟩:=RdQA.shows h4 (by simpa[PyData.showable]using hs) fun t ht=>Nat.le_trans (listText_mem_le ht) hz'
  obtain⟨as,r⟩:=RdQ.reads (.list h1 h2 h3 h4)
  refine⟨a::bs,ReadAtMost.cons r (by simp only[PyData.depth]; omega) hb,?_⟩
  have hna:a∉bs:=not_mem_of_deeper r (by simp only[PyData.depth]; omega) hb
  simp only[PyData.depth,PyData.shown]
  obtain⟨l⟩:=vs
  cases l with
  |nil=>
   have h4:RdQA h [] xs:=h4
   cases h4
   simp only[PyData.shownAll,listText_nil]
   exact ReprK.listEmpty h1 h2 h3
  |cons x l=>exact ReprK.list h1 h2 h3 hna (by simpa using hk.length_eq) (fun i y e=>hk.item i y (by simpa using e))
 |_,_,.tuple (a:=a) (xs:=xs) h1 h2 h3 h4,hs,hz=>by
  have hz':(tupleText (PyData.shownAll xs)).length≤sizeLine:=by simpa only[PyData.shown]using hz
  obtain⟨bs,hb,hk⟩:=RdQA.shows h4 (by simpa[PyData.showable]using hs) fun t ht=>Nat.le_trans (tupleText_mem_le ht) hz'
  obtain⟨as,r⟩:=RdQ.reads (.tuple h1 h2 h3 h4)
  refine⟨a::bs,ReadAtMost.cons r (by simp only[PyData.depth]; omega) hb,?_⟩
  simp only[PyData.depth,PyData.shown]
  exact ReprK.tuple h1 h2 h3 (not_mem_of_deeper r (by simp only[PyData.depth]; omega) hb) hk
 |_,_,.dict (a:=a) (es:=es) (kvs:=kvs) h0 h1 h2 h3 h4 h5,hs,hz=>by
  have hz':(dictText (PyData.shownKv kvs)).length≤sizeLine:=by simpa only[PyData.shown]using hz
  obtain⟨hs1,hs2⟩:=PyData.showableKv_split kvs (by simpa[PyData.showable]using hs)
  obtain⟨b1,hb1,k1⟩:=RdQA.shows h4 hs1 (Q8 hz').1
  obtain⟨b2,hb2,k2⟩:=RdQA.shows h5 hs2 (Q8 hz').2
  obtain⟨as,r⟩:=RdQ.reads (.dict h0 h1 h2 h3 h4 h5)
  have hb:ReadAtMost h (PyData.depthKv kvs) (b1++b2):=(hb1.mono (PyData.depthAll_keys_le kvs)).append (hb2.mono (PyData.depthAll_vals_le kvs))
  refine⟨a::(b1++b2),ReadAtMost.cons r (by simp only[PyData.depth]; omega) hb,?_⟩
  have hna:a∉b1++b2:=not_mem_of_deeper r (by simp only[PyData.depth]; omega) hb
  simp only[PyData.depth,PyData.shown,PyData.shownKv_eq]
  exact ReprK.dict h1 h2 h3 h0 hna (ReprEntriesK.of_two es.toList _ _ (k1.more_le (fun b hb=>List.mem_append_left _ hb) (PyData.depthAll_keys_le kvs)) (k2.more_le (fun b hb=>List.mem_append_right _ hb) (PyData.depthAll_vals_le kvs)))
theorem RdQA.shows:∀{vs:List Value} {ds:List PyData},RdQA h vs ds→PyData.showableAll ds=true→(∀t∈PyData.shownAll ds,t.length≤sizeLine)→∃bs,ReadAtMost h (PyData.depthAll ds) bs∧ReprAllK prog w bs h (PyData.depthAll ds) vs (PyData.shownAll ds)
 |_,_,.nil,_,_=>⟨[],(fun _ h=>nomatch h),by simp only[PyData.shownAll]; exact .nil⟩
 |_,_,.cons (d:=d) (ds:=ds) r rs,hs,hz=>by
  have hs':d.showable=true∧PyData.showableAll ds=true:=by simpa[PyData.showableAll]using hs
  obtain⟨b1,hb1,k1⟩:=RdQ.shows r hs'.1 (hz _ (by simp only[PyData.shownAll]; exact List.mem_cons_self ..))
  obtain⟨b2,hb2,k2⟩:=RdQA.shows rs hs'.2 fun t ht=>hz t (by simp only[PyData.shownAll]; exact List.mem_cons_of_mem _ ht)
  refine⟨b1++b2,?_,?_⟩
  ·simp only[PyData.depthAll]
   exact(hb1.mono (Nat.le_max_left _ _)).append (hb2.mono (Nat.le_max_right _ _))
  ·simp only[PyData.depthAll,PyData.shownAll]
   exact .cons ((k1.more fun b hb=>List.mem_append_left _ hb).level_le (Nat.le_max_left _ _)) (k2.more_le (fun b hb=>List.mem_append_right _ hb) (Nat.le_max_right _ _))
end
variable {A:Around} {E:Value→Shared→Prop} {s:Shared} {Q:Value→Shared→Prop} {a:Addr} {d:PyData}
theorem repr_rdq (r:RdQ s.heap (.ref a) d) (hs:d.showable=true) (hz:d.shown.length≤sizeLine) (hg:A.guards=some []) (hu:A.units+(d.depth+1)<cLine)
  (hQ:∀h' u tk,(∀b o,s.heap.get? b=some o→h'.get? b=some o)→Q (.str d.shown u) { s with heap:=h',toks:=tk }):wpAny (model prog w) A (call (.builtin "repr") [.ref a]) Q E s:=by
 obtain⟨as,rr⟩:=r.reads
 have sb:∃T idr,ShowsBy prog w s.heap a d T idr:=by
  cases r with
  |list h1 h2 h3 h4=>
   rename_i o vs n xs
   have hz':(listText (PyData.shownAll xs)).length≤sizeLine:=by simpa only[PyData.shown]using hz
   obtain⟨bs,hb,hk⟩:=RdQA.shows (prog:=prog) (w:=w) h4 (by simpa[PyData.showable]using hs) fun t ht=>Nat.le_trans (listText_mem_le ht) hz'
   have hna:a∉bs:=not_mem_of_deeper rr (by simp only[PyData.depth]; omega) hb
   refine⟨"list","list.__repr__",F.slot_list_repr.toG,F.slot_list_str,F.slot_list_format,fun s hk0=>⟨o,hk0 _ _ h1,h2⟩,fun A E s Q hg hu hk0 hQ=>?_⟩
   simp only[PyData.depth]at hu
   simp only[PyData.shown]at hQ
   obtain⟨l⟩:=vs
   cases l with
   |nil=>
    have h4:RdQA _ [] xs:=h4
    cases h4
    simp only[PyData.shownAll,listText_nil]at hQ
    exact call_list_repr_empty ⟨o,hk0 _ _ h1,h2⟩ (hk0 _ _ h1) h3 (hQ s.heap _ _ fun _ _ e=>e)
   |cons x l=>exact call_list_reprK h1 h2 h3 hna (by simpa using hk.length_eq) (fun i y e=>hk.item i y (by simpa using e)) hg (fun b _=>Clear.nil b) hu hk0 hQ hz'
  |tuple h1 h2 h3 h4=>
   rename_i o vs n xs
   have hz':(tupleText (PyData.shownAll xs)).length≤sizeLine:=by simpa only[PyData.shown]using hz
   obtain⟨bs,hb,hk⟩:=RdQA.shows (prog:=prog) (w:=w) h4 (by simpa[PyData.showable]using hs) fun t ht=>Nat.le_trans (tupleText_mem_le ht) hz'
   have hna:a∉bs:=not_mem_of_deeper rr (by simp only[PyData.depth]; omega) hb
   refine⟨"tuple","tuple.__repr__",F.slot_tuple_repr,F.slot_tuple_str,F.slot_tuple_format,fun s hk0=>⟨o,hk0 _ _ h1,h2⟩,fun A E s Q hg hu hk0 hQ=>?_⟩
   simp only[PyData.depth]at hu
   simp only[PyData.shown]at hQ
   exact call_tuple_reprK h1 h2 h3 hna hk hg (fun b _=>Clear.nil b) hu hk0 hQ hz'
  |dict h0 h1 h2 h3 h4 h5=>
   rename_i o es n kvs
   have hz':(dictText (PyData.shownKv kvs)).length≤sizeLine:=by simpa only[PyData.shown]using hz
   obtain⟨hs1,hs2⟩:=PyData.showableKv_split kvs (by simpa[PyData.showable]using hs)
   obtain⟨b1,hb1,k1⟩:=RdQA.shows (prog:=prog) (w:=w) h4 hs1 (Q8 hz').1
   obtain⟨b2,hb2,k2⟩:=RdQA.shows (prog:=prog) (w:=w) h5 hs2 (Q8 hz').2
   have hb:ReadAtMost _ (PyData.depthKv kvs) (b1++b2):=(hb1.mono (PyData.depthAll_keys_le kvs)).append (hb2.mono (PyData.depthAll_vals_le kvs))
   have hna:a∉b1++b2:=not_mem_of_deeper rr (by simp only[PyData.depth]; omega) hb
   refine⟨"dict","dict.__repr__",F.slot_dict_repr,F.slot_dict_str,F.slot_dict_format,fun s hk0=>⟨o,hk0 _ _ h1,h2⟩,fun A E s Q hg hu hk0 hQ=>?_⟩
   simp only[PyData.depth]at hu
   simp only[PyData.shown,PyData.shownKv_eq]at hQ
   exact call_dict_reprK h1 h2 h3 h0 hna (ReprEntriesK.of_two es.toList _ _ (k1.more_le (fun b hb=>List.mem_append_left _ hb) (PyData.depthAll_keys_le kvs)) (k2.more_le (fun b hb=>List.mem_append_right _ hb) (PyData.depthAll_vals_le kvs))) hg (fun b _=>Clear.nil b) hu hk0 hQ (by rw[←PyData.shownKv_eq]; exact hz')
 obtain⟨T,idr,S⟩:=sb
 exact call_repr_slot (by omega) (S.typeIs s fun _ _ e=>e) S.slotRepr (S.call A.in1 E s _ hg (by show A.units+1+d.depth<cLine; omega) (fun _ _ e=>e) fun h' u tk hk=>⟨_,_,rfl,hQ h' u tk hk⟩)
end
end PySem
namespace L2.AL
open PySem PySem.Spec PyProof.Rows
def RJ:Key→PyData
 | .inl i=>.int i
 | .inr x=>.str x
mutual
def D.pyq:D→Option PyData
 | .non=>some .none
 | .bl b=>some (.bool b)
 | .int i=>some (.int i)
 | .str x=>some (.str x)
 | .tup xs=>(D.pyqL xs).map .tuple
 | .lst xs=>(D.pyqL xs).map .list
 | .dct kvs=>(D.pyqK kvs).map .dict
 | .fn _=>none
 | .ty _=>none
 | .scr _=>none
 | .cd _=>none
 | .dd _=>none
 | .db _=>none
 | .ins _ _=>none
 | .raw _=>none
 | .exc _ _=>none
 | .wt _=>none
def D.pyqL:List D→Option (List PyData)
 |[]=>some []
 |x::xs=>match D.pyq x,D.pyqL xs with
  |some p,some ps=>some (p::ps)
  |_,_=>none
def D.pyqK:List (Key×D)→Option (List (PyData×PyData))
 |[]=>some []
 |(k,x)::xs=>match D.pyq x,D.pyqK xs with
  |some p,some ps=>some ((RJ k,p)::ps)
  |_,_=>none
end
section
variable {X:Cx} {pins:List (Addr×Obj)} {σ:St} {H:Hp} {s:Shared}
mutual
theorem nE (I:Inv X pins σ H s):∀(x:D) (u:V) (v:Value) (p:PyData),x.pyq=some p→Fz X.bk H u x→RelV u v→RdQ s.heap v p
 | .non,u,v,p,e,h,r=>by rw[D.pyq]at e; cases e; rw[Fz]at h; subst h; cases r; exact .none
 | .bl b,u,v,p,e,h,r=>by rw[D.pyq]at e; cases e; rw[Fz]at h; subst h; cases r; exact .bool b
 | .int i,u,v,p,e,h,r=>by rw[D.pyq]at e; cases e; rw[Fz]at h; subst h; obtain⟨t,rfl⟩:=r; exact .int i t
 | .str x,u,v,p,e,h,r=>by rw[D.pyq]at e; cases e; rw[Fz]at h; subst h; obtain⟨t,rfl⟩:=r; exact .str x t
 | .tup xs,u,v,p,e,h,r=>by
   rw[D.pyq]at e
   obtain⟨ps,e1,rfl⟩:=AO.mp e
   rw[Fz]at h
   obtain⟨a,vs,rfl,h1,h2,_⟩:=h
   cases r
   obtain⟨its,rv,⟨o,ho,hc,n,hd⟩,_⟩:=I.tuple h1
   exact .tuple ho hc hd (rdqL_of I xs vs its ps e1 h2 rv)
 | .lst xs,u,v,p,e,h,r=>by
   rw[D.pyq]at e
   obtain⟨ps,e1,rfl⟩:=AO.mp e
   rw[Fz]at h
   obtain⟨a,vs,rfl,h1,h2⟩:=h
   cases r
   obtain⟨its,rv,⟨o,n,ho,hc,_,hd⟩,_⟩:=I.list (SqL.of h1)
   exact .list ho hc hd (rdqL_of I xs vs its ps e1 h2 rv)
 | .dct kvs,u,v,p,e,h,r=>by
   rw[D.pyq]at e
   obtain⟨ps,e1,rfl⟩:=AO.mp e
   rw[Fz]at h
   obtain⟨a,es,rfl,h1,h2⟩:=h
   cases r
   obtain⟨_,lo,vs,rel,o,ds,ep,ho,hc,hd,_,pr,_⟩:=dk_of I.hok h1
   obtain⟨q1,q2⟩:=rdqK_of I kvs es vs ds.toList ps e1 h2 rel pr
   exact .dict lo ho hc.1 hd q1 q2
 | .fn _,_,_,_,e,_,_=>by rw[D.pyq]at e; cases e
 | .ty _,_,_,_,e,_,_=>by rw[D.pyq]at e; cases e
 | .scr _,_,_,_,e,_,_=>by rw[D.pyq]at e; cases e
 | .cd _,_,_,_,e,_,_=>by rw[D.pyq]at e; cases e
 | .dd _,_,_,_,e,_,_=>by rw[D.pyq]at e; cases e
 | .db _,_,_,_,e,_,_=>by rw[D.pyq]at e; cases e
 | .ins _ _,_,_,_,e,_,_=>by rw[D.pyq]at e; cases e
 | .raw _,_,_,_,e,_,_=>by rw[D.pyq]at e; cases e
 | .exc _ _,_,_,_,e,_,_=>by rw[D.pyq]at e; cases e
 | .wt _,_,_,_,e,_,_=>by rw[D.pyq]at e; cases e
theorem rdqL_of (I:Inv X pins σ H s):∀(xs:List D) (us:List V) (vs:List Value) (ps:List PyData),D.pyqL xs=some ps→FzL X.bk H us xs→Vals us vs→RdQA s.heap vs ps
 |[],[],_,ps,e,_,r=>by rw[D.pyqL]at e; cases e; cases r; exact .nil
 |[],_::_,_,_,_,h,_=>by rw[FzL]at h; exact h.elim
 |_::_,[],_,_,_,h,_=>by rw[FzL]at h; exact h.elim
 |x::xs,u::us,_,ps,e,h,r=>by
  rw[FzL]at h
  rw[D.pyqL]at e
  cases r with
  |cons r1 r2=>
   split at e
   ·rename_i p q e1 e2
    cases e
    exact .cons (nE I x u _ p e1 h.1 r1) (rdqL_of I xs us _ q e2 h.2 r2)
   ·cases e
theorem rdqK_of (I:Inv X pins σ H s):∀(xs:List (Key×D)) (us:List (Key×V)) (vs:List (Key×Value)) (ds:List DictEntry) (ps:List (PyData×PyData)),D.pyqK xs=some ps→FzK X.bk H us xs→KV us vs→Pairs (mixKind X.prog X.w) ds vs→RdQA s.heap (ds.map (·.key)) (ps.map (·.1))∧RdQA s.heap (ds.map (·.val)) (ps.map (·.2))
 |[],[],_,_,ps,e,_,r,pr=>by rw[D.pyqK]at e; cases e; cases r; cases pr; exact⟨.nil,.nil⟩
 |[],_::_,_,_,_,_,h,_,_=>by rw[FzK]at h; exact h.elim
 |_::_,[],_,_,_,_,h,_,_=>by rw[FzK]at h; exact h.elim
 |(k,x)::xs,(k',u)::us,_,_,ps,e,h,r,pr=>by
  rw[FzK]at h
  rw[D.pyqK]at e
  cases r with
  |cons r1 r2=>
   cases pr with
   |cons p1 p2 p3=>
    split at e
    ·rename_i p q e1 e2
     cases e
     obtain⟨h1,h2,h3⟩:=h
     obtain⟨q1,q2⟩:=rdqK_of I xs us _ _ q e2 h3 r2 p3
     have h1:k'=k:=h1
     subst h1
     refine⟨.cons ?_ q1,.cons ?_ q2⟩
     ·show RdQ s.heap (DictEntry.key _) (RJ k')
      rw[←r1.1]at p1
      rcases keyIs_shape p1 with⟨i,t,e3,e4⟩|⟨z,t,e3,e4⟩
      ·have e3:k'=Sum.inl i:=e3
       subst e3
       rw[e4]; exact .int i t
      ·have e3:k'=Sum.inr z:=e3
       subst e3
       rw[e4]; exact .str z t
     ·show RdQ s.heap (DictEntry.val _) p
      rw[p2]
      exact nE I x u _ p e1 h2 r1.2
    ·cases e
end
end
def D.reprq? (x:D):Option Str:=match x.pyq with
 |some p=>if PyData.showable p=true∧p.depth≤64∧p.shown.length≤sizeLine then some p.shown else none
 |none=>none
def wV:List D→Option E
 |[x]=>x.reprq?.map z_
 |_=>none
def Li (B:Bk):List V→Hp→VK→Prop:=fun xs H Q=>∃x d p,xs=[x]∧Fz B H x d∧d.pyq=some p∧PyData.showable p=true∧p.depth≤64∧p.shown.length≤sizeLine∧Q (.str p.shown) H
theorem ip {B:Bk}:SndL B wV (Li B):=by
 intro xs v us G H Q e s hx q
 unfold wV at e
 split at e
 ·obtain⟨z,e1,rfl⟩:=AO.mp e
  obtain⟨u,rfl,h⟩:=jD hx
  unfold D.reprq? at e1
  split at e1
  ·rename_i p hp
   split at e1
   ·rename_i hc
    cases e1
    exact⟨u,_,p,rfl,h.fz s,hp,hc.1,hc.2.1,hc.2.2,q _ _ _ (.scalar s (YC _))⟩
   ·cases e1
  ·cases e1
 ·cases e
theorem l_ {X:Cx} (hg:X.A.guards=some []) (hu:X.A.units+64<cLine) (hu2:X.A.units+65<cLine):CallR X (.builtin "repr") (Li X.bk):=by
 intro pins s σ H xs us Q I r h
 obtain⟨x,d,p,rfl,hd,hp,h1,h2,h3,q⟩:=h
 obtain⟨u,rfl,rx⟩:=vals1 r
 have rd:=nE I d x u p hp hd rx
 cases rd with
 |none=>exact PySem.P.repr_of_none ⟨.str _,H,I.tok _,⟨s.toks,by simp only[PyData.shown]⟩,q⟩
 |bool b=>exact PySem.P.repr_of_bool ⟨.str _,H,I.tok _,⟨s.toks,by simp only[PyData.shown]⟩,q⟩
 |int i t=>
  refine PySem.P.repr_of_int (by simpa[PyData.showable]using h1) ⟨.str _,H,I.tok _,⟨s.toks,?_⟩,q⟩
  simp only[PyData.shown]
 |str z t=>
  refine PySem.P.repr_of_str ⟨.str _,H,I.tok _,⟨s.toks,?_⟩,q⟩ (by simpa[PyData.shown]using h3)
  simp only[PyData.shown]
 |list a b c e=>
  exact PySem.repr_rdq (.list a b c e) h1 h3 hg (by omega) fun h' t tk hk=>⟨.str _,H,I.kept hk,⟨_,rfl⟩,q⟩
 |tuple a b c e=>
  exact PySem.repr_rdq (.tuple a b c e) h1 h3 hg (by omega) fun h' t tk hk=>⟨.str _,H,I.kept hk,⟨_,rfl⟩,q⟩
 |dict z a b c e f=>
  exact PySem.repr_rdq (.dict z a b c e f) h1 h3 hg (by omega) fun h' t tk hk=>⟨.str _,H,I.kept hk,⟨_,rfl⟩,q⟩
def N7 (K:PySem.W.Frag):R2:=fun x y H Q=>∃(a b:Addr) (xs:List V),x=.ref a∧y=.ref b∧SqT K H a xs∧SqT K H b []∧Q (.bl (!xs.isEmpty)) H
theorem cz {X:Cx} (hu:X.A.units+64<cLine):OpR X (compareOp .NotEq) (N7 X.K):=by
 intro pins s σ H x y v u Q I rx ry h
 obtain⟨a,b,xs,rfl,rfl,h1,h2,q⟩:=h
 cases rx
 cases ry
 obtain⟨its,rv,p1,_⟩:=I.tuple h1
 obtain⟨its2,rv2,p2,_⟩:=I.tuple h2
 cases rv2
 have l:=rv.length
 have eb:(!((List.range (min its.toArray.size ([]:List Value).toArray.size)).all (fun _=>true)&&its.toArray.size==([]:List Value).toArray.size))=!xs.isEmpty:=by
  cases xs with
  |nil=>
   cases its with
   |nil=>rfl
   |cons _ _=>simp at l
  |cons y ys=>
   cases its with
   |nil=>simp at l
   |cons _ _=>simp
 have r:=SeqAt.RcNeAt.tuples (A:=X.A) (s:=s) (e:=fun _=>true) p1 p2 (by omega) fun j _ h2=>absurd h2 (by simp)
 rw[eb]at r
 exact r X.prog X.w _ _ ⟨.bl _,H,I,rfl,q⟩
def Jp:D→D→Option E
 | .tup xs,.tup []=>some (eBl (!xs.isEmpty))
 |_,_=>none
theorem gm {B:Bk}:jI B Jp (N7 B.K):=by
 intro x y v a b G H Q e s hx hy q
 unfold Jp at e
 split at e
 ·rename_i xs
  cases e
  obtain⟨p,us,rfl,h1,h2⟩:=qO hx
  obtain⟨p',us',rfl,h3,h4⟩:=qO hy
  have l:=h2.length
  cases us' with
  |cons _ _=>rw[FzL]at h4; exact h4.elim
  |nil=>
   refine⟨p,p',us,rfl,rfl,BY s h1,BY s h3,?_⟩
   have e:us.isEmpty=xs.isEmpty:=by
    cases us<;>cases xs<;>first|rfl|(rw[FzL]at h2; exact h2.elim)
   rw[e]
   exact q _ _ _ (.scalar s (jL _))
 ·cases e
def h_ (K:PySem.W.Frag) (mg:Str→Option Value) (c:Str) (as:List Str):Prop:=∃C,mg c=some (.ref C)∧Cls K C∧∀f∈as,NoAttr K C f
section
variable {B:Bk} {G:Hp}
theorem FzF.lookup {f:Str}:∀{ds:List (Str×D)} {vs:List (Str×V)} {x:D},FzF B G vs ds→ds.lookup f=some x→∃v,vs.lookup f=some v∧Fz B G v x
 |[],_,_,_,e=>by cases e
 |_::_,[],_,h,_=>by rw[FzF]at h; exact h.elim
 |(g,d)::ds,(g',v)::vs,x,h,e=>by
  rw[FzF]at h
  obtain⟨h1,h2,h3⟩:=h
  have h1:g'=g:=h1
  subst h1
  rw[lookup_put]at e⊢
  by_cases hf:f=g'
  ·rw[if_pos hf]at e⊢
   cases e
   exact⟨v,rfl,h2⟩
  ·rw[if_neg hf]at e⊢
   exact FzF.lookup h3 e
where
 lookup_put {α:Type} (f g:Str) (y:α) (fs:List (Str×α)):((f,y)::fs).lookup g=if g=f then some y else fs.lookup g:=by
  by_cases h:g=f
  ·subst h; simp[List.lookup]
  ·have e:(g==f)=false:=by simpa using h
   rw[if_neg h]
   simp[List.lookup,e]
def rP (f:Str) (x:D):List (Str×D)→List (Str×D)
 |[]=>[(f,x)]
 |(g,y)::r=>if g=f then(g,x)::r else(g,y)::rP f x r
theorem FzF.put {f:Str} {v:V} {x:D} (h:Fz B G v x):∀{ds:List (Str×D)} {vs:List (Str×V)},FzF B G vs ds→FzF B G (putF f v vs) (rP f x ds)
 |[],[],_=>by
  show FzF B G [(f,v)] [(f,x)]
  rw[FzF,FzF]; exact⟨rfl,h,trivial⟩
 |[],_::_,q=>by rw[FzF]at q; exact q.elim
 |_::_,[],q=>by rw[FzF]at q; exact q.elim
 |(g,d)::ds,(g',u)::vs,q=>by
  rw[FzF]at q
  obtain⟨h1,h2,h3⟩:=q
  have h1:g'=g:=h1
  subst h1
  unfold putF rP
  by_cases hg:g'=f
  ·rw[if_pos hg,if_pos hg,FzF]; exact⟨rfl,h,h3⟩
  ·rw[if_neg hg,if_neg hg,FzF]; exact⟨rfl,h2,FzF.put h h3⟩
theorem FzF.length:∀{ds:List (Str×D)} {vs:List (Str×V)},FzF B G vs ds→vs.length=ds.length
 |[],[],_=>rfl
 |[],_::_,h=>by rw[FzF]at h; exact h.elim
 |_::_,[],h=>by rw[FzF]at h; exact h.elim
 |_::_,_::_,h=>by rw[FzF]at h; rw[List.length_cons,List.length_cons,FzF.length h.2.2]
end
def Y9 (c f:Str) (fe:AK):AK:=fun ρ=>(fe ρ).bind fun v ρ1=>match v.val ρ1 with
 |some (.ins c' ds)=>if c'=c then match ds.lookup f with
   |some x=>.ok (.d x) ρ1
   |none=>.no
  else .no
 |_=>.no
section
variable {X:Cx} {W:WX'} {e:Expr} {c f:Str} {fe:AK} {pos:Pos} {as:List Str}
theorem QR (hK:h_ X.K X.mg c as) (he:PEa X W e fe) (hf:f∈as:=by decide) (hb:attributeBase e f X.env (eval e X.env)=eval e X.env:=by rfl):PEa X W (.Attribute e f pos) (Y9 c f fe):=
 xv (pe_fld he hb) fun σ H Q ⟨G,ρ,r,h⟩=>by
  obtain⟨C,hm,hc,hn⟩:=hK
  refine yr (yx r (Aft.cl (W:=W) (Q:=Q)) h) fun u H1 ⟨v,ρ1,G1,P,h1⟩=>?_
  obtain⟨x,ex,re⟩:=P.re 0 v rfl
  cases ex
  split at h1
  ·rename_i c' ds hv
   split at h1
   ·rename_i ec
    subst ec
    split at h1
    ·rename_i y hy
     obtain⟨a,C',dx,fs,rfl,ha,_,hc',ff⟩:=P.post.rel.val re hv
     have hc':X.mg c'=some (.ref C'):=hc'
     rw[hm]at hc'; cases hc'
     obtain⟨v,l,fz⟩:=FzF.lookup ff hy
     exact⟨a,C,dx,fs,v,rfl,ha,hc,hn f hf,l,h1.fin P.post (.scalar P.post.rel.sub fz)⟩
    ·exact h1.elim
   ·exact h1.elim
  ·exact h1.elim
end
def gL (c:Str) (i:Nat) (f:Str) (fe:AK):AJ:=fun ρ=>(fe ρ).bind fun v ρ1=>match keep1 v ρ1 with
 |some (x,ρ2)=>match ρ2[i]? with
  |some (.own (.ins c' ds))=>if c'=c∧ds.length<1000 then .ok .nx (ρ2.set i (.own (.ins c' (rP f x ds))))else .no
  |_=>.no
 |none=>.no
section
variable {X:Cx} {W:WX'} {P:List Nat} {e:Expr} {c f x:Str} {i:Nat} {fe:AK} {pos pos' np:Pos} {as:List Str}
theorem nH (hK:h_ X.K X.mg c as) (hN:X.N[i]?=some x) (he:PEa X W e fe) (hf:f∈as:=by decide) (hvis:Vis X.env.scope x:=by first|exact Or.inl rfl|exact Or.inr (Or.inl rfl)|exact Or.inr (Or.inr rfl))
  (hd:(x==("__debug__":Str))=false:=by decide) (hcd:(x==("__classdict__":Str))=false:=by decide)
  (hs:swapsWith e (some (.Attribute (.Name x np) f pos')) pos.line X.env=pure false:=by rfl) :
  PSa X W P (.Assign [.Attribute (.Name x np) f pos'] e pos) (gL c i f fe):=
 YG (ps_fld (zf (W:=W) i hN hvis hd hcd) he hs) fun D σ H ⟨G,ρ,r,h⟩=>by
  obtain⟨C,hm,hc,hn⟩:=hK
  refine yr (yx r (AftS.cl (P:=P) (D:=D)) h) fun u H1 ⟨v,ρ1,G1,P1,h1⟩=>?_
  split at h1
  ·rename_i xd ρ2 hk
   split at h1
   ·rename_i c' ds ho
    split at h1
    ·rename_i hz
     obtain⟨rfl,hz⟩:=hz
     obtain⟨G2,P2,f2,s2⟩:=Pend.keep1 (us:=[]) (vs:=[]) P1 hk
     refine⟨G2,ρ2,P2.post.rel,?_⟩
     simp only[zb,ho]
     intro ov H3 G3 p3 re3 _
     have re3:σ[i]?=some (some ov):=re3
     have pB:=P2.post.trans p3
     obtain⟨v',e1,a,hob,e2,e3,e4,C',dx,fs,rfl,e6,e7,e8⟩:=pB.rel.slot i _ ho
     rw[re3]at e1; cases e1; cases e2
     have e7:X.mg c'=some (.ref C'):=e7
     rw[hm]at e7; cases e7
     refine⟨a,C,dx,fs,rfl,e3,hc,hn f hf,by rw[FzF.length e8]; exact hz,?_⟩
     have pp:=gj (o':=.ins c' (rP f xd ds)) (ho:=.ins C dx (putF f u fs)) pB re3 ho ⟨C,dx,_,rfl,e6,hm,FzF.put (Fz.mono p3.grow _ _ f2) e8⟩
     exact h1 σ _ G3 pp .refl
    ·exact h1.elim
   ·exact h1.elim
  ·exact h1.elim
end
structure PropOk (P:Program) (w:World) (K:PySem.W.Frag) (mg:Str→Option Value) (base:Heap) (c m:Str) (par:List Str) (n:Nat) (F:AK):Prop where
 ex:∃(C p f:Addr) (fd:FuncData),mg c=some (.ref C)∧Cls K C∧PropOf K C m p f∧Binds K fd par []∧FnG P w K mg base CX0 n f fd par F
 len:Len F par.length
def xl (c:Str) (F:AK) (fo:AK):AK:=fun ρ=>(fo ρ).bind fun v ρ1=>match v.val ρ1 with
 |some (.ins c' ds)=>if c'=c then zx F [v] ρ1 else .no
 |_=>.no
section
variable {X:Cx} {W:WX'} {e:Expr} {c m:Str} {fo:AK} {pos:Pos} {par:List Str} {k n:Nat} {F:AK}
theorem Zf (D:PropOk X.prog X.w X.K X.mg X.base c m par k F) (r:Rm X.A (n+1)) (hkn:k≤n) (he:PEa X W e fo) (hab:attributeBase e m X.env (eval e X.env)=eval e X.env:=by rfl) :
  PEa X W (.Attribute e m pos) (xl c F fo):=by
 constructor
 intro pins s σ H Q I h
 obtain⟨G,ρ,rl,h⟩:=h
 obtain⟨C,p,g,fd,hm,hc,hp,hb,hF⟩:=D.ex
 have first:=yx rl (Aft.cl (W:=W) (Q:=Q)) h
 refine attr_of hab (thn (he.run pins s σ H _ I first) ?_)
 rintro u s1 ⟨x,H1,I1,rx,v,ρ1,G1,P,h1⟩
 obtain⟨x',ex,re⟩:=P.re 0 v rfl
 cases ex
 split at h1
 ·rename_i c' ds hv
  split at h1
  ·rename_i hcm
   subst hcm
   obtain⟨a,C',dx,fs',rfl,ha',_,hc',ff⟩:=P.post.rel.val re hv
   have hc':X.mg c'=some (.ref C'):=hc'
   rw[hm]at hc'; cases hc'
   obtain rfl:u=Value.ref a:=rx
   have sp:=UK P h1
   have hln:=D.len.of sp
   obtain⟨mA,O,_,_,_,_⟩:=ins_get I1.hok ha'
   obtain⟨od,J,_⟩:=O.look
   obtain⟨rest,hrec⟩:=hp.rec_
   have I2:=I1.tok (s1.toks+1)
   have hb':=hb { s1 with toks:=s1.toks+1 } [.ref a] I2.kIn (by rw[A6,←hln]; rfl)
   rw[A6]at hb'
   have hcl:(PySem.W.clsIn X.K C).isSome=true:=by
    obtain⟨cd,hc,_⟩:=PySem.W.any_some hc.hd
    rw[hc]
    rfl
   refine PySem.W.get_bind I1.kIn J (PySem.W.plainGet_of (hc.get m)).1 (PySem.W.findObj_data hcl hp.at_ hp.get hp.tak) (PySem.W.plainGet_of (hc.get m)).2 (wpAny_call (PySem.W.prop_get (s:={ s1 with toks:=s1.toks+1 }) I1.kIn hrec ?_))
   refine codeAny_mono ((hF.mono hkn).go X.A.in1 X.stack { s1 with toks:=s1.toks+1 } H1 ⟨[.ref a],[]⟩ [.ref a] [.ref a] Q _ r.g r.r.in1 I2.env0.in1 hb' (.cons (show RelV (V.ref a) (Value.ref a)from rfl) .nil) hln sp) fun r s' hq=>?_
   cases r with
   |error er=>exact False.elim hq
   |ok fl=>
    cases fl with
    |ret u=>
     obtain⟨v,H',I3,rv,q3⟩:=I2.after hq
     show wpAny _ _ (handedOut u) _ _ _
     rw[PySem.W.handedOut_of (handed_of rv)]
     exact wpAny_pure ⟨v,H',I3,rv,q3⟩
    |next=>exact False.elim hq
    |brk=>exact False.elim hq
    |cont=>exact False.elim hq
  ·exact h1.elim
 ·exact h1.elim
end
def MQ (c:Str) (vs:List E) (ρ1:List S):Res E→Res E
 | .ok (.d .non) ss'=>match (ss'[0]?:Option S)with
   |some (.own (.ins c' ds))=>.ok (.fr (.ins c' ds)) (wb (.fr (.ins c [])::vs) ss' ρ1)
   |some (.d (.ins c' ds))=>.ok (.d (.ins c' ds)) (wb (.fr (.ins c [])::vs) ss' ρ1)
   |_=>.no
 | .ex e ss'=>.ex e (wb (.fr (.ins c [])::vs) ss' ρ1)
 | .new τ k=>.new τ fun a=>MQ c vs ρ1 (k a)
 |_=>.no
def JJ (c:Str) (F:AK) (vs:List E) (ρ1:List S):Res E:=match zO ρ1 vs with
 |some ss=>if (zM vs).Nodup then match F (.own (.ins c [])::ss)with
   | .ok (.d .non) ss'=>match (ss'[0]?:Option S)with
     |some (.own (.ins c' ds))=>.ok (.fr (.ins c' ds)) (wb (.fr (.ins c [])::vs) ss' ρ1)
     |some (.d (.ins c' ds))=>.ok (.d (.ins c' ds)) (wb (.fr (.ins c [])::vs) ss' ρ1)
     |_=>.no
   | .ex e ss'=>.ex e (wb (.fr (.ins c [])::vs) ss' ρ1)
   | .new τ k=>.new τ fun a=>MQ c vs ρ1 (k a)
   |_=>.no
  else .no
 |none=>.no
theorem eQ {c:Str} {F:AK} {vs:List E} {ρ1:List S}:JJ c F vs ρ1=match zO ρ1 vs with
 |some ss=>if (zM vs).Nodup then MQ c vs ρ1 (F (.own (.ins c [])::ss))else .no
 |none=>.no:=by
 unfold JJ
 cases zO ρ1 vs with
 |none=>rfl
 |some ss=>
  simp only
  split
  ·cases F (.own (.ins c [])::ss)with
   |ok v ss'=>
    cases v with
    |d x=>cases x<;>rfl
    |_=>rfl
   |_=>rfl
  ·rfl
def eH (c:Str) (F:AK) (fs:List S→Res (List E)):AK:=fun ρ=>(fs ρ).bind fun vs ρ1=>JJ c F vs ρ1
theorem vZ {α:Type} (l:List α) (x:α):J7 (l.length::List.range l.length) (l++[x])=x::l:=by
 have h:∀i∈l.length::List.range l.length,i<(l++[x]).length:=fun i hi=>by
  rw[AS,Bf]
  rcases List.mem_cons.mp hi with rfl|hi
  ·omega
  ·have:=Bo.mp hi; omega
 apply List.ext_getElem?
 intro k
 rw[VE h]
 cases k with
 |zero=>simp
 |succ k=>
  rw[List.getElem?_cons_succ,List.getElem?_cons_succ]
  by_cases hk:k<l.length
  ·rw[List.getElem?_range hk]
   show(l++[x])[k]?=_
   rw[AT hk]
  ·rw[Bs (by rw[List.length_range]; omega),Bs (by omega)]
   rfl
theorem Pend.front {B:Bk} {σ:St} {ρ0 ρ ρ':List S} {H0 G0 H G H' G':Hp} {us:List V} {vs:List E} {u:V} {v:E} (p:Pend B σ ρ0 H0 G0 ρ H G us vs) (q:Post B σ ρ H G σ ρ' H' G') (re:RE B G' σ ρ' H' u v) (fr:XF H u v) :
  Pend B σ ρ0 H0 G0 ρ' H' G' (u::us) (v::vs):=by
 have p1:=p.snoc q re fr
 have hl:=p.len
 have:=p1.perm (is:=vs.length::List.range vs.length) (Bl.mpr ⟨fun z=>by have:=Bo.mp z; omega,List.nodup_range⟩) fun i hi=>by
  rw[AS,Bf]
  rcases List.mem_cons.mp hi with rfl|hi
  ·omega
  ·have:=Bo.mp hi; omega
 rw[vZ vs v]at this
 rw[←hl,vZ us u]at this
 exact this
theorem MR {B:Bk} {W:WX'} {F:AK} {σ:St} {ρ0 ρ1:List S} {H0 G0 H1 G1:Hp} {us:List V} {vs:List E} {Q:VK} {c:Str} {C x dx:Addr} (hc:B.mg c=some (.ref C)) (P:Pend B σ ρ0 H0 G0 ρ1 H1 G1 us vs) (hx:H1 x=none) (hd:H1 dx=none) (ne:dx≠x)
  (h:Aft B W σ ρ0 H0 G0 Q (JJ c F vs ρ1)) :
  spC B F (.ref x::us) (upd (upd H1 dx (.own x)) x (.ins C dx [])) (fun v H2=>v=.non∧Q (.ref x) H2) (fun cls d H=>W cls d σ H):=by
 rw[eQ]at h
 have sub:=P.post.rel.sub
 have gd:G1 dx=none:=sub.free hd
 have gx:G1 x=none:=sub.free hx
 have sg:Same G1 (upd G1 dx (.own x)):=qe gd
 have N:New B G1 H1 (.ref x) (.fr (.ins c [])) (upd (upd H1 dx (.own x)) x (.ins C dx [])) (upd G1 dx (.own x)):=by
  refine⟨sg,fun b o e=>?_,fun b o e=>?_,fun b o e g=>?_,x,.ins C dx [],rfl,hx,upd_same,?_,C,dx,[],rfl,upd_same,hc,by rw[FzF]; trivial⟩
  ·rw[upd_ne (ne_of_none e hx),upd_ne (ne_of_none e hd)]; exact e
  ·by_cases hb:b=dx
   ·subst hb
    rw[upd_same]at e
    rw[upd_ne ne,upd_same]; exact e
   ·rw[upd_ne hb]at e
    have e':=sub _ _ e
    rw[upd_ne (ne_of_none e' hx),upd_ne hb]; exact e'
  ·rw[upd_ne (ne_of_none e hd)]; exact g
  ·rw[upd_ne (Ne.symm ne)]; exact gx
 obtain⟨q,re,fr⟩:=N.post (Post.refl P.post.rel)
 have P2:=P.front q re fr
 split at h
 ·rename_i ss ea
  split at h
  ·rename_i nd
   have ea2:zO ρ1 (.fr (.ins c [])::vs)=some (.own (.ins c [])::ss):=by simp[zO,ea]
   have nd2:(zM (.fr (.ins c [])::vs)).Nodup:=nd
   refine⟨_,.own (.ins c [])::ss,P2.args ea2 nd2,?_⟩
   generalize F (.own (.ins c [])::ss)=rf at h
   induction rf with
   |no=>exact h.elim
   |new τ k ih=>exact fun a e=>ih a (h a e)
   |ex e ss'=>exact fun cls d H' G' p rx=>h cls d H' G' (P2.back ea2 nd2 p).1 (RX.dom _ P2.post.dom rx)
   |ok v ss'=>
    unfold MQ at h
    split at h
    ·rename_i ss' eq
     cases eq
     intro u H' G' p re' _
     obtain⟨pb,po⟩:=P2.back ea2 nd2 p
     have un:u=.non:=by have z:Fz B G' u .non:=re'; rw[Fz]at z; exact z
     refine⟨un,?_⟩
     split at h
     ·rename_i c' ds e0
      obtain⟨v,e1,a,ho,e2,e3,e4,e5⟩:=p.rel.slot 0 _ e0
      have e1:some (some (V.ref x))=some v:=e1
      cases e1; cases e2
      refine h _ H' G' pb ⟨x,ho,rfl,e3,e4,e5,fun i w=>?_⟩ fun b e=>by cases e; exact P.post.dom _ hx
      rcases po i x w with⟨k,hk,w'⟩|w'
      ·have:=p.rel.sep k 0 x w' (.of rfl e0)
       subst this
       cases hk
      ·obtain⟨ho',f3,_⟩:=P.post.rel.obj w'
       rw[hx]at f3; cases f3
     ·rename_i c' ds e0
      obtain⟨v,e1,u',e2,e3⟩:=p.rel.slot 0 _ e0
      have e1:some (some (V.ref x))=some v:=e1
      cases e1; cases e2
      exact h _ H' G' pb e3 trivial
     ·exact h.elim
    ·rename_i eq; cases eq
    ·rename_i eq; cases eq
    ·exact h.elim
  ·exact h.elim
 ·exact h.elim
def eF (fe:AK):AK:=fun ρ=>(fe ρ).bind fun v ρ1=>match keep1 v ρ1 with
 |some (x,ρ2)=>.ok (.d x) ρ2
 |none=>.no
section
variable {X:Cx} {W:WX'} {e:Expr} {fe:AK}
theorem Nw (he:PEa X W e fe):PEa X W e (eF fe):=
 xv he fun σ H Q ⟨G,ρ,r,h⟩=>by
  refine yr (yx r (Aft.cl (W:=W) (Q:=Q)) h) fun u H1 ⟨v,ρ1,G1,P,h1⟩=>?_
  split at h1
  ·rename_i x ρ2 hk
   obtain⟨G2,P2,f2,_⟩:=Pend.keep1 (us:=[]) (vs:=[]) P hk
   exact h1 u H1 G2 P2.post f2 trivial
  ·exact h1.elim
end
def IsC (K:PySem.W.Frag) (mg:Str→Option Value) (c:Str):Prop:=∃C,mg c=some (.ref C)∧Cls K C∧
 (PySem.W.kitOne K (.type "NoneType") (.ref C)=some false∧PySem.W.kitOne K (.type "bool") (.ref C)=some false∧PySem.W.kitOne K (.type "int") (.ref C)=some false∧PySem.W.kitOne K (.type "str") (.ref C)=some false∧
   PySem.W.kitOne K (.type "tuple") (.ref C)=some false∧PySem.W.kitOne K (.type "list") (.ref C)=some false∧PySem.W.kitOne K (.type "dict") (.ref C)=some false)∧
 PySem.W.kitOne K (.ref C) (.ref C)=some true∧PySem.W.findIn K (.ref C) "__class__"=some (some (.builtin "object.__class__"))∧PySem.W.specialIn K (.builtin "object.__class__") "__get__"=some (some (.builtin "getset_descriptor.__get__"))∧
 PySem.W.takesIn K (.builtin "object.__class__")=some true∧PySem.W.mroIn K C (.type "object")=some true
theorem O4 {K:PySem.W.Frag} {mg:Str→Option Value} {w:World} {c:Str} (I:IsC K mg c):GC ⟨K,mg,w⟩ c (.fn c):=by
 obtain⟨C,hm,_⟩:=I
 exact RA hm
def Mq (c:Str):List D→Option E
 |[x,.fn c']=>if c'=c then match x with
    | .non=>some (eBl false)
    | .bl _=>some (eBl false)
    | .int _=>some (eBl false)
    | .str _=>some (eBl false)
    | .tup _=>some (eBl false)
    | .lst _=>some (eBl false)
    | .dct _=>some (eBl false)
    | .ins c2 _=>if c2=c then some (eBl true)else none
    |_=>none
  else none
 |_=>none
theorem My {B:Bk} {c:Str} (I:IsC B.K B.mg c):SndL B (Mq c) (rIsi B.K):=by
 intro xs v us G H Q e s hx q
 obtain⟨C,hm,cl,⟨k1,k2,k3,k4,k5,k6,k7⟩,ko,ha,hn,ht,hmo⟩:=I
 unfold Mq at e
 split at e
 ·rename_i x c'
  split at e
  ·rename_i hc
   subst hc
   obtain⟨u,w,rfl,h,h'⟩:=Nu hx
   have h':Fz B G w (.fn c'):=h'
   rw[Fz]at h'
   obtain⟨a,rfl,ea⟩:=h'
   rw[hm]at ea; cases ea
   have fin:∀(t:Value) (b:Bool),TyX B.K H u t→PySem.W.kitOne B.K t (.ref C)=some b→v=eBl b→rIsi B.K [u,.ref C] H Q:=fun t b ty ek ev=>by
    subst ev
    exact⟨u,_,t,_,b,rfl,.own C,ty,ek,q _ _ _ (.scalar s (jL _))⟩
   split at e
   ·cases e; rw[Zm h]at fin⊢; exact fin _ _ (.base .non) k1 rfl
   ·cases e; rw[Vq h]at fin⊢; exact fin _ _ (.base (.bl _)) k2 rfl
   ·cases e; rw[y0 h]at fin⊢; exact fin _ _ (.base (.int _)) k3 rfl
   ·cases e; rw[xk h]at fin⊢; exact fin _ _ (.base (.str _)) k4 rfl
   ·cases e
    obtain⟨p,us,rfl,h1,h2⟩:=qO h
    exact fin _ _ (a9 (BY s h1)) k5 rfl
   ·cases e
    obtain⟨p,us,rfl,h1,h2⟩:=h
    exact fin _ _ (.base (.lst h1)) k6 rfl
   ·cases e
    obtain⟨p,us,rfl,h1,h2⟩:=h
    exact fin _ _ (.base (.dK h1)) k7 rfl
   ·rename_i c2 ds
    split at e
    ·rename_i hc2
     subst hc2
     cases e
     obtain⟨a,C',dx,fs,rfl,h1,_,hc',_⟩:=h
     rw[hm]at hc'; cases hc'
     exact fin _ _ (.base (.ins h1 cl ha hn ht hmo)) ko rfl
    ·cases e
   ·cases e
  ·cases e
 ·cases e
def spI (C:Addr) (f:Str):Sp:=fun vs H Q _=>∃(a:Addr) (y:V),vs=[.ref a,y]∧H a=some (exo a C none)∧∀dx,H dx=none→dx≠a→Q .non (upd (upd H dx (exd dx [(f,y)])) a (exo a C (some dx)))
structure ErrOk (P:Program) (w:World) (K:PySem.W.Frag) (mg:Str→Option Value) (base:Heap) (x f:Str):Prop where
 ex:∃(C fI:Addr) (fd:FuncData) (ps:List Str),mg x=some (.ref C)∧OexC K C∧PySem.W.findIn K (.ref C) "__init__"=some (some (.ref fI))∧PySem.W.typeIn K (.ref fI)=some (.type "function")∧FnOk P w K mg base CX0 1 fI fd ps (spI C f)∧Binds K fd ps []
def vy (x f:Str) (fs:List S→Res (List E)):AJ:=fun ρ=>(fs ρ).bind fun vs ρ1=>match keepL vs ρ1 with
 |some ([y],ρ2)=>.ex ⟨x,[(f,y)]⟩ ρ2
 |_=>.no
section
variable {B:Bk} {σ:St} {ρ ρ1:List S} {H H1 G G1:Hp}
theorem Rel.more {o:HO} {dx:Addr} (r:Rel B G1 σ ρ1 H1) (hd:H1 dx=none):Rel B G1 σ ρ1 (upd H1 dx o) where
 sub:=fun b u e=>by rw[upd_ne (ne_of_none (r.sub b u e) hd)]; exact r.sub b u e
 len:=r.len
 slot:=fun i s e=>by
  obtain⟨v,e1,e2⟩:=r.slot i s e
  exact⟨v,e1,e2.step (.refl _) fun a ho _ k2 _ k3=>⟨by rw[upd_ne (ne_of_none k2 hd)]; exact k2,k3⟩⟩
 sep:=r.sep
 tab:=r.tab.same fun b ps h=>by rw[upd_ne (ne_of_none h hd)]; exact h
theorem Post.more {o:HO} {dx:Addr} (p:Post B σ ρ H G σ ρ1 H1 G1) (hd:H1 dx=none):Post B σ ρ H G σ ρ1 (upd H1 dx o) G1 where
 grow:=p.grow
 dom:=fun b e=>by
  by_cases hb:b=dx
  ·subst hb; rw[upd_same]at e; cases e
  ·rw[upd_ne hb]at e; exact p.dom b e
 frame:=fun b u e t n=>by
  have:=p.frame b u e t n
  rw[upd_ne (ne_of_none this hd)]; exact this
 keep:=p.keep
 rel:=p.rel.more hd
 own:=p.own
end
section
variable {X:Cx} {W:WX'} {P:List Nat} {x f:Str} {p pos pos':Pos} {n:Nat} {fs:List S→Res (List E)} {e:Expr} {es:List Expr}
theorem uQ (D:ErrOk X.prog X.w X.K X.mg X.base x f) (r:Rm X.A n) (hn:2≤n) (hc:X.calm=true) (tk:Takes X W) (ha:PAa X W (e::es) fs) (hg:Gl X x:=by rfl) (hdb:(x==("__debug__":Str))=false:=by decide)
  (he:starEach (e::es) X.env=(false,eval e X.env)::starEach es X.env:=by rfl) (hpl:(backTo pos (starEach es X.env)).any (·.1)=false:=by rfl) :
  PSa X W P (.Raise (some (.Call (.Name x p) (e::es) [] pos)) none pos') (vy x f fs):=by
 obtain⟨C,fI,fd,ps,hm,T,iC,tI,F1,hb⟩:=D.ex
 refine YG (ps_raise hc tk (pmk_oex (CX:=CX0) T iC tI F1 (r.r.mono hn) hb .nil (fun _ _ _ _ _ _ _ z=>z.elim) hg hm ha hdb he hpl)) fun D σ H ⟨G,ρ,rl,h⟩=>?_
 refine yY (xt rl (AftS.cl (P:=P) (D:=D)) h) fun us H1 ⟨vs,ρ1,G1,P1,h1⟩=>?_
 split at h1
 ·rename_i y ρ2 ek
  obtain⟨G2,p2,f2,_⟩:=P1.keepL ek
  have hl:=f2.length
  obtain⟨u,rfl⟩:=pY (us:=us) hl
  ·rw[FzL]at f2
   refine⟨by simp,fun a ha=>⟨a,u,rfl,upd_same,fun dx hdx hne=>⟨rfl,dx,[(f,u)],upd_same,?_,?_,?_⟩⟩⟩
   ·rw[upd_ne hne,upd_same]
   ·rw[upd_ne hne]at hdx; exact hdx
   ·rw[upd_ne hne]at hdx
    have eq:upd (del (upd (upd (upd H1 a (exo a C none)) dx (exd dx [(f,u)])) a (exo a C (some dx))) a) dx (.xd [(f,u)])=upd H1 dx (.xd [(f,u)]):=by
     funext b
     by_cases hb:b=dx
     ·subst hb; rw[upd_same,upd_same]
     ·rw[upd_ne hb,upd_ne hb]
      by_cases hba:b=a
      ·subst hba; rw[del_same,ha]
      ·rw[del_ne hba,upd_ne hba,upd_ne hb,upd_ne hba]
    rw[eq]
    refine h1 (.ref C) (some dx) σ _ G2 (p2.more hdx) (fun _ _=>rfl) ⟨C,hm,rfl,.inr ⟨dx,[(f,u)],rfl,p2.dom _ hdx,upd_same,?_⟩⟩
    rw[FzF,FzF]
    exact⟨rfl,f2.1,trivial⟩
 ·exact h1.elim
end
structure DefX (P:Program) (w:World) (K:PySem.W.Frag) (mg:Str→Option Value) (base:Heap) (x:Str) (par:List Str) (n:Nat) (F:AK):Prop where
 ex:∃(a:Addr) (fd:FuncData),mg x=some (.ref a)∧PySem.W.keepIn K (.ref a)=true∧Binds K fd par []∧KwB K fd par par∧FnG P w K mg base (L2.CX P w) n a fd par F
 len:Len F par.length
section
variable {P:Program} {w:World} {K:PySem.W.Frag} {mg:Str→Option Value} {base:Heap} {n:Nat} {a:Addr} {x qual:Str} {st:Stmt} {N par:List Str} {fd:FuncData}
theorem FnG.ofX {f:AJ} (F:Fun K x qual st a fd) (S:FnScope N par (defScope st)) (np nl:Nat) (hnp:par.length=np) (hnl:N.length - np=nl)
  (hbody:∀(cd:Value) (A:Around) (up:List Env) (s0:Shared) (H:Hp) (Ex:XK),(A.deeper (envOfC qual (defScope st) s0.heap.objs.size a cd)).guards=some []→Room n (A.deeper (envOfC qual (defScope st) s0.heap.objs.size a cd))→
    Takes (cxOf (L2.CX P w) P w K mg base N qual (defScope st) a cd A up s0 H Ex) (fun cls d _ H=>Ex cls d H)→
    kF (cxOf (L2.CX P w) P w K mg base N qual (defScope st) a cd A up s0 H Ex) (fun cls d _ H=>Ex cls d H) (List.range np) (defBody st) f) :
  FnG P w K mg base (L2.CX P w) (n+1) a fd par (zJ np nl f):=
 FnG.of F S np nl hnp hnl fun cd A up s0 H Ex hg hr=>hbody cd A up s0 H Ex hg hr (takes_of (E:=Ex) rfl rfl rfl rfl)
end
theorem K1 {X:Cx} {W:WX'} (tk:Takes X W):dw (L2.CX X.prog X.w) X W:=fun pins σ H s e s' I c=>tk e s' (XE.of_call I (fun _ _ _ h=>h) c)
theorem nQ {X:Cx}:Takes X (fun _ _ _ _=>False):=fun _ _ x=>by
 obtain⟨_,_,_,_,_,_,_,_,_,_,_,_,_,_,_,_,z⟩:=x
 exact z.elim
section
variable {X:Cx} {W:WX'} {x:Str} {p pos:Pos} {par:List Str} {m n:Nat} {F:AK} {fs:List S→Res (List E)} {e:Expr} {es:List Expr} {kws:List Keyword}
theorem Ny (D:DefX X.prog X.w X.K X.mg X.base x par m F) (r:Rm X.A n) (tk:Takes X W) (hmn:m≤n) (ha:PAa X W (e::es) fs) (hg:Gl X x:=by rfl) (hdb:(x==("__debug__":Str))=false:=by decide) (he:starEach (e::es) X.env=(false,eval e X.env)::starEach es X.env:=by rfl) (hpl:(backTo pos (starEach es X.env)).any (·.1)=false:=by rfl) :
  PEa X W (.Call (.Name x p) (e::es) [] pos) (aFn F fs):=by
 obtain⟨a,fd,hm,hk,hb,_,hF⟩:=D.ex
 exact Ri (hF.mono hmn) D.len r.g r.r (K1 tk) hm hk hb ha hg hdb he hpl
theorem OO (D:DefX X.prog X.w X.K X.mg X.base x par m F) (r:Rm X.A n) (tk:Takes X W) (hmn:m≤n) (ha:PKa X W kws fs) (hall:(backToKw pos (keywordEach kws X.env)).all (·.1.isSome)=true:=by rfl) (hks:(backToKw pos (keywordEach kws X.env)).filterMap (·.1)=par:=by rfl)
  (hg:Gl X x:=by rfl) (hdb:(x==("__debug__":Str))=false:=by decide) (hpl:((backTo pos (starEach [] X.env)).any (·.1)||(backToKw pos (keywordEach kws X.env)).any (·.1.isNone))=false:=by rfl) :
  PEa X W (.Call (.Name x p) [] kws pos) (aFn F fs):=by
 obtain⟨a,fd,hm,hk,_,hb,hF⟩:=D.ex
 exact Nv (hF.mono hmn) D.len r.g r.r (K1 tk) hm hk hb ha hall hks hg hdb hpl
end
theorem OS {P:Program} {w:World} {K:PySem.W.Frag} {mg:Str→Option Value} {base:Heap} {x fld arg slf qual:Str} {st:Stmt} {C fI cc cda:Addr} {ar:Arg} {oc:Value} {od an:Option Addr} {osl:Array (Option Value)} {kV doc pm ct:Value} {p0 p1 p2 p3 p4 p5 p6 p7 p8:Pos}
  (hm:mg x=some (.ref C)) (T:XI.SupC P K mg C fI cc cda fld arg qual ar) (iC:PySem.W.findIn K (.ref C) "__init__"=some (some (.ref fI))) (tI:PySem.W.typeIn K (.ref fI)=some (.type "function"))
  (exC:PySem.W.subIn K (.ref C) (.type "BaseException")=some true) (tyC:PySem.W.typeIn K (.ref C)=some (.type "type")) (kC:PySem.W.keepIn K (.ref C)=true)
  (lk:K.lookup fI=some ⟨oc,od,.func (PySem.W.ksFn "__init__" qual (defArgs st) (defBody st) (defScope st) .none kV doc pm an (.ref cda) ct cc),osl⟩) (hcd:PySem.W.codeIn K (.ref cda) qual=true)
  (hbody:defBody st=[.Expr (.Call (.Attribute (.Call (.Name "super" p0) [] [] p1) "__init__" p2) [] [] p3) p4,.Assign [.Attribute (.Name slf p5) fld p6] (.Name arg p7) p8])
  (hp:((defArgs st).posonlyargs++(defArgs st).args).head?=some ar) (hslf:ar.arg=slf) (hne:slf≠arg)
  (s1:(defScope st).names.lookup ("super":Str)=some .globalImplicit) (s2:(defScope st).names.lookup ("__class__":Str)=some .free) (s3:(defScope st).names.lookup slf=some .local) (s4:(defScope st).names.lookup arg=some .local) (hcell:∀x∈(defScope st).names,x.2≠.cell) (hk:(defScope st).kind=.function)
  (hco:(defScope st).isCoroutine=false) (hgen:(defScope st).isGenerator=false) (hd5:(slf==("__debug__":Str))=false) (hd7:(arg==("__debug__":Str))=false)
  (hc:∀env:Env,∃pl:Sem Bool,eval (.Call (.Attribute (.Call (.Name "super" p0) [] [] p1) "__init__" p2) [] [] p3) env=(do
    let ov←attributeBase (.Call (.Name "super" p0) [] [] p1) "__init__" env (eval (.Call (.Name "super" p0) [] [] p1) env)
    standAt p2.atName
    let (f,first)←holding [ov] (getMethod ov "__init__" pl)
    callWith p3 f first (backTo p3 (starEach [] env)) []))
  (hbind:∀us:List Value,us.length=2→bindArgs (PySem.W.ksFn "__init__" qual (defArgs st) (defBody st) (defScope st) .none kV doc pm an (.ref cda) ct cc) ⟨us,[]⟩=pure ([slf,arg].zip us)):ErrOk P w K mg base x fld:=by
 refine⟨⟨C,fI,_,[slf,arg],hm,⟨T.cls,T.sa,exC,tyC,kC⟩,iC,tI,⟨fun vs H Q E h=>?_,fun A outer s H args us vs Q E hr e0 hb rv h=>?_⟩,.all hbind⟩⟩
 ·obtain⟨a,y,rfl,_⟩:=h; rfl
 ·obtain⟨a,y,rfl,ea,q⟩:=h
  obtain⟨u1,u2,rfl,r1,r2⟩:=vals2 rv
  obtain rfl:u1=Value.ref a:=r1
  rw[hbody]at lk hb
  exact XI.init_run T lk hcd hp hslf hne s1 s2 s3 s4 hcell hk hco hgen hd5 hd7 hc hr e0 hb r2 ea q
def JG (f:AK):AK:=fun ρ=>match f ρ with
 | .ok v ρ'=>.ok v ρ'
 | .new τ k=>.new τ fun a=>(k a).noex
 |_=>.no
theorem iU {f:AK} {ρ:List S}:JG f ρ=(f ρ).noex:=by
 unfold JG
 cases f ρ<;>rfl
theorem lW {X:Cx} {W:WX'} {e:Expr} {f:AK} (h:PEa X (fun _ _ _ _=>False) e f):PEa X W e (JG f):=
 xv h fun σ H Q ⟨G,ρ,r,q⟩=>by
  refine⟨G,ρ,r,?_⟩
  rw[iU]at q
  generalize f ρ=rf at q
  induction rf with
  |no=>exact q.elim
  |ex e ρ1=>exact q.elim
  |ok v ρ1=>exact q
  |new τ k ih=>exact fun a e=>ih a (q a e)
def Q7 (t:Tg) (c:List S→Res Bool) (fk fv:AK) (vs:List Nat):List D→List (Key×D)→List S→Res (List (Key×D))
 |[],acc,ρ=>.ok acc ρ
 |x::xs,acc,ρ=>match zQ t x ρ with
  |none=>.no
  |some ρ1=>(c ρ1).bind fun b ρ2=>if b=true then(fk ρ2).bind fun w ρ3=>match w with
    | .d kd=>match kd.key? with
      |some k=>(fv ρ3).bind fun v ρ4=>match keep1 v ρ4 with
       |some (y,ρ5)=>if acc.length<sizeLine then Q7 t c fk fv vs xs (JT acc k y) (zo ρ5 vs)else .no
       |none=>.no
      |none=>.no
    |_=>.no
   else Q7 t c fk fv vs xs acc (zo ρ2 vs)
def aDc (vs:List Nat) (it:List S→Res (List D)) (t:Tg) (c:List S→Res Bool) (fk fv:AK):AK:=fun ρ=>(it ρ).bind fun xs ρ1=>
 if ya ρ1 vs=true then(Q7 t c fk fv vs xs [] (zo ρ1 vs)).noex.bind fun acc ρ2=>.ok (.fr (.dct acc)) (zA ρ1 ρ2 vs)else .no
theorem FzK.length' {B:Bk} {G:Hp}:∀{ds:List (Key×D)} {vs:List (Key×V)},FzK B G vs ds→vs.length=ds.length
 |[],[],_=>rfl
 |[],_::_,h=>by rw[FzK]at h; exact h.elim
 |_::_,[],h=>by rw[FzK]at h; exact h.elim
 |_::_,_::_,h=>by rw[FzK]at h; rw[List.length_cons,List.length_cons,FzK.length' h.2.2]
section
variable {B:Bk} {W:WX'} {it:List S→Res (List D)} {t:Tg} {c:List S→Res Bool} {fk fv:AK} {vs:List Nat}
theorem Rx {J:It} {σ:St} {ρ1:List S} {H1 G1:Hp} {C:Hp→Prop} {xs:List D} {Q:VK} (ht:∀j,j∈t.names→j∈vs) (r1:Rel B G1 σ ρ1 H1) (wk:WalksF B J G1 C xs)
  (hC:∀ρi Hi Gi,Post B (wipe σ vs) (zo ρ1 vs) H1 G1 (wipe σ vs) ρi Hi Gi→C Hi) (hv:∀v∈vs,LU ρ1[v]?) {Φ:Res (List (Key×D))→Prop} (hnew:∀τ k,Φ (.new τ k)→∀a,τ a=none→Φ (k a)) (hno:¬Φ .no) (hex:∀e ρ',¬Φ (.ex e ρ')) (eg:Φ (Q7 t c fk fv vs xs [] (zo ρ1 vs)))
  (h:∀acc ρ2,Φ (.ok acc ρ2)→∀u H' G',Post B σ ρ1 H1 G1 σ (zA ρ1 ρ2 vs) H' G'→RE B G' σ (zA ρ1 ρ2 vs) H' u (.fr (.dct acc))→XF H1 u (.fr (.dct acc))→Q u H') (D:Addr) (hD:H1 D=none) :
  ∃W:Nat→Nat→Hp→Prop,(∃m,W 0 m (upd H1 D (.dK [])))∧∀i m H,W i m H→
 (J.stop i H∧Q (.ref D) H)∨(J.go i H∧∃Nx:Hp→Prop,(∀H',Nx H'→∃m',m'<m∧W (i+1) m' H')∧∀x H',J.yld i H x H'→gD B t x (wipe σ vs) H' fun σ2 H2=>wipe σ2 vs=wipe σ vs∧Xn B WF c σ2 H2 fun b H3=>
   if b=true then jb B WF fk σ2 H3 fun y H4=>jb B WF fv σ2 H4 fun z H5=>∃kvs k,y=kV k∧H5 D=some (.dK kvs)∧kvs.length<sizeLine∧Nx (upd H5 D (.dK (putK kvs k z)))else Nx H3):=by
 have gD1:G1 D=none:=Same.free r1.sub hD
 have notD:∀j,¬Own σ ρ1 j D:=fun j w=>by
  obtain⟨ho,e3,_⟩:=r1.obj w
  rw[hD]at e3; cases e3
 refine⟨fun i m Hi=>m=xs.length - i∧i≤xs.length∧∃ρi Gi accv acci,Post B (wipe σ vs) (zo ρ1 vs) H1 G1 (wipe σ vs) ρi Hi Gi∧Hi D=some (.dK accv)∧Gi D=none∧(∀j,¬Own (wipe σ vs) ρi j D)∧FzK B Gi accv acci∧Φ (Q7 t c fk fv vs (xs.drop i) acci ρi),
  ⟨xs.length,by simp,Bg _,zo ρ1 vs,G1,[],[],?_,upd_same,gD1,fun j w=>notD j (xN w).1,(by rw[FzK]; trivial),by simpa using eg⟩,?_⟩
 ·exact(Post.refl r1.wipe).poke r1.tab hD gD1 fun j w=>notD j (xN w).1
 rintro i m Hi ⟨rfl,hi,ρi,Gi,accv,acci,P,hHD,hGD,hND,hF,hgo⟩
 by_cases hlt:i<xs.length
 ·refine .inr ⟨wk.go i Hi Gi hlt P.grow P.rel.sub (hC ρi Hi Gi P),fun H'=>∃ρi Gi accv acci,Post B (wipe σ vs) (zo ρ1 vs) H1 G1 (wipe σ vs) ρi H' Gi∧H' D=some (.dK accv)∧Gi D=none∧(∀j,¬Own (wipe σ vs) ρi j D)∧FzK B Gi accv acci∧Φ (Q7 t c fk fv vs (xs.drop (i+1)) acci ρi),
   fun H' q=>⟨xs.length - (i+1),by omega,rfl,hlt,q⟩,fun v H' y=>?_⟩
  obtain⟨x,G2,ex,nw⟩:=wk.yld i Hi Gi v H' hlt P.grow P.rel.sub (hC ρi Hi Gi P) y
  obtain⟨q1,re,_⟩:=nw.post (Post.refl P.rel)
  have re:Fz B G2 v x:=re
  have hdr:xs.drop i=x::xs.drop (i+1):=by
   rw[List.drop_eq_getElem_cons hlt]
   have:xs[i]=x:=by rw[AX hlt]at ex; exact Option.some.inj ex
   rw[this]
  rw[hdr,Q7]at hgo
  split at hgo
  ·exact(hno hgo).elim
  ·rename_i ρa ea
   refine⟨G2,ρi,x,ρa,q1.rel,re,ea,fun σ2 p2 k2=>?_⟩
   have w2:wipe σ2 vs=wipe (wipe σ vs) vs:=c8 (by have h1:=p2.rel.len; have h2:=q1.rel.len; have h3:=g8 ea; omega) fun j hj=>k2 j fun z=>hj (ht j z)
   rw[bG]at w2
   ·refine⟨w2,?_⟩
    have P2:=q1.trans p2
    have D2:H' D=some (.dK accv):=q1.frame D _ hHD gu hND
    refine⟨G2,ρa,p2.rel,?_⟩
    generalize c ρa=rc at hgo
    induction rc with
    |no=>exact(hno hgo).elim
    |ex e ρ'=>exact(hex _ _ hgo).elim
    |new τ k ih=>exact fun a e=>ih a (hnew _ _ hgo a e)
    |ok b ρb=>
     rw[Res.bind_ok]at hgo
     intro H3 G3 p3
     have P3:=P2.trans p3
     have D3:H3 D=some (.dK accv):=P3.frame D _ hHD gu hND
     have N3:∀j,¬Own σ2 ρb j D:=P3.notown hHD hND
     have K3:G3 D=none:=P3.keep D _ hHD gu hGD hND
     cases b with
     |false=>
      rw[if_neg Bn]at hgo⊢
      refine⟨zo ρb vs,G3,accv,acci,?_,D3,K3,fun j w=>?_,FzK.mono P3.grow _ _ hF,hgo⟩
      ·have:=(P.trans P3).wipeR (vs:=vs)
       rw[w2]at this; exact this
      ·rw[←w2]at w
       exact N3 j (xN w).1
     |true=>
      rw[if_pos rfl]at hgo⊢
      refine⟨G3,ρb,p3.rel,?_⟩
      generalize fk ρb=rf at hgo
      induction rf with
      |no=>exact(hno hgo).elim
      |ex e ρ'=>exact(hex _ _ hgo).elim
      |new τ k ih=>exact fun a e=>ih a (hnew _ _ hgo a e)
      |ok w ρc=>
       rw[Res.bind_ok]at hgo
       cases w with
       |sl _=>exact(hno hgo).elim
       |ad _=>exact(hno hgo).elim
       |fr _=>exact(hno hgo).elim
       |d kd=>
        cases hk0:kd.key? with
        |none=>simp only[hk0]at hgo; exact(hno hgo).elim
        |some k=>
         simp only[hk0]at hgo
         intro u H4 G4 p4 re4 _
         have P4:=P3.trans p4
         have re4:Fz B G4 u kd:=re4
         refine⟨G4,ρc,p4.rel,?_⟩
         generalize fv ρc=rg at hgo
         induction rg with
         |no=>exact(hno hgo).elim
         |ex e ρ'=>exact(hex _ _ hgo).elim
         |new τ k ih=>exact fun a e=>ih a (hnew _ _ hgo a e)
         |ok w2' ρd=>
          rw[Res.bind_ok]at hgo
          split at hgo
          ·rename_i y ρe hk
           split at hgo
           ·rename_i hz
            intro z H5 G5 p5 re5 fr5
            obtain⟨G6,pd,f6,s6⟩:=Pend.keep1 (Pend.one p5 p4.rel re5 fr5) hk
            have P5:=P4.trans pd.post
            have D5:H5 D=some (.dK accv):=P5.frame D _ hHD gu hND
            have N5:∀j,¬Own σ2 ρe j D:=P5.notown hHD hND
            have K5:G6 D=none:=P5.keep D _ hHD gu hGD hND
            have F5:FzK B G6 accv acci:=FzK.mono P5.grow _ _ hF
            refine⟨accv,k,s_ re4 hk0,D5,by rw[FzK.length' F5]; exact hz,zo ρe vs,G6,putK accv k z,JT acci k y,?_,upd_same,K5,fun j w=>?_,FzK.put f6 F5,hgo⟩
            ·have:=((P.trans P5).poke (o:=.dK (putK accv k z)) r1.tab hD K5 N5).wipeR (vs:=vs)
             rw[w2]at this; exact this
            ·rw[←w2]at w
             exact N5 j (xN w).1
           ·exact(hno hgo).elim
          ·exact(hno hgo).elim
 ·have e:i=xs.length:=by omega
  subst e
  refine .inl ⟨wk.stop Hi Gi P.grow P.rel.sub (hC ρi Hi Gi P),?_⟩
  rw[List.drop_length,Q7]at hgo
  have pb:=B5 r1 hv P
  refine h acci ρi hgo (.ref D) Hi Gi pb ⟨D,.dK accv,rfl,hHD,hGD,⟨accv,rfl,hF⟩,fun j w=>?_⟩ fun a e=>?_
  ·rcases J0 (by have h1:=P.rel.len; have h2:=r1.len; rw[wipe_length]at h1; omega) w with⟨_,z⟩|⟨_,z⟩
   ·exact notD j z
   ·exact hND j z
  ·cases e; exact hD
theorem OP (ht:∀j,j∈t.names→j∈vs) (σ:St) (H:Hp) (Q:VK) (h:jb B W (aDc vs it t c fk fv) σ H Q):tDc (Kw B W it) (gD B t) (Xn B WF c) (jb B WF fk) (jb B WF fv) vs σ H Q:=by
 obtain⟨G,ρ,r,h⟩:=h
 refine⟨G,ρ,r,?_⟩
 unfold aDc at h
 generalize it ρ=ri at h
 induction ri with
 |no=>exact h
 |ex e ρ'=>exact h
 |new τ k ih=>exact fun a e=>ih a (h a e)
 |ok xs ρ1=>
  rw[Res.bind_ok]at h
  split at h
  ·rename_i hno
   intro J H1 G1 p1 wk D hD
   exact Rx (Φ:=fun r=>Aft B W σ ρ H G Q (r.noex.bind fun acc ρ2=>.ok (.fr (.dct acc)) (zA ρ1 ρ2 vs))) ht p1.rel wk.toF (fun _ _ _ _=>trivial) (ap hno) (fun τ k z a e=>z a e) (fun z=>z) (fun _ _ z=>z) h
    (fun acc ρ2 h u H' G' p re fr=>h u H' G' (p1.trans p) re fun a e=>p1.dom a (fr a e)) D hD
  ·exact h.elim
end
section
variable {X:Cx} {W:WX'} {tg iter kx vx:Expr} {ifs:List Expr} {scope:Scope} {own:List (Str×Nat)} {pos:Pos} {it:List S→Res (List D)} {t:Tg} {c:List S→Res Bool} {fk fv:AK} {vs:List Nat}
theorem Rh (hc:X.calm=true) (hN:X.N.Nodup) (ok:BlkOk X.N X.env.scope scope own) (hv:own.map (·.2)=vs) (ht:∀j,j∈t.names→j∈vs) (hi:PIa X W tg iter it)
  (hg:∀(s:Shared) (H:Hp) (C:Addr) (cl:List (Str×Addr)) (fp:List Addr),PG (X.blk s H scope (compEnvC scope cl C X.env) fp) tg (gD X.bk t))
  (hc':∀(s:Shared) (H:Hp) (C:Addr) (cl:List (Str×Addr)) (fp:List Addr),PTs (X.blk s H scope (compEnvC scope cl C X.env) fp) ifs (Xn X.bk WF c))
  (he:∀(s:Shared) (H:Hp) (C:Addr) (cl:List (Str×Addr)) (fp:List Addr),PE (X.blk s H scope (compEnvC scope cl C X.env) fp) kx (jb X.bk WF fk))
  (hw:∀(s:Shared) (H:Hp) (C:Addr) (cl:List (Str×Addr)) (fp:List Addr),PE (X.blk s H scope (compEnvC scope cl C X.env) fp) vx (jb X.bk WF fv)) (hs:∀x,foldedSetIterable iter X.env x=pure x:=by intro _; rfl) :
  PEa X W (.DictComp kx vx [⟨tg,iter,ifs,0⟩] scope pos) (aDc vs it t c fk fv):=by
 subst hv
 exact xv (pe_dc hc hN hi ok hg hc' he hw hs) fun σ H Q q=>OP ht σ H Q q
end
structure EqK (K:PySem.W.Frag) (C f:Addr):Prop where
 eq:PySem.W.findIn K (.ref C) "__eq__"=some (some (.ref f))
 fn:PySem.W.isFn K (.ref f)=true
 ne:PySem.W.findIn K (.ref C) "__ne__"=some (some (.builtin "object.__ne__"))
 obj:PySem.W.subIn K (.ref C) (.type "object")=some true
 st:PySem.W.subIn K (.ref C) (.type "tuple")=some false
 si:PySem.W.subIn K (.ref C) (.type "int")=some false
 ss:PySem.W.subIn K (.ref C) (.type "str")=some false
 sn:PySem.W.subIn K (.ref C) (.type "NoneType")=some false
 ft:PySem.W.notFirst K C (.type "tuple")=true
 fi:PySem.W.notFirst K C (.type "int")=true
 fs:PySem.W.notFirst K C (.type "str")=true
 fn':PySem.W.notFirst K C (.type "NoneType")=true
section
variable {prog:Program} {w:World} {A:Around} {E:Value→Shared→Prop} {s:Shared} {K:PySem.W.Frag} {x C f:Addr} {ox:Obj} {od:Option Obj} {b tb:Value}
theorem wZ {op:CmpOp} {Q:Value→Shared→Prop} (hu:A.units<cLine) (X:K.In s.heap) (I:PySem.W.InstAt s.heap x ox C od) (hb:PySem.W.Looks (model prog w) s.heap (typeOf b) tb) (hn:PySem.W.notFirst K C tb=true)
  (one:wpAny (model prog w) A (tryCompare (.ref x) (cmpInfo op).2.1 b) (fun r s'=>∃v,r=some v∧Q v s') E s):wpAny (model prog w) A (richCompare op (.ref x) b) Q E s:=by
 unfold richCompare
 simp only[oneThing_ref]
 refine wpAny_holding (wpAny_bind (wpAny_cRoomFor hu ?_))
 refine wpAny_bind (I.type.here (wpAny_bind (hb.here ?_)))
 split
 ·rename_i q
  have e:PySem.W.subIn K tb (.ref C)=some false:=by
   rcases Bool.or_eq_true_iff.mp hn with e|e
   ·rw[beq_iff_eq.mp e]at q; simp at q
   ·exact beq_iff_eq.mp e
  refine wpAny_bind ((PySem.W.looks_subIn X e).here ?_)
  simp only[Bool.false_eq_true,if_false]
  refine wpAny_bind (wpAny_mono one (fun r s' z=>?_) fun _ _ e=>e)
  obtain⟨v,rfl,hq⟩:=z
  exact wpAny_pure hq
 ·refine wpAny_bind (wpAny_pure ?_)
  simp only[Bool.false_eq_true,if_false]
  refine wpAny_bind (wpAny_mono one (fun r s' z=>?_) fun _ _ e=>e)
  obtain⟨v,rfl,hq⟩:=z
  exact wpAny_pure hq
theorem KU {Q:Value→Shared→Prop} (X:K.In s.heap) (I:PySem.W.InstAt s.heap x ox C od) (k:EqK K C f)
  (h:wpAny (model prog w) A (call (.ref f) [.ref x,b]) (fun v s'=>∃r,v=.bool r∧Q (.bool r) s') E s):wpAny (model prog w) A (tryCompare (.ref x) "__eq__" b) (fun r s'=>∃v,r=some v∧Q v s') E s:=by
 unfold tryCompare
 refine wpAny_bind (PySem.W.ifBound_K X I k.eq k.fn (wpAny_mono h (fun v s' hv=>?_) fun _ _ e=>e))
 obtain⟨r,rfl,q⟩:=hv
 exact wpAny_pure ⟨_,rfl,q⟩
theorem cA {Q:Fin→Shared→Prop} (hu:A.units<cLine) (X:K.In s.heap) (I:PySem.W.InstAt s.heap x ox C od) (k:EqK K C f)
  (h:wpAny (model prog w) A (call (.ref f) [.ref x,b]) (fun v s'=>∃r,v=.bool r∧Q (.done (.ret (.bool (!r)))) s') E s):wpAny (model prog w) A (Builtin.«object.__ne__» ⟨[.ref x,b],[]⟩) Q E s:=by
 unfold Builtin.«object.__ne__»
 refine wpAny_bind (m:=slotArgs "__ne__" 1 _) (wpAny_pure ?_)
 dsimp only
 refine wpAny_bind (wpAny_cRoomFor hu ?_)
 refine wpAny_bind (PySem.W.ifBound_K X I k.eq k.fn (wpAny_mono h (fun v s' hv=>?_) fun _ _ e=>e))
 obtain⟨r,rfl,q⟩:=hv
 exact wpAny_bind (wpAny_truthy_bool (wpAny_pure q))
theorem fK {M:Model} {name:Str} {id:String} {args:List Value} {Q:Option Value→Shared→Prop} (hb:∀self,bindSpecial (.builtin id) self=pure (.builtin id,[self])) (X:K.In s.heap) (I:PySem.W.InstAt s.heap x ox C od)
  (hs:PySem.W.findIn K (.ref C) name=some (some (.builtin id)))
  (h:wpAny M A (call (.builtin id) (.ref x::args)) (fun v=>Q (some v)) E s):wpAny M A (callSpecialIfBound? (.ref x) name args) Q E s:=by
 simp only[callSpecialIfBound?,bindSpecialIfBound?]
 refine wpAny_holding (wpAny_bind (wpAny_bind (wpAny_bind (I.type.here ((PySem.W.looks_findIn X hs).here ?_)))))
 simp only[hb]
 refine wpAny_bind (wpAny_askSetting (wpAny_ite ?_))
 have fin:wpAny M A (call (.builtin id) ([.ref x]++args) >>=fun v=>pure (some v)) Q E s:=wpAny_bind (wpAny_mono h (fun v s' h'=>wpAny_pure h') fun _ _ h'=>h')
 split
 ·exact wpAny_bind (wpAny_pure (wpAny_pure fin))
 ·exact wpAny_tryCatch (wpAny_bind (wpAny_pure (wpAny_pure fin)))
theorem Py {Q:Value→Shared→Prop} (hu:A.in1.units<cLine) (X:K.In s.heap) (I:PySem.W.InstAt s.heap x ox C od) (k:EqK K C f)
  (h:wpAny (model prog w) A.in1 (call (.ref f) [.ref x,b]) (fun v s'=>∃r,v=.bool r∧Q (.bool (!r)) s') E s):wpAny (model prog w) A (tryCompare (.ref x) "__ne__" b) (fun r s'=>∃v,r=some v∧Q v s') E s:=by
 unfold tryCompare
 refine wpAny_bind (fK F.cmp_object.ne.bind X I k.ne (wpAny_call (codeAny_call_builtin F.cmp_object.ne.plain F.cmpEntry_ne
  (PySem.W.check_slot F.cmpKind_ne F.cmpSplit_ne (I.type.andThen (PySem.W.looks_subIn X k.obj)) (F.cmpArgs_ne _ _) (cA (A:=A.in1) hu X I k (wpAny_mono h (fun v s' hv=>?_) fun _ _ e=>e))))))
 obtain⟨r,rfl,q⟩:=hv
 exact⟨r,rfl,wpAny_pure ⟨_,rfl,q⟩⟩
theorem VF {a:Value} {y:Addr} {T id:String} {b':Builtin} {Q:Value→Shared→Prop} (hu:A.units<cLine) (hT:s.TypeIs a T) (S:Slot T "__eq__" id) (X:K.In s.heap) (I:PySem.W.InstAt s.heap y ox C od) (k:EqK K C f)
  (hno:oneThing? .Eq a (.ref y)=none) (hs:PySem.W.subIn K (.ref C) (.type T)=some false) (hb:entryFor table id=some b') (ha:argsOk id ⟨[a,.ref y],[]⟩)
  (dec:∀{R:Fin→Shared→Prop},R (.done (.ret .notImplemented)) s→wpAny (model prog w) A.in1 (b' ⟨[a,.ref y],[]⟩) R E s)
  (h:wpAny (model prog w) A (call (.ref f) [.ref y,a]) (fun v s'=>∃r,v=.bool r∧Q (.bool r) s') E s):wpAny (model prog w) A (richCompare .Eq a (.ref y)) Q E s:=by
 unfold richCompare
 rw[hno]
 refine wpAny_holding (wpAny_bind (wpAny_cRoomFor hu ?_))
 dsimp only[cmpInfo]
 refine wpAny_bind (wpAny_typeOf hT (wpAny_bind (I.type.here ?_)))
 rw[if_pos (by rfl)]
 refine wpAny_bind ((PySem.W.looks_subIn X hs).here ?_)
 simp only[Bool.false_eq_true,if_false,Bool.not_false,if_true]
 refine wpAny_bind (m:=tryCompare a _ _) (wpAny_tryCompare_declines hT S ?_)
 refine wpAny_call (codeAny_call_builtin S.plain hb (S.check _ _ _ _ _ _ _ _ hT ha (dec ?_)))
 refine⟨rfl,?_⟩
 refine wpAny_bind (wpAny_mono (KU X I k h) (fun r s' z=>?_) fun _ _ e=>e)
 obtain⟨v,rfl,hq⟩:=z
 exact wpAny_pure hq
theorem tK {y:Addr} {R:Fin→Shared→Prop} (q:R (.done (.ret .notImplemented)) s):wpAny (model prog w) A (Builtin.«NoneType.__eq__» ⟨[.none,.ref y],[]⟩) R E s:=by
 obtain⟨hp,g,d,tk,os⟩:=s
 wp_walk
 exact q
theorem dec_int {y:Addr} {o:Obj} {i:Int} {t:Tok} (ho:s.heap.get? y=some o) (hd:o.data=.plain) {R:Fin→Shared→Prop} (q:R (.done (.ret .notImplemented)) s):wpAny (model prog w) A (Builtin.«int.__eq__» ⟨[.int i t,.ref y],[]⟩) R E s:=by
 obtain⟨hp,g,d,tk,os⟩:=s
 obtain⟨c,dd,data,sl⟩:=o
 simp only at hd
 subst hd
 wp_walk using wpAny_loadPart' ho,wpAny_load ho
 exact q
theorem dec_str {y:Addr} {o:Obj} {i:Str} {t:Tok} (ho:s.heap.get? y=some o) (hd:o.data=.plain) {R:Fin→Shared→Prop} (q:R (.done (.ret .notImplemented)) s):wpAny (model prog w) A (Builtin.«str.__eq__» ⟨[.str i t,.ref y],[]⟩) R E s:=by
 obtain⟨hp,g,d,tk,os⟩:=s
 obtain⟨c,dd,data,sl⟩:=o
 simp only at hd
 subst hd
 wp_walk using wpAny_loadPart' ho,wpAny_load ho
 exact q
theorem Mc {y p:Addr} (X:K.In s.heap) (I:PySem.W.InstAt s.heap y ox C od) (k:EqK K C f) {R:Fin→Shared→Prop} (q:R (.done (.ret .notImplemented)) s):wpAny (model prog w) A (Builtin.«tuple.__eq__» ⟨[.ref p,.ref y],[]⟩) R E s:=by
 unfold Builtin.«tuple.__eq__»
 show wpAny _ _ (slotArgs "__eq__" 1 _ >>=_) _ _ _
 refine wpAny_bind (m:=slotArgs "__eq__" 1 _) (wpAny_pure ?_)
 dsimp only
 have L:PySem.W.Looks (model prog w) s.heap (isInstance (.ref y) (.type "tuple")) false:=I.type.andThen (PySem.W.looks_subIn X k.st)
 refine wpAny_bind (L.here ?_)
 show wpAny _ _ (ret Value.notImplemented) _ _ _
 exact wpAny_pure q
theorem U1 {T:String} (h:s.TypeIs b T):PySem.W.Looks (model prog w) s.heap (typeOf b) (.type T):=by
 cases b with
 |ref a=>
  obtain⟨o,ho,hc⟩:=h
  exact hc▸(PySem.W.Looks.ld ho).andThen .now
 |_=>exact PySem.W.Looks.of_pure h
end
def okR (c:Str):D→Bool
 | .tup _=>true
 | .non=>true
 | .int _=>true
 | .str _=>true
 | .ins c' _=>c'==c
 |_=>false
def okL:D→Bool
 | .tup _=>true
 | .non=>true
 | .int _=>true
 | .str _=>true
 |_=>false
def MO (neg:Bool):Res E→Res E
 | .ok (.d (.bl b)) ρ=>.ok (eBl (b != neg)) ρ
 |_=>.no
def bN (c:Str) (neg:Bool) (F:AK) (va vb:E) (ρ:List S):Res E:=match va.val ρ,vb.val ρ with
 |some (.ins c' _),some y=>if c'=c∧okR c y=true then MO neg (zx F [va,vb] ρ)else .no
 |some x,some (.ins c' _)=>if c'=c∧okL x=true∧neg=false then MO neg (zx F [vb,va] ρ)else .no
 |_,_=>.no
def lS (c:Str) (neg:Bool) (F:AK) (fa fb:AK):AK:=fun ρ=>(fa ρ).bind fun va ρ1=>(fb ρ1).bind fun vb ρ2=>bN c neg F va vb ρ2
structure EqOk (P:Program) (w:World) (K:PySem.W.Frag) (mg:Str→Option Value) (base:Heap) (c:Str) (par:List Str) (n:Nat) (F:AK):Prop where
 ex:∃(C f:Addr) (fd:FuncData),mg c=some (.ref C)∧EqK K C f∧Binds K fd par []∧FnG P w K mg base CX0 n f fd par F
 len:Len F par.length
theorem rC {B:Bk} {W:WX'} {neg:Bool} {σ:St} {ρ0:List S} {H0 G0:Hp} {Q:VK} {r:Res E} (h:Aft B W σ ρ0 H0 G0 Q (MO neg r)):Aft B W σ ρ0 H0 G0 (fun v H'=>∃b,v=.bl b∧Q (.bl (b != neg)) H') r:=by
 unfold MO at h
 split at h
 ·rename_i b ρ
  intro u H' G' p re fr
  have re:Fz B G' u (.bl b):=re
  rw[Fz]at re
  refine⟨b,re,h _ H' G' p ?_ trivial⟩
  show Fz B G' _ (.bl _)
  rw[Fz]
 ·exact h.elim
theorem ie {B:Bk} {σ:St} {ρ0 ρ:List S} {H0 G0 H G:Hp} {u1 u2:V} {v1 v2:E} (p:Pend B σ ρ0 H0 G0 ρ H G [u1,u2] [v1,v2]):Pend B σ ρ0 H0 G0 ρ H G [u2,u1] [v2,v1]:=
 p.perm (is:=[1,0]) (by decide) fun i hi=>by simp at hi; rcases hi with rfl|rfl<;>simp
def Pq (neg:Bool):CmpOp:=if neg then .NotEq else .Eq
section
variable {X:Cx} {W:WX'} {c:Str} {neg:Bool} {par:List Str} {k n:Nat} {F:AK} {a b:Expr} {fa fb:AK} {pos:Pos}
theorem gC {A:Around} {pins:List (Addr×Obj)} {s:Shared} {σ:St} {H:Hp} {x y:V} {u v:Value} {f:Addr} {fd:FuncData} {Q:VK} (hF:FnG X.prog X.w X.K X.mg X.base CX0 n f fd par F) (hb:Binds X.K fd par []) (hln:[x,y].length=par.length)
  (g:A.guards=some []) (r:Room n A) (fr:A.frames=X.A.frames) (I:Inv X pins σ H s) (rx:RelV x u) (ry:RelV y v)
  (sp:spC X.bk F [x,y] H (fun v H'=>∃b,v=.bl b∧Q (.bl (b != neg)) H') (fun cls d H=>W cls d σ H)) :
  wpAny (model X.prog X.w) A (call (.ref f) [u,v]) (fun v s'=>∃r,v=.bool r∧EP X pins σ Q (.bool (r != neg)) s') X.xe s:=by
 have e0:Env0 X.prog X.w X.K X.mg X.base A X.stack s H:=by
  have e:=I.env0
  exact⟨by rw[fr]; exact e.frames,e.mod,e.bs,e.bsz,e.funs,e.frf,e.hok,e.bare⟩
 have hb':=hb s [u,v] I.kIn (by rw[A6,←hln]; rfl)
 rw[A6]at hb'
 refine wpAny_call (codeAny_mono (hF.go A X.stack s H ⟨[u,v],[]⟩ [u,v] [x,y] _ _ g r e0 hb' (.cons rx (.cons ry .nil)) hln sp) fun r s' hq=>?_)
 cases r with
 |error er=>exact False.elim hq
 |ok fl=>
  cases fl with
  |ret u=>
   obtain⟨z,H',I',rz,b,ez,q⟩:=I.after hq
   subst ez
   cases rz
   exact⟨b,rfl,.bl (b != neg),H',I',rfl,q⟩
  |next=>exact False.elim hq
  |brk=>exact False.elim hq
  |cont=>exact False.elim hq
theorem Pz (D:EqOk X.prog X.w X.K X.mg X.base c par k F) (r:Rm X.A (n+1)) (hkn:k≤n) {pins:List (Addr×Obj)} {s:Shared} {σ:St} {H0 H G0 G:Hp} {ρ0 ρ:List S} {x y:V} {u v:Value} {va vb:E} {Q:VK}
  (I:Inv X pins σ H s) (rx:RelV x u) (ry:RelV y v) (P:Pend X.bk σ ρ0 H0 G0 ρ H G [x,y] [va,vb]) (h:Aft X.bk W σ ρ0 H0 G0 Q (bN c neg F va vb ρ)) :
  wpAny (model X.prog X.w) X.A (compareOp (Pq neg) u v) (EP X pins σ Q) X.xe s:=by
 obtain⟨C,f,fd,hm,ek,hb,hF⟩:=D.ex
 have hu:X.A.units+64<cLine:=r.u
 obtain⟨x1,ex1,rx1⟩:=P.re 0 va rfl
 obtain⟨x2,ex2,rx2⟩:=P.re 1 vb rfl
 cases ex1
 cases ex2
 unfold bN at h
 split at h
 ·rename_i c' ds yd hvx hvy
  split at h
  ·rename_i hcc
   obtain⟨rfl,hok⟩:=hcc
   obtain⟨p,C',dx,fs',rfl,hp,_,hc',ff⟩:=P.post.rel.val rx1 hvx
   have hc':X.mg c'=some (.ref C'):=hc'
   rw[hm]at hc'; cases hc'
   obtain rfl:u=Value.ref p:=rx
   obtain⟨mA,O,_⟩:=ins_get I.hok hp
   obtain⟨od,J,_⟩:=O.look
   have sp:=UK P (rC h)
   have hln:=D.len.of sp
   obtain⟨tb,hlook,hnf⟩:∃tb,PySem.W.Looks (model X.prog X.w) s.heap (typeOf v) tb∧PySem.W.notFirst X.K C tb=true:=by
    have hz:=P.post.rel.val rx2 hvy
    unfold okR at hok
    split at hok
    ·obtain⟨q,us,rfl,h1,h2⟩:=qO hz
     obtain rfl:v=Value.ref q:=ry
     obtain⟨its,rv,⟨o,ho,hc,_⟩,_⟩:=I.tuple (BY P.post.rel.sub h1)
     exact⟨_,U1 (T:="tuple") ⟨o,ho,hc⟩,ek.ft⟩
    ·rw[Zm hz]at ry
     obtain rfl:v=Value.none:=ry
     exact⟨_,U1 (T:="NoneType") rfl,ek.fn'⟩
    ·rw[y0 hz]at ry
     obtain⟨t,rfl⟩:=ry
     exact⟨_,U1 (T:="int") (typeIs_int s _ t),ek.fi⟩
    ·rw[xk hz]at ry
     obtain⟨t,rfl⟩:=ry
     exact⟨_,U1 (T:="str") rfl,ek.fs⟩
    ·rename_i c2 ds2
     obtain⟨p2,C2,dx2,fs2,rfl,hp2,_,hc2,ff2⟩:=hz
     have e2:c2=c':=by simpa using hok
     subst e2
     have hc2:X.mg c2=some (.ref C2):=hc2
     rw[hm]at hc2; cases hc2
     obtain rfl:v=Value.ref p2:=ry
     obtain⟨mA2,O2,_⟩:=ins_get I.hok hp2
     obtain⟨od2,J2,_⟩:=O2.look
     exact⟨_,J2.type,by simp[PySem.W.notFirst]⟩
    ·cases hok
   cases neg
   ·refine wZ (op:=.Eq) (by omega) I.kIn J hlook hnf (KU I.kIn J ek ?_)
    refine wpAny_mono (gC (hF.mono hkn) hb hln r.g (r.r.mono (Nat.le_succ n)) rfl I rfl ry sp) (fun v s' z=>?_) fun _ _ z=>z
    obtain⟨b,e,q⟩:=z
    exact⟨b,e,by cases b<;>exact q⟩
   ·have hu1:X.A.in1.units<cLine:=by have:=r.r.in1.units; omega
    refine wZ (op:=.NotEq) (by omega) I.kIn J hlook hnf (Py hu1 I.kIn J ek ?_)
    refine wpAny_mono (gC (hF.mono hkn) hb hln r.g r.r.in1 rfl I rfl ry sp) (fun v s' z=>?_) fun _ _ z=>z
    obtain⟨b,e,q⟩:=z
    exact⟨b,e,by cases b<;>exact q⟩
  ·exact h.elim
 ·rename_i xd c' ds hno hvx hvy
  split at h
  ·rename_i hcc
   obtain⟨rfl,hok,rfl⟩:=hcc
   obtain⟨p,C',dx,fs',rfl,hp,_,hc',ff⟩:=P.post.rel.val rx2 hvy
   have hc':X.mg c'=some (.ref C'):=hc'
   rw[hm]at hc'; cases hc'
   obtain rfl:v=Value.ref p:=ry
   obtain⟨mA,O,_⟩:=ins_get I.hok hp
   obtain⟨od,J,_⟩:=O.look
   have sp:=UK (ie P) (rC h)
   have hln:=D.len.of sp
   have go:=gC (A:=X.A) (hF.mono hkn) hb hln r.g (r.r.mono (Nat.le_succ n)) rfl I (show RelV (V.ref p) (Value.ref p)from rfl) rx sp
   have fin:wpAny (model X.prog X.w) X.A (call (.ref f) [.ref p,u]) (fun v s'=>∃r,v=.bool r∧EP X pins σ Q (.bool r) s') X.xe s:=wpAny_mono go (fun v s' z=>by
    obtain⟨b,e,q⟩:=z
    exact⟨b,e,by cases b<;>exact q⟩) fun _ _ z=>z
   have hz:=P.post.rel.val rx1 hvx
   unfold okL at hok
   split at hok
   ·obtain⟨q,us,rfl,h1,h2⟩:=qO hz
    obtain rfl:u=Value.ref q:=rx
    obtain⟨its,rv,⟨o,ho,hc,_⟩,_⟩:=I.tuple (BY P.post.rel.sub h1)
    exact VF (T:="tuple") (by omega) ⟨o,ho,hc⟩ PySem.F.slot_tuple_eq I.kIn J ek rfl ek.st PySem.F.entry_tuple_eq (PySem.F.args_tuple_eq_2 _ _) (fun q=>Mc I.kIn J ek q) fin
   ·rw[Zm hz]at rx
    obtain rfl:u=Value.none:=rx
    exact VF (T:="NoneType") (by omega) rfl PySem.F.slot_NoneType_eq I.kIn J ek rfl ek.sn PySem.F.entry_NoneType_eq (PySem.F.args_NoneType_eq_2 _ _) (fun q=>tK q) fin
   ·rw[y0 hz]at rx
    obtain⟨t,rfl⟩:=rx
    exact VF (T:="int") (by omega) (typeIs_int s _ t) PySem.F.slot_int_eq I.kIn J ek rfl ek.si PySem.F.entry_int_eq (PySem.F.args_int_eq_2 _ _) (fun q=>dec_int J.at_ rfl q) fin
   ·rw[xk hz]at rx
    obtain⟨t,rfl⟩:=rx
    exact VF (T:="str") (by omega) rfl PySem.F.slot_str_eq I.kIn J ek rfl ek.ss PySem.F.entry_str_eq (PySem.F.args_str_eq_2 _ _) (fun q=>dec_str J.at_ rfl q) fin
   ·cases hok
  ·exact h.elim
 ·exact h.elim
theorem Oa (D:EqOk X.prog X.w X.K X.mg X.base c par k F) (r:Rm X.A (n+1)) (hkn:k≤n) (ha:PEa X W a fa) (hb:PEa X W b fb) (hm:behindInMarks (Pq neg) b=false:=by rfl) :
  PTa X W (.Compare a [Pq neg] [b] pos) (aT (lS c neg F fa fb)):=by
 constructor
 intro pins s σ H Q I h
 obtain⟨G,ρ,rl,h⟩:=uV h
 refine wpAny_isTrue_Compare1 (thn (ha.run pins s σ H _ I (yx rl (Aft.cl (W:=W)) h)) fun v s1 q1=>?_) hm
 obtain⟨x,H1,I1,rx,va,ρ1,G1,P1,h1⟩:=q1
 refine thn (hb.run pins s1 σ H1 _ I1 (Z_ P1 (Aft.cl (W:=W)) h1)) fun u s2 q2=>?_
 obtain⟨y,H2,I2,ry,vb,ρ2,G2,P2,h2⟩:=q2
 refine thn (Pz D r hkn I2 rx ry P2 h2) fun z s3 q3=>?_
 obtain⟨z',H3,I3,r3,kk,e,q3⟩:=q3
 subst e
 cases r3
 exact wpAny_truthy_bool ⟨H3,I3,q3⟩
end
def PU (K:PySem.W.Frag):R2:=fun x y H Q=>∃p q,Dp K H x p∧Dp K H y q∧PySem.W.alike p q=true∧p≠.none∧p.depth≤60∧Q (.bl (PySem.W.dataLt p q)) H
theorem Pw {X:Cx} (hu:X.A.units+64<cLine):OpR X (compareOp .Lt) (PU X.K):=by
 intro pins s σ H x y v u Q I rx ry h
 obtain⟨p,q,hp,hq,ha,hn,hd,fin⟩:=h
 obtain⟨as,ra⟩:=Dp.reads I p x v hp rx
 obtain⟨bs,rb⟩:=Dp.reads I q y u hq ry
 exact PySem.W.lt_data ra rb ha hn (by have:=Nat.min_le_left p.depth q.depth; omega) ⟨.bl _,H,I,rfl,fin⟩
def Mr (x y:D):Option E:=match x,y with
 | .tup xs,.tup ys=>match (D.tup xs).py,(D.tup ys).py with
   |some p,some q=>if PySem.W.alike p q=true∧p.depth≤60 then some (eBl (PySem.W.dataLt p q))else none
   |_,_=>none
 |_,_=>none
theorem ij {xs:List D} {p:PyData} (h:(D.tup xs).py=some p):p≠.none:=by
 rw[D.py]at h
 rintro rfl
 cases e:D.pyL xs<;>simp[e]at h
theorem ML {B:Bk}:jI B Mr (PU B.K):=by
 intro x y v a b G H Q e s hx hy q
 unfold Mr at e
 split at e
 ·rename_i xs ys
  split at e
  ·rename_i p r e1 e2
   split at e
   ·rename_i hc
    cases e
    exact⟨p,r,Qx _ _ _ e1 (hx.fz s),Qx _ _ _ e2 (hy.fz s),hc.1,ij e1,hc.2,q _ _ _ (.scalar s (jL _))⟩
   ·cases e
  ·cases e
 ·cases e
abbrev R9 (K:PySem.W.Frag):R2:=fun x y H Q=>PR x y H Q∨PU K x y H Q
theorem Pu {X:Cx} (hu:X.A.units+64<cLine):OpR X (compareOp .Lt) (R9 X.K):=op_ltA.or (Pw hu)
def fW (x y:D):Option E:=match gLt x y with
 |some v=>some v
 |none=>Mr x y
theorem MJ {B:Bk}:jI B fW (R9 B.K):=by
 intro x y v a b G H Q e s hx hy q
 unfold fW at e
 split at e
 ·rename_i w ew
  cases e
  exact .inl (nf x y _ a b G H Q ew s hx hy q)
 ·exact .inr (ML x y v a b G H Q e s hx hy q)
end L2.AL
namespace L2.AL
open PySem PySem.Spec PyProof.Rows L2
def NkAt (h:Heap) (k:NestedKey) (b:Addr):Prop:=NestedIs h k (.ref b)∧k.depth≤8
theorem NkAt.off {h h':Heap} {k:NestedKey} {b p:Addr} {o:Obj} {es:Array (Int×Value)} {ep:Nat} {t:SetTable} (x:NkAt h k b) (e:h.get? p=some o) (d:o.data=.set es ep t) (sb:Heap.SameBut p h h'):NkAt h' k b:=
 ⟨NestedIs.at (fun c oc vs n e1 d1=>(sb.2 c fun z=>by subst z; rw[e]at e1; cases e1; rw[d]at d1; cases d1).trans e1) k _ x.1,x.2⟩
theorem NkAt.on {h h':Heap} {k:NestedKey} {b:Addr} (x:NkAt h k b) (kp:∀c o,h.get? c=some o→h'.get? c=some o):NkAt h' k b:=
 ⟨NestedIs.at (fun c oc vs n e1 _=>kp c oc e1) k _ x.1,x.2⟩
section
variable {Pr:Program} {wd:World} {A:Around} {Ex:Value→Shared→Prop}
def dv (Pr:Program) (wd:World) (n:Nat) (s:Shared) (v:Value):Prop:=∀(A:Around) (Ex:Value→Shared→Prop) (Q:Bool→Shared→Prop),Q false s→wpAny (model Pr wd) A (ofAClassStatement n v) Q Ex s
theorem Uy {n:Nat} {s:Shared} {v:Value} (e:ofAClassStatement n v=pure false):dv Pr wd n s v:=fun A Ex Q q=>by rw[e]; exact wpAny_pure q
theorem oZ {n:Nat} {s:Shared} {b:Addr} {o:Obj} {vs:Array Value} {m:Nat} (e:s.heap.get? b=some o) (c:o.cls=.type "tuple") (d:o.data=.seq vs m) (all:∀v∈vs.toList,dv Pr wd n s v):dv Pr wd (n+1) s (.ref b):=fun A Ex Q q=>by
 unfold ofAClassStatement
 have hT:s.TypeIs (.ref b) "tuple":=⟨o,e,c⟩
 refine wpAny_bind (wpAny_typeOf hT ?_)
 dsimp only
 have tt:(("tuple":String)=="tuple")=true:=by decide
 simp only[tt,if_true,Bool.not_true,Bool.false_eq_true,if_false]
 try refine wpAny_bind (wpAny_pure ?_)
 try simp only[Bool.not_true,Bool.false_eq_true,if_false]
 refine wpAny_bind (m:=seqItems? (.ref b)) (wpAny_seqItems e d ?_)
 dsimp only
 refine wpAny_bind ?_
 show wpAny _ _ (forIn vs _ _) _ _ s
 rw[←Array.forIn_toList]
 refine wpAny_forIn_list _ (fun l z s1=>z.1=none∧s1=s∧∀v∈l,dv Pr wd n s v) _ ?_ ?_ _ _ ⟨rfl,rfl,all⟩
 ·rintro v l z s1 ⟨z1,rfl,hl⟩
  refine wpAny_bind (hl v AN _ _ _ ?_)
  simp only[Bool.false_eq_true,if_false]
  exact wpAny_pure ⟨rfl,rfl,fun y hy=>hl y (List.mem_cons_of_mem _ hy)⟩
 ·rintro⟨z1,z2⟩ s1 ⟨z3,rfl,_⟩
  simp only at z3
  subst z3
  exact wpAny_pure q
mutual
theorem vi:∀(k:NestedKey) (v:Value) (n:Nat) (s:Shared),NestedIs s.heap k v→k.depth≤n→dv Pr wd n s v
 | .none,_,n,s,x,_=>by cases x; exact Uy (by cases n<;>rfl)
 | .num i,_,n,s,x,_=>by cases x<;>exact Uy (by cases n<;>rfl)
 | .text y,_,n,s,x,_=>by cases x; exact Uy (by cases n<;>rfl)
 | .tup ks,_,n,s,x,hn=>by
   cases x with
   |tup hg hc hd hk=>
    simp only[NestedKey.depth]at hn
    match n,hn with
    |n+1,hn=>exact oZ hg hc hd (noCls_keys ks _ n s hk (by omega))
theorem noCls_keys:∀(ks:List NestedKey) (vs:List Value) (n:Nat) (s:Shared),NestedAll s.heap ks vs→NestedKey.depthAll ks≤n→∀v∈vs,dv Pr wd n s v
 |[],_,n,s,x,_,v,hv=>by cases x; cases hv
 |k::ks,_,n,s,x,hn,v,hv=>by
  cases x with
  |cons x1 x2=>
   simp only[NestedKey.depthAll]at hn
   rcases List.mem_cons.mp hv with rfl|hv
   ·exact vi k _ n s x1 (by omega)
   ·exact noCls_keys ks _ n s x2 (by omega) v hv
end
def du (Pr:Program) (wd:World) (n:Nat) (s:Shared) (v:Value):Prop:=∀(A:Around) (Ex:Value→Shared→Prop) (Q:Bool→Shared→Prop),(∀b,Q b s)→wpAny (model Pr wd) A (hashByValue n v) Q Ex s
theorem Q_ {n:Nat} {s:Shared} {v:Value} {b:Bool} (e:hashByValue n v=pure b):du Pr wd n s v:=fun A Ex Q q=>by rw[e]; exact wpAny_pure (q b)
theorem oB {n:Nat} {s:Shared} {b:Addr} {o:Obj} {vs:Array Value} {m:Nat} (e:s.heap.get? b=some o) (c:o.cls=.type "tuple") (d:o.data=.seq vs m) (all:∀v∈vs.toList,du Pr wd n s v):du Pr wd (n+1) s (.ref b):=fun A Ex Q q=>by
 unfold hashByValue
 have hT:s.TypeIs (.ref b) "tuple":=⟨o,e,c⟩
 refine wpAny_bind (wpAny_specialOf hT F.slot_tuple_hash.lookup ?_)
 refine wpAny_bind (m:=seqItems? (.ref b)) (wpAny_seqItems e d ?_)
 refine wpAny_bind ?_
 show wpAny _ _ (forIn vs _ _) _ _ s
 rw[←Array.forIn_toList]
 refine wpAny_forIn_list _ (fun l z s1=>z.1=none∧s1=s∧∀v∈l,du Pr wd n s v) _ ?_ ?_ _ _ ⟨rfl,rfl,all⟩
 ·rintro v l z s1 ⟨z1,rfl,hl⟩
  refine wpAny_bind (hl v AN _ _ _ fun b=>?_)
  cases b
  ·simp only[Bool.not_false,if_true]
   exact wpAny_pure (wpAny_pure (q _))
  ·simp only[Bool.not_true,Bool.false_eq_true,if_false]
   exact wpAny_pure ⟨rfl,rfl,fun y hy=>hl y (List.mem_cons_of_mem _ hy)⟩
 ·rintro⟨z1,z2⟩ s1 ⟨z3,rfl,_⟩
  simp only at z3
  subst z3
  exact wpAny_pure (q _)
mutual
theorem kX:∀(k:NestedKey) (v:Value) (n:Nat) (s:Shared),NestedIs s.heap k v→du Pr wd n s v
 | .none,_,n,s,x=>by cases x; exact Q_ (b:=true) (by cases n<;>rfl)
 | .num i,_,n,s,x=>by cases x<;>exact Q_ (b:=true) (by cases n<;>rfl)
 | .text y,_,n,s,x=>by cases x; exact Q_ (b:=false) (by cases n<;>rfl)
 | .tup ks,_,0,s,x=>by cases x; exact Q_ (b:=false) rfl
 | .tup ks,_,n+1,s,x=>by
   cases x with
   |tup hg hc hd hk=>exact oB hg hc hd (hbAny_keys ks _ n s hk)
theorem hbAny_keys:∀(ks:List NestedKey) (vs:List Value) (n:Nat) (s:Shared),NestedAll s.heap ks vs→∀v∈vs,du Pr wd n s v
 |[],_,n,s,x,v,hv=>by cases x; cases hv
 |k::ks,_,n,s,x,v,hv=>by
  cases x with
  |cons x1 x2=>
   rcases List.mem_cons.mp hv with rfl|hv
   ·exact kX k _ n s x1
   ·exact hbAny_keys ks _ n s x2 v hv
end
theorem oY {s:Shared} {k:NestedKey} {b:Addr} {Q:Bool→Shared→Prop} (x:NkAt s.heap k b) {vs:List Value} (all:∀v∈vs,∃k1 c,v=.ref c∧NkAt s.heap k1 c) (q:Q false s):wpAny (model Pr wd) A (searchCouldBeSeen (.ref b) vs) Q Ex s:=by
 unfold searchCouldBeSeen
 refine wpAny_bind ?_
 refine wpAny_forIn_list _ (fun l z s1=>z.1=none∧s1=s∧∀v∈l,∃k1 c,v=.ref c∧NkAt s.heap k1 c) _ ?_ ?_ _ _ ⟨rfl,rfl,all⟩
 ·rintro v l z s1 ⟨z1,rfl,hl⟩
  obtain⟨k1,c,rfl,y⟩:=hl v AN
  have more:∀v∈l,∃k1 c,v=Value.ref c∧NkAt s1.heap k1 c:=fun u hu=>hl u (List.mem_cons_of_mem _ hu)
  dsimp only
  by_cases same:(b==c||(carriedByValue (.ref b)&&carriedByValue (.ref c)))=true
  ·exact wp_if_pos same (wpAny_pure ⟨rfl,rfl,more⟩)
  ·refine wp_if_neg same (wpAny_bind (quiet_key k _ 8 s1 x.1 x.2 _ _ _ ?_))
   simp only[Bool.not_true,Bool.false_eq_true,if_false]
   refine wpAny_bind (quiet_key k1 _ 8 s1 y.1 y.2 _ _ _ ?_)
   simp only[Bool.not_true,Bool.false_eq_true,if_false]
   refine wpAny_bind (vi k _ 8 s1 x.1 x.2 _ _ _ ?_)
   simp only[Bool.false_eq_true,if_false]
   refine wpAny_bind (vi k1 _ 8 s1 y.1 y.2 _ _ _ ?_)
   simp only[Bool.false_eq_true,if_false]
   exact wpAny_pure ⟨rfl,rfl,more⟩
 ·rintro⟨z1,z2⟩ s1 ⟨z3,rfl,_⟩
  simp only at z3
  subst z3
  exact wpAny_pure q
def QC (wd:World) (L:List (Addr×NestedKey)):List (Int×Value):=L.map fun p=>(p.2.hash wd,Value.ref p.1)
structure NSet (wd:World) (h:Heap) (a:Addr) (L:List (Addr×NestedKey)) (es:Array (Int×Value)) (ep:Nat) (t:SetTable):Prop where
 obj:∃o,h.get? a=some o∧o.ExactSet∧o.data=.set es ep t
 rows:es.toList=QC wd L
 tab:TabOk t (L.map fun p=>p.2.hash wd)
 nd:(L.map (·.2)).Nodup
 led:wd.params.followText "set-order"=true∨t.led=true
 room:L.length * 5<t.mask * 3
 few:L.length<64
variable {a:Addr} {L:List (Addr×NestedKey)} {es:Array (Int×Value)} {ep:Nat} {t:SetTable} {s:Shared} {h:Heap}
theorem Y2 {es:Array (Int×Value)} (r:es.toList=QC wd L):es.size=L.length:=by
 rw[←BO,r,QC,List.length_map]
theorem NSet.fits (R:NSet wd h a L es ep t):t.fits es.size=true:=by
 have z1:=R.tab.sz
 rw[List.length_map]at z1
 have z2:=Y2 R.rows
 have z3:=R.room
 unfold SetTable.fits SetTable.fill
 rw[R.tab.dm,Bool.and_eq_true,beq_iff_eq,decide_eq_true_eq]
 show t.place.size=es.size∧t.place.size+0≤t.mask
 omega
theorem NSet.at {h':Heap} (R:NSet wd h a L es ep t) (k:∀o,h.get? a=some o→h'.get? a=some o):NSet wd h' a L es ep t:=by
 obtain⟨o,e,r⟩:=R.obj
 exact { R with obj:=⟨o,k o e,r⟩ }
theorem vk {es:Array (Int×Value)} (r:es.toList=QC wd L) {i:Nat} {p:Addr×NestedKey} (e:L[i]?=some p):es[i]?=some (p.2.hash wd,Value.ref p.1):=by
 rw[←Array.getElem?_toList,r,QC,List.getElem?_map,e]; rfl
abbrev prb (m:Nat) (g:Int) (c:Nat):SetTable.Probe:=nth m (runAt m (SetTable.bits g % (m+1)) (SetTable.bits g)) c
theorem ii (m:Nat) (g:Int) (c:Nat):(prb m g c).dummy=none:=by
 induction c with
 |zero=>rfl
 |succ c ih=>
  show(nth m (runAt m (SetTable.bits g % (m+1)) (SetTable.bits g)) (c+1)).dummy=none
  rw[nth_succ]
  unfold adv
  split<;>exact ih
theorem Le (m:Nat) (g:Int) (c q:Nat):nth m (prb m g c) q=prb m g (c+q):=(nth_add m c _ q).symm
theorem rF (R:NSet wd s.heap a L es ep t) (all:∀p∈L,NkAt s.heap p.2 p.1) {x:Addr} {k:NestedKey} (hx:NkAt s.heap k x) (hu:A.units+8<cLine) {g:Int} (hg:g=k.hash wd) {K:Nat} (hKf:K<10 * SetTable.turns t.mask)
  (free:way t.mask g K∉t.place.toList) (full:∀c,c<K→way t.mask g c∈t.place.toList) {Q:SetFound→Shared→Prop} (q1:k∈L.map (·.2)→Q (.there none) s) (q2:k∉L.map (·.2)→Q (.free (way t.mask g K) false) s) :
  ∀(f c:Nat) (stand:Option SetTable.Probe),stand.getD (t.probeStart g)=prb t.mask g c→c≤K→K - c<f→
   (∀(i:Nat) p,L[i]?=some p→p.2=k→∃d,c≤d∧d<K∧t.place.toList[i]?=some (way t.mask g d))→
   wpAny (model Pr wd) A (setSearchFrom a (.ref x) g true f stand) Q Ex s:=by
 obtain⟨o,ho,hex,hd⟩:=R.obj
 have gw:¬t.gaveWay=true:=by
  unfold SetTable.gaveWay
  rw[mask_odd R.tab.mok]; decide
 have hat:∀(i:Nat) p,L[i]?=some p→(fun i=>(es[i]?.map (·.1)).getD 0) i=p.2.hash wd:=fun i p e=>by
  show(es[i]?.map (·.1)).getD 0=_
  rw[vk R.rows e]; rfl
 have wy:∀c q,(nth t.mask (prb t.mask g c) q).j=way t.mask g (c+q):=fun c q=>congrArg SetTable.Probe.j (Le t.mask g c q)
 intro f
 induction f with
 |zero=>intro c stand _ _ hf _; exact absurd hf (Nat.not_lt_zero _)
 |succ f ih=>
  intro c stand hst hc hf hre
  rw[setSearchFrom_succ]
  refine wpAny_bind (wpAny_setState_of ho hd R.fits ?_)
  dsimp only
  refine wp_if_neg gw ?_
  try refine wpAny_bind (wpAny_pure ?_)
  have sp:=go_spec t R.tab.ris R.tab.dm (fun i=>(es[i]?.map (·.1)).getD 0) g (10 * SetTable.turns t.mask) (K - c) (prb t.mask g c) (ii _ _ _) (by omega)
   (fun q hq=>by rw[wy]; exact full (c+q) (by omega)) (by rw[wy,Nat.add_sub_cancel' hc]; exact free)
  rcases sp with⟨q,i,hq,hi,hh,before,pe⟩|⟨before,pe⟩
  ·rw[wy]at hi
   have pe2:t.probe (fun i=>(es[i]?.map (·.1)).getD 0) g (stand.getD (t.probeStart g))=some (.candidate (way t.mask g (c+q)) i (prb t.mask g (c+(q+1)))):=by
    rw[hst,←Le,←wy c q]; exact pe
   rw[pe2]
   dsimp only
   have hil:i<L.length:=by
    have z1:=(AQ.mp hi).1
    have z2:=R.tab.sz
    rw[List.length_map]at z2
    rw[BO]at z1
    omega
   obtain⟨p,hp⟩:∃p,L[i]?=some p:=⟨_,AX hil⟩
   have hm:p∈L:=Bh hp
   have live:t.slot (way t.mask g (c+q))=.live i:=slot_live R.tab.ris hi
   have on:wpAny (model Pr wd) A (searchRest a (.ref x) g true f es t (way t.mask g (c+q)) i (prb t.mask g (c+(q+1)))) Q Ex s:=by
    unfold searchRest
    rw[vk R.rows hp]
    dsimp only
    refine wpAny_bind (wpAny_holding (eqAt_key p.2 k A s _ _ (all p hm).1 hx.1 (by have:=hx.2; omega) _ _ _ _ ?_))
    rw[←NestedKey.decide_eq]
    refine wpAny_bind (wpAny_setState_of ho hd R.fits ?_)
    dsimp only
    by_cases same:p.2=k
    ·refine wp_if_pos (by simp[same]) (wpAny_pure (q1 (AM.mpr ⟨p,hm,same⟩)))
    ·refine wp_if_neg (by simp[same]) ?_
     try refine wpAny_bind (wpAny_pure ?_)
     rw[sameMem]
     dsimp only
     simp only[if_true,live,vk R.rows hp]
     refine wpAny_bind (wpAny_isSame_ref_self (wpAny_bind (wpAny_pure ?_)))
     simp only[if_true]
     refine wp_if_neg (by simp[same]) (ih (c+(q+1)) _ rfl (by omega) (by omega) fun i1 p1 e1 k1=>?_)
     obtain⟨d,d1,d2,d3⟩:=hre i1 p1 e1 k1
     refine⟨d,?_,d2,d3⟩
     have nd1:¬d<c+q:=fun z=>before (d - c) i1 (by omega) (by rw[wy,Nat.add_sub_cancel' d1]; exact d3) ((hat i1 p1 e1).trans (by rw[k1,hg]))
     have nd2:d≠c+q:=fun z=>by
      rw[z]at d3
      have l2:=slot_live R.tab.ris d3
      rw[live]at l2
      injection l2 with l2
      rw[←l2,hp]at e1
      cases e1
      exact same k1
     omega
   by_cases hl:t.led=true
   ·refine wp_if_neg (by simp[hl]) ?_
    try refine wpAny_bind (wpAny_pure ?_)
    exact on
   ·refine wp_if_pos (by simp[hl]) (wpAny_bind (oY hx (fun v hv=>?_) ?_))
    ·obtain⟨en,he,rfl⟩:=AM.mp hv
     have he1:en∈es∧en.1=g:=by simpa using he
     have he2:en∈es.toList:=by simpa using he1.1
     rw[R.rows]at he2
     obtain⟨p2,hp2,rfl⟩:=AM.mp he2
     exact⟨p2.2,p2.1,rfl,all p2 hp2⟩
    ·refine wp_if_neg (by decide) ?_
     try refine wpAny_bind (wpAny_pure ?_)
     exact on
  ·have pe2:t.probe (fun i=>(es[i]?.map (·.1)).getD 0) g (stand.getD (t.probeStart g))=some (.empty (way t.mask g K) none):=by
    have e2:way t.mask g K=(nth t.mask (prb t.mask g c) (K - c)).j:=by rw[wy,Nat.add_sub_cancel' hc]
    rw[hst,e2]; exact pe
   rw[pe2]
   dsimp only
   refine wpAny_pure (q2 fun hm=>?_)
   obtain⟨p1,m1,k1⟩:=AM.mp hm
   obtain⟨i1,e1⟩:=List.getElem?_of_mem m1
   obtain⟨d,d1,d2,d3⟩:=hre i1 p1 e1 k1
   exact before (d - c) i1 (by omega) (by rw[wy,Nat.add_sub_cancel' d1]; exact d3) ((hat i1 p1 e1).trans (by rw[k1,hg]))
theorem ia (R:NSet wd s.heap a L es ep t) (all:∀p∈L,NkAt s.heap p.2 p.1) {x:Addr} {k:NestedKey} (hx:NkAt s.heap k x) (hu:A.units+8<cLine) {Q:SetFound→Shared→Prop} (q1:k∈L.map (·.2)→Q (.there none) s)
  (q2:∀K,k∉L.map (·.2)→way t.mask (k.hash wd) K∉t.place.toList→(∀c,c<K→way t.mask (k.hash wd) c∈t.place.toList)→Q (.free (way t.mask (k.hash wd) K) false) s) :
  wpAny (model Pr wd) A (setSearch a (.ref x) (k.hash wd) true) Q Ex s:=by
 have rm:=R.room
 obtain⟨K,k1,k2,k3⟩:=R.tab.first (by rw[List.length_map]; omega) (k.hash wd)
 have small:10 * SetTable.turns t.mask≤1420:=by
  unfold SetTable.turns
  rcases R.tab.mok with e|e|e<;>omega
 unfold setSearch
 refine rF R all hx hu rfl k1 k2 k3 q1 (fun n=>q2 K n k2 k3) 100000 0 none rfl (Bg _) (by omega) fun i p e1 e2=>?_
 have hl:i<t.place.toList.length:=by
  have z1:=(AQ.mp e1).1
  have z2:=R.tab.sz
  rw[List.length_map]at z2
  rw[BO]; omega
 have hj:=AX hl
 obtain⟨c,c1,c2⟩:=R.tab.before (h:=k.hash wd) k2 (by rw[List.getElem?_map,e1,←e2]; rfl) hj
 exact⟨c,Bg _,c1,by rw[hj,c2]⟩
end
section
variable {Pr:Program} {wd:World} {A:Around} {Ex:Value→Shared→Prop} {a:Addr} {L:List (Addr×NestedKey)} {es:Array (Int×Value)} {ep:Nat} {t:SetTable} {s:Shared} {h:Heap}
theorem K9 {α:Type} (l:List α):(List.range l.length).filterMap (fun i=>l[i]?)=l:=by
 have go:∀n,n≤l.length→(List.range n).filterMap (fun i=>l[i]?)=l.take n:=by
  intro n
  induction n with
  |zero=>intro _; rfl
  |succ n ih=>
   intro hn
   rw[List.range_succ,List.filterMap_append,ih (by omega),List.take_add_one,AX (by omega)]
   simp[AX (show n<l.length by omega)]
 rw[go _ (Nat.le_refl _),List.take_length]
theorem ni {es:Array (Int×Value)} {order:Array Nat} (r:es.toList=QC wd L) (pm:order.toList.Perm (List.range L.length)) :
  ∃M,(order.filterMap (es[·]?)).toList=QC wd M∧M.Perm L∧(M.map fun p=>p.2.hash wd)=order.toList.map fun i=>(es.map (·.1)).getD i 0:=by
 have at_:∀i:Nat,es[i]?=(L[i]?).map fun p=>(p.2.hash wd,Value.ref p.1):=fun i=>by rw[←Array.getElem?_toList,r,QC,List.getElem?_map]
 refine⟨order.toList.filterMap (fun i=>L[i]?),?_,?_,?_⟩
 ·rw[Array.toList_filterMap,QC,List.map_filterMap]
  congr 1
  funext i
  exact at_ i
 ·have z:=pm.filterMap (fun i=>L[i]?)
  rwa [K9]at z
 ·have go:∀l:List Nat,(∀i∈l,i<L.length)→(l.filterMap (fun i=>L[i]?)).map (fun p=>p.2.hash wd)=l.map fun i=>(es.map (·.1)).getD i 0:=by
   intro l
   induction l with
   |nil=>intro _; rfl
   |cons i l ih=>
    intro hl
    have hi:=hl i AN
    have e1:L[i]?=some L[i]:=AX hi
    have e2:=at_ i
    rw[e1]at e2
    rw[List.filterMap_cons_some e1,List.map_cons,List.map_cons,ih fun j hj=>hl j (List.mem_cons_of_mem _ hj)]
    congr 1
    simp[Array.getD_eq_getD_getElem?,Array.getElem?_map,e2]
  exact go _ fun i hi=>Bo.mp (pm.mem_iff.mp hi)
theorem tH {α:Type} (l:List α) (i:Nat) (x:α):(l.take i++x::l.drop i).Perm (x::l):=by
 have z:(l.take i++x::l.drop i).Perm (x::(l.take i++l.drop i)):=List.perm_middle
 rwa [List.take_append_drop]at z
theorem nj {o:Obj} (ho:s.heap.get? a=some o) (hex:o.ExactSet) (hd:o.data=.set es ep t) (r:es.toList=QC wd L) (sz:t.place.size=es.size) (dm:t.dummies=#[]) (fl:es.size≤t.mask)
  (nd:(L.map (·.2)).Nodup) (ld:wd.params.followText "set-order"=true∨t.led=true) (few:L.length<64) {wanted M:Nat} (hw:SetTable.sizeAbove wanted - 1=M) (hM:MaskOk M) (hw2:SetTable.sizeAbove wanted≤128) (rm:L.length * 5<M * 3)
  {Q:Unit→Shared→Prop} (q:∀h' L' es' ep' t',Heap.SameBut a s.heap h'→NSet wd h' a L' es' ep' t'→L'.Perm L→Q () { s with heap:=h' }):wpAny (model Pr wd) A (setRelay a wanted) Q Ex s:=by
 have z1:=Y2 r
 have fits:t.fits es.size=true:=by
  unfold SetTable.fits SetTable.fill
  rw[dm,Bool.and_eq_true,beq_iff_eq,decide_eq_true_eq]
  show t.place.size=es.size∧t.place.size+0≤t.mask
  omega
 obtain⟨t',order,e,pm,T,em,el,_,_⟩:=relaid_ok t (hs:=es.map (·.1)) (wanted:=wanted) hw hM (by rw[Array.size_map,z1]; omega)
 rw[Array.size_map,z1]at pm
 obtain⟨N,n1,n2,n3⟩:=ni r pm
 rw[←n3]at T
 have z2:(order.filterMap (es[·]?)).size=es.size:=by rw[Y2 n1,n2.length_eq,z1]
 rw[setRelay_eq]
 refine wpAny_bind (wpAny_setState_of ho hd fits ?_)
 dsimp only
 refine wp_if_neg (by rw[sizeLine_eq]; omega) ?_
 try refine wpAny_bind (wpAny_pure ?_)
 rw[e]
 dsimp only
 refine wpAny_bind (wp_if_neg (by rw[z2]; simp) ?_)
 try refine wpAny_bind (wpAny_pure ?_)
 refine wpAny_pure ?_
 dsimp only
 refine wpAny_storeSet_of ho hd ?_ (by rw[z2,z1,sizeLine_eq]; omega)
 refine q _ N (order.filterMap (es[·]?)) (ep+1) t' (Heap.SameBut.update ..) ⟨⟨_,store_at ho hd,hex,rfl⟩,n1,T,(n2.map (·.2)).nodup_iff.mpr nd,by rw[el]; exact ld,?_,by rw[n2.length_eq]; exact few⟩ n2
 rw[n2.length_eq,em]; exact rm
theorem KP (R:NSet wd s.heap a L es ep t) (all:∀p∈L,NkAt s.heap p.2 p.1) {x:Addr} {k:NestedKey} (hx:NkAt s.heap k x) (hu:A.units+8<cLine) (few:L.length+1<64) {Q:Bool→Shared→Prop}
  (q:∀b h' L' es' ep' t',Heap.SameBut a s.heap h'→NSet wd h' a L' es' ep' t'→(k∈L.map (·.2)→L'=L)→(k∉L.map (·.2)→L'.Perm ((x,k)::L))→(∀(c:Addr) k1,NkAt s.heap k1 c→NkAt h' k1 c)→Q b { s with heap:=h' }) :
  wpAny (model Pr wd) A (setAddHashed a (.ref x) (k.hash wd)) Q Ex s:=by
 obtain⟨o,ho,hex,hd⟩:=R.obj
 have z1:=Y2 R.rows
 have rm:=R.room
 unfold setAddHashed
 refine wpAny_holding ?_
 rw[show(100000:Nat)=99999+1 from rfl,setAddHashedIn_succ]
 refine wpAny_bind (wpAny_setState_of ho hd R.fits ?_)
 dsimp only
 refine wp_if_neg (by simp[byScan,Value.scannable]) ?_
 try refine wpAny_bind (wpAny_pure ?_)
 refine wpAny_bind (ia R all hx hu (fun hm=>?_) fun K hm hK hb=>?_)
 ·dsimp only
  exact wpAny_pure (q false s.heap L es ep t (Heap.SameBut.refl a s.heap) R (fun _=>rfl) (fun z=>absurd hm z) fun c k1 z=>z)
 ·dsimp only
  refine wpAny_bind (wpAny_setState_of ho hd R.fits ?_)
  dsimp only
  obtain⟨p1,p2,p3,p4,p5,_,_,_,p9⟩:=R.tab.put hK hb
  generalize hpt:t.put (way t.mask (k.hash wd) K)=pt at p1 p3 p4 p5 p9⊢
  obtain⟨tn,pl⟩:=pt
  dsimp only at p1 p3 p4 p5 p9⊢
  subst p1
  have ins:(SetTable.insertAt es (SetTable.below t.place (way t.mask (k.hash wd) K)) (k.hash wd,Value.ref x)).toList=QC wd (L.take (SetTable.below t.place (way t.mask (k.hash wd) K))++(x,k)::L.drop (SetTable.below t.place (way t.mask (k.hash wd) K))):=by
   rw[SetTable.toList_insertAt,R.rows]
   unfold QC
   rw[A7,List.map_cons,List.map_take,List.map_drop]
  generalize SetTable.below t.place (way t.mask (k.hash wd) K)=pl at p2 p3 ins⊢
  have pm:=tH L pl (x,k)
  have hn:(L.take pl++(x,k)::L.drop pl).length=L.length+1:=pm.length_eq
  have hh:(L.take pl++(x,k)::L.drop pl).map (fun p=>p.2.hash wd)=(L.map fun p=>p.2.hash wd).take pl++k.hash wd::(L.map fun p=>p.2.hash wd).drop pl:=by
   rw[A7,List.map_cons,List.map_take,List.map_drop]
  rw[←hh]at p3
  have nd1:((L.take pl++(x,k)::L.drop pl).map (·.2)).Nodup:=(pm.map (·.2)).nodup_iff.mpr (by rw[List.map_cons]; exact Bl.mpr ⟨hm,R.nd⟩)
  generalize SetTable.insertAt es pl (k.hash wd,Value.ref x)=en at ins⊢
  generalize L.take pl++(x,k)::L.drop pl=N at pm hn p3 nd1 ins
  have z3:=Y2 ins
  have on:∀tm:SetTable,tm.place=tn.place→tm.dummies=tn.dummies→tm.mask=tn.mask→tm.led=tn.led→wpAny (model Pr wd) A (do
    storeSet a en tm
    if (!false&&tm.tooFull)=true then do
     setRelay a (SetTable.grown (es.size+1))
     pure true
    else pure true) Q Ex s:=by
   intro tm m1 m2 m3 m4
   have T:TabOk tm (N.map fun p=>p.2.hash wd):=⟨by rw[m1]; exact p3.ris,by rw[m2]; exact p3.dm,by rw[m1]; exact p3.sz,by rw[m3]; exact p3.mok,by rw[m1,m3]; exact p3.bd,by rw[m1,m3]; exact p3.reach⟩
   have fill:tm.fill=L.length+1:=by
    have e:tm.fill=tn.fill:=by unfold SetTable.fill; rw[m1,m2]
    rw[e,p9,List.length_map]
   refine wpAny_bind (wpAny_storeSet_of ho hd ?_ (by rw[z3,hn,sizeLine_eq]; omega))
   have sb:Heap.SameBut a s.heap (s.heap.update a (Obj.putSet en tm)):=Heap.SameBut.update ..
   have ho1:=store_at (es':=en) (t':=tm) ho hd
   generalize s.heap.update a (Obj.putSet en tm)=hp at sb ho1⊢
   have keys:∀(c:Addr) k1,NkAt s.heap k1 c→NkAt hp k1 c:=fun c k1 z=>z.off ho hd sb
   have ld:wd.params.followText "set-order"=true∨tm.led=true:=by rw[m4,p5]; exact R.led
   by_cases ff:tm.tooFull=true
   ·refine wp_if_pos (by simp[ff]) (wpAny_bind ?_)
    have big:(L.length+1) * 5≥t.mask * 3:=by
     have z:=ff
     unfold SetTable.tooFull at z
     rw[decide_eq_true_eq,fill,m3,p4]at z
     exact z
    rw[z1]
    have two:(t.mask=7∧L.length=4)∨(t.mask=31∧L.length=18):=by
     rcases R.tab.mok with e|e|e
     ·exact .inl ⟨e,by omega⟩
     ·exact .inr ⟨e,by omega⟩
     ·omega
    have go:∀M,SetTable.sizeAbove (SetTable.grown (L.length+1)) - 1=M→MaskOk M→SetTable.sizeAbove (SetTable.grown (L.length+1))≤128→(L.length+1) * 5<M * 3→
      wpAny (model Pr wd) A (setRelay a (SetTable.grown (L.length+1))) (fun _ s1=>wpAny (model Pr wd) A (pure true) Q Ex s1) Ex { s with heap:=hp }:=fun M g1 g2 g3 g4=>by
     refine nj (s:={ s with heap:=hp }) ho1 hex rfl ins (by rw[T.sz,List.length_map,z3]) T.dm (by rw[z3,hn,m3,p4]; rcases two with⟨e,e2⟩|⟨e,e2⟩<;>omega) nd1 ld (by rw[hn]; exact few) g1 g2 g3 (by rw[hn]; exact g4) fun h2 L2 es2 ep2 t2 sb2 R2 pm2=>?_
     exact wpAny_pure (q true h2 L2 es2 ep2 t2 (sb.trans sb2) R2 (fun z=>absurd z hm) (fun _=>pm2.trans pm) fun c k1 z=>(keys c k1 z).off ho1 rfl sb2)
    rcases two with⟨_,e2⟩|⟨_,e2⟩
    ·exact go 31 (by rw[e2,size_20]) (.inr (.inl rfl)) (by rw[e2,size_20]; decide) (by omega)
    ·exact go 127 (by rw[e2,size_76]) (.inr (.inr rfl)) (by rw[e2,size_76]; decide) (by omega)
   ·refine wp_if_neg (by simp[ff]) (wpAny_pure (q true hp N en (ep+1) tm sb ⟨⟨_,ho1,hex,rfl⟩,ins,T,nd1,ld,?_,by rw[hn]; exact few⟩ (fun z=>absurd z hm) (fun _=>pm) keys))
    have z:=ff
    unfold SetTable.tooFull at z
    rw[decide_eq_true_eq,fill]at z
    rw[hn]; omega
  have on2:∀b:Bool,wpAny (model Pr wd) A (do
    storeSet a en (if b=true then tn else { tn with plain:=false })
    if (!false&&(if b=true then tn else { tn with plain:=false }:SetTable).tooFull)=true then do
     setRelay a (SetTable.grown (es.size+1))
     pure true
    else pure true) Q Ex s:=fun b=>by
   cases b
   ·exact on { tn with plain:=false } rfl rfl rfl rfl
   ·exact on tn rfl rfl rfl rfl
  by_cases pn:tn.plain=true
  ·first
    |(refine wpAny_bind ?_; refine wp_if_pos pn ?_; refine kX k _ 8 s hx.1 _ _ _ fun b=>?_; exact on2 b)
    |exact wp_if_pos pn (wpAny_bind (kX k _ 8 s hx.1 _ _ _ fun b=>on2 b))
  ·first
    |(refine wpAny_bind ?_; refine wp_if_neg pn ?_; refine wpAny_pure ?_; exact on2 true)
    |exact wp_if_neg pn (wpAny_bind (wpAny_pure (on2 true)))
end
structure GotN (ks:List (Addr×NestedKey)) (i:Nat) (L:List (Addr×NestedKey)):Prop where
 from_:∀p∈L,p∈ks.take i
 all:∀p∈ks.take i,p.2∈L.map (·.2)
 len:L.length≤i
theorem GotN.step {ks L L':List (Addr×NestedKey)} {i:Nat} {x:Addr} {k:NestedKey} (g:GotN ks i L) (e:ks[i]?=some (x,k)) (c1:k∈L.map (·.2)→L'=L) (c2:k∉L.map (·.2)→L'.Perm ((x,k)::L)):GotN ks (i+1) L':=by
 have tk:ks.take (i+1)=ks.take i++[(x,k)]:=by rw[List.take_add_one,e]; rfl
 by_cases c:k∈L.map (·.2)
 ·rw[c1 c]
  refine⟨fun p hp=>by rw[tk]; exact BU _ (g.from_ p hp),fun p hp=>?_,Nat.le_succ_of_le g.len⟩
  rw[tk]at hp
  rcases AW.mp hp with z|z
  ·exact g.all p z
  ·rw[A8.mp z]; exact c
 ·have pm:=c2 c
  refine⟨fun p hp=>?_,fun p hp=>?_,by rw[pm.length_eq]; exact Nat.succ_le_succ g.len⟩
  ·rw[tk]
   rcases List.mem_cons.mp (pm.mem_iff.mp hp)with rfl|z
   ·exact List.mem_append_right _ (A8.mpr rfl)
   ·exact BU _ (g.from_ p z)
  ·rw[(pm.map (·.2)).mem_iff,List.map_cons]
   rw[tk]at hp
   rcases AW.mp hp with z|z
   ·exact List.mem_cons_of_mem _ (g.all p z)
   ·rw[A8.mp z]; exact AN
section
variable {Pr:Program} {wd:World} {A:Around} {Ex:Value→Shared→Prop} {st:Shared}
theorem rE {hp:Heap} {p:Addr} (e:hp.get? p=some (qY wd)):∃t,NSet wd hp p [] #[] 0 t:=
 ⟨_,⟨_,e,⟨rfl,rfl,rfl⟩,rfl⟩,rfl,⟨List.Pairwise.nil,rfl,rfl,.inl rfl,fun x hx=>(nomatch hx),fun i h j hi=>(nomatch hi)⟩,BI,by
   show _∨(!wd.params.followText "set-order")=true
   cases wd.params.followText "set-order"
   ·exact .inr rfl
   ·exact .inl rfl,by show 0 * 5<7 * 3; decide,by decide⟩
theorem bg {it:Addr} {fp wr:List Addr} {Gr:Array GenState→Array GenState→Prop} {n:Nat} {Pv:Nat→Value→Prop} {St:Nat→Shared→Prop} {Fin:Result→Shared→Prop}
  (W:WalksS Pr wd A.in1 it fp wr Gr n Pv St) (p:Addr) (off:p∉fp) (ks:List (Addr×NestedKey)) (hn:n=ks.length) (few:ks.length<64) (val:∀i v,Pv i v→∃q,ks[i]?=some q∧v=.ref q.1)
  (h0:Heap) (all:∀q∈ks,NkAt h0 q.2 q.1) (p0:h0.get? p=none) (w0:∀b∈wr,h0.get? b=none) (hu:A.in1.units+8<cLine) :
  ∀(m i:Nat) (st:Shared),n - i=m→i≤n→St i st→(∀b o,h0.get? b=some o→st.heap.get? b=some o)→(∃L es ep t,NSet wd st.heap p L es ep t∧GotN ks i L)→
   (∀s' L es ep t,Moved (p::wr) Gr st s'→NSet wd s'.heap p L es ep t→GotN ks ks.length L→Fin (.ok (.ret .none)) s')→codeAny (model Pr wd) A (.builtin "set.update.loop" ⟨[.ref p,.ref it],[]⟩) Fin st:=by
 have offW:p∉wr:=fun z=>off (W.sub _ z)
 have more:∀b∈wr,b∈p::wr:=fun b hb=>List.mem_cons_of_mem _ hb
 intro m
 induction m with
 |zero=>
  intro i st hm hi hst kp ⟨L,es,ep,t,hS,g⟩ hR
  obtain rfl:i=n:=by omega
  refine codeAny_builtin F.entry_set_update_loop ?_ ; rw[Around.under_plainId F.plain_set_update_loop _]
  show wpAny _ A.in1 (pyNext (.ref it) >>=_) _ _ st
  refine wpAny_bind (W.done st _ _ hst fun s' hmv=>wpAny_pure (hR s' L es ep t (hmv.mono more) (hS.at fun o e=>hmv.heap p o offW e) ?_))
  rw[hn]at g; exact g
 |succ m ih=>
  intro i st hm hi hst kp ⟨L,es,ep,t,hS,g⟩ hR
  have lt:i<n:=by omega
  refine codeAny_builtin F.entry_set_update_loop ?_ ; rw[Around.under_plainId F.plain_set_update_loop _]
  show wpAny _ A.in1 (pyNext (.ref it) >>=_) _ _ st
  refine wpAny_bind (W.item i st _ _ lt hst fun v s' hP hst' hmv=>?_)
  obtain⟨⟨x,k⟩,hq,rfl⟩:=val i v hP
  have kp1:∀b o,h0.get? b=some o→s'.heap.get? b=some o:=fun b o e=>hmv.heap b o (fun hb=>by rw[w0 b hb]at e; cases e) (kp b o e)
  have hS1:NSet wd s'.heap p L es ep t:=hS.at fun o e=>hmv.heap p o offW e
  have hx:NkAt s'.heap k x:=(all (x,k) (Bh hq)).on kp1
  have hL:∀r∈L,NkAt s'.heap r.2 r.1:=fun r hr=>(all r (BV (g.from_ r hr))).on kp1
  show wpAny _ A.in1 (holding [Value.ref x] (setAdd p (.ref x)) >>=_) _ _ s'
  refine wpAny_bind (wpAny_holding ?_)
  unfold setAdd
  refine wpAny_holding (wpAny_bind (pyHash_key k _ _ _ _ hx.1 (by have:=hx.2; omega) ?_))
  refine KP (s:={ s' with toks:=s'.toks+k.draws }) hS1 hL hx hu (by have:=g.len; omega) fun b h' L' es' ep' t' same hS2 c1 c2 _=>?_
  have kp2:∀b o,h0.get? b=some o→h'.get? b=some o:=fun b o e=>(same.2 b fun z:b=p=>by rw[z,p0]at e; cases e).trans (kp1 b o e)
  refine wpAny_pure ⟨plainId_quiet F.plain_set_update_loop _,ih (i+1) _ (by omega) lt (W.frame _ s' _ _ hst' (Nat.le_add_right _ _) fun b hb o e=>?_) kp2 ⟨L',es',ep',t',hS2,g.step hq c1 c2⟩ fun s'' L2 es2 ep2 t2 hmv2 hS3 g3=>?_⟩
  ·rw[same.2 b fun z:b=p=>off (by rw[←z]; exact hb)]; exact e
  ·refine hR s'' L2 es2 ep2 t2 (Moved.trans W.gtrans ((hmv.mono more).then_heap (Nat.le_add_right _ _) fun b o hb e=>?_) hmv2) hS3 g3
   rw[same.2 b fun z:b=p=>hb (by rw[z]; exact AN)]; exact e
theorem uK {hp:Heap} {b:Addr} (h:hp.objs.size≤b):hp.get? b=none:=by
 cases e:hp.get? b with
 |none=>rfl
 |some o=>exact absurd (Bq (Heap.lt_size e) h) (BF _)
theorem bP {l:Addr} {items:Array Value} (ks:List (Addr×NestedKey)) {Q:Value→Shared→Prop} (hh:A.handled=none) (hl:st.heap.IsList l items) (hit:items.toList=ks.map fun p=>Value.ref p.1) (all:∀q∈ks,NkAt st.heap q.2 q.1) (few:ks.length<64) (hu:A.units+16<cLine)
  (h:∀(h':Heap) (tk:Nat) L es ep t,NSet wd h' st.heap.objs.size L es ep t→GotN ks ks.length L→(∀b o,st.heap.get? b=some o→h'.get? b=some o)→Q (.ref st.heap.objs.size) { st with heap:=h',toks:=tk }) :
  wpAny (model Pr wd) A (call (.type "set") [.ref l]) Q Ex st:=by
 have size:items.size=ks.length:=by rw[←BO,hit,List.length_map]
 obtain⟨c,tl,hmro⟩:=F.called_set.mro
 have made:=F.called_set.made
 have subs:=F.called_set.sub
 refine wpAny_call (codeAny_of_tree ?_) ; show wpAny _ _ (callAny (.type "set") _) _ _ _
 refine wpAny_pure ⟨Code.quiet_builtin _ (by decide+kernel),codeAny_builtin F.entry_type_call ?_⟩ ; rw[Around.under_plain (weight_type_call_type "set" [.ref l] []) rfl]
 have n1:=F.called_set.notType
 have n2:=F.called_set.canCreate
 have n3:=F.typeCall_set_1 (.ref l)
 repeat (any_goals first|assumption|wp_step)
 refine codeAny_mono (L2.code_set_led1 (.ref l) (E:=Ex) (Q₁:=fun obj s1=>obj=.ref st.heap.objs.size∧s1={ st with heap:=st.heap.push (qY wd) }) ⟨rfl,rfl⟩) fun r s1 hr=>?_
 match r,hr with
 | .error e,hr=>exact hr
 | .ok (.ret obj),hr=>
   obtain⟨rfl,rfl⟩:=hr
   have hS:(st.heap.push (qY wd)).get? st.heap.objs.size=some (qY wd):=Heap.get?_push_size _ rfl
   have hT:Shared.TypeIs { st with heap:=st.heap.push (qY wd) } (.ref st.heap.objs.size) "set":=⟨_,hS,rfl⟩
   have i1:=F.called_set.init.lookup
   have i2:=F.called_set.init.bind (.ref st.heap.objs.size)
   repeat (any_goals first|assumption|wp_step)
   refine codeAny_mono (codeAny_call_builtin (R:=wants (fun r s2=>r=.none∧∃h' tk L es ep t,s2={ st with heap:=h',toks:=tk }∧NSet wd h' st.heap.objs.size L es ep t∧GotN ks ks.length L∧(∀b o,st.heap.get? b=some o→h'.get? b=some o)) Ex) F.called_set.init.plain F.entry_set_init (check_set_init_1 hT ?_)) fun r2 s2 hr2=>?_
   ·obtain⟨⟨ocls,odict,odata,oslots⟩,hol,hcl,nl,hdl⟩:=hl
    simp only at hcl hdl
    subst hcl; subst hdl
    have hol':(st.heap.push (qY wd)).get? l=some { cls:=.type "list",dict:=odict,data:=.seq items nl,slots:=oslots }:=Heap.get?_push_of_some _ hol
    have m1:=F.sub_list_set
    have m2:=F.sub_list_frozenset
    have m3:(Value.type "list"==Value.type "dict")=false:=by decide
    have hl1:(st.heap.push (qY wd)).IsList l items:=⟨_,hol',rfl,nl,rfl⟩
    unfold Builtin.«set.__init__» noKeywords Builtin.Frozenset.updateFrom
    generalize hPI:pyIter=PI
    wp_walk
    subst hPI
    refine wpAny_pyIter_list hl1 (wpAny_bind (wpAny_runValue ?_))
    have lt:l<st.heap.objs.size:=Heap.lt_size hol
    have hh3:A.in1.in1.in1.handled=none:=by simp[hh]
    have hz:(st.heap.push (qY wd)).objs.size=st.heap.objs.size+1:=Heap.size_push ..
    have ne:l≠(st.heap.push (qY wd)).objs.size:=by rw[hz]; exact Be (BH lt)
    have off:st.heap.objs.size∉[(st.heap.push (qY wd)).objs.size,l]:=by
     rw[hz]; simp only[List.mem_cons,List.not_mem_nil,or_false,not_or]
     exact⟨Be (Nat.lt_succ_self _),fun z=>BF _ (z▸lt)⟩
    have val:∀(i:Nat) (v:Value),items[i]?=some v→∃q,ks[i]?=some q∧v=.ref q.1:=fun i v hv=>by
     rw[←Array.getElem?_toList,hit,List.getElem?_map]at hv
     cases e:ks[i]? with
     |none=>rw[e]at hv; cases hv
     |some q=>rw[e]at hv; cases hv; exact⟨q,rfl,rfl⟩
    refine bg ((Walks.list hh3 _ l ne items).toS) st.heap.objs.size off ks size few val st.heap all (uK (Nat.le_refl _)) (fun b hb=>uK (by rw[A8.mp hb,hz]; exact Nat.le_succ _)) (by simp only[Around.in1_units]at *; omega) (items.size - 0) 0 _ (by omega) (Bg _) ⟨⟨_,Heap.get?_push_size _ rfl,rfl,rfl⟩,(hl1.push _)⟩
     (fun b o e=>Heap.get?_push_of_some _ (Heap.get?_push_of_some _ e)) ?_ fun s' L es ep t hmv hS' g=>?_
    ·obtain⟨t0,z⟩:=rE (Heap.get?_push_of_some _ hS)
     exact⟨[],#[],0,t0,z,⟨fun p hp=>(nomatch hp),fun p hp=>(nomatch hp),Nat.le_refl _⟩⟩
    ·obtain⟨h',g2,d',tk',os'⟩:=s'
     obtain rfl:g2=st.gens:=hmv.gens
     obtain rfl:d'=st.drawn:=hmv.drawn
     obtain rfl:os'=st.os:=hmv.os
     refine wpAny_pure (wpAny_pure ⟨rfl,h',tk',L,es,ep,t,rfl,hS',g,fun b o e=>?_⟩)
     have b0:b<st.heap.objs.size:=Heap.lt_size e
     exact hmv.heap b o (by rw[hz]; simp only[List.mem_cons,List.not_mem_nil,or_false,not_or]; exact⟨Be b0,Be (BH b0)⟩) (Heap.get?_push_of_some _ (Heap.get?_push_of_some _ e))
   ·match r2,hr2 with
    | .error e,hr2=>exact hr2
    | .ok (.ret r),hr2=>
      obtain⟨rfl,h',tk,L,es,ep,t,rfl,hS',g,hk'⟩:=hr2
      repeat (any_goals first|assumption|wp_step)
      exact h _ _ _ _ _ _ hS' g hk'
theorem bQ {l:Addr} {items:Array Value} (ks:List (Addr×NestedKey)) {Q:Value→Shared→Prop} (hh:A.handled=none) (hl:st.heap.IsTuple l items) (hit:items.toList=ks.map fun p=>Value.ref p.1) (all:∀q∈ks,NkAt st.heap q.2 q.1) (few:ks.length<64) (hu:A.units+16<cLine)
  (h:∀(h':Heap) (tk:Nat) L es ep t,NSet wd h' st.heap.objs.size L es ep t→GotN ks ks.length L→(∀b o,st.heap.get? b=some o→h'.get? b=some o)→Q (.ref st.heap.objs.size) { st with heap:=h',toks:=tk }) :
  wpAny (model Pr wd) A (call (.type "set") [.ref l]) Q Ex st:=by
 have size:items.size=ks.length:=by rw[←BO,hit,List.length_map]
 obtain⟨c,tl,hmro⟩:=F.called_set.mro
 have made:=F.called_set.made
 have subs:=F.called_set.sub
 refine wpAny_call (codeAny_of_tree ?_) ; show wpAny _ _ (callAny (.type "set") _) _ _ _
 refine wpAny_pure ⟨Code.quiet_builtin _ (by decide+kernel),codeAny_builtin F.entry_type_call ?_⟩ ; rw[Around.under_plain (weight_type_call_type "set" [.ref l] []) rfl]
 have n1:=F.called_set.notType
 have n2:=F.called_set.canCreate
 have n3:=F.typeCall_set_1 (.ref l)
 repeat (any_goals first|assumption|wp_step)
 refine codeAny_mono (L2.code_set_led1 (.ref l) (E:=Ex) (Q₁:=fun obj s1=>obj=.ref st.heap.objs.size∧s1={ st with heap:=st.heap.push (qY wd) }) ⟨rfl,rfl⟩) fun r s1 hr=>?_
 match r,hr with
 | .error e,hr=>exact hr
 | .ok (.ret obj),hr=>
   obtain⟨rfl,rfl⟩:=hr
   have hS:(st.heap.push (qY wd)).get? st.heap.objs.size=some (qY wd):=Heap.get?_push_size _ rfl
   have hT:Shared.TypeIs { st with heap:=st.heap.push (qY wd) } (.ref st.heap.objs.size) "set":=⟨_,hS,rfl⟩
   have i1:=F.called_set.init.lookup
   have i2:=F.called_set.init.bind (.ref st.heap.objs.size)
   repeat (any_goals first|assumption|wp_step)
   refine codeAny_mono (codeAny_call_builtin (R:=wants (fun r s2=>r=.none∧∃h' tk L es ep t,s2={ st with heap:=h',toks:=tk }∧NSet wd h' st.heap.objs.size L es ep t∧GotN ks ks.length L∧(∀b o,st.heap.get? b=some o→h'.get? b=some o)) Ex) F.called_set.init.plain F.entry_set_init (check_set_init_1 hT ?_)) fun r2 s2 hr2=>?_
   ·obtain⟨⟨ocls,odict,odata,oslots⟩,hol,hcl,nl,hdl⟩:=hl
    simp only at hcl hdl
    subst hcl; subst hdl
    have hol':(st.heap.push (qY wd)).get? l=some { cls:=.type "tuple",dict:=odict,data:=.seq items nl,slots:=oslots }:=Heap.get?_push_of_some _ hol
    have m1:=F.sub_tuple_set
    have m2:=F.sub_tuple_frozenset
    have m3:(Value.type "tuple"==Value.type "dict")=false:=by decide
    have hl1:(st.heap.push (qY wd)).IsTuple l items:=⟨_,hol',rfl,nl,rfl⟩
    unfold Builtin.«set.__init__» noKeywords Builtin.Frozenset.updateFrom
    generalize hPI:pyIter=PI
    wp_walk
    subst hPI
    refine wpAny_pyIter_tuple hl1 (wpAny_bind (wpAny_runValue ?_))
    have lt:l<st.heap.objs.size:=Heap.lt_size hol
    have hh3:A.in1.in1.in1.handled=none:=by simp[hh]
    have hz:(st.heap.push (qY wd)).objs.size=st.heap.objs.size+1:=Heap.size_push ..
    have ne:l≠(st.heap.push (qY wd)).objs.size:=by rw[hz]; exact Be (BH lt)
    have off:st.heap.objs.size∉[(st.heap.push (qY wd)).objs.size,l]:=by
     rw[hz]; simp only[List.mem_cons,List.not_mem_nil,or_false,not_or]
     exact⟨Be (Nat.lt_succ_self _),fun z=>BF _ (z▸lt)⟩
    have val:∀(i:Nat) (v:Value),items[i]?=some v→∃q,ks[i]?=some q∧v=.ref q.1:=fun i v hv=>by
     rw[←Array.getElem?_toList,hit,List.getElem?_map]at hv
     cases e:ks[i]? with
     |none=>rw[e]at hv; cases hv
     |some q=>rw[e]at hv; cases hv; exact⟨q,rfl,rfl⟩
    refine bg ((Walks.tuple hh3 _ l ne items).toS) st.heap.objs.size off ks size few val st.heap all (uK (Nat.le_refl _)) (fun b hb=>uK (by rw[A8.mp hb,hz]; exact Nat.le_succ _)) (by simp only[Around.in1_units]at *; omega) (items.size - 0) 0 _ (by omega) (Bg _) ⟨⟨_,Heap.get?_push_size _ rfl,rfl,rfl⟩,(hl1.push _)⟩
     (fun b o e=>Heap.get?_push_of_some _ (Heap.get?_push_of_some _ e)) ?_ fun s' L es ep t hmv hS' g=>?_
    ·obtain⟨t0,z⟩:=rE (Heap.get?_push_of_some _ hS)
     exact⟨[],#[],0,t0,z,⟨fun p hp=>(nomatch hp),fun p hp=>(nomatch hp),Nat.le_refl _⟩⟩
    ·obtain⟨h',g2,d',tk',os'⟩:=s'
     obtain rfl:g2=st.gens:=hmv.gens
     obtain rfl:d'=st.drawn:=hmv.drawn
     obtain rfl:os'=st.os:=hmv.os
     refine wpAny_pure (wpAny_pure ⟨rfl,h',tk',L,es,ep,t,rfl,hS',g,fun b o e=>?_⟩)
     have b0:b<st.heap.objs.size:=Heap.lt_size e
     exact hmv.heap b o (by rw[hz]; simp only[List.mem_cons,List.not_mem_nil,or_false,not_or]; exact⟨Be b0,Be (BH b0)⟩) (Heap.get?_push_of_some _ (Heap.get?_push_of_some _ e))
   ·match r2,hr2 with
    | .error e,hr2=>exact hr2
    | .ok (.ret r),hr2=>
      obtain⟨rfl,h',tk,L,es,ep,t,rfl,hS',g,hk'⟩:=hr2
      repeat (any_goals first|assumption|wp_step)
      exact h _ _ _ _ _ _ hS' g hk'
end
mutual
def m5:NestedKey→List (Int ⊕ List Nat)
 | .none=>[]
 | .num i=>[.inl i]
 | .text x=>[.inr x.cps.toList]
 | .tup ks=>ktoksL ks
def ktoksL:List NestedKey→List (Int ⊕ List Nat)
 |[]=>[.inl 0]
 |k::ks=>.inl 1::(m5 k++ktoksL ks)
end
mutual
theorem VB:∀(x:D) (k:NestedKey),x.nk?=some k→∃p,x.py=some p∧PySem.W.keyToks p=m5 k
 | .non,k,e=>by rw[D.nk?]at e; cases e; exact⟨_,rfl,rfl⟩
 | .bl b,k,e=>by rw[D.nk?]at e; cases e; exact⟨_,rfl,rfl⟩
 | .int i,k,e=>by rw[D.nk?]at e; cases e; exact⟨_,rfl,rfl⟩
 | .str x,k,e=>by rw[D.nk?]at e; cases e; exact⟨_,rfl,rfl⟩
 | .tup xs,k,e=>by
   rw[D.nk?]at e
   obtain⟨ks,e1,rfl⟩:=AO.mp e
   obtain⟨ps,p1,p2⟩:=nkL_toks xs ks e1
   exact⟨.tuple ps,by rw[D.py,p1]; rfl,by rw[PySem.W.keyToks,p2,m5]⟩
 | .lst _,_,e=>by rw[D.nk?]at e; cases e
 | .dct _,_,e=>by rw[D.nk?]at e; cases e
 | .fn _,_,e=>by rw[D.nk?]at e; cases e
 | .ty _,_,e=>by rw[D.nk?]at e; cases e
 | .scr _,_,e=>by rw[D.nk?]at e; cases e
 | .cd _,_,e=>by rw[D.nk?]at e; cases e
 | .dd _,_,e=>by rw[D.nk?]at e; cases e
 | .db _,_,e=>by rw[D.nk?]at e; cases e
 | .ins _ _,_,e=>by rw[D.nk?]at e; cases e
 | .raw _,_,e=>by rw[D.nk?]at e; cases e
 | .exc _ _,_,e=>by rw[D.nk?]at e; cases e
 | .wt _,_,e=>by rw[D.nk?]at e; cases e
theorem nkL_toks:∀(xs:List D) (ks:List NestedKey),D.nkL xs=some ks→∃ps,D.pyL xs=some ps∧PySem.W.keyToksAll ps=ktoksL ks
 |[],ks,e=>by rw[D.nkL]at e; cases e; exact⟨[],rfl,rfl⟩
 |x::xs,ks,e=>by
  rw[D.nkL]at e
  split at e
  ·rename_i a as e1 e2
   cases e
   obtain⟨p,p1,p2⟩:=VB x a e1
   obtain⟨ps,q1,q2⟩:=nkL_toks xs as e2
   refine⟨p::ps,by rw[D.pyL,p1,q1],by rw[PySem.W.keyToksAll,p2,q2,ktoksL]⟩
  ·cases e
end
mutual
theorem lB:∀(x y:D) (k l:NestedKey) (p q:PyData) (r r':List (Int ⊕ List Nat)),x.nk?=some k→y.nk?=some l→x.py=some p→y.py=some q→PySem.W.alike p q=true→PySem.W.keyToks p++r=PySem.W.keyToks q++r'→x=y∧r=r'
 | .non,y,k,l,p,q,r,r',e1,e2,e3,e4,h,t=>by
   rw[D.py]at e3; cases e3
   cases y<;>simp only[D.nk?,reduceCtorEq]at e2<;>simp only[D.py,Option.some.injEq]at e4<;>(try subst e4)<;>(try (simp[PySem.W.alike]at h; done))<;>(try (obtain⟨ks,z1,z2⟩:=AO.mp e4; subst z2; simp[PySem.W.alike]at h; done))
   exact⟨rfl,by simpa[PySem.W.keyToks]using t⟩
 | .bl b,y,k,l,p,q,r,r',e1,e2,e3,e4,h,t=>by
   rw[D.py]at e3; cases e3
   cases y<;>simp only[D.nk?,reduceCtorEq]at e2<;>simp only[D.py,Option.some.injEq]at e4<;>(try subst e4)<;>(try (simp[PySem.W.alike]at h; done))<;>(try (obtain⟨ks,z1,z2⟩:=AO.mp e4; subst z2; simp[PySem.W.alike]at h; done))
   rename_i c
   simp only[PySem.W.keyToks,List.cons_append,List.nil_append,List.cons.injEq,Sum.inl.injEq]at t
   refine⟨?_,t.2⟩
   cases b<;>cases c<;>simp_all
 | .int i,y,k,l,p,q,r,r',e1,e2,e3,e4,h,t=>by
   rw[D.py]at e3; cases e3
   cases y<;>simp only[D.nk?,reduceCtorEq]at e2<;>simp only[D.py,Option.some.injEq]at e4<;>(try subst e4)<;>(try (simp[PySem.W.alike]at h; done))<;>(try (obtain⟨ks,z1,z2⟩:=AO.mp e4; subst z2; simp[PySem.W.alike]at h; done))
   simp only[PySem.W.keyToks,List.cons_append,List.nil_append,List.cons.injEq,Sum.inl.injEq]at t
   exact⟨by rw[t.1],t.2⟩
 | .str z,y,k,l,p,q,r,r',e1,e2,e3,e4,h,t=>by
   rw[D.py]at e3; cases e3
   cases y<;>simp only[D.nk?,reduceCtorEq]at e2<;>simp only[D.py,Option.some.injEq]at e4<;>(try subst e4)<;>(try (simp[PySem.W.alike]at h; done))<;>(try (obtain⟨ks,z1,z2⟩:=AO.mp e4; subst z2; simp[PySem.W.alike]at h; done))
   simp only[PySem.W.keyToks,List.cons_append,List.nil_append,List.cons.injEq,Sum.inr.injEq]at t
   exact⟨by rw[PySem.W.str_of_cps t.1],t.2⟩
 | .tup xs,y,k,l,p,q,r,r',e1,e2,e3,e4,h,t=>by
   rw[D.py]at e3
   obtain⟨ps,p1,rfl⟩:=AO.mp e3
   rw[D.nk?]at e1
   obtain⟨ks,k1,_⟩:=AO.mp e1
   cases y<;>simp only[D.nk?,reduceCtorEq]at e2<;>simp only[D.py,Option.some.injEq]at e4<;>(try subst e4)<;>(try (simp[PySem.W.alike]at h; done))
   rename_i ys
   obtain⟨ls,l1,_⟩:=AO.mp e2
   obtain⟨qs,q1,rfl⟩:=AO.mp e4
   simp only[PySem.W.alike,PySem.W.keyToks]at h t
   obtain⟨z1,z2⟩:=toks_all xs ys ks ls ps qs r r' k1 l1 p1 q1 h t
   exact⟨by rw[z1],z2⟩
 | .lst _,_,_,_,_,_,_,_,e,_,_,_,_,_=>by rw[D.nk?]at e; cases e
 | .dct _,_,_,_,_,_,_,_,e,_,_,_,_,_=>by rw[D.nk?]at e; cases e
 | .fn _,_,_,_,_,_,_,_,e,_,_,_,_,_=>by rw[D.nk?]at e; cases e
 | .ty _,_,_,_,_,_,_,_,e,_,_,_,_,_=>by rw[D.nk?]at e; cases e
 | .scr _,_,_,_,_,_,_,_,e,_,_,_,_,_=>by rw[D.nk?]at e; cases e
 | .cd _,_,_,_,_,_,_,_,e,_,_,_,_,_=>by rw[D.nk?]at e; cases e
 | .dd _,_,_,_,_,_,_,_,e,_,_,_,_,_=>by rw[D.nk?]at e; cases e
 | .db _,_,_,_,_,_,_,_,e,_,_,_,_,_=>by rw[D.nk?]at e; cases e
 | .ins _ _,_,_,_,_,_,_,_,e,_,_,_,_,_=>by rw[D.nk?]at e; cases e
 | .raw _,_,_,_,_,_,_,_,e,_,_,_,_,_=>by rw[D.nk?]at e; cases e
 | .exc _ _,_,_,_,_,_,_,_,e,_,_,_,_,_=>by rw[D.nk?]at e; cases e
theorem toks_all:∀(xs ys:List D) (ks ls:List NestedKey) (ps qs:List PyData) (r r':List (Int ⊕ List Nat)),D.nkL xs=some ks→D.nkL ys=some ls→D.pyL xs=some ps→D.pyL ys=some qs→PySem.W.alikeAll ps qs=true→PySem.W.keyToksAll ps++r=PySem.W.keyToksAll qs++r'→xs=ys∧r=r'
 |[],[],ks,ls,ps,qs,r,r',e1,e2,e3,e4,h,t=>by
  rw[D.pyL]at e3 e4; cases e3; cases e4
  simp only[PySem.W.keyToksAll,List.cons_append,List.nil_append,List.cons.injEq,true_and]at t
  exact⟨rfl,t⟩
 |[],y::ys,ks,ls,ps,qs,r,r',e1,e2,e3,e4,h,t=>by
  rw[D.pyL]at e3
  rw[D.pyL]at e4
  cases e3
  split at e4
  ·cases e4
   simp only[PySem.W.keyToksAll,List.cons_append,List.nil_append,List.cons.injEq,Sum.inl.injEq]at t
   exact absurd t.1 (by decide)
  ·cases e4
 |x::xs,[],ks,ls,ps,qs,r,r',e1,e2,e3,e4,h,t=>by
  rw[D.pyL]at e3
  rw[D.pyL]at e4
  cases e4
  split at e3
  ·cases e3
   simp only[PySem.W.keyToksAll,List.cons_append,List.nil_append,List.cons.injEq,Sum.inl.injEq]at t
   exact absurd t.1 (by decide)
  ·cases e3
 |x::xs,y::ys,ks,ls,ps,qs,r,r',e1,e2,e3,e4,h,t=>by
  rw[D.nkL]at e1 e2
  rw[D.pyL]at e3 e4
  split at e1
  ·split at e2
   ·split at e3
    ·split at e4
     ·rename_i k1 ks1 a1 a2 _ _ l1 ls1 b1 b2 _ _ p1 ps1 c1 c2 _ _ q1 qs1 d1 d2
      cases e3; cases e4
      simp only[PySem.W.alikeAll,Bool.and_eq_true]at h
      simp only[PySem.W.keyToksAll,List.cons_append,Bi,List.cons.injEq,true_and]at t
      obtain⟨z1,z2⟩:=lB x y _ _ _ _ _ _ a1 b1 c1 d1 h.1 t
      obtain⟨z3,z4⟩:=toks_all xs ys _ _ _ _ _ _ a2 b2 c2 d2 h.2 z2
      exact⟨by rw[z1,z3],z4⟩
     ·cases e4
    ·cases e3
   ·cases e2
  ·cases e1
end
theorem cw {x y:D} {k l:NestedKey} (e1:x.nk?=some k) (e2:y.nk?=some l) (h:PySem.W.alike x.pyd y.pyd=true) (t:m5 k=m5 l):x=y:=by
 obtain⟨p,p1,p2⟩:=VB x k e1
 obtain⟨q,q1,q2⟩:=VB y l e2
 have a:x.pyd=p:=by unfold D.pyd; rw[p1]; rfl
 have b:y.pyd=q:=by unfold D.pyd; rw[q1]; rfl
 rw[a,b]at h
 exact(lB x y k l p q [] [] e1 e2 p1 q1 h (by rw[p2,q2,t])).1
theorem ax {x y:D} {k l:NestedKey} (e1:x.nk?=some k) (e2:y.nk?=some l) (h:PySem.W.alike x.pyd y.pyd=true) (h1:D.sle x y=true) (h2:D.sle y x=true):x=y:=by
 obtain⟨p,p1,p2⟩:=VB x k e1
 obtain⟨q,q1,q2⟩:=VB y l e2
 have a:x.pyd=p:=by unfold D.pyd; rw[p1]; rfl
 have b:y.pyd=q:=by unfold D.pyd; rw[q1]; rfl
 refine cw e1 e2 h ?_
 rw[←p2,←q2,←a,←b]
 unfold D.sle at h1 h2
 rw[Bool.not_eq_true']at h1 h2
 exact lex_total _ _ h2 h1
theorem vB (a b c:D) (h1:D.sle a b=true) (h2:D.sle b c=true):D.sle a c=true:=by
 unfold D.sle at *
 rw[Bool.not_eq_true']at *
 cases h:PySem.W.dataLt c.pyd a.pyd with
 |false=>rfl
 |true=>
  rcases lex_negTrans _ (PySem.W.keyToks b.pyd) _ h with z|z
  ·have h2:lexLt _ _ _=false:=h2
   rw[h2]at z; cases z
  ·have h1:lexLt _ _ _=false:=h1
   rw[h1]at z; cases z
theorem vA (a b:D):(D.sle a b||D.sle b a)=true:=by
 unfold D.sle
 cases h:PySem.W.dataLt b.pyd a.pyd with
 |false=>rfl
 |true=>
  cases h':PySem.W.dataLt a.pyd b.pyd with
  |false=>rfl
  |true=>
   have:=lex_trans _ _ _ (show lexLt _ _ _=true from h) h'
   rw[lex_irrefl]at this; cases this
theorem gV {α:Type} {le:α→α→Bool}:∀{l m:List α},l.Perm m→l.Pairwise (fun x y=>le x y=true)→m.Pairwise (fun x y=>le x y=true)→(∀x∈l,∀y∈l,le x y=true→le y x=true→x=y)→l=m
 |[],m,p,_,_,_=>by rw[List.nil_perm.mp p]
 |x::l,[],p,_,_,_=>by have:=p.length_eq; simp at this
 |x::l,y::m,p,h1,h2,an=>by
  have e:x=y:=by
   rcases List.mem_cons.mp (p.mem_iff.mp AN)with e|hx
   ·exact e
   ·rcases List.mem_cons.mp (p.mem_iff.mpr AN)with e|hy
    ·exact e.symm
    ·exact an x AN y (List.mem_cons_of_mem _ hy) ((Bz.mp h1).1 y hy) ((Bz.mp h2).1 x hx)
  subst e
  rw[gV (List.Perm.cons_inv p) (Bz.mp h1).2 (Bz.mp h2).2 fun a ha b hb=>an a (List.mem_cons_of_mem _ ha) b (List.mem_cons_of_mem _ hb)]
theorem Nj {l m:List D} (p:l.Perm m) (nk:∀x∈l,∃k,x.nk?=some k) (al:∀x∈l,∀y∈l,PySem.W.alike x.pyd y.pyd=true):Xx l=Xx m:=by
 refine gV (le:=D.sle) ((Xy l).trans (p.trans (Xy m).symm)) (BX vB vA l) (BX vB vA m) fun x hx y hy h1 h2=>?_
 have hx:=(Xy l).mem_iff.mp hx
 have hy:=(Xy l).mem_iff.mp hy
 obtain⟨k,e1⟩:=nk x hx
 obtain⟨k2,e2⟩:=nk y hy
 exact ax e1 e2 (al x hx y hy) h1 h2
def Jq (xs:List D) (k:NestedKey):D:=(xs.find? fun d=>decide (d.nk?=some k)).getD .non
def rG (xs:List D) (ks:List NestedKey):List D:=(QD ks).map (Jq xs)
def NestedKey.isTup:NestedKey→Bool
 | .tup _=>true
 |_=>false
def D.seq2?:D→Option (List D)
 | .lst xs=>some xs
 | .tup xs=>some xs
 |_=>none
def okN (ks:List NestedKey):Bool:=decide (ks.length<64)&&ks.all fun k=>NestedKey.isTup k&&decide (k.depth≤8)
def Z7:List D→Option E
 |[x]=>x.seq2?.bind fun xs=>(D.nkL xs).bind fun ks=>if okN ks=true∧xq xs=true then some (.fr (.lst (Xx (rG xs ks))))else none
 |_=>none
theorem K8 {xs:List D} {k:NestedKey} (h:∃x∈xs,x.nk?=some k):Jq xs k∈xs∧(Jq xs k).nk?=some k:=by
 obtain⟨x,hx,e⟩:=h
 unfold Jq
 cases f:xs.find? fun d=>decide (d.nk?=some k)with
 |none=>exact absurd (by simpa using e) (by simpa using List.find?_eq_none.mp f x hx)
 |some y=>exact⟨List.mem_of_find?_eq_some f,by simpa using List.find?_some f⟩
theorem bB {xs:List D} (h:xq xs=true):∀x∈xs,∀y∈xs,PySem.W.alike x.pyd y.pyd=true:=by
 unfold xq at h
 simp only[Bool.and_eq_true,AP]at h
 exact h.1.2
theorem rN {xs:List D} {ks:List NestedKey} (e:D.nkL xs=some ks) (ok:xq xs=true) {x:D} {k:NestedKey} (hx:x∈xs) (hk:x.nk?=some k):Jq xs k=x:=by
 obtain⟨h1,h2⟩:=K8 ⟨x,hx,hk⟩
 exact cw h2 hk (bB ok _ h1 _ hx) rfl
def NsO (w:World) (a:Addr) (L:List (Addr×NestedKey)):HO:=.ext fun h=>∃es ep t,NSet w h a L es ep t
theorem ay {P:Program} {w:World} {H:Hp} {h:Heap} {a:Addr} {L:List (Addr×NestedKey)} {es:Array (Int×Value)} {ep:Nat} {t:SetTable} (R:NSet w h a L es ep t):ObjOk P w H h a (NsO w a L):=by
 obtain⟨o,ho,_⟩:=id R.obj
 refine⟨⟨es,ep,t,R⟩,⟨o,ho⟩,fun h1 h2 p k=>?_⟩
 obtain⟨es',ep',t',R'⟩:=p
 exact⟨es',ep',t',R'.at k⟩
theorem gr:∀{ks:List (Addr×NestedKey)} {us:List Value},Vals (ks.map fun p=>V.ref p.1) us→us=ks.map fun p=>Value.ref p.1
 |[],_,h=>by cases h; rfl
 |p::ks,_,h=>by
  rw[List.map_cons]at h
  cases h with
  |cons r t=>
   have r:_=Value.ref p.1:=r
   rw[r,gr t]; rfl
theorem g9:∀ks:List (Addr×NestedKey),Vals (ks.map fun p=>V.ref p.1) (ks.map fun p=>Value.ref p.1)
 |[]=>.nil
 |_::ks=>.cons rfl (g9 ks)
theorem br {α β:Type} (f:α→β):∀{vs ws:List β},vs.Perm ws→∀L:List α,ws=L.map f→∃L':List α,L'.Perm L∧vs=L'.map f:=by
 intro vs ws h
 induction h with
 |nil=>intro L e; exact⟨[],by cases L<;>simp_all,rfl⟩
 |cons x _ ih=>
  intro L e
  cases L with
  |nil=>cases e
  |cons p L=>
   rw[List.map_cons]at e
   injection e with e1 e2
   obtain⟨L',h1,h2⟩:=ih L e2
   exact⟨p::L',h1.cons p,by rw[List.map_cons,h2,e1]⟩
 |swap x y l=>
  intro L e
  match L,e with
  |p::q::L,e=>
   simp only[List.map_cons,List.cons.injEq]at e
   exact⟨q::p::L,List.Perm.swap p q L,by simp only[List.map_cons,e.1,e.2.1,e.2.2]⟩
  |[_],e=>simp at e
  |[],e=>simp at e
 |trans _ _ ih1 ih2=>
  intro L e
  obtain⟨L2,h1,h2⟩:=ih2 L e
  obtain⟨L3,h3,h4⟩:=ih1 L2 h2
  exact⟨L3,h3.trans h1,h4⟩
section
variable {X:Cx} {W:WX'}
def Sa (K:PySem.W.Frag) (w:World):List V→Hp→VK→Prop:=fun vs H Q=>∃(l:Addr) (ks:List (Addr×NestedKey)),vs=[.ref l]∧(SqL K H l (ks.map fun p=>V.ref p.1)∨SqT K H l (ks.map fun p=>V.ref p.1))∧(∀p∈ks,NkV K H p.2 (.ref p.1)∧p.2.depth≤8)∧ks.length<64∧
 ∀a L,H a=none→GotN ks ks.length L→(L.map (·.2)).Nodup→Q (.ref a) (upd H a (NsO w a L))
theorem Ma (hc:X.calm=true) (hu:X.A.units+64<cLine):CallR X (.type "set") (Sa X.K X.w):=by
 intro pins s σ H vs us Q I r h
 obtain⟨l,ks,rfl,hq,hk,few,q⟩:=h
 rw[Vals.ref1 r]
 have all:∀p∈ks,NkAt s.heap p.2 p.1:=fun p hp=>⟨NkV.is I _ _ _ (hk p hp).1 rfl,(hk p hp).2⟩
 rcases hq with hq|hq
 ·obtain⟨its,rv,⟨po,pn,pe,pc,_,pd⟩,_⟩:=I.list hq
  refine bP (items:=its.toArray) ks (I.ok.hd hc) ⟨po,pe,pc,pn,pd⟩ (gr rv) all few (by omega) fun h' tk L es ep t R g kept=>?_
  exact⟨.ref _,upd H s.heap.objs.size (NsO X.w s.heap.objs.size L),I.laid (t':=tk) kept (Nat.le_refl _) (ay R),rfl,q _ _ (I.hok.fresh (Nat.le_refl _)) g R.nd⟩
 ·obtain⟨its,rv,it,_⟩:=I.tuple hq
  refine bQ (items:=its.toArray) ks (I.ok.hd hc) it (gr rv) all few (by omega) fun h' tk L es ep t R g kept=>?_
  exact⟨.ref _,upd H s.heap.objs.size (NsO X.w s.heap.objs.size L),I.laid (t':=tk) kept (Nat.le_refl _) (ay R),rfl,q _ _ (I.hok.fresh (Nat.le_refl _)) g R.nd⟩
def M9 (K:PySem.W.Frag) (w:World):List V→Hp→VK→Prop:=fun vs H Q=>∃(a:Addr) (L:List (Addr×NestedKey)) (c:Addr×NestedKey→D),vs=[.ref a]∧H a=some (NsO w a L)∧(∀p∈L,Dp K H (.ref p.1) (c p).pyd)∧xq (L.map c)=true∧
 ∀(ps:List (V×D)) (l:Addr),ps.Perm (L.map fun p=>(V.ref p.1,c p))→H l=none→Q (.ref l) (upd H l (.lst ((YM ps).map (·.1))))
theorem gU {xs ys:List D} (h:xq xs=true) (s:∀y∈ys,y∈xs):xq ys=true:=by
 unfold xq at h⊢
 simp only[Bool.and_eq_true,Bx,AP]at h⊢
 obtain⟨⟨h1,h2⟩,h3⟩:=h
 refine⟨⟨fun x hx=>h1 x (s x hx),fun x hx y hy=>h2 x (s x hx) y (s y hy)⟩,?_⟩
 rcases h3 with h3|h3
 ·exact .inl fun x hx=>h3 x (s x hx)
 ·exact .inr fun x hx=>h3 x (s x hx)
theorem e_ (hc:X.calm=true) (hu:X.A.units+64<cLine):CallR X (.builtin "sorted") (M9 X.K X.w):=by
 intro pins s σ H vs us Q I r h
 obtain⟨a,L,c,rfl,ha,hd0,hs,q⟩:=h
 obtain⟨es,ep,t,R⟩:∃es ep t,NSet X.w s.heap a L es ep t:=(I.hok a _ ha).1
 rw[Vals.ref1 r]
 have few:=R.few
 refine nM I hu (Good:=fun ps=>ps.Perm (L.map fun p=>(V.ref p.1,c p))) (fun Rr hR=>?_) (fun ps gd p hp=>?_) (fun ps gd=>?_) (fun ps gd=>?_) fun ps l gd hl=>q ps l gd hl
 ·obtain⟨o,ho,hex,hd⟩:=R.obj
  have n:=Y2 R.rows
  refine L2.collect_set (A:=X.A.in1) (I.ok.hd hc) ⟨o,ho,hex.1,hd⟩ R.fits (by unfold scanBound; omega) R.tab.ris R.led fun s1 vs k1 hz g1 o1 pv=>?_
  have e:es.toList.map (·.2)=L.map fun p=>Value.ref p.1:=by rw[R.rows,QC,AY]; rfl
  obtain⟨L',pL,rfl⟩:=br (fun p:Addr×NestedKey=>Value.ref p.1) pv L e
  refine hR s1 _ (L'.map fun p=>(V.ref p.1,c p)) k1 g1 o1 (pL.map _) ?_
  rw[AY]
  exact g9 L'
 ·obtain⟨p',hp',rfl⟩:=AM.mp (gd.mem_iff.mp hp)
  exact hd0 p' hp'
 ·refine gU hs fun y hy=>?_
  obtain⟨p,hp,rfl⟩:=AM.mp hy
  obtain⟨p',hp',rfl⟩:=AM.mp (gd.mem_iff.mp hp)
  exact AM.mpr ⟨p',hp',rfl⟩
 ·rw[gd.length_eq,List.length_map,sizeLine_eq]; omega
theorem aV {B:Bk} {G:Hp}:∀{xs:List D} {ws:List V} {kl:List NestedKey},FzL B G ws xs→D.nkL xs=some kl→(kl.all fun k=>NestedKey.isTup k&&decide (k.depth≤8))=true→
  ∃ks:List (Addr×NestedKey),ws=ks.map (fun p=>V.ref p.1)∧ks.map (·.2)=kl∧∀p∈ks,p.2.depth≤8∧∃x∈xs,x.nk?=some p.2∧Fz B G (.ref p.1) x
 |[],[],kl,h,e,_=>by rw[D.nkL]at e; cases e; exact⟨[],rfl,rfl,fun p hp=>(nomatch hp)⟩
 |[],_::_,_,h,_,_=>by rw[FzL]at h; exact h.elim
 |_::_,[],_,h,_,_=>by rw[FzL]at h; exact h.elim
 |x::xs,u::us,kl,h,e,t=>by
  rw[FzL]at h
  rw[D.nkL]at e
  split at e
  ·rename_i k ks e1 e2
   cases e
   rw[List.all_cons,Bool.and_eq_true,Bool.and_eq_true,decide_eq_true_eq]at t
   obtain⟨⟨t1,t2⟩,t3⟩:=t
   obtain⟨L,l1,l2,l3⟩:=aV h.2 e2 t3
   have hz:=rD (Same.refl G) x u k e1 h.1
   match k,hz,t1,e1,t2,l2 with
   | .tup kk,.tup (a:=a) hs ha,_,e1,t2,l2=>
     refine⟨(a,.tup kk)::L,by rw[List.map_cons,l1],by rw[List.map_cons,l2],fun p hp=>?_⟩
     rcases List.mem_cons.mp hp with rfl|hp
     ·exact⟨t2,x,AN,e1,h.1⟩
     ·obtain⟨z1,y,z2,z3⟩:=l3 p hp
      exact⟨z1,y,List.mem_cons_of_mem _ z2,z3⟩
  ·cases e
theorem Ng {B:Bk} {G H:Hp} {u:V} {x:D} {xs:List D} (s:Same G H) (h:Tz B G H u x) (e:x.seq2?=some xs):∃l ws,u=.ref l∧(SqL B.K H l ws∨SqT B.K H l ws)∧FzL B G ws xs:=by
 unfold D.seq2? at e
 split at e
 ·cases e
  obtain⟨a,ws,rfl,q1,q2⟩:=h
  exact⟨a,ws,rfl,.inl (SqL.of q1),q2⟩
 ·cases e
  obtain⟨a,ws,rfl,q1,q2⟩:=qO h
  exact⟨a,ws,rfl,.inr (BY s q1),q2⟩
 ·cases e
theorem Kb {ks L:List (Addr×NestedKey)} (g:GotN ks ks.length L) (nd:(L.map (·.2)).Nodup):(L.map (·.2)).Perm (QD (ks.map (·.2))):=by
 refine(List.perm_ext_iff_of_nodup nd (gz _)).mpr fun k=>?_
 rw[U8]
 have tk:ks.take ks.length=ks:=List.take_length
 constructor
 ·intro h
  obtain⟨p,hp,rfl⟩:=AM.mp h
  have:=g.from_ p hp
  rw[tk]at this
  exact AM.mpr ⟨p,this,rfl⟩
 ·intro h
  obtain⟨p,hp,rfl⟩:=AM.mp h
  exact g.all p (by rw[tk]; exact hp)
theorem uX {e:Expr} {fs:List S→Res (List E)} {p p2 pos pos2:Pos} (hc:X.calm=true) (hu:X.A.units+64<cLine) (ml:X.mg "sorted"=none) (ms:X.mg "set"=none) (ha:PAa X W [e] fs) (hl:Gl X "sorted":=by rfl) (hs:Gl X "set":=by rfl) (st:starEach [e] X.env=(false,eval e X.env)::starEach [] X.env:=by rfl)
  (pl:(backTo pos2 (starEach [] X.env)).any (·.1)=false:=by rfl) (pl2:(backTo pos (starEach [] X.env)).any (·.1)=false:=by rfl)
  (st2:starEach [.Call (.Name "set" p2) [e] [] pos2] X.env=(false,eval (.Call (.Name "set" p2) [e] [] pos2) X.env)::starEach [] X.env:=by rfl):PEa X W (.Call (.Name "sorted" p) [.Call (.Name "set" p2) [e] [] pos2] [] pos) (zh Z7 fs):=
 xv (pe_callB (e_ hc hu) hl ml BW (pa_cons (pe_callTy (Ma hc hu) hs ms PyProof.Rows.boot_set ha (by decide) (by decide) st pl) pa_nil) (by decide) (by decide) st2 pl2) fun σ H Q h=>by
  obtain⟨G,ρ,rl,h⟩:=h
  refine yY (xt rl (Aft.cl (Q:=Q)) h) fun us H1 ⟨vs,ρ1,G1,P,h1⟩=>?_
  split at h1
  ·rename_i v e
   obtain⟨xs,e1,e2⟩:=Bc.mp e
   unfold Z7 at e2
   split at e2
   ·obtain⟨u,rfl,q0⟩:=jD (P.vals e1)
    obtain⟨ys,e3,e4⟩:=Bc.mp e2
    obtain⟨kl,e5,e6⟩:=Bc.mp e4
    split at e6
    ·rename_i ok
     cases e6
     obtain⟨ok,so⟩:=ok
     unfold okN at ok
     rw[Bool.and_eq_true,decide_eq_true_eq]at ok
     obtain⟨l,ws,rfl,hq,fz⟩:=Ng P.post.rel.sub q0 e3
     obtain⟨ks,rfl,rfl,each⟩:=aV fz e5 ok.2
     refine⟨l,ks,rfl,hq,fun r hr=>?_,by have:=ok.1; rwa [List.length_map]at this,fun t L ht g nd=>?_⟩
     ·obtain⟨z1,x,_,z2,z3⟩:=each r hr
      exact⟨rD P.post.rel.sub x _ _ z2 z3,z1⟩
     ·have tk:ks.take ks.length=ks:=List.take_length
      have inL:∀r∈L,Jq ys r.2∈ys∧(Jq ys r.2).nk?=some r.2∧Fz X.bk G1 (.ref r.1) (Jq ys r.2):=fun r hr=>by
       have hk:=g.from_ r hr
       rw[tk]at hk
       obtain⟨_,x,z1,z2,z3⟩:=each r hk
       rw[rN e5 so z1 z2]
       exact⟨z1,z2,z3⟩
      have tg:G1 t=none:=Same.free P.post.rel.sub ht
      have nt:∀j,¬Own σ ρ1 j t:=fun j w=>by
       obtain⟨ho,z3,_⟩:=P.post.rel.obj w
       rw[ht]at z3; cases z3
      have p1:=P.post.trans ((Post.refl P.post.rel).poke (o:=NsO X.w t L) P.post.rel.tab ht tg nt)
      refine⟨t,L,fun r=>Jq ys r.2,rfl,upd_same,fun r hr=>?_,gU so fun y hy=>?_,fun ps b hps hlf=>?_⟩
      ·obtain⟨z1,z2,z3⟩:=inL r hr
       obtain⟨pp,y1,_⟩:=VB _ _ z2
       have e7:(Jq ys r.2).pyd=pp:=by unfold D.pyd; rw[y1]; rfl
       rw[e7]
       exact Qx _ _ _ y1 (Fz.mono p1.rel.sub _ _ z3)
      ·obtain⟨r,hr,rfl⟩:=AM.mp hy
       exact(inL r hr).1
      ·have q1:(ps.map (·.2)).Perm (rG ys (ks.map (·.2))):=by
        have a1:=hps.map (·.2)
        rw[AY]at a1
        have a2:(L.map ((fun x:V×D=>x.2)∘fun p:Addr×NestedKey=>(V.ref p.1,Jq ys p.2)))=(L.map (·.2)).map (Jq ys):=by rw[AY]; rfl
        rw[a2]at a1
        exact a1.trans ((Kb g nd).map _)
       have q2:∀x∈ps.map (·.2),x∈ys∧∃k,x.nk?=some k:=fun x hx=>by
        obtain⟨pr,h2,rfl⟩:=AM.mp hx
        obtain⟨r,hr,rfl⟩:=AM.mp (hps.mem_iff.mp h2)
        exact⟨(inL r hr).1,_,(inL r hr).2.1⟩
       have se:(YM ps).map (·.2)=Xx (rG ys (ks.map (·.2))):=by
        rw[bC]
        exact Nj q1 (fun x hx=>(q2 x hx).2) fun x hx y hy=>bB so x (q2 x hx).1 y (q2 y hy).1
       have fz2:FzL X.bk G1 ((YM ps).map (·.1)) ((YM ps).map (·.2)):=by
        have go:∀qs:List (V×D),(∀q∈qs,Fz X.bk G1 q.1 q.2)→FzL X.bk G1 (qs.map (·.1)) (qs.map (·.2)):=by
         intro qs
         induction qs with
         |nil=>intro _; exact .nil
         |cons q qs ih=>intro h; exact .cons (h q AN) (ih fun x hx=>h x (List.mem_cons_of_mem _ hx))
        refine go _ fun q hq=>?_
        obtain⟨r,hr,rfl⟩:=AM.mp (hps.mem_iff.mp ((Jf ps).mem_iff.mp hq))
        exact(inL r hr).2.2
       rw[se]at fz2
       exact h1.fin p1 (.own p1.rel.sub hlf ⟨_,rfl,fz2⟩)
    ·cases e6
   ·cases e2
  ·exact h1.elim
end
end L2.AL
namespace L2.AL
open PySem PySem.Spec PyProof.Rows
section
variable {X:Cx} {pins:List (Addr×Obj)} {σ:St} {H:Hp} {s:Shared}
theorem Lc {a:Addr} {xs:List V} (I:Inv X pins σ H s) (q:SqT X.K H a xs) (h:PlT X.K H a):s.TypeIs (.ref a) "tuple"∧∃ob,s.heap.get? a=some ob∧ob.dict=none:=by
 obtain⟨its,_,t,_⟩:=I.tuple q
 refine⟨t.typeIs,?_⟩
 rcases h with⟨o,u,h,d⟩|⟨o,h,d⟩
 ·have ok:=I.hok a _ h
  exact⟨o,ok.1,d⟩
 ·exact⟨o,I.kIn a o h,d⟩
end
def tLT (K:PySem.W.Frag) (r1 r2:V→List V→Hp→VK→Prop) (to:TE) (t:TA):TE:=fun σ H Q=>to σ H fun x H1=>∃p xs,x=.ref p∧
 ((SqL K H1 p xs∧t σ H1 fun vs H2=>r1 x vs H2 Q)∨(SqT K H1 p xs∧PlT K H1 p∧t σ H1 fun vs H2=>r2 x vs H2 Q))
section
variable {X:Cx} {o e:Expr} {es:List Expr} {to:TE} {t:TA} {name:Str} {id1 id2:String} {apos cpos:Pos} {r1 r2:V→List V→Hp→VK→Prop}
theorem PD (pa1:PlainAttrs "list") (slot1:Slot "list" name id1) (hty1:typeOf (.builtin id1)=pure (.type "method_descriptor")) (hm1:MtR X id1 r1)
  (pa2:PlainAttrs "tuple") (slot2:Slot "tuple" name id2) (hty2:typeOf (.builtin id2)=pure (.type "method_descriptor")) (hm2:MtR X id2 r2) (ho:PE X o to) (ha:PA X (e::es) t)
  (hbase:attributeBase o name X.env (eval o X.env)=eval o X.env:=by rfl)
  (hfew:((backTo cpos (starEach (e::es) X.env)).all (fun z=>!z.1)&&(backToKw cpos (keywordEach [] X.env)).all (fun z=>z.1.isSome)&&decide ((e::es).length+([]:List Keyword).length+(if ([]:List Keyword).isEmpty then 0 else 1)<30))=true:=by rfl)
  (hline:(apos.endLine==cpos.line)=true:=by rfl) (hs:starEach (e::es) X.env=(false,eval e X.env)::starEach es X.env:=by rfl) (hplain:(backTo cpos (starEach es X.env)).any (·.1)=false:=by rfl) :
  PE X (.Call (.Attribute o name apos) (e::es) [] cpos) (tLT X.K r1 r2 to t):=by
 constructor
 intro pins s σ H Q I h
 refine wpAny_Call_method_late hbase hfew hline rfl (thn (ho.run pins s σ H _ I h) ?_)
 rintro w s2 ⟨x,H2,J,rw',p,xs,rfl,q⟩
 cases rw'
 have fin:∀{id:String} {r:V→List V→Hp→VK→Prop},MtR X id r→t σ H2 (fun vs H3=>r (.ref p) vs H3 Q)→wpAny (model X.prog X.w) X.A (callWith cpos (.builtin id) [.ref p] (backTo cpos (starEach (e::es) X.env)) []) (EP X pins σ Q) X.xe s2:=by
  intro id r hm q
  have run:=ha.run cpos pins s2 σ H2 _ J q
  rw[hs]at run⊢
  refine Calls.callWith_builtin (by show(false||(backTo cpos (starEach es X.env)).any (·.1))=false; rw[hplain]; rfl) (Calls.evalArgs_plain (thn run ?_))
  rintro us s3 ⟨vs,H3,J3,rv,q3⟩
  exact hm pins s3 σ H3 (.ref p) vs (.ref p) us Q J3 rfl rv q3
 rcases q with⟨sq,q⟩|⟨sq,pl,q⟩
 ·obtain⟨its,_,⟨ob,n,e1,e2,e3,_⟩,_⟩:=J.list sq
  exact⟨"list",id1,pa1,slot1,hty1,⟨ob,e1,e2⟩,fun a z=>by cases z; exact⟨ob,e1,e3⟩,fin hm1 q⟩
 ·obtain⟨z1,ob,e1,e2⟩:=Lc J sq pl
  exact⟨"tuple",id2,pa2,slot2,hty2,z1,fun a z=>by cases z; exact⟨ob,e1,e2⟩,fin hm2 q⟩
end
def NU (K:PySem.W.Frag):V→List V→Hp→VK→Prop:=fun x xs H Q=>∃(p:Addr) (ys:List V) (y:V),x=.ref p∧xs=[y]∧SqT K H p ys∧flatV y=true∧ys.all flatV=true∧Q (.int (ys.countP fun z=>eqV z y:Nat)) H
theorem oW {X:Cx}:MtR X "tuple.count" (NU X.K):=by
 intro pins s σ H x xs v us Q I rx rxs h
 obtain⟨p,ys,y,rfl,rfl,hs,fy,fys,q⟩:=h
 cases rx
 obtain⟨u,rfl,ru⟩:=rxs.one
 obtain⟨its,rv,⟨⟨cls,dd,data,sl⟩,ho,hc,n,hd⟩,hlen⟩:=I.tuple hs
 simp only at hc hd
 subst hc hd
 refine call_meets PySem.F.slot_tuple_count ⟨_,ho,rfl⟩ PySem.F.entry_tuple_count (PySem.F.args_tuple_count_2 _ _)
  (SeqAt.tuple_countAt p its.toArray n dd sl u (eqU y)) ⟨ho,fun w hw=>mem_eqAt ru fy rv fys w (by simpa using hw),?_⟩
 have e:its.toArray.toList.countP (eqU y)=ys.countP fun z=>eqV z y:=kK rv fys
 refine⟨.int (ys.countP fun z=>eqV z y:Nat),H,I.tok _,⟨s.toks,?_⟩,q⟩
 show Value.int ((its.toArray.toList.countP (eqU y):Nat):Int) s.toks=_
 rw[e]
def Yr:D→List D→Option E
 | .lst xs,[x]=>if x.flat=true∧xs.all D.flat=true then some (zN (xs.countP fun y=>y.eqf x:Nat))else none
 | .tup xs,[x]=>if x.flat=true∧xs.all D.flat=true then some (zN (xs.countP fun y=>y.eqf x:Nat))else none
 |_,_=>none
def Yf (g:D→List D→Option E) (fo:AK) (fs:List S→Res (List E)):AK:=fun ρ=>(fo ρ).bind fun v ρ1=>match v.val ρ1 with
 |some (.lst _)=>(fs ρ1).bind fun vs ρ2=>match v.val ρ2,zY ρ2 vs with
   |some (.lst xs),some ys=>match g (.lst xs) ys with
    |some w=>.ok w ρ2
    |none=>.no
   |_,_=>.no
 |some (.tup _)=>(fs ρ1).bind fun vs ρ2=>match v.val ρ2,zY ρ2 vs with
   |some (.tup xs),some ys=>match g (.tup xs) ys with
    |some w=>.ok w ρ2
    |none=>.no
   |_,_=>.no
 |_=>.no
def iT (B:Bk) (g:D→List D→Option E) (r1 r2:V→List V→Hp→VK→Prop):Prop:=
 ∀(ds:List D) (xs:List D) (as:List V) (G H:Hp) (Q:VK),Same G H→TzL B G H as xs→
  (∀v a,g (.lst ds) xs=some v→Tz B G H a (.lst ds)→(∀u H' G',New B G H u v H' G'→Q u H')→r1 a as H Q)∧
  (∀v a,g (.tup ds) xs=some v→Tz B G H a (.tup ds)→(∀u H' G',New B G H u v H' G'→Q u H')→r2 a as H Q)
theorem uW {X:Cx} {W:WX'} {o e:Expr} {es:List Expr} {fa:AK} {fs:List S→Res (List E)} {id1 id2:String} {name:Str} {apos cpos:Pos} {g:D→List D→Option E} {r1 r2:V→List V→Hp→VK→Prop}
  (pa1:PlainAttrs "list") (slot1:Slot "list" name id1) (hty1:typeOf (.builtin id1)=pure (.type "method_descriptor")) (hm1:MtR X id1 r1)
  (pa2:PlainAttrs "tuple") (slot2:Slot "tuple" name id2) (hty2:typeOf (.builtin id2)=pure (.type "method_descriptor")) (hm2:MtR X id2 r2) (sn:iT X.bk g r1 r2)
  (ho:PEa X W o fa) (ha:PAa X W (e::es) fs) (hbase:attributeBase o name X.env (eval o X.env)=eval o X.env:=by rfl)
  (hfew:((backTo cpos (starEach (e::es) X.env)).all (fun z=>!z.1)&&(backToKw cpos (keywordEach [] X.env)).all (fun z=>z.1.isSome)&&decide ((e::es).length+([]:List Keyword).length+(if ([]:List Keyword).isEmpty then 0 else 1)<30))=true:=by rfl)
  (hline:(apos.endLine==cpos.line)=true:=by rfl) (hs:starEach (e::es) X.env=(false,eval e X.env)::starEach es X.env:=by rfl) (hplain:(backTo cpos (starEach es X.env)).any (·.1)=false:=by rfl) :
  PEa X W (.Call (.Attribute o name apos) (e::es) [] cpos) (Yf g fa fs):=
 xv (PD pa1 slot1 hty1 hm1 pa2 slot2 hty2 hm2 ho ha hbase hfew hline hs hplain) fun σ H Q ⟨G,ρ,rl,h⟩=>by
  refine yr (yx rl (Aft.cl (Q:=Q)) h) fun u H1 ⟨v,ρ1,G1,P1,h1⟩=>?_
  obtain⟨w,ew,re⟩:=P1.re 0 v rfl
  cases ew
  split at h1
  ·rename_i ds0 e0
   obtain⟨p,us,rfl,q1,_⟩:=P1.post.rel.val re e0
   refine⟨p,us,rfl,.inl ⟨SqL.of q1,?_⟩⟩
   refine yY (qV P1 (Aft.cl (Q:=Q)) h1) fun vs H2 ⟨ws,ρ2,G2,P2,h2⟩=>?_
   split at h2
   ·rename_i ds ys hx hxs
    split at h2
    ·rename_i z hz
     obtain⟨w,ew,re2⟩:=P2.re 0 v rfl
     cases ew
     exact(sn ds ys vs G2 H2 Q P2.post.rel.sub (Pend.vals (P2.tail (us:=vs) (vs:=ws)) hxs)).1 z _ hz (P2.post.rel.val re2 hx) fun w H' G' n=>h2.fin P2.post n
    ·exact h2.elim
   ·exact h2.elim
  ·rename_i ds0 e0
   obtain⟨p,us,rfl,q1,_,pl⟩:=LN (P1.post.rel.val re e0)
   refine⟨p,us,rfl,.inr ⟨BY P1.post.rel.sub q1,pl.mono P1.post.rel.sub,?_⟩⟩
   refine yY (qV P1 (Aft.cl (Q:=Q)) h1) fun vs H2 ⟨ws,ρ2,G2,P2,h2⟩=>?_
   split at h2
   ·rename_i ds ys hx hxs
    split at h2
    ·rename_i z hz
     obtain⟨w,ew,re2⟩:=P2.re 0 v rfl
     cases ew
     exact(sn ds ys vs G2 H2 Q P2.post.rel.sub (Pend.vals (P2.tail (us:=vs) (vs:=ws)) hxs)).2 z _ hz (P2.post.rel.val re2 hx) fun w H' G' n=>h2.fin P2.post n
    ·exact h2.elim
   ·exact h2.elim
  ·exact h1.elim
theorem mx {B:Bk}:iT B Yr (NS B.K) (NU B.K):=by
 intro ds xs as G H Q s hxs
 constructor
 ·intro v a e hx q
  unfold Yr at e
  match xs,hxs,e with
  |[x],hxs,e=>
   dsimp only at e
   split at e
   ·rename_i c
    cases e
    obtain⟨p,us,rfl,h1,h2⟩:=hx
    obtain⟨u,rfl,h⟩:=jD hxs
    have hf:=a_ h c.1
    refine⟨p,us,u,rfl,rfl,SqL.of h1,wK hf c.1,UW h2 c.2,?_⟩
    rw[we hf c.1 h2 c.2]
    exact q _ _ _ (.scalar s (xu _))
   ·cases e
  |[],_,e=>cases e
  |_::_::_,_,e=>cases e
 ·intro v a e hx q
  unfold Yr at e
  match xs,hxs,e with
  |[x],hxs,e=>
   dsimp only at e
   split at e
   ·rename_i c
    cases e
    obtain⟨p,us,rfl,h1,h2⟩:=qO hx
    obtain⟨u,rfl,h⟩:=jD hxs
    have hf:=a_ h c.1
    refine⟨p,us,u,rfl,rfl,BY s h1,wK hf c.1,UW h2 c.2,?_⟩
    rw[we hf c.1 h2 c.2]
    exact q _ _ _ (.scalar s (xu _))
   ·cases e
  |[],_,e=>cases e
  |_::_::_,_,e=>cases e
structure NewX (P:Program) (w:World) (K:PySem.W.Frag) (mg:Str→Option Value) (base:Heap) (c:Str) (par:List Str) (n:Nat) (F:AK):Prop where
 ex:∃(C f:Addr) (fd:FuncData),mg c=some (.ref C)∧Mk K C f∧Binds K fd par []∧FnG P w K mg base (L2.CX P w) n f fd par F
 len:Len F par.length
section
variable {X:Cx} {W:WX'} {e:Expr} {es:List Expr} {c:Str} {fs:List S→Res (List E)} {pos p:Pos} {par:List Str} {k n:Nat} {F:AK}
theorem Ln {CX:CXT} {C f:Addr} {fd:FuncData} {pins:List (Addr×Obj)} {σ:St} {H:Hp} {s:Shared} {Q:VK} {us:List Value} {vs:List V} (M:Mk X.K C f) (hF:FnG X.prog X.w X.K X.mg X.base CX n f fd par F) (hL:Len F par.length) (hg:X.A.guards=some []) (hr:Room (n+1) X.A) (hb:Binds X.K fd par [])
  (hx:dw CX X W) (I:Inv X pins σ H s) (r:Vals vs us)
  (h:∀x dx,H x=none→H dx=none→dx≠x→spC X.bk F (.ref x::vs) (upd (upd H dx (.own x)) x (.ins C dx [])) (fun v H2=>v=.non∧Q (.ref x) H2) (fun cls d H=>W cls d σ H)) :
  wpAny (model X.prog X.w) X.A (call (.ref C) us) (EP X pins σ Q) X.xe s:=by
 have hq:=h (s.heap.objs.size+1) s.heap.objs.size (I.hok.fresh (Nat.le_succ _)) (I.hok.fresh (Nat.le_refl _)) (Be (Nat.lt_succ_self _))
 have I2:=Inv.made (C:=C) I
 have r2:Vals (V.ref (s.heap.objs.size+1)::vs) (Value.ref (s.heap.objs.size+1)::us):=.cons rfl r
 have hln:=hL.of hq
 have hl:(Value.ref (s.heap.objs.size+1)::us).length=par.length:=by
  rw[←hln]; exact r2.length.symm
 have hb':=hb _ (Value.ref (s.heap.objs.size+1)::us) I2.kIn (by rw[A6]; exact hl)
 rw[A6]at hb'
 have hg':(X.A.under (.builtin "type.__call__" ⟨.ref C::us,[]⟩)).guards=some []:=by
  simp only[Around.under,hg]
  rfl
 refine wpAny_call (make_map (f:=f) I.kIn M.makes M.init (beq_iff_eq.mp M.fn) (codeAny_mono (hF.go _ X.stack _ _ ⟨Value.ref (s.heap.objs.size+1)::us,[]⟩ (Value.ref (s.heap.objs.size+1)::us) _ _ _ hg' (hr.make C us [])
  (I2.env0.make C us []) hb' r2 hln hq) fun r s' hq'=>?_))
 cases r with
 |error e=>exact hx _ _ _ _ e s' I2 hq'
 |ok fl=>
  cases fl with
  |ret u=>
   obtain⟨v,H',I3,rv,ev,q3⟩:=I2.after hq'
   subst ev
   exact⟨rv,⟨V.ref (s.heap.objs.size+1),H',I3,rfl,q3⟩⟩
  |next=>exact False.elim hq'
  |brk=>exact False.elim hq'
  |cont=>exact False.elim hq'
theorem tj (D:NewX X.prog X.w X.K X.mg X.base c par k F) (r:Rm X.A (n+1)) (tk:Takes X W) (hkn:k≤n) (ha:PAa X W (e::es) fs) (hg:Gl X c:=by rfl) (hdb:(c==("__debug__":Str))=false:=by decide) (he:starEach (e::es) X.env=(false,eval e X.env)::starEach es X.env:=by rfl) (hpl:(backTo pos (starEach es X.env)).any (·.1)=false:=by rfl) :
  PEa X W (.Call (.Name c p) (e::es) [] pos) (eH c F fs):=by
 constructor
 intro pins s σ H Q I h
 obtain⟨G,ρ,rl,h⟩:=h
 obtain⟨C,f,fd,hm,M,hb,hF⟩:=D.ex
 have args:=xt rl (Aft.cl (W:=W) (Q:=Q)) h
 refine wpAny_Call_Name_kw (ld_glob I hg hm ?_ hdb)
 refine PySem.W.callWith_K (h₀:=X.base) I.ok.mod.kin M.kp (thn (ha.run pos pins s σ H _ I args) ?_) he hpl
 rintro zs s1 ⟨us,H1,I1,rv,vs,ρ1,G1,P,h1⟩
 exact⟨I1.kIn,Ln M (hF.mono hkn) D.len r.g r.r hb (K1 tk) I1 rv fun x dx hx hd ne=>MR (B:=X.bk) hm P hx hd ne h1⟩
end
theorem plL {h:Heap} {a:Addr} {its:Array Value} (p:PlainL h a its):h.IsList a its:=by
 obtain⟨o,n,h1,h2,_,h3⟩:=p
 exact⟨o,h1,h2,n,h3⟩
theorem ed {B:Bk} {G H:Hp} {u:V} {ds:List D} (h:Tz B G H u (.lst ds)):∃a xs,u=.ref a∧SqL B.K H a xs∧FzL B G xs ds:=by
 obtain⟨a,xs,e,q,r⟩:=h
 exact⟨a,xs,e,SqL.of q,r⟩
section
variable {B:Bk} {a:Addr} {n:Nat}
theorem Mp {ds:List D} {us:List V} {o:Obj} {its:List Value} {k:Nat} (l:B.K.lookup a=some o) (hc:o.cls=.type "tuple") (hs:o.data=.seq its.toArray k) (hdn:o.dict=none) (hz:its.length≤1000) (rv:Vals us its) (f:∀G,FzL B G us ds):∀G,Fz B G (.ref a) (.tup ds):=fun G=>by
 rw[Fz]
 exact⟨a,us,rfl,.inr ⟨o,its.toArray,k,l,hc,hs,by simpa using Nat.le_of_lt (small1000 hz),by simpa using rv⟩,f G,.inr ⟨o,l,hdn⟩⟩
theorem RB {x:Str} {v:V} {u:Value} {d:D} (h:B.mg x=some u) (r:RelV v u) (f:∀G,Fz B G v d):GC B x d:=⟨u,v,h,r,f⟩
end
def NV (K:PySem.W.Frag):R2:=fun x y H Q=>∃(a b:Addr) (xs:List V),x=.ref a∧y=.ref b∧SqL K H a xs∧SqL K H b []∧Q (.bl xs.isEmpty) H
theorem aA {X:Cx} (hu:X.A.units+64<cLine):OpR X (compareOp .Eq) (NV X.K):=by
 intro pins s σ H x y v u Q I rx ry h
 obtain⟨a,b,xs,rfl,rfl,h1,h2,q⟩:=h
 cases rx
 cases ry
 obtain⟨its,rv,p1,_⟩:=I.list h1
 obtain⟨its2,rv2,p2,_⟩:=I.list h2
 cases rv2
 have l:=rv.length
 cases xs with
 |nil=>
  cases its with
  |nil=>
   have r:=SeqAt.RcAt.lists (A:=X.A) (s:=s) (e:=fun _=>true) (plL p1) (plL p2) rfl (by omega) fun j _ h2=>absurd h2 (by simp)
   exact r X.prog X.w _ _ ⟨.bl _,H,I,rfl,q⟩
  |cons _ _=>simp at l
 |cons y ys=>
  cases its with
  |nil=>simp at l
  |cons _ _=>
   have r:=SeqAt.RcAt.lists_lengths (A:=X.A) (s:=s) (plL p1) (plL p2) (by simp) (by omega)
   exact r X.prog X.w _ _ ⟨.bl _,H,I,rfl,q⟩
def wQ:D→D→Option E
 | .lst xs,.lst []=>some (eBl xs.isEmpty)
 |_,_=>none
theorem mC {B:Bk}:jI B wQ (NV B.K):=by
 intro x y v a b G H Q e s hx hy q
 unfold wQ at e
 split at e
 ·rename_i xs
  cases e
  obtain⟨p,us,rfl,h1,h2⟩:=ed hx
  obtain⟨p',us',rfl,h3,h4⟩:=ed hy
  have l:=h2.length
  cases us' with
  |cons _ _=>rw[FzL]at h4; exact h4.elim
  |nil=>
   refine⟨p,p',us,rfl,rfl,h1,h3,?_⟩
   have e:us.isEmpty=xs.isEmpty:=by
    cases us<;>cases xs<;>first|rfl|(rw[FzL]at h2; exact h2.elim)
   rw[e]
   exact q _ _ _ (.scalar s (jL _))
 ·cases e
inductive Srt where|put|drop|look
 deriving DecidableEq
def Srt.str:Srt→Str
 | .put=>"put"| .drop=>"drop"| .look=>"look"
def SC:Srt→Bool→Str
 | .put,false=>"done"| .put,true=>"refused"| .drop,false=>"none"| .drop,true=>"done"| .look,false=>"none"| .look,true=>"there"
def SE:Srt→Bool→Bool
 | .put,_=>true| .drop,_=>false| .look,u=>u
structure Deed where
 b:Int
 e:Option Int
 key:Str
 sort:Srt
 mo:Option (Int×Int×Str×Bool)
structure SSt where
 jar:O
 deeds:List Deed
 going:List Nat
 table:List (Str×Bool)
 clock:Int
section
variable (mt:AK)
def tk (j:O) (m:Int):Option (Int×O):=match mt [.own j,.d (.int m)]with
 | .ok (.d (.int r)) [.own j',_]=>some (r,j')
 |_=>none
def pk {α:Type} (j:O) (xs:List α):Option (α×O):=(tk mt j xs.length).bind fun p=>if 0≤p.1∧p.1<xs.length then xs[p.1.toNat]?.map fun x=>(x,p.2)else none
def turns (many:Int):List Int:=(List.range (4 * many).toNat).map fun i:Nat=>(i:Int)
end
def nI (n:Nat):D:=.int n
def kB (p:Str×Bool):Key×D:=(.inr p.1,.bl p.2)
def slots (s:SSt) (s1:S) (many:Int) (s3 s7 s8 s9 s10 s11:S):List S:=
 [.own s.jar,s1,.d (.int many),s3,.own (.lst (s.going.map nI)),.own (.dct (s.table.map kB)),.d (.int s.clock),s7,s8,s9,s10,s11]
section
variable (mt mo ma mb:AK)
def f6:AJ:=zp 6 (zg yP (zg yP (zb 6) (aK (.int 1))) (aFn mo (za (zb 0) (za (zG (za (aK (.int 0)) (za (aK (.int 0)) (za (aK (.int 0)) (za (aK (.int 1)) (za (aK (.int 7)) ze)))))) ze))))
def f4:AJ:=zy (Y_ "list" 4 qc (za (zh xT (za (zb 3) ze)) ze))
def f9:AJ:=zp 9 (aFn mo (za (zb 0) (za (zb 4) ze)))
end
local macro_rules|`(tactic|simp[AI,$xs,*]) => `(tactic|simp[zJ,yf,zt,sIf,zH,zL,zp,z9,sTg,zy,sNx,zb,aK,za,ze,zg,zX,zh,zY,E.val,aT,zz,zF,zW,zB,yl,zK,aIf,zr,zV,zG,keepL,keep1,zq,toSL,toS,setL,aFn,zx,zO,zM,wb,zn,D.items?,zC,D.tyn,zj,zw,zm,yc,D.isi,gIs,yj,D.is?,D.seq?,zD,O.toD,eBl,zN,z_,zQ,tsetL,zo,zA,ya,D.imm,$xs,*])
section
variable {mt mo ma mb:AK} {s:SSt} {s1 s3 s7 s8 s9 s10 s11:S} {many:Int}
theorem Sx {j j':O} {m r:Int} (h:tk mt j m=some (r,j')):∃x,mt [.own j,.d (.int m)]=.ok (.d (.int r)) [.own j',x]:=by
 unfold tk at h
 split at h
 ·rename_i r0 j0 x e
  cases h
  exact⟨x,e⟩
 ·cases h
theorem of_eq {α:Type} (hof:mo=zJ 2 0 (zH (zg gIx (zb 1) (aFn mt (za (zb 0) (za (zh xT (za (zb 1) ze)) ze)))))) {j j':O} {xs:List α} {x:α} (F:α→D) (h:pk mt j xs=some (x,j'))
  (hs:s1=.own (.lst (xs.map F))∨s1=.d (.lst (xs.map F))):mo [.own j,s1]=.ok (.d (F x)) [.own j',s1]:=by
 unfold pk at h
 obtain⟨p,e1,e2⟩:=Bc.mp h
 obtain⟨r,j0⟩:=p
 split at e2
 ·rename_i hb
  obtain⟨y,e3,e4⟩:=AO.mp e2
  cases e4
  obtain⟨w,e5⟩:=Sx e1
  have hi:gIx (.lst (xs.map F)) (.int r)=some (.d (F x)):=by
   simp only[gIx,atI,ixN]
   rw[if_pos hb.1,if_pos (by rw[List.length_map]; exact hb.2)]
   simp[e3]
  subst hof
  rcases hs with rfl|rfl<;>simp[AI,xT,e5,hi]
 ·cases e2
theorem p_ {n k:Nat} (h:n<2 ^ k) (hk:0<k):n.log2<k:=by
 by_cases h0:n=0
 ·subst h0; simpa using hk
 ·exact(Nat.log2_lt h0).mpr h
variable (hof:mo=zJ 2 0 (zH (zg gIx (zb 1) (aFn mt (za (zb 0) (za (zh xT (za (zb 1) ze)) ze))))))
theorem Ms (i j:Int):gEq (.int i) (.int j)=some (eBl (decide (i=j))):=by unfold gEq D.eq?; rw[bT]; rfl
end
def ZX (τ:Mem) (a:Addr) (o:O):Mem:=⟨fun b=>if b=a then some o else τ b,by
 obtain⟨n,h⟩:=τ.2
 refine⟨max n (a+1),fun b hb=>?_⟩
 show(if b=a then some o else τ.1 b)=none
 have h1:n≤b:=AU (Nat.le_max_left n (a+1)) hb
 have h2:b≠a:=fun e=>by subst e; exact absurd (AU (Nat.le_max_right n (b+1)) hb) (Nat.not_succ_le_self b)
 rw[if_neg h2]; exact h b h1⟩
theorem qP {τ:Mem} {a:Addr} {o:O}:ZX τ a o a=some o:=if_pos rfl
theorem jE {τ:Mem} {a b:Addr} {o:O} (h:b≠a):ZX τ a o b=τ b:=if_neg h
def x_ (ρ:List S) (τ:Mem):List S:=ρ.set (ρ.length - 1) (.mem τ)
theorem qD:∀{ρ:List S} {τ:Mem},qm ρ=some τ→ρ[ρ.length - 1]?=some (S.mem τ)
 |[],τ,h=>by cases h
 |[s],τ,h=>by
  unfold qm at h
  split at h
  ·cases h; rfl
  ·cases h
 |_::s::ρ,τ,h=>by
  have:=qD (ρ:=s::ρ) h
  simpa using this
section
variable {B:Bk} {σ σ0:St} {ρ ρ0:List S} {H H0 G G0:Hp} {τ:Mem} {a:Addr} {o o':O} {ho:HO}
theorem VD (hm:qm ρ=some τ) (ht:τ a=some o) (r:Rel B G σ ρ H):Own σ ρ (ρ.length - 1) a:=by
 have h:=qD hm
 obtain⟨v,e,_⟩:=r.slot _ _ h
 exact⟨v,_,e,h,o,ht⟩
theorem VA (hm:qm ρ=some τ) (ht:τ a=some o) (r:Rel B G σ ρ H):∃ho,H a=some ho∧G a=none∧RO B G a ho o:=by
 obtain⟨v,e,h⟩:=r.slot _ _ (qD hm)
 exact h.2 a o ht
theorem oU (h:JW ρ a=some o) (r:Rel B G σ ρ H):∃ho,H a=some ho∧G a=none∧RO B G a ho o:=by
 obtain⟨τ,h1,h2⟩:=gf h
 exact VA h1 h2 r
theorem Uz {j:Nat} {b:Addr} (hm:qm ρ=some τ) {τ':Mem} (w:Own σ (x_ ρ τ') j b):(j=ρ.length - 1∧∃o,τ' b=some o)∨(j≠ρ.length - 1∧Own σ ρ j b):=by
 have hl:=(AQ.mp (qD hm)).1
 by_cases hj:ρ.length - 1=j
 ·subst hj
  obtain⟨v,s,_,w2,w3⟩:=w
  unfold x_ at w2
  rw[A0 hl]at w2
  cases w2
  exact .inl ⟨rfl,w3⟩
 ·exact .inr ⟨fun z=>hj z.symm,w.eq rfl (AZ hj).symm⟩
theorem Post.adoptM (p:Post B σ0 ρ0 H0 G0 σ ρ H G) (hm:qm ρ=some τ) (e:H a=some ho) (g:G a=none) (ro:RO B G a ho o) (free:∀i,¬Own σ ρ i a) (new:H0 a=none):Post B σ0 ρ0 H0 G0 σ (x_ ρ (ZX τ a o)) H G:=by
 have hl:=(AQ.mp (qD hm)).1
 have oo:∀j b,Own σ (x_ ρ (ZX τ a o)) j b→(j=ρ.length - 1∧b=a)∨(b≠a∧Own σ ρ j b):=fun j b w=>by
  rcases Uz hm w with⟨rfl,o1,ho1⟩|⟨_,w'⟩
  ·by_cases hb:b=a
   ·exact .inl ⟨rfl,hb⟩
   ·rw[jE hb]at ho1
    exact .inr ⟨hb,VD hm ho1 p.rel⟩
  ·exact .inr ⟨fun z=>free j (z▸w'),w'⟩
 refine⟨p.grow,p.dom,p.frame,p.keep,⟨p.rel.sub,by unfold x_; rw[List.length_set]; exact p.rel.len,fun j s hs=>?_,fun j k b w w'=>?_,p.rel.tab⟩,fun j b w=>?_⟩
 ·unfold x_ at hs
  by_cases hj:ρ.length - 1=j
  ·subst hj
   rw[A0 hl]at hs
   cases hs
   obtain⟨v,e1,e2⟩:=p.rel.slot _ _ (qD hm)
   refine⟨v,e1,e2.1,fun b o1 hb=>?_⟩
   by_cases hba:b=a
   ·subst hba
    rw[qP]at hb; cases hb
    exact⟨ho,e,g,ro⟩
   ·rw[jE hba]at hb
    exact e2.2 b o1 hb
  ·rw[AZ hj]at hs
   exact p.rel.slot j s hs
 ·rcases oo j b w with⟨rfl,rfl⟩|⟨n1,w1⟩<;>rcases oo k _ w' with⟨rfl,e2⟩|⟨n2,w2⟩
  ·rfl
  ·exact absurd rfl n2
  ·exact absurd e2 n1
  ·exact p.rel.sep j k b w1 w2
 ·rcases oo j b w with⟨rfl,rfl⟩|⟨_,w1⟩
  ·exact .inr new
  ·exact p.own j b w1
theorem Post.putM (p:Post B σ0 ρ0 H0 G0 σ ρ H G) (hm:qm ρ=some τ) (ht:τ a=some o) (ro:RO B G a ho o'):Post B σ0 ρ0 H0 G0 σ (x_ ρ (ZX τ a o')) (upd H a ho) G:=by
 have ow:=VD hm ht p.rel
 have hl:=(AQ.mp (qD hm)).1
 obtain⟨ho0,e3,e4,e5⟩:=VA hm ht p.rel
 have oo:∀j b,Own σ (x_ ρ (ZX τ a o')) j b→Own σ ρ j b:=fun j b w=>by
  rcases Uz hm w with⟨rfl,o1,ho1⟩|⟨_,w'⟩
  ·by_cases hb:b=a
   ·subst hb; exact ow
   ·rw[jE hb]at ho1
    exact VD hm ho1 p.rel
  ·exact w'
 refine⟨p.grow,fun b e=>p.dom b ?_,fun b u e t n=>?_,p.keep,⟨fun b u e=>?_,by unfold x_; rw[List.length_set]; exact p.rel.len,fun j s e=>?_,fun j k b w w'=>p.rel.sep j k b (oo j b w) (oo k b w'),p.rel.tab.same fun b ps hb=>by rw[upd_ne (fun z=>by rw[z,e3]at hb; exact e5.nt _ (Option.some.inj hb))]; exact hb⟩,fun j b w=>p.own j b (oo j b w)⟩
 ·by_cases hb:b=a
  ·subst hb; rw[upd_same]at e; cases e
  ·rw[upd_ne hb]at e; exact e
 ·have hb:b≠a:=fun z=>by
   subst z
   rcases p.own _ b ow with w|w
   ·exact n _ w
   ·rw[e]at w; cases w
  rw[upd_ne hb]; exact p.frame b u e t n
 ·have hb:b≠a:=fun z=>by subst z; rw[e4]at e; cases e
  rw[upd_ne hb]; exact p.rel.sub b u e
 ·unfold x_ at e
  by_cases hj:ρ.length - 1=j
  ·subst hj
   rw[A0 hl]at e
   cases e
   obtain⟨v,e1,e2⟩:=p.rel.slot _ _ (qD hm)
   refine⟨v,e1,e2.1,fun b o1 hb=>?_⟩
   by_cases hba:b=a
   ·subst hba
    rw[qP]at hb; cases hb
    exact⟨ho,upd_same,e4,ro⟩
   ·rw[jE hba]at hb
    obtain⟨hb1,q1,q2,q3⟩:=e2.2 b o1 hb
    exact⟨hb1,by rw[upd_ne hba]; exact q1,q2,q3⟩
  ·rw[AZ hj]at e
   obtain⟨w,q1,q2⟩:=p.rel.slot j s e
   refine⟨w,q1,q2.step (.refl _) fun b ob w1 t2 _ t3=>⟨?_,t3⟩⟩
   have hb:b≠a:=fun z=>by
    subst z
    exact hj (p.rel.sep _ _ b ow ⟨w,s,q1,e,w1⟩)
   rw[upd_ne hb]; exact t2
end
def Md (v:E):E:=match v with
 | .d (.raw (.ref a))=>.ad a
 |v=>v
def Yo (f:AK):AK:=fun ρ=>(f ρ).bind fun v ρ1=>.ok (Md v) ρ1
theorem VO {X:Cx} {W:WX'} {e:Expr} {f:AK} (h:PEa X W e f):PEa X W e (Yo f):=xv h fun σ H Q ⟨G,ρ,r,q⟩=>by
 refine yr (yx r (Aft.cl (W:=W) (Q:=Q)) q) fun u H1 ⟨v,ρ1,G1,P,h1⟩=>?_
 obtain⟨u',eu,re⟩:=P.re 0 v rfl
 cases eu
 have key:RE X.bk G1 σ ρ1 H1 u (Md v)∧XF H u (Md v):=by
  unfold Md
  split
  ·rename_i a
   have re:Fz X.bk G1 u (.raw (.ref a)):=re
   rw[Fz]at re
   exact⟨re,trivial⟩
  ·refine⟨re,?_⟩
   cases v with
   |d x=>trivial
   |sl i=>trivial
   |ad a=>trivial
   |fr o=>exact fun a ea=>P.new 0 o a rfl (by rw[ea]; rfl)
 exact h1 u H1 G1 P.post key.1 key.2
def mw (o:O) (ρ:List S):Res E:=match qm ρ with
 |some τ=>.new τ fun a=>.ok (.ad a) (x_ ρ (ZX τ a o))
 |none=>.no
def tw (v:E) (ρ:List S):Res E:=match v with
 | .fr o=>mw o ρ
 |_=>.no
def Z0 (f:AK):AK:=fun ρ=>(f ρ).bind tw
section
variable {X:Cx} {W:WX'} {e:Expr} {f:AK}
theorem tA {B:Bk} {σ:St} {H:Hp} {Q:VK} (h:jb B W (Z0 f) σ H Q):jb B W f σ H Q:=by
 obtain⟨G,ρ,r,h⟩:=h
 refine yr (yx r (Aft.cl (W:=W) (Q:=Q)) h) fun u H1 ⟨v,ρ1,G1,P,h1⟩=>?_
 obtain⟨u',eu,re⟩:=P.re 0 v rfl
 cases eu
 cases v with
 |d x=>exact h1.elim
 |sl i=>exact h1.elim
 |ad a=>exact h1.elim
 |fr o=>
  have h1:Aft B W σ ρ H G Q (mw o ρ1):=h1
  unfold mw at h1
  split at h1
  ·rename_i τ hm
   obtain⟨a,ho,rfl,e1,e2,e3,e4⟩:=re
   have hn:τ a=none:=by
    cases ht:τ a with
    |none=>rfl
    |some o1=>exact absurd (VD hm ht P.post.rel) (e4 _)
   have h1:=h1 a hn
   have pp:=P.post.adoptM hm e1 e2 e3 e4 (P.new 0 o a rfl rfl)
   exact h1 _ H1 G1 pp rfl trivial
  ·exact h1.elim
theorem bK (h:PEa X W e f):PEa X W e (Z0 f):=xv h fun σ H Q q=>tA q
end
def ng (T:String) (g:O→List D→Option (D×O)) (vo:E) (vs:List E) (ρ:List S):Res E:=match vo with
 | .ad a=>match keepL vs ρ with
   |some (xs,ρ2)=>match JW ρ2 a,qm ρ2 with
    |some o,some τ=>match g o xs with
     |some (y,o')=>.ok (.d y) (x_ ρ2 (ZX τ a o'))
     |none=>.no
    |_,_=>.no
   |none=>.no
 |_=>.no
theorem KJ {T:String} {g:O→List D→Option (D×O)} {vo:E} {vs:List E} {ρ:List S} (h:ng T g vo vs ρ≠.no):∃a,vo=.ad a:=by
 unfold ng at h
 split at h
 ·exact⟨_,rfl⟩
 ·exact absurd rfl h
def isC (T:String) (vo:E) (ρ:List S):Bool:=match vo with
 | .ad a=>match JW ρ a with
   |some o=>decide (o.tyn=some T)
   |none=>false
 |_=>false
theorem Mx {T:String} {vo:E} {ρ:List S} (h:isC T vo ρ=true):∃a o,vo=.ad a∧JW ρ a=some o∧o.tyn=some T:=by
 unfold isC at h
 split at h
 ·split at h
  ·rename_i o ho
   exact⟨_,o,rfl,ho,of_decide_eq_true h⟩
  ·cases h
 ·cases h
def UJ (T:String) (g:O→List D→Option (D×O)) (fo:AK) (fs:List S→Res (List E)):AK:=fun ρ=>(fo ρ).bind fun vo ρ1=>if isC T vo ρ1=true then(fs ρ1).bind fun vs ρ2=>ng T g vo vs ρ2 else .no
section
variable {X:Cx} {W:WX'} {e oe:Expr} {es:List Expr} {fo:AK} {fs:List S→Res (List E)} {name:Str} {apos cpos:Pos} {T id:String} {g:O→List D→Option (D×O)} {r:V→List V→Hp→VK→Prop}
theorem LM {B:Bk} {σ:St} {ρ:List S} {H G:Hp} {a:Addr} {o:O} (rl:Rel B G σ ρ H) (hm:JW ρ a=some o) (e:o.tyn=some T):tyV B.K T (.ref a) H:=by
 obtain⟨hob,e3,e4,e5⟩:=oU hm rl
 cases o with
 |dd ds=>cases e
 |db ks=>cases e
 |ins c ds=>cases e
 |lst ds=>obtain⟨us,rfl,_⟩:=e5; cases e; exact .inl ⟨rfl,us,SqL.of e3⟩
 |dct ds=>obtain⟨us,rfl,_⟩:=e5; cases e; exact .inr (.inr (.inl ⟨rfl,.inl ⟨us,e3⟩⟩))
theorem KI {B:Bk} {σ:St} {ρ0 ρ1:List S} {H0 G0 H G:Hp} {Q:VK} {u:V} {us:List V} {vo:E} {vs:List E} (sn:eE B g r)
  (P:Pend B σ ρ0 H0 G0 ρ1 H G (u::us) (vo::vs)) (h:Aft B W σ ρ0 H0 G0 Q (ng T g vo vs ρ1)):r u us H Q:=by
 obtain⟨a,rfl⟩:=KJ (fun z=>by rw[z]at h; exact h)
 ·unfold ng at h
  simp only at h
  split at h
  ·rename_i xs ρ2 hk
   split at h
   ·rename_i o τ hmo hτ
    split at h
    ·rename_i y o' hg
     obtain⟨w,ew,rw'⟩:=P.re 0 _ rfl
     cases ew
     have rw':u=.ref a:=rw'
     subst rw'
     obtain⟨G2,p2,f2,s2⟩:=Pend.keepL (Pend.tail P) hk
     obtain⟨τ',hτ',ht⟩:=gf hmo
     rw[hτ]at hτ'; cases hτ'
     obtain⟨hob,e3,e4,e5⟩:=VA hτ ht p2.rel
     refine sn o xs y o' a hob us G2 H Q hg p2.rel.sub e3 e4 e5 f2 fun w ho' fw ro=>?_
     exact h w _ G2 (p2.putM hτ ht ro) fw trivial
    ·exact h.elim
   ·exact h.elim
  ·exact h.elim
theorem lV (pa:PlainAttrs T) (slot:Slot T name id) (hty:typeOf (.builtin id)=pure (.type "method_descriptor")) (hm:MtR X id r) (sn:eE X.bk g r)
  (ho:PEa X W oe fo) (ha:PAa X W (e::es) fs) (hbase:attributeBase oe name X.env (eval oe X.env)=eval oe X.env:=by rfl)
  (hfew:((backTo cpos (starEach (e::es) X.env)).all (fun x=>!x.1)&&(backToKw cpos (keywordEach [] X.env)).all (fun x=>x.1.isSome)
    &&decide ((e::es).length+([]:List Keyword).length+(if ([]:List Keyword).isEmpty then 0 else 1)<30))=true:=by rfl)
  (hline:(apos.endLine==cpos.line)=true:=by rfl) (hs:starEach (e::es) X.env=(false,eval e X.env)::starEach es X.env:=by rfl) (hplain:(backTo cpos (starEach es X.env)).any (·.1)=false:=by rfl) :
  PEa X W (.Call (.Attribute oe name apos) (e::es) [] cpos) (UJ T g fo fs):=
 xv (pe_bm pa slot hty hm ho ha hbase hfew hline hs hplain) fun σ H Q ⟨G,ρ,rl,h⟩=>by
  refine yr (yx rl (Aft.cl (W:=W) (Q:=Q)) h) fun u H1 ⟨vo,ρ1,G1,P1,h1⟩=>?_
  split at h1
  ·rename_i hT
   obtain⟨w,ew,rw'⟩:=P1.re 0 _ rfl
   cases ew
   refine⟨?_,?_⟩
   ·obtain⟨a,o,rfl,hmo,hty⟩:=Mx hT
    have rw':u=.ref a:=rw'
    subst rw'
    exact LM P1.post.rel hmo hty
   ·refine yY (qV P1 (Aft.cl (W:=W) (Q:=Q)) h1) fun us H2 ⟨vs,ρ2,G2,P2,h2⟩=>?_
    exact KI sn P2 h2
  ·exact h1.elim
end
structure FnM (P:Program) (w:World) (K:PySem.W.Frag) (mg:Str→Option Value) (base:Heap) (CX:CXT) (n:Nat) (a:Addr) (fd:FuncData) (par:List Str) (F:AK):Prop where
 go:∀(A:Around) (up:List Env) (s0:Shared) (H:Hp) (given:Args) (zs:List Value) (us:List V) (Q:VK) (Ex:XK),
   A.guards=some []→Room n A→Env0 P w K mg base A up s0 H→BindsTo s0 fd given (par.zip zs)→Vals us zs→us.length=par.length→spC ⟨K,mg,w⟩ F (us++[.non]) H Q Ex→
   codeAny (model P w) A (.call (.ref a) given) (CR CX up P w H s0 Q Ex) s0
def pjM (np nl:Nat) (ρ:List S):List S:=ρ.take np++[(ρ[np+nl]?).getD .no]
def ic (np nl:Nat):Res Fl→Res E
 | .ok .nx ρ'=>.ok (.d .non) (pjM np nl ρ')
 | .ok (.rt (.d x)) ρ'=>.ok (.d x) (pjM np nl ρ')
 | .ok (.rt (.fr o)) ρ'=>.ok (.fr o) (pjM np nl ρ')
 | .ok (.rt (.ad a)) ρ'=>.ok (.d (.raw (.ref a))) (pjM np nl ρ')
 | .ok (.rt (.sl j)) ρ'=>if j<np then match zq j (pjM np nl ρ')with
    |some (x,ρ2)=>.ok (.d x) ρ2
    |none=>.no
   else match ρ'[j]? with
    |some (.d x)=>.ok (.d x) (pjM np nl ρ')
    |some (.own o)=>.ok (.fr o) (pjM np nl ρ')
    |_=>.no
 | .ok .bk _=>.no
 | .ok .ct _=>.no
 | .ex e ρ'=>.ex e (pjM np nl ρ')
 | .no=>.no
 | .new τ k=>.new τ fun a=>ic np nl (k a)
def vv (np nl:Nat) (f:AJ):AK:=fun ρ=>if ρ.length=np+1 then ic np nl (f (ρ.take np++List.replicate nl .no++[(ρ[np]?).getD .no]))else .no
theorem rh {np nl:Nat} {f:AJ}:Len (vv np nl f) (np+1):=fun ρ h=>by
 unfold vv at h
 split at h
 ·assumption
 ·exact absurd rfl h
theorem Post.reix {B:Bk} {σs σa σb σe:St} {ρs ρa ρb ρe:List S} {H G H' G':Hp} (φ:Nat→Nat) (n:Nat) (p:Post B σa ρa H G σb ρb H' G') (inj:∀i j,i<n→j<n→φ i=φ j→i=j) (ls:σe.length=n) (le:ρe.length=n)
  (hs:∀i,i<n→σe[i]?=σb[φ i]?∧ρe[i]?=ρb[φ i]?) (ha:∀i a,i<n→Own σa ρa (φ i) a→Own σs ρs i a) (hc:∀j a,Own σa ρa j a→∃i,Own σs ρs i a):Post B σs ρs H G σe ρe H' G':=by
 have oo:∀i a,Own σe ρe i a→i<n∧Own σb ρb (φ i) a:=fun i a w=>by
  have hi:i<n:=by
   obtain⟨_,_,_,w2,_⟩:=w
   have:=(AQ.mp w2).1
   omega
  exact⟨hi,w.eq (hs i hi).1.symm (hs i hi).2.symm⟩
 refine⟨p.grow,p.dom,fun b o e t k=>p.frame b o e t fun j w=>?_,fun b o e t g k=>p.keep b o e t g fun j w=>?_,⟨p.rel.sub,by rw[ls,le],fun i s e=>?_,fun i j a w w'=>?_,p.rel.tab⟩,fun i a w=>?_⟩
 ·obtain⟨i,w'⟩:=hc j b w; exact k i w'
 ·obtain⟨i,w'⟩:=hc j b w; exact k i w'
 ·have hi:i<n:=by have:=(AQ.mp e).1; omega
  rw[(hs i hi).2]at e
  obtain⟨v,e1,e2⟩:=p.rel.slot _ _ e
  exact⟨v,by rw[(hs i hi).1]; exact e1,e2⟩
 ·obtain⟨h1,w1⟩:=oo i a w
  obtain⟨h2,w2⟩:=oo j a w'
  exact inj i j h1 h2 (p.rel.sep _ _ a w1 w2)
 ·obtain⟨h1,w1⟩:=oo i a w
  rcases p.own _ a w1 with z|z
  ·exact .inl (ha i a h1 z)
  ·exact .inr z
section
variable {B:Bk} {us:List V} {ρ ρ':List S} {H G H' G':Hp} {np nl:Nat} {σ':St}
def σM (us:List V) (nl:Nat):St:=us.map some++List.replicate nl none++[some .non]
def ρM (np nl:Nat) (ρ:List S):List S:=ρ.take np++List.replicate nl .no++[(ρ[np]?).getD .no]
theorem σM_lo {j:Nat} (hj:j<us.length):(σM us nl)[j]?=((us++[V.non]).map some)[j]?:=by
 unfold σM
 rw[Bi,AT (by rw[List.length_map]; exact hj),A7,AT (by rw[List.length_map]; exact hj)]
theorem σM_mid {j:Nat} (h1:us.length≤j) (h2:j<us.length+nl):(σM us nl)[j]?=some none:=by
 unfold σM
 rw[AT (by rw[AS,List.length_map,By]; exact h2),AV (by rw[List.length_map]; exact h1),BP,List.length_map,if_pos (by omega)]
theorem σM_hi:(σM us nl)[us.length+nl]?=some (some .non):=by
 unfold σM
 rw[AV (by rw[AS,List.length_map,By]; omega)]
 simp
theorem ρM_lo {j:Nat} (hr:ρ.length=np+1) (hj:j<np):(ρM np nl ρ)[j]?=ρ[j]?:=by
 unfold ρM
 rw[Bi,AT (by rw[A9]; omega),BT hj]
theorem ρM_mid {j:Nat} (hr:ρ.length=np+1) (h1:np≤j) (h2:j<np+nl):(ρM np nl ρ)[j]?=some .no:=by
 unfold ρM
 rw[AT (by rw[AS,A9,By]; omega),AV (by rw[A9]; omega),BP,A9,if_pos (by omega)]
theorem ρM_hi (hr:ρ.length=np+1):(ρM np nl ρ)[np+nl]?=ρ[np]?:=by
 unfold ρM
 rw[AV (by rw[AS,A9,By]; omega),AS,A9,By]
 have e:np+nl - (min np ρ.length+nl)=0:=by omega
 rw[e,AX (show np<ρ.length by omega)]
 rfl
theorem Pj (hr:ρ.length=np+1):(ρM np nl ρ).length=np+nl+1:=by
 unfold ρM
 rw[AS,AS,A9,By]
 show min np ρ.length+nl+1=_
 omega
theorem XA {j:Nat} {b:Addr} (hnp:us.length=np) (hr:ρ.length=np+1) (w:Own (σM us nl) (ρM np nl ρ) j b):(j<np∧Own ((us++[V.non]).map some) ρ j b)∨(j=np+nl∧Own ((us++[V.non]).map some) ρ np b):=by
 by_cases h1:j<np
 ·exact .inl ⟨h1,w.eq (σM_lo (by omega)).symm (ρM_lo hr h1).symm⟩
 ·by_cases h2:j<np+nl
  ·exact(w.off (ρM_mid hr (by omega) h2) fun _=>nh).elim
  ·have h3:j=np+nl:=by
    obtain⟨_,_,_,w2,_⟩:=w
    have:=(AQ.mp w2).1
    rw[Pj hr]at this; omega
   subst h3
   refine .inr ⟨rfl,w.eq ?_ (ρM_hi hr).symm⟩
   subst hnp
   rw[σM_hi]
   simp
theorem Rel.startM (hnp:us.length=np) (hr:ρ.length=np+1) (r:Rel B G ((us++[V.non]).map some) ρ H):Rel B G (σM us nl) (ρM np nl ρ) H:=by
 refine⟨r.sub,by rw[Pj hr]; unfold σM; simp; omega,fun j s e=>?_,fun i j a w1 w2=>?_,r.tab⟩
 ·by_cases h1:j<np
  ·rw[ρM_lo hr h1]at e
   obtain⟨v,e1,e2⟩:=r.slot j s e
   exact⟨v,by rw[σM_lo (by omega)]; exact e1,e2⟩
  ·by_cases h2:j<np+nl
   ·rw[ρM_mid hr (by omega) h2]at e
    cases e
    exact⟨none,σM_mid (by omega) (by omega),trivial⟩
   ·have h3:j=np+nl:=by
     have:=(AQ.mp e).1
     rw[Pj hr]at this; omega
    subst h3
    rw[ρM_hi hr]at e
    obtain⟨v,e1,e2⟩:=r.slot np s e
    refine⟨v,?_,e2⟩
    subst hnp
    rw[σM_hi,←e1]; simp
 ·rcases XA hnp hr w1 with⟨h1,z1⟩|⟨h1,z1⟩<;>rcases XA hnp hr w2 with⟨h2,z2⟩|⟨h2,z2⟩<;>have:=r.sep _ _ a z1 z2<;>omega
def PM (np nl:Nat):List Nat:=List.range np++[np+nl]
theorem Post.argsM (hnp:us.length=np) (hr:ρ.length=np+1) (p:Post B (σM us nl) (ρM np nl ρ) H G σ' ρ' H' G') (k:Keeps (PM np nl) (σM us nl) σ'):Post B ((us++[V.non]).map some) ρ H G ((us++[V.non]).map some) (pjM np nl ρ') H' G':=by
 have hgl:σ'[np+nl]?=some (some .non):=by rw[k _ (by unfold PM; simp),←hnp]; exact σM_hi
 have hl:np+nl<ρ'.length:=by rw[←p.rel.len]; exact(AQ.mp hgl).1
 refine p.reix (fun i=>if i<np then i else np+nl) (np+1) (fun i j hi hj e=>?_) (by simp[hnp]) (by unfold pjM; simp; omega) (fun i hi=>?_) (fun i a hi w=>?_) (fun j a w=>?_)
 ·have e:(if i<np then i else np+nl)=(if j<np then j else np+nl):=e
  split at e<;>split at e<;>omega
 ·by_cases h:i<np
  ·simp only[if_pos h]
   refine⟨?_,?_⟩
   ·rw[k i (by unfold PM; simp[h]),σM_lo (by omega)]
   ·unfold pjM
    rw[AT (by rw[A9]; omega),BT h]
  ·have hi':i=np:=by omega
   subst hi'
   simp only[BF,if_false]
   refine⟨?_,?_⟩
   ·rw[hgl,←hnp]; simp
   ·unfold pjM
    rw[AV (by rw[A9]; omega),A9]
    have e:i - min i ρ'.length=0:=by omega
    rw[e,AX hl]; rfl
 ·rcases XA hnp hr w with⟨h,z⟩|⟨h,z⟩
  ·by_cases hi':i<np
   ·simp only[if_pos hi']at z; exact z
   ·simp only[if_neg hi']at h; omega
  ·by_cases hi':i<np
   ·simp only[if_pos hi']at h; omega
   ·have:i=np:=by omega
    subst this; exact z
 ·rcases XA hnp hr w with⟨_,z⟩|⟨_,z⟩
  ·exact⟨_,z⟩
  ·exact⟨_,z⟩
theorem La (hnp:us.length=np) (hl:np+nl<ρ'.length) (hgl:σ'[np+nl]?=some (some V.non)) (k:Keeps (PM np nl) (σM us nl) σ') {i:Nat} {b:Addr} (w:Own ((us++[V.non]).map some) (pjM np nl ρ') i b):(i<np∧Own σ' ρ' i b)∨Own σ' ρ' (np+nl) b:=by
 have hi:i<np+1:=by
  obtain⟨_,_,_,w2,_⟩:=w
  have:=(AQ.mp w2).1
  unfold pjM at this
  simp at this; omega
 by_cases h:i<np
 ·refine .inl ⟨h,w.eq ?_ ?_⟩
  ·rw[k i (by unfold PM; simp[h]),σM_lo (by omega)]
  ·unfold pjM
   rw[AT (by rw[A9]; omega),BT h]
 ·have hi':i=np:=by omega
  subst hi'
  refine .inr (w.eq ?_ ?_)
  ·rw[hgl,←hnp]; simp
  ·unfold pjM
   rw[AV (by rw[A9]; omega),A9]
   have e:i - min i ρ'.length=0:=by omega
   rw[e,AX hl]; rfl
theorem eU {f:AJ} {Q:VK} {W:WX'} {Ex:XK} (hW:∀cls d σ H,Ex cls d H→W cls d σ H) (hnp:us.length=np) (h:spC B (vv np nl f) (us++[.non]) H Q Ex) :
  ah B W (PM np nl) f { nx:=fun _ H'=>Q .non H',rt:=Q } (σM us nl) H:=by
 obtain⟨G,ρ,r,h⟩:=h
 unfold vv at h
 split at h
 ·rename_i hr
  refine⟨G,ρM np nl ρ,r.startM hnp hr,?_⟩
  have h:Aft B (fun cls d _ H=>Ex cls d H) ((us++[V.non]).map some) ρ H G Q (ic np nl (f (ρM np nl ρ))):=h
  generalize f (ρM np nl ρ)=rf at h
  induction rf with
  |no=>exact h.elim
  |new τ kk ih=>exact fun a e=>ih a (h a e)
  |ex e ρ'=>exact fun cls d σ' H' G' p k rx=>hW _ _ _ _ (h cls d H' G' (p.argsM hnp hr k) rx)
  |ok fl ρ'=>
   cases fl with
   |bk=>exact h.elim
   |ct=>exact h.elim
   |nx=>exact fun σ' H' G' p k=>h .non H' G' (p.argsM hnp hr k) (wN (B:=B) (G:=G')) trivial
   |rt v=>
    intro u σ' H' G' p k re fr
    have pa:=p.argsM hnp hr k
    have hgl:σ'[np+nl]?=some (some .non):=by rw[k _ (by unfold PM; simp),←hnp]; exact σM_hi
    have hl:np+nl<ρ'.length:=by rw[←p.rel.len]; exact(AQ.mp hgl).1
    cases v with
    |d x=>exact h u H' G' pa re trivial
    |ad a=>
     have re:u=.ref a:=re
     exact h u H' G' pa (by show Fz B G' u (.raw (.ref a)); rw[Fz]; exact re) trivial
    |fr o=>
     obtain⟨a,ho,e,h1,h2,h3,h4⟩:=re
     exact h u H' G' pa ⟨a,ho,e,h1,h2,h3,fun i w=>by
      rcases La hnp hl hgl k w with⟨_,z⟩|z
      ·exact h4 _ z
      ·exact h4 _ z⟩ fr
    |sl j=>
     have re:σ'[j]?=some (some u):=re
     rw[ic]at h
     split at h
     ·rename_i hj
      split at h
      ·rename_i x ρ2 hf
       have ru:((us++[V.non]).map some)[j]?=some (some u):=by
        rw[←re,k j (by unfold PM; simp[hj]),σM_lo (by omega)]
       obtain⟨G2,q,f2,_⟩:=Vx pa.rel ru hf
       exact h u H' G2 (pa.trans q) f2 trivial
      ·exact h.elim
     ·rename_i hj
      split at h
      ·rename_i x hx
       obtain⟨v,e1,w,e2,e3⟩:=p.rel.slot j _ hx
       rw[re]at e1; cases e1; cases e2
       exact h u H' G' pa e3 trivial
      ·rename_i o ho
       obtain⟨v,e1,a,hob,e2,e3,e4,e5⟩:=p.rel.slot j _ ho
       rw[re]at e1; cases e1; cases e2
       have wj:Own σ' ρ' j a:=.of re ho
       refine h _ H' G' pa ⟨a,hob,rfl,e3,e4,e5,fun i w=>?_⟩ fun b e=>?_
       ·rcases La hnp hl hgl k w with⟨hi,w'⟩|w'
        ·have:=p.rel.sep _ j a w' wj
         omega
        ·have:=p.rel.sep _ j a w' wj
         subst this
         obtain⟨_,_,_,z2,z3⟩:=w'
         rw[ho]at z2; cases z2
         rw[hgl]at re; cases re
       ·cases e
        rcases p.own j a wj with z|z
        ·rcases XA hnp hr z with⟨h1,_⟩|⟨h1,_⟩
         ·omega
         ·subst h1
          rw[hgl]at re; cases re
        ·exact z
      ·exact h.elim
 ·exact h.elim
end
section
variable {CX:CXT} {P:Program} {w:World} {K:PySem.W.Frag} {mg:Str→Option Value} {base:Heap} {n:Nat} {a:Addr} {x qual gh:Str} {st:Stmt} {N par:List Str} {fd:FuncData}
theorem oE {X:Cx} {pins:List (Addr×Obj)} {σ:St} {H:Hp} {s:Shared} {g:Nat} {v:V} (I:Inv X pins σ H s) (hN:X.N[g]?=some gh) (hv:X.env.scope.names.lookup gh=none):Inv X pins (σ.set g (some v)) H s:=by
 obtain⟨m,hm,hl⟩:=I.loc
 refine⟨I.ok,I.os,I.bare,I.base,⟨m,hm,fun i x u h1 h2 h3=>?_⟩,I.cell,I.free,I.freeC,I.pin,I.hok,by rw[List.length_set]; exact I.len⟩
 by_cases hi:g=i
 ·subst hi
  rw[hN]at h1; cases h1
  unfold Vis at h3
  rw[hv]at h3
  rcases h3 with z|z|z<;>cases z
 ·rw[AZ hi]at h2
  exact hl i x u h1 h2 h3
theorem FnM.of {f:AJ} (F:Fun K x qual st a fd) (S:FnScope N par (defScope st)) (np nl:Nat) (hnp:par.length=np) (hnl:N.length=np+nl+1) (hgN:N[np+nl]?=some gh) (hgv:(defScope st).names.lookup gh=none)
  (hbody:∀(cd:Value) (A:Around) (up:List Env) (s0:Shared) (H:Hp) (Ex:XK),(A.deeper (envOfC qual (defScope st) s0.heap.objs.size a cd)).guards=some []→Room n (A.deeper (envOfC qual (defScope st) s0.heap.objs.size a cd))→
    kF (cxOf CX P w K mg base N qual (defScope st) a cd A up s0 H Ex) (fun cls d _ H=>Ex cls d H) (PM np nl) (defBody st) f) :
  FnM P w K mg base CX (n+1) a fd par (vv np nl f):=by
 obtain⟨oc,od,kV,doc,pm,an,cd,ct,osl,rfl,lk,hcode⟩:=F.ex
 constructor
 intro A up s0 H given zs us Q Ex hgd hr e0 hb rv hlen hsp
 have still:K.In s0.heap:=e0.mod.kin.keeps fun b o e=>(e0.bs b o e).1
 have nolim:s0.heap.NoLimit:=e0.mod.nolimit.keeps fun b o e=>(e0.bs b o e).1
 have named:∀y∈par.zip zs,(defScope st).names.lookup y.1=some .local∨((defScope st).names.lookup y.1=some .cell∧((cellsFrom (s0.heap.objs.size+1) (defScope st).names []).lookup y.1).isSome=true):=by
  intro y hy
  have hy':y.1∈par:=(BQ (a:=y.1) (b:=y.2) hy).1
  cases S.par y.1 hy' with
  |inl z=>exact Or.inl z
  |inr z=>exact Or.inr ⟨z,PySem.W.cellsFrom_some _ _ _ (Or.inl z)⟩
 refine codeAny_call_function hr.depth (still _ _ lk) rfl S.co S.gen rfl (PySem.W.codeRec_of still hcode) (hb _ _ _ _ ?_)
 refine wpAny_newFunctionEnv_cells S.kind named ?_
 rintro env rfl s1 inside
 refine⟨nolim.keeps inside.toInCall.keep,codeAny_func ?_⟩
 have first:=oE (g:=np+nl) (v:=.non) (inv_start (CX:=CX) (E:=Ex) S hr.hd e0 hlen rv inside) hgN hgv
 have body:=hbody cd A up s0 H Ex hgd (hr.deeper _)
 have es:(start N us).set (np+nl) (some .non)=σM us nl:=by
  have e1:start N us=us.map some++List.replicate nl none++[none]:=by
   rw[start,hlen,hnp,hnl]
   have:np+nl+1 - np=nl+1:=by omega
   rw[this,Bi,List.replicate_succ']
  have hq:(us.map some++List.replicate nl (none:Option V)).length=np+nl:=by simp[hlen,hnp]
  rw[e1,List.set_append_right _ _ (by omega),hq]
  simp[σM]
 rw[es]at first
 have ends:∀{σ':St} {H':Hp} {v:V} {u:Value} {s':Shared},Inv (cxOf CX P w K mg base N qual (defScope st) a cd A up s0 H Ex) [] σ' H' s'→RelV v u→Q v H'→CE up P w H s0 Q u s':=by
  intro σ' H' v u s' J r q
  exact⟨v,H',J.os,J.bare,J.base,J.hok,r,q⟩
 refine wpAny_mono (body.run [] s1 _ H _ first (eU (fun _ _ _ _ z=>z) (hlen.trans hnp) hsp)) ?_ (fun _ _ z=>z)
 intro fl s' z
 match fl,z with
 | .ret u,⟨v,σ',H',J,r,q⟩=>exact ends J r q
 | .next,⟨σ',H',J,q⟩=>exact ends (v:=.non) (u:=.none) J rfl q
 | .brk,⟨_,_,_,q⟩=>exact q.elim
 | .cont,⟨_,_,_,q⟩=>exact q.elim
end
section
variable {P:Program} {w:World} {K:PySem.W.Frag} {mg:Str→Option Value} {base:Heap} {n:Nat} {a:Addr} {x qual gh:Str} {st:Stmt} {N par:List Str} {fd:FuncData}
theorem FnM.ofN {f:AJ} (F:Fun K x qual st a fd) (S:FnScope N par (defScope st)) (np nl:Nat) (hnp:par.length=np) (hnl:N.length=np+nl+1) (hgN:N[np+nl]?=some gh) (hgv:(defScope st).names.lookup gh=none)
  (hbody:∀(cd:Value) (A:Around) (up:List Env) (s0:Shared) (H:Hp) (Ex:XK),(A.deeper (envOfC qual (defScope st) s0.heap.objs.size a cd)).guards=some []→Room n (A.deeper (envOfC qual (defScope st) s0.heap.objs.size a cd))→
    kF (cxOf CX0 P w K mg base N qual (defScope st) a cd A up s0 H Ex).nox (fun cls d _ H=>Ex cls d H) (PM np nl) (defBody st) f) :
  FnM P w K mg base CX0 (n+1) a fd par (vv np nl f):=
 FnM.of F S np nl hnp hnl hgN hgv fun cd A up s0 H Ex hg hr=>(hbody cd A up s0 H Ex hg hr).nox
end
def sf (dy:PyData) (ds:List PyData) (j:Nat):Prop:=(ds.findIdx fun d=>PyData.eqv d dy)=j∧j<ds.length
def NW (K:PySem.W.Frag):V→List V→Hp→VK→Prop:=fun x xs H Q=>∃(p:Addr) (ys:List V) (y:V) (dy:PyData) (ds:List PyData) (j:Nat),x=.ref p∧xs=[y]∧SqL K H p ys∧Dp K H y dy∧DpAll K H ys ds∧(∀d∈ds,PySem.W.alike d dy=true∧d.canLay0=true)∧dy.depth≤60∧sf dy ds j∧Q (.int (j:Nat)) H
def NX (K:PySem.W.Frag):V→List V→Hp→VK→Prop:=fun x xs H Q=>∃(p:Addr) (ys:List V) (y:V) (dy:PyData) (ds:List PyData) (j:Nat),x=.ref p∧xs=[y]∧SqT K H p ys∧Dp K H y dy∧DpAll K H ys ds∧(∀d∈ds,PySem.W.alike d dy=true∧d.canLay0=true)∧dy.depth≤60∧sf dy ds j∧Q (.int (j:Nat)) H
def eAt (ds:List PyData) (dy:PyData) (m:Nat):Bool:=match ds[m]? with
 |some d=>PyData.eqv d dy
 |none=>false
theorem sQ {ds:List PyData} {dy:PyData} {j:Nat} (h:sf dy ds j):eAt ds dy j=true:=by
 unfold eAt
 rw[AX h.2]
 obtain⟨rfl,hl⟩:=h
 exact List.findIdx_getElem (p:=fun d=>PyData.eqv d dy) (w:=hl)
theorem tO {ds:List PyData} {dy:PyData} {j m:Nat} (h:sf dy ds j) (hm:m<j):eAt ds dy m=false:=by
 unfold eAt
 rw[AX (Bt hm h.2)]
 obtain⟨rfl,hl⟩:=h
 have:=List.not_of_lt_findIdx hm
 simpa using this
section
variable {X:Cx} {pins:List (Addr×Obj)} {σ:St} {H:Hp} {s:Shared}
theorem kP:∀{ys:List V} {ds:List PyData},DpAll X.K H ys ds→ys.length=ds.length
 |_,_,.nil=>rfl
 |_,_,.cons _ h=>congrArg (·+1) (kP h)
theorem pU (hu:X.A.units+64<cLine) (I:Inv X pins σ H s) {dy:PyData} {y:V} {u:Value} (hy:Dp X.K H y dy) (ru:RelV y u) (dep:dy.depth≤60):∀(ds:List PyData) (ys:List V) (its:List Value),DpAll X.K H ys ds→Vals ys its→(∀d∈ds,PySem.W.alike d dy=true∧d.canLay0=true)→
  ∀m (hm:m<its.length),PySem.SeqAt.EqAt X.A.in1 s its[m] u (eAt ds dy m)
 |[],_,_,.nil,.nil,_,m,hm=>absurd hm (Nat.not_lt_zero m)
 |d::ds,_,_,.cons hd ht,.cons hv hr,h,0,hm=>by
  obtain⟨as,r⟩:=Dp.reads I d _ _ hd hv
  obtain⟨bs,rb⟩:=Dp.reads I dy y u hy ru
  show PySem.SeqAt.EqAt _ _ _ _ (PyData.eqv d dy)
  refine PySem.W.eqAt_alike d dy _ s _ u as bs r rb (h d AN).1 ?_
  have e:∀A:Around,A.in1.units=A.units+1:=fun A=>rfl
  rw[e]
  omega
 |d::ds,_,_,.cons hd ht,.cons hv hr,h,m+1,hm=>pU hu I hy ru dep ds _ _ ht hr (fun d h'=>h d (List.mem_cons_of_mem _ h')) m (by simpa using hm)
end
theorem ak {X:Cx} (hu:X.A.units+64<cLine):MtR X "list.index" (NW X.K):=by
 intro pins s σ H x xs v us Q I rx rxs h
 obtain⟨p,ys,y,dy,ds,j,rfl,rfl,hs,hy,hds,al,dep,hj,q⟩:=h
 cases rx
 obtain⟨u,rfl,ru⟩:=rxs.one
 obtain⟨its,rv,⟨⟨cls,dd,data,sl⟩,n,ho,hc,hdn,hd⟩,hlen⟩:=I.list hs
 simp only at hc hd
 subst hc hd
 have hl:its.length=ds.length:=by rw[←rv.length,kP hds]
 have hl2:=hj.2
 have hyl:=rv.length
 have hsl:=sizeLine_eq
 refine call_meets PySem.F.slot_list_index ⟨_,ho,rfl⟩ PySem.F.entry_list_index (PySem.F.args_list_index_2 _ _)
  (SeqAt.list_index2_found p its.toArray n dd sl u (eAt ds dy) j (by simpa[hl]using hl2) (Bg _) (by omega) (sQ hj) (fun m _ _ hm=>tO hj hm)) ⟨ho,fun m hm=>?_,?_⟩
 ·have:=pU hu I hy ru dep ds ys its hds rv al m (by simpa using hm)
  simpa using this
 ·exact⟨.int (j:Nat),H,I.tok _,⟨_,rfl⟩,q⟩
theorem ao {X:Cx} (hu:X.A.units+64<cLine):MtR X "tuple.index" (NX X.K):=by
 intro pins s σ H x xs v us Q I rx rxs h
 obtain⟨p,ys,y,dy,ds,j,rfl,rfl,hs,hy,hds,al,dep,hj,q⟩:=h
 cases rx
 obtain⟨u,rfl,ru⟩:=rxs.one
 obtain⟨its,rv,⟨⟨cls,dd,data,sl⟩,ho,hc,n,hd⟩,hlen⟩:=I.tuple hs
 simp only at hc hd
 subst hc hd
 have hl:its.length=ds.length:=by rw[←rv.length,kP hds]
 have hl2:=hj.2
 refine call_meets PySem.F.slot_tuple_index ⟨_,ho,rfl⟩ PySem.F.entry_tuple_index (PySem.F.args_tuple_index_2 _ _)
  (SeqAt.tuple_index2_found p its.toArray n dd sl u (eAt ds dy) j (by simpa[hl]using hl2) (Bg _) (by simpa[hl]using hl2) (sQ hj) (fun m _ _ hm=>tO hj hm)) ⟨ho,fun m hm=>?_,?_⟩
 ·have:=pU hu I hy ru dep ds ys its hds rv al m (by simpa using hm)
  simpa using this
 ·exact⟨.int (j:Nat),H,I.tok _,⟨_,rfl⟩,q⟩
def vN:D→List D→Option E
 | .lst xs,[x]=>match D.pyL xs,D.py x with
   |some ps,some px=>if ((ps.all fun d=>PySem.W.alike d px&&d.canLay0)=true∧px.depth≤60)∧(ps.findIdx fun d=>PyData.eqv d px)<ps.length then some (zN (ps.findIdx fun d=>PyData.eqv d px:Nat))else none
   |_,_=>none
 | .tup xs,[x]=>match D.pyL xs,D.py x with
   |some ps,some px=>if ((ps.all fun d=>PySem.W.alike d px&&d.canLay0)=true∧px.depth≤60)∧(ps.findIdx fun d=>PyData.eqv d px)<ps.length then some (zN (ps.findIdx fun d=>PyData.eqv d px:Nat))else none
   |_,_=>none
 |_,_=>none
theorem mU {B:Bk}:iT B vN (NW B.K) (NX B.K):=by
 intro ds xs as G H Q s hxs
 constructor
 ·intro v a e hx q
  unfold vN at e
  split at e
  ·rename_i zs x ez
   cases ez
   split at e
   ·rename_i ps px e1 e2
    split at e
    ·rename_i c
     cases e
     obtain⟨p,us,rfl,h1,h2⟩:=hx
     obtain⟨u,rfl,h⟩:=jD hxs
     refine⟨p,us,u,px,ps,_,rfl,rfl,SqL.of h1,Qx _ _ _ e2 (h.fz s),dpL_of _ _ _ e1 (FzL.mono s _ _ h2),fun d hd=>?_,c.1.2,⟨rfl,c.2⟩,q _ _ _ (.scalar s (xu _))⟩
     have:=AP.mp c.1.1 d hd
     rwa [Bool.and_eq_true]at this
    ·cases e
   ·cases e
  ·rename_i zs x ez; cases ez
  ·cases e
 ·intro v a e hx q
  unfold vN at e
  split at e
  ·rename_i zs x ez; cases ez
  ·rename_i zs x ez
   cases ez
   split at e
   ·rename_i ps px e1 e2
    split at e
    ·rename_i c
     cases e
     obtain⟨p,us,rfl,h1,h2,pl⟩:=LN hx
     obtain⟨u,rfl,h⟩:=jD hxs
     refine⟨p,us,u,px,ps,_,rfl,rfl,BY s h1,Qx _ _ _ e2 (h.fz s),dpL_of _ _ _ e1 (FzL.mono s _ _ h2),fun d hd=>?_,c.1.2,⟨rfl,c.2⟩,q _ _ _ (.scalar s (xu _))⟩
     have:=AP.mp c.1.1 d hd
     rwa [Bool.and_eq_true]at this
    ·cases e
   ·cases e
  ·cases e
def PP (K:PySem.W.Frag) (neg:Bool):R2:=fun x y H Q=>∃(px:PyData) (ps:List PyData),Dp K H x px∧Dp K H y (.tuple ps)∧PyData.plainAll ps=true∧px.plain=true∧px.depth≤60∧Q (.bl (Bool.xor neg (ps.any fun d=>PyData.eqv d px))) H
section
variable {X:Cx}
theorem Px (hu:X.A.units+64<cLine):OpR X (compareOp .NotIn) (PP X.K true):=by
 intro pins s σ H x y v u Q I rx ry h
 obtain⟨px,ps,hx,hy,pl,p1,dep,q⟩:=h
 obtain⟨as,r⟩:=Dp.reads I (.tuple ps) y u hy ry
 obtain⟨bs,rb⟩:=Dp.reads I px x v hx rx
 refine SeqAt.notIn_tuple_data r rb pl p1 (by have:=Nat.min_le_right (PyData.depthAll ps) px.depth; omega) ?_
 exact⟨.bl _,H,I.tok _,rfl,by simpa using q⟩
end
def inP? (x y:D):Option Bool:=match y with
 | .tup _=>match D.py y,D.py x with
   |some (.tuple ps),some px=>if PyData.plainAll ps=true∧px.plain=true∧px.depth≤60 then some (ps.any fun d=>PyData.eqv d px)else none
   |_,_=>none
 |_=>none
def oA (x y:D):Option E:=(inP? x y).map fun b=>eBl (!b)
theorem O1 {B:Bk} {x y:D} {b:Bool} {u v:V} {G H:Hp} {neg:Bool} {Q:VK} (e:inP? x y=some b) (s:Same G H) (hx:Tz B G H u x) (hy:Tz B G H v y) (q:Q (.bl (Bool.xor neg b)) H):PP B.K neg u v H Q:=by
 unfold inP? at e
 split at e
 ·split at e
  ·rename_i ps px e1 e2
   split at e
   ·rename_i c
    cases e
    exact⟨px,ps,Qx _ _ _ e2 (hx.fz s),Qx _ _ _ e1 (hy.fz s),c.1,c.2.1,c.2.2,q⟩
   ·cases e
  ·cases e
 ·cases e
theorem MS {B:Bk}:jI B oA (PP B.K true):=by
 intro x y v a b G H Q e s hx hy q
 obtain⟨t,e1,rfl⟩:=AO.mp e
 exact O1 e1 s hx hy (by simpa using q _ _ _ (.scalar s (show Fz B G (.bl (!t)) (.bl (!t))by rw[Fz])))
def Mem.nil:Mem:=⟨fun _=>none,0,fun _ _=>rfl⟩
def DetB (r0:Res E):Res E→Prop
 | .ok v ρ=>((∀i,v≠.sl i)∧∀a,v≠.ad a)∧.ok v ρ.dropLast=r0
 | .ex e ρ=>.ex e ρ.dropLast=r0
 | .no=>False
 | .new τ k=>∀a,τ a=none→DetB r0 (k a)
theorem DetB.uniq {r0 r1:Res E}:∀{r:Res E},DetB r0 r→DetB r1 r→r0=r1:=by
 intro r
 induction r with
 |ok v ρ=>exact fun h h'=>h.2.symm.trans h'.2
 |ex e ρ=>exact fun h h'=>(show _=r0 from h).symm.trans h'
 |no=>exact fun h=>h.elim
 |new τ k ih=>exact fun h h'=>let ⟨a,ha⟩:=τ.room; ih a (h a ha) (h' a ha)
open Classical in
noncomputable def ZL (r:Res E):Res E:=if h:∃r0,DetB r0 r then choose h else .no
theorem vK {r0 r:Res E} (h:DetB r0 r):ZL r=r0:=by
 have h':∃r0,DetB r0 r:=⟨r0,h⟩
 unfold ZL
 rw[dif_pos h']
 exact(Classical.choose_spec h').uniq h
theorem bS {r:Res E} (h:ZL r≠.no):DetB (ZL r) r:=by
 unfold ZL at h⊢
 split at h
 ·rename_i h'
  rw[dif_pos h']
  exact Classical.choose_spec h'
 ·exact absurd rfl h
noncomputable def gK (F:AK):AK:=fun ρ=>ZL (F (ρ++[.mem Mem.nil]))
section
variable {B:Bk} {us:List V} {ρ:List S} {H G:Hp} {F:AK}
theorem uN {i:Nat} {a:Addr} (hl:us.length=ρ.length) (w:Own ((us++[V.non]).map some) (ρ++[S.mem Mem.nil]) i a):i<ρ.length∧Own (us.map some) ρ i a:=by
 by_cases h:i<ρ.length
 ·refine⟨h,w.eq ?_ (AT h).symm⟩
  rw[A7,AT (by rw[List.length_map]; omega)]
 ·obtain⟨v,s,_,w2,w3⟩:=w
  have:i=ρ.length:=by have:=(AQ.mp w2).1; simp at this; omega
  subst this
  rw[AV (Nat.le_refl _)]at w2
  simp at w2
  subst w2
  obtain⟨o,z⟩:=w3
  cases z
theorem Rel.nilM (r:Rel B G (us.map some) ρ H):Rel B G ((us++[V.non]).map some) (ρ++[.mem Mem.nil]) H:=by
 have hl:us.length=ρ.length:=by have:=r.len; rwa [List.length_map]at this
 refine⟨r.sub,by simp[hl],fun i s e=>?_,fun i j a w1 w2=>r.sep i j a (uN hl w1).2 (uN hl w2).2,r.tab⟩
 by_cases h:i<ρ.length
 ·rw[AT h]at e
  obtain⟨v,e1,e2⟩:=r.slot i s e
  exact⟨v,by rw[A7,AT (by rw[List.length_map]; omega)]; exact e1,e2⟩
 ·have:i=ρ.length:=by have:=(AQ.mp e).1; simp at this; omega
  subst this
  rw[AV (Nat.le_refl _)]at e
  simp at e
  subst e
  refine⟨some .non,by rw[←hl]; simp,rfl,fun a o z=>by cases z⟩
theorem spB {Q:VK} {Ex:XK} (h:spC B (gK F) us H Q Ex):spC B F (us++[.non]) H Q Ex:=by
 obtain⟨G,ρ,r,h⟩:=h
 have hl:us.length=ρ.length:=by have:=r.len; rwa [List.length_map]at this
 refine⟨G,ρ++[.mem Mem.nil],r.nilM,?_⟩
 unfold gK at h
 have hd:=bS (r:=F (ρ++[.mem Mem.nil])) fun z=>by rw[z]at h; exact h
 generalize ZL (F (ρ++[.mem Mem.nil]))=r0 at h hd
 generalize F (ρ++[.mem Mem.nil])=rf at hd
 have pj:∀{ρ':List S} {H' G':Hp},Post B ((us++[V.non]).map some) (ρ++[.mem Mem.nil]) H G ((us++[V.non]).map some) ρ' H' G'→Post B (us.map some) ρ H G (us.map some) ρ'.dropLast H' G'∧∀i a,Own (us.map some) ρ'.dropLast i a→Own ((us++[V.non]).map some) ρ' i a:=fun {ρ' H' G'} p=>by
  have hl':ρ'.length=us.length+1:=by rw[←p.rel.len]; simp
  refine⟨p.reix id us.length (fun i j _ _ e=>e) (by simp) (by simp[hl']) (fun i hi=>⟨?_,?_⟩) (fun i a hi w=>(uN hl w).2) (fun j a w=>⟨j,(uN hl w).2⟩),fun i a w=>?_⟩
  ·rw[A7,id,AT (by rw[List.length_map]; exact hi)]
  ·rw[id,List.getElem?_dropLast,if_pos (by omega)]
  ·have hi:i<us.length:=by
    obtain⟨_,_,_,w2,_⟩:=w
    have:=(AQ.mp w2).1
    simp[hl']at this; exact this
   refine w.eq ?_ ?_
   ·rw[A7,AT (by rw[List.length_map]; exact hi)]
   ·rw[List.getElem?_dropLast,if_pos (by omega)]
 induction rf with
 |no=>exact hd.elim
 |new τ k ih=>exact fun a e=>ih a (hd a e)
 |ex e ρ'=>
  have hd:Res.ex e ρ'.dropLast=r0:=hd
  subst hd
  exact fun cls d H' G' p rx=>h cls d H' G' (pj p).1 rx
 |ok v ρ'=>
  obtain⟨ns,hd⟩:=hd
  subst hd
  intro u H' G' p re fr
  obtain⟨p1,p2⟩:=pj p
  cases v with
  |d x=>exact h u H' G' p1 re trivial
  |sl i=>exact absurd rfl (ns.1 i)
  |ad i=>exact absurd rfl (ns.2 i)
  |fr o=>
   obtain⟨a,ho,rfl,h1,h2,h3,h4⟩:=re
   exact h _ H' G' p1 ⟨a,ho,rfl,h1,h2,h3,fun i w=>h4 i (p2 i a w)⟩ fr
theorem Cb {P:Program} {w:World} {K:PySem.W.Frag} {mg:Str→Option Value} {base:Heap} {CX:CXT} {n:Nat} {a:Addr} {fd:FuncData} {par:List Str} (h:FnM P w K mg base CX n a fd par F):FnG P w K mg base CX n a fd par (gK F):=
 ⟨fun A up s0 H given zs us Q Ex hg hr he hb rv hl hsp=>h.go A up s0 H given zs us Q Ex hg hr he hb rv hl (spB hsp)⟩
theorem DetB.no {r:Res E} (h:r=.no):ZL r=.no:=by
 subst h
 unfold ZL
 rw[dif_neg]
 rintro⟨r0,z⟩
 exact z.elim
theorem m_ {k:Nat} (L:Len F (k+1)):Len (gK F) k:=fun ρ h=>by
 have:=L (ρ++[.mem Mem.nil]) fun z=>h (by unfold gK; exact DetB.no z)
 rw[AS]at this
 exact Nat.succ_inj.mp this
end
theorem FnM.ofX {P:Program} {w:World} {K:PySem.W.Frag} {mg:Str→Option Value} {base:Heap} {n:Nat} {a:Addr} {x qual gh:Str} {st:Stmt} {N par:List Str} {fd:FuncData} {f:AJ} (F:Fun K x qual st a fd) (S:FnScope N par (defScope st)) (np nl:Nat) (hnp:par.length=np) (hnl:N.length=np+nl+1) (hgN:N[np+nl]?=some gh) (hgv:(defScope st).names.lookup gh=none)
  (hbody:∀(cd:Value) (A:Around) (up:List Env) (s0:Shared) (H:Hp) (Ex:XK),(A.deeper (envOfC qual (defScope st) s0.heap.objs.size a cd)).guards=some []→Room n (A.deeper (envOfC qual (defScope st) s0.heap.objs.size a cd))→
    Takes (cxOf (L2.CX P w) P w K mg base N qual (defScope st) a cd A up s0 H Ex) (fun cls d _ H=>Ex cls d H)→
    kF (cxOf (L2.CX P w) P w K mg base N qual (defScope st) a cd A up s0 H Ex) (fun cls d _ H=>Ex cls d H) (PM np nl) (defBody st) f) :
  FnM P w K mg base (L2.CX P w) (n+1) a fd par (vv np nl f):=
 FnM.of F S np nl hnp hnl hgN hgv fun cd A up s0 H Ex hg hr=>hbody cd A up s0 H Ex hg hr (takes_of (E:=Ex) rfl rfl rfl rfl)
def Vn (f:D→Option D):List D→Option (List D)
 |[]=>some []
 |x::xs=>match f x,Vn f xs with
  |some y,some ys=>some (y::ys)
  |_,_=>none
def QN (τ:Mem):Nat→D→Option D
 |0,_=>none
 |n+1,.raw (.ref a)=>match τ a with
  |some (.lst xs)=>(Vn (QN τ n) xs).map .lst
  |_=>none
 |_+1,x=>some x
def pR (τ:Mem) (H G:Hp):Hp:=fun b=>if (τ b).isSome=true then H b else G b
section
variable {B:Bk} {σ σ0:St} {ρ ρ0:List S} {H H0 G G0:Hp} {τ:Mem}
theorem YZ {b:Addr} (h:τ b=none):pR τ H G b=G b:=by unfold pR; rw[h]; rfl
theorem dQ {b:Addr} {o:O} (h:τ b=some o):pR τ H G b=H b:=by unfold pR; rw[h]; rfl
theorem mQ (hm:qm ρ=some τ) (r:Rel B G σ ρ H):Same G (pR τ H G):=fun b u e=>by
 cases h:τ b with
 |none=>rw[YZ h]; exact e
 |some o=>
  obtain⟨_,_,e2,_⟩:=VA hm h r
  rw[e2]at e; cases e
theorem Post.freezeM (p:Post B σ0 ρ0 H0 G0 σ ρ H G) (hm:qm ρ=some τ):Post B σ0 ρ0 H0 G0 σ (x_ ρ Mem.nil) H (pR τ H G):=by
 have hl:=(AQ.mp (qD hm)).1
 have sm:=mQ hm p.rel
 have oo:∀j b,Own σ (x_ ρ Mem.nil) j b→j≠ρ.length - 1∧Own σ ρ j b:=fun j b w=>by
  rcases Uz hm w with⟨_,o1,ho1⟩|h
  ·cases ho1
  ·exact h
 have off:∀j b,j≠ρ.length - 1→Own σ ρ j b→τ b=none:=fun j b hj w=>by
  cases h:τ b with
  |none=>rfl
  |some o=>exact absurd (p.rel.sep _ _ b w (VD hm h p.rel)) hj
 refine⟨fun b u e=>sm b u (p.grow b u e),p.dom,p.frame,fun b u e t g n=>?_,⟨fun b u e=>?_,by unfold x_; rw[List.length_set]; exact p.rel.len,fun j s hs=>?_,fun j k b w w'=>p.rel.sep j k b (oo j b w).2 (oo k b w').2,?_⟩,fun j b w=>p.own j b (oo j b w).2⟩
 ·have h:τ b=none:=by
   cases h:τ b with
   |none=>rfl
   |some o=>
    rcases p.own _ b (VD hm h p.rel)with w|w
    ·exact absurd w (n _)
    ·rw[e]at w; cases w
  rw[YZ h]; exact p.keep b u e t g n
 ·cases h:τ b with
  |none=>rw[YZ h]at e; exact p.rel.sub b u e
  |some o=>rw[dQ h]at e; exact e
 ·unfold x_ at hs
  by_cases hj:ρ.length - 1=j
  ·subst hj
   rw[A0 hl]at hs
   cases hs
   obtain⟨v,e1,e2⟩:=p.rel.slot _ _ (qD hm)
   exact⟨v,e1,e2.1,fun b o hb=>by cases hb⟩
  ·rw[AZ hj]at hs
   obtain⟨v,e1,e2⟩:=p.rel.slot j s hs
   refine⟨v,e1,?_⟩
   cases s with
   |no=>trivial
   |clo u F=>exact⟨e2.1,fun b u e=>sm b u (e2.2 b u e)⟩
   |d x=>
    obtain⟨u,h1,h2⟩:=e2
    exact⟨u,h1,Fz.mono sm _ _ h2⟩
   |own o=>
    obtain⟨a,ho,h1,h2,h3,h4⟩:=e2
    have w:Own σ ρ j a:=⟨v,_,e1,hs,h1⟩
    exact⟨a,ho,h1,h2,by rw[YZ (off j a (fun z=>hj z.symm) w)]; exact h3,h4.mono sm⟩
   |mem τ2=>
    refine⟨e2.1,fun b o hb=>?_⟩
    obtain⟨ho,h1,h2,h3⟩:=e2.2 b o hb
    have w:Own σ ρ j b:=⟨v,_,e1,hs,o,hb⟩
    exact⟨ho,h1,by rw[YZ (off j b (fun z=>hj z.symm) w)]; exact h2,h3.mono sm⟩
 ·intro q hq
  obtain⟨⟨ps,h1,h2,h3⟩,h4⟩:=p.rel.tab q hq
  refine⟨⟨ps,h1,h2,fun pos cv hc=>?_⟩,?_⟩
  ·obtain⟨c,e1,e2⟩:=h3 pos cv hc
   exact⟨c,e1,sm _ _ e2⟩
  ·have h:τ q.1=none:=by
    cases h:τ q.1 with
    |none=>rfl
    |some o=>
     obtain⟨ho,e1,_,e3⟩:=VA hm h p.rel
     rw[h1]at e1; cases e1
     exact absurd rfl (e3.nt ps)
   rw[YZ h]; exact h4
theorem aZ (hm:qm ρ=some τ) (r:Rel B G σ ρ H):∀(n:Nat) (x y:D) (v:V),QN τ n x=some y→Fz B G v x→Fz B (pR τ H G) v y
 |0,x,y,v,h,_=>by cases h
 |n+1,x,y,v,h,f=>by
  have sm:=mQ hm r
  unfold QN at h
  split at h
  ·cases h
  ·rename_i hn
   cases hn
   split at h
   ·rename_i xs ht
    rw[AO]at h
    obtain⟨ys,hy,rfl⟩:=h
    rw[Fz]at f
    obtain⟨ho,e1,e2,e3⟩:=VA hm ht r
    obtain⟨us,rfl,e4⟩:=e3
    rw[Fz]
    refine⟨_,us,f,by rw[dQ ht]; exact e1,?_⟩
    clear ht e1
    induction xs generalizing us ys with
    |nil=>
     cases hy
     cases us with
     |nil=>rw[FzL]; trivial
     |cons _ _=>rw[FzL]at e4; exact e4.elim
    |cons z zs ih=>
     cases us with
     |nil=>rw[FzL]at e4; exact e4.elim
     |cons u us=>
      rw[FzL]at e4
      unfold Vn at hy
      split at hy
      ·rename_i y1 ys1 h1 h2
       cases hy
       rw[FzL]
       exact⟨aZ hm r n z y1 u h1 e4.1,ih ys1 h2 us e4.2⟩
      ·cases hy
   ·cases h
  ·cases h
   exact Fz.mono sm _ _ f
end
def Mo (v:E) (ρ:List S):Res E:=match v with
 | .ad a=>match qm ρ with
   |some τ=>match QN τ 8 (.raw (.ref a))with
    |some x=>.ok (.d x) (x_ ρ Mem.nil)
    |none=>.no
   |none=>.no
 |_=>.no
def c9 (f:AK):AK:=fun ρ=>(f ρ).bind Mo
section
variable {X:Cx} {W:WX'} {e:Expr} {f:AK}
theorem tZ {B:Bk} {σ:St} {H:Hp} {Q:VK} (h:jb B W (c9 f) σ H Q):jb B W f σ H Q:=by
 obtain⟨G,ρ,r,h⟩:=h
 refine yr (yx r (Aft.cl (W:=W) (Q:=Q)) h) fun u H1 ⟨v,ρ1,G1,P,h1⟩=>?_
 obtain⟨u',eu,re⟩:=P.re 0 v rfl
 cases eu
 cases v with
 |d x=>exact h1.elim
 |sl i=>exact h1.elim
 |fr o=>exact h1.elim
 |ad a=>
  have h1:Aft B W σ ρ H G Q (Mo (.ad a) ρ1):=h1
  unfold Mo at h1
  simp only at h1
  split at h1
  ·rename_i τ hm
   split at h1
   ·rename_i x hx
    have re:u=.ref a:=re
    exact h1 u H1 _ (P.post.freezeM hm) (aZ hm P.post.rel 8 _ _ _ hx (by rw[Fz]; exact re)) trivial
   ·exact h1.elim
  ·exact h1.elim
theorem OH (h:PEa X W e f):PEa X W e (c9 f):=xv h fun σ H Q q=>tZ q
end
end L2.AL
namespace L2.AL.SH
open PySem PySem.Spec PyProof.Rows L2 L2.AL
def c_LETTERS:D:=(.str "abcdefghijklmnopqrstuvwxyz")
def c_LONGEST_NAME:D:=(.int 8)
def u7:AJ:=(zt (zp 2 (aIf (aT (zg gLt (zb 1) (zh xT (za (zb 0) ze)))) (zg gIx (zb 0) (zb 1)) (zg yP (zg Zh (aK (.int 29)) (zb 1)) (aK (.int 11)))))
 (zt (zp 3 (zg Zh (zg XD (zh XC (za (zh mT (za (zb 2) ze)) ze)) (zg Ur (zg Ur (aK (.int 10)) (aK (.int 60))) (aK (.int 5)))) (zh XC (za (zg gGe (zh mT (za (zb 2) ze)) (zg Ur (aK (.int 10)) (aK (.int 18)))) ze))))
 (zH (zG (za (zb 3) (za (zg XD (zh XC (za (zg yP (zg yP (zg Zh (zg XD (zh XC (za (zb 2) ze)) (aK (.int 2305843009213693951))) (aK (.int 70843))) (zg Zh (zg Zh (aK (.int 8521)) (zb 1)) (zb 1))) (aK (.int 41))) ze)) (aK (.int 2305843009213693921))) (za (aK (.int 0)) ze)))))))
def Zi:AK:=zJ 2 2 u7
def JL:AJ:=(zt (sIf (aT (zg gGt (zg gIx (zb 0) (aK (.int 0))) (aK (.int 0)))) (zt (zp 2 (zg XD (zh XC (za (zg gIx (zb 0) (aK (.int 0))) ze)) (zb 1)))
 (zt (rX 0 (aK (.int 0)) (zg oy (zg gIx (zb 0) (aK (.int 0))) (zb 1)))
 (zH (zb 2)))) sNx)
 (zt (rX 0 (aK (.int 2)) (zg yP (zg gIx (zb 0) (aK (.int 2))) (aK (.int 1))))
 (zt (zp 3 (zg gIx (zG (za (aK (.int 2147483647)) (za (aK (.int 2147483629)) (za (aK (.int 2147483587)) (za (aK (.int 2147483579)) (za (aK (.int 2147483563)) ze)))))) (zg XD (zh XC (za (zg gIx (zb 0) (aK (.int 2))) ze)) (aK (.int 5)))))
 (zt (zp 4 (zg XD (zh XC (za (zg Ur (zg yP (zg yP (zg gIx (zb 0) (aK (.int 1))) (zg Zh (zg Zh (aK (.int 99877)) (zg gIx (zb 0) (aK (.int 2)))) (zg gIx (zb 0) (aK (.int 2))))) (aK (.int 71))) (aK (.int 3))) ze)) (zb 3)))
 (zt (zp 4 (zg XD (zh XC (za (zg Zh (zb 4) (zg yP (zg XD (zh XC (za (zb 4) ze)) (aK (.int 10007))) (zg Zh (aK (.int 89)) (zg gIx (zb 0) (aK (.int 2)))))) ze)) (aK (.int 2305843009213693907))))
 (zH (zg XD (zh XC (za (zg oy (zb 4) (aK (.int 83))) ze)) (zb 1))))))))
def zZ:AK:=zJ 2 3 JL
def eT:AJ:=(zH (zg gIx (zb 1) (aFn zZ (za (zb 0) (za (zh xT (za (zb 1) ze)) ze)))))
def yJ:AK:=zJ 2 0 eT
def UM:AJ:=(zt (zp 2 (aK (.str "abcdefghijklmnopqrstuvwxyz")))
 (zt (zp 3 (zC "str" Ys (aK (.str "")) (za (aLc [4] (qG (za (aFn yJ (za (zb 0) (za (zG (za (aK (.int 0)) (za (aK (.int 0)) (za (aK (.int 1)) (za (aK (.int 3)) (za (aK (.int 7)) ze)))))) ze))) ze)) (.nm 4) yX (aFn yJ (za (zb 0) (za (zb 2) ze)))) ze)))
 (zt (z9 [5,6] (za (aFn zZ (za (zb 0) (za (zg yP (zh xT (za (zb 3) ze)) (aK (.int 1))) ze))) (za (aFn zZ (za (zb 0) (za (aK (.int 26)) ze))) ze)))
 (zH (aLc [7] (qG (za (zb 1) ze)) (.nm 7) yX (zg yP (zg yP (zj (zb 3) zm (zw (zb 5))) (zg gIx (zb 2) (zg XD (zh XC (za (zg yP (zb 6) (zg Zh (aK (.int 3)) (zb 7))) ze)) (aK (.int 26))))) (zj (zb 3) (zw (zb 5)) zm)))))))
def jz:AK:=zJ 2 6 UM
def dE:AJ:=(zt (sIf (zW (zz (aT (zh yc (za (zb 0) (za (aK (.ty "str")) ze))))) (zz (aT (zr gLe gLe (aK (.int 1)) (zh xT (za (zb 0) ze)) (aK c_LONGEST_NAME))))) (zH (aK (.bl false))) sNx)
 (zH (zh YW (za (aLc [1] (zn (zb 0)) (.nm 1) yX (zg gIn (zb 1) (aK c_LETTERS))) ze))))
def qg:AK:=zJ 1 1 dE
end L2.AL.SH
namespace L2.AL.WS
open PySem PySem.Spec PyProof.Rows L2 L2.AL L2.AL.SH
def c_LEAST_WORDS:D:=(.int 2)
def c_MOST_HOUSES:D:=(.int 4)
def c_MOST_LAPSES:D:=(.int 4)
def c_MOST_SLOTS:D:=(.int 6)
def c_MOST_STANDS:D:=(.int 32)
def c_MOST_WORDS:D:=(.int 4)
def Uk:D:=(.int 2)
def c_TRIPLE:D:=(.int 3)
def wW:AJ:=(zH (zB (zh yc (za (zb 0) (za (aK (.ty "str")) ze))) (zg gIn (zb 0) (zb 1))))
def dF:AJ:=wW
def qh:AK:=zJ 2 0 dF
def JR:AJ:=(zH (zB (zh yc (za (zb 0) (za (aK (.ty "tuple")) ze))) (zr gLe gLe (zb 1) (zh xT (za (zb 0) ze)) (zb 2))))
def Ud:AJ:=JR
def yT:AK:=zJ 3 0 Ud
def Vh:AK:=(aLc [2] (zn (zb 0)) (.nm 2) (aT (zg gEq (zg gIx (zb 2) (aK (.int 1))) (zb 1))) (zb 2))
def ui:AJ:=(zH Vh)
def u_:AJ:=ui
def Ya:AK:=zJ 2 1 u_
def Xj:AJ:=(zH (aK (.bl false)))
def Xi:AJ:=(sIf (zz (aT (aFn yT (za (zb 1) (za (aK Uk) (za (aK Uk) ze)))))) Xj sNx)
def Xh:AK:=(aLc [2,3,4] (zn (zb 0)) (.tp [(.nm 2),(.nm 3),(.nm 4)]) yX (zB (aFn qh (za (zg gIx (zb 1) (aK (.int 0))) (za (zV (za (zb 2) ze)) ze))) (aFn qh (za (zg gIx (zb 1) (aK (.int 1))) (za (zb 4) ze)))))
def Ut:AJ:=(zH (zh ou (za Xh ze)))
def Qw:AJ:=(zt Xi
 Ut)
def qN:AK:=zJ 2 3 Qw
def jX:AK:=(aLc [1,2] (LW (za (zb 0) (za (zj (zb 0) (zw (aK (.int 1))) zm) ze))) (.tp [(.nm 1),(.nm 2)]) yX (zg fW (zb 1) (zb 2)))
def YD:AJ:=(zH (zh YW (za jX ze)))
def Xe:AJ:=YD
def yw:AK:=zJ 1 2 Xe
def qL:AK:=(aLc [2] (zn (zb 1)) (.nm 2) yX (aFn qN (za (zb 0) (za (zb 2) ze))))
def xy:AJ:=(zH (aK (.bl false)))
def xx:AJ:=(sIf (zW (zz (aT (zh yc (za (zb 1) (za (aK (.ty "tuple")) ze))))) (zz (aT (zh YW (za qL ze))))) xy sNx)
def qM:AK:=(aLc [2] (zn (zb 1)) (.nm 2) yX (zg gIx (zb 2) (aK (.int 0))))
def jy:AJ:=(zH (aFn yw (za qM ze)))
def xP:AJ:=(zt xx
 jy)
def yu:AK:=zJ 2 1 xP
def XM:AJ:=(zH (aK (.bl false)))
def Zp:AJ:=(sIf (zW (zz (aT (aFn yT (za (zb 2) (za (aK c_TRIPLE) (za (aK c_TRIPLE) ze)))))) (zz (aT (aFn qh (za (zg gIx (zb 2) (aK (.int 0))) (za (zb 0) ze)))))) XM sNx)
def JQ:AJ:=(zp 3 (aFn Ya (za (zb 1) (za (zg gIx (zb 2) (aK (.int 0))) ze))))
def qy:AJ:=(zH (zB (aFn yu (za (zb 3) (za (zg gIx (zb 2) (aK (.int 1))) ze))) (zB (aFn yu (za (zb 3) (za (zg gIx (zb 2) (aK (.int 2))) ze))) (zg Jp (zg gIx (zb 2) (aK (.int 2))) (zV ze)))))
def Xf:AJ:=(zt Zp
 (zt JQ
 qy))
def qW:AK:=zJ 3 1 Xf
def X_:AK:=(aLc [3] (zn (zb 2)) (.nm 3) yX (aFn qW (za (zb 0) (za (zb 1) (za (zb 3) ze)))))
def jK:AJ:=(zH (zB (aFn yT (za (zb 2) (za (aK (.int 0)) (za (aK c_MOST_LAPSES) ze)))) (zh YW (za X_ ze))))
def ZJ:AJ:=jK
def xX:AK:=zJ 3 1 ZJ
def qI:AK:=(aLc [1] (zn (zb 0)) (.nm 1) yX (zg gEq (Yf Yr (zb 0) (za (zb 1) ze)) (aK (.int 1))))
def Z5:AJ:=(zH (zh YW (za qI ze)))
def YA:AJ:=Z5
def y_:AK:=zJ 1 1 YA
def QS:AK:=(aLc [3] (zn (zb 0)) (.nm 3) yX (aFn qg (za (zb 3) ze)))
def QT:AJ:=(zH (zB (aFn yT (za (zb 0) (za (zb 1) (za (zb 2) ze)))) (zh YW (za QS ze))))
def JM:AJ:=QT
def xK:AK:=zJ 3 1 JM
def Z9:AJ:=(zH (aK (.bl false)))
def Z8:AJ:=(sIf (zW (zz (aT (aFn yT (za (zb 1) (za (aK c_TRIPLE) (za (aK c_TRIPLE) ze)))))) (zW (zz (aT (aFn qg (za (zg gIx (zb 1) (aK (.int 0))) ze)))) (zz (aT (aFn qh (za (zg gIx (zb 1) (aK (.int 1))) (za (zb 0) ze))))))) Z9 sNx)
def Xk:AJ:=(zH (zB (aFn xK (za (zg gIx (zb 1) (aK (.int 2))) (za (aK c_LEAST_WORDS) (za (aK c_MOST_WORDS) ze)))) (aFn y_ (za (zg gIx (zb 1) (aK (.int 2))) ze))))
def YY:AJ:=(zt Z8
 Xk)
def jf:AK:=zJ 2 0 YY
def QU:AK:=(aLc [2] (zn (zb 1)) (.nm 2) yX (aFn jf (za (zb 0) (za (zb 2) ze))))
def ZH:AJ:=(zH (aK (.bl false)))
def qT:AJ:=(sIf (zW (zz (aT (aFn yT (za (zb 1) (za (aK (.int 1)) (za (aK c_MOST_SLOTS) ze)))))) (zz (aT (zh YW (za QU ze))))) ZH sNx)
def QW:AJ:=(zp 3 (aK (.int 1)))
def YR:AJ:=(zp 3 (zg Zh (zb 3) (zh xT (za (zb 6) ze))))
def QX:AJ:=(Xt (zn (zb 1)) (.tp [(.nm 4),(.nm 5),(.nm 6)]) YR)
def QV:AK:=(aLc [2] (zn (zb 1)) (.nm 2) yX (zg gIx (zb 2) (aK (.int 0))))
def YT:AJ:=(zH (zB (aFn y_ (za QV ze)) (zg gLe (zb 3) (aK c_MOST_STANDS))))
def Zo:AJ:=(zt qT
 (zt QW
 (zt QX
 YT)))
def xL:AK:=zJ 2 5 Zo
def Yi:AJ:=(zH (zB (aFn xK (za (zb 0) (za (aK (.int 1)) (za (aK c_MOST_HOUSES) ze)))) (aFn yw (za (zb 0) ze))))
def YU:AJ:=Yi
def xF:AK:=zJ 1 0 YU
def Yy:AK:=(aLc [2] (zn (zb 1)) (.nm 2) yX (zB (aFn yu (za (zb 0) (za (zb 2) ze))) (zg Jp (zb 2) (zV ze))))
def jV:AJ:=(zH (aK (.bl false)))
def jU:AJ:=(sIf (zW (zz (aT (zh yc (za (zb 1) (za (aK (.ty "tuple")) ze))))) (zz (aT (zh YW (za Yy ze))))) jV sNx)
def Yz:AJ:=(zH (aFn yw (za (zb 1) ze)))
def ZK:AJ:=(zt jU
 Yz)
def xo:AK:=zJ 2 1 ZK
def xW:AJ:=(zH (aK (.bl false)))
def xV:AJ:=(sIf (zW (zz (aT (aFn xF (za (zb 0) ze)))) (zW (zz (aT (aFn xL (za (zb 0) (za (zb 1) ze))))) (zz (aT (aFn xX (za (zb 0) (za (zb 1) (za (zb 4) ze)))))))) xW sNx)
def YQ:AJ:=(zH (zB (aFn xo (za (zb 1) (za (zb 2) ze))) (zB (aFn xo (za (zb 1) (za (zb 3) ze))) (zg Jp (zb 2) (zV ze)))))
def qw:AJ:=(zt xV
 YQ)
def xg:AK:=zJ 5 0 qw
def Je:AK:=(aDc [1,2] (QQ (za (zb 0) ze)) (.tp [(.nm 1),(.nm 2)]) yX (zg gIx (zb 2) (aK (.int 0))) (zb 1))
def U_:AJ:=(zH Je)
def vI:AJ:=U_
def Zr:AK:=zJ 1 2 vI
def kI:AK:=(aLc [3,4] (zn (zb 1)) (.tp [(.nm 3),(.nm 4)]) yX (zg gEq (zg gIx (zb 2) (zg gIx (zb 0) (zb 3))) (zb 4)))
def dC:AJ:=(zH (zh YW (za kI ze)))
def mq:AJ:=dC
def QA:AK:=zJ 3 2 mq
def Xw:AK:=(aLc [3] (zn (zb 1)) (.nm 3) yX (aFn QA (za (zb 0) (za (zb 3) (za (zb 2) ze)))))
def Vi:AJ:=(zH (zh ou (za Xw ze)))
def VS:AJ:=Vi
def jg:AK:=zJ 3 1 VS
def JO:AK:=(aLc [1,2,3] (zn (zb 0)) (.tp [(.nm 1),(.nm 2),(.nm 3)]) yX (zg gIx (zb 3) (aK (.int 0))))
def vM:AJ:=(zH (zh yH (za JO ze)))
def u9:AJ:=vM
def Zj:AK:=zJ 1 3 u9
def jc:AJ:=(zp 1 (zG (za (zV ze) ze)))
def jd:AJ:=(zp 5 (zG ze))
def X9:AK:=(aLc [7] (zn (zb 4)) (.nm 7) yX (zg yP (zb 6) (zV (za (zb 7) ze))))
def Yg:AJ:=(zy (Y_ "list" 5 jn (za X9 ze)))
def je:AJ:=(Xt (zn (zb 1)) (.nm 6) Yg)
def jJ:AJ:=(zp 1 (zb 5))
def VP:AJ:=(Xt (zn (zb 0)) (.tp [(.nm 2),(.nm 3),(.nm 4)]) (zt jd
 (zt je
 jJ)))
def Yh:AJ:=(zH (zh yH (za (zh qx (za (zb 1) ze)) ze)))
def Q1:AJ:=(zt jc
 (zt VP
 Yh))
def ZS:AK:=zJ 1 7 Q1
def uU:AJ:=(zH (zg gIx (Y9 "World" "own_parts" (zb 0)) (aK (.int 1))))
def fJ:AJ:=uU
def yB:AK:=zJ 1 0 fJ
def uS:AJ:=(zH (zg gIx (Y9 "World" "own_parts" (zb 0)) (aK (.int 2))))
def fG:AJ:=uS
def yQ:AK:=zJ 1 0 fG
def uT:AJ:=(zH (zg gIx (Y9 "World" "own_parts" (zb 0)) (aK (.int 3))))
def fH:AJ:=uT
def yR:AK:=zJ 1 0 fH
def uu:AJ:=(zH (zg gIx (Y9 "World" "own_parts" (zb 0)) (aK (.int 0))))
def u4:AJ:=uu
def yM:AK:=zJ 1 0 u4
end L2.AL.WS
namespace L2.AL.WS.R
open PySem PySem.Spec PyProof.Rows L2 L2.AL L2.AL.SH L2.AL.WS
noncomputable section
def c_BLANK:D:=(.str " ")
def c_COLON:D:=(.str ":")
def c_FEED:D:=(.str "\n")
def c_IS:D:=(.str "=")
def c_KINDS:D:=(.tup [(.str "houses"),(.str "slot"),(.str "bears"),(.str "never"),(.str "lapse")])
def c_PAIR_reading:D:=(.int 2)
def c_PATTERN_KINDS:D:=(.tup [(.str "bears"),(.str "never")])
def jQ:AJ:=(zp 2 (aFn zZ (za (zb 0) (za (zh xT (za (zb 1) ze)) ze))))
def jR:AJ:=(zp 3 (zG (za (zV (za (zg gIx (zg gIx (zb 1) (zb 2)) (aK (.int 0))) (za (aFn yJ (za (zb 0) (za (zj (zg gIx (zg gIx (zb 1) (zb 2)) (aK (.int 2))) (zw (aK (.int 1))) zm) ze))) ze))) ze)))
def Jj:AJ:=(zy (Y_ "list" 3 qc (za (zV (za (zb 5) (za (aFn yJ (za (zb 0) (za (zb 7) ze))) ze))) ze)))
def qt:AJ:=(sIf (zF (aT (zg gNe (zb 4) (zb 2))) (aT (zg gEq (aFn zZ (za (zb 0) (za (aK (.int 3)) ze))) (aK (.int 0))))) Jj sNx)
def Yx:AJ:=(Xt (QQ (za (zb 1) ze)) (.tp [(.nm 4),(.tp [(.nm 5),(.nm 6),(.nm 7)])]) qt)
def Jk:AJ:=(zH (zh yH (za (zh qx (za (zb 3) ze)) ze)))
def JK:AJ:=(zt jQ
 (zt jR
 (zt Yx
 Jk)))
def xJ:AK:=zJ 2 6 JK
def Y7:AJ:=(zp 2 (zG ze))
def jo:AJ:=(zp 4 (zg gIx (aFn yJ (za (zb 0) (za (zb 1) ze))) (aK (.int 1))))
def Y6:AK:=(aLc [6] (zn (zb 1)) (.nm 6) (aT (zg gEq (zg gIx (zb 6) (aK (.int 1))) (zb 4))) (zb 6))
def jp:AJ:=(zp 5 (zh qx (za Y6 ze)))
def JE:AK:=(aLc [6] (zn (zb 5)) (.nm 6) (aT (zg gEq (aFn zZ (za (zb 0) (za (aK (.int 2)) ze))) (aK (.int 0)))) (zV (za (zg gIx (zb 6) (aK (.int 0))) (za (aFn yJ (za (zb 0) (za (zg gIx (zb 6) (aK (.int 2))) ze))) ze))))
def jq:AJ:=(zp 7 JE)
def JF:AK:=(aLc [6] (zn (zb 5)) (.nm 6) (aT (zg gEq (aFn zZ (za (zb 0) (za (aK (.int 2)) ze))) (aK (.int 0)))) (zV (za (zg gIx (zb 6) (aK (.int 0))) (za (aFn yJ (za (zb 0) (za (zg gIx (zb 6) (aK (.int 2))) ze))) ze))))
def jr:AJ:=(zp 8 JF)
def Jl:AJ:=(zp 7 (zG (za (zV (za (zg gIx (zg gIx (zb 5) (aK (.int 0))) (aK (.int 0))) (za (aFn yJ (za (zb 0) (za (zg gIx (zg gIx (zb 5) (aK (.int 0))) (aK (.int 2))) ze))) ze))) ze)))
def qZ:AJ:=(sIf (aT (zg wQ (zb 7) (zG ze))) Jl sNx)
def jS:AJ:=(zy (Y_ "list" 2 qc (za (zV (za (zb 4) (za (zh yH (za (zb 8) ze)) (za (zh yH (za (zb 7) ze)) ze)))) ze)))
def Y8:AJ:=(Xt (qG (za (aFn zZ (za (zb 0) (za (aK (.int 5)) ze))) ze)) (.nm 3) (zt jo
 (zt jp
 (zt jq
 (zt jr
 (zt qZ
 jS))))))
def Jm:AJ:=(zH (zh yH (za (zb 2) ze)))
def VR:AJ:=(zt Y7
 (zt Y8
 Jm))
def jM:AK:=zJ 2 7 VR
def Zx:AJ:=(z9 [1,2] (za (aFn jz (za (zb 0) (za (aK (.int 10)) ze))) (za (aFn jz (za (zb 0) (za (aK (.int 6)) ze))) ze)))
def Zy:AJ:=(z9 [3,4,5] (za (zh yH (za (zh qx (za (zj (zb 1) zm (zw (zg yP (aK (.int 1)) (aFn zZ (za (zb 0) (za (aK (.int 4)) ze)))))) ze)) ze)) (za (zG ze) (za (aK (.int 1)) ze))))
def qu:AJ:=(zp 7 (zg yP (aK (.int 2)) (aFn zZ (za (zb 0) (za (aK (.int 3)) ze)))))
def ZA:AJ:=(zp 8 (aFn zZ (za (zb 0) (za (aK (.int 3)) ze))))
def ZC:AJ:=(zy (Y_ "list" 4 qc (za (zV (za (zb 6) (za (aFn yJ (za (zb 0) (za (zb 3) ze))) (za (zh yH (za (zj (zb 2) (zw (zb 8)) (zw (zg yP (zb 8) (zb 7)))) ze)) ze)))) ze)))
def ZD:AJ:=(zp 5 (zg Zh (zb 5) (zb 7)))
def qv:AJ:=(sIf (aT (zg gLt (zg Zh (zb 5) (zb 7)) (aK (.int 33)))) (zt ZA
 (zt ZC
 ZD)) sNx)
def Zz:AJ:=(Xt (zn (zj (zb 1) (zw (aK (.int 4))) (zw (zg yP (aK (.int 5)) (aFn zZ (za (zb 0) (za (aK (.int 6)) ze))))))) (.nm 6) (zt qu
 qv))
def Y4:AK:=(aLc [10] (qG (za (zg yP (aK (.int 1)) (aFn zZ (za (zb 0) (za (aK (.int 3)) ze)))) ze)) (.nm 10) yX (aFn xJ (za (zb 0) (za (zb 4) ze))))
def ZE:AJ:=(zp 9 (zh Z7 (za Y4 ze)))
def Y5:AK:=(aLc [10] (qG (za (aFn zZ (za (zb 0) (za (aK (.int 3)) ze))) ze)) (.nm 10) yX (aFn xJ (za (zb 0) (za (zb 4) ze))))
def j4:AJ:=(zp 11 (zh Z7 (za Y5 ze)))
def j5:AJ:=(zp 12 (su [("houses",(zb 3)),("slots",(zh yH (za (zb 4) ze))),("bears",(zh yH (za (zb 9) ze))),("never",(zh yH (za (zb 11) ze)))]))
def qR:AJ:=(rX 12 (aK (.str "lapses")) (aFn jM (za (zb 0) (za (zb 4) ze))))
def Ub:AJ:=(zH (zb 12))
def Qu:AJ:=(zt Zx
 (zt Zy
 (zt Zz
 (zt ZE
 (zt j4
 (zt j5
 (zt qR
 Ub)))))))
def qf:AK:=zJ 1 12 Qu
def UG:AJ:=(vy "BadWorld" "value" (za (zV (za (zb 1) (za (zb 2) (za (zb 3) (za (zb 4) (za (zb 5) ze)))))) ze))
def Zs:AJ:=(sIf (zz (aT (aFn xg (za (zb 1) (za (zb 2) (za (zb 3) (za (zb 4) (za (zb 5) ze)))))))) UG sNx)
def Zt:AJ:=(gL "World" 0 "own_places" (aFn Zr (za (zb 2) ze)))
def UH:AJ:=(vy "BadWorld" "value" (za (zV (za (zb 1) (za (zb 2) (za (zb 3) (za (zb 4) (za (zb 5) ze)))))) ze))
def Zu:AJ:=(sIf (aT (aFn jg (za (Y9 "World" "own_places" (zb 0)) (za (zg yP (zb 3) (zb 4)) (za (aFn Zj (za (zb 2) ze)) ze))))) UH sNx)
def Zv:AJ:=(gL "World" 0 "own_parts" (zV (za (zb 1) (za (zb 2) (za (zb 3) (za (zb 4) (za (zb 5) ze)))))))
def Zw:AJ:=(gL "World" 0 "own_stands" (aFn ZS (za (zb 2) ze)))
def Z6:AJ:=(zt Zs
 (zt Zt
 (zt Zu
 (zt Zv
 Zw))))
def yp:AK:=zJ 6 0 Z6
def XY:AK:=(aLc [1,2] (zn (zb 0)) (.tp [(.nm 1),(.nm 2)]) yX (zg yP (zg yP (zb 1) (aK (.str "="))) (zb 2)))
def VM:AJ:=(zH XY)
def QY:AJ:=VM
def xn:AK:=zJ 1 2 QY
def j9:AJ:=(zp 1 (zG (za (zg yP (zG (za (aK (.str "houses")) ze)) (zh (VJ wR Uq) (za (zg gIx (zb 0) (aK (.str "houses"))) ze))) ze)))
def j6:AK:=(aLc [2,3,4] (zn (zg gIx (zb 0) (aK (.str "slots")))) (.tp [(.nm 2),(.nm 3),(.nm 4)]) yX (zg yP (zG (za (aK (.str "slot")) (za (zb 2) (za (zb 3) ze)))) (zh (VJ wR Uq) (za (zb 4) ze))))
def j_:AJ:=(zy (Y_ "list" 1 jn (za j6 ze)))
def j7:AK:=(aLc [5] (zn (zg gIx (zb 0) (aK (.str "bears")))) (.nm 5) yX (zg yP (zG (za (aK (.str "bears")) ze)) (aFn xn (za (zb 5) ze))))
def Za:AJ:=(zy (Y_ "list" 1 jn (za j7 ze)))
def j8:AK:=(aLc [5] (zn (zg gIx (zb 0) (aK (.str "never")))) (.nm 5) yX (zg yP (zG (za (aK (.str "never")) ze)) (aFn xn (za (zb 5) ze))))
def Zb:AJ:=(zy (Y_ "list" 1 jn (za j8 ze)))
def qS:AJ:=(zy (Y_ "list" 1 qc (za (zg yP (zg yP (zg yP (zG (za (aK (.str "lapse")) (za (zb 3) ze))) (aFn xn (za (zb 6) ze))) (zG (za (aK (.str ":")) ze))) (aFn xn (za (zb 7) ze))) ze)))
def Zd:AJ:=(Xt (zn (zg gIx (zb 0) (aK (.str "lapses")))) (.tp [(.nm 3),(.nm 6),(.nm 7)]) qS)
def jG:AK:=(aLc [8] (zn (zb 1)) (.nm 8) yX (zC "str" Ys (aK (.str " ")) (za (zb 8) ze)))
def YI:AJ:=(zH (zC "str" Ys (aK (.str "\n")) (za jG ze)))
def ZI:AJ:=(zt j9
 (zt j_
 (zt Za
 (zt Zb
 (zt Zd
 YI)))))
def qA:AK:=zJ 1 8 ZI
def rj:AJ:=(vy "BadText" "line" (za (aK .non) ze))
def vQ:AJ:=(sIf (zz (aT (zh yc (za (zb 0) (za (aK (.ty "str")) ze))))) rj sNx)
def vP:AK:=(aLc [1] (zn (zC "str" ZN (zb 0) (za (aK c_FEED) ze))) (.nm 1) yX (zC "str" ZN (zb 1) (za (aK c_BLANK) ze)))
def vR:AJ:=(zH vP)
def Ue:AJ:=(zt vQ
 vR)
def jv:AK:=zJ 1 1 Ue
def JZ:AK:=(aLc [2] (zn (zb 0)) (.nm 2) yX (aFn qg (za (zb 2) ze)))
def vT:AJ:=(zH (aIf (zF (aT (zg gGe (zh xT (za (zb 0) ze)) (zb 1))) (aT (zh YW (za JZ ze)))) (zh yH (za (zb 0) ze)) (aK .non)))
def Ug:AJ:=vT
def qk:AK:=zJ 2 1 Ug
def Jz:AJ:=(zp 1 (aFn qk (za (zb 0) (za (aK c_PAIR_reading) ze))))
def JA:AJ:=(zH (aIf (aT (zg gIs (zb 1) (aK .non))) (aK .non) (zV (za (zg gIx (zb 1) (aK (.int 0))) (za (zg gIx (zb 1) (aK (.int 1))) (za (zj (zb 1) (zw (aK (.int 2))) zm) ze))))))
def Xg:AJ:=(zt Jz
 JA)
def jw:AK:=zJ 1 1 Xg
def VX:AK:=(aLc [2] (zn (zb 0)) (.nm 2) yX (zh yH (za (zC "str" ZN (zb 2) (za (aK c_IS) ze)) ze)))
def Qh:AJ:=(zp 1 VX)
def jO:AK:=(aLc [3] (zn (zb 1)) (.nm 3) yX (zB (zg gEq (zh xT (za (zb 3) ze)) (aK c_PAIR_reading)) (zg yj (aFn qk (za (zb 3) (za (aK c_PAIR_reading) ze))) (aK .non))))
def VY:AJ:=(zH (aIf (aT (zh YW (za jO ze))) (zh yH (za (zb 1) ze)) (aK .non)))
def Q2:AJ:=(zt Qh
 VY)
def xY:AK:=zJ 1 3 Q2
def JC:AJ:=(zH (aK .non))
def qo:AJ:=(sIf (zW (aT (zg gNe (zh xT (za (zb 0) ze)) (aK c_PAIR_reading))) (aT (zg wQ (zg gIx (zb 0) (aK (.int 0))) (zG ze)))) JC sNx)
def jk:AJ:=(zp 1 (zV (za (zg gIx (zg gIx (zb 0) (aK (.int 0))) (aK (.int 0))) (za (aFn xY (za (zj (zg gIx (zb 0) (aK (.int 0))) (zw (aK (.int 1))) zm) ze)) (za (aFn xY (za (zg gIx (zb 0) (aK (.int 1))) ze)) ze)))))
def Z2:AJ:=(zH (aIf (zF (aT (aFn qg (za (zg gIx (zb 1) (aK (.int 0))) ze))) (aT (zg oA (aK .non) (zb 1)))) (zb 1) (aK .non)))
def xI:AJ:=(zt qo
 (zt jk
 Z2))
def xj:AK:=zJ 1 1 xI
def vU:AJ:=(zp 1 (Z0 (zG (za (Z0 (zG ze)) ze))))
def vW:AJ:=(zy (UJ "list" qc (Yo (zb 1)) (za (Z0 (zG ze)) ze)))
def vX:AJ:=(zy (UJ "list" qc (Yo (zg gIx (Yo (zb 1)) (LV t6 (aK (.int 1))))) (za (zb 2) ze)))
def XQ:AJ:=(sIf (aT (zg gEq (zb 2) (aK c_COLON))) vW vX)
def vV:AJ:=(Xt (zn (zb 0)) (.nm 2) XQ)
def vY:AJ:=(zH (c9 (Yo (zb 1))))
def Uh:AJ:=(zt vU
 (zt vV
 vY))
def vS:AK:=vv 1 2 Uh
def Jb:AK:=gK vS
def Vm:AJ:=(z9 [1,2] (za (zg gIx (zb 0) (aK (.int 0))) (za (zj (zb 0) (zw (aK (.int 1))) zm) ze)))
def uo:AJ:=(zH (aFn qk (za (zb 2) (za (aK (.int 0)) ze))))
def XU:AJ:=(sIf (aT (zg gEq (zb 1) (zg gIx (aK c_KINDS) (aK (.int 0))))) uo sNx)
def uq:AJ:=(zH (aFn jw (za (zb 2) ze)))
def XW:AJ:=(sIf (aT (zg gEq (zb 1) (zg gIx (aK c_KINDS) (aK (.int 1))))) uq sNx)
def ur:AJ:=(zH (aFn xY (za (zb 2) ze)))
def XX:AJ:=(sIf (aT (zg gIn (zb 1) (aK c_PATTERN_KINDS))) ur sNx)
def ut:AJ:=(zH (aIf (aT (zg gIn (zb 1) (aK c_KINDS))) (aFn xj (za (aFn Jb (za (zb 2) ze)) ze)) (aK .non)))
def Ui:AJ:=(zt Vm
 (zt XU
 (zt XW
 (zt XX
 ut))))
def Yb:AK:=zJ 1 2 Ui
def UO:AJ:=(zH (zB (zg gIs (zb 1) (aK .non)) (zg gEq (zb 0) (zg gIx (aK c_KINDS) (aK (.int 0))))))
def Q5:AJ:=(sIf (zW (aT (zg gIs (zb 1) (aK .non))) (aT (zg gEq (zb 0) (zg gIx (aK c_KINDS) (aK (.int 0)))))) UO sNx)
def UP:AJ:=(zH (zg gLe (Yf vN (aK c_KINDS) (za (zb 1) ze)) (Yf vN (aK c_KINDS) (za (zb 0) ze))))
def JN:AJ:=(zt Q5
 UP)
def ju:AK:=zJ 2 0 JN
def Qi:AK:=(aDc [3] (zn (aK c_KINDS)) (.nm 3) yX (zb 3) (Z0 (zG ze)))
def Qj:AJ:=(z9 [1,2] (za Qi (za (aK .non) ze)))
def Ym:AJ:=(zp 6 (aFn Yb (za (zb 5) ze)))
def VZ:AJ:=(vy "BadText" "line" (za (zb 4) ze))
def qE:AJ:=(sIf (zW (aT (zg gIs (zb 6) (aK .non))) (zz (aT (aFn ju (za (zg gIx (zb 5) (aK (.int 0))) (za (zb 2) ze)))))) VZ sNx)
def jh:AJ:=(zp 2 (zg gIx (zb 5) (aK (.int 0))))
def ji:AJ:=(zy (UJ "list" qc (Yo (zg gIx (Yo (zb 1)) (zb 2))) (za (zb 6) ze)))
def jP:AJ:=(Xt (QQ (za (aFn jv (za (zb 0) ze)) ze)) (.tp [(.nm 4),(.nm 5)]) (zt Ym
 (zt qE
 (zt jh
 ji))))
def ZU:AK:=(aLc [3] (zn (zj (aK c_KINDS) (zw (aK (.int 1))) zm)) (.nm 3) yX (zh yH (za (Yo (zg gIx (Yo (zb 1)) (zb 3))) ze)))
def xG:AJ:=(sTg (.tp [(.nm 7),(.nm 8),(.nm 9),(.nm 10)]) ZU)
def xO:AJ:=(zH (eF (eH "World" yp (za (zg gIx (Yo (zg gIx (Yo (zb 1)) (aK (.str "houses")))) (aK (.int 0))) (za (zb 7) (za (zb 8) (za (zb 9) (za (zb 10) ze))))))))
def UN:AJ:=(zt Qj
 (zt jP
 (zt xG
 xO)))
def Qg:AK:=vv 1 10 UN
def xh:AK:=gK Qg
end
end L2.AL.WS.R
namespace L2.AL.WS.R.K09
open PySem PySem.Spec PyProof.Rows L2 L2.AL L2.AL.SH L2.AL.WS
noncomputable section
def QP:AJ:=(zH (JG (eF (eH "World" yp (za (zg gIx (zb 0) (aK (.str "houses"))) (za (zg gIx (zb 0) (aK (.str "slots"))) (za (zg gIx (zb 0) (aK (.str "bears"))) (za (zg gIx (zb 0) (aK (.str "never"))) (za (zg gIx (zb 0) (aK (.str "lapses"))) ze)))))))))
def mj:AJ:=QP
def Yu:AK:=zJ 1 0 mj
def Yc:AK:=(aLc [1,2] (zn (zb 0)) (.tp [(.nm 1),(.nm 2)]) yX (zg yP (zg yP (zb 1) (aK c_IS)) (zb 2)))
def QG:AJ:=(zH Yc)
def YB:AJ:=QG
def yD:AK:=zJ 1 2 YB
def uv:AJ:=(zH (zg gIx (Y9 "World" "own_parts" (zb 0)) (aK (.int 4))))
def u5:AJ:=uv
def yN:AK:=zJ 1 0 u5
def JU:AJ:=(sTg (.tp [(.nm 1),(.nm 2),(.nm 3)]) (zb 0))
def JV:AJ:=(zH (zG (za (zb 1) (zD (aFn yD (za (zb 2) ze)) (za (aK c_COLON) (zD (aFn yD (za (zb 3) ze)) ze))))))
def Qb:AJ:=(zt JU
 JV)
def jN:AK:=zJ 1 3 Qb
def Uw:AK:=(aLc [1] (zn (zb 0)) (.nm 1) yX (zh OW (za (zb 1) ze)))
def w_:AJ:=(zH (zC "str" Ys (aK c_BLANK) (za Uw ze)))
def kJ:AJ:=w_
def QB:AK:=zJ 1 1 kJ
def Qo:AJ:=(zp 1 (zG (za (zG (za (aK (.str "houses")) (zD (xl "World" yM (zb 0)) ze))) ze)))
def Qk:AK:=(aLc [2,3,4] (zn (xl "World" yB (zb 0))) (.tp [(.nm 2),(.nm 3),(.nm 4)]) yX (zG (za (aK (.str "slot")) (za (zb 2) (za (zb 3) (zD (zb 4) ze))))))
def Qp:AJ:=(zy (Y_ "list" 1 jn (za Qk ze)))
def Ql:AK:=(aLc [5] (zn (xl "World" yQ (zb 0))) (.nm 5) yX (zG (za (aK (.str "bears")) (zD (aFn yD (za (zb 5) ze)) ze))))
def Qq:AJ:=(zy (Y_ "list" 1 jn (za Ql ze)))
def Qm:AK:=(aLc [5] (zn (xl "World" yR (zb 0))) (.nm 5) yX (zG (za (aK (.str "never")) (zD (aFn yD (za (zb 5) ze)) ze))))
def Qr:AJ:=(zy (Y_ "list" 1 jn (za Qm ze)))
def Qn:AK:=(aLc [6] (zn (xl "World" yN (zb 0))) (.nm 6) yX (zG (za (aK (.str "lapse")) (zD (aFn jN (za (zb 6) ze)) ze))))
def Qs:AJ:=(zy (Y_ "list" 1 jn (za Qn ze)))
def Xv:AK:=(aLc [7] (zn (zb 1)) (.nm 7) yX (aFn QB (za (zb 7) ze)))
def Vf:AJ:=(zH (zC "str" Ys (aK c_FEED) (za Xv ze)))
def Q4:AJ:=(zt Qo
 (zt Qp
 (zt Qq
 (zt Qr
 (zt Qs
 Vf)))))
def xZ:AK:=zJ 1 7 Q4
def Ji:AJ:=(zH (zB (zh (Mq "World") (za (zb 1) (za (aK (.fn "World")) ze))) (zg gEq (Y9 "World" "own_parts" (zb 0)) (Y9 "World" "own_parts" (zb 1)))))
def Xd:AJ:=Ji
def yZ:AK:=zJ 2 0 Xd
def VN:AJ:=(zH (zh wV (za (zG (za (xl "World" yM (zb 0)) (za (xl "World" yB (zb 0)) (za (xl "World" yQ (zb 0)) (za (xl "World" yR (zb 0)) (za (xl "World" yN (zb 0)) ze)))))) ze)))
def QZ:AJ:=VN
def qz:AK:=zJ 1 0 QZ
def uw:AJ:=(zH (Y9 "World" "own_stands" (zb 0)))
def u6:AJ:=uw
def yO:AK:=zJ 1 0 u6
def JD:AJ:=(zH (aFn Zj (za (xl "World" yB (zb 0)) ze)))
def Qa:AJ:=JD
def y9:AK:=zJ 1 0 Qa
def XZ:AJ:=(zp 1 (aFn qf (za (zb 0) ze)))
def X0:AJ:=(z9 [2,3] (za (aFn Yu (za (zb 1) ze)) (za (aFn qA (za (zb 1) ze)) ze)))
def fE:AJ:=(zH (aK (.bl false)))
def X5:AJ:=(sIf (zW (aT (zg gNe (aFn xZ (za (zb 2) ze)) (zb 3))) (aT (zg gNe (aFn xZ (za (zb 2) ze)) (zb 3)))) fE sNx)
def X6:AJ:=(zp 4 (JG (aFn xh (za (zb 3) ze))))
def fF:AJ:=(zH (aK (.bl false)))
def X7:AJ:=(sIf (zW (aT (lS "World" true yZ (zb 4) (zb 2))) (zW (aT (zg gNe (aFn qz (za (zb 4) ze)) (aFn qz (za (zb 2) ze)))) (aT (lS "World" true yZ (JG (aFn xh (za (zb 3) ze))) (zb 4))))) fF sNx)
def X8:AJ:=(zH (zB (zg gEq (aFn xZ (za (zb 4) ze)) (zb 3)) (zB (zg gEq (xl "World" y9 (zb 4)) (xl "World" y9 (zb 2))) (zg gEq (xl "World" yO (zb 4)) (xl "World" yO (zb 2))))))
def Q0:AJ:=(zt XZ
 (zt X0
 (zt X5
 (zt X6
 (zt X7
 X8)))))
def jA:AK:=zJ 1 4 Q0
def Pc:AJ:=(zp 2 (aFn Zi (za (zb 0) (za (zb 1) ze))))
def Pa:AK:=(aLc [3] (qG (za (aK (.int 3)) ze)) (.nm 3) yX (aFn jA (za (zb 2) ze)))
def Pf:AJ:=(zH (aK (.bl false)))
def Pe:AJ:=(sIf (zz (aT (zh YW (za Pa ze)))) Pf sNx)
def Pb:AJ:=(Xt (qG (za (zh (VJ oz dR) (za (aK (.int 1)) (za (zh (VJ pS wU) (za (aK (.int 4)) (za (zh xT (za (zb 0) ze)) ze))) ze))) ze)) (.nm 1) (zt Pc
 Pe))
def Pg:AJ:=(zH (aK (.bl true)))
def Ro:AJ:=(zt Pb
 Pg)
def KA:AK:=zJ 1 3 Ro
end
structure Tops (K:PySem.W.Frag) (mg:Str→Option Value) (w:World):Prop where
 z_abs:mg "abs"=none
 z_all:mg "all"=none
 z_any:mg "any"=none
 z_enumerate:mg "enumerate"=none
 z_int:mg "int"=none
 z_isinstance:mg "isinstance"=none
 z_len:mg "len"=none
 z_list:mg "list"=none
 z_max:mg "max"=none
 z_min:mg "min"=none
 z_range:mg "range"=none
 z_repr:mg "repr"=none
 z_set:mg "set"=none
 z_sorted:mg "sorted"=none
 z_str:mg "str"=none
 z_tuple:mg "tuple"=none
 z_zip:mg "zip"=none
 c_BLANK:GC ⟨K,mg,w⟩ "BLANK" c_BLANK
 c_COLON:GC ⟨K,mg,w⟩ "COLON" c_COLON
 c_FEED:GC ⟨K,mg,w⟩ "FEED" c_FEED
 c_IS:GC ⟨K,mg,w⟩ "IS" c_IS
 c_KINDS:GC ⟨K,mg,w⟩ "KINDS" c_KINDS
 c_LEAST_WORDS:GC ⟨K,mg,w⟩ "LEAST_WORDS" c_LEAST_WORDS
 c_LETTERS:GC ⟨K,mg,w⟩ "LETTERS" c_LETTERS
 c_LONGEST_NAME:GC ⟨K,mg,w⟩ "LONGEST_NAME" c_LONGEST_NAME
 c_MOST_HOUSES:GC ⟨K,mg,w⟩ "MOST_HOUSES" c_MOST_HOUSES
 c_MOST_LAPSES:GC ⟨K,mg,w⟩ "MOST_LAPSES" c_MOST_LAPSES
 c_MOST_SLOTS:GC ⟨K,mg,w⟩ "MOST_SLOTS" c_MOST_SLOTS
 c_MOST_STANDS:GC ⟨K,mg,w⟩ "MOST_STANDS" c_MOST_STANDS
 c_MOST_WORDS:GC ⟨K,mg,w⟩ "MOST_WORDS" c_MOST_WORDS
 c_PAIR_reading:GC ⟨K,mg,w⟩ "PAIR_reading" c_PAIR_reading
 c_PAIR_worlds:GC ⟨K,mg,w⟩ "PAIR_worlds" Uk
 c_PATTERN_KINDS:GC ⟨K,mg,w⟩ "PATTERN_KINDS" c_PATTERN_KINDS
 c_TRIPLE:GC ⟨K,mg,w⟩ "TRIPLE" c_TRIPLE
 k_World:h_ K mg "World" ["own_places","own_parts","own_stands"]
 i_World:IsC K mg "World"
abbrev D_0 (P:Program) (w:World) (K:PySem.W.Frag) (mg:Str→Option Value) (base:Heap):Prop:=DefOk P w K mg base "_law_jar" ["_law_script","_law_k"] 1 Zi
abbrev D_1 (P:Program) (w:World) (K:PySem.W.Frag) (mg:Str→Option Value) (base:Heap):Prop:=DefOk P w K mg base "_law_take" ["_law_jar_here","_law_many"] 1 zZ
abbrev D_2 (P:Program) (w:World) (K:PySem.W.Frag) (mg:Str→Option Value) (base:Heap):Prop:=DefOk P w K mg base "_law_of" ["_law_jar_here","_law_some"] 2 yJ
abbrev D_3 (P:Program) (w:World) (K:PySem.W.Frag) (mg:Str→Option Value) (base:Heap):Prop:=DefOk P w K mg base "_law_names" ["_law_jar_here","_law_many"] 3 jz
abbrev D_4 (P:Program) (w:World) (K:PySem.W.Frag) (mg:Str→Option Value) (base:Heap):Prop:=DefOk P w K mg base "_law_crossed" ["_law_jar_here","_law_slots"] 3 xJ
abbrev D_5 (P:Program) (w:World) (K:PySem.W.Frag) (mg:Str→Option Value) (base:Heap):Prop:=DefOk P w K mg base "_law_lapses" ["_law_jar_here","_law_slots"] 3 jM
abbrev D_6 (P:Program) (w:World) (K:PySem.W.Frag) (mg:Str→Option Value) (base:Heap):Prop:=DefOk P w K mg base "_law_any_world" ["_law_jar_here"] 4 qf
abbrev D_7 (P:Program) (w:World) (K:PySem.W.Frag) (mg:Str→Option Value) (base:Heap):Prop:=DefOk P w K mg base "is_word" ["value","words"] 1 qh
abbrev D_8 (P:Program) (w:World) (K:PySem.W.Frag) (mg:Str→Option Value) (base:Heap):Prop:=DefOk P w K mg base "is_tuple" ["value","least","most"] 1 yT
abbrev D_9 (P:Program) (w:World) (K:PySem.W.Frag) (mg:Str→Option Value) (base:Heap):Prop:=DefOk P w K mg base "slots_at" ["slots","house"] 1 Ya
abbrev Ob (P:Program) (w:World) (K:PySem.W.Frag) (mg:Str→Option Value) (base:Heap):Prop:=DefOk P w K mg base "is_part" ["slots","value"] 2 qN
abbrev lP (P:Program) (w:World) (K:PySem.W.Frag) (mg:Str→Option Value) (base:Heap):Prop:=DefOk P w K mg base "is_ascending" ["items"] 1 yw
abbrev iN (P:Program) (w:World) (K:PySem.W.Frag) (mg:Str→Option Value) (base:Heap):Prop:=DefOk P w K mg base "is_pattern_of" ["slots","value"] 3 yu
abbrev Oc (P:Program) (w:World) (K:PySem.W.Frag) (mg:Str→Option Value) (base:Heap):Prop:=DefOk P w K mg base "is_lapse" ["houses","slots","value"] 4 qW
abbrev Od (P:Program) (w:World) (K:PySem.W.Frag) (mg:Str→Option Value) (base:Heap):Prop:=DefOk P w K mg base "are_lapses" ["houses","slots","value"] 5 xX
abbrev bH (P:Program) (w:World) (K:PySem.W.Frag) (mg:Str→Option Value) (base:Heap):Prop:=DefOk P w K mg base "is_name" ["value"] 1 qg
abbrev iO (P:Program) (w:World) (K:PySem.W.Frag) (mg:Str→Option Value) (base:Heap):Prop:=DefOk P w K mg base "are_different" ["items"] 1 y_
abbrev iP (P:Program) (w:World) (K:PySem.W.Frag) (mg:Str→Option Value) (base:Heap):Prop:=DefOk P w K mg base "are_names" ["value","least","most"] 2 xK
abbrev Oe (P:Program) (w:World) (K:PySem.W.Frag) (mg:Str→Option Value) (base:Heap):Prop:=DefOk P w K mg base "is_slot" ["houses","value"] 3 jf
abbrev Of (P:Program) (w:World) (K:PySem.W.Frag) (mg:Str→Option Value) (base:Heap):Prop:=DefOk P w K mg base "are_slots" ["houses","value"] 4 xL
abbrev Og (P:Program) (w:World) (K:PySem.W.Frag) (mg:Str→Option Value) (base:Heap):Prop:=DefOk P w K mg base "are_houses" ["value"] 3 xF
abbrev Oh (P:Program) (w:World) (K:PySem.W.Frag) (mg:Str→Option Value) (base:Heap):Prop:=DefOk P w K mg base "are_patterns" ["slots","value"] 4 xo
abbrev Oi (P:Program) (w:World) (K:PySem.W.Frag) (mg:Str→Option Value) (base:Heap):Prop:=DefOk P w K mg base "are_parts" ["houses","slots","bears","never","lapses"] 6 xg
abbrev Oj (P:Program) (w:World) (K:PySem.W.Frag) (mg:Str→Option Value) (base:Heap):Prop:=DefOk P w K mg base "places_of" ["slots"] 1 Zr
abbrev Ol (P:Program) (w:World) (K:PySem.W.Frag) (mg:Str→Option Value) (base:Heap):Prop:=DefOk P w K mg base "agrees" ["places","pattern","stand"] 1 QA
abbrev Om (P:Program) (w:World) (K:PySem.W.Frag) (mg:Str→Option Value) (base:Heap):Prop:=DefOk P w K mg base "some_agrees" ["places","patterns","stand"] 2 jg
abbrev iQ (P:Program) (w:World) (K:PySem.W.Frag) (mg:Str→Option Value) (base:Heap):Prop:=DefOk P w K mg base "first_of" ["slots"] 1 Zj
abbrev On (P:Program) (w:World) (K:PySem.W.Frag) (mg:Str→Option Value) (base:Heap):Prop:=DefOk P w K mg base "all_stands" ["slots"] 1 ZS
abbrev Oo (P:Program) (w:World) (K:PySem.W.Frag) (mg:Str→Option Value) (base:Heap):Prop:=DefOk P w K mg base "_law_made" ["_law_lore"] 9 Yu
abbrev Oq (P:Program) (w:World) (K:PySem.W.Frag) (mg:Str→Option Value) (base:Heap):Prop:=DefOk P w K mg base "_law_pairs" ["_law_pattern"] 1 xn
abbrev Ot (P:Program) (w:World) (K:PySem.W.Frag) (mg:Str→Option Value) (base:Heap):Prop:=DefOk P w K mg base "_law_world_page" ["_law_lore"] 2 qA
abbrev iR (P:Program) (w:World) (K:PySem.W.Frag) (mg:Str→Option Value) (base:Heap):Prop:=DefOk P w K mg base "pattern_words" ["pattern"] 1 yD
abbrev Ou (P:Program) (w:World) (K:PySem.W.Frag) (mg:Str→Option Value) (base:Heap):Prop:=DefOk P w K mg base "lapse_words" ["lapse"] 2 jN
abbrev Ov (P:Program) (w:World) (K:PySem.W.Frag) (mg:Str→Option Value) (base:Heap):Prop:=DefOk P w K mg base "line_of" ["words"] 1 QB
abbrev Ow (P:Program) (w:World) (K:PySem.W.Frag) (mg:Str→Option Value) (base:Heap):Prop:=DefOk P w K mg base "show_world" ["world"] 3 xZ
abbrev lQ (P:Program) (w:World) (K:PySem.W.Frag) (mg:Str→Option Value) (base:Heap):Prop:=DefOk P w K mg base "names_in" ["words","least"] 2 qk
abbrev Ox (P:Program) (w:World) (K:PySem.W.Frag) (mg:Str→Option Value) (base:Heap):Prop:=DefOk P w K mg base "two_and_more" ["words"] 3 jw
abbrev iS (P:Program) (w:World) (K:PySem.W.Frag) (mg:Str→Option Value) (base:Heap):Prop:=DefOk P w K mg base "pattern_in" ["words"] 3 xY
abbrev Oy (P:Program) (w:World) (K:PySem.W.Frag) (mg:Str→Option Value) (base:Heap):Prop:=DefOk P w K mg base "house_and_patterns" ["parts"] 4 xj
abbrev Oz (P:Program) (w:World) (K:PySem.W.Frag) (mg:Str→Option Value) (base:Heap):Prop:=DefOk P w K mg base "parts_of" ["words"] 1 Jb
abbrev OA (P:Program) (w:World) (K:PySem.W.Frag) (mg:Str→Option Value) (base:Heap):Prop:=DefOk P w K mg base "thing_in" ["words"] 5 Yb
abbrev OB (P:Program) (w:World) (K:PySem.W.Frag) (mg:Str→Option Value) (base:Heap):Prop:=DefOk P w K mg base "can_stand" ["kind","last"] 1 ju
abbrev OC (P:Program) (w:World) (K:PySem.W.Frag) (mg:Str→Option Value) (base:Heap):Prop:=DefOk P w K mg base "_law_parts" ["_law_home"] 3 qz
abbrev Rc (P:Program) (w:World) (K:PySem.W.Frag) (mg:Str→Option Value) (base:Heap):Prop:=DefOk P w K mg base "_law_right" ["_law_jar_here"] 10 jA
local macro_rules|`(tactic|trivial) => `(tactic|exact Or.inr rfl)
local macro_rules|`(tactic|trivial) => `(tactic|exact Or.inl rfl)
section
variable {P:Program} {w:World} {K:PySem.W.Frag} {mg:Str→Option Value} {base:Heap}
theorem v_:FnScope ["_law_script","_law_k","_law_cell","_law_mine"] ["_law_script","_law_k"] (defScope (top 65)):=⟨rfl,rfl,rfl,by decide+kernel,rfl,by decide+kernel,by decide+kernel⟩
theorem mE (T:Tops K mg w) {a:Addr} {fd:FuncData} (F:Fun K "_law_jar" "_law_jar" (top 65) a fd):FnG P w K mg base CX0 1 a fd ["_law_script","_law_k"] Zi:=by
 refine FnG.ofN F v_ 2 2 rfl rfl ?_
 intro cd A up s0 H Ex hg hr
 have sc:=v_
 have r:Rm _ 0:=⟨hg,hr⟩
 exact(zP (xE (i:=2) sc.nd rfl (dA (xH op_ltA nf (zf 1 rfl) (yt qK ZR T.z_len PySem.boot_len (zd (zf 0 rfl) zi))) (yL (zR r.u) zS (zf 0 rfl) (zf 1 rfl)) (yE yW yV (yE op_mulW jB zI (zf 1 rfl)) zI)))
  (zP (xE (i:=3) sc.nd rfl (yE op_mulW jB (yE op_mod Yk (yU qJ ZP T.z_int Bp (zd (yt call_abs sx T.z_abs PyProof.Rows.boot_abs (zd (zf 2 rfl) zi)) zi)) (yE uM uP (yE uM uP zI zI) zI)) (yU qJ ZP T.z_int Bp (zd (ZF op_ge t_ (yt call_abs sx T.z_abs PyProof.Rows.boot_abs (zd (zf 2 rfl) zi)) (yE uM uP zI zI)) zi))))
  (ye (yq (qq (zd (zf 3 rfl) (zd (yE op_mod Yk (yU qJ ZP T.z_int Bp (zd (yE yW yV (yE yW yV (yE op_mulW jB (yE op_mod Yk (yU qJ ZP T.z_int Bp (zd (zf 2 rfl) zi)) zI) zI) (yE op_mulW jB (yE op_mulW jB zI (zf 1 rfl)) (zf 1 rfl))) zI) zi)) zI) (zd zI zi))))))))
theorem nS (T:Tops K mg w) {a:Addr} {fd:FuncData} (F:Fun K "_law_jar" "_law_jar" (top 65) a fd) (hm:mg "_law_jar"=some (.ref a)):D_0 P w K mg base:=
 ⟨⟨a,fd,hm,F.kp,F.binds fun _ _ _ _ _ _ us hl=>(match us,hl with|[_,_],_=>rfl),yA F fun _ _ _ _ _ _ us hl=>(match us,hl with|[_,_],_=>rfl),mE T F⟩,zT⟩
theorem ki:FnScope ["_law_jar_here","_law_many","_law_digit","_law_prime","_law_made_here"] ["_law_jar_here","_law_many"] (defScope (top 66)):=⟨rfl,rfl,rfl,by decide+kernel,rfl,by decide+kernel,by decide+kernel⟩
theorem bV (T:Tops K mg w) {a:Addr} {fd:FuncData} (F:Fun K "_law_take" "_law_take" (top 66) a fd):FnG P w K mg base CX0 1 a fd ["_law_jar_here","_law_many"] zZ:=by
 refine FnG.ofN F ki 2 3 rfl rfl ?_
 intro cd A up s0 H Ex hg hr
 have sc:=ki
 have r:Rm _ 0:=⟨hg,hr⟩
 exact(zP (YH (xH op_gt OY (yL (zR r.u) zS (zf 0 rfl) zI) zI) (zP (xE (i:=2) sc.nd rfl (yE op_mod Yk (yU qJ ZP T.z_int Bp (zd (yL (zR r.u) zS (zf 0 rfl) zI) zi)) (zf 1 rfl)))
  (zP (Lo (i:=0) r.u rfl zI (yE op_fdivW sO (yL (zR r.u) zS (zf 0 rfl) zI) (zf 1 rfl)))
  (ye (yq (zf 2 rfl))))) jm)
  (zP (Lo (i:=0) r.u rfl zI (yE yW yV (yL (zR r.u) zS (zf 0 rfl) zI) zI))
  (zP (xE (i:=3) sc.nd rfl (yL (zR r.u) zS (qq (zd zI (zd zI (zd zI (zd zI (zd zI zi)))))) (yE op_mod Yk (yU qJ ZP T.z_int Bp (zd (yL (zR r.u) zS (zf 0 rfl) zI) zi)) zI)))
  (zP (xE (i:=4) sc.nd rfl (yE op_mod Yk (yU qJ ZP T.z_int Bp (zd (yE uM uP (yE yW yV (yE yW yV (yL (zR r.u) zS (zf 0 rfl) zI) (yE op_mulW jB (yE op_mulW jB zI (yL (zR r.u) zS (zf 0 rfl) zI)) (yL (zR r.u) zS (zf 0 rfl) zI))) zI) zI) zi)) (zf 3 rfl)))
  (zP (xE (i:=4) sc.nd rfl (yE op_mod Yk (yU qJ ZP T.z_int Bp (zd (yE op_mulW jB (zf 4 rfl) (yE yW yV (yE op_mod Yk (yU qJ ZP T.z_int Bp (zd (zf 4 rfl) zi)) zI) (yE op_mulW jB zI (yL (zR r.u) zS (zf 0 rfl) zI)))) zi)) zI))
  (ye (yq (yE op_mod Yk (yU qJ ZP T.z_int Bp (zd (yE op_fdivW sO (zf 4 rfl) zI) zi)) (zf 1 rfl)))))))))
theorem lE (T:Tops K mg w) {a:Addr} {fd:FuncData} (F:Fun K "_law_take" "_law_take" (top 66) a fd) (hm:mg "_law_take"=some (.ref a)):D_1 P w K mg base:=
 ⟨⟨a,fd,hm,F.kp,F.binds fun _ _ _ _ _ _ us hl=>(match us,hl with|[_,_],_=>rfl),yA F fun _ _ _ _ _ _ us hl=>(match us,hl with|[_,_],_=>rfl),bV T F⟩,zT⟩
theorem gN:FnScope ["_law_jar_here","_law_some"] ["_law_jar_here","_law_some"] (defScope (top 67)):=⟨rfl,rfl,rfl,by decide+kernel,rfl,by decide+kernel,by decide+kernel⟩
theorem pI (T:Tops K mg w) (U:D_1 P w K mg base) {a:Addr} {fd:FuncData} (F:Fun K "_law_of" "_law_of" (top 67) a fd):FnG P w K mg base CX0 2 a fd ["_law_jar_here","_law_some"] yJ:=by
 refine FnG.ofN F gN 2 0 rfl rfl ?_
 intro cd A up s0 H Ex hg hr
 have sc:=gN
 have r:Rm _ 1:=⟨hg,hr⟩
 exact(ye (yq (yL (zR r.u) zS (zf 1 rfl) (yy U r (by omega) (zd (zf 0 rfl) (zd (yt qK ZR T.z_len PySem.boot_len (zd (zf 1 rfl) zi)) zi))))))
theorem iE (T:Tops K mg w) (U:D_1 P w K mg base) {a:Addr} {fd:FuncData} (F:Fun K "_law_of" "_law_of" (top 67) a fd) (hm:mg "_law_of"=some (.ref a)):D_2 P w K mg base:=
 ⟨⟨a,fd,hm,F.kp,F.binds fun _ _ _ _ _ _ us hl=>(match us,hl with|[_,_],_=>rfl),yA F fun _ _ _ _ _ _ us hl=>(match us,hl with|[_,_],_=>rfl),pI T U F⟩,zT⟩
theorem V1:FnScope ["_law_jar_here","_law_many","_law_small","_law_stem","_law_turn","_law_spot","_law_first","_law_k"] ["_law_jar_here","_law_many"] (defScope (top 68)):=⟨rfl,rfl,rfl,by decide+kernel,rfl,by decide+kernel,by decide+kernel⟩
theorem fM (T:Tops K mg w) (bb:D_2 P w K mg base) (U:D_1 P w K mg base) {a:Addr} {fd:FuncData} (F:Fun K "_law_names" "_law_names" (top 68) a fd):FnG P w K mg base CX0 3 a fd ["_law_jar_here","_law_many"] jz:=by
 refine FnG.ofN F V1 2 6 rfl rfl ?_
 intro cd A up s0 H Ex hg hr
 have sc:=V1
 have r:Rm _ 2:=⟨hg,hr⟩
 exact(zP (xE (i:=2) sc.nd rfl qd)
  (zP (xE (i:=3) sc.nd rfl (JH (by decide) BA PySem.F.slot_str_join PySem.F.type_str_join mt_join JS qd (zd (ja (own:=[("_law_turn",4)]) (vs:=[4]) rfl sc.nd (blkOk_by (by rfl)) rfl (yF (by rfl)) (Us rfl T.z_range (zd (yy bb r (by omega) (zd (zf 0 rfl) (zd (qq (zd zI (zd zI (zd zI (zd zI (zd zI zi)))))) zi))) zi)) (fun _ _ _ _ _=>(yI sc.nd rfl (by trivial))) (fun _ _ _ _ _=>xm) (fun _ _ _ _ _=>(yy bb r (by omega) (zd (zf 0 rfl) (zd (zf 2 rfl) zi))))) zi)))
  (zP (nK (is:=[5,6]) rfl (pgs_cons (pg_name (i:=5) sc.nd rfl (by trivial)) (pgs_cons (pg_name (i:=6) sc.nd rfl (by trivial)) pgs_nil)) (zd (yy U r (by omega) (zd (zf 0 rfl) (zd (yE yW yV (yt qK ZR T.z_len PySem.boot_len (zd (zf 3 rfl) zi)) zI) zi))) (zd (yy U r (by omega) (zd (zf 0 rfl) (zd zI zi))) zi)) (by decide))
  (ye (yq (ja (own:=[("_law_k",7)]) (vs:=[7]) rfl sc.nd (blkOk_by (by rfl)) rfl (yF (by rfl)) (Us rfl T.z_range (zd (zf 1 rfl) zi)) (fun _ _ _ _ _=>(yI sc.nd rfl (by trivial))) (fun _ _ _ _ _=>xm) (fun _ _ _ _ _=>(yE yW yV (yE yW yV (ZG (zf 3 rfl) YN (Z4 (zf 5 rfl))) (yL (zR r.u) zS (zf 2 rfl) (yE op_mod Yk (yU qJ ZP T.z_int Bp (zd (yE yW yV (zf 6 rfl) (yE op_mulW jB zI (zf 7 rfl))) zi)) zI))) (ZG (zf 3 rfl) (Z4 (zf 5 rfl)) YN)))))))))
theorem cQ (T:Tops K mg w) (bb:D_2 P w K mg base) (U:D_1 P w K mg base) {a:Addr} {fd:FuncData} (F:Fun K "_law_names" "_law_names" (top 68) a fd) (hm:mg "_law_names"=some (.ref a)):D_3 P w K mg base:=
 ⟨⟨a,fd,hm,F.kp,F.binds fun _ _ _ _ _ _ us hl=>(match us,hl with|[_,_],_=>rfl),yA F fun _ _ _ _ _ _ us hl=>(match us,hl with|[_,_],_=>rfl),fM T bb U F⟩,zT⟩
theorem Jv:FnScope ["_law_jar_here","_law_slots","_law_at","_law_found","_law_number","_law_name","_law_house","_law_words"] ["_law_jar_here","_law_slots"] (defScope (top 69)):=⟨rfl,rfl,rfl,by decide+kernel,rfl,by decide+kernel,by decide+kernel⟩
theorem uC (T:Tops K mg w) (U:D_1 P w K mg base) (bb:D_2 P w K mg base) {a:Addr} {fd:FuncData} (F:Fun K "_law_crossed" "_law_crossed" (top 69) a fd):FnG P w K mg base CX0 3 a fd ["_law_jar_here","_law_slots"] xJ:=by
 refine FnG.ofN F Jv 2 6 rfl rfl ?_
 intro cd A up s0 H Ex hg hr
 have sc:=Jv
 have r:Rm _ 2:=⟨hg,hr⟩
 exact(zP (xE (i:=2) sc.nd rfl (yy U r (by omega) (zd (zf 0 rfl) (zd (yt qK ZR T.z_len PySem.boot_len (zd (zf 1 rfl) zi)) zi))))
  (zP (xE (i:=3) sc.nd rfl (qq (zd (Z1 (zd (yL (zR r.u) zS (yL (zR r.u) zS (zf 1 rfl) (zf 2 rfl)) zI) (zd (yy bb r (by omega) (zd (zf 0 rfl) (zd (ZG (yL (zR r.u) zS (yL (zR r.u) zS (zf 1 rfl) (zf 2 rfl)) zI) (Z4 zI) YN) zi))) zi))) zi)))
  (zP (V0 PassesOwn.never rfl (b_ rfl T.z_enumerate (zd (zf 1 rfl) zi)) (JP rfl (yC (yI sc.nd rfl (by trivial)) (yC (JP rfl (yC (yI sc.nd rfl (by trivial)) (yC (yI sc.nd rfl (by trivial)) (yC (yI sc.nd rfl (by trivial)) Yt)))) Yt))) (ye (YH (PW.pt (lU (xH (gB r.u) gq (zf 4 rfl) (zf 2 rfl)) (lT (xH (jx r.u) js (yy U r (by omega) (zd (zf 0 rfl) (zd zI zi))) zI)))) (ye (Zl (Jn Ba BJ BK mt_append Ze rfl (zd (Z1 (zd (zf 5 rfl) (zd (yy bb r (by omega) (zd (zf 0 rfl) (zd (zf 7 rfl) zi))) zi))) zi)))) jm)) (jZ (by rfl)))
  (ye (yq (yU xw xC T.z_tuple Bb (zd (yt (Q6 rfl r.u) Jg T.z_sorted BW (zd (zf 3 rfl) zi)) zi)))))))
theorem fu (T:Tops K mg w) (U:D_1 P w K mg base) (bb:D_2 P w K mg base) {a:Addr} {fd:FuncData} (F:Fun K "_law_crossed" "_law_crossed" (top 69) a fd) (hm:mg "_law_crossed"=some (.ref a)):D_4 P w K mg base:=
 ⟨⟨a,fd,hm,F.kp,F.binds fun _ _ _ _ _ _ us hl=>(match us,hl with|[_,_],_=>rfl),yA F fun _ _ _ _ _ _ us hl=>(match us,hl with|[_,_],_=>rfl),uC T U bb F⟩,zT⟩
theorem Vc:FnScope ["_law_jar_here","_law_slots","_law_found","_law_turn","_law_house","_law_some","_law_slot","_law_makes","_law_needs"] ["_law_jar_here","_law_slots"] (defScope (top 70)):=⟨rfl,rfl,rfl,by decide+kernel,rfl,by decide+kernel,by decide+kernel⟩
theorem wC (T:Tops K mg w) (U:D_1 P w K mg base) (bb:D_2 P w K mg base) {a:Addr} {fd:FuncData} (F:Fun K "_law_lapses" "_law_lapses" (top 70) a fd):FnG P w K mg base CX0 3 a fd ["_law_jar_here","_law_slots"] jM:=by
 refine FnG.ofN F Vc 2 7 rfl rfl ?_
 intro cd A up s0 H Ex hg hr
 have sc:=Vc
 have r:Rm _ 2:=⟨hg,hr⟩
 exact(zP (xE (i:=2) sc.nd rfl (qq zi))
  (zP (V0 PassesOwn.never rfl (Us rfl T.z_range (zd (yy U r (by omega) (zd (zf 0 rfl) (zd zI zi))) zi)) (yI sc.nd rfl (by trivial)) (zP (xE (i:=4) sc.nd rfl (yL (zR r.u) zS (yy bb r (by omega) (zd (zf 0 rfl) (zd (zf 1 rfl) zi))) zI))
  (zP (xE (i:=5) sc.nd rfl (yt (Q6 rfl r.u) Jg T.z_sorted BW (zd (ja (own:=[("_law_slot",6)]) (vs:=[6]) rfl sc.nd (blkOk_by (by rfl)) rfl (yF (by rfl)) (xi (zf 1 rfl)) (fun _ _ _ _ _=>(yI sc.nd rfl (by trivial))) (fun _ _ _ _ _=>sI (xH (jx r.u) js (yL (zR r.u) zS (zf 6 rfl) zI) (zf 4 rfl))) (fun _ _ _ _ _=>(zf 6 rfl))) zi)))
  (zP (cK (own:=[("_law_slot",6)]) (vs:=[6]) rfl sc.nd rfl (sw_true rfl rfl rfl rfl) (blkOk_by (by rfl)) rfl (yF (by rfl)) (xi (zf 5 rfl)) (fun _ _ _ _ _=>(yI sc.nd rfl (by trivial))) (fun _ _ _ _ _=>sI (xH (jx r.u) js (yy U r (by omega) (zd (zf 0 rfl) (zd zI zi))) zI)) (fun _ _ _ _ _=>(Z1 (zd (yL (zR r.u) zS (zf 6 rfl) zI) (zd (yy bb r (by omega) (zd (zf 0 rfl) (zd (yL (zR r.u) zS (zf 6 rfl) zI) zi))) zi)))))
  (zP (cK (own:=[("_law_slot",6)]) (vs:=[6]) rfl sc.nd rfl (sw_true rfl rfl rfl rfl) (blkOk_by (by rfl)) rfl (yF (by rfl)) (xi (zf 5 rfl)) (fun _ _ _ _ _=>(yI sc.nd rfl (by trivial))) (fun _ _ _ _ _=>sI (xH (jx r.u) js (yy U r (by omega) (zd (zf 0 rfl) (zd zI zi))) zI)) (fun _ _ _ _ _=>(Z1 (zd (yL (zR r.u) zS (zf 6 rfl) zI) (zd (yy bb r (by omega) (zd (zf 0 rfl) (zd (yL (zR r.u) zS (zf 6 rfl) zI) zi))) zi)))))
  (zP (YH (xH (aA r.u) mC (zf 7 rfl) (qq zi)) (ye (xE (i:=7) sc.nd rfl (qq (zd (Z1 (zd (yL (zR r.u) zS (yL (zR r.u) zS (zf 5 rfl) zI) zI) (zd (yy bb r (by omega) (zd (zf 0 rfl) (zd (yL (zR r.u) zS (yL (zR r.u) zS (zf 5 rfl) zI) zI) zi))) zi))) zi)))) jm)
  (ye (Zl (Jn Ba BJ BK mt_append Ze rfl (zd (Z1 (zd (zf 4 rfl) (zd (yU xw xC T.z_tuple Bb (zd (zf 8 rfl) zi)) (zd (yU xw xC T.z_tuple Bb (zd (zf 7 rfl) zi)) zi)))) zi))))))))) (jZ (by rfl)))
  (ye (yq (yU xw xC T.z_tuple Bb (zd (zf 2 rfl) zi))))))
theorem dh (T:Tops K mg w) (U:D_1 P w K mg base) (bb:D_2 P w K mg base) {a:Addr} {fd:FuncData} (F:Fun K "_law_lapses" "_law_lapses" (top 70) a fd) (hm:mg "_law_lapses"=some (.ref a)):D_5 P w K mg base:=
 ⟨⟨a,fd,hm,F.kp,F.binds fun _ _ _ _ _ _ us hl=>(match us,hl with|[_,_],_=>rfl),yA F fun _ _ _ _ _ _ us hl=>(match us,hl with|[_,_],_=>rfl),wC T U bb F⟩,zT⟩
theorem XT:FnScope ["_law_jar_here","_law_names_here","_law_words","_law_houses","_law_slots","_law_many","_law_name","_law_size","_law_first","_law_bears","_law_turn","_law_never","_law_found"] ["_law_jar_here"] (defScope (top 71)):=⟨rfl,rfl,rfl,by decide+kernel,rfl,by decide+kernel,by decide+kernel⟩
theorem UU (T:Tops K mg w) (wP:D_3 P w K mg base) (U:D_1 P w K mg base) (bb:D_2 P w K mg base) (wS:D_4 P w K mg base) (Af:D_5 P w K mg base) {a:Addr} {fd:FuncData} (F:Fun K "_law_any_world" "_law_any_world" (top 71) a fd):FnG P w K mg base CX0 4 a fd ["_law_jar_here"] qf:=by
 refine FnG.ofN F XT 1 12 rfl rfl ?_
 intro cd A up s0 H Ex hg hr
 have sc:=XT
 have r:Rm _ 3:=⟨hg,hr⟩
 exact(zP (nJ (i:=1) (j:=2) rfl sc.nd rfl rfl (zd (yy wP r (by omega) (zd (zf 0 rfl) (zd zI zi))) (zd (yy wP r (by omega) (zd (zf 0 rfl) (zd zI zi))) zi)) (by rfl))
  (zP (nK (is:=[3,4,5]) rfl (pgs_cons (pg_name (i:=3) sc.nd rfl (by trivial)) (pgs_cons (pg_name (i:=4) sc.nd rfl (by trivial)) (pgs_cons (pg_name (i:=5) sc.nd rfl (by trivial)) pgs_nil))) (zd (yU xw xC T.z_tuple Bb (zd (yt (Q6 rfl r.u) Jg T.z_sorted BW (zd (ZG (zf 1 rfl) YN (Z4 (yE yW yV zI (yy U r (by omega) (zd (zf 0 rfl) (zd zI zi)))))) zi)) zi)) (zd (qq zi) (zd zI zi))) (by decide))
  (zP (V0 PassesOwn.never rfl (xi (ZG (zf 1 rfl) (Z4 zI) (Z4 (yE yW yV zI (yy U r (by omega) (zd (zf 0 rfl) (zd zI zi))))))) (yI sc.nd rfl (by trivial)) (zP (xE (i:=7) sc.nd rfl (yE yW yV zI (yy U r (by omega) (zd (zf 0 rfl) (zd zI zi)))))
  (ye (YH (xH op_ltA nf (yE op_mulW jB (zf 5 rfl) (zf 7 rfl)) zI) (zP (xE (i:=8) sc.nd rfl (yy U r (by omega) (zd (zf 0 rfl) (zd zI zi))))
  (zP (Zl (Jn Ba BJ BK mt_append Ze rfl (zd (Z1 (zd (zf 6 rfl) (zd (yy bb r (by omega) (zd (zf 0 rfl) (zd (zf 3 rfl) zi))) (zd (yU xw xC T.z_tuple Bb (zd (ZG (zf 2 rfl) (Z4 (zf 8 rfl)) (Z4 (yE yW yV (zf 8 rfl) (zf 7 rfl)))) zi)) zi)))) zi)))
  (ye (xE (i:=5) sc.nd rfl (yE op_mulW jB (zf 5 rfl) (zf 7 rfl)))))) jm))) (jZ (by rfl)))
  (zP (xE (i:=9) sc.nd rfl (uX rfl r.u T.z_sorted T.z_set (zd (ja (own:=[("_law_turn",10)]) (vs:=[10]) rfl sc.nd (blkOk_by (by rfl)) rfl (yF (by rfl)) (Us rfl T.z_range (zd (yE yW yV zI (yy U r (by omega) (zd (zf 0 rfl) (zd zI zi)))) zi)) (fun _ _ _ _ _=>(yI sc.nd rfl (by trivial))) (fun _ _ _ _ _=>xm) (fun _ _ _ _ _=>(yy wS r (by omega) (zd (zf 0 rfl) (zd (zf 4 rfl) zi))))) zi)))
  (zP (xE (i:=11) sc.nd rfl (uX rfl r.u T.z_sorted T.z_set (zd (ja (own:=[("_law_turn",10)]) (vs:=[10]) rfl sc.nd (blkOk_by (by rfl)) rfl (yF (by rfl)) (Us rfl T.z_range (zd (yy U r (by omega) (zd (zf 0 rfl) (zd zI zi))) zi)) (fun _ _ _ _ _=>(yI sc.nd rfl (by trivial))) (fun _ _ _ _ _=>xm) (fun _ _ _ _ _=>(yy wS r (by omega) (zd (zf 0 rfl) (zd (zf 4 rfl) zi))))) zi)))
  (zP (xE (i:=12) sc.nd rfl (OG (pps_cons qd (zf 3 rfl) (pps_cons qd (yU xw xC T.z_tuple Bb (zd (zf 4 rfl) zi)) (pps_cons qd (yU xw xC T.z_tuple Bb (zd (zf 9 rfl) zi)) (pps_cons qd (yU xw xC T.z_tuple Bb (zd (zf 11 rfl) zi)) pps_nil))))))
  (zP (Lo (i:=12) r.u rfl qd (yy Af r (by omega) (zd (zf 0 rfl) (zd (zf 4 rfl) zi))))
  (ye (yq (zf 12 rfl))))))))))
theorem vH (T:Tops K mg w) (wP:D_3 P w K mg base) (U:D_1 P w K mg base) (bb:D_2 P w K mg base) (wS:D_4 P w K mg base) (Af:D_5 P w K mg base) {a:Addr} {fd:FuncData} (F:Fun K "_law_any_world" "_law_any_world" (top 71) a fd) (hm:mg "_law_any_world"=some (.ref a)):D_6 P w K mg base:=
 ⟨⟨a,fd,hm,F.kp,F.binds fun _ _ _ _ _ _ us hl=>(match us,hl with|[_],_=>rfl),yA F fun _ _ _ _ _ _ us hl=>(match us,hl with|[_],_=>rfl),UU T wP U bb wS Af F⟩,zT⟩
theorem gR:FnScope ["value","words"] ["value","words"] (defScope (top 12)):=⟨rfl,rfl,rfl,by decide+kernel,rfl,by decide+kernel,by decide+kernel⟩
theorem pN (T:Tops K mg w) {a:Addr} {fd:FuncData} (F:Fun K "is_word" "is_word" (top 12) a fd):FnG P w K mg base CX0 1 a fd ["value","words"] qh:=by
 refine FnG.ofN F gR 2 0 rfl rfl ?_
 intro cd A up s0 H Ex hg hr
 have sc:=gR
 have r:Rm _ 0:=⟨hg,hr⟩
 exact(ye (yq (jj (yt call_isi Vy T.z_isinstance BL (zd (zf 0 rfl) (zd (eI T.z_str PyProof.Rows.boot_str) zi))) (Xa (ZF (cx r.u) cb (zf 0 rfl) (zf 1 rfl))))))
theorem iI (T:Tops K mg w) {a:Addr} {fd:FuncData} (F:Fun K "is_word" "is_word" (top 12) a fd) (hm:mg "is_word"=some (.ref a)):D_7 P w K mg base:=
 ⟨⟨a,fd,hm,F.kp,F.binds fun _ _ _ _ _ _ us hl=>(match us,hl with|[_,_],_=>rfl),yA F fun _ _ _ _ _ _ us hl=>(match us,hl with|[_,_],_=>rfl),pN T F⟩,zT⟩
theorem uc:FnScope ["value","least","most"] ["value","least","most"] (defScope (top 11)):=⟨rfl,rfl,rfl,by decide+kernel,rfl,by decide+kernel,by decide+kernel⟩
theorem mH (T:Tops K mg w) {a:Addr} {fd:FuncData} (F:Fun K "is_tuple" "is_tuple" (top 11) a fd):FnG P w K mg base CX0 1 a fd ["value","least","most"] yT:=by
 refine FnG.ofN F uc 3 0 rfl rfl ?_
 intro cd A up s0 H Ex hg hr
 have sc:=uc
 have r:Rm _ 0:=⟨hg,hr⟩
 exact(ye (yq (jj (yt call_isi Vy T.z_isinstance BL (zd (zf 0 rfl) (zd (eI T.z_tuple Bb) zi))) (Xa (LX vm vm kZ kZ NK (zf 1 rfl) (yt qK ZR T.z_len PySem.boot_len (zd (zf 0 rfl) zi)) (zf 2 rfl))))))
theorem nV (T:Tops K mg w) {a:Addr} {fd:FuncData} (F:Fun K "is_tuple" "is_tuple" (top 11) a fd) (hm:mg "is_tuple"=some (.ref a)):D_8 P w K mg base:=
 ⟨⟨a,fd,hm,F.kp,F.binds fun _ _ _ _ _ _ us hl=>(match us,hl with|[_,_,_],_=>rfl),yA F fun _ _ _ _ _ _ us hl=>(match us,hl with|[_,_,_],_=>rfl),mH T F⟩,zT⟩
theorem ug:FnScope ["slots","house","slot"] ["slots","house"] (defScope (top 44)):=⟨rfl,rfl,rfl,by decide+kernel,rfl,by decide+kernel,by decide+kernel⟩
theorem mL (T:Tops K mg w) {a:Addr} {fd:FuncData} (F:Fun K "slots_at" "slots_at" (top 44) a fd):FnG P w K mg base CX0 1 a fd ["slots","house"] Ya:=by
 refine FnG.ofN F ug 2 1 rfl rfl ?_
 intro cd A up s0 H Ex hg hr
 have sc:=ug
 have r:Rm _ 0:=⟨hg,hr⟩
 exact(ye (yq (ja (own:=[("slot",2)]) (vs:=[2]) rfl sc.nd (blkOk_by (by rfl)) rfl (yF (by rfl)) (xi (zf 0 rfl)) (fun _ _ _ _ _=>(yI sc.nd rfl (by trivial))) (fun _ _ _ _ _=>sI (xH (jx r.u) js (yL (zR r.u) zS (zf 2 rfl) zI) (zf 1 rfl))) (fun _ _ _ _ _=>(zf 2 rfl)))))
theorem nZ (T:Tops K mg w) {a:Addr} {fd:FuncData} (F:Fun K "slots_at" "slots_at" (top 44) a fd) (hm:mg "slots_at"=some (.ref a)):D_9 P w K mg base:=
 ⟨⟨a,fd,hm,F.kp,F.binds fun _ _ _ _ _ _ us hl=>(match us,hl with|[_,_],_=>rfl),yA F fun _ _ _ _ _ _ us hl=>(match us,hl with|[_,_],_=>rfl),mL T F⟩,zT⟩
theorem gP:FnScope ["slots","value","name","house","words"] ["slots","value"] (defScope (top 41)):=⟨rfl,rfl,rfl,by decide+kernel,rfl,by decide+kernel,by decide+kernel⟩
theorem pK (T:Tops K mg w) (ba:D_8 P w K mg base) (bw:D_7 P w K mg base) {a:Addr} {fd:FuncData} (F:Fun K "is_part" "is_part" (top 41) a fd):FnG P w K mg base CX0 2 a fd ["slots","value"] qN:=by
 refine FnG.ofN F gP 2 3 rfl rfl ?_
 intro cd A up s0 H Ex hg hr
 have sc:=gP
 have r:Rm _ 1:=⟨hg,hr⟩
 exact(zP (YH (qC (xU (yy ba r (by omega) (zd (zf 1 rfl) (zd (yS T.c_PAIR_worlds) (zd (yS T.c_PAIR_worlds) zi)))))) (ye (yq ux)) jm)
  (ye (yq (yt (cr_any rfl) sB T.z_any PyProof.Rows.boot_any (zd (ja (own:=[("name",2),("house",3),("words",4)]) (vs:=[2,3,4]) rfl sc.nd (blkOk_by (by rfl)) rfl (yF (by rfl)) (xi (zf 0 rfl)) (fun _ _ _ _ _=>(JP rfl (yC (yI sc.nd rfl (by trivial)) (yC (yI sc.nd rfl (by trivial)) (yC (yI sc.nd rfl (by trivial)) Yt))))) (fun _ _ _ _ _=>xm) (fun _ _ _ _ _=>(jj (yy bw r (by omega) (zd (yL (zR r.u) zS (zf 1 rfl) zI) (zd (Z1 (zd (zf 2 rfl) zi)) zi))) (Xa (yy bw r (by omega) (zd (yL (zR r.u) zS (zf 1 rfl) zI) (zd (zf 4 rfl) zi))))))) zi)))))
theorem iG (T:Tops K mg w) (ba:D_8 P w K mg base) (bw:D_7 P w K mg base) {a:Addr} {fd:FuncData} (F:Fun K "is_part" "is_part" (top 41) a fd) (hm:mg "is_part"=some (.ref a)):Ob P w K mg base:=
 ⟨⟨a,fd,hm,F.kp,F.binds fun _ _ _ _ _ _ us hl=>(match us,hl with|[_,_],_=>rfl),yA F fun _ _ _ _ _ _ us hl=>(match us,hl with|[_,_],_=>rfl),pK T ba bw F⟩,zT⟩
theorem Jx:FnScope ["items","one","other"] ["items"] (defScope (top 14)):=⟨rfl,rfl,rfl,by decide+kernel,rfl,by decide+kernel,by decide+kernel⟩
theorem uE (T:Tops K mg w) {a:Addr} {fd:FuncData} (F:Fun K "is_ascending" "is_ascending" (top 14) a fd):FnG P w K mg base CX0 1 a fd ["items"] yw:=by
 refine FnG.ofN F Jx 1 2 rfl rfl ?_
 intro cd A up s0 H Ex hg hr
 have sc:=Jx
 have r:Rm _ 0:=⟨hg,hr⟩
 exact(ye (yq (yt (cr_all rfl) jT T.z_all Bm (zd (ja (own:=[("one",1),("other",2)]) (vs:=[1,2]) rfl sc.nd (blkOk_by (by rfl)) rfl (yF (by rfl)) (RF rfl T.z_zip (zd (zf 0 rfl) (zd (ZG (zf 0 rfl) (Z4 zI) YN) zi))) (fun _ _ _ _ _=>(JP rfl (yC (yI sc.nd rfl (by trivial)) (yC (yI sc.nd rfl (by trivial)) Yt)))) (fun _ _ _ _ _=>xm) (fun _ _ _ _ _=>(ZF (Pu r.u) MJ (zf 1 rfl) (zf 2 rfl)))) zi))))
theorem fB (T:Tops K mg w) {a:Addr} {fd:FuncData} (F:Fun K "is_ascending" "is_ascending" (top 14) a fd) (hm:mg "is_ascending"=some (.ref a)):lP P w K mg base:=
 ⟨⟨a,fd,hm,F.kp,F.binds fun _ _ _ _ _ _ us hl=>(match us,hl with|[_],_=>rfl),yA F fun _ _ _ _ _ _ us hl=>(match us,hl with|[_],_=>rfl),uE T F⟩,zT⟩
theorem QK:FnScope ["slots","value","part"] ["slots","value"] (defScope (top 42)):=⟨rfl,rfl,rfl,by decide+kernel,rfl,by decide+kernel,by decide+kernel⟩
theorem kR (T:Tops K mg w) (Ag:Ob P w K mg base) (cT:lP P w K mg base) {a:Addr} {fd:FuncData} (F:Fun K "is_pattern_of" "is_pattern_of" (top 42) a fd):FnG P w K mg base CX0 3 a fd ["slots","value"] yu:=by
 refine FnG.ofN F QK 2 1 rfl rfl ?_
 intro cd A up s0 H Ex hg hr
 have sc:=QK
 have r:Rm _ 2:=⟨hg,hr⟩
 exact(zP (YH (PW.pt (Xb (qC (xU (yt call_isi Vy T.z_isinstance BL (zd (zf 1 rfl) (zd (eI T.z_tuple Bb) zi))))) (Jo (qC (xU (yt (cr_all rfl) jT T.z_all Bm (zd (ja (own:=[("part",2)]) (vs:=[2]) rfl sc.nd (blkOk_by (by rfl)) rfl (yF (by rfl)) (xi (zf 1 rfl)) (fun _ _ _ _ _=>(yI sc.nd rfl (by trivial))) (fun _ _ _ _ _=>xm) (fun _ _ _ _ _=>(yy Ag r (by omega) (zd (zf 0 rfl) (zd (zf 2 rfl) zi))))) zi))))))) (ye (yq ux)) jm)
  (ye (yq (yy cT r (by omega) (zd (ja (own:=[("part",2)]) (vs:=[2]) rfl sc.nd (blkOk_by (by rfl)) rfl (yF (by rfl)) (xi (zf 1 rfl)) (fun _ _ _ _ _=>(yI sc.nd rfl (by trivial))) (fun _ _ _ _ _=>xm) (fun _ _ _ _ _=>(yL (zR r.u) zS (zf 2 rfl) zI))) zi)))))
theorem uH (T:Tops K mg w) (Ag:Ob P w K mg base) (cT:lP P w K mg base) {a:Addr} {fd:FuncData} (F:Fun K "is_pattern_of" "is_pattern_of" (top 42) a fd) (hm:mg "is_pattern_of"=some (.ref a)):iN P w K mg base:=
 ⟨⟨a,fd,hm,F.kp,F.binds fun _ _ _ _ _ _ us hl=>(match us,hl with|[_,_],_=>rfl),yA F fun _ _ _ _ _ _ us hl=>(match us,hl with|[_,_],_=>rfl),kR T Ag cT F⟩,zT⟩
theorem ub:FnScope ["houses","slots","value","here"] ["houses","slots","value"] (defScope (top 45)):=⟨rfl,rfl,rfl,by decide+kernel,rfl,by decide+kernel,by decide+kernel⟩
theorem mG (T:Tops K mg w) (bw:D_7 P w K mg base) (ba:D_8 P w K mg base) (Ah:D_9 P w K mg base) (ge:iN P w K mg base) {a:Addr} {fd:FuncData} (F:Fun K "is_lapse" "is_lapse" (top 45) a fd):FnG P w K mg base CX0 4 a fd ["houses","slots","value"] qW:=by
 refine FnG.ofN F ub 3 1 rfl rfl ?_
 intro cd A up s0 H Ex hg hr
 have sc:=ub
 have r:Rm _ 3:=⟨hg,hr⟩
 exact(zP (YH (PW.pt (Xb (qC (xU (yy ba r (by omega) (zd (zf 2 rfl) (zd (yS T.c_TRIPLE) (zd (yS T.c_TRIPLE) zi)))))) (Jo (qC (xU (yy bw r (by omega) (zd (yL (zR r.u) zS (zf 2 rfl) zI) (zd (zf 0 rfl) zi)))))))) (ye (yq ux)) jm)
  (zP (xE (i:=3) sc.nd rfl (yy Ah r (by omega) (zd (zf 1 rfl) (zd (yL (zR r.u) zS (zf 2 rfl) zI) zi))))
  (ye (yq (jj (yy ge r (by omega) (zd (zf 3 rfl) (zd (yL (zR r.u) zS (zf 2 rfl) zI) zi))) (jj (yy ge r (by omega) (zd (zf 3 rfl) (zd (yL (zR r.u) zS (zf 2 rfl) zI) zi))) (Xa (ZF (cz r.u) gm (yL (zR r.u) zS (zf 2 rfl) zI) (Z1 zi)))))))))
theorem nU (T:Tops K mg w) (bw:D_7 P w K mg base) (ba:D_8 P w K mg base) (Ah:D_9 P w K mg base) (ge:iN P w K mg base) {a:Addr} {fd:FuncData} (F:Fun K "is_lapse" "is_lapse" (top 45) a fd) (hm:mg "is_lapse"=some (.ref a)):Oc P w K mg base:=
 ⟨⟨a,fd,hm,F.kp,F.binds fun _ _ _ _ _ _ us hl=>(match us,hl with|[_,_,_],_=>rfl),yA F fun _ _ _ _ _ _ us hl=>(match us,hl with|[_,_,_],_=>rfl),mG T bw ba Ah ge F⟩,zT⟩
theorem V7:FnScope ["houses","slots","value","one"] ["houses","slots","value"] (defScope (top 46)):=⟨rfl,rfl,rfl,by decide+kernel,rfl,by decide+kernel,by decide+kernel⟩
theorem fS (T:Tops K mg w) (Ai:Oc P w K mg base) (ba:D_8 P w K mg base) {a:Addr} {fd:FuncData} (F:Fun K "are_lapses" "are_lapses" (top 46) a fd):FnG P w K mg base CX0 5 a fd ["houses","slots","value"] xX:=by
 refine FnG.ofN F V7 3 1 rfl rfl ?_
 intro cd A up s0 H Ex hg hr
 have sc:=V7
 have r:Rm _ 4:=⟨hg,hr⟩
 exact(ye (yq (jj (yy ba r (by omega) (zd (zf 2 rfl) (zd zI (zd (yS T.c_MOST_LAPSES) zi)))) (Xa (yt (cr_all rfl) jT T.z_all Bm (zd (ja (own:=[("one",3)]) (vs:=[3]) rfl sc.nd (blkOk_by (by rfl)) rfl (yF (by rfl)) (xi (zf 2 rfl)) (fun _ _ _ _ _=>(yI sc.nd rfl (by trivial))) (fun _ _ _ _ _=>xm) (fun _ _ _ _ _=>(yy Ai r (by omega) (zd (zf 0 rfl) (zd (zf 1 rfl) (zd (zf 3 rfl) zi)))))) zi))))))
theorem cY (T:Tops K mg w) (Ai:Oc P w K mg base) (ba:D_8 P w K mg base) {a:Addr} {fd:FuncData} (F:Fun K "are_lapses" "are_lapses" (top 46) a fd) (hm:mg "are_lapses"=some (.ref a)):Od P w K mg base:=
 ⟨⟨a,fd,hm,F.kp,F.binds fun _ _ _ _ _ _ us hl=>(match us,hl with|[_,_,_],_=>rfl),yA F fun _ _ _ _ _ _ us hl=>(match us,hl with|[_,_,_],_=>rfl),fS T Ai ba F⟩,zT⟩
theorem gO:FnScope ["value","sign"] ["value"] (defScope (top 10)):=⟨rfl,rfl,rfl,by decide+kernel,rfl,by decide+kernel,by decide+kernel⟩
theorem pJ (T:Tops K mg w) {a:Addr} {fd:FuncData} (F:Fun K "is_name" "is_name" (top 10) a fd):FnG P w K mg base CX0 1 a fd ["value"] qg:=by
 refine FnG.ofN F gO 1 1 rfl rfl ?_
 intro cd A up s0 H Ex hg hr
 have sc:=gO
 have r:Rm _ 0:=⟨hg,hr⟩
 exact(zP (YH (PW.pt (Xb (qC (xU (yt call_isi Vy T.z_isinstance BL (zd (zf 0 rfl) (zd (eI T.z_str PyProof.Rows.boot_str) zi))))) (Jo (qC (iV vm vm kZ kZ NK zI (yt qK ZR T.z_len PySem.boot_len (zd (zf 0 rfl) zi)) (yS T.c_LONGEST_NAME)))))) (ye (yq ux)) jm)
  (ye (yq (yt (cr_all rfl) jT T.z_all Bm (zd (ja (own:=[("sign",1)]) (vs:=[1]) rfl sc.nd (blkOk_by (by rfl)) rfl (yF (by rfl)) (xi (zf 0 rfl)) (fun _ _ _ _ _=>(yI sc.nd rfl (by trivial))) (fun _ _ _ _ _=>xm) (fun _ _ _ _ _=>(ZF (cx r.u) cb (zf 1 rfl) (yS T.c_LETTERS)))) zi)))))
theorem iF (T:Tops K mg w) {a:Addr} {fd:FuncData} (F:Fun K "is_name" "is_name" (top 10) a fd) (hm:mg "is_name"=some (.ref a)):bH P w K mg base:=
 ⟨⟨a,fd,hm,F.kp,F.binds fun _ _ _ _ _ _ us hl=>(match us,hl with|[_],_=>rfl),yA F fun _ _ _ _ _ _ us hl=>(match us,hl with|[_],_=>rfl),pJ T F⟩,zT⟩
theorem QJ:FnScope ["items","one"] ["items"] (defScope (top 15)):=⟨rfl,rfl,rfl,by decide+kernel,rfl,by decide+kernel,by decide+kernel⟩
theorem kQ (T:Tops K mg w) {a:Addr} {fd:FuncData} (F:Fun K "are_different" "are_different" (top 15) a fd):FnG P w K mg base CX0 1 a fd ["items"] y_:=by
 refine FnG.ofN F QJ 1 1 rfl rfl ?_
 intro cd A up s0 H Ex hg hr
 have sc:=QJ
 have r:Rm _ 0:=⟨hg,hr⟩
 exact(ye (yq (yt (cr_all rfl) jT T.z_all Bm (zd (ja (own:=[("one",1)]) (vs:=[1]) rfl sc.nd (blkOk_by (by rfl)) rfl (yF (by rfl)) (xi (zf 0 rfl)) (fun _ _ _ _ _=>(yI sc.nd rfl (by trivial))) (fun _ _ _ _ _=>xm) (fun _ _ _ _ _=>(ZF (jx r.u) js (uW Ba PySem.F.slot_list_count PySem.F.type_list_count oV PySem.F.plainAttrs_tuple PySem.F.slot_tuple_count PySem.F.type_tuple_count oW mx (zf 0 rfl) (zd (zf 1 rfl) zi)) zI))) zi))))
theorem uG (T:Tops K mg w) {a:Addr} {fd:FuncData} (F:Fun K "are_different" "are_different" (top 15) a fd) (hm:mg "are_different"=some (.ref a)):iO P w K mg base:=
 ⟨⟨a,fd,hm,F.kp,F.binds fun _ _ _ _ _ _ us hl=>(match us,hl with|[_],_=>rfl),yA F fun _ _ _ _ _ _ us hl=>(match us,hl with|[_],_=>rfl),kQ T F⟩,zT⟩
theorem kj:FnScope ["value","least","most","one"] ["value","least","most"] (defScope (top 13)):=⟨rfl,rfl,rfl,by decide+kernel,rfl,by decide+kernel,by decide+kernel⟩
theorem bW (T:Tops K mg w) (bi:bH P w K mg base) (ba:D_8 P w K mg base) {a:Addr} {fd:FuncData} (F:Fun K "are_names" "are_names" (top 13) a fd):FnG P w K mg base CX0 2 a fd ["value","least","most"] xK:=by
 refine FnG.ofN F kj 3 1 rfl rfl ?_
 intro cd A up s0 H Ex hg hr
 have sc:=kj
 have r:Rm _ 1:=⟨hg,hr⟩
 exact(ye (yq (jj (yy ba r (by omega) (zd (zf 0 rfl) (zd (zf 1 rfl) (zd (zf 2 rfl) zi)))) (Xa (yt (cr_all rfl) jT T.z_all Bm (zd (ja (own:=[("one",3)]) (vs:=[3]) rfl sc.nd (blkOk_by (by rfl)) rfl (yF (by rfl)) (xi (zf 0 rfl)) (fun _ _ _ _ _=>(yI sc.nd rfl (by trivial))) (fun _ _ _ _ _=>xm) (fun _ _ _ _ _=>(yy bi r (by omega) (zd (zf 3 rfl) zi)))) zi))))))
theorem lF (T:Tops K mg w) (bi:bH P w K mg base) (ba:D_8 P w K mg base) {a:Addr} {fd:FuncData} (F:Fun K "are_names" "are_names" (top 13) a fd) (hm:mg "are_names"=some (.ref a)):iP P w K mg base:=
 ⟨⟨a,fd,hm,F.kp,F.binds fun _ _ _ _ _ _ us hl=>(match us,hl with|[_,_,_],_=>rfl),yA F fun _ _ _ _ _ _ us hl=>(match us,hl with|[_,_,_],_=>rfl),bW T bi ba F⟩,zT⟩
theorem gQ:FnScope ["houses","value"] ["houses","value"] (defScope (top 39)):=⟨rfl,rfl,rfl,by decide+kernel,rfl,by decide+kernel,by decide+kernel⟩
theorem pM (T:Tops K mg w) (bw:D_7 P w K mg base) (bi:bH P w K mg base) (ba:D_8 P w K mg base) (ln:iO P w K mg base) (pi:iP P w K mg base) {a:Addr} {fd:FuncData} (F:Fun K "is_slot" "is_slot" (top 39) a fd):FnG P w K mg base CX0 3 a fd ["houses","value"] jf:=by
 refine FnG.ofN F gQ 2 0 rfl rfl ?_
 intro cd A up s0 H Ex hg hr
 have sc:=gQ
 have r:Rm _ 2:=⟨hg,hr⟩
 exact(zP (YH (PW.pt (Xb (qC (xU (yy ba r (by omega) (zd (zf 1 rfl) (zd (yS T.c_TRIPLE) (zd (yS T.c_TRIPLE) zi)))))) (Xb (qC (xU (yy bi r (by omega) (zd (yL (zR r.u) zS (zf 1 rfl) zI) zi)))) (Jo (qC (xU (yy bw r (by omega) (zd (yL (zR r.u) zS (zf 1 rfl) zI) (zd (zf 0 rfl) zi))))))))) (ye (yq ux)) jm)
  (ye (yq (jj (yy pi r (by omega) (zd (yL (zR r.u) zS (zf 1 rfl) zI) (zd (yS T.c_LEAST_WORDS) (zd (yS T.c_MOST_WORDS) zi)))) (Xa (yy ln r (by omega) (zd (yL (zR r.u) zS (zf 1 rfl) zI) zi)))))))
theorem iH (T:Tops K mg w) (bw:D_7 P w K mg base) (bi:bH P w K mg base) (ba:D_8 P w K mg base) (ln:iO P w K mg base) (pi:iP P w K mg base) {a:Addr} {fd:FuncData} (F:Fun K "is_slot" "is_slot" (top 39) a fd) (hm:mg "is_slot"=some (.ref a)):Oe P w K mg base:=
 ⟨⟨a,fd,hm,F.kp,F.binds fun _ _ _ _ _ _ us hl=>(match us,hl with|[_,_],_=>rfl),yA F fun _ _ _ _ _ _ us hl=>(match us,hl with|[_,_],_=>rfl),pM T bw bi ba ln pi F⟩,zT⟩
theorem kq:FnScope ["houses","value","slot","many","name","house","words"] ["houses","value"] (defScope (top 40)):=⟨rfl,rfl,rfl,by decide+kernel,rfl,by decide+kernel,by decide+kernel⟩
theorem bY (T:Tops K mg w) (Aj:Oe P w K mg base) (ba:D_8 P w K mg base) (ln:iO P w K mg base) {a:Addr} {fd:FuncData} (F:Fun K "are_slots" "are_slots" (top 40) a fd):FnG P w K mg base CX0 4 a fd ["houses","value"] xL:=by
 refine FnG.ofN F kq 2 5 rfl rfl ?_
 intro cd A up s0 H Ex hg hr
 have sc:=kq
 have r:Rm _ 3:=⟨hg,hr⟩
 exact(zP (YH (PW.pt (Xb (qC (xU (yy ba r (by omega) (zd (zf 1 rfl) (zd zI (zd (yS T.c_MOST_SLOTS) zi)))))) (Jo (qC (xU (yt (cr_all rfl) jT T.z_all Bm (zd (ja (own:=[("slot",2)]) (vs:=[2]) rfl sc.nd (blkOk_by (by rfl)) rfl (yF (by rfl)) (xi (zf 1 rfl)) (fun _ _ _ _ _=>(yI sc.nd rfl (by trivial))) (fun _ _ _ _ _=>xm) (fun _ _ _ _ _=>(yy Aj r (by omega) (zd (zf 0 rfl) (zd (zf 2 rfl) zi))))) zi))))))) (ye (yq ux)) jm)
  (zP (xE (i:=3) sc.nd rfl zI)
  (zP (V0 PassesOwn.never rfl (xi (zf 1 rfl)) (JP rfl (yC (yI sc.nd rfl (by trivial)) (yC (yI sc.nd rfl (by trivial)) (yC (yI sc.nd rfl (by trivial)) Yt)))) (ye (xE (i:=3) sc.nd rfl (yE op_mulW jB (zf 3 rfl) (yt qK ZR T.z_len PySem.boot_len (zd (zf 6 rfl) zi))))) (jZ (by rfl)))
  (ye (yq (jj (yy ln r (by omega) (zd (ja (own:=[("slot",2)]) (vs:=[2]) rfl sc.nd (blkOk_by (by rfl)) rfl (yF (by rfl)) (xi (zf 1 rfl)) (fun _ _ _ _ _=>(yI sc.nd rfl (by trivial))) (fun _ _ _ _ _=>xm) (fun _ _ _ _ _=>(yL (zR r.u) zS (zf 2 rfl) zI))) zi)) (Xa (ZF vm kZ (zf 3 rfl) (yS T.c_MOST_STANDS)))))))))
theorem lI (T:Tops K mg w) (Aj:Oe P w K mg base) (ba:D_8 P w K mg base) (ln:iO P w K mg base) {a:Addr} {fd:FuncData} (F:Fun K "are_slots" "are_slots" (top 40) a fd) (hm:mg "are_slots"=some (.ref a)):Of P w K mg base:=
 ⟨⟨a,fd,hm,F.kp,F.binds fun _ _ _ _ _ _ us hl=>(match us,hl with|[_,_],_=>rfl),yA F fun _ _ _ _ _ _ us hl=>(match us,hl with|[_,_],_=>rfl),bY T Aj ba ln F⟩,zT⟩
theorem V6:FnScope ["value"] ["value"] (defScope (top 38)):=⟨rfl,rfl,rfl,by decide+kernel,rfl,by decide+kernel,by decide+kernel⟩
theorem fR (T:Tops K mg w) (cT:lP P w K mg base) (pi:iP P w K mg base) {a:Addr} {fd:FuncData} (F:Fun K "are_houses" "are_houses" (top 38) a fd):FnG P w K mg base CX0 3 a fd ["value"] xF:=by
 refine FnG.ofN F V6 1 0 rfl rfl ?_
 intro cd A up s0 H Ex hg hr
 have sc:=V6
 have r:Rm _ 2:=⟨hg,hr⟩
 exact(ye (yq (jj (yy pi r (by omega) (zd (zf 0 rfl) (zd zI (zd (yS T.c_MOST_HOUSES) zi)))) (Xa (yy cT r (by omega) (zd (zf 0 rfl) zi))))))
theorem cX (T:Tops K mg w) (cT:lP P w K mg base) (pi:iP P w K mg base) {a:Addr} {fd:FuncData} (F:Fun K "are_houses" "are_houses" (top 38) a fd) (hm:mg "are_houses"=some (.ref a)):Og P w K mg base:=
 ⟨⟨a,fd,hm,F.kp,F.binds fun _ _ _ _ _ _ us hl=>(match us,hl with|[_],_=>rfl),yA F fun _ _ _ _ _ _ us hl=>(match us,hl with|[_],_=>rfl),fR T cT pi F⟩,zT⟩
theorem Jw:FnScope ["slots","value","one"] ["slots","value"] (defScope (top 43)):=⟨rfl,rfl,rfl,by decide+kernel,rfl,by decide+kernel,by decide+kernel⟩
theorem uD (T:Tops K mg w) (ge:iN P w K mg base) (cT:lP P w K mg base) {a:Addr} {fd:FuncData} (F:Fun K "are_patterns" "are_patterns" (top 43) a fd):FnG P w K mg base CX0 4 a fd ["slots","value"] xo:=by
 refine FnG.ofN F Jw 2 1 rfl rfl ?_
 intro cd A up s0 H Ex hg hr
 have sc:=Jw
 have r:Rm _ 3:=⟨hg,hr⟩
 exact(zP (YH (PW.pt (Xb (qC (xU (yt call_isi Vy T.z_isinstance BL (zd (zf 1 rfl) (zd (eI T.z_tuple Bb) zi))))) (Jo (qC (xU (yt (cr_all rfl) jT T.z_all Bm (zd (ja (own:=[("one",2)]) (vs:=[2]) rfl sc.nd (blkOk_by (by rfl)) rfl (yF (by rfl)) (xi (zf 1 rfl)) (fun _ _ _ _ _=>(yI sc.nd rfl (by trivial))) (fun _ _ _ _ _=>xm) (fun _ _ _ _ _=>(jj (yy ge r (by omega) (zd (zf 0 rfl) (zd (zf 2 rfl) zi))) (Xa (ZF (cz r.u) gm (zf 2 rfl) (Z1 zi)))))) zi))))))) (ye (yq ux)) jm)
  (ye (yq (yy cT r (by omega) (zd (zf 1 rfl) zi)))))
theorem fA (T:Tops K mg w) (ge:iN P w K mg base) (cT:lP P w K mg base) {a:Addr} {fd:FuncData} (F:Fun K "are_patterns" "are_patterns" (top 43) a fd) (hm:mg "are_patterns"=some (.ref a)):Oh P w K mg base:=
 ⟨⟨a,fd,hm,F.kp,F.binds fun _ _ _ _ _ _ us hl=>(match us,hl with|[_,_],_=>rfl),yA F fun _ _ _ _ _ _ us hl=>(match us,hl with|[_,_],_=>rfl),uD T ge cT F⟩,zT⟩
theorem km:FnScope ["houses","slots","bears","never","lapses"] ["houses","slots","bears","never","lapses"] (defScope (top 47)):=⟨rfl,rfl,rfl,by decide+kernel,rfl,by decide+kernel,by decide+kernel⟩
theorem bX (T:Tops K mg w) (Ak:Od P w K mg base) (Am:Of P w K mg base) (Ao:Og P w K mg base) (wT:Oh P w K mg base) {a:Addr} {fd:FuncData} (F:Fun K "are_parts" "are_parts" (top 47) a fd):FnG P w K mg base CX0 6 a fd ["houses","slots","bears","never","lapses"] xg:=by
 refine FnG.ofN F km 5 0 rfl rfl ?_
 intro cd A up s0 H Ex hg hr
 have sc:=km
 have r:Rm _ 5:=⟨hg,hr⟩
 exact(zP (YH (PW.pt (Xb (qC (xU (yy Ao r (by omega) (zd (zf 0 rfl) zi)))) (Xb (qC (xU (yy Am r (by omega) (zd (zf 0 rfl) (zd (zf 1 rfl) zi))))) (Jo (qC (xU (yy Ak r (by omega) (zd (zf 0 rfl) (zd (zf 1 rfl) (zd (zf 4 rfl) zi)))))))))) (ye (yq ux)) jm)
  (ye (yq (jj (yy wT r (by omega) (zd (zf 1 rfl) (zd (zf 2 rfl) zi))) (jj (yy wT r (by omega) (zd (zf 1 rfl) (zd (zf 3 rfl) zi))) (Xa (ZF (cz r.u) gm (zf 2 rfl) (Z1 zi))))))))
theorem lG (T:Tops K mg w) (Ak:Od P w K mg base) (Am:Of P w K mg base) (Ao:Og P w K mg base) (wT:Oh P w K mg base) {a:Addr} {fd:FuncData} (F:Fun K "are_parts" "are_parts" (top 47) a fd) (hm:mg "are_parts"=some (.ref a)):Oi P w K mg base:=
 ⟨⟨a,fd,hm,F.kp,F.binds fun _ _ _ _ _ _ us hl=>(match us,hl with|[_,_,_,_,_],_=>rfl),yA F fun _ _ _ _ _ _ us hl=>(match us,hl with|[_,_,_,_,_],_=>rfl),bX T Ak Am Ao wT F⟩,zT⟩
theorem ku:FnScope ["slots","place","slot"] ["slots"] (defScope (top 26)):=⟨rfl,rfl,rfl,by decide+kernel,rfl,by decide+kernel,by decide+kernel⟩
theorem b7 (T:Tops K mg w) {a:Addr} {fd:FuncData} (F:Fun K "places_of" "places_of" (top 26) a fd):FnG P w K mg base CX0 1 a fd ["slots"] Zr:=by
 refine FnG.ofN F ku 1 2 rfl rfl ?_
 intro cd A up s0 H Ex hg hr
 have sc:=ku
 have r:Rm _ 0:=⟨hg,hr⟩
 exact(ye (yq (Rh (own:=[("place",1),("slot",2)]) (vs:=[1,2]) rfl sc.nd (blkOk_by (by rfl)) rfl (yF (by rfl)) (b_ rfl T.z_enumerate (zd (zf 0 rfl) zi)) (fun _ _ _ _ _=>(JP rfl (yC (yI sc.nd rfl (by trivial)) (yC (yI sc.nd rfl (by trivial)) Yt)))) (fun _ _ _ _ _=>xm) (fun _ _ _ _ _=>(yL (zR r.u) zS (zf 2 rfl) zI)) (fun _ _ _ _ _=>(zf 1 rfl)))))
theorem lK (T:Tops K mg w) {a:Addr} {fd:FuncData} (F:Fun K "places_of" "places_of" (top 26) a fd) (hm:mg "places_of"=some (.ref a)):Oj P w K mg base:=
 ⟨⟨a,fd,hm,F.kp,F.binds fun _ _ _ _ _ _ us hl=>(match us,hl with|[_],_=>rfl),yA F fun _ _ _ _ _ _ us hl=>(match us,hl with|[_],_=>rfl),b7 T F⟩,zT⟩
theorem bv:FnScope ["places","pattern","stand","slot","word"] ["places","pattern","stand"] (defScope (top 27)):=⟨rfl,rfl,rfl,by decide+kernel,rfl,by decide+kernel,by decide+kernel⟩
theorem oi (T:Tops K mg w) {a:Addr} {fd:FuncData} (F:Fun K "agrees" "agrees" (top 27) a fd):FnG P w K mg base CX0 1 a fd ["places","pattern","stand"] QA:=by
 refine FnG.ofN F bv 3 2 rfl rfl ?_
 intro cd A up s0 H Ex hg hr
 have sc:=bv
 have r:Rm _ 0:=⟨hg,hr⟩
 exact(ye (yq (yt (cr_all rfl) jT T.z_all Bm (zd (ja (own:=[("slot",3),("word",4)]) (vs:=[3,4]) rfl sc.nd (blkOk_by (by rfl)) rfl (yF (by rfl)) (xi (zf 1 rfl)) (fun _ _ _ _ _=>(JP rfl (yC (yI sc.nd rfl (by trivial)) (yC (yI sc.nd rfl (by trivial)) Yt)))) (fun _ _ _ _ _=>xm) (fun _ _ _ _ _=>(ZF (jx r.u) js (yL (zR r.u) zS (zf 2 rfl) (yL (zR r.u) zS (zf 0 rfl) (zf 3 rfl))) (zf 4 rfl)))) zi))))
theorem LP (T:Tops K mg w) {a:Addr} {fd:FuncData} (F:Fun K "agrees" "agrees" (top 27) a fd) (hm:mg "agrees"=some (.ref a)):Ol P w K mg base:=
 ⟨⟨a,fd,hm,F.kp,F.binds fun _ _ _ _ _ _ us hl=>(match us,hl with|[_,_,_],_=>rfl),yA F fun _ _ _ _ _ _ us hl=>(match us,hl with|[_,_,_],_=>rfl),oi T F⟩,zT⟩
theorem Ve:FnScope ["places","patterns","stand","pattern"] ["places","patterns","stand"] (defScope (top 28)):=⟨rfl,rfl,rfl,by decide+kernel,rfl,by decide+kernel,by decide+kernel⟩
theorem wF (T:Tops K mg w) (Ap:Ol P w K mg base) {a:Addr} {fd:FuncData} (F:Fun K "some_agrees" "some_agrees" (top 28) a fd):FnG P w K mg base CX0 2 a fd ["places","patterns","stand"] jg:=by
 refine FnG.ofN F Ve 3 1 rfl rfl ?_
 intro cd A up s0 H Ex hg hr
 have sc:=Ve
 have r:Rm _ 1:=⟨hg,hr⟩
 exact(ye (yq (yt (cr_any rfl) sB T.z_any PyProof.Rows.boot_any (zd (ja (own:=[("pattern",3)]) (vs:=[3]) rfl sc.nd (blkOk_by (by rfl)) rfl (yF (by rfl)) (xi (zf 1 rfl)) (fun _ _ _ _ _=>(yI sc.nd rfl (by trivial))) (fun _ _ _ _ _=>xm) (fun _ _ _ _ _=>(yy Ap r (by omega) (zd (zf 0 rfl) (zd (zf 3 rfl) (zd (zf 2 rfl) zi)))))) zi))))
theorem dj (T:Tops K mg w) (Ap:Ol P w K mg base) {a:Addr} {fd:FuncData} (F:Fun K "some_agrees" "some_agrees" (top 28) a fd) (hm:mg "some_agrees"=some (.ref a)):Om P w K mg base:=
 ⟨⟨a,fd,hm,F.kp,F.binds fun _ _ _ _ _ _ us hl=>(match us,hl with|[_,_,_],_=>rfl),yA F fun _ _ _ _ _ _ us hl=>(match us,hl with|[_,_,_],_=>rfl),wF T Ap F⟩,zT⟩
theorem ua:FnScope ["slots","name","house","words"] ["slots"] (defScope (top 48)):=⟨rfl,rfl,rfl,by decide+kernel,rfl,by decide+kernel,by decide+kernel⟩
theorem mF (T:Tops K mg w) {a:Addr} {fd:FuncData} (F:Fun K "first_of" "first_of" (top 48) a fd):FnG P w K mg base CX0 1 a fd ["slots"] Zj:=by
 refine FnG.ofN F ua 1 3 rfl rfl ?_
 intro cd A up s0 H Ex hg hr
 have sc:=ua
 have r:Rm _ 0:=⟨hg,hr⟩
 exact(ye (yq (yU xw xC T.z_tuple Bb (zd (ja (own:=[("name",1),("house",2),("words",3)]) (vs:=[1,2,3]) rfl sc.nd (blkOk_by (by rfl)) rfl (yF (by rfl)) (xi (zf 0 rfl)) (fun _ _ _ _ _=>(JP rfl (yC (yI sc.nd rfl (by trivial)) (yC (yI sc.nd rfl (by trivial)) (yC (yI sc.nd rfl (by trivial)) Yt))))) (fun _ _ _ _ _=>xm) (fun _ _ _ _ _=>(yL (zR r.u) zS (zf 3 rfl) zI))) zi))))
theorem nT (T:Tops K mg w) {a:Addr} {fd:FuncData} (F:Fun K "first_of" "first_of" (top 48) a fd) (hm:mg "first_of"=some (.ref a)):iQ P w K mg base:=
 ⟨⟨a,fd,hm,F.kp,F.binds fun _ _ _ _ _ _ us hl=>(match us,hl with|[_],_=>rfl),yA F fun _ _ _ _ _ _ us hl=>(match us,hl with|[_],_=>rfl),mF T F⟩,zT⟩
theorem V5:FnScope ["slots","found","name","house","words","longer","stand","word"] ["slots"] (defScope (top 49)):=⟨rfl,rfl,rfl,by decide+kernel,rfl,by decide+kernel,by decide+kernel⟩
theorem fQ (T:Tops K mg w) {a:Addr} {fd:FuncData} (F:Fun K "all_stands" "all_stands" (top 49) a fd):FnG P w K mg base CX0 1 a fd ["slots"] ZS:=by
 refine FnG.ofN F V5 1 7 rfl rfl ?_
 intro cd A up s0 H Ex hg hr
 have sc:=V5
 have r:Rm _ 0:=⟨hg,hr⟩
 exact(zP (xE (i:=1) sc.nd rfl (qq (zd (Z1 zi) zi)))
  (zP (V0 PassesOwn.never rfl (xi (zf 0 rfl)) (JP rfl (yC (yI sc.nd rfl (by trivial)) (yC (yI sc.nd rfl (by trivial)) (yC (yI sc.nd rfl (by trivial)) Yt)))) (zP (xE (i:=5) sc.nd rfl (qq zi))
  (zP (V0 PassesOwn.never rfl (xi (zf 1 rfl)) (yI sc.nd rfl (by trivial)) (ye (Zl (Jn Ba BC BD mt_extend jt rfl (zd (ja (own:=[("word",7)]) (vs:=[7]) rfl sc.nd (blkOk_by (by rfl)) rfl (yF (by rfl)) (xi (zf 4 rfl)) (fun _ _ _ _ _=>(yI sc.nd rfl (by trivial))) (fun _ _ _ _ _=>xm) (fun _ _ _ _ _=>(yE yW yV (zf 6 rfl) (Z1 (zd (zf 7 rfl) zi))))) zi)))) (jZ (by rfl)))
  (ye (xE (i:=1) sc.nd rfl (zf 5 rfl))))) (jZ (by rfl)))
  (ye (yq (yU xw xC T.z_tuple Bb (zd (yt (Q6 rfl r.u) Jg T.z_sorted BW (zd (zf 1 rfl) zi)) zi))))))
theorem cW (T:Tops K mg w) {a:Addr} {fd:FuncData} (F:Fun K "all_stands" "all_stands" (top 49) a fd) (hm:mg "all_stands"=some (.ref a)):On P w K mg base:=
 ⟨⟨a,fd,hm,F.kp,F.binds fun _ _ _ _ _ _ us hl=>(match us,hl with|[_],_=>rfl),yA F fun _ _ _ _ _ _ us hl=>(match us,hl with|[_],_=>rfl),fQ T F⟩,zT⟩
theorem XS:FnScope ["self","houses","slots","bears","never","lapses"] ["self","houses","slots","bears","never","lapses"] (defScope (inClass (top 50) 0)):=⟨rfl,rfl,rfl,by decide+kernel,rfl,by decide+kernel,by decide+kernel⟩
theorem UT (T:Tops K mg w) (Aq:Oi P w K mg base) (xz:ErrOk P w K mg base "BadWorld" "value") (Ar:Oj P w K mg base) (As:Om P w K mg base) (r5:iQ P w K mg base) (At:On P w K mg base) {a:Addr} {fd:FuncData} (F:Fun K "__init__" "World.__init__" (inClass (top 50) 0) a fd):FnG P w K mg base (L2.CX P w) 7 a fd ["self","houses","slots","bears","never","lapses"] yp:=by
 refine FnG.ofX F XS 6 0 rfl rfl ?_
 intro cd A up s0 H Ex hg hr tk
 have sc:=XS
 have r:Rm _ 6:=⟨hg,hr⟩
 exact(zP (YH (qC (xU (yy Aq r (by omega) (zd (zf 1 rfl) (zd (zf 2 rfl) (zd (zf 3 rfl) (zd (zf 4 rfl) (zd (zf 5 rfl) zi)))))))) (ye (uQ xz r (by omega) rfl tk (zd (Z1 (zd (zf 1 rfl) (zd (zf 2 rfl) (zd (zf 3 rfl) (zd (zf 4 rfl) (zd (zf 5 rfl) zi)))))) zi))) jm)
  (zP (nH T.k_World rfl (yy Ar r (by omega) (zd (zf 2 rfl) zi)))
  (zP (YH (xU (yy As r (by omega) (zd (QR T.k_World (zf 0 rfl)) (zd (yE yW yV (zf 3 rfl) (zf 4 rfl)) (zd (yy r5 r (by omega) (zd (zf 2 rfl) zi)) zi))))) (ye (uQ xz r (by omega) rfl tk (zd (Z1 (zd (zf 1 rfl) (zd (zf 2 rfl) (zd (zf 3 rfl) (zd (zf 4 rfl) (zd (zf 5 rfl) zi)))))) zi))) jm)
  (zP (nH T.k_World rfl (Z1 (zd (zf 1 rfl) (zd (zf 2 rfl) (zd (zf 3 rfl) (zd (zf 4 rfl) (zd (zf 5 rfl) zi)))))))
  (ye (nH T.k_World rfl (yy At r (by omega) (zd (zf 2 rfl) zi))))))))
theorem vG (T:Tops K mg w) (Aq:Oi P w K mg base) (xz:ErrOk P w K mg base "BadWorld" "value") (Ar:Oj P w K mg base) (As:Om P w K mg base) (r5:iQ P w K mg base) (At:On P w K mg base) {a:Addr} {fd:FuncData} (F:Fun K "__init__" "World.__init__" (inClass (top 50) 0) a fd) {C:Addr} (hc:mg "World"=some (.ref C)) (hm:Mk K C a):NewX P w K mg base "World" ["self","houses","slots","bears","never","lapses"] 7 yp:=
 ⟨⟨C,a,fd,hc,hm,F.binds fun _ _ _ _ _ _ us hl=>(match us,hl with|[_,_,_,_,_,_],_=>rfl),UT T Aq xz Ar As r5 At F⟩,zT⟩
theorem kg:FnScope ["_law_lore"] ["_law_lore"] (defScope (top 74)):=⟨rfl,rfl,rfl,by decide+kernel,rfl,by decide+kernel,by decide+kernel⟩
theorem bU (T:Tops K mg w) (r6:NewX P w K mg base "World" ["self","houses","slots","bears","never","lapses"] 7 yp) {a:Addr} {fd:FuncData} (F:Fun K "_law_made" "_law_made" (top 74) a fd):FnG P w K mg base CX0 9 a fd ["_law_lore"] Yu:=by
 refine FnG.ofN F kg 1 0 rfl rfl ?_
 intro cd A up s0 H Ex hg hr
 have sc:=kg
 have r:Rm _ 8:=⟨hg,hr⟩
 exact(ye (yq (lW (Nw (tj r6 r nQ (by omega) (zd (yL (zR r.u) zS (zf 0 rfl) qd) (zd (yL (zR r.u) zS (zf 0 rfl) qd) (zd (yL (zR r.u) zS (zf 0 rfl) qd) (zd (yL (zR r.u) zS (zf 0 rfl) qd) (zd (yL (zR r.u) zS (zf 0 rfl) qd) zi))))))))))
theorem lD (T:Tops K mg w) (r6:NewX P w K mg base "World" ["self","houses","slots","bears","never","lapses"] 7 yp) {a:Addr} {fd:FuncData} (F:Fun K "_law_made" "_law_made" (top 74) a fd) (hm:mg "_law_made"=some (.ref a)):Oo P w K mg base:=
 ⟨⟨a,fd,hm,F.kp,F.binds fun _ _ _ _ _ _ us hl=>(match us,hl with|[_],_=>rfl),yA F fun _ _ _ _ _ _ us hl=>(match us,hl with|[_],_=>rfl),bU T r6 F⟩,zT⟩
theorem V2:FnScope ["_law_pattern","_law_slot","_law_word"] ["_law_pattern"] (defScope (top 72)):=⟨rfl,rfl,rfl,by decide+kernel,rfl,by decide+kernel,by decide+kernel⟩
theorem fN (T:Tops K mg w) {a:Addr} {fd:FuncData} (F:Fun K "_law_pairs" "_law_pairs" (top 72) a fd):FnG P w K mg base CX0 1 a fd ["_law_pattern"] xn:=by
 refine FnG.ofN F V2 1 2 rfl rfl ?_
 intro cd A up s0 H Ex hg hr
 have sc:=V2
 have r:Rm _ 0:=⟨hg,hr⟩
 exact(ye (yq (ja (own:=[("_law_slot",1),("_law_word",2)]) (vs:=[1,2]) rfl sc.nd (blkOk_by (by rfl)) rfl (yF (by rfl)) (xi (zf 0 rfl)) (fun _ _ _ _ _=>(JP rfl (yC (yI sc.nd rfl (by trivial)) (yC (yI sc.nd rfl (by trivial)) Yt)))) (fun _ _ _ _ _=>xm) (fun _ _ _ _ _=>(yE yW yV (yE yW yV (zf 1 rfl) qd) (zf 2 rfl))))))
theorem cS (T:Tops K mg w) {a:Addr} {fd:FuncData} (F:Fun K "_law_pairs" "_law_pairs" (top 72) a fd) (hm:mg "_law_pairs"=some (.ref a)):Oq P w K mg base:=
 ⟨⟨a,fd,hm,F.kp,F.binds fun _ _ _ _ _ _ us hl=>(match us,hl with|[_],_=>rfl),yA F fun _ _ _ _ _ _ us hl=>(match us,hl with|[_],_=>rfl),fN T F⟩,zT⟩
theorem Xu:FnScope ["_law_lore","_law_lines","_law_name","_law_house","_law_words","_law_pattern","_law_needs","_law_makes","_law_line"] ["_law_lore"] (defScope (top 73)):=⟨rfl,rfl,rfl,by decide+kernel,rfl,by decide+kernel,by decide+kernel⟩
theorem Um (T:Tops K mg w) (wf:Oq P w K mg base) {a:Addr} {fd:FuncData} (F:Fun K "_law_world_page" "_law_world_page" (top 73) a fd):FnG P w K mg base CX0 2 a fd ["_law_lore"] qA:=by
 refine FnG.ofN F Xu 1 8 rfl rfl ?_
 intro cd A up s0 H Ex hg hr
 have sc:=Xu
 have r:Rm _ 1:=⟨hg,hr⟩
 exact(zP (xE (i:=1) sc.nd rfl (qq (zd (yE yW yV (qq (zd qd zi)) (yU (wc rfl) d8 T.z_list PyProof.Rows.boot_list (zd (yL (zR r.u) zS (zf 0 rfl) qd) zi))) zi)))
  (zP (Zl (Jn Ba BC BD mt_extend jt rfl (zd (ja (own:=[("_law_name",2),("_law_house",3),("_law_words",4)]) (vs:=[2,3,4]) rfl sc.nd (blkOk_by (by rfl)) rfl (yF (by rfl)) (xi (yL (zR r.u) zS (zf 0 rfl) qd)) (fun _ _ _ _ _=>(JP rfl (yC (yI sc.nd rfl (by trivial)) (yC (yI sc.nd rfl (by trivial)) (yC (yI sc.nd rfl (by trivial)) Yt))))) (fun _ _ _ _ _=>xm) (fun _ _ _ _ _=>(yE yW yV (qq (zd qd (zd (zf 2 rfl) (zd (zf 3 rfl) zi)))) (yU (wc rfl) d8 T.z_list PyProof.Rows.boot_list (zd (zf 4 rfl) zi))))) zi)))
  (zP (Zl (Jn Ba BC BD mt_extend jt rfl (zd (ja (own:=[("_law_pattern",5)]) (vs:=[5]) rfl sc.nd (blkOk_by (by rfl)) rfl (yF (by rfl)) (xi (yL (zR r.u) zS (zf 0 rfl) qd)) (fun _ _ _ _ _=>(yI sc.nd rfl (by trivial))) (fun _ _ _ _ _=>xm) (fun _ _ _ _ _=>(yE yW yV (qq (zd qd zi)) (yy wf r (by omega) (zd (zf 5 rfl) zi))))) zi)))
  (zP (Zl (Jn Ba BC BD mt_extend jt rfl (zd (ja (own:=[("_law_pattern",5)]) (vs:=[5]) rfl sc.nd (blkOk_by (by rfl)) rfl (yF (by rfl)) (xi (yL (zR r.u) zS (zf 0 rfl) qd)) (fun _ _ _ _ _=>(yI sc.nd rfl (by trivial))) (fun _ _ _ _ _=>xm) (fun _ _ _ _ _=>(yE yW yV (qq (zd qd zi)) (yy wf r (by omega) (zd (zf 5 rfl) zi))))) zi)))
  (zP (V0 PassesOwn.never rfl (xi (yL (zR r.u) zS (zf 0 rfl) qd)) (JP rfl (yC (yI sc.nd rfl (by trivial)) (yC (yI sc.nd rfl (by trivial)) (yC (yI sc.nd rfl (by trivial)) Yt)))) (ye (Zl (Jn Ba BJ BK mt_append Ze rfl (zd (yE yW yV (yE yW yV (yE yW yV (qq (zd qd (zd (zf 3 rfl) zi))) (yy wf r (by omega) (zd (zf 6 rfl) zi))) (qq (zd qd zi))) (yy wf r (by omega) (zd (zf 7 rfl) zi))) zi)))) (jZ (by rfl)))
  (ye (yq (JH (by decide) BA PySem.F.slot_str_join PySem.F.type_str_join mt_join JS qd (zd (ja (own:=[("_law_line",8)]) (vs:=[8]) rfl sc.nd (blkOk_by (by rfl)) rfl (yF (by rfl)) (xi (zf 1 rfl)) (fun _ _ _ _ _=>(yI sc.nd rfl (by trivial))) (fun _ _ _ _ _=>xm) (fun _ _ _ _ _=>(JH (by decide) BA PySem.F.slot_str_join PySem.F.type_str_join mt_join JS qd (zd (zf 8 rfl) zi)))) zi)))))))))
theorem kE (T:Tops K mg w) (wf:Oq P w K mg base) {a:Addr} {fd:FuncData} (F:Fun K "_law_world_page" "_law_world_page" (top 73) a fd) (hm:mg "_law_world_page"=some (.ref a)):Ot P w K mg base:=
 ⟨⟨a,fd,hm,F.kp,F.binds fun _ _ _ _ _ _ us hl=>(match us,hl with|[_],_=>rfl),yA F fun _ _ _ _ _ _ us hl=>(match us,hl with|[_],_=>rfl),Um T wf F⟩,zT⟩
theorem Js:FnScope ["self"] ["self"] (defScope (inClass (top 50) 2)):=⟨rfl,rfl,rfl,by decide+kernel,rfl,by decide+kernel,by decide+kernel⟩
theorem uz (T:Tops K mg w) {a:Addr} {fd:FuncData} (F:Fun K "houses" "World.houses" (inClass (top 50) 2) a fd):FnG P w K mg base CX0 1 a fd ["self"] yM:=by
 refine FnG.ofN F Js 1 0 rfl rfl ?_
 intro cd A up s0 H Ex hg hr
 have sc:=Js
 have r:Rm _ 0:=⟨hg,hr⟩
 exact(ye (yq (yL (zR r.u) zS (QR T.k_World (zf 0 rfl)) zI)))
theorem fg (T:Tops K mg w) {a:Addr} {fd:FuncData} (F:Fun K "houses" "World.houses" (inClass (top 50) 2) a fd) {C p:Addr} (hc:mg "World"=some (.ref C)) (cl:Cls K C) (hm:PropOf K C "houses" p a):PropOk P w K mg base "World" "houses" ["self"] 1 yM:=
 ⟨⟨C,p,a,fd,hc,cl,hm,F.binds fun _ _ _ _ _ _ us hl=>(match us,hl with|[_],_=>rfl),uz T F⟩,zT⟩
theorem Vb:FnScope ["self"] ["self"] (defScope (inClass (top 50) 3)):=⟨rfl,rfl,rfl,by decide+kernel,rfl,by decide+kernel,by decide+kernel⟩
theorem wB (T:Tops K mg w) {a:Addr} {fd:FuncData} (F:Fun K "slots" "World.slots" (inClass (top 50) 3) a fd):FnG P w K mg base CX0 1 a fd ["self"] yB:=by
 refine FnG.ofN F Vb 1 0 rfl rfl ?_
 intro cd A up s0 H Ex hg hr
 have sc:=Vb
 have r:Rm _ 0:=⟨hg,hr⟩
 exact(ye (yq (yL (zR r.u) zS (QR T.k_World (zf 0 rfl)) zI)))
theorem dg (T:Tops K mg w) {a:Addr} {fd:FuncData} (F:Fun K "slots" "World.slots" (inClass (top 50) 3) a fd) {C p:Addr} (hc:mg "World"=some (.ref C)) (cl:Cls K C) (hm:PropOf K C "slots" p a):PropOk P w K mg base "World" "slots" ["self"] 1 yB:=
 ⟨⟨C,p,a,fd,hc,cl,hm,F.binds fun _ _ _ _ _ _ us hl=>(match us,hl with|[_],_=>rfl),wB T F⟩,zT⟩
theorem J9:FnScope ["self"] ["self"] (defScope (inClass (top 50) 4)):=⟨rfl,rfl,rfl,by decide+kernel,rfl,by decide+kernel,by decide+kernel⟩
theorem ww (T:Tops K mg w) {a:Addr} {fd:FuncData} (F:Fun K "bears" "World.bears" (inClass (top 50) 4) a fd):FnG P w K mg base CX0 1 a fd ["self"] yQ:=by
 refine FnG.ofN F J9 1 0 rfl rfl ?_
 intro cd A up s0 H Ex hg hr
 have sc:=J9
 have r:Rm _ 0:=⟨hg,hr⟩
 exact(ye (yq (yL (zR r.u) zS (QR T.k_World (zf 0 rfl)) zI)))
theorem f7 (T:Tops K mg w) {a:Addr} {fd:FuncData} (F:Fun K "bears" "World.bears" (inClass (top 50) 4) a fd) {C p:Addr} (hc:mg "World"=some (.ref C)) (cl:Cls K C) (hm:PropOf K C "bears" p a):PropOk P w K mg base "World" "bears" ["self"] 1 yQ:=
 ⟨⟨C,p,a,fd,hc,cl,hm,F.binds fun _ _ _ _ _ _ us hl=>(match us,hl with|[_],_=>rfl),ww T F⟩,zT⟩
theorem QL:FnScope ["pattern","slot","word"] ["pattern"] (defScope (top 22)):=⟨rfl,rfl,rfl,by decide+kernel,rfl,by decide+kernel,by decide+kernel⟩
theorem kT (T:Tops K mg w) {a:Addr} {fd:FuncData} (F:Fun K "pattern_words" "pattern_words" (top 22) a fd):FnG P w K mg base CX0 1 a fd ["pattern"] yD:=by
 refine FnG.ofN F QL 1 2 rfl rfl ?_
 intro cd A up s0 H Ex hg hr
 have sc:=QL
 have r:Rm _ 0:=⟨hg,hr⟩
 exact(ye (yq (ja (own:=[("slot",1),("word",2)]) (vs:=[1,2]) rfl sc.nd (blkOk_by (by rfl)) rfl (yF (by rfl)) (xi (zf 0 rfl)) (fun _ _ _ _ _=>(JP rfl (yC (yI sc.nd rfl (by trivial)) (yC (yI sc.nd rfl (by trivial)) Yt)))) (fun _ _ _ _ _=>xm) (fun _ _ _ _ _=>(yE yW yV (yE yW yV (zf 1 rfl) (yS T.c_IS)) (zf 2 rfl))))))
theorem uI (T:Tops K mg w) {a:Addr} {fd:FuncData} (F:Fun K "pattern_words" "pattern_words" (top 22) a fd) (hm:mg "pattern_words"=some (.ref a)):iR P w K mg base:=
 ⟨⟨a,fd,hm,F.kp,F.binds fun _ _ _ _ _ _ us hl=>(match us,hl with|[_],_=>rfl),yA F fun _ _ _ _ _ _ us hl=>(match us,hl with|[_],_=>rfl),kT T F⟩,zT⟩
theorem Va:FnScope ["self"] ["self"] (defScope (inClass (top 50) 5)):=⟨rfl,rfl,rfl,by decide+kernel,rfl,by decide+kernel,by decide+kernel⟩
theorem wA (T:Tops K mg w) {a:Addr} {fd:FuncData} (F:Fun K "never" "World.never" (inClass (top 50) 5) a fd):FnG P w K mg base CX0 1 a fd ["self"] yR:=by
 refine FnG.ofN F Va 1 0 rfl rfl ?_
 intro cd A up s0 H Ex hg hr
 have sc:=Va
 have r:Rm _ 0:=⟨hg,hr⟩
 exact(ye (yq (yL (zR r.u) zS (QR T.k_World (zf 0 rfl)) zI)))
theorem de (T:Tops K mg w) {a:Addr} {fd:FuncData} (F:Fun K "never" "World.never" (inClass (top 50) 5) a fd) {C p:Addr} (hc:mg "World"=some (.ref C)) (cl:Cls K C) (hm:PropOf K C "never" p a):PropOk P w K mg base "World" "never" ["self"] 1 yR:=
 ⟨⟨C,p,a,fd,hc,cl,hm,F.binds fun _ _ _ _ _ _ us hl=>(match us,hl with|[_],_=>rfl),wA T F⟩,zT⟩
theorem Jt:FnScope ["self"] ["self"] (defScope (inClass (top 50) 6)):=⟨rfl,rfl,rfl,by decide+kernel,rfl,by decide+kernel,by decide+kernel⟩
theorem uA (T:Tops K mg w) {a:Addr} {fd:FuncData} (F:Fun K "lapses" "World.lapses" (inClass (top 50) 6) a fd):FnG P w K mg base CX0 1 a fd ["self"] yN:=by
 refine FnG.ofN F Jt 1 0 rfl rfl ?_
 intro cd A up s0 H Ex hg hr
 have sc:=Jt
 have r:Rm _ 0:=⟨hg,hr⟩
 exact(ye (yq (yL (zR r.u) zS (QR T.k_World (zf 0 rfl)) zI)))
theorem fj (T:Tops K mg w) {a:Addr} {fd:FuncData} (F:Fun K "lapses" "World.lapses" (inClass (top 50) 6) a fd) {C p:Addr} (hc:mg "World"=some (.ref C)) (cl:Cls K C) (hm:PropOf K C "lapses" p a):PropOk P w K mg base "World" "lapses" ["self"] 1 yN:=
 ⟨⟨C,p,a,fd,hc,cl,hm,F.binds fun _ _ _ _ _ _ us hl=>(match us,hl with|[_],_=>rfl),uA T F⟩,zT⟩
theorem Vd:FnScope ["lapse","house","needs","makes"] ["lapse"] (defScope (top 23)):=⟨rfl,rfl,rfl,by decide+kernel,rfl,by decide+kernel,by decide+kernel⟩
theorem wD (T:Tops K mg w) (f8:iR P w K mg base) {a:Addr} {fd:FuncData} (F:Fun K "lapse_words" "lapse_words" (top 23) a fd):FnG P w K mg base CX0 2 a fd ["lapse"] jN:=by
 refine FnG.ofN F Vd 1 3 rfl rfl ?_
 intro cd A up s0 H Ex hg hr
 have sc:=Vd
 have r:Rm _ 1:=⟨hg,hr⟩
 exact(zP (So (zf 0 rfl) (JP rfl (yC (yI sc.nd rfl (by trivial)) (yC (yI sc.nd rfl (by trivial)) (yC (yI sc.nd rfl (by trivial)) Yt)))) (jZ (by rfl)))
  (ye (yq (qq (zd (zf 1 rfl) (Uc (yy f8 r (by omega) (zd (zf 2 rfl) zi)) (zd (yS T.c_COLON) (Uc (yy f8 r (by omega) (zd (zf 3 rfl) zi)) zi))))))))
theorem di (T:Tops K mg w) (f8:iR P w K mg base) {a:Addr} {fd:FuncData} (F:Fun K "lapse_words" "lapse_words" (top 23) a fd) (hm:mg "lapse_words"=some (.ref a)):Ou P w K mg base:=
 ⟨⟨a,fd,hm,F.kp,F.binds fun _ _ _ _ _ _ us hl=>(match us,hl with|[_],_=>rfl),yA F fun _ _ _ _ _ _ us hl=>(match us,hl with|[_],_=>rfl),wD T f8 F⟩,zT⟩
theorem gS:FnScope ["words","word"] ["words"] (defScope (top 21)):=⟨rfl,rfl,rfl,by decide+kernel,rfl,by decide+kernel,by decide+kernel⟩
theorem pO (T:Tops K mg w) {a:Addr} {fd:FuncData} (F:Fun K "line_of" "line_of" (top 21) a fd):FnG P w K mg base CX0 1 a fd ["words"] QB:=by
 refine FnG.ofN F gS 1 1 rfl rfl ?_
 intro cd A up s0 H Ex hg hr
 have sc:=gS
 have r:Rm _ 0:=⟨hg,hr⟩
 exact(ye (yq (JH (by decide) BA PySem.F.slot_str_join PySem.F.type_str_join mt_join JS (yS T.c_BLANK) (zd (ja (own:=[("word",1)]) (vs:=[1]) rfl sc.nd (blkOk_by (by rfl)) rfl (yF (by rfl)) (xi (zf 0 rfl)) (fun _ _ _ _ _=>(yI sc.nd rfl (by trivial))) (fun _ _ _ _ _=>xm) (fun _ _ _ _ _=>(yU eZ Nk T.z_str PyProof.Rows.boot_str (zd (zf 1 rfl) zi)))) zi))))
theorem iJ (T:Tops K mg w) {a:Addr} {fd:FuncData} (F:Fun K "line_of" "line_of" (top 21) a fd) (hm:mg "line_of"=some (.ref a)):Ov P w K mg base:=
 ⟨⟨a,fd,hm,F.kp,F.binds fun _ _ _ _ _ _ us hl=>(match us,hl with|[_],_=>rfl),yA F fun _ _ _ _ _ _ us hl=>(match us,hl with|[_],_=>rfl),pO T F⟩,zT⟩
theorem V_:FnScope ["world","lines","name","house","words","pattern","lapse","line"] ["world"] (defScope (top 24)):=⟨rfl,rfl,rfl,by decide+kernel,rfl,by decide+kernel,by decide+kernel⟩
theorem fV (T:Tops K mg w) (r7:PropOk P w K mg base "World" "houses" ["self"] 1 yM) (dl:PropOk P w K mg base "World" "slots" ["self"] 1 yB) (r8:PropOk P w K mg base "World" "bears" ["self"] 1 yQ) (f8:iR P w K mg base) (r9:PropOk P w K mg base "World" "never" ["self"] 1 yR) (tB:PropOk P w K mg base "World" "lapses" ["self"] 1 yN) (Au:Ou P w K mg base) (Av:Ov P w K mg base) {a:Addr} {fd:FuncData} (F:Fun K "show_world" "show_world" (top 24) a fd):FnG P w K mg base CX0 3 a fd ["world"] xZ:=by
 refine FnG.ofN F V_ 1 7 rfl rfl ?_
 intro cd A up s0 H Ex hg hr
 have sc:=V_
 have r:Rm _ 2:=⟨hg,hr⟩
 exact(zP (xE (i:=1) sc.nd rfl (qq (zd (qq (zd qd (Uc (Zf r7 r (by omega) (zf 0 rfl)) zi))) zi)))
  (zP (Zl (Jn Ba BC BD mt_extend jt rfl (zd (ja (own:=[("name",2),("house",3),("words",4)]) (vs:=[2,3,4]) rfl sc.nd (blkOk_by (by rfl)) rfl (yF (by rfl)) (xi (Zf dl r (by omega) (zf 0 rfl))) (fun _ _ _ _ _=>(JP rfl (yC (yI sc.nd rfl (by trivial)) (yC (yI sc.nd rfl (by trivial)) (yC (yI sc.nd rfl (by trivial)) Yt))))) (fun _ _ _ _ _=>xm) (fun _ _ _ _ _=>(qq (zd qd (zd (zf 2 rfl) (zd (zf 3 rfl) (Uc (zf 4 rfl) zi))))))) zi)))
  (zP (Zl (Jn Ba BC BD mt_extend jt rfl (zd (ja (own:=[("pattern",5)]) (vs:=[5]) rfl sc.nd (blkOk_by (by rfl)) rfl (yF (by rfl)) (xi (Zf r8 r (by omega) (zf 0 rfl))) (fun _ _ _ _ _=>(yI sc.nd rfl (by trivial))) (fun _ _ _ _ _=>xm) (fun _ _ _ _ _=>(qq (zd qd (Uc (yy f8 r (by omega) (zd (zf 5 rfl) zi)) zi))))) zi)))
  (zP (Zl (Jn Ba BC BD mt_extend jt rfl (zd (ja (own:=[("pattern",5)]) (vs:=[5]) rfl sc.nd (blkOk_by (by rfl)) rfl (yF (by rfl)) (xi (Zf r9 r (by omega) (zf 0 rfl))) (fun _ _ _ _ _=>(yI sc.nd rfl (by trivial))) (fun _ _ _ _ _=>xm) (fun _ _ _ _ _=>(qq (zd qd (Uc (yy f8 r (by omega) (zd (zf 5 rfl) zi)) zi))))) zi)))
  (zP (Zl (Jn Ba BC BD mt_extend jt rfl (zd (ja (own:=[("lapse",6)]) (vs:=[6]) rfl sc.nd (blkOk_by (by rfl)) rfl (yF (by rfl)) (xi (Zf tB r (by omega) (zf 0 rfl))) (fun _ _ _ _ _=>(yI sc.nd rfl (by trivial))) (fun _ _ _ _ _=>xm) (fun _ _ _ _ _=>(qq (zd qd (Uc (yy Au r (by omega) (zd (zf 6 rfl) zi)) zi))))) zi)))
  (ye (yq (JH (by decide) BA PySem.F.slot_str_join PySem.F.type_str_join mt_join JS (yS T.c_FEED) (zd (ja (own:=[("line",7)]) (vs:=[7]) rfl sc.nd (blkOk_by (by rfl)) rfl (yF (by rfl)) (xi (zf 1 rfl)) (fun _ _ _ _ _=>(yI sc.nd rfl (by trivial))) (fun _ _ _ _ _=>xm) (fun _ _ _ _ _=>(yy Av r (by omega) (zd (zf 7 rfl) zi)))) zi)))))))))
theorem c7 (T:Tops K mg w) (r7:PropOk P w K mg base "World" "houses" ["self"] 1 yM) (dl:PropOk P w K mg base "World" "slots" ["self"] 1 yB) (r8:PropOk P w K mg base "World" "bears" ["self"] 1 yQ) (f8:iR P w K mg base) (r9:PropOk P w K mg base "World" "never" ["self"] 1 yR) (tB:PropOk P w K mg base "World" "lapses" ["self"] 1 yN) (Au:Ou P w K mg base) (Av:Ov P w K mg base) {a:Addr} {fd:FuncData} (F:Fun K "show_world" "show_world" (top 24) a fd) (hm:mg "show_world"=some (.ref a)):Ow P w K mg base:=
 ⟨⟨a,fd,hm,F.kp,F.binds fun _ _ _ _ _ _ us hl=>(match us,hl with|[_],_=>rfl),yA F fun _ _ _ _ _ _ us hl=>(match us,hl with|[_],_=>rfl),fV T r7 dl r8 f8 r9 tB Au Av F⟩,zT⟩
theorem ud:FnScope ["text","line"] ["text"] (defScope (top 55)):=⟨rfl,rfl,rfl,by decide+kernel,rfl,by decide+kernel,by decide+kernel⟩
theorem mI (T:Tops K mg w) (u8:ErrOk P w K mg base "BadText" "line") {a:Addr} {fd:FuncData} (F:Fun K "lines_of" "lines_of" (top 55) a fd):FnG P w K mg base (L2.CX P w) 3 a fd ["text"] jv:=by
 refine FnG.ofX F ud 1 1 rfl rfl ?_
 intro cd A up s0 H Ex hg hr tk
 have sc:=ud
 have r:Rm _ 2:=⟨hg,hr⟩
 exact(zP (YH (qC (xU (yt call_isi Vy T.z_isinstance BL (zd (zf 0 rfl) (zd (eI T.z_str PyProof.Rows.boot_str) zi))))) (ye (uQ u8 r (by omega) rfl tk (zd XG zi))) jm)
  (ye (yq (ja (own:=[("line",1)]) (vs:=[1]) rfl sc.nd (blkOk_by (by rfl)) rfl (yF (by rfl)) (xi (JH (by decide) BA PySem.F.slot_str_split PySem.F.type_str_split mt_split vC (zf 0 rfl) (zd (yS T.c_FEED) zi))) (fun _ _ _ _ _=>(yI sc.nd rfl (by trivial))) (fun _ _ _ _ _=>xm) (fun _ _ _ _ _=>(JH (by decide) BA PySem.F.slot_str_split PySem.F.type_str_split mt_split vC (zf 1 rfl) (zd (yS T.c_BLANK) zi)))))))
theorem nW (T:Tops K mg w) (u8:ErrOk P w K mg base "BadText" "line") {a:Addr} {fd:FuncData} (F:Fun K "lines_of" "lines_of" (top 55) a fd) (hm:mg "lines_of"=some (.ref a)):DefX P w K mg base "lines_of" ["text"] 3 jv:=
 ⟨⟨a,fd,hm,F.kp,F.binds fun _ _ _ _ _ _ us hl=>(match us,hl with|[_],_=>rfl),yA F fun _ _ _ _ _ _ us hl=>(match us,hl with|[_],_=>rfl),mI T u8 F⟩,zT⟩
theorem ue:FnScope ["words","least","word"] ["words","least"] (defScope (top 56)):=⟨rfl,rfl,rfl,by decide+kernel,rfl,by decide+kernel,by decide+kernel⟩
theorem mJ (T:Tops K mg w) (bi:bH P w K mg base) {a:Addr} {fd:FuncData} (F:Fun K "names_in" "names_in" (top 56) a fd):FnG P w K mg base CX0 2 a fd ["words","least"] qk:=by
 refine FnG.ofN F ue 2 1 rfl rfl ?_
 intro cd A up s0 H Ex hg hr
 have sc:=ue
 have r:Rm _ 1:=⟨hg,hr⟩
 exact(ye (yq (dA (PW.pt (lU (xH op_ge t_ (yt qK ZR T.z_len PySem.boot_len (zd (zf 0 rfl) zi)) (zf 1 rfl)) (lT (xU (yt (cr_all rfl) jT T.z_all Bm (zd (ja (own:=[("word",2)]) (vs:=[2]) rfl sc.nd (blkOk_by (by rfl)) rfl (yF (by rfl)) (xi (zf 0 rfl)) (fun _ _ _ _ _=>(yI sc.nd rfl (by trivial))) (fun _ _ _ _ _=>xm) (fun _ _ _ _ _=>(yy bi r (by omega) (zd (zf 2 rfl) zi)))) zi)))))) (yU xw xC T.z_tuple Bb (zd (zf 0 rfl) zi)) XG)))
theorem nX (T:Tops K mg w) (bi:bH P w K mg base) {a:Addr} {fd:FuncData} (F:Fun K "names_in" "names_in" (top 56) a fd) (hm:mg "names_in"=some (.ref a)):lQ P w K mg base:=
 ⟨⟨a,fd,hm,F.kp,F.binds fun _ _ _ _ _ _ us hl=>(match us,hl with|[_,_],_=>rfl),yA F fun _ _ _ _ _ _ us hl=>(match us,hl with|[_,_],_=>rfl),mJ T bi F⟩,zT⟩
theorem Jy:FnScope ["words","names"] ["words"] (defScope (top 60)):=⟨rfl,rfl,rfl,by decide+kernel,rfl,by decide+kernel,by decide+kernel⟩
theorem uF (T:Tops K mg w) (fm:lQ P w K mg base) {a:Addr} {fd:FuncData} (F:Fun K "two_and_more" "two_and_more" (top 60) a fd):FnG P w K mg base CX0 3 a fd ["words"] jw:=by
 refine FnG.ofN F Jy 1 1 rfl rfl ?_
 intro cd A up s0 H Ex hg hr
 have sc:=Jy
 have r:Rm _ 2:=⟨hg,hr⟩
 exact(zP (xE (i:=1) sc.nd rfl (yy fm r (by omega) (zd (zf 0 rfl) (zd (yS T.c_PAIR_reading) zi))))
  (ye (yq (dA (xH cy ci (zf 1 rfl) XG) XG (Z1 (zd (yL (zR r.u) zS (zf 1 rfl) zI) (zd (yL (zR r.u) zS (zf 1 rfl) zI) (zd (ZG (zf 1 rfl) (Z4 zI) YN) zi))))))))
theorem fC (T:Tops K mg w) (fm:lQ P w K mg base) {a:Addr} {fd:FuncData} (F:Fun K "two_and_more" "two_and_more" (top 60) a fd) (hm:mg "two_and_more"=some (.ref a)):Ox P w K mg base:=
 ⟨⟨a,fd,hm,F.kp,F.binds fun _ _ _ _ _ _ us hl=>(match us,hl with|[_],_=>rfl),yA F fun _ _ _ _ _ _ us hl=>(match us,hl with|[_],_=>rfl),uF T fm F⟩,zT⟩
theorem V8:FnScope ["words","pairs","word","pair"] ["words"] (defScope (top 57)):=⟨rfl,rfl,rfl,by decide+kernel,rfl,by decide+kernel,by decide+kernel⟩
theorem fT (T:Tops K mg w) (fm:lQ P w K mg base) {a:Addr} {fd:FuncData} (F:Fun K "pattern_in" "pattern_in" (top 57) a fd):FnG P w K mg base CX0 3 a fd ["words"] xY:=by
 refine FnG.ofN F V8 1 3 rfl rfl ?_
 intro cd A up s0 H Ex hg hr
 have sc:=V8
 have r:Rm _ 2:=⟨hg,hr⟩
 exact(zP (cK (own:=[("word",2)]) (vs:=[2]) rfl sc.nd rfl (sw_true rfl rfl rfl rfl) (blkOk_by (by rfl)) rfl (yF (by rfl)) (xi (zf 0 rfl)) (fun _ _ _ _ _=>(yI sc.nd rfl (by trivial))) (fun _ _ _ _ _=>xm) (fun _ _ _ _ _=>(yU xw xC T.z_tuple Bb (zd (JH (by decide) BA PySem.F.slot_str_split PySem.F.type_str_split mt_split vC (zf 2 rfl) (zd (yS T.c_IS) zi)) zi))))
  (ye (yq (dA (xU (yt (cr_all rfl) jT T.z_all Bm (zd (ja (own:=[("pair",3)]) (vs:=[3]) rfl sc.nd (blkOk_by (by rfl)) rfl (yF (by rfl)) (xi (zf 1 rfl)) (fun _ _ _ _ _=>(yI sc.nd rfl (by trivial))) (fun _ _ _ _ _=>xm) (fun _ _ _ _ _=>(jj (ZF (jx r.u) js (yt qK ZR T.z_len PySem.boot_len (zd (zf 3 rfl) zi)) (yS T.c_PAIR_reading)) (Xa (ZF MY Mz (yy fm r (by omega) (zd (zf 3 rfl) (zd (yS T.c_PAIR_reading) zi))) XG))))) zi))) (yU xw xC T.z_tuple Bb (zd (zf 1 rfl) zi)) XG))))
theorem cZ (T:Tops K mg w) (fm:lQ P w K mg base) {a:Addr} {fd:FuncData} (F:Fun K "pattern_in" "pattern_in" (top 57) a fd) (hm:mg "pattern_in"=some (.ref a)):iS P w K mg base:=
 ⟨⟨a,fd,hm,F.kp,F.binds fun _ _ _ _ _ _ us hl=>(match us,hl with|[_],_=>rfl),yA F fun _ _ _ _ _ _ us hl=>(match us,hl with|[_],_=>rfl),fT T fm F⟩,zT⟩
theorem Z3:FnScope ["parts","found"] ["parts"] (defScope (top 59)):=⟨rfl,rfl,rfl,by decide+kernel,rfl,by decide+kernel,by decide+kernel⟩
theorem JB (T:Tops K mg w) (gt:iS P w K mg base) (bi:bH P w K mg base) {a:Addr} {fd:FuncData} (F:Fun K "house_and_patterns" "house_and_patterns" (top 59) a fd):FnG P w K mg base CX0 4 a fd ["parts"] xj:=by
 refine FnG.ofN F Z3 1 1 rfl rfl ?_
 intro cd A up s0 H Ex hg hr
 have sc:=Z3
 have r:Rm _ 3:=⟨hg,hr⟩
 exact(zP (YH (PW.pt (Xb (xH (gB r.u) gq (yt qK ZR T.z_len PySem.boot_len (zd (zf 0 rfl) zi)) (yS T.c_PAIR_reading)) (Jo (xH (aA r.u) mC (yL (zR r.u) zS (zf 0 rfl) zI) (qq zi))))) (ye (yq XG)) jm)
  (zP (xE (i:=1) sc.nd rfl (Z1 (zd (yL (zR r.u) zS (yL (zR r.u) zS (zf 0 rfl) zI) zI) (zd (yy gt r (by omega) (zd (ZG (yL (zR r.u) zS (zf 0 rfl) zI) (Z4 zI) YN) zi)) (zd (yy gt r (by omega) (zd (yL (zR r.u) zS (zf 0 rfl) zI) zi)) zi)))))
  (ye (yq (dA (PW.pt (lU (xU (yy bi r (by omega) (zd (yL (zR r.u) zS (zf 1 rfl) zI) zi))) (lT (xH (Px r.u) MS XG (zf 1 rfl))))) (zf 1 rfl) XG)))))
theorem Vr (T:Tops K mg w) (gt:iS P w K mg base) (bi:bH P w K mg base) {a:Addr} {fd:FuncData} (F:Fun K "house_and_patterns" "house_and_patterns" (top 59) a fd) (hm:mg "house_and_patterns"=some (.ref a)):Oy P w K mg base:=
 ⟨⟨a,fd,hm,F.kp,F.binds fun _ _ _ _ _ _ us hl=>(match us,hl with|[_],_=>rfl),yA F fun _ _ _ _ _ _ us hl=>(match us,hl with|[_],_=>rfl),JB T gt bi F⟩,zT⟩
theorem uf:FnScope ["words","parts","word","*"] ["words"] (defScope (top 58)):=⟨rfl,rfl,rfl,by decide+kernel,rfl,by decide+kernel,by decide+kernel⟩
theorem mK (T:Tops K mg w) {a:Addr} {fd:FuncData} (F:Fun K "parts_of" "parts_of" (top 58) a fd):FnM P w K mg base CX0 1 a fd ["words"] vS:=by
 refine FnM.ofN (gh:="*") F uf 1 2 rfl rfl rfl (by decide+kernel) ?_
 intro cd A up s0 H Ex hg hr
 have sc:=uf
 have r:Rm _ 0:=⟨hg,hr⟩
 exact(zP (xE (i:=1) sc.nd rfl (bK (qq (zd (bK (qq zi)) zi))))
  (zP (V0 PassesOwn.never rfl (xi (zf 0 rfl)) (yI sc.nd rfl (by trivial)) (ye (YH (xH (jx r.u) js (zf 2 rfl) (yS T.c_COLON)) (ye (Zl (lV Ba BJ BK mt_append Ze (VO (zf 1 rfl)) (zd (bK (qq zi)) zi)))) (ye (Zl (lV Ba BJ BK mt_append Ze (VO (yL (zR r.u) zS (VO (zf 1 rfl)) (Rj zI))) (zd (zf 2 rfl) zi)))))) (jZ (by rfl)))
  (ye (yq (OH (VO (zf 1 rfl)))))))
theorem nY (T:Tops K mg w) {a:Addr} {fd:FuncData} (F:Fun K "parts_of" "parts_of" (top 58) a fd) (hm:mg "parts_of"=some (.ref a)):Oz P w K mg base:=
 ⟨⟨a,fd,hm,F.kp,F.binds fun _ _ _ _ _ _ us hl=>(match us,hl with|[_],_=>rfl),yA F fun _ _ _ _ _ _ us hl=>(match us,hl with|[_],_=>rfl),Cb (mK T F)⟩,m_ rh⟩
theorem uh:FnScope ["words","kind","rest"] ["words"] (defScope (top 61)):=⟨rfl,rfl,rfl,by decide+kernel,rfl,by decide+kernel,by decide+kernel⟩
theorem mM (T:Tops K mg w) (fm:lQ P w K mg base) (Aw:Ox P w K mg base) (gt:iS P w K mg base) (Ax:Oy P w K mg base) (Ay:Oz P w K mg base) {a:Addr} {fd:FuncData} (F:Fun K "thing_in" "thing_in" (top 61) a fd):FnG P w K mg base CX0 5 a fd ["words"] Yb:=by
 refine FnG.ofN F uh 1 2 rfl rfl ?_
 intro cd A up s0 H Ex hg hr
 have sc:=uh
 have r:Rm _ 4:=⟨hg,hr⟩
 exact(zP (nJ (i:=1) (j:=2) rfl sc.nd rfl rfl (zd (yL (zR r.u) zS (zf 0 rfl) zI) (zd (ZG (zf 0 rfl) (Z4 zI) YN) zi)) (by rfl))
  (zP (YH (xH (jx r.u) js (zf 1 rfl) (yL (zR r.u) zS (yS T.c_KINDS) zI)) (ye (yq (yy fm r (by omega) (zd (zf 2 rfl) (zd zI zi))))) jm)
  (zP (YH (xH (jx r.u) js (zf 1 rfl) (yL (zR r.u) zS (yS T.c_KINDS) zI)) (ye (yq (yy Aw r (by omega) (zd (zf 2 rfl) zi)))) jm)
  (zP (YH (xH (cx r.u) cb (zf 1 rfl) (yS T.c_PATTERN_KINDS)) (ye (yq (yy gt r (by omega) (zd (zf 2 rfl) zi)))) jm)
  (ye (yq (dA (xH (cx r.u) cb (zf 1 rfl) (yS T.c_KINDS)) (yy Ax r (by omega) (zd (yy Ay r (by omega) (zd (zf 2 rfl) zi)) zi)) XG)))))))
theorem n0 (T:Tops K mg w) (fm:lQ P w K mg base) (Aw:Ox P w K mg base) (gt:iS P w K mg base) (Ax:Oy P w K mg base) (Ay:Oz P w K mg base) {a:Addr} {fd:FuncData} (F:Fun K "thing_in" "thing_in" (top 61) a fd) (hm:mg "thing_in"=some (.ref a)):OA P w K mg base:=
 ⟨⟨a,fd,hm,F.kp,F.binds fun _ _ _ _ _ _ us hl=>(match us,hl with|[_],_=>rfl),yA F fun _ _ _ _ _ _ us hl=>(match us,hl with|[_],_=>rfl),mM T fm Aw gt Ax Ay F⟩,zT⟩
theorem kr:FnScope ["kind","last"] ["kind","last"] (defScope (top 62)):=⟨rfl,rfl,rfl,by decide+kernel,rfl,by decide+kernel,by decide+kernel⟩
theorem bZ (T:Tops K mg w) {a:Addr} {fd:FuncData} (F:Fun K "can_stand" "can_stand" (top 62) a fd):FnG P w K mg base CX0 1 a fd ["kind","last"] ju:=by
 refine FnG.ofN F kr 2 0 rfl rfl ?_
 intro cd A up s0 H Ex hg hr
 have sc:=kr
 have r:Rm _ 0:=⟨hg,hr⟩
 exact(zP (YH (PW.pt (Xb (xH cy ci (zf 1 rfl) XG) (Jo (xH (jx r.u) js (zf 0 rfl) (yL (zR r.u) zS (yS T.c_KINDS) zI))))) (ye (yq (jj (ZF cy ci (zf 1 rfl) XG) (Xa (ZF (jx r.u) js (zf 0 rfl) (yL (zR r.u) zS (yS T.c_KINDS) zI)))))) jm)
  (ye (yq (ZF vm kZ (uW Ba PySem.F.slot_list_index PySem.F.type_list_index (ak r.u) PySem.F.plainAttrs_tuple PySem.F.slot_tuple_index PySem.F.type_tuple_index (ao r.u) mU (yS T.c_KINDS) (zd (zf 1 rfl) zi)) (uW Ba PySem.F.slot_list_index PySem.F.type_list_index (ak r.u) PySem.F.plainAttrs_tuple PySem.F.slot_tuple_index PySem.F.type_tuple_index (ao r.u) mU (yS T.c_KINDS) (zd (zf 0 rfl) zi))))))
theorem lJ (T:Tops K mg w) {a:Addr} {fd:FuncData} (F:Fun K "can_stand" "can_stand" (top 62) a fd) (hm:mg "can_stand"=some (.ref a)):OB P w K mg base:=
 ⟨⟨a,fd,hm,F.kp,F.binds fun _ _ _ _ _ _ us hl=>(match us,hl with|[_,_],_=>rfl),yA F fun _ _ _ _ _ _ us hl=>(match us,hl with|[_,_],_=>rfl),bZ T F⟩,zT⟩
theorem V9:FnScope ["text","found","last","kind","number","words","thing","slots","bears","never","lapses","*"] ["text"] (defScope (top 63)):=⟨rfl,rfl,rfl,by decide+kernel,rfl,by decide+kernel,by decide+kernel⟩
theorem fU (T:Tops K mg w) (Az:DefX P w K mg base "lines_of" ["text"] 3 jv) (AB:OA P w K mg base) (AC:OB P w K mg base) (u8:ErrOk P w K mg base "BadText" "line") (r6:NewX P w K mg base "World" ["self","houses","slots","bears","never","lapses"] 7 yp) {a:Addr} {fd:FuncData} (F:Fun K "read_world" "read_world" (top 63) a fd):FnM P w K mg base (L2.CX P w) 9 a fd ["text"] Qg:=by
 refine FnM.ofX (gh:="*") F V9 1 10 rfl rfl rfl (by decide+kernel) ?_
 intro cd A up s0 H Ex hg hr tk
 have sc:=V9
 have r:Rm _ 8:=⟨hg,hr⟩
 exact(zP (nK (is:=[1,2]) rfl (pgs_cons (pg_name (i:=1) sc.nd rfl (by trivial)) (pgs_cons (pg_name (i:=2) sc.nd rfl (by trivial)) pgs_nil)) (zd (Rh (own:=[("kind",3)]) (vs:=[3]) rfl sc.nd (blkOk_by (by rfl)) rfl (yF (by rfl)) (xi (yS T.c_KINDS)) (fun _ _ _ _ _=>(yI sc.nd rfl (by trivial))) (fun _ _ _ _ _=>xm) (fun _ _ _ _ _=>(zf 3 rfl)) (fun _ _ _ _ _=>(bK (qq zi)))) (zd XG zi)) (by decide))
  (zP (V0 (passes_of rfl) rfl (b_ rfl T.z_enumerate (zd (Ny Az r tk (by omega) (zd (zf 0 rfl) zi)) zi)) (JP rfl (yC (yI sc.nd rfl (by trivial)) (yC (yI sc.nd rfl (by trivial)) Yt))) (zP (xE (i:=6) sc.nd rfl (yy AB r (by omega) (zd (zf 5 rfl) zi)))
  (zP (YH (PW.pt (Xb (xH cy ci (zf 6 rfl) XG) (Jo (qC (xU (yy AC r (by omega) (zd (yL (zR r.u) zS (zf 5 rfl) zI) (zd (zf 2 rfl) zi)))))))) (ye (uQ u8 r (by omega) rfl tk (zd (zf 4 rfl) zi))) jm)
  (zP (xE (i:=2) sc.nd rfl (yL (zR r.u) zS (zf 5 rfl) zI))
  (ye (Zl (lV Ba BJ BK mt_append Ze (VO (yL (zR r.u) zS (VO (zf 1 rfl)) (zf 2 rfl))) (zd (zf 6 rfl) zi))))))) (jZ (by rfl)))
  (zP (So (ja (own:=[("kind",3)]) (vs:=[3]) rfl sc.nd (blkOk_by (by rfl)) rfl (yF (by rfl)) (xi (ZG (yS T.c_KINDS) (Z4 zI) YN)) (fun _ _ _ _ _=>(yI sc.nd rfl (by trivial))) (fun _ _ _ _ _=>xm) (fun _ _ _ _ _=>(yU xw xC T.z_tuple Bb (zd (VO (yL (zR r.u) zS (VO (zf 1 rfl)) (zf 3 rfl))) zi)))) (JP rfl (yC (yI sc.nd rfl (by trivial)) (yC (yI sc.nd rfl (by trivial)) (yC (yI sc.nd rfl (by trivial)) (yC (yI sc.nd rfl (by trivial)) Yt))))) (jZ (by rfl)))
  (ye (yq (Nw (tj r6 r tk (by omega) (zd (yL (zR r.u) zS (VO (yL (zR r.u) zS (VO (zf 1 rfl)) qd)) zI) (zd (zf 7 rfl) (zd (zf 8 rfl) (zd (zf 9 rfl) (zd (zf 10 rfl) zi))))))))))))
theorem c6 (T:Tops K mg w) (Az:DefX P w K mg base "lines_of" ["text"] 3 jv) (AB:OA P w K mg base) (AC:OB P w K mg base) (u8:ErrOk P w K mg base "BadText" "line") (r6:NewX P w K mg base "World" ["self","houses","slots","bears","never","lapses"] 7 yp) {a:Addr} {fd:FuncData} (F:Fun K "read_world" "read_world" (top 63) a fd) (hm:mg "read_world"=some (.ref a)):DefX P w K mg base "read_world" ["text"] 9 xh:=
 ⟨⟨a,fd,hm,F.kp,F.binds fun _ _ _ _ _ _ us hl=>(match us,hl with|[_],_=>rfl),yA F fun _ _ _ _ _ _ us hl=>(match us,hl with|[_],_=>rfl),Cb (fU T Az AB AC u8 r6 F)⟩,m_ rh⟩
theorem Jr:FnScope ["self","other"] ["self","other"] (defScope (inClass (top 50) 1)):=⟨rfl,rfl,rfl,by decide+kernel,rfl,by decide+kernel,by decide+kernel⟩
theorem uy (T:Tops K mg w) {a:Addr} {fd:FuncData} (F:Fun K "__eq__" "World.__eq__" (inClass (top 50) 1) a fd):FnG P w K mg base CX0 1 a fd ["self","other"] yZ:=by
 refine FnG.ofN F Jr 2 0 rfl rfl ?_
 intro cd A up s0 H Ex hg hr
 have sc:=Jr
 have r:Rm _ 0:=⟨hg,hr⟩
 exact(ye (yq (jj (yt call_isi (My T.i_World) T.z_isinstance BL (zd (zf 1 rfl) (zd (yS (O4 T.i_World)) zi))) (Xa (ZF (jx r.u) js (QR T.k_World (zf 0 rfl)) (QR T.k_World (zf 1 rfl)))))))
theorem g_ (T:Tops K mg w) {a:Addr} {fd:FuncData} (F:Fun K "__eq__" "World.__eq__" (inClass (top 50) 1) a fd) {C:Addr} (hc:mg "World"=some (.ref C)) (hm:EqK K C a):EqOk P w K mg base "World" ["self","other"] 1 yZ:=
 ⟨⟨C,a,fd,hc,hm,F.binds fun _ _ _ _ _ _ us hl=>(match us,hl with|[_,_],_=>rfl),uy T F⟩,zT⟩
theorem V3:FnScope ["_law_home"] ["_law_home"] (defScope (top 75)):=⟨rfl,rfl,rfl,by decide+kernel,rfl,by decide+kernel,by decide+kernel⟩
theorem fO (T:Tops K mg w) (r7:PropOk P w K mg base "World" "houses" ["self"] 1 yM) (dl:PropOk P w K mg base "World" "slots" ["self"] 1 yB) (r8:PropOk P w K mg base "World" "bears" ["self"] 1 yQ) (r9:PropOk P w K mg base "World" "never" ["self"] 1 yR) (tB:PropOk P w K mg base "World" "lapses" ["self"] 1 yN) {a:Addr} {fd:FuncData} (F:Fun K "_law_parts" "_law_parts" (top 75) a fd):FnG P w K mg base CX0 3 a fd ["_law_home"] qz:=by
 refine FnG.ofN F V3 1 0 rfl rfl ?_
 intro cd A up s0 H Ex hg hr
 have sc:=V3
 have r:Rm _ 2:=⟨hg,hr⟩
 exact(ye (yq (yt (l_ r.g r.u r.u65) ip T.z_repr PyProof.Rows.boot_repr (zd (qq (zd (Zf r7 r (by omega) (zf 0 rfl)) (zd (Zf dl r (by omega) (zf 0 rfl)) (zd (Zf r8 r (by omega) (zf 0 rfl)) (zd (Zf r9 r (by omega) (zf 0 rfl)) (zd (Zf tB r (by omega) (zf 0 rfl)) zi)))))) zi))))
theorem cU (T:Tops K mg w) (r7:PropOk P w K mg base "World" "houses" ["self"] 1 yM) (dl:PropOk P w K mg base "World" "slots" ["self"] 1 yB) (r8:PropOk P w K mg base "World" "bears" ["self"] 1 yQ) (r9:PropOk P w K mg base "World" "never" ["self"] 1 yR) (tB:PropOk P w K mg base "World" "lapses" ["self"] 1 yN) {a:Addr} {fd:FuncData} (F:Fun K "_law_parts" "_law_parts" (top 75) a fd) (hm:mg "_law_parts"=some (.ref a)):OC P w K mg base:=
 ⟨⟨a,fd,hm,F.kp,F.binds fun _ _ _ _ _ _ us hl=>(match us,hl with|[_],_=>rfl),yA F fun _ _ _ _ _ _ us hl=>(match us,hl with|[_],_=>rfl),fO T r7 dl r8 r9 tB F⟩,zT⟩
theorem Ju:FnScope ["self"] ["self"] (defScope (inClass (top 50) 8)):=⟨rfl,rfl,rfl,by decide+kernel,rfl,by decide+kernel,by decide+kernel⟩
theorem uB (T:Tops K mg w) {a:Addr} {fd:FuncData} (F:Fun K "stands" "World.stands" (inClass (top 50) 8) a fd):FnG P w K mg base CX0 1 a fd ["self"] yO:=by
 refine FnG.ofN F Ju 1 0 rfl rfl ?_
 intro cd A up s0 H Ex hg hr
 have sc:=Ju
 have r:Rm _ 0:=⟨hg,hr⟩
 exact(ye (yq (QR T.k_World (zf 0 rfl))))
theorem fq (T:Tops K mg w) {a:Addr} {fd:FuncData} (F:Fun K "stands" "World.stands" (inClass (top 50) 8) a fd) {C p:Addr} (hc:mg "World"=some (.ref C)) (cl:Cls K C) (hm:PropOf K C "stands" p a):PropOk P w K mg base "World" "stands" ["self"] 1 yO:=
 ⟨⟨C,p,a,fd,hc,cl,hm,F.binds fun _ _ _ _ _ _ us hl=>(match us,hl with|[_],_=>rfl),uB T F⟩,zT⟩
theorem J_:FnScope ["self"] ["self"] (defScope (inClass (top 50) 7)):=⟨rfl,rfl,rfl,by decide+kernel,rfl,by decide+kernel,by decide+kernel⟩
theorem wx (T:Tops K mg w) (r5:iQ P w K mg base) (dl:PropOk P w K mg base "World" "slots" ["self"] 1 yB) {a:Addr} {fd:FuncData} (F:Fun K "first" "World.first" (inClass (top 50) 7) a fd):FnG P w K mg base CX0 3 a fd ["self"] y9:=by
 refine FnG.ofN F J_ 1 0 rfl rfl ?_
 intro cd A up s0 H Ex hg hr
 have sc:=J_
 have r:Rm _ 2:=⟨hg,hr⟩
 exact(ye (yq (yy r5 r (by omega) (zd (Zf dl r (by omega) (zf 0 rfl)) zi))))
theorem f_ (T:Tops K mg w) (r5:iQ P w K mg base) (dl:PropOk P w K mg base "World" "slots" ["self"] 1 yB) {a:Addr} {fd:FuncData} (F:Fun K "first" "World.first" (inClass (top 50) 7) a fd) {C p:Addr} (hc:mg "World"=some (.ref C)) (cl:Cls K C) (hm:PropOf K C "first" p a):PropOk P w K mg base "World" "first" ["self"] 3 y9:=
 ⟨⟨C,p,a,fd,hc,cl,hm,F.binds fun _ _ _ _ _ _ us hl=>(match us,hl with|[_],_=>rfl),wx T r5 dl F⟩,zT⟩
theorem V4:FnScope ["_law_jar_here","_law_lore","_law_made_here","_law_page","_law_home"] ["_law_jar_here"] (defScope (top 76)):=⟨rfl,rfl,rfl,by decide+kernel,rfl,by decide+kernel,by decide+kernel⟩
theorem fP (T:Tops K mg w) (AD:D_6 P w K mg base) (AE:Oo P w K mg base) (AF:Ot P w K mg base) (wE:Ow P w K mg base) (zc:DefX P w K mg base "read_world" ["text"] 9 xh) (Aa:EqOk P w K mg base "World" ["self","other"] 1 yZ) (Ab:OC P w K mg base) (Ac:PropOk P w K mg base "World" "stands" ["self"] 1 yO) (Ae:PropOk P w K mg base "World" "first" ["self"] 3 y9) {a:Addr} {fd:FuncData} (F:Fun K "_law_right" "_law_right" (top 76) a fd):FnG P w K mg base CX0 10 a fd ["_law_jar_here"] jA:=by
 refine FnG.ofN F V4 1 4 rfl rfl ?_
 intro cd A up s0 H Ex hg hr
 have sc:=V4
 have r:Rm _ 9:=⟨hg,hr⟩
 exact(zP (xE (i:=1) sc.nd rfl (yy AD r (by omega) (zd (zf 0 rfl) zi)))
  (zP (nJ (i:=2) (j:=3) rfl sc.nd rfl rfl (zd (yy AE r (by omega) (zd (zf 1 rfl) zi)) (zd (yy AF r (by omega) (zd (zf 1 rfl) zi)) zi)) (by rfl))
  (zP (YH (PW.pt (Xb (xH (gB r.u) gq (yy wE r (by omega) (zd (zf 2 rfl) zi)) (zf 3 rfl)) (Jo (xH (gB r.u) gq (Rp wE r (by omega) (Kl (zf 2 rfl) NE)) (zf 3 rfl))))) (ye (yq ux)) jm)
  (zP (xE (i:=4) sc.nd rfl (lW (Ny zc r nQ (by omega) (zd (zf 3 rfl) zi))))
  (zP (YH (PW.pt (Xb (Oa (neg:=true) Aa r (by omega) (zf 4 rfl) (zf 2 rfl)) (Xb (xH (gB r.u) gq (yy Ab r (by omega) (zd (zf 4 rfl) zi)) (yy Ab r (by omega) (zd (zf 2 rfl) zi))) (Jo (Oa (neg:=true) Aa r (by omega) (lW (OO zc r nQ (by omega) (Kl (zf 3 rfl) NE))) (zf 4 rfl)))))) (ye (yq ux)) jm)
  (ye (yq (jj (ZF (jx r.u) js (yy wE r (by omega) (zd (zf 4 rfl) zi)) (zf 3 rfl)) (jj (ZF (jx r.u) js (Zf Ae r (by omega) (zf 4 rfl)) (Zf Ae r (by omega) (zf 2 rfl))) (Xa (ZF (jx r.u) js (Zf Ac r (by omega) (zf 4 rfl)) (Zf Ac r (by omega) (zf 2 rfl)))))))))))))
theorem cV (T:Tops K mg w) (AD:D_6 P w K mg base) (AE:Oo P w K mg base) (AF:Ot P w K mg base) (wE:Ow P w K mg base) (zc:DefX P w K mg base "read_world" ["text"] 9 xh) (Aa:EqOk P w K mg base "World" ["self","other"] 1 yZ) (Ab:OC P w K mg base) (Ac:PropOk P w K mg base "World" "stands" ["self"] 1 yO) (Ae:PropOk P w K mg base "World" "first" ["self"] 3 y9) {a:Addr} {fd:FuncData} (F:Fun K "_law_right" "_law_right" (top 76) a fd) (hm:mg "_law_right"=some (.ref a)):Rc P w K mg base:=
 ⟨⟨a,fd,hm,F.kp,F.binds fun _ _ _ _ _ _ us hl=>(match us,hl with|[_],_=>rfl),yA F fun _ _ _ _ _ _ us hl=>(match us,hl with|[_],_=>rfl),fP T AD AE AF wE zc Aa Ab Ac Ae F⟩,zT⟩
theorem Lp:FnScope ["_law_script","_law_k","_law_jar_here","_law_turn"] ["_law_script"] (defScope (top 77)):=⟨rfl,rfl,rfl,by decide+kernel,rfl,by decide+kernel,by decide+kernel⟩
theorem OU (T:Tops K mg w) (AG:D_0 P w K mg base) (AH:Rc P w K mg base) {a:Addr} {fd:FuncData} (F:Fun K "law" "law" (top 77) a fd):FnG P w K mg base CX0 11 a fd ["_law_script"] KA:=by
 refine FnG.ofN F Lp 1 3 rfl rfl ?_
 intro cd A up s0 H Ex hg hr
 have sc:=Lp
 have r:Rm _ 10:=⟨hg,hr⟩
 exact(zP (V0 PassesOwn.never rfl (Us rfl T.z_range (zd (yt (eX rfl) KB T.z_max PyProof.Rows.boot_max (zd zI (zd (yt (eY rfl) KG T.z_min PyProof.Rows.boot_min (zd zI (zd (yt qK ZR T.z_len PySem.boot_len (zd (zf 0 rfl) zi)) zi))) zi))) zi)) (yI sc.nd rfl (by trivial)) (zP (xE (i:=2) sc.nd rfl (yy AG r (by omega) (zd (zf 0 rfl) (zd (zf 1 rfl) zi))))
  (ye (YH (qC (xU (yt (cr_all rfl) jT T.z_all Bm (zd (ja (own:=[("_law_turn",3)]) (vs:=[3]) rfl sc.nd (blkOk_by (by rfl)) rfl (yF (by rfl)) (Us rfl T.z_range (zd zI zi)) (fun _ _ _ _ _=>(yI sc.nd rfl (by trivial))) (fun _ _ _ _ _=>xm) (fun _ _ _ _ _=>(yy AH r (by omega) (zd (zf 2 rfl) zi)))) zi)))) (ye (yq ux)) jm))) (jZ (by rfl)))
  (ye (yq ux)))
end
end L2.AL.WS.R.K09
namespace L2.AL.HX
open PySem PySem.Spec PyProof.Rows L2 L2.AL
section
variable {fa:List (Fr→Bool)} {fn:List FD} {dc:List (Str×List Str)} {w:World} {K:Fr}
theorem Says.fact (c:Says fa fn dc w K) (i:Nat) {f:Fr→Bool} (h:fa[i]?=some f:=by rfl):f K=true:=by
 have c1:((fa.all fun f=>f K)&&fn.all (fnB K))=true:=congrArg (fun z:Al=>z.1) c
 exact AP.mp (AR.mp c1).1 f (Bh h)
theorem Says.code (c:Says fa fn dc w K) (i:Nat) {d:FD} (h:fn[i]?=some d):fnB K d=true:=by
 have c1:((fa.all fun f=>f K)&&fn.all (fnB K))=true:=congrArg (fun z:Al=>z.1) c
 exact AP.mp (AR.mp c1).2 d (Bh h)
theorem Says.look (c:Says fa fn dc w K) (i:Nat) {d:FD} (h:fn[i]?=some d):dP K (d.adr K)=d.val:=by
 have e:fn.map (fun d=>dP K (d.adr K))=fn.map FD.val:=congrArg (fun z:Al=>z.2.1) c
 have e2:(fn.map fun d=>dP K (d.adr K))[i]?=(fn.map FD.val)[i]?:=by rw[e]
 rw[List.getElem?_map,List.getElem?_map,h]at e2
 exact Option.some.inj e2
theorem Says.fun_ (c:Says fa fn dc w K) (i:Nat) {ad:Fr→Addr} {nm qual:Str} {st:Stmt} (h:fn[i]?=some ⟨ad,nm,qual,st,[]⟩:=by rfl):∃fd,Fun K nm qual st (ad K) fd:=by
 obtain⟨oc,od,osl,kV,dc,pm,an,cdv,ct,cl,lk,hcl,cd,kp⟩:=NC (c.look i h) (c.code i h)
 have e:cl=[]:=List.map_eq_nil_iff.mp hcl
 subst e
 exact⟨_,fun_mk (st:=st) lk cd kp⟩
theorem Says.init (c:Says fa fn dc w K) (i:Nat) {ad:Fr→Addr} {nm qual:Str} {st:Stmt} (h:fn[i]?=some ⟨ad,nm,qual,st,["__class__"]⟩:=by rfl) :
  ∃oc od osl kV doc pm an cdv ct cc,K.lookup (ad K)=some ⟨oc,od,.func (PySem.W.ksFn nm qual (defArgs st) (defBody st) (defScope st) .none kV doc pm an cdv ct cc),osl⟩∧PySem.W.codeIn K cdv qual=true:=by
 obtain⟨oc,od,osl,kV,dc,pm,an,cdv,ct,cl,lk,hcl,cd,kp⟩:=NC (c.look i h) (c.code i h)
 obtain⟨cc,rfl⟩:∃cc:Addr,cl=[(("__class__":Str),cc)]:=by
  match cl,hcl with
  |[(x,cc)],q=>
   have q:[x]=[("__class__":Str)]:=q
   injection q with q1 q2
   subst q1
   exact⟨cc,rfl⟩
 exact⟨oc,od,osl,kV,dc,pm,an,cdv,ct,cc,lk,cd⟩
end
section
variable {K:Fr} {h:Heap} {mg:Str→Option Value} {x:Str}
theorem glo (X:K.In h) (G:h.Ns mainGlobals mg) (c:bGlo x K=true):mg x=some (.ref (aG x K)):=PySem.W.mg_of X G (He.eqO_ok c)
theorem free (X:K.In h) (G:h.Ns mainGlobals mg) (c:bFree x K=true):mg x=none:=PySem.W.mg_none_of X G (He.eqO_ok c)
end
theorem oG {u:Value} (h:Kh u=true):RelV .non u:=by
 cases u<;>first|exact rfl|cases h
theorem Kf {b:Bool} {u:Value} (h:ND b u=true):RelV (.bl b) u:=by
 cases u with
 |bool c=>rw[show b=c from eq_of_beq h]; exact rfl
 |_=>cases h
theorem oF {i:Int} {u:Value} (h:Kg i u=true):RelV (.int i) u:=by
 cases u with
 |int j t=>rw[show i=j from of_decide_eq_true h]; exact⟨t,rfl⟩
 |_=>cases h
theorem dU {i:Str} {u:Value} (h:cg i u=true):RelV (.str i) u:=by
 cases u with
 |str j t=>rw[show i=j from of_decide_eq_true h]; exact⟨t,rfl⟩
 |_=>cases h
theorem LG {K:Fr} {u:Value} {us:List Value} (h:a7 K u=some us):∃(a:Addr) (n:Nat) (sl:Array (Option Value)),u=.ref a∧K.lookup a=some ⟨.type "tuple",none,.seq us.toArray n,sl⟩∧us.length≤1000:=by
 unfold a7 at h
 split at h
 ·rename_i a
  split at h
  ·rename_i c its n sl lk
   split at h
   ·rename_i q
    obtain⟨q1,q2⟩:=AR.mp q
    cases h
    have e1:c="tuple":=of_decide_eq_true q1
    subst e1
    exact⟨a,n,sl,rfl,by simpa using lk,by simpa using Nat.le_of_ble_eq_true q2⟩
   ·cases h
  ·cases h
 ·cases h
mutual
def Cv.d:Cv→D
 | .non=>.non
 | .bl b=>.bl b
 | .int i=>.int i
 | .str x=>.str x
 | .tup xs=>.tup (Cv.dL xs)
def Cv.dL:List Cv→List D
 |[]=>[]
 |x::xs=>Cv.d x::Cv.dL xs
end
mutual
theorem tD {B:Bk}:∀{d:Cv} {u:Value},cst B.K d u=true→∃v,RelV v u∧∀G,Fz B G v d.d
 | .non,u,h=>⟨.non,oG (by rwa [cst]at h),fun G=>by rw[Cv.d]; exact wN⟩
 | .bl b,u,h=>⟨.bl b,Kf (by rwa [cst]at h),fun G=>by rw[Cv.d]; exact jL _⟩
 | .int i,u,h=>⟨.int i,oF (by rwa [cst]at h),fun G=>by rw[Cv.d]; exact xu _⟩
 | .str x,u,h=>⟨.str x,dU (by rwa [cst]at h),fun G=>by rw[Cv.d]; exact YC _⟩
 | .tup ds,u,h=>by
   rw[cst]at h
   cases e:a7 B.K u with
   |none=>rw[e]at h; cases h
   |some us=>
    rw[e]at h
    obtain⟨a,n,sl,rfl,lk,le⟩:=LG e
    obtain⟨vs,rv,fz⟩:=cstL_ok (show cstL B.K ds us=true from h)
    refine⟨.ref a,rfl,?_⟩
    rw[Cv.d]
    exact Mp (its:=us) lk rfl rfl rfl le rv fz
theorem cstL_ok {B:Bk}:∀{ds:List Cv} {us:List Value},cstL B.K ds us=true→∃vs,Vals vs us∧∀G,FzL B G vs (Cv.dL ds)
 |[],us,h=>by
  rw[cstL]at h
  cases us with
  |nil=>exact⟨[],.nil,fun G=>FzL.nil⟩
  |cons _ _=>cases h
 |d::ds,us,h=>by
  rw[cstL]at h
  cases us with
  |nil=>cases h
  |cons u us=>
   obtain⟨h1,h2⟩:=AR.mp (show(cst B.K d u&&cstL B.K ds us)=true from h)
   obtain⟨v,rv,fv⟩:=tD h1
   obtain⟨vs,rvs,fvs⟩:=cstL_ok h2
   exact⟨v::vs,.cons rv rvs,fun G=>FzL.cons (fv G) (fvs G)⟩
end
theorem gcst {K:Fr} {h:Heap} {mg:Str→Option Value} {w:World} {x:Str} {d:Cv} (X:K.In h) (G:h.Ns mainGlobals mg) (c:bCst x d K=true):GC ⟨K,mg,w⟩ x d.d:=by
 unfold bCst at c
 split at c
 ·rename_i u e
  obtain⟨v,rv,fv⟩:=tD (B:=⟨K,mg,w⟩) c
  exact RB (PySem.W.mg_of X G e) rv fv
 ·cases c
section
variable {K:Fr} {h:Heap} {mg:Str→Option Value} {w:World} {x y m:Str} {as:List Str}
theorem sJ (X:K.In h) (G:h.Ns mainGlobals mg) (c:bCls x as K=true):mg x=some (.ref (aG x K)):=glo X G (AR.mp c).1
theorem cls_is (c:bCls x as K=true):Cls K (aG x K):=He.cls_ok (AR.mp (AR.mp c).2).1
theorem cls_ok (X:K.In h) (G:h.Ns mainGlobals mg) (c:bCls x as K=true):h_ K mg x as:=
 ⟨_,sJ X G c,cls_is c,fun f hf=>He.eqO_ok (AP.mp (AR.mp (AR.mp c).2).2 f hf)⟩
theorem is_ok (X:K.In h) (G:h.Ns mainGlobals mg) (c:bCls x as K=true) (d:bIs x K=true):IsC K mg x:=by
 obtain⟨d1,d⟩:=AR.mp d
 obtain⟨d2,d⟩:=AR.mp d
 obtain⟨d3,d⟩:=AR.mp d
 obtain⟨d4,d⟩:=AR.mp d
 obtain⟨d5,d6⟩:=AR.mp d
 have k:∀t∈["NoneType","bool","int","str","tuple","list","dict"],PySem.W.kitOne K (.type t) (.ref (aG x K))=some false:=fun t m=>of_decide_eq_true (AP.mp d1 t m)
 exact⟨_,sJ X G c,cls_is c,⟨k _ (by simp),k _ (by simp),k _ (by simp),k _ (by simp),k _ (by simp),k _ (by simp),k _ (by simp)⟩,of_decide_eq_true d2,He.eqO_ok d3,He.eqO_ok d4,of_decide_eq_true d5,of_decide_eq_true d6⟩
theorem mk_ok (c:bMk x K=true):Mk K (aG x K) (aM x "__init__" K):=He.mkr_ok c
theorem prop_ok (c:bProp x m K=true):PropOf K (aG x K) m (aM x m K) (aP x m K):=by
 obtain⟨c1,c⟩:=AR.mp c
 obtain⟨c2,c⟩:=AR.mp c
 obtain⟨c3,c4⟩:=AR.mp c
 refine⟨He.eqO_ok c1,He.eqO_ok c2,of_decide_eq_true c3,?_⟩
 unfold aP
 split at c4
 ·rename_i f rest e
  rw[e]
  exact⟨rest,rfl⟩
 ·cases c4
theorem eq_ok (c:bEq x K=true):EqK K (aG x K) (aM x "__eq__" K):=by
 obtain⟨c1,c⟩:=AR.mp c
 obtain⟨c2,c⟩:=AR.mp c
 obtain⟨c3,c⟩:=AR.mp c
 obtain⟨c4,c5⟩:=AR.mp c
 have k:∀t∈["tuple","int","str","NoneType"],PySem.W.subIn K (.ref (aG x K)) (.type t)=some false∧PySem.W.notFirst K (aG x K) (.type t)=true:=fun t m=>by
  obtain⟨q1,q2⟩:=AR.mp (AP.mp c5 t m)
  exact⟨of_decide_eq_true q1,q2⟩
 exact⟨He.eqO_ok c1,c2,He.eqO_ok c3,of_decide_eq_true c4,(k _ (by simp)).1,(k _ (by simp)).1,(k _ (by simp)).1,(k _ (by simp)).1,(k _ (by simp)).2,(k _ (by simp)).2,(k _ (by simp)).2,(k _ (by simp)).2⟩
theorem RP (c:bNo x m K=true):PySem.W.findIn K (.ref (aG x K)) m=some none:=He.eqO_ok c
theorem Mj {C:Addr} (q:OT K C=true):∃nm qn N bs bm sn sub ab col dd k0 k1 k2 k3 k5,K.lookup C=some (excClassObj nm qn C N bs bm true sn sub ab col dd k0 k1 k2 k3 k5 "ValueError.__new__")∧PySem.HandSPX.refsVE bm=true:=by
 unfold OT at q
 split at q
 ·rename_i dd cd sl ho
  split at q
  ·rename_i C' bm k0 k1 k2 k3 n k5 hm hs
   obtain⟨q1,q⟩:=AR.mp q
   obtain⟨q2,q⟩:=AR.mp q
   obtain⟨q3,q⟩:=AR.mp q
   obtain⟨q4,q5⟩:=AR.mp q
   have e1:C'=C:=Nat.eq_of_beq_eq_true q1
   have e2:=of_decide_eq_true q2
   subst e1 e2
   obtain⟨nm,bs,mro,ns,qn,hd,sn,sub,ab,col,del⟩:=cd
   dsimp only at hm q3 q4
   have e3:del=false:=by cases del with|false=>rfl|true=>cases q3
   subst hm e3 q4
   have hsl:sl=#[k0,k1,k2,k3,some (.builtin "ValueError.__new__"),k5]:=by
    obtain⟨l⟩:=sl
    simp only at hs
    rw[hs]
   subst hsl
   exact⟨nm,qn,ns,bs,bm,sn,sub,ab,col,dd,k0,k1,k2,k3,k5,ho,q5⟩
  ·cases q
 ·cases q
theorem tv {C fI cc:Addr} {file:Str} {oc:Value} {od:Option Addr} {osl:Array (Option Value)} {fd:FuncData} (q:tq K C fI file=true) (lk:K.lookup fI=some ⟨oc,od,.func fd,osl⟩) (hc:fd.closure=[(("__class__":Str),cc)]) :
  ∃cda,fd.code=.ref cda∧(∃cl cld csl,K.lookup cc=some ⟨cl,cld,.cell (some (.ref C)),csl⟩)∧∃ccl cdd vs ccs f tf,K.lookup cda=some ⟨ccl,cdd,.fields vs,ccs⟩∧vs[2]?=some (.str f tf)∧(file==f)=true:=by
 unfold tq at q
 rw[lk]at q
 dsimp only at q
 rw[hc]at q
 split at q
 ·rename_i x cc' cda e1 e2
  have e3:cc'=cc:=by injection e1 with e1 _; injection e1 with _ e1; exact e1.symm
  subst e3
  obtain⟨q1,q2⟩:=AR.mp q
  refine⟨cda,e2,?_,?_⟩
  ·split at q1
   ·rename_i cl cld C' csl l
    rw[Nat.eq_of_beq_eq_true q1]at l
    exact⟨_,_,_,l⟩
   ·cases q1
  ·split at q2
   ·rename_i ccl cdd vs ccs l
    cases e:vs[2]? with
    |none=>rw[e]at q2; cases q2
    |some u=>
     rw[e]at q2
     obtain⟨tf,rfl⟩:=dU (show cg file u=true from q2)
     exact⟨_,_,_,_,file,tf,l,e,by simp⟩
   ·cases q2
 ·cases q
theorem err_mk {P:Program} {base:Heap} {fld arg slf qual:Str} {st:Stmt} {ar:Arg} {p0 p1 p2 p3 p4 p5 p6 p7 p8:Pos} (X:K.In h) (G:h.Ns mainGlobals mg) {file:Str} (q:bErr x fld file K=true) (hfl:P.main.file=file)
  (F:∃oc od osl kV doc pm an cdv ct cc,K.lookup (aM x "__init__" K)=some ⟨oc,od,.func (PySem.W.ksFn "__init__" qual (defArgs st) (defBody st) (defScope st) .none kV doc pm an cdv ct cc),osl⟩∧PySem.W.codeIn K cdv qual=true)
  (top:(P.main.scope.names.lookup ("super":Str)).isSome=false)
  (hbody:defBody st=[.Expr (.Call (.Attribute (.Call (.Name "super" p0) [] [] p1) "__init__" p2) [] [] p3) p4,.Assign [.Attribute (.Name slf p5) fld p6] (.Name arg p7) p8])
  (hp:((defArgs st).posonlyargs++(defArgs st).args).head?=some ar) (hslf:ar.arg=slf) (hne:slf≠arg)
  (s1:(defScope st).names.lookup ("super":Str)=some .globalImplicit) (s2:(defScope st).names.lookup ("__class__":Str)=some .free) (s3:(defScope st).names.lookup slf=some .local) (s4:(defScope st).names.lookup arg=some .local) (hcell:∀x∈(defScope st).names,x.2≠.cell) (hk:(defScope st).kind=.function)
  (hco:(defScope st).isCoroutine=false) (hgen:(defScope st).isGenerator=false) (hd5:(slf==("__debug__":Str))=false) (hd7:(arg==("__debug__":Str))=false)
  (hc:∀env:Env,∃pl:Sem Bool,eval (.Call (.Attribute (.Call (.Name "super" p0) [] [] p1) "__init__" p2) [] [] p3) env=(do
    let ov←attributeBase (.Call (.Name "super" p0) [] [] p1) "__init__" env (eval (.Call (.Name "super" p0) [] [] p1) env)
    standAt p2.atName
    let (f,first)←holding [ov] (getMethod ov "__init__" pl)
    callWith p3 f first (backTo p3 (starEach [] env)) []))
  (hbind:∀(kV doc pm:Value) (an:Option Addr) (cdv ct:Value) (cc:Addr) (us:List Value),us.length=2→bindArgs (PySem.W.ksFn "__init__" qual (defArgs st) (defBody st) (defScope st) .none kV doc pm an cdv ct cc) ⟨us,[]⟩=pure ([slf,arg].zip us)):ErrOk P w K mg base x fld:=by
 obtain⟨oc,od,osl,kV,doc,pm,an,cdv,ct,cc,lk,hcd⟩:=F
 obtain⟨q1,q⟩:=AR.mp q
 obtain⟨q2,q⟩:=AR.mp q
 obtain⟨q3,q⟩:=AR.mp q
 obtain⟨q4,q⟩:=AR.mp q
 obtain⟨q5,q⟩:=AR.mp q
 obtain⟨q6,q⟩:=AR.mp q
 obtain⟨q7,q⟩:=AR.mp q
 obtain⟨q8,q⟩:=AR.mp q
 obtain⟨q9,q⟩:=AR.mp q
 obtain⟨q10,q⟩:=AR.mp q
 obtain⟨q11,q⟩:=AR.mp q
 obtain⟨q12,q⟩:=AR.mp q
 obtain⟨q13,q⟩:=AR.mp q
 obtain⟨q14,q15⟩:=AR.mp q
 obtain⟨cda,e,hcc,ccl,cdd,vs,ccs,f,tf,l1,l2,l3⟩:=tv q3 lk rfl
 have e:cdv=.ref cda:=e
 subst e
 exact OS (st:=st) (slf:=slf) (arg:=arg) (glo X G q1) ⟨Mj q2,He.eqO_ok q4,RP q5,He.eqO_ok q6,of_decide_eq_true q7,of_decide_eq_true q8,He.eqO_ok q9,hcc,⟨ccl,cdd,vs,ccs,f,tf,l1,l2,by rw[hfl]; exact l3⟩,top,free X G q10⟩
  (He.eqO_ok q11) (of_decide_eq_true q12) (of_decide_eq_true q13) (of_decide_eq_true q14) q15 lk hcd hbody hp hslf hne s1 s2 s3 s4 hcell hk hco hgen hd5 hd7 hc (hbind kV doc pm an _ ct cc)
end
theorem walk_E {l:PySem.W.OpenLaw} {n k:Nat} {q:Program} {loose:List Str} {XP:(Str→Option Value)→Heap→Prop} {YP:World→Heap→Prop} {d:DefRec} {x:Str} {F:AK}
  (most:l.most=some n) (small:n≤sizeLine) (nodef:d.params.defaults=[]) (room:Room k callerA)
  (recs:∀x∈lamNames,∃e:DefRec,(recsOf q).find? (fun e=>e.name==x)=some e)
  (walks:∀(w:World) (mg:Str→Option Value) (fa:Addr) (h:Heap),YP w h→h.Ns mainGlobals mg→mg d.name=some (.ref fa)→
    ∃K:Fr,K.In h∧∃fd:FuncData,(∀(s:Shared) (u:Value),BindsTo s fd ⟨[u],[]⟩ [(x,u)])∧(∀y∈lamNames,∀c P,PySem.W.tabIn K y=some (c,P)→K.lookup P=none)∧∀base:Heap,K.In base→base.Ns mainGlobals mg→bJ K mg base→FnG l.prog w K mg base CX0 k fa fd [x] F)
  (math:∀ns:List Int,ns.length≤n→∃ρ',F [.d (.scr ns)]=.ok (.d (.bl true)) ρ'):PySem.W.WalkO q loose XP YP l.row.toRowW d [] (fun f vs=>PySem.call f vs):=by
 apply Att.attach_call most nodef
 intro w s₀ s mg mb fa o pm cd doc a zs ns G Y ho hd hcd hmg ha whole few nogen
 obtain⟨K,inK,fd,hb,noP,hF⟩:=walks w mg fa _ Y G.T.g hmg
 refine RL (n:=n) inK G.T.g G.T.b G.T.builtins G.T.nolimit G.T.nodigits nogen (fun x hx c P e=>?_) G.T.bmain ha whole (AU few small) room hF hb (math ns few)
 obtain⟨d,hd⟩:=recs x hx
 exact⟨PySem.W.tab_of G.T inK hd e,noP x hx c P e⟩
end L2.AL.HX
namespace L2.AL.WS.R.K09
open PySem PySem.Spec PyProof.Rows L2 L2.AL L2.AL.SH L2.AL.WS
theorem OK {l:PySem.W.OpenLaw} {w:World} {K:PySem.W.Frag} {h:Heap} {mg:Str→Option Value} {fa:Addr} (X:K.In h) (G:h.Ns mainGlobals mg) (hfa:mg "law"=some (.ref fa)) (c:HX.Says fa_ fn_ dc_ w K) (hfl:l.prog.main.file="/claim/cut.py") (hsu:(l.prog.main.scope.names.lookup ("super":Str)).isSome=false)
  :∃fd:FuncData,(∀(s:Shared) (v:Value),BindsTo s fd ⟨[v],[]⟩ [("_law_script",v)])∧(∀y∈lamNames,∀c P,PySem.W.tabIn K y=some (c,P)→K.lookup P=none)∧∀base:Heap,K.In base→base.Ns mainGlobals mg→bJ K mg base→FnG l.prog w K mg base CX0 11 fa fd ["_law_script"] KA:=by
 have T:Tops K mg w:=⟨(HX.free X G (c.fact (f:=HX.bFree "abs") 0)),(HX.free X G (c.fact (f:=HX.bFree "all") 1)),(HX.free X G (c.fact (f:=HX.bFree "any") 2)),(HX.free X G (c.fact (f:=HX.bFree "enumerate") 3)),(HX.free X G (c.fact (f:=HX.bFree "int") 4)),(HX.free X G (c.fact (f:=HX.bFree "isinstance") 5)),(HX.free X G (c.fact (f:=HX.bFree "len") 6)),(HX.free X G (c.fact (f:=HX.bFree "list") 7)),(HX.free X G (c.fact (f:=HX.bFree "max") 8)),(HX.free X G (c.fact (f:=HX.bFree "min") 9)),(HX.free X G (c.fact (f:=HX.bFree "range") 10)),(HX.free X G (c.fact (f:=HX.bFree "repr") 11)),(HX.free X G (c.fact (f:=HX.bFree "set") 12)),(HX.free X G (c.fact (f:=HX.bFree "sorted") 13)),(HX.free X G (c.fact (f:=HX.bFree "str") 14)),(HX.free X G (c.fact (f:=HX.bFree "tuple") 15)),(HX.free X G (c.fact (f:=HX.bFree "zip") 16)),(HX.gcst X G (c.fact (f:=HX.bCst "BLANK" (.str " ")) 17)),(HX.gcst X G (c.fact (f:=HX.bCst "COLON" (.str ":")) 18)),(HX.gcst X G (c.fact (f:=HX.bCst "FEED" (.str "\n")) 19)),(HX.gcst X G (c.fact (f:=HX.bCst "IS" (.str "=")) 20)),(HX.gcst X G (c.fact (f:=HX.bCst "KINDS" (.tup [.str "houses",.str "slot",.str "bears",.str "never",.str "lapse"])) 21)),(HX.gcst X G (c.fact (f:=HX.bCst "LEAST_WORDS" (.int 2)) 22)),(HX.gcst X G (c.fact (f:=HX.bCst "LETTERS" (.str "abcdefghijklmnopqrstuvwxyz")) 23)),(HX.gcst X G (c.fact (f:=HX.bCst "LONGEST_NAME" (.int 8)) 24)),(HX.gcst X G (c.fact (f:=HX.bCst "MOST_HOUSES" (.int 4)) 25)),(HX.gcst X G (c.fact (f:=HX.bCst "MOST_LAPSES" (.int 4)) 26)),(HX.gcst X G (c.fact (f:=HX.bCst "MOST_SLOTS" (.int 6)) 27)),(HX.gcst X G (c.fact (f:=HX.bCst "MOST_STANDS" (.int 32)) 28)),(HX.gcst X G (c.fact (f:=HX.bCst "MOST_WORDS" (.int 4)) 29)),(HX.gcst X G (c.fact (f:=HX.bCst "PAIR_reading" (.int 2)) 30)),(HX.gcst X G (c.fact (f:=HX.bCst "PAIR_worlds" (.int 2)) 31)),(HX.gcst X G (c.fact (f:=HX.bCst "PATTERN_KINDS" (.tup [.str "bears",.str "never"])) 32)),(HX.gcst X G (c.fact (f:=HX.bCst "TRIPLE" (.int 3)) 33)),(HX.cls_ok X G (c.fact (f:=HX.bCls "World" ["own_places","own_parts","own_stands"]) 34)),(HX.is_ok X G (c.fact (f:=HX.bCls "World" ["own_places","own_parts","own_stands"]) 34) (c.fact (f:=HX.bIs "World") 35))⟩
 have e:=hfa.symm.trans (HX.glo X G (c.fact (f:=HX.bGlo "law") 94))
 cases e
 obtain⟨fd_law,Fx_law⟩:=c.fun_ 57
 have hb:∀(s:Shared) (v:Value),BindsTo s fd_law ⟨[v],[]⟩ [("_law_script",v)]:=by
  obtain⟨_,_,_,_,_,_,_,_,_,rfl,_,_⟩:=Fx_law.ex
  exact fun s v=>.of_eq rfl
 refine⟨fd_law,hb,fun y hy=>absurd hy (by simp[lamNames]),fun base _ _ lams=>?_⟩
 have cl_World:Cls K (HX.aG "World" K):=HX.cls_is (c.fact (f:=HX.bCls "World" ["own_places","own_parts","own_stands"]) 34)
 have xz:ErrOk l.prog w K mg base "BadWorld" "value":=HX.err_mk (st:=(inClass (top 3) 0)) (slf:="self") (arg:="value") X G (c.fact (f:=HX.bErr "BadWorld" "value" "/claim/cut.py") 36) hfl (c.init 0) hsu rfl rfl rfl (by decide) (by decide+kernel) (by decide+kernel) (by decide+kernel) (by decide+kernel) (by decide+kernel) rfl rfl rfl (by decide) (by decide) (fun _=>⟨_,rfl⟩) (fun _ _ _ _ _ _ _ us hl=>match us,hl with|[_,_],_=>rfl)
 have u8:ErrOk l.prog w K mg base "BadText" "line":=HX.err_mk (st:=(inClass (top 6) 0)) (slf:="self") (arg:="line") X G (c.fact (f:=HX.bErr "BadText" "line" "/claim/cut.py") 37) hfl (c.init 1) hsu rfl rfl rfl (by decide) (by decide+kernel) (by decide+kernel) (by decide+kernel) (by decide+kernel) (by decide+kernel) rfl rfl rfl (by decide) (by decide) (fun _=>⟨_,rfl⟩) (fun _ _ _ _ _ _ _ us hl=>match us,hl with|[_,_],_=>rfl)
 obtain⟨fd__law_jar,Fx__law_jar⟩:=c.fun_ 2
 have AG:DefOk l.prog w K mg base "_law_jar" ["_law_script","_law_k"] 1 Zi:=nS T Fx__law_jar (HX.glo X G (c.fact (f:=HX.bGlo "_law_jar") 38))
 obtain⟨fd__law_take,Fx__law_take⟩:=c.fun_ 3
 have U:DefOk l.prog w K mg base "_law_take" ["_law_jar_here","_law_many"] 1 zZ:=lE T Fx__law_take (HX.glo X G (c.fact (f:=HX.bGlo "_law_take") 39))
 obtain⟨fd__law_of,Fx__law_of⟩:=c.fun_ 4
 have bb:DefOk l.prog w K mg base "_law_of" ["_law_jar_here","_law_some"] 2 yJ:=iE T U Fx__law_of (HX.glo X G (c.fact (f:=HX.bGlo "_law_of") 40))
 obtain⟨fd__law_names,Fx__law_names⟩:=c.fun_ 5
 have wP:DefOk l.prog w K mg base "_law_names" ["_law_jar_here","_law_many"] 3 jz:=cQ T bb U Fx__law_names (HX.glo X G (c.fact (f:=HX.bGlo "_law_names") 41))
 obtain⟨fd__law_crossed,Fx__law_crossed⟩:=c.fun_ 6
 have wS:DefOk l.prog w K mg base "_law_crossed" ["_law_jar_here","_law_slots"] 3 xJ:=fu T U bb Fx__law_crossed (HX.glo X G (c.fact (f:=HX.bGlo "_law_crossed") 42))
 obtain⟨fd__law_lapses,Fx__law_lapses⟩:=c.fun_ 7
 have Af:DefOk l.prog w K mg base "_law_lapses" ["_law_jar_here","_law_slots"] 3 jM:=dh T U bb Fx__law_lapses (HX.glo X G (c.fact (f:=HX.bGlo "_law_lapses") 43))
 obtain⟨fd__law_any_world,Fx__law_any_world⟩:=c.fun_ 8
 have AD:DefOk l.prog w K mg base "_law_any_world" ["_law_jar_here"] 4 qf:=vH T wP U bb wS Af Fx__law_any_world (HX.glo X G (c.fact (f:=HX.bGlo "_law_any_world") 44))
 obtain⟨fd_is_word,Fx_is_word⟩:=c.fun_ 9
 have bw:DefOk l.prog w K mg base "is_word" ["value","words"] 1 qh:=iI T Fx_is_word (HX.glo X G (c.fact (f:=HX.bGlo "is_word") 45))
 obtain⟨fd_is_tuple,Fx_is_tuple⟩:=c.fun_ 10
 have ba:DefOk l.prog w K mg base "is_tuple" ["value","least","most"] 1 yT:=nV T Fx_is_tuple (HX.glo X G (c.fact (f:=HX.bGlo "is_tuple") 46))
 obtain⟨fd_slots_at,Fx_slots_at⟩:=c.fun_ 11
 have Ah:DefOk l.prog w K mg base "slots_at" ["slots","house"] 1 Ya:=nZ T Fx_slots_at (HX.glo X G (c.fact (f:=HX.bGlo "slots_at") 47))
 obtain⟨fd_is_part,Fx_is_part⟩:=c.fun_ 12
 have Ag:DefOk l.prog w K mg base "is_part" ["slots","value"] 2 qN:=iG T ba bw Fx_is_part (HX.glo X G (c.fact (f:=HX.bGlo "is_part") 48))
 obtain⟨fd_is_ascending,Fx_is_ascending⟩:=c.fun_ 13
 have cT:DefOk l.prog w K mg base "is_ascending" ["items"] 1 yw:=fB T Fx_is_ascending (HX.glo X G (c.fact (f:=HX.bGlo "is_ascending") 49))
 obtain⟨fd_is_pattern_of,Fx_is_pattern_of⟩:=c.fun_ 14
 have ge:DefOk l.prog w K mg base "is_pattern_of" ["slots","value"] 3 yu:=uH T Ag cT Fx_is_pattern_of (HX.glo X G (c.fact (f:=HX.bGlo "is_pattern_of") 50))
 obtain⟨fd_is_lapse,Fx_is_lapse⟩:=c.fun_ 15
 have Ai:DefOk l.prog w K mg base "is_lapse" ["houses","slots","value"] 4 qW:=nU T bw ba Ah ge Fx_is_lapse (HX.glo X G (c.fact (f:=HX.bGlo "is_lapse") 51))
 obtain⟨fd_are_lapses,Fx_are_lapses⟩:=c.fun_ 16
 have Ak:DefOk l.prog w K mg base "are_lapses" ["houses","slots","value"] 5 xX:=cY T Ai ba Fx_are_lapses (HX.glo X G (c.fact (f:=HX.bGlo "are_lapses") 52))
 obtain⟨fd_is_name,Fx_is_name⟩:=c.fun_ 17
 have bi:DefOk l.prog w K mg base "is_name" ["value"] 1 qg:=iF T Fx_is_name (HX.glo X G (c.fact (f:=HX.bGlo "is_name") 53))
 obtain⟨fd_are_different,Fx_are_different⟩:=c.fun_ 18
 have ln:DefOk l.prog w K mg base "are_different" ["items"] 1 y_:=uG T Fx_are_different (HX.glo X G (c.fact (f:=HX.bGlo "are_different") 54))
 obtain⟨fd_are_names,Fx_are_names⟩:=c.fun_ 19
 have pi:DefOk l.prog w K mg base "are_names" ["value","least","most"] 2 xK:=lF T bi ba Fx_are_names (HX.glo X G (c.fact (f:=HX.bGlo "are_names") 55))
 obtain⟨fd_is_slot,Fx_is_slot⟩:=c.fun_ 20
 have Aj:DefOk l.prog w K mg base "is_slot" ["houses","value"] 3 jf:=iH T bw bi ba ln pi Fx_is_slot (HX.glo X G (c.fact (f:=HX.bGlo "is_slot") 56))
 obtain⟨fd_are_slots,Fx_are_slots⟩:=c.fun_ 21
 have Am:DefOk l.prog w K mg base "are_slots" ["houses","value"] 4 xL:=lI T Aj ba ln Fx_are_slots (HX.glo X G (c.fact (f:=HX.bGlo "are_slots") 57))
 obtain⟨fd_are_houses,Fx_are_houses⟩:=c.fun_ 22
 have Ao:DefOk l.prog w K mg base "are_houses" ["value"] 3 xF:=cX T cT pi Fx_are_houses (HX.glo X G (c.fact (f:=HX.bGlo "are_houses") 58))
 obtain⟨fd_are_patterns,Fx_are_patterns⟩:=c.fun_ 23
 have wT:DefOk l.prog w K mg base "are_patterns" ["slots","value"] 4 xo:=fA T ge cT Fx_are_patterns (HX.glo X G (c.fact (f:=HX.bGlo "are_patterns") 59))
 obtain⟨fd_are_parts,Fx_are_parts⟩:=c.fun_ 24
 have Aq:DefOk l.prog w K mg base "are_parts" ["houses","slots","bears","never","lapses"] 6 xg:=lG T Ak Am Ao wT Fx_are_parts (HX.glo X G (c.fact (f:=HX.bGlo "are_parts") 60))
 obtain⟨fd_places_of,Fx_places_of⟩:=c.fun_ 25
 have Ar:DefOk l.prog w K mg base "places_of" ["slots"] 1 Zr:=lK T Fx_places_of (HX.glo X G (c.fact (f:=HX.bGlo "places_of") 61))
 obtain⟨fd_agrees,Fx_agrees⟩:=c.fun_ 26
 have Ap:DefOk l.prog w K mg base "agrees" ["places","pattern","stand"] 1 QA:=LP T Fx_agrees (HX.glo X G (c.fact (f:=HX.bGlo "agrees") 62))
 obtain⟨fd_some_agrees,Fx_some_agrees⟩:=c.fun_ 27
 have As:DefOk l.prog w K mg base "some_agrees" ["places","patterns","stand"] 2 jg:=dj T Ap Fx_some_agrees (HX.glo X G (c.fact (f:=HX.bGlo "some_agrees") 63))
 obtain⟨fd_first_of,Fx_first_of⟩:=c.fun_ 28
 have r5:DefOk l.prog w K mg base "first_of" ["slots"] 1 Zj:=nT T Fx_first_of (HX.glo X G (c.fact (f:=HX.bGlo "first_of") 64))
 obtain⟨fd_all_stands,Fx_all_stands⟩:=c.fun_ 29
 have At:DefOk l.prog w K mg base "all_stands" ["slots"] 1 ZS:=cW T Fx_all_stands (HX.glo X G (c.fact (f:=HX.bGlo "all_stands") 65))
 obtain⟨fd_World___init__,Fx_World___init__⟩:=c.fun_ 30
 have r6:NewX l.prog w K mg base "World" ["self","houses","slots","bears","never","lapses"] 7 yp:=vG T Aq xz Ar As r5 At Fx_World___init__ (HX.glo X G (c.fact (f:=HX.bGlo "World") 66)) (HX.mk_ok (c.fact (f:=HX.bMk "World") 67))
 obtain⟨fd__law_made,Fx__law_made⟩:=c.fun_ 31
 have AE:DefOk l.prog w K mg base "_law_made" ["_law_lore"] 9 Yu:=lD T r6 Fx__law_made (HX.glo X G (c.fact (f:=HX.bGlo "_law_made") 68))
 obtain⟨fd__law_pairs,Fx__law_pairs⟩:=c.fun_ 32
 have wf:DefOk l.prog w K mg base "_law_pairs" ["_law_pattern"] 1 xn:=cS T Fx__law_pairs (HX.glo X G (c.fact (f:=HX.bGlo "_law_pairs") 69))
 obtain⟨fd__law_world_page,Fx__law_world_page⟩:=c.fun_ 33
 have AF:DefOk l.prog w K mg base "_law_world_page" ["_law_lore"] 2 qA:=kE T wf Fx__law_world_page (HX.glo X G (c.fact (f:=HX.bGlo "_law_world_page") 70))
 obtain⟨fd_World_houses,Fx_World_houses⟩:=c.fun_ 34
 have r7:PropOk l.prog w K mg base "World" "houses" ["self"] 1 yM:=fg T Fx_World_houses (HX.glo X G (c.fact (f:=HX.bGlo "World") 66)) cl_World (HX.prop_ok (c.fact (f:=HX.bProp "World" "houses") 71))
 obtain⟨fd_World_slots,Fx_World_slots⟩:=c.fun_ 35
 have dl:PropOk l.prog w K mg base "World" "slots" ["self"] 1 yB:=dg T Fx_World_slots (HX.glo X G (c.fact (f:=HX.bGlo "World") 66)) cl_World (HX.prop_ok (c.fact (f:=HX.bProp "World" "slots") 72))
 obtain⟨fd_World_bears,Fx_World_bears⟩:=c.fun_ 36
 have r8:PropOk l.prog w K mg base "World" "bears" ["self"] 1 yQ:=f7 T Fx_World_bears (HX.glo X G (c.fact (f:=HX.bGlo "World") 66)) cl_World (HX.prop_ok (c.fact (f:=HX.bProp "World" "bears") 73))
 obtain⟨fd_pattern_words,Fx_pattern_words⟩:=c.fun_ 37
 have f8:DefOk l.prog w K mg base "pattern_words" ["pattern"] 1 yD:=uI T Fx_pattern_words (HX.glo X G (c.fact (f:=HX.bGlo "pattern_words") 74))
 obtain⟨fd_World_never,Fx_World_never⟩:=c.fun_ 38
 have r9:PropOk l.prog w K mg base "World" "never" ["self"] 1 yR:=de T Fx_World_never (HX.glo X G (c.fact (f:=HX.bGlo "World") 66)) cl_World (HX.prop_ok (c.fact (f:=HX.bProp "World" "never") 75))
 obtain⟨fd_World_lapses,Fx_World_lapses⟩:=c.fun_ 39
 have tB:PropOk l.prog w K mg base "World" "lapses" ["self"] 1 yN:=fj T Fx_World_lapses (HX.glo X G (c.fact (f:=HX.bGlo "World") 66)) cl_World (HX.prop_ok (c.fact (f:=HX.bProp "World" "lapses") 76))
 obtain⟨fd_lapse_words,Fx_lapse_words⟩:=c.fun_ 40
 have Au:DefOk l.prog w K mg base "lapse_words" ["lapse"] 2 jN:=di T f8 Fx_lapse_words (HX.glo X G (c.fact (f:=HX.bGlo "lapse_words") 77))
 obtain⟨fd_line_of,Fx_line_of⟩:=c.fun_ 41
 have Av:DefOk l.prog w K mg base "line_of" ["words"] 1 QB:=iJ T Fx_line_of (HX.glo X G (c.fact (f:=HX.bGlo "line_of") 78))
 obtain⟨fd_show_world,Fx_show_world⟩:=c.fun_ 42
 have wE:DefOk l.prog w K mg base "show_world" ["world"] 3 xZ:=c7 T r7 dl r8 f8 r9 tB Au Av Fx_show_world (HX.glo X G (c.fact (f:=HX.bGlo "show_world") 79))
 obtain⟨fd_lines_of,Fx_lines_of⟩:=c.fun_ 43
 have Az:DefX l.prog w K mg base "lines_of" ["text"] 3 jv:=nW T u8 Fx_lines_of (HX.glo X G (c.fact (f:=HX.bGlo "lines_of") 80))
 obtain⟨fd_names_in,Fx_names_in⟩:=c.fun_ 44
 have fm:DefOk l.prog w K mg base "names_in" ["words","least"] 2 qk:=nX T bi Fx_names_in (HX.glo X G (c.fact (f:=HX.bGlo "names_in") 81))
 obtain⟨fd_two_and_more,Fx_two_and_more⟩:=c.fun_ 45
 have Aw:DefOk l.prog w K mg base "two_and_more" ["words"] 3 jw:=fC T fm Fx_two_and_more (HX.glo X G (c.fact (f:=HX.bGlo "two_and_more") 82))
 obtain⟨fd_pattern_in,Fx_pattern_in⟩:=c.fun_ 46
 have gt:DefOk l.prog w K mg base "pattern_in" ["words"] 3 xY:=cZ T fm Fx_pattern_in (HX.glo X G (c.fact (f:=HX.bGlo "pattern_in") 83))
 obtain⟨fd_house_and_patterns,Fx_house_and_patterns⟩:=c.fun_ 47
 have Ax:DefOk l.prog w K mg base "house_and_patterns" ["parts"] 4 xj:=Vr T gt bi Fx_house_and_patterns (HX.glo X G (c.fact (f:=HX.bGlo "house_and_patterns") 84))
 obtain⟨fd_parts_of,Fx_parts_of⟩:=c.fun_ 48
 have Ay:DefOk l.prog w K mg base "parts_of" ["words"] 1 Jb:=nY T Fx_parts_of (HX.glo X G (c.fact (f:=HX.bGlo "parts_of") 85))
 obtain⟨fd_thing_in,Fx_thing_in⟩:=c.fun_ 49
 have AB:DefOk l.prog w K mg base "thing_in" ["words"] 5 Yb:=n0 T fm Aw gt Ax Ay Fx_thing_in (HX.glo X G (c.fact (f:=HX.bGlo "thing_in") 86))
 obtain⟨fd_can_stand,Fx_can_stand⟩:=c.fun_ 50
 have AC:DefOk l.prog w K mg base "can_stand" ["kind","last"] 1 ju:=lJ T Fx_can_stand (HX.glo X G (c.fact (f:=HX.bGlo "can_stand") 87))
 obtain⟨fd_read_world,Fx_read_world⟩:=c.fun_ 51
 have zc:DefX l.prog w K mg base "read_world" ["text"] 9 xh:=c6 T Az AB AC u8 r6 Fx_read_world (HX.glo X G (c.fact (f:=HX.bGlo "read_world") 88))
 obtain⟨fd_World___eq__,Fx_World___eq__⟩:=c.fun_ 52
 have Aa:EqOk l.prog w K mg base "World" ["self","other"] 1 yZ:=g_ T Fx_World___eq__ (HX.glo X G (c.fact (f:=HX.bGlo "World") 66)) (HX.eq_ok (c.fact (f:=HX.bEq "World") 89))
 obtain⟨fd__law_parts,Fx__law_parts⟩:=c.fun_ 53
 have Ab:DefOk l.prog w K mg base "_law_parts" ["_law_home"] 3 qz:=cU T r7 dl r8 r9 tB Fx__law_parts (HX.glo X G (c.fact (f:=HX.bGlo "_law_parts") 90))
 obtain⟨fd_World_stands,Fx_World_stands⟩:=c.fun_ 54
 have Ac:PropOk l.prog w K mg base "World" "stands" ["self"] 1 yO:=fq T Fx_World_stands (HX.glo X G (c.fact (f:=HX.bGlo "World") 66)) cl_World (HX.prop_ok (c.fact (f:=HX.bProp "World" "stands") 91))
 obtain⟨fd_World_first,Fx_World_first⟩:=c.fun_ 55
 have Ae:PropOk l.prog w K mg base "World" "first" ["self"] 3 y9:=f_ T r5 dl Fx_World_first (HX.glo X G (c.fact (f:=HX.bGlo "World") 66)) cl_World (HX.prop_ok (c.fact (f:=HX.bProp "World" "first") 92))
 obtain⟨fd__law_right,Fx__law_right⟩:=c.fun_ 56
 have AH:DefOk l.prog w K mg base "_law_right" ["_law_jar_here"] 10 jA:=cV T AD AE AF wE zc Aa Ab Ac Ae Fx__law_right (HX.glo X G (c.fact (f:=HX.bGlo "_law_right") 93))
 exact OU T AG AH Fx_law
end L2.AL.WS.R.K09
namespace L2.AL
open PySem PySem.Spec PyProof.Rows
theorem wY {α:Type} {t:Tg} {c:List S→Res Bool} {f:AK} {vs:List Nat} (F g:α→D) (p:α→Bool) {ρ:List S}:∀(l:List α) (acc:List D),
  (∀a∈l,∃ρ2 v,zQ t (F a) ρ=some ρ2∧c ρ2=.ok (p a) ρ2∧(p a=true→f ρ2=.ok v ρ2∧keep1 v ρ2=some (g a,ρ2))∧zo ρ2 vs=ρ)→acc.length+l.length≤sizeLine→
  Xl t c f vs (l.map F) acc ρ=.ok (acc++(l.filter p).map g) ρ
 |[],acc,_,_=>by simp[Xl]
 |a::l,acc,h,hl=>by
  obtain⟨ρ2,v,h1,h2,h3,h4⟩:=h a AN
  rw[List.length_cons]at hl
  rw[List.map_cons,Xl,h1]
  simp only[h2,Res.bind_ok]
  cases hp:p a with
  |false=>
   simp only[Bool.false_eq_true,if_false,h4]
   rw[wY F g p l acc (fun b hb=>h b (List.mem_cons_of_mem _ hb)) (by omega),List.filter_cons,hp]
   simp
  |true=>
   obtain⟨h5,h6⟩:=h3 hp
   simp only[if_true,h5,Res.bind_ok,h6,h4]
   rw[if_pos (by omega),wY F g p l _ (fun b hb=>h b (List.mem_cons_of_mem _ hb)) (by rw[AS,Bf]; omega),List.filter_cons,hp]
   simp
theorem sw {α:Type} {it:List S→Res (List D)} {t:Tg} {c:List S→Res Bool} {f:AK} {vs:List Nat} (F g:α→D) (p:α→Bool) (l:List α) {ρ ρ1:List S} (hit:it ρ=.ok (l.map F) ρ1) (hno:ya ρ1 vs=true)
  (h:∀a∈l,∃ρ2 v,zQ t (F a) (zo ρ1 vs)=some ρ2∧c ρ2=.ok (p a) ρ2∧(p a=true→f ρ2=.ok v ρ2∧keep1 v ρ2=some (g a,ρ2))∧zo ρ2 vs=zo ρ1 vs) (hl:l.length≤sizeLine) :
  aLc vs it t c f ρ=.ok (.fr (.lst ((l.filter p).map g))) (zA ρ1 (zo ρ1 vs) vs):=by
 unfold aLc
 rw[hit,Res.bind_ok,if_pos hno,wY F g p l [] h (by simpa using hl)]
 rfl
theorem UI {α:Type} {it:List S→Res (List D)} {t:Tg} {f:AK} {vs:List Nat} (F g:α→D) (l:List α) {ρ ρ1:List S} (hit:it ρ=.ok (l.map F) ρ1) (hno:ya ρ1 vs=true)
  (h:∀a∈l,∃ρ2 v,zQ t (F a) (zo ρ1 vs)=some ρ2∧f ρ2=.ok v ρ2∧keep1 v ρ2=some (g a,ρ2)∧zo ρ2 vs=zo ρ1 vs) (hl:l.length≤sizeLine) :
  aLc vs it t yX f ρ=.ok (.fr (.lst (l.map g))) (zA ρ1 (zo ρ1 vs) vs):=by
 rw[sw F g (fun _=>true) l hit hno (fun a ha=>?_) hl]
 ·rw[List.filter_eq_self.mpr (fun _ _=>rfl)]
 ·obtain⟨ρ2,v,h1,h2,h3,h4⟩:=h a ha
  exact⟨ρ2,v,h1,rfl,fun _=>⟨h2,h3⟩,h4⟩
theorem aa {t:Tg} {f:AK} {vs:List Nat} {I:Nat→List S→Prop} {R:D→Prop}:∀(xs:List D) (n:Nat) (acc:List D) (ρ:List S),
  (∀i x ρ,xs[i]?=some x→I (n+i) ρ→∃ρ1 v ρ2 y ρ3,zQ t x ρ=some ρ1∧f ρ1=.ok v ρ2∧keep1 v ρ2=some (y,ρ3)∧R y∧I (n+i+1) (zo ρ3 vs))→I n ρ→acc.length+xs.length≤sizeLine→
  ∃ys ρ',Xl t yX f vs xs acc ρ=.ok (acc++ys) ρ'∧ys.length=xs.length∧(∀y∈ys,R y)∧I (n+xs.length) ρ'
 |[],n,acc,ρ,_,h0,_=>⟨[],ρ,by simp[Xl],rfl,by simp,h0⟩
 |x::xs,n,acc,ρ,h,h0,hl=>by
  obtain⟨ρ1,v,ρ2,y,ρ3,h1,h2,h3,h4,h5⟩:=h 0 x ρ rfl h0
  rw[List.length_cons]at hl
  obtain⟨ys,ρ',e,e1,e2,e3⟩:=aa xs (n+1) (acc++[y]) (zo ρ3 vs) (fun i z ρ hz hI=>by
   have:=h (i+1) z ρ (by simpa using hz) (by rw[show n+(i+1)=n+1+i by omega]; exact hI)
   rw[show n+1+i+1=n+(i+1)+1 by omega]; exact this) h5 (by rw[AS,Bf]; omega)
  refine⟨y::ys,ρ',?_,by simp[e1],?_,?_⟩
  ·rw[Xl,h1]
   simp only[yX,Res.bind_ok,if_true,h2,h3]
   rw[if_pos (by omega)]
   have e:Xl t yX f vs xs (acc++[y]) (zo ρ3 vs)=_:=e
   rw[e]; simp
  ·intro z hz
   rcases List.mem_cons.mp hz with rfl|hz
   ·exact h4
   ·exact e2 z hz
  ·rw[List.length_cons,show n+(xs.length+1)=n+1+xs.length by omega]; exact e3
theorem lR {it:List S→Res (List D)} {t:Tg} {f:AK} {vs:List Nat} {I:Nat→List S→Prop} {R:D→Prop} {xs:List D} {ρ ρ1:List S} (hit:it ρ=.ok xs ρ1) (hno:ya ρ1 vs=true)
  (h:∀i x ρ,xs[i]?=some x→I i ρ→∃ρ1 v ρ2 y ρ3,zQ t x ρ=some ρ1∧f ρ1=.ok v ρ2∧keep1 v ρ2=some (y,ρ3)∧R y∧I (i+1) (zo ρ3 vs)) (h0:I 0 (zo ρ1 vs)) (hl:xs.length≤sizeLine) :
  ∃ys ρ',aLc vs it t yX f ρ=.ok (.fr (.lst ys)) (zA ρ1 ρ' vs)∧ys.length=xs.length∧(∀y∈ys,R y)∧I xs.length ρ':=by
 obtain⟨ys,ρ',e,e1,e2,e3⟩:=aa (I:=I) (R:=R) xs 0 [] (zo ρ1 vs) (fun i x ρ hx hI=>by simpa using h i x ρ hx (by simpa using hI)) h0 (by simpa using hl)
 refine⟨ys,ρ',?_,e1,e2,by simpa using e3⟩
 unfold aLc
 rw[hit,Res.bind_ok,if_pos hno,e]
 rfl
theorem mP {t:Tg} {body:AJ} {I:Nat→List S→Prop}:∀(xs:List D) (n:Nat) (ρ:List S),
  (∀i x ρ,xs[i]?=some x→I (n+i) ρ→∃ρ1 ρ2,zQ t x ρ=some ρ1∧body ρ1=.ok .nx ρ2∧I (n+i+1) ρ2)→I n ρ→∃ρ',xr t body xs ρ=.ok .nx ρ'∧I (n+xs.length) ρ'
 |[],n,ρ,_,h0=>⟨ρ,by simp[xr],h0⟩
 |x::xs,n,ρ,h,h0=>by
  obtain⟨ρ1,ρ2,h1,h2,h3⟩:=h 0 x ρ rfl h0
  obtain⟨ρ',e,e1⟩:=mP xs (n+1) ρ2 (fun i z ρ hz hI=>by
   have:=h (i+1) z ρ (by simpa using hz) (by rw[show n+(i+1)=n+1+i by omega]; exact hI)
   rw[show n+1+i+1=n+(i+1)+1 by omega]; exact this) h3
  refine⟨ρ',?_,?_⟩
  ·rw[xr,h1]
   simp only[h2]
   exact e
  ·rw[List.length_cons,show n+(xs.length+1)=n+1+xs.length by omega]; exact e1
theorem Nf {it:List S→Res (List D)} {t:Tg} {body:AJ} {I:Nat→List S→Prop} {xs:List D} {ρ ρ1:List S} (hit:it ρ=.ok xs ρ1)
  (h:∀i x ρ,xs[i]?=some x→I i ρ→∃ρ1 ρ2,zQ t x ρ=some ρ1∧body ρ1=.ok .nx ρ2∧I (i+1) ρ2) (h0:I 0 ρ1):∃ρ',Xt it t body ρ=.ok .nx ρ'∧I xs.length ρ':=by
 obtain⟨ρ',e,e1⟩:=mP (I:=I) xs 0 ρ1 (fun i x ρ hx hI=>by simpa using h i x ρ hx (by simpa using hI)) h0
 exact⟨ρ',by unfold Xt; rw[hit]; exact e,by simpa using e1⟩
end L2.AL
namespace L2.AL.SH
open PySem PySem.Spec PyProof.Rows L2 L2.AL
def YE:List Nat:=[97,98,99,100,101,102,103,104,105,106,107,108,109,110,111,112,113,114,115,116,117,118,119,120,121,122]
theorem aY:(Str.ofString "abcdefghijklmnopqrstuvwxyz").cps.toList=YE:=by decide+kernel
theorem KD (c:Nat):c∈(Str.ofString "abcdefghijklmnopqrstuvwxyz").cps↔c∈YE:=by rw[←Array.mem_toList_iff,aY]
theorem Kv:(Str.ofString "abcdefghijklmnopqrstuvwxyz").length=26:=by decide+kernel
def yk (z:Str):Bool:=decide (1≤z.length∧z.length≤8)&&z.cps.toList.all fun c=>decide (c∈YE)
theorem zu {n:Nat} (h:n≤100000):n≤sizeLine:=AU h (by decide)
local macro_rules|`(tactic|simp[AI,$xs,*]) => `(tactic|simp[zJ,yf,zt,sIf,zH,zL,zp,z9,sTg,zy,sNx,zb,aK,za,ze,zg,zX,zh,zY,E.val,aT,zz,zF,zW,zB,yl,zK,aIf,zr,zV,zG,keepL,keep1,zq,toSL,toS,setL,aFn,zx,zO,zM,wb,zn,D.items?,zC,D.tyn,zj,zw,zm,yc,D.isi,gIs,yj,D.is?,D.seq?,zD,O.toD,eBl,zN,z_,zQ,tsetL,zo,zA,ya,D.imm,$xs,*])
theorem vd (z:Str) (hz:z.length≤100000):qg [.d (.str z)]=.ok (.d (.bl (yk z))) [.d (.str z)]:=by
 have hl:z.length≤sizeLine:=zu hz
 have comp:aLc [1] (zn (zb 0)) (.nm 1) yX (zg gIn (zb 1) (aK c_LETTERS)) [.d (.str z),.no]=.ok (.fr (.lst (z.cps.toList.map fun c=>.bl (decide (c∈YE))))) [.d (.str z),.no]:=by
  refine UI (fun c=>D.str ⟨#[c]⟩) (fun c=>D.bl (decide (c∈YE))) z.cps.toList (ρ1:=[.d (.str z),.no]) ?_ rfl (fun c hc=>?_) ?_
  ·simp[AI,bx]
  ·refine⟨_,.d (.bl (decide (c∈YE))),rfl,?_,rfl,rfl⟩
   simp[AI,gIn,D.in?,c_LETTERS,KD]
  ·have:z.cps.toList.length=z.length:=by simp[Str.length]
   rw[this]; exact hl
 have hall:D.bls? (z.cps.toList.map fun c=>D.bl (decide (c∈YE)))=some (z.cps.toList.map fun c=>decide (c∈YE)):=by
  have:=L8 (z.cps.toList.map fun c=>decide (c∈YE))
  rwa [AY]at this
 have hid:((z.cps.toList.map fun c=>decide (c∈YE)).all id)=z.cps.toList.all fun c=>decide (c∈YE):=by
  rw[List.all_map]; rfl
 unfold qg dE
 by_cases h1:(1:Int)≤z.length
 ·by_cases h2:(z.length:Int)≤8
  ·have hn:yk z=z.cps.toList.all fun c=>decide (c∈YE):=by
    unfold yk
    rw[decide_eq_true (show 1≤z.length∧z.length≤8 by omega),Bool.true_and]
   rw[hn]
   simp[AI,gLe,xT,c_LONGEST_NAME,hl,h1,h2,comp,YW,hall,hid,-Array.all_toList,-List.all_map]
  ·have hn:yk z=false:=by
    unfold yk
    rw[decide_eq_false (show¬(1≤z.length∧z.length≤8)by omega),Bool.false_and]
   rw[hn]
   simp[AI,gLe,xT,c_LONGEST_NAME,hl,h1,h2]
 ·have hn:yk z=false:=by
   unfold yk
   rw[decide_eq_false (show¬(1≤z.length∧z.length≤8)by omega),Bool.false_and]
  rw[hn]
  simp[AI,gLe,xT,c_LONGEST_NAME,hl,h1]
end L2.AL.SH
namespace L2.AL
open PySem PySem.Spec PyProof.Rows
section
variable {ρ ρ1 ρ2:List S} {f g:AJ} {e:AK} {c:List S→Res Bool} {v:E} {x:D} {o:O}
theorem xR {np nl:Nat} (hρ:ρ.length=np) (h:f (ρ++List.replicate nl .no)=.ok (.rt (.d x)) ρ1):zJ np nl f ρ=.ok (.d x) (ρ1.take np):=by
 unfold zJ; rw[if_pos hρ,h]; rfl
theorem vw {np nl:Nat} (hρ:ρ.length=np) (h:f (ρ++List.replicate nl .no)=.ok (.rt (.fr o)) ρ1):zJ np nl f ρ=.ok (.fr o) (ρ1.take np):=by
 unfold zJ; rw[if_pos hρ,h]; rfl
theorem zU (h:f ρ=.ok .nx ρ1):zt f g ρ=g ρ1:=by unfold zt; rw[h]
theorem vz (h:f ρ=.ok (.rt v) ρ1):zt f g ρ=.ok (.rt v) ρ1:=by unfold zt; rw[h]
theorem xp (h:e ρ=.ok v ρ1):zH e ρ=.ok (.rt v) ρ1:=by unfold zH; rw[h]; rfl
theorem fX (h:c ρ=.ok true ρ1):sIf c f g ρ=f ρ1:=by unfold sIf; rw[h]; rfl
theorem UZ (h:c ρ=.ok false ρ1):sIf c f g ρ=g ρ1:=by unfold sIf; rw[h]; rfl
theorem YL {i:Nat} (h:e ρ=.ok (.d x) ρ1) (hi:i<ρ1.length):zp i e ρ=.ok .nx (ρ1.set i (.d x)):=by
 simp[zp,z9,za,h,ze,toSL,toS,setL,hi]
theorem QM {i:Nat} (h:e ρ=.ok (.fr o) ρ1) (hi:i<ρ1.length):zp i e ρ=.ok .nx (ρ1.set i (.own o)):=by
 simp[zp,z9,za,h,ze,toSL,toS,setL,hi]
theorem qi {b:Bool} (h:e ρ=.ok (.d (.bl b)) ρ1):aT e ρ=.ok b ρ1:=by unfold aT; rw[h]; rfl
theorem c_ {b:Bool} (h:c ρ=.ok b ρ1):zz c ρ=.ok (!b) ρ1:=by unfold zz; rw[h]; rfl
theorem SN {F:AK} {a:AK} (ha:a ρ=.ok (.d x) ρ1) (hF:F [.d x]=.ok (.fr o) [.d x]):aFn F (za a ze) ρ=.ok (.fr o) ρ1:=by
 simp[aFn,za,ha,ze,zx,zO,zM,hF,wb]
theorem kD {i:Nat} (h:ρ[i]?=some (.d x)):zb i ρ=.ok (.d x) ρ:=by unfold zb; rw[h]
end
end L2.AL
namespace L2.AL.SH
open PySem PySem.Spec PyProof.Rows L2 L2.AL TL
theorem aq {z:Str} (h:yk z=true):1≤z.length∧z.length≤8∧∀c∈tl z,c∈YE:=by
 unfold yk at h
 rw[Bool.and_eq_true]at h
 have h1:=of_decide_eq_true h.1
 refine⟨h1.1,h1.2,fun c hc=>?_⟩
 exact of_decide_eq_true (AP.mp h.2 c hc)
theorem ae {c:Nat} (h:c∈YE):97≤c∧c≤122:=by
 simp only[YE,List.mem_cons,List.not_mem_nil,or_false]at h
 omega
theorem gZ {α:Type} (f:α→Nat) (b:Nat):∀l:List α,(∀x∈l,f x≤b)→(l.map f).sum≤l.length * b
 |[],_=>by simp
 |x::l,h=>by
  have h1:=h x AN
  have h2:=gZ f b l fun y hy=>h y (List.mem_cons_of_mem _ hy)
  rw[List.map_cons,List.sum_cons,List.length_cons,Nat.add_mul]
  omega
theorem aW {α:Type} (f:α→Str) (l:List α):D.strs? (l.map fun a=>D.str (f a))=some (l.map f):=by
 have:=Lz (l.map f)
 rwa [AY]at this
end L2.AL.SH
namespace L2.AL
open PySem PySem.Spec PyProof.Rows
section
variable {ρ:List S} {fa fb:AK} {x y:D} {v:E} {g:D→D→Option E} {i:Int}
theorem yh (ha:fa ρ=.ok (.d x) ρ) (hb:fb ρ=.ok (.d y) ρ) (h:g x y=some v):zg g fa fb ρ=.ok v ρ:=by
 simp[zg,ha,hb,zX,E.val,h]
theorem fY (ha:fa ρ=.ok (.d (.int i)) ρ):zh XC (za fa ze) ρ=.ok (.d (.int i)) ρ:=by
 simp[zh,za,ha,ze,zY,E.val,XC,zN]
end
theorem lg {i:Int} {k:Nat} (h:i.natAbs<2 ^ k) (hk:0<k):i.natAbs.log2<k:=by
 by_cases h0:i.natAbs=0
 ·rw[h0]; simpa using hk
 ·exact(Nat.log2_lt h0).mpr h
theorem jW {i j:Int} (h:i.natAbs<2 ^ 2000) (h':j.natAbs<2 ^ 2000):Zh (.int i) (.int j)=some (zN (i * j)):=by
 have h1:=lg h (by decide)
 have h2:=lg h' (by decide)
 simp only[Zh]
 rw[if_pos (by omega)]
theorem Yj {i j:Int} (h:0<j):XD (.int i) (.int j)=some (zN (i % j)):=by
 simp only[XD]
 rw[if_pos h]
theorem sW {i j:Int} (h:0<j) (h':j.natAbs<2 ^ 2000):oy (.int i) (.int j)=some (zN (i / j)):=by
 have h2:=lg h' (by decide)
 simp only[oy]
 rw[if_pos ⟨h,by omega⟩]
theorem uJ {i:Int} {j:Nat} (h:i.natAbs<2 ^ 2000) (hj:j≤1000):Ur (.int i) (.int j)=some (zN (i ^ j)):=by
 have h1:=lg h (by decide)
 have hb:Builtin.Int.intBits i≤2000:=by
  unfold Builtin.Int.intBits
  split<;>omega
 have hc:(Builtin.Int.intBits i:Int) * (j:Int)≤2 ^ 27:=by
  have:Builtin.Int.intBits i * j≤2000 * 1000:=Nat.mul_le_mul hb hj
  have e:((Builtin.Int.intBits i * j:Nat):Int)=(Builtin.Int.intBits i:Int) * (j:Int):=by push_cast; rfl
  rw[←e]
  omega
 simp only[Ur]
 rw[if_pos ⟨by omega,hc⟩]
 simp
end L2.AL
namespace L2.AL.SH
open PySem PySem.Spec PyProof.Rows L2 L2.AL TL
def jar (a b t:Int):O:=.lst [.int a,.int b,.int t]
structure JarOk (T:Nat) (o:O):Prop where
 form:∃a b t:Int,o=jar a b t∧0≤b∧b<2305843009213693921∧0≤t∧t≤T
theorem JarOk.mono {T T':Nat} {o:O} (h:JarOk T o) (le:T≤T'):JarOk T' o:=by
 obtain⟨a,b,t,e,h1,h2,h3,h4⟩:=h.form
 exact⟨a,b,t,e,h1,h2,h3,by omega⟩
section
variable {ρ:List S} {a b t:Int}
theorem ix0 (h:ρ[0]?=some (.own (jar a b t))):zg gIx (zb 0) (aK (.int 0)) ρ=.ok (.d (.int a)) ρ:=by
 simp[zg,zb,h,aK,zX,E.val,jar,O.toD,gIx,atI,ixN]
theorem ix1 (h:ρ[0]?=some (.own (jar a b t))):zg gIx (zb 0) (aK (.int 1)) ρ=.ok (.d (.int b)) ρ:=by
 simp[zg,zb,h,aK,zX,E.val,jar,O.toD,gIx,atI,ixN]
theorem ix2 (h:ρ[0]?=some (.own (jar a b t))):zg gIx (zb 0) (aK (.int 2)) ρ=.ok (.d (.int t)) ρ:=by
 simp[zg,zb,h,aK,zX,E.val,jar,O.toD,gIx,atI,ixN]
end
theorem PH (k:Int) (h0:0≤k) (h:k<5):∃p:Int,gIx (.lst [.int 2147483647,.int 2147483629,.int 2147483587,.int 2147483579,.int 2147483563]) (.int k)=some (.d (.int p))∧0<p∧p≤2147483647:=by
 have:k=0∨k=1∨k=2∨k=3∨k=4:=by omega
 rcases this with rfl|rfl|rfl|rfl|rfl
 ·exact⟨2147483647,rfl,by decide,by decide⟩
 ·exact⟨2147483629,rfl,by decide,by decide⟩
 ·exact⟨2147483587,rfl,by decide,by decide⟩
 ·exact⟨2147483579,rfl,by decide,by decide⟩
 ·exact⟨2147483563,rfl,by decide,by decide⟩
theorem xB {T:Nat} {o:O} {m:Int} (h:JarOk T o) (hT:T≤100000) (hm:0<m) (hm2:m<2 ^ 70) :
  ∃r o',zZ [.own o,.d (.int m)]=.ok (.d (.int r)) [.own o',.d (.int m)]∧0≤r∧r<m∧JarOk (T+1) o':=by
 obtain⟨a,b,t,rfl,hb0,hb1,ht0,ht1⟩:=h.form
 have mm:m.natAbs<2 ^ 2000:=by
  have:m.natAbs<2 ^ 70:=by omega
  exact Bt this (BM (by decide) (by decide))
 by_cases ha:0<a
 ·refine⟨a % m,jar (a / m) b t,?_,Bu _ (by omega),Bv _ hm,⟨_,_,_,rfl,hb0,hb1,ht0,by omega⟩⟩
  refine(xR (ρ1:=[.own (jar (a / m) b t),.d (.int m),.d (.int (a % m)),.no,.no]) rfl ?_).trans rfl
  unfold JL
  show zt _ _ [.own (jar a b t),.d (.int m),.no,.no,.no]=_
  rw[vz (v:=.d (.int (a % m))) (ρ1:=[.own (jar (a / m) b t),.d (.int m),.d (.int (a % m)),.no,.no])]
  rw[fX (ρ1:=[.own (jar a b t),.d (.int m),.no,.no,.no])]
  ·rw[zU (ρ1:=[.own (jar a b t),.d (.int m),.d (.int (a % m)),.no,.no])]
   ·rw[zU (ρ1:=[.own (jar (a / m) b t),.d (.int m),.d (.int (a % m)),.no,.no])]
    ·rfl
    ·have q:zg oy (zg gIx (zb 0) (aK (.int 0))) (zb 1) [.own (jar a b t),.d (.int m),.d (.int (a % m)),.no,.no]=.ok (.d (.int (a / m))) [.own (jar a b t),.d (.int m),.d (.int (a % m)),.no,.no]:=yh (ix0 rfl) (kD rfl) (sW hm mm)
     unfold rX
     rw[q]
     rfl
   ·exact YL (ρ1:=[.own (jar a b t),.d (.int m),.no,.no,.no]) (yh (fY (ix0 rfl)) (kD rfl) (Yj hm)) (by simp)
  ·refine qi (yh (ix0 rfl) rfl ?_)
   simp[gGt,ha]
 ·obtain⟨t1,ht⟩:∃t1,t1=t+1:=⟨_,rfl⟩
  have t10:0≤t1:=by omega
  have t11:t1≤100001:=by omega
  obtain⟨p,hp,hp0,hp1⟩:=PH (t1 % 5) (Bu _ (by decide)) (Bv _ (by decide))
  obtain⟨x,hx⟩:∃x,x=b+99877 * t1 * t1+71:=⟨_,rfl⟩
  have tt:t1 * t1≤100001 * 100001:=Int.mul_le_mul t11 t11 t10 (by decide)
  have tt0:0≤t1 * t1:=Int.mul_nonneg t10 t10
  have xb:x.natAbs<2 ^ 2000:=by
   have e:99877 * t1 * t1=99877 * (t1 * t1):=by rw[Int.mul_assoc]
   have:x.natAbs<2 ^ 64:=by rw[hx,e]; omega
   exact Bt this (BM (by decide) (by decide))
  obtain⟨m1,hm1⟩:∃m1,m1=x ^ 3 % p:=⟨_,rfl⟩
  have m10:0≤m1:=by rw[hm1]; exact Bu _ (by omega)
  have m11:m1<2147483648:=by rw[hm1]; have:=Bv (x ^ 3) hp0; omega
  obtain⟨y,hy⟩:∃y,y=m1 % 10007+89 * t1:=⟨_,rfl⟩
  have yb:y.natAbs<2 ^ 64:=by
   have h1:=Bu m1 (show(10007:Int)≠0 by decide)
   have h2:=Bv m1 (show(0:Int)<10007 by decide)
   omega
  obtain⟨m2,hm2'⟩:∃m2,m2=m1 * y % 2305843009213693907:=⟨_,rfl⟩
  refine⟨m2 / 83 % m,jar a b t1,?_,Bu _ (by omega),Bv _ hm,⟨_,_,_,rfl,hb0,hb1,t10,by push_cast; omega⟩⟩
  refine(xR (ρ1:=[.own (jar a b t1),.d (.int m),.no,.d (.int p),.d (.int m2)]) rfl ?_).trans rfl
  unfold JL
  show zt _ _ [.own (jar a b t),.d (.int m),.no,.no,.no]=_
  rw[zU (ρ1:=[.own (jar a b t),.d (.int m),.no,.no,.no])]
  ·rw[zU (ρ1:=[.own (jar a b t1),.d (.int m),.no,.no,.no])]
   ·rw[zU (ρ1:=[.own (jar a b t1),.d (.int m),.no,.d (.int p),.no])]
    ·rw[zU (ρ1:=[.own (jar a b t1),.d (.int m),.no,.d (.int p),.d (.int m1)])]
     ·rw[zU (ρ1:=[.own (jar a b t1),.d (.int m),.no,.d (.int p),.d (.int m2)])]
      ·refine xp ?_
       exact yh (fY (yh (y:=.int 83) (kD rfl) rfl (sW (by decide) (Bt (show(83:Int).natAbs<2 ^ 64 by decide) (BM (by decide) (by decide)))))) (kD rfl) (Yj hm)
      ·refine(YL (x:=.int m2) (ρ1:=[.own (jar a b t1),.d (.int m),.no,.d (.int p),.d (.int m1)]) ?_ (by simp)).trans rfl
       have big:∀{i:Int},i.natAbs<2 ^ 64→i.natAbs<2 ^ 2000:=fun h=>Bt h (BM (by decide) (by decide))
       have e1:zg XD (zh XC (za (zb 4) ze)) (aK (.int 10007)) [.own (jar a b t1),.d (.int m),.no,.d (.int p),.d (.int m1)]=.ok (.d (.int (m1 % 10007))) [.own (jar a b t1),.d (.int m),.no,.d (.int p),.d (.int m1)]:=yh (y:=.int 10007) (fY (kD rfl)) rfl (Yj (by decide))
       have e2:zg Zh (aK (.int 89)) (zg gIx (zb 0) (aK (.int 2))) [.own (jar a b t1),.d (.int m),.no,.d (.int p),.d (.int m1)]=.ok (.d (.int (89 * t1))) [.own (jar a b t1),.d (.int m),.no,.d (.int p),.d (.int m1)]:=yh (x:=.int 89) rfl (ix2 rfl) (jW (big (by decide)) (big (by omega)))
       have e3:=yh (g:=yP) e1 e2 rfl
       have e4:=yh (g:=Zh) (v:=.d (.int (m1 * y))) (fa:=zb 4) (kD (x:=.int m1) rfl) e3 (by rw[←hy]; exact jW (big (by omega)) (big yb))
       have e5:=yh (g:=XD) (fb:=aK (.int 2305843009213693907)) (fY e4) rfl (Yj (by decide))
       rw[hm2']
       exact e5
     ·refine(YL (x:=.int m1) (ρ1:=[.own (jar a b t1),.d (.int m),.no,.d (.int p),.no]) ?_ (by simp)).trans rfl
      have big:∀{i:Int},i.natAbs<2 ^ 64→i.natAbs<2 ^ 2000:=fun h=>Bt h (BM (by decide) (by decide))
      have e1:zg Zh (aK (.int 99877)) (zg gIx (zb 0) (aK (.int 2))) [.own (jar a b t1),.d (.int m),.no,.d (.int p),.no]=.ok (.d (.int (99877 * t1))) [.own (jar a b t1),.d (.int m),.no,.d (.int p),.no]:=yh (x:=.int 99877) rfl (ix2 rfl) (jW (big (by decide)) (big (by omega)))
      have e2:=yh (g:=Zh) (v:=.d (.int (99877 * t1 * t1))) e1 (ix2 rfl) (jW (big (by omega)) (big (by omega)))
      have e3:=yh (g:=yP) (v:=.d (.int (b+99877 * t1 * t1))) (fa:=zg gIx (zb 0) (aK (.int 1))) (ix1 rfl) e2 rfl
      have e4:=yh (g:=yP) (v:=.d (.int x)) (fb:=aK (.int 71)) e3 rfl (by rw[hx]; rfl)
      have e5:=yh (g:=Ur) (v:=.d (.int (x ^ 3))) (fb:=aK (.int 3)) e4 rfl (uJ (j:=3) xb (by decide))
      rw[hm1]
      exact yh (fY e5) (kD rfl) (Yj hp0)
    ·refine(YL (x:=.int p) (ρ1:=[.own (jar a b t1),.d (.int m),.no,.no,.no]) ?_ (by simp)).trans rfl
     have e1:=yh (g:=XD) (v:=.d (.int (t1 % 5))) (fb:=aK (.int 5)) (fY (ix2 (ρ:=[.own (jar a b t1),.d (.int m),.no,.no,.no]) rfl)) rfl (Yj (by decide))
     have s5:5≤sizeLine:=zu (by decide)
     have l5:zG (za (aK (.int 2147483647)) (za (aK (.int 2147483629)) (za (aK (.int 2147483587)) (za (aK (.int 2147483579)) (za (aK (.int 2147483563)) ze))))) [.own (jar a b t1),.d (.int m),.no,.no,.no]=.ok (.fr (.lst [.int 2147483647,.int 2147483629,.int 2147483587,.int 2147483579,.int 2147483563])) [.own (jar a b t1),.d (.int m),.no,.no,.no]:=by
      simp[zG,za,aK,ze,keepL,keep1,s5]
     rw[zg]
     simp only[l5,Res.bind_ok,e1,zX,E.val,O.toD,hp]
   ·have q:zg yP (zg gIx (zb 0) (aK (.int 2))) (aK (.int 1)) [.own (jar a b t),.d (.int m),.no,.no,.no]=.ok (.d (.int t1)) [.own (jar a b t),.d (.int m),.no,.no,.no]:=yh (y:=.int 1) (ix2 rfl) rfl (by rw[ht]; rfl)
    unfold rX
    rw[q]
    rfl
  ·rw[UZ (ρ1:=[.own (jar a b t),.d (.int m),.no,.no,.no])]
   ·rfl
   ·refine qi (yh (ix0 rfl) rfl ?_)
    simp[gGt,ha]
local macro_rules|`(tactic|simp[AI,$xs,*]) => `(tactic|simp[zJ,yf,zt,sIf,zH,zL,zp,z9,sTg,zy,sNx,zb,aK,za,ze,zg,zX,zh,zY,E.val,aT,zz,zF,zW,zB,yl,zK,aIf,zr,zV,zG,keepL,keep1,zq,toSL,toS,setL,aFn,zx,zO,zM,wb,zn,D.items?,zC,D.tyn,zj,zw,zm,yc,D.isi,gIs,yj,D.is?,D.seq?,zD,O.toD,eBl,zN,z_,zQ,tsetL,zo,zA,ya,D.imm,$xs,*])
theorem KR {T:Nat} {o:O} {xs:List D} (h:JarOk T o) (hT:T≤100000) (hne:xs≠[]) (hl:xs.length≤1000) (s:S) (hs:s=.own (.lst xs)∨s=.d (.lst xs)) :
  ∃x o',yJ [.own o,s]=.ok (.d x) [.own o',s]∧x∈xs∧JarOk (T+1) o':=by
 have pos:0<xs.length:=List.length_pos_iff.mpr hne
 obtain⟨r,o',e,h0,h1,ok⟩:=xB (m:=(xs.length:Int)) h hT (by omega) (by omega)
 have hr:r.toNat<xs.length:=by omega
 have hi:gIx (.lst xs) (.int r)=some (.d xs[r.toNat]):=by
  simp only[gIx,atI,ixN]
  rw[if_pos h0,if_pos h1]
  simp[hr]
 refine⟨xs[r.toNat],o',?_,List.getElem_mem _,ok⟩
 refine(xR (ρ1:=[.own o',s]) rfl (xp ?_)).trans rfl
 rcases hs with rfl|rfl<;>simp[AI,xT,e,hi]
theorem Po {T:Nat} {o:O} {z:Str} (h:JarOk T o) (hT:T≤100000) (hne:0<z.length) (hl:z.length≤1000) (s:S) (hs:s=.d (.str z)) :
  ∃c o',yJ [.own o,s]=.ok (.d (.str ⟨#[c]⟩)) [.own o',s]∧c∈tl z∧JarOk (T+1) o':=by
 obtain⟨r,o',e,h0,h1,ok⟩:=xB (m:=(z.length:Int)) h hT (by omega) (by omega)
 have lz:z.length=z.cps.toList.length:=by simp[Str.length]
 have hr:r.toNat<z.cps.toList.length:=by omega
 have sz:z.length≤sizeLine:=zu (by omega)
 have h1':r<z.cps.toList.length:=by omega
 have hi:gIx (.str z) (.int r)=some (.d (.str ⟨#[z.cps.toList[r.toNat]]⟩)):=by
  simp only[gIx,atI,ixN]
  rw[if_pos sz,if_pos h0,if_pos h1']
  simp only[Option.bind_some,AX hr,Option.map_some]
 refine⟨z.cps.toList[r.toNat],o',?_,List.getElem_mem _,ok⟩
 refine(xR (ρ1:=[.own o',s]) rfl (xp ?_)).trans rfl
 subst hs
 have hlen:xT [.str z]=some (.d (.int z.length)):=by simp only[xT,if_pos sz]
 have e1:aFn zZ (za (zb 0) (za (zh xT (za (zb 1) ze)) ze)) [.own o,.d (.str z)]=.ok (.d (.int r)) [.own o',.d (.str z)]:=by
  simp[AI,hlen,e]
 show zg gIx (zb 1) _ [.own o,.d (.str z)]=_
 simp only[zg,kD (ρ:=[.own o,.d (.str z)]) (i:=1) rfl,Res.bind_ok,e1,zX,E.val,hi]
theorem YJ {i:Int} (h:i.natAbs<2 ^ 64):i.natAbs<2 ^ 2000:=Bt h (BM (by decide) (by decide))
theorem RW:(((10:Int) ^ 60).natAbs)<2 ^ 2000:=Bt (show((10:Int) ^ 60).natAbs<2 ^ 200 by decide+kernel) (BM (by decide) (by decide))
theorem Kj {ns:List Int} {k:Int} (h0:0≤k) (h1:k<10) (hl:ns.length≤63):∃o,Zi [.d (.scr ns),.d (.int k)]=.ok (.fr o) [.d (.scr ns),.d (.int k)]∧JarOk 0 o:=by
 obtain⟨c,hc⟩:∃c:Int,aIf (aT (zg gLt (zb 1) (zh xT (za (zb 0) ze)))) (zg gIx (zb 0) (zb 1)) (zg yP (zg Zh (aK (.int 29)) (zb 1)) (aK (.int 11))) [.d (.scr ns),.d (.int k),.no,.no]=.ok (.d (.int c)) [.d (.scr ns),.d (.int k),.no,.no]:=by
  have e1:aT (zg gLt (zb 1) (zh xT (za (zb 0) ze))) [.d (.scr ns),.d (.int k),.no,.no]=.ok (decide (k<(ns.length:Int))) [.d (.scr ns),.d (.int k),.no,.no]:=qi (yh (x:=.int k) (y:=.int ns.length) rfl rfl rfl)
  by_cases hk:k<(ns.length:Int)
  ·have hr:k.toNat<ns.length:=by omega
   refine⟨ns[k.toNat],?_⟩
   rw[aIf,e1]
   simp only[Res.bind_ok,decide_eq_true hk,if_true]
   refine yh (x:=.scr ns) (y:=.int k) rfl rfl ?_
   simp only[gIx,atI,ixN]
   rw[if_pos h0,if_pos hk]
   simp[hr]
  ·refine⟨29 * k+11,?_⟩
   rw[aIf,e1]
   simp only[Res.bind_ok,decide_eq_false hk,Bool.false_eq_true,if_false]
   exact yh (yh (x:=.int 29) (y:=.int k) rfl rfl (jW (YJ (by decide)) (YJ (by omega)))) rfl rfl
 obtain⟨ab,hab⟩:∃ab:Int,ab=if c<0 then -c else c:=⟨_,rfl⟩
 obtain⟨m,hm⟩:∃m:Int,zg Zh (zg XD (zh XC (za (zh mT (za (zb 2) ze)) ze)) (zg Ur (zg Ur (aK (.int 10)) (aK (.int 60))) (aK (.int 5)))) (zh XC (za (zg gGe (zh mT (za (zb 2) ze)) (zg Ur (aK (.int 10)) (aK (.int 18)))) ze)) [.d (.scr ns),.d (.int k),.d (.int c),.no]=.ok (.d (.int m)) [.d (.scr ns),.d (.int k),.d (.int c),.no]:=by
  have a1:zh mT (za (zb 2) ze) [.d (.scr ns),.d (.int k),.d (.int c),.no]=.ok (.d (.int ab)) [.d (.scr ns),.d (.int k),.d (.int c),.no]:=by rw[hab]; rfl
  have p1:zg Ur (aK (.int 10)) (aK (.int 60)) [.d (.scr ns),.d (.int k),.d (.int c),.no]=.ok (.d (.int (10 ^ 60))) [.d (.scr ns),.d (.int k),.d (.int c),.no]:=yh (x:=.int 10) (y:=.int 60) rfl rfl (uJ (j:=60) (YJ (by decide)) (by decide))
  have p2:=yh (g:=Ur) (v:=.d (.int ((10 ^ 60) ^ 5))) (fb:=aK (.int 5)) p1 rfl (uJ (j:=5) RW (by decide))
  have pos:(0:Int)<(10 ^ 60) ^ 5:=by decide+kernel
  have m1:=yh (g:=XD) (fY a1) p2 (Yj pos)
  have p3:zg Ur (aK (.int 10)) (aK (.int 18)) [.d (.scr ns),.d (.int k),.d (.int c),.no]=.ok (.d (.int (10 ^ 18))) [.d (.scr ns),.d (.int k),.d (.int c),.no]:=yh (x:=.int 10) (y:=.int 18) rfl rfl (uJ (j:=18) (YJ (by decide)) (by decide))
  have g1:=yh (g:=gGe) (v:=.d (.bl (decide ((10 ^ 18:Int)≤ab)))) a1 p3 rfl
  have b1:zh XC (za (zg gGe (zh mT (za (zb 2) ze)) (zg Ur (aK (.int 10)) (aK (.int 18)))) ze) [.d (.scr ns),.d (.int k),.d (.int c),.no]=.ok (.d (.int (if decide ((10 ^ 18:Int)≤ab)=true then 1 else 0))) [.d (.scr ns),.d (.int k),.d (.int c),.no]:=by
   simp only[zh,za,g1,ze,Res.bind_ok,zY,E.val,XC,Option.bind_some,zN]
  refine⟨_,yh m1 b1 (jW ?_ ?_)⟩
  ·have h1:=Bu ab (show((10:Int) ^ 60) ^ 5≠0 by omega)
   have h2:=Bv ab pos
   have h3:((10:Int) ^ 60) ^ 5=((((10 ^ 60) ^ 5:Nat)):Int):=by decide+kernel
   have h4:(10 ^ 60) ^ 5<2 ^ 2000:=by decide+kernel
   omega
  ·split<;>exact YJ (by decide)
 refine⟨jar m ((c % 2305843009213693951 * 70843+8521 * k * k+41) % 2305843009213693921) 0,?_,⟨_,_,_,rfl,Bu _ (by decide),Bv _ (by decide),by decide,by decide⟩⟩
 refine(vw (ρ1:=[.d (.scr ns),.d (.int k),.d (.int c),.d (.int m)]) rfl ?_).trans rfl
 unfold u7
 show zt _ _ [.d (.scr ns),.d (.int k),.no,.no]=_
 rw[zU (ρ1:=[.d (.scr ns),.d (.int k),.d (.int c),.no]) (YL hc (by simp)),zU (ρ1:=[.d (.scr ns),.d (.int k),.d (.int c),.d (.int m)]) (YL hm (by simp))]
 refine xp ?_
 have kk:(8521 * k).natAbs<2 ^ 64:=by omega
 have c0:=Bu c (show(2305843009213693951:Int)≠0 by decide)
 have c1:=Bv c (show(0:Int)<2305843009213693951 by decide)
 have e1:zg XD (zh XC (za (zb 2) ze)) (aK (.int 2305843009213693951)) [.d (.scr ns),.d (.int k),.d (.int c),.d (.int m)]=.ok (.d (.int (c % 2305843009213693951))) [.d (.scr ns),.d (.int k),.d (.int c),.d (.int m)]:=yh (y:=.int 2305843009213693951) (fY (kD rfl)) rfl (Yj (by decide))
 have e2:=yh (g:=Zh) (v:=.d (.int (c % 2305843009213693951 * 70843))) (fb:=aK (.int 70843)) e1 rfl (jW (YJ (by omega)) (YJ (by decide)))
 have e3:zg Zh (aK (.int 8521)) (zb 1) [.d (.scr ns),.d (.int k),.d (.int c),.d (.int m)]=.ok (.d (.int (8521 * k))) [.d (.scr ns),.d (.int k),.d (.int c),.d (.int m)]:=yh (x:=.int 8521) (y:=.int k) rfl rfl (jW (YJ (by decide)) (YJ (by omega)))
 have e4:=yh (g:=Zh) (v:=.d (.int (8521 * k * k))) (fb:=zb 1) (y:=.int k) e3 rfl (jW (YJ kk) (YJ (by omega)))
 have e5:=yh (g:=yP) (v:=.d (.int (c % 2305843009213693951 * 70843+8521 * k * k))) e2 e4 rfl
 have e6:=yh (g:=yP) (v:=.d (.int (c % 2305843009213693951 * 70843+8521 * k * k+41))) (fb:=aK (.int 41)) e5 rfl rfl
 have e7:=yh (g:=XD) (v:=.d (.int ((c % 2305843009213693951 * 70843+8521 * k * k+41) % 2305843009213693921))) (fb:=aK (.int 2305843009213693921)) (fY e6) rfl (Yj (by decide))
 have s3:3≤sizeLine:=zu (by decide)
 have v3:zb 3 [.d (.scr ns),.d (.int k),.d (.int c),.d (.int m)]=.ok (.d (.int m)) [.d (.scr ns),.d (.int k),.d (.int c),.d (.int m)]:=rfl
 simp only[zG,za,v3,e7,Res.bind_ok,aK,ze,keepL,keep1,List.length_cons,List.length_nil]
 rw[if_pos (by omega)]
 rfl
def small:Str:=Str.ofString "abcdefghijklmnopqrstuvwxyz"
theorem g6:tl small=YE:=aY
theorem Vz:small.length=26:=Kv
theorem w5:∀{ys:List D},(∀y∈ys,∃c,c∈YE∧y=.str ⟨#[c]⟩)→∃cs:List Nat,ys=cs.map (fun c=>.str ⟨#[c]⟩)∧∀c∈cs,c∈YE
 |[],_=>⟨[],rfl,by simp⟩
 |y::ys,h=>by
  obtain⟨c,hc,rfl⟩:=h y AN
  obtain⟨cs,rfl,hcs⟩:=w5 fun z hz=>h z (List.mem_cons_of_mem _ hz)
  exact⟨c::cs,rfl,fun x hx=>by
   rcases List.mem_cons.mp hx with rfl|hx
   ·exact hc
   ·exact hcs x hx⟩
theorem dY:∀cs:List Nat,joinL [] (cs.map fun c=>[c])=cs
 |[]=>rfl
 |[c]=>rfl
 |c::d::r=>by
  have:=dY (d::r)
  simp only[List.map_cons,joinL,List.nil_append]at this⊢
  rw[this]; rfl
theorem Np (cs:List Nat):tl (Txt.join "" (cs.map fun c=>(⟨#[c]⟩:Str)))=cs:=by
 rw[join_eq,tl_join,show tl (Str.ofString "")=[]by decide+kernel,AY]
 exact dY cs
theorem UD (lo:Int) (n:Nat):(qa lo n).length=n:=by unfold qa; simp
theorem UC {lo:Int} {n i:Nat} {x:D} (h:(qa lo n)[i]?=some x):x=.int (lo+i)∧i<n:=by
 unfold qa at h
 obtain⟨j,h1,rfl⟩:=ai h
 have hj:i<n:=by
  have:=(AQ.mp h1).1
  simpa using this
 rw[List.getElem?_range hj]at h1
 cases h1
 exact⟨rfl,hj⟩
theorem Zg {F:AK} {fx:AK} {ρ:List S} {o o':O} {x:E} {s s':S} {y:D} (h0:ρ[0]?=some (.own o)) (hx:fx ρ=.ok x ρ) (hs:(∃d,x=.d d∧s=.d d)∨(∃p,x=.fr p∧s=.own p)) (hF:F [.own o,s]=.ok (.d y) [.own o',s']) :
  aFn F (za (zb 0) (za fx ze)) ρ=.ok (.d y) (ρ.set 0 (.own o')):=by
 rcases hs with⟨d,rfl,rfl⟩|⟨p,rfl,rfl⟩<;>
  simp[aFn,za,zb,h0,hx,ze,zx,zO,zM,hF,wb]
theorem tG {z:Str} {k:Int} (h0:0≤k) (h1:k≤z.length):tl (cutS z none (some k))=(tl z).take k.toNat:=by
 obtain⟨n,rfl⟩:=Int.eq_ofNat_of_zero_le h0
 unfold cutS
 rw[HT.sIx_none,HT.sIx_nat]
 simp only[tl,List.drop_zero,Nat.sub_zero,Int.toNat_natCast]
 rw[Nat.min_eq_left (by omega)]
theorem tF {z:Str} {k:Int} (h0:0≤k) (h1:k≤z.length):tl (cutS z (some k) none)=(tl z).drop k.toNat:=by
 obtain⟨n,rfl⟩:=Int.eq_ofNat_of_zero_le h0
 unfold cutS
 rw[HT.sIx_none,HT.sIx_nat]
 simp only[tl,Int.toNat_natCast]
 rw[Nat.min_eq_left (by omega)]
 have:z.cps.toList.length=z.length:=by simp[Str.length]
 rw[BR (by rw[Bw]; omega)]
theorem Ls {o o':O} {r:List S}:(S.own o::r).set 0 (.own o')=.own o'::r:=rfl
end L2.AL.SH
namespace L2.AL.K14
open PySem PySem.Spec PyProof.Rows TL
theorem RY (s c:Nat) (r:List Nat):pre [s] (c::r)=decide (c=s):=by
 unfold pre
 simp only[List.length_cons,List.length_nil,List.take_succ_cons,List.take_zero]
 by_cases h:c=s
 ·subst h; simp
 ·rw[decide_eq_false h]; simpa using h
theorem gW {s c:Nat} {acc r:List Nat}:spl [s] 0 acc (c::r)=if c=s then acc::spl [s] 0 [] r else spl [s] 0 (acc++[c]) r:=by
 by_cases h:c=s
 ·rw[if_pos h,spl_hit (by rw[RY,decide_eq_true h])]; rfl
 ·rw[if_neg h,spl_miss (by rw[RY,decide_eq_false h])]
theorem VG {s:Nat}:∀(l acc:List Nat),(∀p∈spl [s] 0 acc l,p.length≤acc.length+l.length)∧(spl [s] 0 acc l).length≤l.length+1
 |[],acc=>by rw[spl_nil]; simp
 |c::r,acc=>by
  rw[gW]
  split
  ·obtain⟨h1,h2⟩:=VG (s:=s) r []
   refine⟨fun p hp=>?_,by simp only[List.length_cons]; omega⟩
   rcases List.mem_cons.mp hp with rfl|hp
   ·omega
   ·have:=h1 p hp
    simp only[List.length_nil,List.length_cons]at this⊢
    omega
  ·obtain⟨h1,h2⟩:=VG (s:=s) r (acc++[c])
   refine⟨fun p hp=>?_,by simp only[List.length_cons]; omega⟩
   have:=h1 p hp
   simp only[AS,List.length_cons,List.length_nil]at this⊢
   omega
theorem Lx {s:Nat}:∀(l acc:List Nat),spl [s] 0 acc l≠[]
 |[],acc=>by rw[spl_nil]; simp
 |c::r,acc=>by
  rw[gW]
  split
  ·simp
  ·exact Lx r _
theorem spl_app {s:Nat} (r:List Nat):∀(l acc:List Nat),spl [s] 0 acc (l++s::r)=spl [s] 0 acc l++spl [s] 0 [] r
 |[],acc=>by rw[List.nil_append,gW,if_pos rfl,spl_nil]; rfl
 |c::l,acc=>by
  rw[List.cons_append,gW,gW]
  split
  ·rw[spl_app r l []]; rfl
  ·exact spl_app r l _
theorem bD {s:Nat}:∀{parts:List (List Nat)},parts≠[]→spl [s] 0 [] (joinL [s] parts)=parts.flatMap (spl [s] 0 [])
 |[],h=>absurd rfl h
 |[p],_=>by simp[joinL]
 |p::q::r,_=>by
  have e:joinL [s] (p::q::r)=p++s::joinL [s] (q::r):=rfl
  rw[e,spl_app,bD (by simp)]
  exact List.flatMap_cons.symm
structure One (y:Str) (s:Nat):Prop where
 tl:tl y=[s]
 low:y.cps.all (·<256)=true
 len:y.length=1
theorem US:One "\n" 10:=⟨by decide+kernel,by decide+kernel,by decide+kernel⟩
theorem Uj:One " " 32:=⟨by decide+kernel,by decide+kernel,by decide+kernel⟩
theorem jC {x y:Str} {s:Nat} (h:One y s):(Txt.split x y).map tl=spl [s] 0 [] (tl x):=by
 have:=split_spl x y (by rw[h.tl]; simp) (kind_ok h.low)
 rw[h.tl]at this
 exact this
theorem kz {x y:Str} {s:Nat} (h:One y s):Txt.split x y≠[]:=fun z=>by
 have:=jC (x:=x) h
 rw[z]at this
 exact Lx _ _ this.symm
theorem split_count {x y:Str} {s:Nat} (h:One y s):(Txt.split x y).length≤x.length+1:=by
 have e:=congrArg List.length (jC (x:=x) h)
 rw[List.length_map]at e
 rw[e,len_tl]
 exact(VG _ _).2
theorem split_part {x y p:Str} {s:Nat} (h:One y s) (hp:p∈Txt.split x y):p.length≤x.length:=by
 have m:tl p∈spl [s] 0 [] (tl x):=by rw[←jC h]; exact List.mem_map_of_mem hp
 have:=(VG (s:=s) (tl x) []).1 _ m
 rw[len_tl,len_tl]
 simpa using this
theorem Vj {y:Str} {s:Nat} (h:One y s) {parts:List Str} (hne:parts≠[]):Txt.split (Txt.join y parts) y=parts.flatMap fun p=>Txt.split p y:=by
 refine map_tl_inj ?_
 rw[jC h,join_eq,tl_join,h.tl,bD (by simpa using hne),List.map_flatMap,List.flatMap_map]
 congr 1
 funext p
 exact(jC h).symm
end L2.AL.K14
namespace L2.AL
open PySem PySem.Spec PyProof.Rows
section
open Builtin
end
section
open Builtin
end
end L2.AL
namespace L2.AL
open PySem PySem.Spec PyProof.Rows PySem.SeqAt
section
open AutoSeq1 (wpAny_loadPart')
open MeetsSeq MeetsSeq2 MeetsSeq3 SeqRoads2
end
end L2.AL
namespace L2.AL.WS
open PySem PySem.Spec PyProof.Rows L2 L2.AL L2.AL.SH TL
def Vp (n:Nat) (z:Str):Bool:=decide (z.length≤n)&&z.cps.toList.all fun c=>decide (c<128)
def NH:Key→Bool
 | .inl _=>false
 | .inr z=>Vp 20 z
mutual
def okD (b:Nat):D→Bool
 | .non=>true
 | .bl _=>true
 | .int i=>decide (i.natAbs≤10 ^ 18+b)
 | .str z=>Vp (20+b) z
 | .tup xs=>okL b xs
 | .lst xs=>okL b xs
 | .dct kvs=>okK b kvs
 | .fn _=>false
 | .ty _=>false
 | .scr _=>false
 | .cd _=>false
 | .dd _=>false
 | .db _=>false
 | .ins _ _=>false
 | .raw _=>false
 | .exc _ _=>false
 | .wt _=>false
def okL (b:Nat):List D→Bool
 |[]=>true
 |x::xs=>okD b x&&okL b xs
def okK (b:Nat):List (Key×D)→Bool
 |[]=>true
 |(k,x)::xs=>(NH k&&okD b x)&&okK b xs
end
mutual
def szD:D→Nat
 | .tup xs=>szL xs
 | .lst xs=>szL xs
 | .dct kvs=>szK kvs
 | .non=>64
 | .bl _=>64
 | .int _=>98
 | .str _=>100
 | .fn _=>200
 | .ty _=>200
 | .scr _=>200
 | .cd _=>200
 | .dd _=>200
 | .db _=>200
 | .ins _ _=>200
 | .raw _=>200
 | .exc _ _=>200
 | .wt _=>200
def szL:List D→Nat
 |[]=>1
 |x::xs=>szD x+2+szL xs
def szK:List (Key×D)→Nat
 |[]=>1
 |(_,x)::xs=>szD x+102+szK xs
end
mutual
def dpD:D→Nat
 | .tup xs=>dpL xs+1
 | .lst xs=>dpL xs+1
 | .dct kvs=>dpK kvs+1
 | .non=>0
 | .bl _=>0
 | .int _=>0
 | .str _=>0
 | .fn _=>0
 | .ty _=>0
 | .scr _=>0
 | .cd _=>0
 | .dd _=>0
 | .db _=>0
 | .ins _ _=>0
 | .raw _=>0
 | .exc _ _=>0
 | .wt _=>0
def dpL:List D→Nat
 |[]=>0
 |x::xs=>max (dpD x) (dpL xs)
def dpK:List (Key×D)→Nat
 |[]=>0
 |(_,x)::xs=>max (dpD x) (dpK xs)
end
theorem a8 {n:Nat} {z:Str} (h:Vp n z=true) (hn:n≤100):(PyData.str z).leavesShort 30=true∧(PyData.str z).weight≤100:=by
 unfold Vp at h
 rw[Bool.and_eq_true]at h
 have hl:=of_decide_eq_true h.1
 refine⟨?_,?_⟩
 ·simp only[PyData.leavesShort]
  rw[AP]at h⊢
  intro c hc
  have:=of_decide_eq_true (h.2 c hc)
  exact decide_eq_true (Bq this (by decide))
 ·simp only[PyData.weight]
  have:z.cps.size=z.length:=rfl
  omega
theorem Mw {i:Int} {b:Nat} (h:i.natAbs≤10 ^ 18+b) (hb:b≤50):(PyData.int i).showable=true∧(PyData.int i).leavesShort 30=true∧(PyData.int i).weight≤90:=by
 have h1:i.natAbs<10 ^ 19:=by omega
 have l:i.natAbs.log2<64:=p_ (Bt h1 (by decide)) (by decide)
 refine⟨?_,?_,?_⟩
 ·simp only[PyData.showable]; exact decide_eq_true (by omega)
 ·simp only[PyData.leavesShort,PyData.shown]
  have e:=int_text_length_le10 (k:=19) (by decide) h1
  refine decide_eq_true ?_
  rw[PySem.ofString_length]; omega
 ·simp only[PyData.weight]
  split
  ·omega
  ·omega
mutual
theorem nB {b:Nat} (hb:b≤50):∀(x:D),okD b x=true→∃p,x.pyq=some p∧p.showable=true∧p.leavesShort 30=true∧p.weight≤szD x∧p.depth≤dpD x
 | .non,_=>⟨.none,by rw[D.pyq],by simp only[PyData.showable],by simp only[PyData.leavesShort],by simp only[PyData.weight]; omega,by simp only[PyData.depth]; omega⟩
 | .bl c,_=>⟨.bool c,by rw[D.pyq],by simp only[PyData.showable],by simp only[PyData.leavesShort],by simp only[PyData.weight]; omega,by simp only[PyData.depth]; omega⟩
 | .int i,h=>by
   rw[okD]at h
   obtain⟨h1,h2,h3⟩:=Mw (of_decide_eq_true h) hb
   exact⟨.int i,by rw[D.pyq],h1,h2,by rw[szD]; omega,by simp only[PyData.depth]; omega⟩
 | .str z,h=>by
   rw[okD]at h
   obtain⟨h2,h3⟩:=a8 h (by omega)
   exact⟨.str z,by rw[D.pyq],by simp only[PyData.showable],h2,by rw[szD]; omega,by simp only[PyData.depth]; omega⟩
 | .tup xs,h=>by
   rw[okD]at h
   obtain⟨ps,e,h1,h2,h3,h4⟩:=pyqL_ok hb xs h
   exact⟨.tuple ps,by rw[D.pyq,e]; rfl,by simp only[PyData.showable]; exact h1,by simp only[PyData.leavesShort]; exact h2,by simp only[PyData.weight]; rw[szD]; exact h3,by simp only[PyData.depth]; rw[dpD]; omega⟩
 | .lst xs,h=>by
   rw[okD]at h
   obtain⟨ps,e,h1,h2,h3,h4⟩:=pyqL_ok hb xs h
   exact⟨.list ps,by rw[D.pyq,e]; rfl,by simp only[PyData.showable]; exact h1,by simp only[PyData.leavesShort]; exact h2,by simp only[PyData.weight]; rw[szD]; exact h3,by simp only[PyData.depth]; rw[dpD]; omega⟩
 | .dct kvs,h=>by
   rw[okD]at h
   obtain⟨ps,e,h1,h2,h3,h4⟩:=pyqK_ok hb kvs h
   exact⟨.dict ps,by rw[D.pyq,e]; rfl,by simp only[PyData.showable]; exact h1,by simp only[PyData.leavesShort]; exact h2,by simp only[PyData.weight]; rw[szD]; exact h3,by simp only[PyData.depth]; rw[dpD]; omega⟩
 | .fn _,h=>by rw[okD]at h; cases h
 | .ty _,h=>by rw[okD]at h; cases h
 | .scr _,h=>by rw[okD]at h; cases h
 | .cd _,h=>by rw[okD]at h; cases h
 | .dd _,h=>by rw[okD]at h; cases h
 | .db _,h=>by rw[okD]at h; cases h
 | .ins _ _,h=>by rw[okD]at h; cases h
 | .raw _,h=>by rw[okD]at h; cases h
 | .exc _ _,h=>by rw[okD]at h; cases h
 | .wt _,h=>by rw[okD]at h; cases h
theorem pyqL_ok {b:Nat} (hb:b≤50):∀(xs:List D),okL b xs=true→∃ps,D.pyqL xs=some ps∧PyData.showableAll ps=true∧PyData.leavesShortAll 30 ps=true∧PyData.weightAll ps≤szL xs∧PyData.depthAll ps≤dpL xs
 |[],_=>⟨[],by rw[D.pyqL],by simp only[PyData.showableAll],by simp only[PyData.leavesShortAll],by simp only[PyData.weightAll]; omega,by simp only[PyData.depthAll]; omega⟩
 |x::xs,h=>by
  rw[okL,Bool.and_eq_true]at h
  obtain⟨p,e,h1,h2,h3,h4⟩:=nB hb x h.1
  obtain⟨ps,e',q1,q2,q3,q4⟩:=pyqL_ok hb xs h.2
  refine⟨p::ps,by rw[D.pyqL,e,e'],by simp only[PyData.showableAll,h1,q1,Bool.and_self],by simp only[PyData.leavesShortAll,h2,q2,Bool.and_self],by simp only[PyData.weightAll]; rw[szL]; omega,?_⟩
  simp only[PyData.depthAll]
  rw[dpL]
  exact Nat.max_le.mpr ⟨AU h4 (Nat.le_max_left _ _),AU q4 (Nat.le_max_right _ _)⟩
theorem pyqK_ok {b:Nat} (hb:b≤50):∀(xs:List (Key×D)),okK b xs=true→∃ps,D.pyqK xs=some ps∧PyData.showableKv ps=true∧PyData.leavesShortKv 30 ps=true∧PyData.weightKv ps≤szK xs∧PyData.depthKv ps≤dpK xs
 |[],_=>⟨[],by rw[D.pyqK],by simp only[PyData.showableKv],by simp only[PyData.leavesShortKv],by simp only[PyData.weightKv]; omega,by simp only[PyData.depthKv]; omega⟩
 |(k,x)::xs,h=>by
  rw[okK,Bool.and_eq_true,Bool.and_eq_true]at h
  obtain⟨p,e,h1,h2,h3,h4⟩:=nB hb x h.1.2
  obtain⟨ps,e',q1,q2,q3,q4⟩:=pyqK_ok hb xs h.2
  cases k with
  |inl i=>have:=h.1.1; simp[NH]at this
  |inr z=>
   obtain⟨z1,z2⟩:=a8 (n:=20) h.1.1 (by omega)
   refine⟨(.str z,p)::ps,by rw[D.pyqK,e,e']; rfl,?_,?_,?_,?_⟩
   ·simp only[PyData.showableKv,PyData.showable,h1,q1,Bool.and_self]
   ·simp only[PyData.leavesShortKv,z1,h2,q2,Bool.and_self]
   ·simp only[PyData.weightKv]; rw[szK]; omega
   ·simp only[PyData.depthKv,PyData.depth]
    rw[dpK]
    have a1:=Nat.le_max_left (dpD x) (dpK xs)
    have a2:=Nat.le_max_right (dpD x) (dpK xs)
    omega
end
theorem Na {b:Nat} {x:D} (hb:b≤50) (h:okD b x=true) (hs:szD x≤460000) (hd:dpD x≤60):∃z,wV [x]=some (z_ z):=by
 obtain⟨p,e,h1,h2,h3,h4⟩:=nB hb x h
 have hsh:=PyData.shown_le 30 (by decide) p h2
 refine⟨p.shown,?_⟩
 unfold wV D.reprq?
 simp only[e]
 rw[if_pos ⟨h1,by omega,AU (AU hsh (show _≤14800000 by omega)) (show 14800000≤sizeLine by rw[sizeLine_eq]; decide)⟩]
 rfl
theorem LK {a b:Nat} {z:Str} (h:Vp a z=true) (le:a≤b):Vp b z=true:=by
 unfold Vp at h⊢
 rw[Bool.and_eq_true]at h⊢
 exact⟨decide_eq_true (AU (of_decide_eq_true h.1) le),h.2⟩
mutual
theorem U7 {a b:Nat} (le:a≤b):∀x:D,okD a x=true→okD b x=true
 | .non,_=>by rw[okD]
 | .bl _,_=>by rw[okD]
 | .int i,h=>by rw[okD]at h⊢; exact decide_eq_true (by have:=of_decide_eq_true h; omega)
 | .str z,h=>by rw[okD]at h⊢; exact LK h (by omega)
 | .tup xs,h=>by rw[okD]at h⊢; exact okL_mono le xs h
 | .lst xs,h=>by rw[okD]at h⊢; exact okL_mono le xs h
 | .dct kvs,h=>by rw[okD]at h⊢; exact okK_mono le kvs h
 | .fn _,h=>by rw[okD]at h; cases h
 | .ty _,h=>by rw[okD]at h; cases h
 | .scr _,h=>by rw[okD]at h; cases h
 | .cd _,h=>by rw[okD]at h; cases h
 | .dd _,h=>by rw[okD]at h; cases h
 | .db _,h=>by rw[okD]at h; cases h
 | .ins _ _,h=>by rw[okD]at h; cases h
 | .raw _,h=>by rw[okD]at h; cases h
 | .exc _ _,h=>by rw[okD]at h; cases h
 | .wt _,h=>by rw[okD]at h; cases h
theorem okL_mono {a b:Nat} (le:a≤b):∀xs:List D,okL a xs=true→okL b xs=true
 |[],_=>by rw[okL]
 |x::xs,h=>by
  rw[okL,Bool.and_eq_true]at h⊢
  exact⟨U7 le x h.1,okL_mono le xs h.2⟩
theorem okK_mono {a b:Nat} (le:a≤b):∀xs:List (Key×D),okK a xs=true→okK b xs=true
 |[],_=>by rw[okK]
 |(k,x)::xs,h=>by
  rw[okK,Bool.and_eq_true,Bool.and_eq_true]at h⊢
  exact⟨⟨h.1.1,U7 le x h.1.2⟩,okK_mono le xs h.2⟩
end
theorem aX:∀xs:List D,1+2 * xs.length≤szL xs
 |[]=>by rw[szL]; simp
 |x::xs=>by
  have:=aX xs
  rw[szL,List.length_cons]; omega
structure Fine (b s d:Nat) (x:D):Prop where
 ok:okD b x=true
 sz:szD x≤s
 dp:dpD x≤d
theorem Fine.mono {b s d b' s' d':Nat} {x:D} (h:Fine b s d x) (hb:b≤b') (hs:s≤s') (hd:d≤d'):Fine b' s' d' x:=⟨U7 hb x h.ok,AU h.sz hs,AU h.dp hd⟩
section
variable {b:Nat} {x:D}
def U3:D→Bool
 | .str z=>yk z
 |_=>false
theorem Nr {n:Nat} {z:Str} (h:Vp n z=true):z.length≤n:=by
 unfold Vp at h
 rw[Bool.and_eq_true]at h
 exact of_decide_eq_true h.1
theorem vO (h:okD b x=true) (hb:b≤50):qg [.d x]=.ok (.d (.bl (U3 x))) [.d x]:=by
 cases x with
 |non=>rfl
 |bl c=>rfl
 |int i=>rfl
 |str z=>
  rw[okD]at h
  exact vd z (by have:=Nr h; omega)
 |tup xs=>rfl
 |lst xs=>rfl
 |dct kvs=>rfl
 |_=>rw[okD]at h; cases h
end
section
theorem KM {z:Str} (h:yk z=true):Vp 20 z=true:=by
 obtain⟨h1,h2,h3⟩:=aq h
 unfold Vp
 rw[Bool.and_eq_true,decide_eq_true_iff,AP]
 refine⟨by omega,fun c hc=>decide_eq_true ?_⟩
 have:=ae (h3 c hc)
 omega
end
end L2.AL.WS
namespace L2.AL.SH
open PySem PySem.Spec PyProof.Rows L2 L2.AL TL
local macro_rules|`(tactic|simp[AI,$xs,*]) => `(tactic|simp[zJ,yf,zt,sIf,zH,zL,zp,z9,sTg,zy,sNx,zb,aK,za,ze,zg,zX,zh,zY,E.val,aT,zz,zF,zW,zB,yl,zK,aIf,zr,zV,zG,keepL,keep1,zq,toSL,toS,setL,aFn,zx,zO,zM,wb,zn,D.items?,zC,D.tyn,zj,zw,zm,yc,D.isi,gIs,yj,D.is?,D.seq?,zD,O.toD,eBl,zN,z_,zQ,tsetL,zo,zA,ya,D.imm,$xs,*])
theorem au {T:Nat} {o:O} {n:Int} (h:JarOk T o) (hT:T≤90000) (h1:1≤n) (h5:n≤26) :
  ∃nms:List Str,∃o',jz [.own o,.d (.int n)]=.ok (.fr (.lst (nms.map .str))) [.own o',.d (.int n)]∧nms.length=n.toNat∧(∀z∈nms,yk z=true)∧nms.Nodup∧JarOk (T+20) o':=by
 have s5:5≤sizeLine:=zu (by decide)
 obtain⟨x0,o1,e1,hx0,ok1⟩:=KR (xs:=[.int 0,.int 0,.int 1,.int 3,.int 7]) h (by omega) (by simp) (by simp) (.own (.lst [.int 0,.int 0,.int 1,.int 3,.int 7])) (.inl rfl)
 obtain⟨j,rfl,hj0,hj7⟩:∃j:Int,x0=.int j∧0≤j∧j≤7:=by
  simp at hx0
  rcases hx0 with rfl|rfl|rfl|rfl<;>exact⟨_,rfl,by decide,by decide⟩
 have hit:qG (za (aFn yJ (za (zb 0) (za (zG (za (aK (.int 0)) (za (aK (.int 0)) (za (aK (.int 1)) (za (aK (.int 3)) (za (aK (.int 7)) ze)))))) ze))) ze) [.own o,.d (.int n),.d (.str small),.no,.no,.no,.no,.no]=.ok (qa 0 j.toNat) [.own o1,.d (.int n),.d (.str small),.no,.no,.no,.no,.no]:=by
  have l5:zG (za (aK (.int 0)) (za (aK (.int 0)) (za (aK (.int 1)) (za (aK (.int 3)) (za (aK (.int 7)) ze))))) [.own o,.d (.int n),.d (.str small),.no,.no,.no,.no,.no]=.ok (.fr (.lst [.int 0,.int 0,.int 1,.int 3,.int 7])) [.own o,.d (.int n),.d (.str small),.no,.no,.no,.no,.no]:=by
   simp[zG,za,aK,ze,keepL,keep1,s5]
  have q:=Zg (o:=o) rfl l5 (.inr ⟨_,rfl,rfl⟩) e1
  unfold qG
  rw[za,q]
  simp only[Res.bind_ok,ze]
  rw[if_pos ⟨by omega,by omega⟩,Ls]
 obtain⟨ys,ρ',c1,cl,cR,o2,rfl,ok2⟩:=lR (f:=aFn yJ (za (zb 0) (za (zb 2) ze))) (t:=.nm 4) (vs:=[4]) (I:=fun i ρ=>∃o',ρ=[.own o',.d (.int n),.d (.str small),.no,.no,.no,.no,.no]∧JarOk (T+1+i) o') (R:=fun y=>∃c,c∈YE∧y=.str ⟨#[c]⟩) hit rfl (by
  rintro i x ρ hx ⟨o',rfl,ok⟩
  obtain⟨rfl,hi⟩:=UC hx
  obtain⟨c,o2,e2,hc,ok2⟩:=Po (z:=small) ok (by omega) (by rw[Vz]; decide) (by rw[Vz]; decide) _ rfl
  rw[g6]at hc
  have q:=Zg (o:=o') (fx:=zb 2) (ρ:=[.own o',.d (.int n),.d (.str small),.no,.d (.int (0+i)),.no,.no,.no]) rfl rfl (.inl ⟨_,rfl,rfl⟩) e2
  exact⟨_,.d (.str ⟨#[c]⟩),_,_,_,rfl,q,rfl,⟨c,hc,rfl⟩,o2,rfl,ok2⟩) ⟨o1,rfl,ok1⟩ (by rw[UD]; exact zu (by omega))
 rw[UD]at cl ok2
 obtain⟨cs,rfl,hcs⟩:=w5 cR
 rw[List.length_map]at cl
 obtain⟨stem,hstem⟩:∃stem:Str,stem=Txt.join "" (cs.map fun c=>(⟨#[c]⟩:Str)):=⟨_,rfl⟩
 have tstem:tl stem=cs:=by rw[hstem]; exact Np cs
 have lstem:stem.length=cs.length:=by rw[len_tl,tstem]
 have hjoin:Ys (.str "") [.lst (cs.map fun c=>.str ⟨#[c]⟩)]=some (z_ stem):=by
  simp only[Ys,aW (fun c=>(⟨#[c]⟩:Str)) cs,Option.bind_some]
  rw[if_pos,hstem]
  have:=gZ Str.length 1 (cs.map fun c=>(⟨#[c]⟩:Str)) (by
   intro x hx
   obtain⟨c,_,rfl⟩:=AM.mp hx
   exact Nat.le_refl 1)
  have e0:(Str.ofString "").length=0:=by decide+kernel
  rw[List.length_map]at this
  rw[e0,List.length_map]
  have:((cs.map fun c=>(⟨#[c]⟩:Str)).map fun x=>x.length).sum≤cs.length * 1:=this
  omega
 have s3:zC "str" Ys (aK (.str "")) (za (aLc [4] (qG (za (aFn yJ (za (zb 0) (za (zG (za (aK (.int 0)) (za (aK (.int 0)) (za (aK (.int 1)) (za (aK (.int 3)) (za (aK (.int 7)) ze)))))) ze))) ze)) (.nm 4) yX (aFn yJ (za (zb 0) (za (zb 2) ze)))) ze) [.own o,.d (.int n),.d (.str small),.no,.no,.no,.no,.no]=.ok (.d (.str stem)) [.own o2,.d (.int n),.d (.str small),.no,.no,.no,.no,.no]:=by
  simp[zC,aK,E.val,D.tyn,za,c1,ze,zY,O.toD,hjoin,zA]
 obtain⟨spot,o3,e3,sp0,sp1,ok3⟩:=xB (m:=(stem.length:Int)+1) ok2 (by omega) (by omega) (by omega)
 obtain⟨first,o4,e4,f0,f1,ok4⟩:=xB (m:=26) ok3 (by omega) (by decide) (by decide)
 have ls:stem.length≤sizeLine:=zu (by omega)
 have q3:aFn zZ (za (zb 0) (za (zg yP (zh xT (za (zb 3) ze)) (aK (.int 1))) ze)) [.own o2,.d (.int n),.d (.str small),.d (.str stem),.no,.no,.no,.no]=.ok (.d (.int spot)) [.own o3,.d (.int n),.d (.str small),.d (.str stem),.no,.no,.no,.no]:=by
  have hlen:zh xT (za (zb 3) ze) [.own o2,.d (.int n),.d (.str small),.d (.str stem),.no,.no,.no,.no]=.ok (.d (.int stem.length)) [.own o2,.d (.int n),.d (.str small),.d (.str stem),.no,.no,.no,.no]:=by
   simp only[zh,za,ze]
   simp[zb,zY,E.val,xT,ls,zN]
  exact Zg rfl (yh (g:=yP) (v:=.d (.int (stem.length+1))) (fb:=aK (.int 1)) hlen rfl rfl) (.inl ⟨_,rfl,rfl⟩) e3
 have q4:aFn zZ (za (zb 0) (za (aK (.int 26)) ze)) [.own o3,.d (.int n),.d (.str small),.d (.str stem),.no,.no,.no,.no]=.ok (.d (.int first)) [.own o4,.d (.int n),.d (.str small),.d (.str stem),.no,.no,.no,.no]:=
  Zg (fx:=aK (.int 26)) rfl rfl (.inl ⟨_,rfl,rfl⟩) e4
 obtain⟨nm,hnm⟩:∃nm:Nat→Str,∀k:Nat,∃c,nm k=cutS stem none (some spot)++⟨#[c]⟩++cutS stem (some spot) none∧c∈YE∧gIx (.str small) (.int ((first+3 * (k:Int)) % 26))=some (.d (.str ⟨#[c]⟩))∧YE[((first+3 * (k:Int)) % 26).toNat]?=some c:=by
  have:∀k:Nat,∃z:Str,∃c,z=cutS stem none (some spot)++⟨#[c]⟩++cutS stem (some spot) none∧c∈YE∧gIx (.str small) (.int ((first+3 * (k:Int)) % 26))=some (.d (.str ⟨#[c]⟩))∧YE[((first+3 * (k:Int)) % 26).toNat]?=some c:=fun k=>by
   have r0:=Bu (first+3 * (k:Int)) (show(26:Int)≠0 by decide)
   have r1:=Bv (first+3 * (k:Int)) (show(0:Int)<26 by decide)
   have lsm:small.cps.toList.length=26:=by have:=Vz; simpa[Str.length]using this
   have hr:((first+3 * (k:Int)) % 26).toNat<small.cps.toList.length:=by omega
   refine⟨_,small.cps.toList[((first+3 * (k:Int)) % 26).toNat],rfl,?_,?_,?_⟩
   ·have:small.cps.toList[((first+3 * (k:Int)) % 26).toNat]∈tl small:=List.getElem_mem _
    rw[g6]at this
    exact this
   ·simp only[gIx,atI,ixN]
    rw[if_pos (by rw[Vz]; exact zu (by decide)),if_pos r0,if_pos (by omega)]
    simp only[Option.bind_some,AX hr,Option.map_some]
   ·rw[←g6]
    exact AX hr
  exact⟨fun k=>Classical.choose (this k),fun k=>Classical.choose_spec (this k)⟩
 have hname:∀k,yk (nm k)=true:=fun k=>by
  obtain⟨c,e,hc,_⟩:=hnm k
  have t:tl (nm k)=cs.take spot.toNat++[c]++cs.drop spot.toNat:=by
   rw[e,tl_append,tl_append,tG sp0 (by omega),tF sp0 (by omega),tstem]
  have l:(nm k).length=cs.length+1:=by
   rw[len_tl,t]
   simp only[AS,A9,Bw,List.length_cons,List.length_nil]
   omega
  unfold yk
  rw[decide_eq_true (show 1≤(nm k).length∧(nm k).length≤8 by omega),Bool.true_and,AP]
  intro d hd
  have hd:d∈tl (nm k):=hd
  rw[t]at hd
  simp only[AW,A8]at hd
  refine decide_eq_true ?_
  rcases hd with(hd|rfl)|hd
  ·exact hcs d (BV hd)
  ·exact hc
  ·exact hcs d (BS hd)
 have comp:aLc [7] (qG (za (zb 1) ze)) (.nm 7) yX (zg yP (zg yP (zj (zb 3) zm (zw (zb 5))) (zg gIx (zb 2) (zg XD (zh XC (za (zg yP (zb 6) (zg Zh (aK (.int 3)) (zb 7))) ze)) (aK (.int 26))))) (zj (zb 3) (zw (zb 5)) zm)) [.own o4,.d (.int n),.d (.str small),.d (.str stem),.no,.d (.int spot),.d (.int first),.no]=.ok (.fr (.lst ((List.range n.toNat).map fun k=>.str (nm k)))) [.own o4,.d (.int n),.d (.str small),.d (.str stem),.no,.d (.int spot),.d (.int first),.no]:=by
  refine UI (fun k:Nat=>D.int (0+(k:Int))) (fun k=>D.str (nm k)) (List.range n.toNat) (ρ1:=[.own o4,.d (.int n),.d (.str small),.d (.str stem),.no,.d (.int spot),.d (.int first),.no]) ?_ rfl (fun k hk=>?_) (by rw[List.length_range]; exact zu (by omega))
  ·unfold qG
   simp only[za,zb,List.getElem?_cons_succ,List.getElem?_cons_zero,Res.bind_ok,ze]
   rw[if_pos ⟨by omega,by omega⟩]
   rfl
  ·obtain⟨c,e,hc,hi,_⟩:=hnm k
   have hk:k<n.toNat:=Bo.mp hk
   refine⟨[.own o4,.d (.int n),.d (.str small),.d (.str stem),.no,.d (.int spot),.d (.int first),.d (.int (0+(k:Int)))],.d (.str (nm k)),rfl,?_,rfl,rfl⟩
   rw[Int.zero_add]
   have i1:zg Zh (aK (.int 3)) (zb 7) [.own o4,.d (.int n),.d (.str small),.d (.str stem),.no,.d (.int spot),.d (.int first),.d (.int (k:Int))]=.ok (.d (.int (3 * k))) [.own o4,.d (.int n),.d (.str small),.d (.str stem),.no,.d (.int spot),.d (.int first),.d (.int (k:Int))]:=yh (x:=.int 3) (y:=.int k) rfl rfl (jW (YJ (by decide)) (YJ (by omega)))
   have i2:=yh (g:=yP) (v:=.d (.int (first+3 * k))) (fa:=zb 6) (x:=.int first) rfl i1 rfl
   have i3:=yh (g:=XD) (v:=.d (.int ((first+3 * k) % 26))) (fb:=aK (.int 26)) (fY i2) rfl (Yj (by decide))
   have i4:=yh (g:=gIx) (fa:=zb 2) (x:=.str small) rfl i3 hi
   have c1:zj (zb 3) zm (zw (zb 5)) [.own o4,.d (.int n),.d (.str small),.d (.str stem),.no,.d (.int spot),.d (.int first),.d (.int (k:Int))]=.ok (.d (.str (cutS stem none (some spot)))) [.own o4,.d (.int n),.d (.str small),.d (.str stem),.no,.d (.int spot),.d (.int first),.d (.int (k:Int))]:=by
    simp[AI,gSl,ls]
   have c2:zj (zb 3) (zw (zb 5)) zm [.own o4,.d (.int n),.d (.str small),.d (.str stem),.no,.d (.int spot),.d (.int first),.d (.int (k:Int))]=.ok (.d (.str (cutS stem (some spot) none))) [.own o4,.d (.int n),.d (.str small),.d (.str stem),.no,.d (.int spot),.d (.int first),.d (.int (k:Int))]:=by
    simp[AI,gSl,ls]
   have l1:(cutS stem none (some spot)).length≤8:=by
    rw[len_tl,tG sp0 (by omega),tstem,A9]; omega
   have l2:(cutS stem (some spot) none).length≤8:=by
    rw[len_tl,tF sp0 (by omega),tstem,Bw]; omega
   have l3:(⟨#[c]⟩:Str).length=1:=rfl
   have a1:=yh (g:=yP) (v:=.d (.str (cutS stem none (some spot)++⟨#[c]⟩))) c1 i4 (by
    simp only[yP]
    rw[if_pos (zu (by omega))])
   have l4:(cutS stem none (some spot)++⟨#[c]⟩).length≤9:=by
    rw[len_tl,tl_append,AS,←len_tl,←len_tl]; omega
   rw[e]
   exact yh a1 c2 (by
    simp only[yP]
    rw[if_pos (zu (by omega))])
 refine⟨(List.range n.toNat).map nm,o4,?_,by simp,fun z hz=>?_,?_,ok4.mono (by omega)⟩
 ·refine(vw (ρ1:=[.own o4,.d (.int n),.d (.str small),.d (.str stem),.no,.d (.int spot),.d (.int first),.no]) rfl ?_).trans (by rw[AY]; rfl)
  unfold UM
  rw[zU (ρ1:=[.own o,.d (.int n),.d (.str small),.no,.no,.no,.no,.no]) (YL (x:=.str small) (ρ1:=[.own o,.d (.int n),.no,.no,.no,.no,.no,.no]) rfl (by simp)),
   zU (ρ1:=[.own o2,.d (.int n),.d (.str small),.d (.str stem),.no,.no,.no,.no]) (YL s3 (by simp)),
   zU (ρ1:=[.own o4,.d (.int n),.d (.str small),.d (.str stem),.no,.d (.int spot),.d (.int first),.no])]
  ·exact xp comp
  ·simp[z9,za,q3,q4,ze,toSL,toS,setL]
 ·obtain⟨k,_,rfl⟩:=AM.mp hz
  exact hname k
 ·rw[List.Nodup,Br]
  refine List.Pairwise.imp_of_mem (fun {a b} ha hb hab e=>?_) (List.pairwise_lt_range (n:=n.toNat))
  have ha:=Bo.mp ha
  have hb:=Bo.mp hb
  obtain⟨c,e1,_,_,i1⟩:=hnm a
  obtain⟨d,e2,_,_,i2⟩:=hnm b
  rw[e1,e2]at e
  have t:=congrArg tl e
  rw[tl_append,tl_append,tl_append,tl_append]at t
  have cd:c=d:=by
   have:=List.append_cancel_left (List.append_cancel_right t)
   have:[c]=[d]:=this
   simpa using this
  subst cd
  obtain⟨x,hx⟩:∃x:Nat,x=((first+3 * (a:Int)) % 26).toNat:=⟨_,rfl⟩
  obtain⟨y,hy⟩:∃y:Nat,y=((first+3 * (b:Int)) % 26).toNat:=⟨_,rfl⟩
  rw[←hx]at i1
  rw[←hy]at i2
  have nd:∀x:Nat,x<26→YE[x]?=some (97+x):=by decide
  have l1:x<26:=by omega
  have l2:y<26:=by omega
  rw[nd x l1]at i1
  rw[nd y l2]at i2
  have i1:=Option.some.inj i1
  have i2:=Option.some.inj i2
  omega
end L2.AL.SH
namespace L2.AL.WS
open PySem PySem.Spec PyProof.Rows L2 L2.AL L2.AL.SH TL
section
variable {α:Type} {it:List S→Res (List D)} {t:Tg} {c:List S→Res Bool} {f:AK} {vs:List Nat} {ρ ρ1 ρw ρ3:List S}
theorem xA (F g:α→D) (l:List α) (hit:it ρ=.ok (l.map F) ρ1) (hl:l.length≤sizeLine) (h:∀a∈l,∃ρ2,zQ t (F a) ρw=some ρ2∧f ρ2=.ok (.d (g a)) ρ2∧zo ρ2 vs=ρw)
  (hno:ya ρ1 vs=true:=by rfl) (hw:zo ρ1 vs=ρw:=by rfl) (hb:zA ρ1 ρw vs=ρ3:=by rfl):aLc vs it t yX f ρ=.ok (.fr (.lst (l.map g))) ρ3:=by
 rw[UI F g l hit hno (fun a ha=>?_) hl,hw,hb]
 obtain⟨ρ2,h1,h2,h3⟩:=h a ha
 rw[hw]
 exact⟨ρ2,_,h1,h2,rfl,h3⟩
theorem NJ (F g:α→D) (p:α→Bool) (l:List α) (hit:it ρ=.ok (l.map F) ρ1) (hl:l.length≤sizeLine) (h:∀a∈l,∃ρ2,zQ t (F a) ρw=some ρ2∧c ρ2=.ok (p a) ρ2∧(p a=true→f ρ2=.ok (.d (g a)) ρ2)∧zo ρ2 vs=ρw)
  (hno:ya ρ1 vs=true:=by rfl) (hw:zo ρ1 vs=ρw:=by rfl) (hb:zA ρ1 ρw vs=ρ3:=by rfl):aLc vs it t c f ρ=.ok (.fr (.lst ((l.filter p).map g))) ρ3:=by
 rw[sw F g p l hit hno (fun a ha=>?_) hl,hw,hb]
 obtain⟨ρ2,h1,h2,h3,h4⟩:=h a ha
 rw[hw]
 exact⟨ρ2,_,h1,h2,fun e=>⟨h3 e,rfl⟩,h4⟩
theorem U0 (g:D→D) (l:List D) (hit:it ρ=.ok l ρ1) (hl:l.length≤sizeLine) (h:∀a∈l,∃ρ2,zQ t a ρw=some ρ2∧f ρ2=.ok (.d (g a)) ρ2∧zo ρ2 vs=ρw)
  (hno:ya ρ1 vs=true:=by rfl) (hw:zo ρ1 vs=ρw:=by rfl) (hb:zA ρ1 ρw vs=ρ3:=by rfl):aLc vs it t yX f ρ=.ok (.fr (.lst (l.map g))) ρ3:=
 xA id g l (by rw[List.map_id]; exact hit) hl h hno hw hb
theorem xS (p:α→Bool) (l:List α):YW [.lst (l.map fun a=>D.bl (p a))]=some (eBl (l.all p)):=by
 have e:D.bls? (l.map fun a=>D.bl (p a))=some (l.map p):=by
  induction l with
  |nil=>rfl
  |cons a l ih=>simp[D.bls?,ih]
 rw[YW,e,Option.map_some,List.all_map]; rfl
theorem wO (p:α→Bool) (l:List α):ou [.lst (l.map fun a=>D.bl (p a))]=some (eBl (l.any p)):=by
 have e:D.bls? (l.map fun a=>D.bl (p a))=some (l.map p):=by
  induction l with
  |nil=>rfl
  |cons a l ih=>simp[D.bls?,ih]
 rw[ou,e,Option.map_some,List.any_map]; rfl
end
def zk (ws:List Str):D:=.tup (ws.map .str)
theorem kU (ws:List Str):(ws.map D.str).all D.flat=true:=by
 induction ws with
 |nil=>rfl
 |cons w ws ih=>simp[D.flat]
theorem Kc (z:Str) (ws:List Str):D.inF (.str z) (ws.map .str)=decide (z∈ws):=by
 unfold D.inF
 rw[List.any_map,Bool.eq_iff_iff,BE,decide_eq_true_iff]
 constructor
 ·rintro⟨w,hw,e⟩
  have e:(w==z)=true:=e
  rw[beq_iff_eq]at e
  exact e▸hw
 ·intro h
  exact⟨z,h,by show(z==z)=true; exact beq_self_eq_true z⟩
theorem in_strs (z:Str) (ws:List Str):D.in? (.str z) (zk ws)=some (decide (z∈ws)):=by
 unfold zk
 rw[D.in?,if_pos ⟨rfl,kU ws⟩,Kc]
local macro_rules|`(tactic|simp[AI,$xs,*]) => `(tactic|simp[zJ,yf,zt,sIf,zH,zL,zp,z9,sTg,zy,sNx,zb,aK,za,ze,zg,zX,zh,zY,E.val,aT,zz,zF,zW,zB,yl,zK,aIf,zr,zV,zG,keepL,keep1,zq,toSL,toS,setL,aFn,zx,zO,zM,wb,zn,D.items?,zC,D.tyn,zj,zw,zm,yc,D.isi,gIs,yj,D.is?,D.seq?,zD,O.toD,eBl,zN,z_,zQ,tsetL,zo,zA,ya,D.imm,$xs,*])
section
variable {b lo hi:Nat} {x:D} {ws:List Str} {xs:List D}
def ZY (ws:List Str):D→Bool
 | .str z=>decide (z∈ws)
 |_=>false
theorem Zq (h:okD b x=true):qh [.d x,.d (zk ws)]=.ok (.d (.bl (ZY ws x))) [.d x,.d (zk ws)]:=by
 cases x with
 |non=>rfl
 |bl c=>rfl
 |int i=>rfl
 |str z=>simp[AI,qh,dF,wW,gIn,in_strs,ZY]
 |tup xs=>rfl
 |lst xs=>rfl
 |dct kvs=>rfl
 |_=>rw[okD]at h; cases h
def ZW (lo hi:Nat):D→Bool
 | .tup xs=>decide (lo≤xs.length)&&decide (xs.length≤hi)
 |_=>false
theorem qU (h:okD b x=true):yT [.d x,.d (.int lo),.d (.int hi)]=.ok (.d (.bl (ZW lo hi x))) [.d x,.d (.int lo),.d (.int hi)]:=by
 cases x with
 |non=>rfl
 |bl c=>rfl
 |int i=>rfl
 |str z=>rfl
 |tup xs=>
  by_cases c:lo≤xs.length
  ·simp[AI,yT,Ud,JR,xT,gLe,ZW,c]
  ·simp[AI,yT,Ud,JR,xT,gLe,ZW,c]
 |lst xs=>rfl
 |dct kvs=>rfl
 |_=>rw[okD]at h; cases h
theorem Xm (h:szD (.tup xs)≤450000):xs.length≤sizeLine:=by
 have:=aX xs
 rw[szD]at h
 have:(450000:Nat)≤sizeLine:=by decide
 omega
theorem az {y:D}:∀{xs:List D},okL b xs=true→y∈xs→okD b y=true
 |x::xs,h,hy=>by
  rw[okL,Bool.and_eq_true]at h
  rcases List.mem_cons.mp hy with rfl|hy
  ·exact h.1
  ·exact az h.2 hy
theorem jH {y:D} (h:okD b (.tup xs)=true) (hy:y∈xs):okD b y=true:=az (by rwa [okD]at h) hy
def JY (lo hi:Nat) (x:D):Bool:=match x with
 | .tup xs=>ZW lo hi (.tup xs)&&xs.all U3
 |_=>false
theorem VQ (h:okD b x=true) (hb:b≤50) (hs:szD x≤450000):xK [.d x,.d (.int lo),.d (.int hi)]=.ok (.d (.bl (JY lo hi x))) [.d x,.d (.int lo),.d (.int hi)]:=by
 cases x with
 |non=>rfl
 |bl c=>rfl
 |int i=>rfl
 |str z=>rfl
 |tup xs=>
  have lc:QS [.d (.tup xs),.d (.int lo),.d (.int hi),.no]=.ok (.fr (.lst (xs.map fun a=>D.bl (U3 a)))) [.d (.tup xs),.d (.int lo),.d (.int hi),.no]:=by
   unfold QS
   refine U0 (fun a=>D.bl (U3 a)) xs rfl (Xm hs) fun a ha=>⟨_,rfl,?_,rfl⟩
   simp[AI,vO (jH h ha) hb]
  have e1:=qU (lo:=lo) (hi:=hi) h
  by_cases c:ZW lo hi (.tup xs)=true
  ·simp[AI,xK,JM,QT,e1,lc,xS,JY,c]
  ·simp only[Bj]at c
   simp[AI,xK,JM,QT,e1,JY,c]
 |lst xs=>rfl
 |dct kvs=>rfl
 |_=>rw[okD]at h; cases h
end
def Jd {α:Type} (f:D→Option α):List D→Option (List α)
 |[]=>some []
 |x::xs=>match f x,Jd f xs with
  |some a,some as=>some (a::as)
  |_,_=>none
theorem qB {α:Type} {f:D→Option α} {enc:α→D} (h:∀x a,f x=some a↔x=enc a):∀(xs:List D) (as:List α),Jd f xs=some as↔xs=as.map enc
 |[],as=>by
  constructor
  ·intro e; cases e; rfl
  ·intro e; cases as with
   |nil=>rfl
   |cons a as=>cases e
 |x::xs,as=>by
  rw[Jd]
  cases hx:f x with
  |none=>
   refine⟨fun e=>(by cases e),fun e=>?_⟩
   cases as with
   |nil=>cases e
   |cons a as=>
    rw[List.map_cons]at e
    injection e with e1 e2
    rw[(h x a).mpr e1]at hx; cases hx
  |some a=>
   have hx':=(h x a).mp hx
   cases hl:Jd f xs with
   |none=>
    refine⟨fun e=>(by cases e),fun e=>?_⟩
    cases as with
    |nil=>cases e
    |cons b as=>
     rw[List.map_cons]at e
     injection e with e1 e2
     rw[(qB h xs as).mpr e2]at hl; cases hl
   |some bs=>
    have hl':=(qB h xs bs).mp hl
    subst hx' hl'
    constructor
    ·intro e; cases e; rfl
    ·intro e
     cases as with
     |nil=>cases e
     |cons b as=>
      rw[List.map_cons]at e
      injection e with e1 e2
      have z1:=(h _ _).mpr e1
      rw[hx]at z1; cases z1
      have z2:=(qB h _ _).mpr e2
      rw[hl]at z2; cases z2
      rfl
theorem Xq {α:Type} {f:D→Option α} (p:α→Bool):∀xs:List D,(xs.all fun x=>(f x).elim false p)=(Jd f xs).elim false fun as=>as.all p
 |[]=>rfl
 |x::xs=>by
  rw[List.all_cons,Xq p xs,Jd]
  cases f x with
  |none=>rfl
  |some a=>cases Jd f xs with
   |none=>simp
   |some as=>simp
def D.st?:D→Option Str
 | .str z=>some z
 |_=>none
theorem Vk (x:D) (a:Str):D.st? x=some a↔x=.str a:=by
 cases x<;>simp[D.st?]
theorem rq (x:D):U3 x=(D.st? x).elim false yk:=by cases x<;>rfl
theorem fD (ws:List Str) (x:D):ZY ws x=(D.st? x).elim false fun z=>decide (z∈ws):=by cases x<;>rfl
theorem Ul (z:Str):∀ws:List Str,(ws.map D.str).countP (fun y=>y.eqf (.str z))=ws.count z
 |[]=>rfl
 |w::ws=>by
  rw[List.map_cons,List.countP_cons,List.count_cons,Ul z ws]
  rfl
def XJ (ws:List Str):Bool:=ws.all fun w=>ws.count w==1
theorem Vw (ws:List Str):XJ ws=true↔ws.Nodup:=by
 unfold XJ
 rw[AP]
 constructor
 ·intro h
  induction ws with
  |nil=>exact BI
  |cons w ws ih=>
   have h0:=h w AN
   rw[List.count_cons_self,beq_iff_eq]at h0
   have n:w∉ws:=fun hm=>by have:=List.count_pos_iff.mpr hm; omega
   refine Bl.mpr ⟨n,ih fun x hx=>?_⟩
   have hx0:=h x (List.mem_cons_of_mem _ hx)
   rw[List.count_cons_of_ne (fun e=>n (by subst e; exact hx))]at hx0
   exact hx0
 ·intro h w hw
  rw[beq_iff_eq]
  exact List.Nodup.count h |>.trans (if_pos hw)
section
variable {ws:List Str} {ρ:List S}
theorem my (z:Str) (ws:List Str):Yr (.lst (ws.map .str)) [.str z]=some (zN (ws.count z:Nat)):=by
 rw[Yr,if_pos ⟨rfl,kU ws⟩,Ul]
theorem mz (z:Str) (ws:List Str):Yr (.tup (ws.map .str)) [.str z]=some (zN (ws.count z:Nat)):=by
 rw[Yr,if_pos ⟨rfl,kU ws⟩,Ul]
theorem tT (n:Nat):gEq (.int n) (.int 1)=some (eBl (n==1)):=by
 show some (eBl ((n:Int)==1))=some (eBl (n==1))
 congr 2
 rw[Bool.eq_iff_iff,beq_iff_eq,beq_iff_eq]
 omega
theorem tN (hl:ws.length≤sizeLine):y_ [.d (.tup (ws.map .str))]=.ok (.d (.bl (XJ ws))) [.d (.tup (ws.map .str))]:=by
 have lc:qI [.d (.tup (ws.map .str)),.no]=.ok (.fr (.lst (ws.map fun w=>D.bl (ws.count w==1)))) [.d (.tup (ws.map .str)),.no]:=by
  unfold qI
  refine xA D.str (fun w=>D.bl (ws.count w==1)) ws rfl hl fun w hw=>⟨_,rfl,?_,rfl⟩
  simp[AI,Yf,mz,tT]
 simp[AI,y_,YA,Z5,lc,xS,XJ]
theorem tM (hl:ws.length≤sizeLine):y_ [.own (.lst (ws.map .str))]=.ok (.d (.bl (XJ ws))) [.d (.lst (ws.map .str))]:=by
 have lc:qI [.own (.lst (ws.map .str)),.no]=.ok (.fr (.lst (ws.map fun w=>D.bl (ws.count w==1)))) [.d (.lst (ws.map .str)),.no]:=by
  unfold qI
  refine xA D.str (fun w=>D.bl (ws.count w==1)) ws (ρ1:=[.d (.lst (ws.map .str)),.no]) rfl hl fun w hw=>⟨_,rfl,?_,rfl⟩
  simp[AI,Yf,my,tT]
 simp[AI,y_,YA,Z5,lc,xS,XJ]
end
def bO (lt:D→D→Bool) (xs:List D):Bool:=(xs.zip (xs.drop 1)).all fun p=>lt p.1 p.2
section
variable {xs:List D} {lt:D→D→Bool}
theorem pD {α:Type} (xs:List α):Qc xs (some 1) none=xs.drop 1:=by
 unfold Qc
 cases xs with
 |nil=>rfl
 |cons x xs=>
  have e1:HT.sIx (x::xs).length 0 (some 1)=1:=by simp[HT.sIx]
  have e2:HT.sIx (x::xs).length (x::xs).length none=(x::xs).length:=by simp[HT.sIx]
  rw[e1,e2,BR (by simp)]
theorem OM (hl:xs.length≤sizeLine) (h:∀x∈xs,∀y∈xs,fW x y=some (eBl (lt x y))) {s:S} {it:List S→Res (List D)} (hit:it [s,.no,.no]=.ok (dk xs (xs.drop 1)) [s,.no,.no]) (hs:∀o,s≠.own o) :
  aLc [1,2] it (.tp [(.nm 1),(.nm 2)]) yX (zg fW (zb 1) (zb 2)) [s,.no,.no]=.ok (.fr (.lst ((xs.zip (xs.drop 1)).map fun p=>D.bl (lt p.1 p.2)))) [s,.no,.no]:=by
 refine xA (fun p:D×D=>D.wt [p.1,p.2]) (fun p=>D.bl (lt p.1 p.2)) (xs.zip (xs.drop 1)) hit (by rw[List.length_zip,Bw]; omega) fun p hp=>⟨[s,.d p.1,.d p.2],rfl,?_,rfl⟩
 have h1:=(BQ hp).1
 have h2:=BS (BQ hp).2
 simp[AI,h _ h1 _ h2]
theorem sE (hl:xs.length≤sizeLine) (h:∀x∈xs,∀y∈xs,fW x y=some (eBl (lt x y))):yw [.d (.tup xs)]=.ok (.d (.bl (bO lt xs))) [.d (.tup xs)]:=by
 have lc:jX [.d (.tup xs),.no,.no]=_:=OM hl h (s:=.d (.tup xs)) (by simp[AI,LW,gSl,pD]) (fun o=>by simp)
 simp[AI,yw,Xe,YD,lc,xS,bO]
theorem L4 (hl:xs.length≤sizeLine) (h:∀x∈xs,∀y∈xs,fW x y=some (eBl (lt x y))):yw [.own (.lst xs)]=.ok (.d (.bl (bO lt xs))) [.d (.lst xs)]:=by
 have lc:jX [.own (.lst xs),.no,.no]=.ok (.fr (.lst ((xs.zip (xs.drop 1)).map fun p=>D.bl (lt p.1 p.2)))) [.d (.lst xs),.no,.no]:=by
  unfold jX
  refine xA (fun p:D×D=>D.wt [p.1,p.2]) (fun p=>D.bl (lt p.1 p.2)) (xs.zip (xs.drop 1)) (ρ1:=[.d (.lst xs),.no,.no]) (by simp[AI,LW,gSl,pD]; rfl) (by rw[List.length_zip,Bw]; omega) fun p hp=>⟨[.d (.lst xs),.d p.1,.d p.2],rfl,?_,rfl⟩
  have h1:=(BQ hp).1
  have h2:=BS (BQ hp).2
  simp[AI,h _ h1 _ h2]
 simp[AI,yw,Xe,YD,lc,xS,bO]
end
def ltS (a b:Str):Bool:=decide (a.cps.toList<b.cps.toList)
def Xc (ws:List Str):Bool:=(ws.zip (ws.drop 1)).all fun p=>ltS p.1 p.2
def MK (a b:D):Bool:=match a,b with
 | .str a,.str b=>ltS a b
 |_,_=>false
theorem dD (ws:List Str):bO MK (ws.map .str)=Xc ws:=by
 unfold bO Xc
 rw[←List.map_drop,List.zip_map,List.all_map]
 rfl
theorem rn {ws:List Str}:∀x∈ws.map D.str,∀y∈ws.map D.str,fW x y=some (eBl (MK x y)):=by
 intro x hx y hy
 obtain⟨a,_,rfl⟩:=AM.mp hx
 obtain⟨b,_,rfl⟩:=AM.mp hy
 rfl
theorem i9 {ws:List Str} (hl:ws.length≤sizeLine):yw [.d (.tup (ws.map .str))]=.ok (.d (.bl (Xc ws))) [.d (.tup (ws.map .str))]:=by
 rw[sE (lt:=MK) (by rw[List.length_map]; exact hl) rn,dD]
theorem mh {ws:List Str} (hl:ws.length≤sizeLine):yw [.own (.lst (ws.map .str))]=.ok (.d (.bl (Xc ws))) [.d (.lst (ws.map .str))]:=by
 rw[L4 (lt:=MK) (by rw[List.length_map]; exact hl) rn,dD]
structure Slot where
 nm:Str
 ho:Str
 ws:List Str
abbrev Pat:=List (Str×Str)
structure Lps where
 ho:Str
 needs:Pat
 makes:Pat
def Slot.d (s:Slot):D:=.tup [.str s.nm,.str s.ho,zk s.ws]
def yi (p:Str×Str):D:=.tup [.str p.1,.str p.2]
def z6 (p:Pat):D:=.tup (p.map yi)
def Lps.d (l:Lps):D:=.tup [.str l.ho,z6 l.needs,z6 l.makes]
def zE (sl:List Slot):D:=.tup (sl.map Slot.d)
def yo (ps:List Pat):D:=.tup (ps.map z6)
def qH (ls:List Lps):D:=.tup (ls.map Lps.d)
def D.strs2?:D→Option (List Str)
 | .tup xs=>Jd D.st? xs
 |_=>none
theorem Yd (x:D) (ws:List Str):D.strs2? x=some ws↔x=zk ws:=by
 cases x<;>simp only[D.strs2?,zk,reduceCtorEq,D.tup.injEq]
 exact qB Vk _ _
def D.slot?:D→Option Slot
 | .tup [a,b,c]=>match D.st? a,D.st? b,D.strs2? c with
   |some n,some h,some ws=>some ⟨n,h,ws⟩
   |_,_,_=>none
 |_=>none
theorem gT (x:D) (s:Slot):D.slot? x=some s↔x=s.d:=by
 constructor
 ·intro e
  unfold D.slot? at e
  split at e
  ·split at e
   ·rename_i e1 e2 e3
    cases e
    rw[(Vk _ _).mp e1,(Vk _ _).mp e2,(Yd _ _).mp e3]; rfl
   ·cases e
  ·cases e
 ·rintro rfl
  simp[Slot.d,D.slot?,D.st?,(Yd _ _).mpr rfl]
def D.part?:D→Option (Str×Str)
 | .tup [a,b]=>match D.st? a,D.st? b with
   |some n,some w=>some (n,w)
   |_,_=>none
 |_=>none
theorem QE (x:D) (s:Str×Str):D.part? x=some s↔x=yi s:=by
 constructor
 ·intro e
  unfold D.part? at e
  split at e
  ·split at e
   ·rename_i e1 e2
    cases e
    rw[(Vk _ _).mp e1,(Vk _ _).mp e2]; rfl
   ·cases e
  ·cases e
 ·rintro rfl
  simp[yi,D.part?,D.st?]
theorem KY (s:Str×Str):D.part? (yi s)=some s:=(QE _ _).mpr rfl
def D.pat?:D→Option Pat
 | .tup xs=>Jd D.part? xs
 |_=>none
theorem XR (x:D) (p:Pat):D.pat? x=some p↔x=z6 p:=by
 cases x<;>simp only[D.pat?,z6,reduceCtorEq,D.tup.injEq]
 exact qB QE _ _
theorem aC (p:Pat):D.pat? (z6 p)=some p:=(XR _ _).mpr rfl
def D.lps?:D→Option Lps
 | .tup [a,b,c]=>match D.st? a,D.pat? b,D.pat? c with
   |some h,some n,some m=>some ⟨h,n,m⟩
   |_,_,_=>none
 |_=>none
theorem cp (x:D) (s:Lps):D.lps? x=some s↔x=s.d:=by
 constructor
 ·intro e
  unfold D.lps? at e
  split at e
  ·split at e
   ·rename_i e1 e2 e3
    cases e
    rw[(Vk _ _).mp e1,(XR _ _).mp e2,(XR _ _).mp e3]; rfl
   ·cases e
  ·cases e
 ·rintro rfl
  simp[Lps.d,D.lps?,D.st?,(XR _ _).mpr rfl]
def qX (lo hi:Nat) (ws:List Str):Bool:=decide (lo≤ws.length)&&decide (ws.length≤hi)&&ws.all yk
def ZV (hs:List Str) (s:Slot):Bool:=yk s.nm&&(decide (s.ho∈hs)&&(qX 2 4 s.ws&&XJ s.ws))
def yv (sl:List Slot):Nat:=(sl.map fun s=>s.ws.length).foldl (·* ·) 1
def Yn (hs:List Str) (sl:List Slot):Bool:=decide (1≤sl.length)&&decide (sl.length≤6)&&sl.all (ZV hs)&&(XJ (sl.map Slot.nm)&&decide (yv sl≤32))
def qr (sl:List Slot) (p:Str×Str):Bool:=sl.any fun s=>decide (p.1=s.nm)&&decide (p.2∈s.ws)
def yG (sl:List Slot) (p:Pat):Bool:=p.all (qr sl)&&Xc (p.map (·.1))
def MI (x y:D):Bool:=PySem.W.dataLt x.pyd y.pyd
def L0 (ps:List Pat):Bool:=bO MI (ps.map z6)
def ZZ {α:Type} (p:List α):Bool:=!p.isEmpty
theorem U5 {α:Type} (p:List α):ZZ p=true↔p≠[]:=by cases p<;>simp[ZZ]
def YF (sl:List Slot) (ps:List Pat):Bool:=(ps.all fun p=>yG sl p&&ZZ p)&&L0 ps
def atH (sl:List Slot) (h:Str):List Slot:=sl.filter fun s=>decide (s.ho=h)
def ZQ (hs:List Str) (sl:List Slot) (l:Lps):Bool:=decide (l.ho∈hs)&&(yG (atH sl l.ho) l.needs&&(yG (atH sl l.ho) l.makes&&ZZ l.makes))
def Uv (hs:List Str) (sl:List Slot) (ls:List Lps):Bool:=decide (ls.length≤4)&&ls.all (ZQ hs sl)
def ZO (hs:List Str):Bool:=qX 1 4 hs&&Xc hs
structure Wd where
 hs:List Str
 sl:List Slot
 be:List Pat
 ne:List Pat
 la:List Lps
def XO (W:Wd):Bool:=ZO W.hs&&Yn W.hs W.sl&&Uv W.hs W.sl W.la&&(YF W.sl W.be&&(YF W.sl W.ne&&ZZ W.be))
section
variable {b lo hi:Nat} {x:D} {hs:List Str} {sl:List Slot}
theorem vf (lo hi:Nat) (x:D):JY lo hi x=(D.strs2? x).elim false (qX lo hi):=by
 cases x with
 |tup xs=>
  have e:=Xq (f:=D.st?) yk xs
  show(ZW lo hi (.tup xs)&&xs.all U3)=(Jd D.st? xs).elim false (qX lo hi)
  have e2:(xs.all U3)=(xs.all fun x=>(D.st? x).elim false yk):=by congr 1; funext y; exact rq y
  rw[e2,e]
  cases h:Jd D.st? xs with
  |none=>simp
  |some ws=>
   have:=(qB Vk xs ws).mp h
   subst this
   simp[ZW,qX]
 |_=>rfl
def mB (x:D):Bool:=(D.strs2? x).elim false XJ
theorem ir (p q r:D):(D.slot? (.tup [p,q,r])).elim false (ZV hs)=(U3 p&&(ZY hs q&&(JY 2 4 r&&mB r))):=by
 rw[rq,fD,vf]
 unfold mB D.slot?
 cases e1:D.st? p<;>cases e2:D.st? q<;>cases e3:D.strs2? r<;>simp[e1,e2,e3,ZV]
theorem rB {r:D} (h:JY lo hi r=true):∃ws,r=zk ws∧qX lo hi ws=true:=by
 rw[vf]at h
 cases e:D.strs2? r with
 |none=>rw[e]at h; cases h
 |some ws=>rw[e]at h; exact⟨ws,(Yd _ _).mp e,h⟩
theorem oX {ws:List Str} (h:qX lo hi ws=true):lo≤ws.length∧ws.length≤hi∧∀w∈ws,yk w=true:=by
 unfold qX at h
 simp only[Bool.and_eq_true,decide_eq_true_eq,AP]at h
 exact⟨h.1.1,h.1.2,h.2⟩
theorem tL {r:D} (h:JY 2 4 r=true):y_ [.d r]=.ok (.d (.bl (mB r))) [.d r]:=by
 obtain⟨ws,rfl,hn⟩:=rB h
 have:=oX hn
 rw[show zk ws=.tup (ws.map .str)from rfl,tN (zu (by omega))]
 unfold mB
 rw[show D.tup (ws.map .str)=zk ws from rfl,(Yd _ _).mpr rfl]; rfl
theorem SA {x:D} (c:ZW 3 3 x=true):∃p q r,x=.tup [p,q,r]:=by
 cases x with
 |tup xs=>match xs,c with
  |[p,q,r],_=>exact⟨p,q,r,rfl⟩
  |[],c=>simp[ZW]at c
  |[_],c=>simp[ZW]at c
  |[_,_],c=>simp[ZW]at c
  |_::_::_::_::_,c=>simp[ZW]at c
 |_=>simp[ZW]at c
theorem Sz {x:D} (c:ZW 2 2 x=true):∃p q,x=.tup [p,q]:=by
 cases x with
 |tup xs=>match xs,c with
  |[p,q],_=>exact⟨p,q,rfl⟩
  |[],c=>simp[ZW]at c
  |[_],c=>simp[ZW]at c
  |_::_::_::_,c=>simp[ZW]at c
 |_=>simp[ZW]at c
theorem Lv (h:okD b x=true) (hb:b≤50) (hs':szD x≤450000):jf [.d (zk hs),.d x]=.ok (.d (.bl ((D.slot? x).elim false (ZV hs)))) [.d (zk hs),.d x]:=by
 have e1:yT [.d x,.d (.int 3),.d (.int 3)]=_:=qU (lo:=3) (hi:=3) h
 by_cases c:ZW 3 3 x=true
 ·obtain⟨p,q,r,rfl⟩:=SA c
  rw[c]at e1
  have hp:=vO (jH h (y:=p) (by simp)) hb
  have hq:=Zq (ws:=hs) (jH h (y:=q) (by simp))
  have sr:szD r≤450000:=by
   rw[szD,szL,szL,szL,szL]at hs'; omega
  have hr:xK [.d r,.d (.int 2),.d (.int 4)]=_:=VQ (lo:=2) (hi:=4) (jH h (y:=r) (by simp)) hb sr
  have hd:=tL (r:=r)
  rw[ir]
  generalize U3 p=B1 at hp⊢
  generalize ZY hs q=B2 at hq⊢
  generalize JY 2 4 r=B3 at hr hd⊢
  generalize mB r=B4 at hd⊢
  cases B1
  ·simp[AI,jf,YY,Z8,Z9,Xk,c_TRIPLE,e1,gIx,atI,ixN,hp]
  ·cases B2
   ·simp[AI,jf,YY,Z8,Z9,Xk,c_TRIPLE,e1,gIx,atI,ixN,hp,hq]
   ·cases B3
    ·simp[AI,jf,YY,Z8,Z9,Xk,c_TRIPLE,c_LEAST_WORDS,c_MOST_WORDS,e1,gIx,atI,ixN,hp,hq,hr]
    ·have hd:=hd rfl
     simp[AI,jf,YY,Z8,Z9,Xk,c_TRIPLE,c_LEAST_WORDS,c_MOST_WORDS,e1,gIx,atI,ixN,hp,hq,hr,hd]
 ·simp only[Bj]at c
  have e2:(D.slot? x).elim false (ZV hs)=false:=by
   cases e:D.slot? x with
   |none=>rfl
   |some s=>
    rw[gT]at e
    subst e
    simp[Slot.d,ZW]at c
  rw[e2]
  rw[c]at e1
  simp[AI,jf,YY,Z8,Z9,c_TRIPLE,e1]
theorem bq (p q:D):(D.part? (.tup [p,q])).elim false (qr sl)=sl.any fun s=>ZY [s.nm] p&&ZY s.ws q:=by
 unfold D.part?
 simp only[fD]
 cases e1:D.st? p<;>cases e2:D.st? q<;>simp[qr]
theorem KX (h:okD b x=true) (hb:b≤50) (hl:sl.length≤sizeLine):qN [.d (zE sl),.d x]=.ok (.d (.bl ((D.part? x).elim false (qr sl)))) [.d (zE sl),.d x]:=by
 have e1:yT [.d x,.d (.int 2),.d (.int 2)]=_:=qU (lo:=2) (hi:=2) h
 by_cases c:ZW 2 2 x=true
 ·obtain⟨p,q,rfl⟩:=Sz c
  rw[c]at e1
  rw[bq]
  have lc:Xh [.d (zE sl),.d (.tup [p,q]),.no,.no,.no]=.ok (.fr (.lst (sl.map fun s=>D.bl (ZY [s.nm] p&&ZY s.ws q)))) [.d (zE sl),.d (.tup [p,q]),.no,.no,.no]:=by
   unfold Xh
   refine xA Slot.d (fun s=>D.bl (ZY [s.nm] p&&ZY s.ws q)) sl rfl hl fun s hs=>⟨[.d (zE sl),.d (.tup [p,q]),.d (.str s.nm),.d (.str s.ho),.d (zk s.ws)],rfl,?_,rfl⟩
   have h1:qh [.d p,.d (.tup [.str s.nm])]=_:=Zq (ws:=[s.nm]) (jH h (y:=p) (by simp))
   have h2:=Zq (ws:=s.ws) (jH h (y:=q) (by simp))
   have l1:(1:Nat)≤sizeLine:=by decide
   generalize ZY [s.nm] p=B1 at h1⊢
   generalize ZY s.ws q=B2 at h2⊢
   cases B1<;>simp[AI,gIx,atI,ixN,l1,h1,h2]
  simp[AI,qN,Qw,Xi,Xj,Ut,Uk,e1,lc,wO]
 ·simp only[Bj]at c
  have e2:(D.part? x).elim false (qr sl)=false:=by
   cases e:D.part? x with
   |none=>rfl
   |some s=>
    rw[QE]at e
    subst e
    simp[yi,ZW]at c
  rw[e2]
  rw[c]at e1
  simp[AI,qN,Qw,Xi,Xj,Uk,e1]
theorem M0 (h:okD b x=true) (hb:b≤50) (hs':szD x≤450000) (hl:sl.length≤sizeLine):yu [.d (zE sl),.d x]=.ok (.d (.bl ((D.pat? x).elim false (yG sl)))) [.d (zE sl),.d x]:=by
 cases x with
 |non=>rfl
 |bl c=>rfl
 |int i=>rfl
 |str z=>rfl
 |lst xs=>rfl
 |dct kvs=>rfl
 |tup xs=>
  have lx:=Xm hs'
  have lc:qL [.d (zE sl),.d (.tup xs),.no]=.ok (.fr (.lst (xs.map fun y=>D.bl ((D.part? y).elim false (qr sl))))) [.d (zE sl),.d (.tup xs),.no]:=by
   unfold qL
   refine U0 (fun y=>D.bl ((D.part? y).elim false (qr sl))) xs rfl lx fun y hy=>⟨[.d (zE sl),.d (.tup xs),.d y],rfl,?_,rfl⟩
   simp[AI,KX (jH h hy) hb hl]
  have el:=Xq (f:=D.part?) (qr sl) xs
  simp only[D.pat?]
  cases e:Jd D.part? xs with
  |none=>
   rw[e]at el
   simp[AI,yu,xP,xx,xy,lc,xS,el]
  |some p=>
   rw[e]at el
   have:=(qB QE _ _).mp e
   subst this
   have lc:qL [.d (zE sl),.d (.tup (p.map yi)),.no]=.ok (.fr (.lst (p.map fun y=>D.bl (qr sl y)))) [.d (zE sl),.d (.tup (p.map yi)),.no]:=by
    rw[lc,AY]
    simp only[Function.comp_def,KY,Option.elim]
   have l2:qM [.d (zE sl),.d (.tup (p.map yi)),.no]=.ok (.fr (.lst (p.map fun y=>D.str y.1))) [.d (zE sl),.d (.tup (p.map yi)),.no]:=by
    unfold qM
    refine xA yi (fun y=>D.str y.1) p rfl (by simpa using lx) fun y hy=>⟨[.d (zE sl),.d (.tup (p.map yi)),.d (yi y)],rfl,?_,rfl⟩
    simp[AI,gIx,atI,ixN,yi]
   have as:=mh (ws:=p.map (·.1)) (by simpa using lx)
   rw[AY]at as
   have as:yw [.own (.lst (p.map fun y=>D.str y.1))]=.ok (.d (.bl (Xc (p.map (·.1))))) [.d (.lst (p.map fun y=>D.str y.1))]:=as
   by_cases c:p.all (qr sl)=true
   ·simp[AI,yu,xP,xx,xy,jy,lc,xS,c,l2,as,yG]
   ·simp only[Bj]at c
    simp[AI,yu,xP,xx,xy,lc,xS,c,yG]
 |_=>rw[okD]at h; cases h
end
def XN (a:Str×Str):PyData:=.tuple [.str a.1,.str a.2]
def ny (p:Pat):PyData:=.tuple (p.map XN)
theorem M8 (a:Str×Str):(yi a).py=some (XN a):=rfl
theorem cF {α:Type} (f:α→D) (g:α→PyData) (h:∀a,(f a).py=some (g a)):∀l:List α,D.pyL (l.map f)=some (l.map g)
 |[]=>rfl
 |a::l=>by rw[List.map_cons,D.pyL,h a,cF f g h l]; rfl
theorem cG (p:Pat):(z6 p).py=some (ny p):=by
 unfold z6
 rw[D.py,cF yi XN M8]; rfl
theorem uY (a b:Str×Str):PySem.W.alike (XN a) (XN b)=true:=by
 simp[XN,PySem.W.alike,PySem.W.alikeAll]
theorem YO {α:Type} (g:α→PyData) (h:∀a b,PySem.W.alike (g a) (g b)=true):∀l m:List α,PySem.W.alikeAll (l.map g) (m.map g)=true
 |[],_=>by rw[List.map_nil,PySem.W.alikeAll]
 |a::l,[]=>by rw[List.map_nil,List.map_cons,PySem.W.alikeAll]
 |a::l,b::m=>by rw[List.map_cons,List.map_cons,PySem.W.alikeAll,h,YO g h l m]; rfl
theorem Vu (p q:Pat):PySem.W.alike (ny p) (ny q)=true:=by
 unfold ny
 rw[PySem.W.alike]; exact YO XN uY p q
theorem XH {α:Type} (g:α→PyData) (n:Nat) (h:∀a,(g a).depth≤n):∀l:List α,PyData.depthAll (l.map g)≤n
 |[]=>by simp[PyData.depthAll]
 |a::l=>by
  rw[List.map_cons,PyData.depthAll]
  have:=h a
  have:=XH g n h l
  omega
theorem wo (a:Str×Str):(XN a).depth≤1:=by simp[XN,PyData.depth,PyData.depthAll]
theorem dM (p:Pat):(ny p).depth≤2:=by
 unfold ny
 rw[PyData.depth]
 have:=XH XN 1 wo p
 omega
theorem Yl (p:Pat):(z6 p).pyd=ny p:=by unfold D.pyd; rw[cG]; rfl
theorem Kz {ps:List Pat}:∀x∈ps.map z6,∀y∈ps.map z6,fW x y=some (eBl (MI x y)):=by
 intro x hx y hy
 obtain⟨p,_,rfl⟩:=AM.mp hx
 obtain⟨q,_,rfl⟩:=AM.mp hy
 have e1:=cG p
 have e2:=cG q
 have hd:=dM p
 unfold MI
 rw[Yl,Yl]
 unfold z6 at e1 e2⊢
 unfold fW
 simp only[gLt,Mr,e1,e2,Vu,true_and]
 rw[if_pos (by omega)]
def D.pats?:D→Option (List Pat)
 | .tup xs=>Jd D.pat? xs
 |_=>none
theorem gF (x:D) (p:List Pat):D.pats? x=some p↔x=yo p:=by
 cases x<;>simp only[D.pats?,yo,reduceCtorEq,D.tup.injEq]
 exact qB XR _ _
def D.laps?:D→Option (List Lps)
 | .tup xs=>Jd D.lps? xs
 |_=>none
theorem Ks (x:D) (p:List Lps):D.laps? x=some p↔x=qH p:=by
 cases x<;>simp only[D.laps?,qH,reduceCtorEq,D.tup.injEq]
 exact qB cp _ _
def D.slots?:D→Option (List Slot)
 | .tup xs=>Jd D.slot? xs
 |_=>none
theorem bz (x:D) (p:List Slot):D.slots? x=some p↔x=zE p:=by
 cases x<;>simp only[D.slots?,zE,reduceCtorEq,D.tup.injEq]
 exact qB gT _ _
theorem LB {y:D}:∀{xs:List D},y∈xs→szD y≤szL xs
 |x::xs,h=>by
  rw[szL]
  rcases List.mem_cons.mp h with rfl|h
  ·omega
  ·have:=LB h; omega
theorem g5 {y:D} {xs:List D} {n:Nat} (h:szD (.tup xs)≤n) (hy:y∈xs):szD y≤n:=by
 rw[szD]at h
 exact AU (LB hy) h
section
variable {b:Nat} {x:D} {hs:List Str} {sl:List Slot}
theorem rM (h:okD b x=true) (hb:b≤50) (hs':szD x≤450000) (hl:sl.length≤sizeLine):xo [.d (zE sl),.d x]=.ok (.d (.bl ((D.pats? x).elim false (YF sl)))) [.d (zE sl),.d x]:=by
 cases x with
 |non=>rfl
 |bl c=>rfl
 |int i=>rfl
 |str z=>rfl
 |lst xs=>rfl
 |dct kvs=>rfl
 |tup xs=>
  have lx:=Xm hs'
  have lc:Yy [.d (zE sl),.d (.tup xs),.no]=.ok (.fr (.lst (xs.map fun y=>D.bl ((D.pat? y).elim false fun p=>yG sl p&&ZZ p)))) [.d (zE sl),.d (.tup xs),.no]:=by
   unfold Yy
   refine U0 (fun y=>D.bl ((D.pat? y).elim false fun p=>yG sl p&&ZZ p)) xs rfl lx fun y hy=>⟨[.d (zE sl),.d (.tup xs),.d y],rfl,?_,rfl⟩
   have e:=M0 (jH h hy) hb (g5 hs' hy) hl
   cases ey:D.pat? y with
   |none=>rw[ey]at e; simp[AI,e]
   |some p=>
    rw[ey]at e
    have:=(XR _ _).mp ey
    subst this
    have ne:Jp (z6 p) (.tup [])=some (eBl (ZZ p)):=by
     unfold z6 Jp
     cases p<;>simp[ZZ]
    by_cases c:yG sl p=true
    ·simp[AI,e,c,ne]
    ·simp only[Bj]at c
     simp[AI,e,c]
  have el:=Xq (f:=D.pat?) (fun p=>yG sl p&&ZZ p) xs
  have gA:=xS (fun y=>(D.pat? y).elim false fun p=>yG sl p&&ZZ p) xs
  rw[el]at gA
  simp only[D.pats?]
  cases e:Jd D.pat? xs with
  |none=>
   rw[e]at gA
   have gA:_=some (eBl false):=gA
   simp[AI,xo,ZK,jU,jV,lc,gA]
  |some p=>
   rw[e]at gA
   have:=(qB XR _ _).mp e
   subst this
   have as:yw [.d (.tup (p.map z6))]=.ok (.d (.bl (L0 p))) [.d (.tup (p.map z6))]:=sE lx Kz
   have gA:_=some (eBl (p.all fun p=>yG sl p&&ZZ p)):=gA
   simp only[Option.elim,YF]
   generalize (p.all fun p=>yG sl p&&ZZ p)=B at gA⊢
   generalize p.map z6=ys at lc gA as⊢
   cases B
   ·simp[AI,xo,ZK,jU,jV,Yz,lc,gA]
   ·simp[AI,xo,ZK,jU,jV,Yz,lc,gA,as]
 |_=>rw[okD]at h; cases h
theorem r_ (h:Str) (hl:sl.length≤sizeLine):Ya [.d (zE sl),.d (.str h)]=.ok (.fr (.lst ((atH sl h).map Slot.d))) [.d (zE sl),.d (.str h)]:=by
 have lc:Vh [.d (zE sl),.d (.str h),.no]=.ok (.fr (.lst ((sl.filter fun s=>decide (s.ho=h)).map Slot.d))) [.d (zE sl),.d (.str h),.no]:=by
  unfold Vh
  refine NJ Slot.d Slot.d (fun s=>decide (s.ho=h)) sl rfl hl fun s _=>⟨[.d (zE sl),.d (.str h),.d s.d],rfl,?_,fun _=>rfl,rfl⟩
  have e:gEq (.str s.ho) (.str h)=some (eBl (decide (s.ho=h))):=by
   show some (eBl (s.ho==h))=_
   congr 2
  simp[AI,gIx,atI,ixN,Slot.d,e]
 simp[AI,Ya,u_,ui,lc,atH]
theorem sF (h:Str):(atH sl h).length≤sl.length:=List.length_filter_le _ _
def Sq (L:List D) (s:S):Prop:=s=.d (.tup L)∨s=.d (.lst L)∨s=.own (.lst L)
theorem Sq.it {L:List D} {s:S} {r:List S} (h:Sq L s):∃s',Sq L s'∧(∀o,s'≠.own o)∧zn (zb 0) (s::r)=.ok L (s'::r):=by
 rcases h with rfl|rfl|rfl
 ·exact⟨_,.inl rfl,fun o e=>(nomatch e),rfl⟩
 ·exact⟨_,.inr (.inl rfl),fun o e=>(nomatch e),rfl⟩
 ·exact⟨.d (.lst L),.inr (.inl rfl),fun o e=>(nomatch e),rfl⟩
theorem Sq.fn {L:List D} {s s':S} {r:List S} {F:AK} {e:AK} {x y:D} (h:Sq L s) (h':Sq L s') (he:e (s::r)=.ok (.d x) (s::r)) (hF:F [s,.d x]=.ok (.d y) [s',.d x]):∃s2,Sq L s2∧aFn F (za (zb 0) (za e ze)) (s::r)=.ok (.d y) (s2::r):=by
 rcases h with rfl|rfl|rfl
 ·refine⟨_,.inl rfl,?_⟩
  simp[aFn,za,zb,he,ze,zx,zO,zM,hF,wb]
 ·refine⟨_,.inr (.inl rfl),?_⟩
  simp[aFn,za,zb,he,ze,zx,zO,zM,hF,wb]
 ·refine⟨s',h',?_⟩
  simp[aFn,za,zb,he,ze,zx,zO,zM,hF,wb]
theorem m8 {α:Type} {t:Tg} {f:AK} {vs:List Nat} {P:List S→Prop} (F g:α→D):∀(l:List α) (acc:List D) (ρ:List S),(∀a∈l,∀ρ,P ρ→∃ρ2 ρ3,zQ t (F a) ρ=some ρ2∧f ρ2=.ok (.d (g a)) ρ3∧P (zo ρ3 vs))→P ρ→
  acc.length+l.length≤sizeLine→∃ρ',P ρ'∧Xl t yX f vs (l.map F) acc ρ=.ok (acc++l.map g) ρ'
 |[],acc,ρ,_,h,_=>⟨ρ,h,by simp[Xl]⟩
 |a::l,acc,ρ,h,h0,hl=>by
  obtain⟨ρ2,ρ3,h1,h2,h3⟩:=h a AN ρ h0
  rw[List.length_cons]at hl
  obtain⟨ρ',p,e⟩:=m8 F g l (acc++[g a]) _ (fun b hb=>h b (List.mem_cons_of_mem _ hb)) h3 (by rw[AS,Bf]; omega)
  refine⟨ρ',p,?_⟩
  rw[List.map_cons,Xl,h1]
  simp only[yX,Res.bind_ok,if_true,h2,keep1]
  rw[if_pos (by omega)]
  have e:Xl t yX f vs (l.map F) (acc++[g a]) (zo ρ3 vs)=_:=e
  rw[e]; simp
theorem Ph {α:Type} {t:Tg} {it:List S→Res (List D)} {f:AK} {vs:List Nat} {ρ ρ1:List S} (P:List S→Prop) (F g:α→D) (l:List α) (hit:it ρ=.ok (l.map F) ρ1) (hl:l.length≤sizeLine) (h0:P (zo ρ1 vs))
  (h:∀a∈l,∀ρ,P ρ→∃ρ2 ρ3,zQ t (F a) ρ=some ρ2∧f ρ2=.ok (.d (g a)) ρ3∧P (zo ρ3 vs)) (hno:ya ρ1 vs=true:=by rfl):∃ρ',P ρ'∧aLc vs it t yX f ρ=.ok (.fr (.lst (l.map g))) (zA ρ1 ρ' vs):=by
 obtain⟨ρ',p,e⟩:=m8 (P:=P) F g l [] _ h h0 (by simpa using hl)
 refine⟨ρ',p,?_⟩
 unfold aLc
 rw[hit,Res.bind_ok,if_pos hno,e]; rfl
theorem MZ {s:S} (hs:Sq (sl.map Slot.d) s) (h:okD b x=true) (hl:sl.length≤sizeLine):∃s',Sq (sl.map Slot.d) s'∧qN [s,.d x]=.ok (.d (.bl ((D.part? x).elim false (qr sl)))) [s',.d x]:=by
 have e1:yT [.d x,.d (.int 2),.d (.int 2)]=_:=qU (lo:=2) (hi:=2) h
 by_cases c:ZW 2 2 x=true
 ·obtain⟨p,q,rfl⟩:=Sz c
  rw[c]at e1
  rw[bq]
  obtain⟨s',hs',_,hit⟩:=hs.it (r:=[.d (.tup [p,q]),.no,.no,.no])
  have lc:Xh [s,.d (.tup [p,q]),.no,.no,.no]=.ok (.fr (.lst (sl.map fun s=>D.bl (ZY [s.nm] p&&ZY s.ws q)))) [s',.d (.tup [p,q]),.no,.no,.no]:=by
   unfold Xh
   refine xA Slot.d (fun s=>D.bl (ZY [s.nm] p&&ZY s.ws q)) sl hit hl fun s hs=>⟨[s',.d (.tup [p,q]),.d (.str s.nm),.d (.str s.ho),.d (zk s.ws)],rfl,?_,rfl⟩
   have h1:qh [.d p,.d (.tup [.str s.nm])]=_:=Zq (ws:=[s.nm]) (jH h (y:=p) (by simp))
   have h2:=Zq (ws:=s.ws) (jH h (y:=q) (by simp))
   have l1:(1:Nat)≤sizeLine:=by decide
   generalize ZY [s.nm] p=B1 at h1⊢
   generalize ZY s.ws q=B2 at h2⊢
   cases B1<;>simp[AI,gIx,atI,ixN,l1,h1,h2]
  refine⟨s',hs',?_⟩
  simp[AI,qN,Qw,Xi,Xj,Ut,Uk,e1,lc,wO]
 ·simp only[Bj]at c
  have e2:(D.part? x).elim false (qr sl)=false:=by
   cases e:D.part? x with
   |none=>rfl
   |some s=>
    rw[QE]at e
    subst e
    simp[yi,ZW]at c
  rw[e2]
  rw[c]at e1
  refine⟨s,hs,?_⟩
  simp[AI,qN,Qw,Xi,Xj,Uk,e1]
theorem K4 {s:S} (hs:Sq (sl.map Slot.d) s) (h:okD b x=true) (hb:b≤50) (hs':szD x≤450000) (hl:sl.length≤sizeLine):∃s',Sq (sl.map Slot.d) s'∧yu [s,.d x]=.ok (.d (.bl ((D.pat? x).elim false (yG sl)))) [s',.d x]:=by
 cases x with
 |non=>exact⟨s,hs,rfl⟩
 |bl c=>exact⟨s,hs,rfl⟩
 |int i=>exact⟨s,hs,rfl⟩
 |str z=>exact⟨s,hs,rfl⟩
 |lst xs=>exact⟨s,hs,rfl⟩
 |dct kvs=>exact⟨s,hs,rfl⟩
 |tup xs=>
  have lx:=Xm hs'
  have lc:∃s',Sq (sl.map Slot.d) s'∧qL [s,.d (.tup xs),.no]=.ok (.fr (.lst (xs.map fun y=>D.bl ((D.part? y).elim false (qr sl))))) [s',.d (.tup xs),.no]:=by
   obtain⟨ρ',⟨s',h1,rfl⟩,e⟩:=Ph (t:=.nm 2) (it:=zn (zb 1)) (f:=aFn qN (za (zb 0) (za (zb 2) ze))) (vs:=[2]) (ρ:=[s,.d (.tup xs),.no]) (ρ1:=[s,.d (.tup xs),.no]) (fun ρ=>∃s',Sq (sl.map Slot.d) s'∧ρ=[s',.d (.tup xs),.no]) id (fun y=>D.bl ((D.part? y).elim false (qr sl))) xs (by rw[List.map_id]; rfl) lx ⟨s,hs,rfl⟩ (by
    rintro y hy ρ ⟨s1,h1,rfl⟩
    obtain⟨s2,h2,e2⟩:=MZ h1 (jH h hy) hl
    obtain⟨s3,h3,e3⟩:=h1.fn (r:=[.d (.tup xs),.d y]) (e:=zb 2) h2 rfl e2
    exact⟨[s1,.d (.tup xs),.d y],_,rfl,e3,s3,h3,rfl⟩)
   exact⟨s',h1,e⟩
  obtain⟨s',hq,lc⟩:=lc
  refine⟨s',hq,?_⟩
  have gA:=xS (fun y=>(D.part? y).elim false (qr sl)) xs
  rw[Xq]at gA
  simp only[D.pat?]
  cases e:Jd D.part? xs with
  |none=>
   rw[e]at gA
   have gA:_=some (eBl false):=gA
   simp[AI,yu,xP,xx,xy,lc,gA]
  |some p=>
   rw[e]at gA
   have:=(qB QE _ _).mp e
   subst this
   have l2:qM [s',.d (.tup (p.map yi)),.no]=.ok (.fr (.lst (p.map fun y=>D.str y.1))) [s',.d (.tup (p.map yi)),.no]:=by
    unfold qM
    refine xA yi (fun y=>D.str y.1) p rfl (by simpa using lx) fun y hy=>⟨[s',.d (.tup (p.map yi)),.d (yi y)],rfl,?_,rfl⟩
    simp[AI,gIx,atI,ixN,yi]
   have as:=mh (ws:=p.map (·.1)) (by simpa using lx)
   rw[AY]at as
   have as:yw [.own (.lst (p.map fun y=>D.str y.1))]=.ok (.d (.bl (Xc (p.map (·.1))))) [.d (.lst (p.map fun y=>D.str y.1))]:=as
   have gA:_=some (eBl (p.all (qr sl))):=gA
   simp only[Option.elim,yG]
   generalize p.all (qr sl)=B at gA⊢
   generalize p.map yi=ys at lc gA l2⊢
   cases B
   ·simp[AI,yu,xP,xx,xy,jy,lc,gA]
   ·simp[AI,yu,xP,xx,xy,jy,lc,gA,l2,as]
 |_=>rw[okD]at h; cases h
end
section
variable {b:Nat} {x:D} {hs:List Str} {sl:List Slot}
theorem Ky (p q r:D):(D.lps? (.tup [p,q,r])).elim false (ZQ hs sl)=(D.st? p).elim false fun h=>decide (h∈hs)&&((D.pat? q).elim false (yG (atH sl h))&&((D.pat? r).elim false fun m=>yG (atH sl h) m&&ZZ m)):=by
 unfold D.lps?
 cases e1:D.st? p<;>cases e2:D.pat? q<;>cases e3:D.pat? r<;>simp[e1,e2,e3,ZQ]
theorem Pn (p:Pat):Jp (z6 p) (.tup [])=some (eBl (ZZ p)):=by
 unfold z6 Jp
 cases p<;>simp[ZZ]
theorem oJ (h:okD b x=true) (hb:b≤50) (hs':szD x≤450000) (hl:sl.length≤sizeLine):qW [.d (zk hs),.d (zE sl),.d x]=.ok (.d (.bl ((D.lps? x).elim false (ZQ hs sl)))) [.d (zk hs),.d (zE sl),.d x]:=by
 have e1:yT [.d x,.d (.int 3),.d (.int 3)]=_:=qU (lo:=3) (hi:=3) h
 by_cases c:ZW 3 3 x=true
 ·obtain⟨p,q,r,rfl⟩:=SA c
  rw[c]at e1
  rw[Ky]
  have hw:=Zq (ws:=hs) (jH h (y:=p) (by simp))
  rw[fD]at hw
  cases ep:D.st? p with
  |none=>
   rw[ep]at hw
   simp[AI,qW,Xf,Zp,XM,c_TRIPLE,e1,gIx,atI,ixN,hw]
  |some ho=>
   rw[ep]at hw
   have:=(Vk _ _).mp ep
   subst this
   by_cases ch:ho∈hs
   ·have lH:(atH sl ho).length≤sizeLine:=AU (sF ho) hl
    have hat:=r_ (sl:=sl) ho hl
    obtain⟨s2,q2,f2⟩:=K4 (s:=.own (.lst ((atH sl ho).map Slot.d))) (.inr (.inr rfl)) (jH h (y:=q) (by simp)) hb (g5 hs' (y:=q) (by simp)) lH
    obtain⟨s3,q3,f3⟩:=K4 q2 (jH h (y:=r) (by simp)) hb (g5 hs' (y:=r) (by simp)) lH
    have w2:∃s2',Sq ((atH sl ho).map Slot.d) s2'∧(∃s3',yu [s2',.d r]=.ok (.d (.bl ((D.pat? r).elim false (yG (atH sl ho))))) [s3',.d r])∧s2'=s2:=⟨s2,q2,⟨s3,f3⟩,rfl⟩
    have hw:qh [.d (.str ho),.d (zk hs)]=.ok (.d (.bl true)) [.d (.str ho),.d (zk hs)]:=by rw[hw]; simp[ch]
    have st:JQ [.d (zk hs),.d (zE sl),.d (.tup [.str ho,q,r]),.no]=.ok .nx [.d (zk hs),.d (zE sl),.d (.tup [.str ho,q,r]),.own (.lst ((atH sl ho).map Slot.d))]:=by
     simp[AI,JQ,gIx,atI,ixN,hat]
    generalize hB2:(D.pat? q).elim false (yG (atH sl ho))=B2 at f2
    have g3:((D.pat? r).elim false fun m=>yG (atH sl ho) m&&ZZ m)=((D.pat? r).elim false (yG (atH sl ho))&&(D.pat? r).elim false ZZ):=by cases D.pat? r<;>rfl
    have n3:(D.pat? r).elim false (yG (atH sl ho))=true→Jp r (.tup [])=some (eBl ((D.pat? r).elim false ZZ)):=fun z=>by
     cases er:D.pat? r with
     |none=>rw[er]at z; cases z
     |some m=>
      have:=(XR _ _).mp er
      subst this
      exact Pn m
    have last:∃t,qy [.d (zk hs),.d (zE sl),.d (.tup [.str ho,q,r]),.own (.lst ((atH sl ho).map Slot.d))]=.ok (.rt (.d (.bl (B2&&((D.pat? r).elim false fun m=>yG (atH sl ho) m&&ZZ m))))) [.d (zk hs),.d (zE sl),.d (.tup [.str ho,q,r]),t]:=by
     rw[g3]
     generalize (D.pat? r).elim false (yG (atH sl ho))=B3 at f3 n3⊢
     generalize (D.pat? r).elim false ZZ=B4 at n3⊢
     cases B2
     ·exact⟨s2,by simp[AI,qy,gIx,atI,ixN,f2]⟩
     ·cases B3
      ·rcases q2 with rfl|rfl|rfl
       ·exact⟨_,by simp[AI,qy,gIx,atI,ixN,f2,f3]; rfl⟩
       ·exact⟨_,by simp[AI,qy,gIx,atI,ixN,f2,f3]; rfl⟩
       ·exact⟨_,by simp[AI,qy,gIx,atI,ixN,f2,f3]; rfl⟩
      ·have n3:=n3 rfl
       rcases q2 with rfl|rfl|rfl
       ·exact⟨_,by simp[AI,qy,gIx,atI,ixN,f2,f3,n3]; rfl⟩
       ·exact⟨_,by simp[AI,qy,gIx,atI,ixN,f2,f3,n3]; rfl⟩
       ·exact⟨_,by simp[AI,qy,gIx,atI,ixN,f2,f3,n3]; rfl⟩
    obtain⟨t,last⟩:=last
    have goal:(some ho:Option Str).elim false (fun h=>decide (h∈hs)&&((D.pat? q).elim false (yG (atH sl h))&&((D.pat? r).elim false fun m=>yG (atH sl h) m&&ZZ m)))=(B2&&((D.pat? r).elim false fun m=>yG (atH sl ho) m&&ZZ m)):=by
     simp[ch,hB2]
    rw[goal]
    generalize (B2&&((D.pat? r).elim false fun m=>yG (atH sl ho) m&&ZZ m))=BB at last⊢
    have s1:Zp [.d (zk hs),.d (zE sl),.d (.tup [.str ho,q,r]),.no]=.ok .nx [.d (zk hs),.d (zE sl),.d (.tup [.str ho,q,r]),.no]:=by
     simp[AI,Zp,c_TRIPLE,e1,gIx,atI,ixN,hw]
    simp[qW,Xf,zJ,zt,s1,st,last,yf]
   ·have hw:qh [.d (.str ho),.d (zk hs)]=.ok (.d (.bl false)) [.d (.str ho),.d (zk hs)]:=by rw[hw]; simp[ch]
    simp[AI,qW,Xf,Zp,XM,c_TRIPLE,e1,gIx,atI,ixN,hw,ch]
 ·simp only[Bj]at c
  have e2:(D.lps? x).elim false (ZQ hs sl)=false:=by
   cases e:D.lps? x with
   |none=>rfl
   |some s=>
    rw[cp]at e
    subst e
    simp[Lps.d,ZW]at c
  rw[e2]
  rw[c]at e1
  simp[AI,qW,Xf,Zp,XM,c_TRIPLE,e1]
theorem Kr (h:okD b x=true) (hb:b≤50) (hs':szD x≤450000) (hl:sl.length≤sizeLine):xX [.d (zk hs),.d (zE sl),.d x]=.ok (.d (.bl ((D.laps? x).elim false (Uv hs sl)))) [.d (zk hs),.d (zE sl),.d x]:=by
 have e1:yT [.d x,.d (.int 0),.d (.int 4)]=_:=qU (lo:=0) (hi:=4) h
 cases x with
 |non=>rfl
 |bl c=>rfl
 |int i=>rfl
 |str z=>rfl
 |lst xs=>rfl
 |dct kvs=>rfl
 |tup xs=>
  have lx:=Xm hs'
  have lc:X_ [.d (zk hs),.d (zE sl),.d (.tup xs),.no]=.ok (.fr (.lst (xs.map fun y=>D.bl ((D.lps? y).elim false (ZQ hs sl))))) [.d (zk hs),.d (zE sl),.d (.tup xs),.no]:=by
   unfold X_
   refine U0 (fun y=>D.bl ((D.lps? y).elim false (ZQ hs sl))) xs rfl lx fun y hy=>⟨[.d (zk hs),.d (zE sl),.d (.tup xs),.d y],rfl,?_,rfl⟩
   simp[AI,oJ (jH h hy) hb (g5 hs' hy) hl]
  have gA:=xS (fun y=>(D.lps? y).elim false (ZQ hs sl)) xs
  rw[Xq]at gA
  simp only[D.laps?]
  have te:ZW 0 4 (.tup xs)=decide (xs.length≤4):=by simp[ZW]
  rw[te]at e1
  cases e:Jd D.lps? xs with
  |none=>
   rw[e]at gA
   have gA:_=some (eBl false):=gA
   generalize decide (xs.length≤4)=B at e1
   cases B
   ·simp[AI,xX,ZJ,jK,c_MOST_LAPSES,e1]
   ·simp[AI,xX,ZJ,jK,c_MOST_LAPSES,e1,lc,gA]
  |some p=>
   rw[e]at gA
   have:=(qB cp _ _).mp e
   subst this
   have gA:_=some (eBl (p.all (ZQ hs sl))):=gA
   rw[List.length_map]at e1
   simp only[Option.elim,Uv]
   generalize p.all (ZQ hs sl)=B2 at gA⊢
   generalize decide (p.length≤4)=B at e1⊢
   generalize p.map Lps.d=ys at e1 lc gA⊢
   cases B
   ·simp[AI,xX,ZJ,jK,c_MOST_LAPSES,e1]
   ·simp[AI,xX,ZJ,jK,c_MOST_LAPSES,e1,lc,gA]
 |_=>rw[okD]at h; cases h
theorem pT (h:okD b x=true) (hb:b≤50) (hs':szD x≤450000):xF [.d x]=.ok (.d (.bl ((D.strs2? x).elim false ZO))) [.d x]:=by
 have e1:xK [.d x,.d (.int 1),.d (.int 4)]=_:=VQ (lo:=1) (hi:=4) h hb hs'
 rw[vf]at e1
 cases e:D.strs2? x with
 |none=>
  rw[e]at e1
  simp[AI,xF,YU,Yi,c_MOST_HOUSES,e1]
 |some ws=>
  rw[e]at e1
  have:=(Yd _ _).mp e
  subst this
  have e1:xK [.d (zk ws),.d (.int 1),.d (.int 4)]=.ok (.d (.bl (qX 1 4 ws))) [.d (zk ws),.d (.int 1),.d (.int 4)]:=e1
  simp only[Option.elim,ZO]
  have as:yw [.d (zk ws)]=.ok (.d (.bl (Xc ws))) [.d (zk ws)]:=i9 (ws:=ws) (by have:=Xm (xs:=ws.map .str) hs'; simpa using this)
  generalize qX 1 4 ws=B at e1⊢
  cases B
  ·simp[AI,xF,YU,Yi,c_MOST_HOUSES,e1]
  ·simp[AI,xF,YU,Yi,c_MOST_HOUSES,e1,as]
theorem d9 (x:D):∀(l:List Slot) (m k:Nat) (a b c d:S),m≤4 ^ k→k+l.length≤40→(∀s∈l,s.ws.length≤4)→∃b' c' d',
  xr (.tp [(.nm 4),(.nm 5),(.nm 6)]) YR (l.map Slot.d) [.d (zk hs),.d x,a,.d (.int m),b,c,d]=.ok .nx [.d (zk hs),.d x,a,.d (.int ((l.map fun s=>s.ws.length).foldl (·* ·) m:Nat)),b',c',d']
 |[],m,k,a,b,c,d,_,_,_=>⟨b,c,d,rfl⟩
 |s::l,m,k,a,b,c,d,hm,hk,h4=>by
  have l4:=h4 s AN
  rw[List.length_cons]at hk
  have hm2:m * s.ws.length≤4 ^ (k+1):=by
   rw[Nat.pow_succ]; exact Nat.mul_le_mul hm l4
  have p40:(4:Nat) ^ k≤4 ^ 40:=Nat.pow_le_pow_right (by decide) (by omega)
  obtain⟨b',c',d',e⟩:=d9 x l (m * s.ws.length) (k+1) a (.d (.str s.nm)) (.d (.str s.ho)) (.d (zk s.ws)) hm2 (by omega) (fun s hs=>h4 s (List.mem_cons_of_mem _ hs))
  refine⟨b',c',d',?_⟩
  have mul:Zh (.int (m:Nat)) (.int (s.ws.length:Nat))=some (zN ((m * s.ws.length:Nat):Int)):=by
   rw[jW (by rw[Int.natAbs_natCast]; exact Nat.lt_of_le_of_lt (AU hm p40) (Bq (show(4:Nat) ^ 40<2 ^ 128 by decide) (Nat.pow_le_pow_right (by decide) (by decide)))) (YJ (by omega))]
   simp
  have body:YR [.d (zk hs),.d x,a,.d (.int m),.d (.str s.nm),.d (.str s.ho),.d (zk s.ws)]=.ok .nx [.d (zk hs),.d x,a,.d (.int ((m * s.ws.length:Nat):Int)),.d (.str s.nm),.d (.str s.ho),.d (zk s.ws)]:=by
   have gl:xT [zk s.ws]=some (zN s.ws.length):=by simp[xT,zk]
   have mul:Zh (.int (m:Int)) (.int (s.ws.length:Int))=some (.d (.int ((m * s.ws.length:Nat):Int))):=mul
   generalize ((m * s.ws.length:Nat):Int)=z at mul⊢
   simp[AI,YR,gl,mul]
  rw[List.map_cons,xr,show zQ (.tp [(.nm 4),(.nm 5),(.nm 6)]) s.d [.d (zk hs),.d x,a,.d (.int m),b,c,d]=some [.d (zk hs),.d x,a,.d (.int m),.d (.str s.nm),.d (.str s.ho),.d (zk s.ws)]from rfl]
  simp only[body]
  rw[e,List.map_cons,List.foldl_cons]
theorem iu (h:okD b x=true) (hb:b≤50) (hs':szD x≤450000):xL [.d (zk hs),.d x]=.ok (.d (.bl ((D.slots? x).elim false (Yn hs)))) [.d (zk hs),.d x]:=by
 have e1:yT [.d x,.d (.int 1),.d (.int 6)]=_:=qU (lo:=1) (hi:=6) h
 cases x with
 |non=>rfl
 |bl c=>rfl
 |int i=>rfl
 |str z=>rfl
 |lst xs=>rfl
 |dct kvs=>rfl
 |tup xs=>
  have lx:=Xm hs'
  have lc:QU [.d (zk hs),.d (.tup xs),.no,.no,.no,.no,.no]=.ok (.fr (.lst (xs.map fun y=>D.bl ((D.slot? y).elim false (ZV hs))))) [.d (zk hs),.d (.tup xs),.no,.no,.no,.no,.no]:=by
   unfold QU
   refine U0 (fun y=>D.bl ((D.slot? y).elim false (ZV hs))) xs rfl lx fun y hy=>⟨[.d (zk hs),.d (.tup xs),.d y,.no,.no,.no,.no],rfl,?_,rfl⟩
   simp[AI,Lv (jH h hy) hb (g5 hs' hy)]
  have gA:=xS (fun y=>(D.slot? y).elim false (ZV hs)) xs
  rw[Xq]at gA
  simp only[D.slots?]
  have te:ZW 1 6 (.tup xs)=(decide (1≤xs.length)&&decide (xs.length≤6)):=rfl
  rw[te]at e1
  cases e:Jd D.slot? xs with
  |none=>
   rw[e]at gA
   have gA:_=some (eBl false):=gA
   generalize (decide (1≤xs.length)&&decide (xs.length≤6))=B at e1
   cases B
   ·simp[AI,xL,Zo,qT,ZH,c_MOST_SLOTS,e1]
   ·simp[AI,xL,Zo,qT,ZH,c_MOST_SLOTS,e1,lc,gA]
  |some p=>
   rw[e]at gA
   have:=(qB gT _ _).mp e
   subst this
   have gA:_=some (eBl (p.all (ZV hs))):=gA
   rw[List.length_map]at e1 lx
   simp only[Option.elim,Yn]
   by_cases c1:(decide (1≤p.length)&&decide (p.length≤6))=true
   ·rw[c1]at e1
    by_cases c2:p.all (ZV hs)=true
    ·rw[c2]at gA
     have s1:qT [.d (zk hs),.d (.tup (p.map Slot.d)),.no,.no,.no,.no,.no]=.ok .nx [.d (zk hs),.d (.tup (p.map Slot.d)),.no,.no,.no,.no,.no]:=by
      generalize p.map Slot.d=ys at e1 lc gA⊢
      simp[AI,qT,c_MOST_SLOTS,e1,lc,gA]
     have s4:QW [.d (zk hs),.d (.tup (p.map Slot.d)),.no,.no,.no,.no,.no]=.ok .nx [.d (zk hs),.d (.tup (p.map Slot.d)),.no,.d (.int (1:Nat)),.no,.no,.no]:=by
      simp[AI,QW]
     have w4:∀s∈p,s.ws.length≤4:=fun s hs=>by
      have:=AP.mp c2 s hs
      unfold ZV qX at this
      simp only[Bool.and_eq_true,decide_eq_true_eq]at this
      exact this.2.2.1.1.2
     have lp:p.length≤6:=by
      simp only[Bool.and_eq_true,decide_eq_true_eq]at c1
      exact c1.2
     obtain⟨b',c',d',lo⟩:=d9 (hs:=hs) (.tup (p.map Slot.d)) p 1 0 .no .no .no .no (by decide) (by omega) w4
     have s5:QX [.d (zk hs),.d (.tup (p.map Slot.d)),.no,.d (.int (1:Nat)),.no,.no,.no]=.ok .nx [.d (zk hs),.d (.tup (p.map Slot.d)),.no,.d (.int (yv p:Nat)),b',c',d']:=by
      unfold QX Xt
      rw[show zn (zb 1) [.d (zk hs),.d (.tup (p.map Slot.d)),.no,.d (.int (1:Nat)),.no,.no,.no]=.ok (p.map Slot.d) [.d (zk hs),.d (.tup (p.map Slot.d)),.no,.d (.int (1:Nat)),.no,.no,.no]from rfl,Res.bind_ok,lo]
      rfl
     have l8:QV [.d (zk hs),.d (.tup (p.map Slot.d)),.no,.d (.int (yv p:Nat)),b',c',d']=.ok (.fr (.lst ((p.map Slot.nm).map .str))) [.d (zk hs),.d (.tup (p.map Slot.d)),.no,.d (.int (yv p:Nat)),b',c',d']:=by
      rw[AY]
      unfold QV
      refine xA Slot.d (fun y=>D.str y.nm) p rfl lx fun y hy=>⟨[.d (zk hs),.d (.tup (p.map Slot.d)),.d y.d,.d (.int (yv p:Nat)),b',c',d'],rfl,?_,rfl⟩
      simp[AI,gIx,atI,ixN,Slot.d]
     have df:=tM (ws:=p.map Slot.nm) (by simpa using lx)
     have le:gLe (.int (yv p:Nat)) (.int 32)=some (eBl (decide (yv p≤32))):=by
      show some (eBl (decide ((yv p:Int)≤32)))=_
      congr 2
      rw[decide_eq_decide]; omega
     have s7:YT [.d (zk hs),.d (.tup (p.map Slot.d)),.no,.d (.int (yv p:Nat)),b',c',d']=.ok (.rt (.d (.bl (XJ (p.map Slot.nm)&&decide (yv p≤32))))) [.d (zk hs),.d (.tup (p.map Slot.d)),.no,.d (.int (yv p:Nat)),b',c',d']:=by
      generalize XJ (p.map Slot.nm)=B at df⊢
      generalize decide (yv p≤32)=B2 at le⊢
      generalize (p.map Slot.nm).map D.str=ys at df l8
      cases B
      ·simp[AI,YT,l8,df]
      ·simp[AI,YT,l8,df,le,c_MOST_STANDS]
     rw[c1,c2,Bool.true_and]
     generalize (XJ (p.map Slot.nm)&&decide (yv p≤32))=BB at s7⊢
     unfold xL
     refine(xR rfl (ρ1:=[.d (zk hs),.d (.tup (p.map Slot.d)),.no,.d (.int (yv p:Nat)),b',c',d']) ?_).trans rfl
     unfold Zo
     show zt _ _ [.d (zk hs),.d (.tup (p.map Slot.d)),.no,.no,.no,.no,.no]=_
     rw[zU s1,zU s4,zU s5]
     exact s7
    ·simp only[Bj]at c2
     rw[c2]at gA⊢
     generalize p.map Slot.d=ys at e1 lc gA⊢
     simp[AI,xL,Zo,qT,ZH,c_MOST_SLOTS,e1,lc,gA]
   ·simp only[Bj]at c1
    rw[c1]at e1⊢
    generalize p.map Slot.d=ys at e1 lc gA⊢
    simp[AI,xL,Zo,qT,ZH,c_MOST_SLOTS,e1]
 |_=>rw[okD]at h; cases h
end
def cB (h s be ne la:D):Bool:=match D.strs2? h,D.slots? s,D.pats? be,D.pats? ne,D.laps? la with
 |some hs,some sl,some be,some ne,some la=>XO ⟨hs,sl,be,ne,la⟩
 |_,_,_,_,_=>false
section
variable {b:Nat} {h s be ne la:D}
structure OkP (b:Nat) (x:D):Prop where
 ok:okD b x=true
 sz:szD x≤450000
theorem bA {hs:List Str} {sl:List Slot} (h:Yn hs sl=true):1≤sl.length∧sl.length≤6∧(∀s∈sl,ZV hs s=true)∧(sl.map Slot.nm).Nodup∧yv sl≤32:=by
 unfold Yn at h
 simp only[Bool.and_eq_true,decide_eq_true_eq,AP]at h
 exact⟨h.1.1.1,h.1.1.2,h.1.2,(Vw _).mp h.2.1,h.2.2⟩
theorem vp (hb:b≤50) (h1:OkP b h) (h2:OkP b s) (h3:OkP b be) (h4:OkP b ne) (h5:OkP b la) :
  xg [.d h,.d s,.d be,.d ne,.d la]=.ok (.d (.bl (cB h s be ne la))) [.d h,.d s,.d be,.d ne,.d la]:=by
 have e1:=pT h1.ok hb h1.sz
 unfold cB
 cases eh:D.strs2? h with
 |none=>
  rw[eh]at e1
  simp[AI,xg,qw,xV,xW,e1]
 |some hs=>
  rw[eh]at e1
  have:=(Yd _ _).mp eh
  subst this
  have e2:=iu (hs:=hs) h2.ok hb h2.sz
  cases es:D.slots? s with
  |none=>
   rw[es]at e2
   have e1:xF [.d (zk hs)]=.ok (.d (.bl (ZO hs))) [.d (zk hs)]:=e1
   generalize ZO hs=B1 at e1
   cases B1<;>simp[AI,xg,qw,xV,xW,e1,e2]
  |some sl=>
   rw[es]at e2
   have:=(bz _ _).mp es
   subst this
   have e1:xF [.d (zk hs)]=.ok (.d (.bl (ZO hs))) [.d (zk hs)]:=e1
   have e2:xL [.d (zk hs),.d (zE sl)]=.ok (.d (.bl (Yn hs sl))) [.d (zk hs),.d (zE sl)]:=e2
   by_cases c1:ZO hs=true
   ·by_cases c2:Yn hs sl=true
    ·rw[c1]at e1
     rw[c2]at e2
     have ls:sl.length≤sizeLine:=zu (by have:=(bA c2).2.1; omega)
     have e3:=Kr (hs:=hs) (sl:=sl) h5.ok hb h5.sz ls
     have e4:=rM (sl:=sl) h3.ok hb h3.sz ls
     have e5:=rM (sl:=sl) h4.ok hb h4.sz ls
     have n4:(D.pats? be).elim false (YF sl)=true→Jp be (.tup [])=some (eBl ((D.pats? be).elim false ZZ)):=fun z=>by
      cases er:D.pats? be with
      |none=>rw[er]at z; cases z
      |some m=>
       have:=(gF _ _).mp er
       subst this
       unfold yo Jp
       cases m<;>simp[ZZ]
     have goal:(match some hs,some sl,D.pats? be,D.pats? ne,D.laps? la with
       |some hs,some sl,some be,some ne,some la=>XO ⟨hs,sl,be,ne,la⟩
       |_,_,_,_,_=>false)=((D.laps? la).elim false (Uv hs sl)&&((D.pats? be).elim false (YF sl)&&((D.pats? ne).elim false (YF sl)&&(D.pats? be).elim false ZZ))):=by
      cases D.pats? be<;>cases D.pats? ne<;>cases D.laps? la<;>simp[XO,c1,c2]
     rw[goal]
     generalize (D.laps? la).elim false (Uv hs sl)=B1 at e3⊢
     generalize (D.pats? be).elim false (YF sl)=B2 at e4 n4⊢
     generalize (D.pats? ne).elim false (YF sl)=B3 at e5⊢
     generalize (D.pats? be).elim false ZZ=B4 at n4⊢
     cases B1
     ·simp[AI,xg,qw,xV,xW,e1,e2,e3]
     ·cases B2
      ·simp[AI,xg,qw,xV,xW,YQ,e1,e2,e3,e4]
      ·have n4:=n4 rfl
       cases B3
       ·simp[AI,xg,qw,xV,xW,YQ,e1,e2,e3,e4,e5]
       ·simp[AI,xg,qw,xV,xW,YQ,e1,e2,e3,e4,e5,n4]
    ·simp only[Bj]at c2
     rw[c1]at e1
     rw[c2]at e2
     simp[AI,xg,qw,xV,xW,e1,e2]
     cases D.pats? be<;>cases D.pats? ne<;>cases D.laps? la<;>simp[XO,c1,c2]
   ·simp only[Bj]at c1
    rw[c1]at e1
    simp[AI,xg,qw,xV,xW,e1]
    cases D.pats? be<;>cases D.pats? ne<;>cases D.laps? la<;>simp[XO,c1]
end
abbrev Stn:=List Str
def VT (k:Nat):List D→List D
 |[]=>[]
 |x::xs=>.wt [.int k,x]::VT (k+1) xs
theorem sS (xs:List D):YK xs=VT 0 xs:=by
 have go:∀(xs:List D) (k:Nat),xs.mapIdx (fun i x=>D.wt [.int ((i+k:Nat):Int),x])=VT k xs:=by
  intro xs
  induction xs with
  |nil=>intro k; rfl
  |cons x xs ih=>
   intro k
   rw[List.mapIdx_cons,VT,←ih (k+1)]
   simp only[Nat.zero_add,List.cons.injEq,true_and]
   congr 1
   funext i y
   rw[show i+1+k=i+(k+1)by omega]
 have:=go xs 0
 unfold YK
 simpa using this
def plK (k:Nat):List Slot→List (Key×D)
 |[]=>[]
 |s::r=>(.inr s.nm,.int k)::plK (k+1) r
def xf (sl:List Slot):D:=.dct (plK 0 sl)
def Ja (k:Nat) (n:Str):List Slot→Option Nat
 |[]=>none
 |s::r=>if s.nm=n then some k else Ja (k+1) n r
theorem aJ (n:Str):∀(sl:List Slot) (k:Nat),Uu (plK k sl) (.inr n)=(Ja k n sl).map fun i=>D.int i
 |[],k=>rfl
 |s::r,k=>by
  unfold Uu
  rw[plK,List.find?_cons,Ja]
  by_cases h:s.nm=n
  ·subst h; simp
  ·have:decide ((Sum.inr s.nm:Key)=.inr n)=false:=by simp[h]
   rw[this,if_neg h]
   exact aJ n r (k+1)
theorem Kq {acc:List (Key×D)} {k:Key} {y:D} (h:k∉acc.map (·.1)):JT acc k y=acc++[(k,y)]:=by
 unfold JT
 rw[if_neg]
 simp only[BE,decide_eq_true_eq,not_exists,not_and]
 intro kv hkv e
 exact h (AM.mpr ⟨kv,hkv,e⟩)
theorem dI {sl0:List Slot}:∀(sl:List Slot) (k:Nat) (acc:List (Key×D)),(acc.map (fun kv:Key×D=>kv.1)++sl.map fun s:Slot=>(Sum.inr s.nm:Key)).Nodup→acc.length+sl.length≤1000→
  Q7 (.tp [(.nm 1),(.nm 2)]) yX (zg gIx (zb 2) (aK (.int 0))) (zb 1) [1,2] (VT k (sl.map Slot.d)) acc [.d (zE sl0),.no,.no]=.ok (acc++plK k sl) [.d (zE sl0),.no,.no]
 |[],k,acc,_,_=>by simp[VT,Q7,plK]
 |s::r,k,acc,nd,hl=>by
  rw[List.length_cons]at hl
  have nk:(Sum.inr s.nm:Key)∉acc.map (·.1):=fun h=>by
   have:=(List.nodup_append.mp nd).2.2 _ h (Sum.inr s.nm) (by simp)
   exact this rfl
  have ih:=dI (sl0:=sl0) r (k+1) (acc++[(.inr s.nm,.int k)]) (by
   rw[A7,Bi]; exact nd) (by rw[AS,Bf]; omega)
  have sz:acc.length<sizeLine:=Bq (show acc.length<1001 by omega) (by decide)
  rw[List.map_cons,VT,Q7,show zQ (.tp [(.nm 1),(.nm 2)]) (.wt [.int k,s.d]) [.d (zE sl0),.no,.no]=some [.d (zE sl0),.d (.int k),.d s.d]from rfl]
  simp only[yX,Res.bind_ok,if_true]
  rw[show zg gIx (zb 2) (aK (.int 0)) [.d (zE sl0),.d (.int k),.d s.d]=.ok (.d (.str s.nm)) [.d (zE sl0),.d (.int k),.d s.d]by simp[AI,gIx,atI,ixN,Slot.d]]
  simp only[Res.bind_ok,D.key?,zb,List.getElem?_cons_succ,List.getElem?_cons_zero,keep1]
  rw[if_pos sz,Kq nk]
  refine Eq.trans ih ?_
  rw[plK,Bi]; rfl
theorem ig {sl:List Slot} (nd:(sl.map Slot.nm).Nodup) (hl:sl.length≤1000):Zr [.d (zE sl)]=.ok (.fr (.dct (plK 0 sl))) [.d (zE sl)]:=by
 have nd':(([]:List (Key×D)).map (fun kv:Key×D=>kv.1)++sl.map fun s:Slot=>(Sum.inr s.nm:Key)).Nodup:=by
  rw[List.map_nil,List.nil_append,List.Nodup,Br]
  rw[List.Nodup,Br]at nd
  exact nd.imp fun h e=>h (Sum.inr.inj e)
 have e:=dI (sl0:=sl) sl 0 [] nd' (by simpa using hl)
 have lc:Je [.d (zE sl),.no,.no]=.ok (.fr (.dct (plK 0 sl))) [.d (zE sl),.no,.no]:=by
  unfold Je aDc
  rw[show QQ (za (zb 0) ze) [.d (zE sl),.no,.no]=.ok (YK (sl.map Slot.d)) [.d (zE sl),.no,.no]from rfl,Res.bind_ok,if_pos (show ya [.d (zE sl),.no,.no] [1,2]=true from rfl),sS,
   show zo [.d (zE sl),.no,.no] [1,2]=[.d (zE sl),.no,.no]from rfl,e]
  rfl
 simp[AI,Zr,vI,U_,lc]
def agT (sl:List Slot) (p:Pat) (st:Stn):Bool:=p.all fun a=>(Ja 0 a.1 sl).elim false fun i=>decide (st[i]?=some a.2)
theorem sZ {n:Str}:∀{sl:List Slot} {k i:Nat},Ja k n sl=some i→k≤i∧i<k+sl.length∧∃s,sl[i - k]?=some s∧s.nm=n
 |[],_,_,e=>by cases e
 |s::r,k,i,e=>by
  rw[Ja]at e
  split at e
  ·rename_i h
   cases e
   exact⟨Nat.le_refl _,by rw[List.length_cons]; omega,s,by simp,h⟩
  ·obtain⟨h1,h2,s',h3,h4⟩:=sZ e
   rw[List.length_cons]
   refine⟨by omega,by omega,s',?_,h4⟩
   rw[show i - k=(i - (k+1))+1 by omega,List.getElem?_cons_succ]; exact h3
theorem dW {n:Str}:∀{sl:List Slot} (k:Nat),(∃s∈sl,s.nm=n)→∃i,Ja k n sl=some i
 |[],_,⟨_,h,_⟩=>by cases h
 |s::r,k,⟨t,h,e⟩=>by
  rw[Ja]
  by_cases hs:s.nm=n
  ·exact⟨k,if_pos hs⟩
  ·rw[if_neg hs]
   rcases List.mem_cons.mp h with rfl|h
   ·exact absurd e hs
   ·exact dW (k+1) ⟨t,h,e⟩
theorem sY:∀{sl:List Slot} {k i:Nat} {s:Slot},(sl.map Slot.nm).Nodup→sl[i]?=some s→Ja k s.nm sl=some (k+i)
 |[],_,_,_,_,e=>by simp at e
 |t::r,k,i,s,nd,e=>by
  rw[List.map_cons]at nd
  obtain⟨n1,n2⟩:=Bl.mp nd
  rw[Ja]
  cases i with
  |zero=>simp at e; subst e; rw[if_pos rfl]; rfl
  |succ i=>
   rw[List.getElem?_cons_succ]at e
   have:t.nm≠s.nm:=fun h=>n1 (h▸AM.mpr ⟨s,Bh e,rfl⟩)
   rw[if_neg this,sY n2 e]
   congr 1; omega
section
variable {sl:List Slot} {p:Pat} {st:Stn}
theorem eq_strs (a b:Str):gEq (.str a) (.str b)=some (eBl (decide (a=b))):=by
 show some (eBl (a==b))=_
 congr 2
theorem ON {st:Stn} {i:Nat} {w:Str} (h:st[i]?=some w):gIx (zk st) (.int (i:Nat))=some (.d (.str w)):=by
 have hl:=(AQ.mp h).1
 unfold zk
 simp only[gIx,atI,ixN,List.length_map]
 rw[if_pos (by omega),if_pos (by omega)]
 simp[h]
theorem OI {a:Str×Str} (hp:(Ja 0 a.1 sl).elim False fun i=>i<st.length) {ρ:List S} {i0 i1 j k l:Nat} (h0:ρ[i0]?=some (.d (zk st))) (h1:ρ[i1]?=some (.d (xf sl))) (h3:ρ[j]?=some (.d (.str a.1))) (h4:ρ[k]?=some (.d (.str a.2))) :
  zg gEq (zg gIx (zb i0) (zg gIx (zb i1) (zb j))) (zb k) ρ=.ok (.d (.bl ((Ja 0 a.1 sl).elim false fun i=>decide (st[i]?=some a.2)))) ρ:=by
 cases e:Ja 0 a.1 sl with
 |none=>rw[e]at hp; exact hp.elim
 |some i=>
  rw[e]at hp
  have hp:i<st.length:=hp
  have g1:gIx (xf sl) (.str a.1)=some (.d (.int (i:Nat))):=by
   show((D.str a.1).key?.bind fun k=>(Uu (plK 0 sl) k).map E.d)=_
   rw[show(D.str a.1).key?=some (.inr a.1)from rfl,Option.bind_some,aJ,e]; rfl
  have g2:=ON (AX hp)
  have g3:=eq_strs st[i] a.2
  simp only[zg,zb,h0,h1,h3,h4,Res.bind_ok,zX,E.val,g1,g2,g3,Option.elim]
  rw[AX hp,show decide (some st[i]=some a.2)=decide (st[i]=a.2)by rw[decide_eq_decide]; exact Option.some_inj]
def sk (sl:List Slot) (st:Stn) (p:Pat):Prop:=∀a∈p,(Ja 0 a.1 sl).elim False fun i=>i<st.length
theorem eJ (hp:sk sl st p) (hl:p.length≤sizeLine):QA [.d (xf sl),.d (z6 p),.d (zk st)]=.ok (.d (.bl (agT sl p st))) [.d (xf sl),.d (z6 p),.d (zk st)]:=by
 have lc:kI [.d (xf sl),.d (z6 p),.d (zk st),.no,.no]=.ok (.fr (.lst (p.map fun a=>D.bl ((Ja 0 a.1 sl).elim false fun i=>decide (st[i]?=some a.2))))) [.d (xf sl),.d (z6 p),.d (zk st),.no,.no]:=by
  unfold kI
  refine xA yi (fun a=>D.bl ((Ja 0 a.1 sl).elim false fun i=>decide (st[i]?=some a.2))) p rfl hl fun a ha=>⟨[.d (xf sl),.d (z6 p),.d (zk st),.d (.str a.1),.d (.str a.2)],rfl,?_,rfl⟩
  exact OI (hp a ha) (l:=0) rfl rfl rfl rfl
 have gA:=xS (fun a:Str×Str=>(Ja 0 a.1 sl).elim false fun i=>decide (st[i]?=some a.2)) p
 unfold agT
 generalize (p.all fun a=>(Ja 0 a.1 sl).elim false fun i=>decide (st[i]?=some a.2))=B at gA⊢
 generalize (p.map fun a=>D.bl ((Ja 0 a.1 sl).elim false fun i=>decide (st[i]?=some a.2)))=ys at gA lc
 simp[AI,QA,mq,dC,lc,gA]
theorem Ni {ps:List Pat} (hp:∀p∈ps,sk sl st p∧p.length≤sizeLine) (hl:ps.length≤sizeLine):jg [.d (xf sl),.d (yo ps),.d (zk st)]=.ok (.d (.bl (ps.any fun p=>agT sl p st))) [.d (xf sl),.d (yo ps),.d (zk st)]:=by
 have lc:Xw [.d (xf sl),.d (yo ps),.d (zk st),.no]=.ok (.fr (.lst (ps.map fun p=>D.bl (agT sl p st)))) [.d (xf sl),.d (yo ps),.d (zk st),.no]:=by
  unfold Xw
  refine xA z6 (fun p=>D.bl (agT sl p st)) ps rfl hl fun p h=>⟨[.d (xf sl),.d (yo ps),.d (zk st),.d (z6 p)],rfl,?_,rfl⟩
  simp[AI,eJ (hp p h).1 (hp p h).2]
 have gA:=wO (fun p:Pat=>agT sl p st) ps
 generalize (ps.any fun p=>agT sl p st)=B at gA⊢
 generalize (ps.map fun p=>D.bl (agT sl p st))=ys at gA lc
 simp[AI,jg,VS,Vi,lc,gA]
end
def ZM (sl:List Slot):Stn:=sl.map fun s=>s.ws.headD Str.empty
def kf:List Slot→List Stn→List Stn
 |[],f=>f
 |s::r,f=>kf r (f.flatMap fun st=>s.ws.map fun w=>st++[w])
def bL (sl:List Slot):List Stn:=kf sl [[]]
def qb (sl:List Slot):D:=.tup (Xx ((bL sl).map zk))
section
variable {sl:List Slot} {s0:S}
theorem mO (h:∀s∈sl,s.ws≠[]) (hl:sl.length≤sizeLine):Zj [.d (zE sl)]=.ok (.d (zk (ZM sl))) [.d (zE sl)]:=by
 have lc:JO [.d (zE sl),.no,.no,.no]=.ok (.fr (.lst (sl.map fun s=>D.str (s.ws.headD Str.empty)))) [.d (zE sl),.no,.no,.no]:=by
  unfold JO
  refine xA Slot.d (fun s=>D.str (s.ws.headD Str.empty)) sl rfl hl fun s hs=>⟨[.d (zE sl),.d (.str s.nm),.d (.str s.ho),.d (zk s.ws)],rfl,?_,rfl⟩
  have:gIx (zk s.ws) (.int 0)=some (.d (.str (s.ws.headD Str.empty))):=by
   have hs:=h s hs
   cases e:s.ws with
   |nil=>exact absurd e hs
   |cons w ws=>simp[zk,gIx,atI,ixN]
  simp[AI,this]
 simp[AI,Zj,u9,vM,lc,yH,zk,ZM]
theorem nc (F:S) (n h:S) (ws:List Str) (acc:List Stn) (st:Stn) (r:S) (hF:∀o,F≠.own o) (ha:acc.length+ws.length≤sizeLine) (hs:st.length+1≤sizeLine) (hw:ws.length≤sizeLine) (hr:∀o,r≠.own o) :
  Yg [s0,F,n,h,.d (zk ws),.own (.lst (acc.map zk)),.d (zk st),r]=.ok .nx [s0,F,n,h,.d (zk ws),.own (.lst ((acc++ws.map fun w=>st++[w]).map zk)),.d (zk st),r]:=by
 have l1:(1:Nat)≤sizeLine:=by decide
 have lc:X9 [s0,F,n,h,.d (zk ws),.own (.lst (acc.map zk)),.d (zk st),r]=.ok (.fr (.lst (ws.map fun w=>zk (st++[w])))) [s0,F,n,h,.d (zk ws),.own (.lst (acc.map zk)),.d (zk st),r]:=by
  unfold X9
  refine xA D.str (fun w=>zk (st++[w])) ws (ρ1:=[s0,F,n,h,.d (zk ws),.own (.lst (acc.map zk)),.d (zk st),r]) rfl hw (fun w _=>⟨[s0,F,n,h,.d (zk ws),.own (.lst (acc.map zk)),.d (zk st),.d (.str w)],rfl,?_,rfl⟩) (by
   cases r with
   |own o=>exact absurd rfl (hr o)
   |no=>rfl
   |clo _ _=>rfl
   |mem _=>rfl
   |d x=>rfl)
  have ga:yP (zk st) (.tup [.str w])=some (.d (zk (st++[w]))):=by
   unfold zk
   simp only[yP,List.length_map,Bf]
   rw[if_pos hs]
   simp
  simp[AI,l1,ga]
 have e2:((acc++ws.map fun w=>st++[w]).map zk)=acc.map zk++ws.map fun w=>zk (st++[w]):=by
  rw[A7,AY]; rfl
 rw[e2]
 have ly:(ws.map fun w=>zk (st++[w])).length=ws.length:=by simp
 generalize (ws.map fun w=>zk (st++[w]))=ys at lc ly⊢
 simp[AI,Yg,Y_,O.tyn,lc,jn,ly,ha]
theorem gc (F n h:S) (ws:List Str) (hF:∀o,F≠.own o) (hw:ws.length≤100):∀(f:List Stn) (acc:List Stn) (x6 r:S),acc.length+f.length * ws.length≤100000→(∀st∈f,st.length≤100)→(∀o,r≠.own o)→
  ∃x6',xr (.nm 6) Yg (f.map zk) [s0,F,n,h,.d (zk ws),.own (.lst (acc.map zk)),x6,r]=.ok .nx [s0,F,n,h,.d (zk ws),.own (.lst ((acc++f.flatMap fun st=>ws.map fun w=>st++[w]).map zk)),x6',r]
 |[],acc,x6,r,_,_,_=>⟨x6,by simp[xr]⟩
 |st::f,acc,x6,r,hl,hs,hr=>by
  have hst:=hs st AN
  rw[List.length_cons,Nat.add_mul,Nat.one_mul]at hl
  have l1:(100000:Nat)≤sizeLine:=by decide
  have one:=nc (s0:=s0) F n h ws acc st r hF (by omega) (by omega) (by omega) hr
  obtain⟨x6',e⟩:=gc F n h ws hF hw f (acc++ws.map fun w=>st++[w]) (.d (zk st)) r (by rw[AS,List.length_map]; omega) (fun t ht=>hs t (List.mem_cons_of_mem _ ht)) hr
  refine⟨x6',?_⟩
  rw[List.map_cons,xr,show zQ (.nm 6) (zk st) [s0,F,n,h,.d (zk ws),.own (.lst (acc.map zk)),x6,r]=some [s0,F,n,h,.d (zk ws),.own (.lst (acc.map zk)),.d (zk st),r]from rfl]
  simp only[one]
  rw[e,List.flatMap_cons,Bi]
def StF (f:List Stn) (s:S):Prop:=s=.own (.lst (f.map zk))∨s=.d (.lst (f.map zk))
theorem lv (f:List Stn) (s:Slot) {F x5 x6 x7:S} (hF:StF f F) (h7:∀o,x7≠.own o) (hw:s.ws.length≤100) (hf:f.length * s.ws.length≤100000) (hs:∀st∈f,st.length≤100) :
  ∃x6',(zt jd (zt je jJ)) [s0,F,.d (.str s.nm),.d (.str s.ho),.d (zk s.ws),x5,x6,x7]=.ok .nx [s0,.d (.lst ((f.flatMap fun st=>s.ws.map fun w=>st++[w]).map zk)),.d (.str s.nm),.d (.str s.ho),.d (zk s.ws),.d (.lst ((f.flatMap fun st=>s.ws.map fun w=>st++[w]).map zk)),x6',x7]:=by
 obtain⟨x6',e⟩:=gc (s0:=s0) (.d (.lst (f.map zk))) (.d (.str s.nm)) (.d (.str s.ho)) s.ws (fun o=>(by simp)) hw f [] x6 x7 (by simpa using hf) hs h7
 refine⟨x6',?_⟩
 have l0:(0:Nat)≤sizeLine:=by decide
 have e3:jd [s0,F,.d (.str s.nm),.d (.str s.ho),.d (zk s.ws),x5,x6,x7]=.ok .nx [s0,F,.d (.str s.nm),.d (.str s.ho),.d (zk s.ws),.own (.lst []),x6,x7]:=by
  simp[AI,jd,l0]
 have e4:je [s0,F,.d (.str s.nm),.d (.str s.ho),.d (zk s.ws),.own (.lst []),x6,x7]=.ok .nx [s0,.d (.lst (f.map zk)),.d (.str s.nm),.d (.str s.ho),.d (zk s.ws),.own (.lst ((f.flatMap fun st=>s.ws.map fun w=>st++[w]).map zk)),x6',x7]:=by
  unfold je Xt
  have it:zn (zb 1) [s0,F,.d (.str s.nm),.d (.str s.ho),.d (zk s.ws),.own (.lst []),x6,x7]=.ok (f.map zk) [s0,.d (.lst (f.map zk)),.d (.str s.nm),.d (.str s.ho),.d (zk s.ws),.own (.lst []),x6,x7]:=by
   rcases hF with rfl|rfl<;>rfl
  rw[it,Res.bind_ok]
  exact e
 rw[zU e3,zU e4]
 simp[AI,jJ]
theorem uj:∀(l:List Slot) (f:List Stn) (k:Nat) {F x2 x3 x4 x5 x6 x7:S},StF f F→(∀o,x7≠.own o)→(∀s∈l,s.ws.length≤4)→k+l.length≤8→f.length≤4 ^ k→(∀st∈f,st.length≤k)→
  ∃F' x2' x3' x4' x5' x6',StF (kf l f) F'∧xr (.tp [(.nm 2),(.nm 3),(.nm 4)]) (zt jd (zt je jJ)) (l.map Slot.d) [s0,F,x2,x3,x4,x5,x6,x7]=.ok .nx [s0,F',x2',x3',x4',x5',x6',x7]
 |[],f,k,F,x2,x3,x4,x5,x6,x7,hF,_,_,_,_,_=>⟨F,x2,x3,x4,x5,x6,hF,rfl⟩
 |s::l,f,k,F,x2,x3,x4,x5,x6,x7,hF,h7,hw,hk,hf,hs=>by
  rw[List.length_cons]at hk
  have w4:=hw s AN
  have p4:(4:Nat) ^ k≤4 ^ 7:=Nat.pow_le_pow_right (by decide) (by omega)
  have pr:f.length * s.ws.length≤4 ^ (k+1):=by rw[Nat.pow_succ]; exact Nat.mul_le_mul hf w4
  have p5:(4:Nat) ^ (k+1)≤4 ^ 8:=Nat.pow_le_pow_right (by decide) (by omega)
  obtain⟨y6,e⟩:=lv (s0:=s0) f s (x5:=x5) (x6:=x6) hF h7 (by omega) (by omega) (fun st hst=>by have:=hs st hst; omega)
  have fl:(f.flatMap fun st=>s.ws.map fun w=>st++[w]).length=f.length * s.ws.length:=by
   clear hF e pr hf hs
   induction f with
   |nil=>simp
   |cons a f ih=>rw[List.flatMap_cons,AS,List.length_map,ih,List.length_cons,Nat.add_mul,Nat.one_mul]; omega
  obtain⟨F',x2',x3',x4',x5',x6',hF',e'⟩:=uj l (f.flatMap fun st=>s.ws.map fun w=>st++[w]) (k+1) (F:=.d (.lst ((f.flatMap fun st=>s.ws.map fun w=>st++[w]).map zk))) (x2:=.d (.str s.nm)) (x3:=.d (.str s.ho)) (x4:=.d (zk s.ws)) (x5:=.d (.lst ((f.flatMap fun st=>s.ws.map fun w=>st++[w]).map zk))) (x6:=y6) (.inr rfl) h7 (fun t ht=>hw t (List.mem_cons_of_mem _ ht)) (by omega) (by rw[fl]; exact pr) (fun st hst=>by
   obtain⟨t,ht,h2⟩:=List.mem_flatMap.mp hst
   obtain⟨w,_,rfl⟩:=AM.mp h2
   have:=hs t ht
   rw[AS,Bf]; omega)
  refine⟨F',x2',x3',x4',x5',x6',hF',?_⟩
  rw[List.map_cons,xr,show zQ (.tp [(.nm 2),(.nm 3),(.nm 4)]) s.d [s0,F,x2,x3,x4,x5,x6,x7]=some [s0,F,.d (.str s.nm),.d (.str s.ho),.d (zk s.ws),x5,x6,x7]from rfl]
  simp only[e]
  exact e'
theorem cH (st:Stn):(zk st).py=some (.tuple (st.map .str)):=by
 unfold zk
 rw[D.py,cF D.str PyData.str (fun _=>rfl)]; rfl
theorem iy {l:List Stn} (h:∀st∈l,st≠[]):xq (l.map zk)=true:=by
 unfold xq
 simp only[Bool.and_eq_true,Bx,AP]
 have pyd:∀st:Stn,(zk st).pyd=.tuple (st.map .str):=fun st=>by unfold D.pyd; rw[cH]; rfl
 refine⟨⟨fun x hx=>?_,fun x hx y hy=>?_⟩,.inl fun x hx=>?_⟩
 ·obtain⟨st,_,rfl⟩:=AM.mp hx
  refine⟨by rw[cH]; rfl,decide_eq_true ?_⟩
  rw[pyd,PyData.depth]
  have:=XH PyData.str 0 (fun _=>Nat.le_refl _) st
  omega
 ·obtain⟨a,_,rfl⟩:=AM.mp hx
  obtain⟨c,_,rfl⟩:=AM.mp hy
  rw[pyd,pyd,PySem.W.alike]
  exact YO PyData.str (fun _ _=>by simp[PySem.W.alike]) a c
 ·obtain⟨st,hst,rfl⟩:=AM.mp hx
  rw[pyd]
  cases st with
  |nil=>exact absurd rfl (h _ hst)
  |cons w st=>rfl
theorem lq {l:List Stn} (h:∀st∈l,st≠[]) (hl:l≠[]):qx [.lst (l.map zk)]=some (.fr (.lst (Xx (l.map zk)))):=by
 have e:D.ints? (l.map zk)=none:=by
  cases l with
  |nil=>exact absurd rfl hl
  |cons a l=>rfl
 simp only[qx,e]
 rw[if_pos (iy h)]
theorem rO:∀(l:List Slot) (f:List Stn) (st:Stn),st∈kf l f→∃t∈f,st.length=t.length+l.length
 |[],f,st,h=>⟨st,h,rfl⟩
 |s::l,f,st,h=>by
  obtain⟨t,ht,e⟩:=rO l _ st h
  obtain⟨u,hu,h2⟩:=List.mem_flatMap.mp ht
  obtain⟨w,_,rfl⟩:=AM.mp h2
  exact⟨u,hu,by rw[e,AS,Bf,List.length_cons]; omega⟩
theorem aL:∀(l:List Slot) (f:List Stn),f≠[]→(∀s∈l,s.ws≠[])→kf l f≠[]
 |[],f,h,_=>h
 |s::l,f,h,hw=>by
  refine aL l _ (fun e=>?_) fun t ht=>hw t (List.mem_cons_of_mem _ ht)
  cases f with
  |nil=>exact h rfl
  |cons a f=>
   have h2:=hw s AN
   cases hs:s.ws with
   |nil=>exact h2 hs
   |cons w ws=>rw[hs]at e; simp at e
structure SlOk (sl:List Slot):Prop where
 ne:sl≠[]
 few:sl.length≤6
 ws:∀s∈sl,s.ws≠[]∧s.ws.length≤4
theorem LY (hs:SlOk sl):∃F' x2' x3' x4' x5' x6',zt jc (fun ρ=>xr (.tp [(.nm 2),(.nm 3),(.nm 4)]) (zt jd (zt je jJ)) (sl.map Slot.d) ρ) [s0,.no,.no,.no,.no,.no,.no,.no]=.ok .nx [s0,F',x2',x3',x4',x5',x6',.no]∧
  Yh [s0,F',x2',x3',x4',x5',x6',.no]=.ok (.rt (.d (qb sl))) [s0,F',x2',x3',x4',x5',x6',.no]:=by
 have l1:(1:Nat)≤sizeLine:=by decide
 have e1:jc [s0,.no,.no,.no,.no,.no,.no,.no]=.ok .nx [s0,.own (.lst ([[]].map zk)),.no,.no,.no,.no,.no,.no]:=by
  simp[AI,jc,l1,zk]
 obtain⟨F',x2',x3',x4',x5',x6',hF,e⟩:=uj (s0:=s0) sl [[]] 0 (F:=.own (.lst ([[]].map zk))) (x2:=.no) (x3:=.no) (x4:=.no) (x5:=.no) (x6:=.no) (x7:=.no) (.inl rfl) (fun o=>by simp) (fun s h=>(hs.ws s h).2) (by have:=hs.few; omega) (by simp) (fun st h=>by simp at h; subst h; simp)
 refine⟨F',x2',x3',x4',x5',x6',by rw[zU e1]; exact e,?_⟩
 have ne:∀st∈bL sl,st≠[]:=fun st h=>by
  obtain⟨t,ht,e⟩:=rO sl _ st h
  have:=hs.ne
  intro z
  subst z
  simp only[List.length_nil]at e
  have:sl.length=0:=by omega
  exact hs.ne (List.length_eq_zero_iff.mp this)
 have so:=lq ne (aL sl [[]] (by simp) fun s h=>(hs.ws s h).1)
 have hF:F'=.own (.lst ((bL sl).map zk))∨F'=.d (.lst ((bL sl).map zk)):=hF
 unfold qb
 generalize (bL sl).map zk=ys at so hF⊢
 rcases hF with rfl|rfl
 ·simp[AI,Yh,so,yH]
 ·simp[AI,Yh,so,yH]
theorem iz (hs:SlOk sl):ZS [.d (zE sl)]=.ok (.d (qb sl)) [.d (zE sl)]:=by
 obtain⟨F',x2',x3',x4',x5',x6',e1,e2⟩:=LY (s0:=.d (zE sl)) hs
 refine(xR rfl (ρ1:=[.d (zE sl),F',x2',x3',x4',x5',x6',.no]) ?_).trans rfl
 have e:Q1 [.d (zE sl),.no,.no,.no,.no,.no,.no,.no]=.ok (.rt (.d (qb sl))) [.d (zE sl),F',x2',x3',x4',x5',x6',.no]:=by
  have l1:(1:Nat)≤sizeLine:=by decide
  have s1:jc [.d (zE sl),.no,.no,.no,.no,.no,.no,.no]=.ok .nx [.d (zE sl),.own (.lst [.tup []]),.no,.no,.no,.no,.no,.no]:=by
   simp[AI,jc,l1]
  rw[zU s1]at e1
  have e3:VP [.d (zE sl),.own (.lst [.tup []]),.no,.no,.no,.no,.no,.no]=.ok .nx [.d (zE sl),F',x2',x3',x4',x5',x6',.no]:=e1
  unfold Q1
  rw[zU s1,zU e3]
  exact e2
 exact e
variable {ls:S}
def Has (s:S) (k:Str) (x:D):Prop:=∃lore,gIx lore (.str k)=some (.d x)∧(s=.d lore∨∃o,s=.own o∧o.toD=lore)
theorem Q9 {s:S} {k:Str} {x:D} {r:List S} (h:Has s k x):zg gIx (zb 0) (aK (.str k)) (s::r)=.ok (.d x) (s::r):=by
 obtain⟨lore,e,rfl|⟨o,rfl,rfl⟩⟩:=h
 ·simp[zg,zb,aK,zX,E.val,e]
 ·simp[zg,zb,aK,zX,E.val,e]
end
theorem KL {z:Str} (h:yk z=true):(PyData.str z).canLay0=true:=by
 have q:=aq h
 have:z.cps.all (·<0x110000)=true:=by
  rw[←Array.all_toList,AP]
  intro c hc
  have:=ae (q.2.2 c hc)
  exact decide_eq_true (by omega)
 simpa only[PyData.canLay0,PyData.strOk]using this
theorem app_eq {ρ ρ1:List S} {i:Nat} {F F':List D} {x:D} {f:AK} (h:ρ[i]?=some (.own (.lst F'))) (hf:f ρ=.ok (.d x) ρ1) (h1:ρ1[i]?=some (.own (.lst F))) (sz:F.length<sizeLine) :
  zy (Y_ "list" i qc (za f ze)) ρ=.ok .nx (ρ1.set i (.own (.lst (F++[x])))):=by
 simp[zy,Y_,h,O.tyn,za,hf,ze,keepL,keep1,h1,qc,sz]
theorem perm_lift' {α β:Type} (f:α→β) {vs:List β} {L:List α} (h:vs.Perm (L.map f)):∃L':List α,L'.Perm L∧vs=L'.map f:=br f h L rfl
theorem mW (a b:Str):PyProof.Rows.itemLt (.inr a.cps.toList) (.inr b.cps.toList)=ltS a b:=by
 have e:=PySem.W.DatumOrd.lt_eq a b
 have e2:PySem.W.dataLt (.str a) (.str b)=PyProof.Rows.itemLt (.inr a.cps.toList) (.inr b.cps.toList):=by
  unfold PySem.W.dataLt
  simp only[PySem.W.keyToks]
  exact PySem.W.lex_one _ _
 rw[←e2]
 exact e
theorem Ux (a:Str):ltS a a=false:=by
 unfold ltS
 exact decide_eq_false (List.lt_irrefl _)
theorem k9 {a b:Str} (h:a≠b):ltS a b=true∨ltS b a=true:=by
 unfold ltS
 simp only[decide_eq_true_eq]
 rcases Classical.em (a.cps.toList<b.cps.toList)with c|c
 ·exact .inl c
 ·rcases Classical.em (b.cps.toList<a.cps.toList)with d|d
  ·exact .inr d
  ·exact absurd (PySem.W.str_of_cps (List.le_antisymm (List.not_lt.mp d) (List.not_lt.mp c))) h
theorem Me {a b:Str×Str} (h:ltS a.1 b.1=true):PySem.W.dataLt (XN a) (XN b)=true:=by
 have ne:a.1.cps.toList≠b.1.cps.toList:=fun e=>by
  have:=PySem.W.str_of_cps e
  rw[this,Ux]at h; cases h
 unfold PySem.W.dataLt XN
 simp only[PySem.W.keyToks,PySem.W.keyToksAll,List.cons_append,List.nil_append]
 rw[lex_self,lex_diff (by simpa using ne)]
 exact(mW a.1 b.1).trans h
theorem J8 (a:Str×Str):(yi a).pyd=XN a:=rfl
theorem Qt:∀{ws:List Str},ws.Pairwise (fun a b=>ltS a b=true)→Xc ws=true
 |[],_=>rfl
 |[_],_=>rfl
 |a::b::r,h=>by
  obtain⟨h1,h2⟩:=Bz.mp h
  have ih:=Qt h2
  unfold Xc at ih⊢
  simp only[List.drop_succ_cons,List.drop_zero,List.zip_cons_cons,List.all_cons,Bool.and_eq_true]at ih⊢
  exact⟨h1 b AN,by simpa using ih⟩
theorem Xz {α:Type} (f:α→D) (l:List α):∃m:List α,m.Perm l∧Xx (l.map f)=m.map f∧m.Pairwise (fun a b=>D.sle (f a) (f b)=true):=by
 obtain⟨m,pm,e⟩:=perm_lift' f (Xy (l.map f))
 refine⟨m,pm,e,?_⟩
 have pw:(Xx (l.map f)).Pairwise (fun x y=>D.sle x y=true):=BX vB vA _
 rw[e,Br]at pw
 exact pw
theorem rS (l:List (Str×Str)):xq (l.map yi)=true:=by
 unfold xq
 simp only[Bool.and_eq_true,Bx,AP]
 refine⟨⟨fun x hx=>?_,fun x hx y hy=>?_⟩,.inl fun x hx=>?_⟩
 ·obtain⟨a,_,rfl⟩:=AM.mp hx
  refine⟨rfl,decide_eq_true ?_⟩
  rw[J8]
  have:=wo a
  omega
 ·obtain⟨a,_,rfl⟩:=AM.mp hx
  obtain⟨c,_,rfl⟩:=AM.mp hy
  rw[J8,J8]
  exact uY a c
 ·obtain⟨a,_,rfl⟩:=AM.mp hx
  rfl
theorem cN {G:Pat} (nd:(G.map (·.1)).Nodup):∃p:Pat,p.Perm G∧Xc (p.map (·.1))=true∧qx [.lst (G.map yi)]=some (.fr (.lst (p.map yi))):=by
 obtain⟨p,pm,e,pw⟩:=Xz yi G
 refine⟨p,pm,Qt ?_,?_⟩
 ·have ndp:(p.map (·.1)).Nodup:=(pm.map (·.1)).nodup_iff.mpr nd
  rw[Br]
  rw[List.Nodup,Br]at ndp
  refine(pw.and ndp).imp fun {a b} h=>?_
  rcases k9 h.2 with c|c
  ·exact c
  ·have:=Me c
   have h1:=h.1
   unfold D.sle at h1
   rw[J8,J8,this]at h1
   cases h1
 ·cases G with
  |nil=>
   have:p=[]:=List.perm_nil.mp pm
   subst this
   simp[qx,D.ints?,lf]
  |cons a G=>
   have ei:D.ints? ((a::G).map yi)=none:=rfl
   simp only[qx,ei]
   rw[if_pos (rS _),e]
theorem Pp {T:Nat} {o:O} {xs:List D} (h:JarOk T o) (hT:T≤100000) (hne:xs≠[]) (hl:xs.length≤1000) :
  ∃x o',yJ [.own o,.d (.tup xs)]=.ok (.d x) [.own o',.d (.tup xs)]∧x∈xs∧JarOk (T+1) o':=by
 have pos:0<xs.length:=List.length_pos_iff.mpr hne
 obtain⟨r,o',e,h0,h1,ok⟩:=xB (m:=(xs.length:Int)) h hT (by omega) (by omega)
 have hr:r.toNat<xs.length:=by omega
 have hi:gIx (.tup xs) (.int r)=some (.d xs[r.toNat]):=by
  simp only[gIx,atI,ixN]
  rw[if_pos h0,if_pos h1]
  simp[hr]
 refine⟨xs[r.toNat],o',?_,List.getElem_mem _,ok⟩
 refine(xR (ρ1:=[.own o',.d (.tup xs)]) rfl (xp ?_)).trans rfl
 simp[AI,xT,e,hi]
theorem U6 {T:Nat} {o:O} {ws:List Str} (h:JarOk T o) (hT:T≤100000) (hne:ws≠[]) (hl:ws.length≤1000) :
  ∃w o',yJ [.own o,.d (zk ws)]=.ok (.d (.str w)) [.own o',.d (zk ws)]∧w∈ws∧JarOk (T+1) o':=by
 obtain⟨x,o',e,hx,ok⟩:=Pp (xs:=ws.map .str) h hT (by simpa using hne) (by simpa using hl)
 obtain⟨w,hw,rfl⟩:=AM.mp hx
 exact⟨w,o',e,hw,ok⟩
def PartsOf (l:List Slot) (G:Pat):Prop:=(G.map (·.1)).Sublist (l.map Slot.nm)∧∀a∈G,∃s∈l,s.nm=a.1∧a.2∈s.ws
theorem PartsOf.nil:PartsOf [] []:=⟨List.Sublist.refl _,fun a h=>by cases h⟩
theorem PartsOf.skip {l:List Slot} {G:Pat} {s:Slot} (h:PartsOf l G):PartsOf (s::l) G:=
 ⟨h.1.cons _,fun a ha=>by obtain⟨t,h1,h2⟩:=h.2 a ha; exact⟨t,List.mem_cons_of_mem _ h1,h2⟩⟩
theorem PartsOf.take {l:List Slot} {G:Pat} {s:Slot} {w:Str} (h:PartsOf l G) (hw:w∈s.ws):PartsOf (s::l) ((s.nm,w)::G):=
 ⟨by rw[List.map_cons,List.map_cons]; exact h.1.cons₂ _,fun a ha=>by
  rcases List.mem_cons.mp ha with rfl|ha
  ·exact⟨s,AN,rfl,hw⟩
  ·obtain⟨t,h1,h2⟩:=h.2 a ha; exact⟨t,List.mem_cons_of_mem _ h1,h2⟩⟩
def hbS (o:O) (sd:D) (must:Int) (F:Pat) (a b c d:S):List S:=[.own o,.d sd,.d (.int must),.own (.lst (F.map yi)),a,b,c,d]
theorem SM (ws:List Str):Qc (ws.map D.str) (some 1) none=(ws.drop 1).map D.str:=by rw[pD,List.map_drop]
theorem oa {ws:List Str} {w:Str} (h:w∈ws.drop 1):w∈ws:=BS h
structure SlW (sl:List Slot):Prop where
 ne:sl≠[]
 few:sl.length≤100
 ws:∀s∈sl,2≤s.ws.length∧s.ws.length≤100∧s.ws.Nodup
 nd:(sl.map Slot.nm).Nodup
def Off (sl:List Slot) (p:Pat):Prop:=∃s∈sl,∃w∈s.ws.drop 1,(s.nm,w)∈p
def aB (a:Str×Str):NestedKey:=.tup [.text a.1,.text a.2]
def J5 (p:Pat):NestedKey:=.tup (p.map aB)
theorem cq {α:Type} (f:α→D) (g:α→NestedKey) (h:∀a,(f a).nk?=some (g a)):∀l:List α,D.nkL (l.map f)=some (l.map g)
 |[]=>rfl
 |a::l=>by rw[List.map_cons,D.nkL,h a,cq f g h l]; rfl
theorem vh (p:Pat):(z6 p).nk?=some (J5 p):=by
 unfold z6
 rw[D.nk?,cq yi aB (fun _=>rfl)]; rfl
theorem dJ {α:Type} (g:α→NestedKey) (n:Nat) (h:∀a,(g a).depth≤n):∀l:List α,NestedKey.depthAll (l.map g)≤n
 |[]=>by simp[NestedKey.depthAll]
 |a::l=>by
  rw[List.map_cons,NestedKey.depthAll]
  have:=h a
  have:=dJ g n h l
  omega
theorem pE (p:Pat):(J5 p).depth≤2:=by
 unfold J5
 rw[NestedKey.depth]
 have:=dJ aB 1 (fun a=>by simp[aB,NestedKey.depth,NestedKey.depthAll]) p
 omega
theorem lj {ps:List Pat} (h:∀p∈ps,p≠[]):xq (ps.map z6)=true:=by
 unfold xq
 simp only[Bool.and_eq_true,Bx,AP]
 refine⟨⟨fun x hx=>?_,fun x hx y hy=>?_⟩,.inl fun x hx=>?_⟩
 ·obtain⟨p,_,rfl⟩:=AM.mp hx
  refine⟨by rw[cG]; rfl,decide_eq_true ?_⟩
  rw[Yl]
  have:=dM p
  omega
 ·obtain⟨p,_,rfl⟩:=AM.mp hx
  obtain⟨q,_,rfl⟩:=AM.mp hy
  rw[Yl,Yl]
  exact Vu p q
 ·obtain⟨p,hp,rfl⟩:=AM.mp hx
  rw[Yl]
  cases p with
  |nil=>exact absurd rfl (h _ hp)
  |cons a p=>rfl
theorem rJ {p q:Pat} (h:z6 p=z6 q):p=q:=by
 have:=aC p
 rw[h,aC]at this
 exact(Option.some.inj this).symm
theorem sD {lt:D→D→Bool}:∀{xs:List D},xs.Pairwise (fun a b=>lt a b=true)→bO lt xs=true
 |[],_=>rfl
 |[_],_=>rfl
 |a::b::r,h=>by
  obtain⟨h1,h2⟩:=Bz.mp h
  have ih:=sD h2
  unfold bO at ih⊢
  simp only[List.drop_succ_cons,List.drop_zero,List.zip_cons_cons,List.all_cons,Bool.and_eq_true]at ih⊢
  exact⟨h1 b AN,by simpa using ih⟩
theorem rK {p q:Pat} (h:J5 p=J5 q):p=q:=by
 refine rJ (cw (vh p) (vh q) ?_ (by rw[h]))
 rw[Yl,Yl]; exact Vu p q
theorem Lu {ps:List Pat} (h:∀p∈ps,p≠[]) (hl:ps.length<64):∃qs:List Pat,Z7 [.lst (ps.map z6)]=some (.fr (.lst (qs.map z6)))∧L0 qs=true∧(∀p,p∈qs↔p∈ps)∧qs.Nodup:=by
 have nk:=cq z6 J5 vh ps
 have so:=lj h
 have ok:okN (ps.map J5)=true:=by
  unfold okN
  rw[Bool.and_eq_true,decide_eq_true_eq,List.length_map,AP]
  refine⟨hl,fun k hk=>?_⟩
  obtain⟨p,_,rfl⟩:=AM.mp hk
  rw[Bool.and_eq_true]
  refine⟨rfl,decide_eq_true ?_⟩
  have:=pE p
  omega
 have typed:∃us:List Pat,rG (ps.map z6) (ps.map J5)=us.map z6∧us.Nodup∧∀p,p∈us↔p∈ps:=by
  have keys:∃us:List Pat,QD (ps.map J5)=us.map J5:=by
   have go:∀l:List NestedKey,(∀k∈l,∃p:Pat,k=J5 p)→∃us:List Pat,l=us.map J5:=by
    intro l
    induction l with
    |nil=>intro _; exact⟨[],rfl⟩
    |cons k l ih=>
     intro hk
     obtain⟨p,rfl⟩:=hk k AN
     obtain⟨us,rfl⟩:=ih fun x hx=>hk x (List.mem_cons_of_mem _ hx)
     exact⟨p::us,rfl⟩
   refine go _ fun k hk=>?_
   obtain⟨p,_,rfl⟩:=AM.mp ((U8 _ _).mp hk)
   exact⟨p,rfl⟩
  obtain⟨us,hu⟩:=keys
  have mem:∀p,p∈us↔p∈ps:=fun p=>by
   constructor
   ·intro hp
    have:J5 p∈QD (ps.map J5):=by rw[hu]; exact AM.mpr ⟨p,hp,rfl⟩
    obtain⟨q,hq,e⟩:=AM.mp ((U8 _ _).mp this)
    rw[←rK e]; exact hq
   ·intro hp
    have:J5 p∈us.map J5:=by rw[←hu,U8]; exact AM.mpr ⟨p,hp,rfl⟩
    obtain⟨q,hq,e⟩:=AM.mp this
    rw[←rK e]; exact hq
  refine⟨us,?_,?_,mem⟩
  ·unfold rG
   rw[hu,AY]
   refine List.map_congr_left fun p hp=>?_
   exact rN nk so (AM.mpr ⟨p,(mem p).mp hp,rfl⟩) (vh p)
  ·have nd:=gz (ps.map J5)
   rw[hu,List.Nodup,Br]at nd
   exact nd.imp fun h e=>h (by rw[e])
 obtain⟨us,hu,nd,mem⟩:=typed
 obtain⟨qs,pm,e,pw⟩:=Xz z6 us
 refine⟨qs,?_,?_,fun p=>(pm.mem_iff).trans (mem p),pm.nodup_iff.mpr nd⟩
 ·simp only[Z7,D.seq2?,Option.bind_some,nk]
  rw[if_pos ⟨ok,so⟩,hu,e]
 ·unfold L0
  refine sD ?_
  rw[Br]
  have ndq:qs.Nodup:=pm.nodup_iff.mpr nd
  refine(pw.and ndq).imp fun {a b} h=>?_
  unfold MI
  cases hlt:PySem.W.dataLt (z6 a).pyd (z6 b).pyd with
  |true=>rfl
  |false=>
   have s2:D.sle (z6 b) (z6 a)=true:=by unfold D.sle; rw[hlt]; rfl
   have:=ax (vh a) (vh b) (by rw[Yl,Yl]; exact Vu a b) h.1 s2
   exact absurd (rJ this) h.2
theorem cM {ws:List Str} (hne:ws≠[]) (nd:ws.Nodup):∃hs:List Str,hs.Perm ws∧Xc hs=true∧qx [.lst (ws.map .str)]=some (.fr (.lst (hs.map .str))):=by
 obtain⟨p,pm,e,pw⟩:=Xz D.str ws
 refine⟨p,pm,Qt ?_,?_⟩
 ·have ndp:p.Nodup:=pm.nodup_iff.mpr nd
  refine(pw.and ndp).imp fun {a b} h=>?_
  rcases k9 h.2 with c|c
  ·exact c
  ·have h1:=h.1
   unfold D.sle at h1
   have e2:PySem.W.dataLt (D.str b).pyd (D.str a).pyd=ltS b a:=PySem.W.DatumOrd.lt_eq b a
   rw[e2,c]at h1
   cases h1
 ·cases ws with
  |nil=>exact absurd rfl hne
  |cons a ws=>
   have ei:D.ints? ((a::ws).map D.str)=none:=rfl
   have so:xq ((a::ws).map D.str)=true:=by
    unfold xq
    simp only[Bool.and_eq_true,Bx,AP]
    refine⟨⟨fun x hx=>?_,fun x hx y hy=>?_⟩,.inr fun x hx=>?_⟩
    ·obtain⟨z,_,rfl⟩:=AM.mp hx
     exact⟨rfl,decide_eq_true (by show PyData.depth (.str z)≤60; simp[PyData.depth])⟩
    ·obtain⟨z,_,rfl⟩:=AM.mp hx
     obtain⟨y',_,rfl⟩:=AM.mp hy
     show PySem.W.alike (.str z) (.str y')=true
     simp[PySem.W.alike]
    ·obtain⟨z,_,rfl⟩:=AM.mp hx
     rfl
   simp only[qx,ei]
   rw[if_pos so,e]
section
variable {T:Nat} {o:O} {nms hs:List Str}
theorem cut_take {α:Type} (xs:List α) {k:Nat} (h:k≤xs.length):Qc xs none (some (k:Int))=xs.take k:=by
 unfold Qc
 have e1:HT.sIx xs.length 0 none=0:=by simp[HT.sIx]
 have e2:HT.sIx xs.length xs.length (some (k:Int))=k:=by simp only[HT.sIx]; rw[if_neg (by omega)]; simp; omega
 rw[e1,e2]; simp
theorem sM {α:Type} (xs:List α) {i j:Nat} (h:j≤xs.length) (hi:i≤j):Qc xs (some (i:Int)) (some (j:Int))=(xs.drop i).take (j - i):=by
 unfold Qc
 have e1:HT.sIx xs.length 0 (some (i:Int))=i:=by simp only[HT.sIx]; rw[if_neg (by omega)]; simp; omega
 have e2:HT.sIx xs.length xs.length (some (j:Int))=j:=by simp only[HT.sIx]; rw[if_neg (by omega)]; simp; omega
 rw[e1,e2]
structure LotsOk (hs:List Str) (used:List Str) (lots:List Slot):Prop where
 each:∀s∈lots,s.ho∈hs∧2≤s.ws.length∧s.ws.length≤4∧s.ws.Nodup∧∀w∈s.ws,yk w=true
 sub:(lots.map Slot.nm).Sublist used
 few:yv lots≤32
 pos:1≤yv lots
theorem k_ (lots:List Slot) (s:Slot):yv (lots++[s])=yv lots * s.ws.length:=by
 unfold yv
 rw[A7,List.foldl_append]; rfl
end
section
variable {hs nms:List Str}
theorem LotsOk.slots {used:List Str} {lots:List Slot} (L:LotsOk hs used lots) (nd:used.Nodup) (nb:∀z∈used,yk z=true) (h1:lots≠[]) (h6:lots.length≤6):Yn hs lots=true:=by
 unfold Yn
 have:XJ (lots.map Slot.nm)=true:=(Vw _).mpr (L.sub.nodup nd)
 have p:0<lots.length:=List.length_pos_iff.mpr h1
 simp only[Bool.and_eq_true,decide_eq_true_eq,AP,this]
 refine⟨⟨⟨p,h6⟩,fun s hs=>?_⟩,trivial,L.few⟩
 obtain⟨a,b,c,d,e⟩:=L.each s hs
 unfold ZV qX
 have:XJ s.ws=true:=(Vw _).mpr d
 simp only[Bool.and_eq_true,decide_eq_true_eq,AP,this]
 exact⟨nb _ (L.sub.subset (List.mem_map_of_mem hs)),a,⟨⟨b,c⟩,e⟩,trivial⟩
theorem LotsOk.slw {used:List Str} {lots:List Slot} (L:LotsOk hs used lots) (nd:used.Nodup) (h1:lots≠[]) (h6:lots.length≤100):SlW lots:=
 ⟨h1,h6,fun s hs=>⟨(L.each s hs).2.1,by have:=(L.each s hs).2.2.1; omega,(L.each s hs).2.2.2.1⟩,L.sub.nodup nd⟩
end
section
variable {sl:List Slot} {p:Pat} {st:Stn} {ls:S} {hs:List Str}
def jF (W:Wd):D:=.tup [zk W.hs,zE W.sl,yo W.be,yo W.ne,qH W.la]
structure Lore (s:S) (W:Wd):Prop where
 h1:Has s "houses" (zk W.hs)
 h2:Has s "slots" (zE W.sl)
 h3:Has s "bears" (yo W.be)
 h4:Has s "never" (yo W.ne)
 h5:Has s "lapses" (qH W.la)
theorem PB (h:yG sl p=true) (hl:st.length=sl.length):sk sl st p:=fun a ha=>by
 unfold yG at h
 rw[Bool.and_eq_true,AP]at h
 have:=h.1 a ha
 unfold qr at this
 rw[BE]at this
 obtain⟨s,hs,e⟩:=this
 rw[Bool.and_eq_true,decide_eq_true_eq,decide_eq_true_eq]at e
 obtain⟨i,hi⟩:=dW (n:=a.1) 0 ⟨s,hs,e.1.symm⟩
 rw[hi]
 have:=sZ hi
 show i<st.length
 omega
theorem ib (nd:(sl.map Slot.nm).Nodup) (hw:∀s∈sl,s.ws.Nodup) (h:Off sl p):agT sl p (ZM sl)=false:=by
 obtain⟨s,hs,w,hw',hm⟩:=h
 obtain⟨i,hi,e⟩:=List.getElem_of_mem hs
 have e':sl[i]?=some s:=AQ.mpr ⟨hi,e⟩
 unfold agT
 rw[←Bj,AP]
 intro all
 have:=all _ hm
 rw[sY nd e']at this
 have f:(ZM sl)[0+i]?=some (s.ws.headD Str.empty):=by
  rw[Nat.zero_add]
  unfold ZM
  rw[List.getElem?_map,e']; rfl
 simp only[Option.elim,f,decide_eq_true_eq,Option.some.injEq]at this
 have nw:=hw s hs
 cases ew:s.ws with
 |nil=>rw[ew]at hw'; cases hw'
 |cons u us=>
  rw[ew]at hw' nw this
  simp only[List.drop_succ_cons,List.drop_zero]at hw'
  exact(Bl.mp nw).1 (by simp only[List.headD_cons]at this; rw[this]; exact hw')
theorem MV {α:Type} {b:Nat} (f:α→D) (l:List α) (h:∀a∈l,okD b (f a)=true):okL b (l.map f)=true:=by
 induction l with
 |nil=>rfl
 |cons a l ih=>
  rw[List.map_cons,okL,h a AN,ih fun x hx=>h x (List.mem_cons_of_mem _ hx)]; rfl
theorem Nl {α:Type} {c:Nat} (f:α→D) (l:List α) (h:∀a∈l,szD (f a)≤c):szL (l.map f)≤l.length * (c+2)+1:=by
 induction l with
 |nil=>simp[szL]
 |cons a l ih=>
  rw[List.map_cons,szL,List.length_cons,Nat.add_mul,Nat.one_mul]
  have:=h a AN
  have:=ih fun x hx=>h x (List.mem_cons_of_mem _ hx)
  omega
theorem Mg {α:Type} {c:Nat} (f:α→D) (l:List α) (h:∀a∈l,dpD (f a)≤c):dpL (l.map f)≤c:=by
 induction l with
 |nil=>simp[dpL]
 |cons a l ih=>
  rw[List.map_cons,dpL]
  have:=h a AN
  have:=ih fun x hx=>h x (List.mem_cons_of_mem _ hx)
  omega
theorem Qz {α:Type} {s c d:Nat} (f:α→D) (l:List α) (h:∀a∈l,Fine 0 c d (f a)) (hs:l.length * (c+2)+1≤s):Fine 0 s (d+1) (.tup (l.map f)):=by
 refine⟨?_,?_,?_⟩
 ·rw[okD]; exact MV f l fun a ha=>(h a ha).ok
 ·rw[szD]; exact AU (Nl f l fun a ha=>(h a ha).sz) hs
 ·rw[dpD]; have:=Mg f l fun a ha=>(h a ha).dp; omega
theorem Qy {z:Str} (h:yk z=true):Fine 0 100 0 (.str z):=⟨by rw[okD]; exact KM h,by rw[szD]; exact Nat.le_refl _,by rw[dpD]; exact Nat.le_refl _⟩
theorem mN {a b:D} {c d:Nat} (h1:Fine 0 c d a) (h2:Fine 0 c d b):Fine 0 (2 * c+5) (d+1) (.tup [a,b]):=by
 refine⟨?_,?_,?_⟩
 ·rw[okD,okL,okL,okL,h1.ok,h2.ok]; rfl
 ·have:=h1.sz; have:=h2.sz; simp only[szD,szL]; omega
 ·have:=h1.dp; have:=h2.dp; simp only[dpD,dpL]; omega
theorem wI {a b c:D} {s d:Nat} (h1:Fine 0 s d a) (h2:Fine 0 s d b) (h3:Fine 0 s d c):Fine 0 (3 * s+7) (d+1) (.tup [a,b,c]):=by
 refine⟨?_,?_,?_⟩
 ·rw[okD,okL,okL,okL,okL,h1.ok,h2.ok,h3.ok]; rfl
 ·have:=h1.sz; have:=h2.sz; have:=h3.sz; simp only[szD,szL]; omega
 ·have:=h1.dp; have:=h2.dp; have:=h3.dp; simp only[dpD,dpL]; omega
theorem Uo {ws:List Str} {n:Nat} (h:∀z∈ws,yk z=true) (hn:ws.length≤n):Fine 0 (n * 102+1) 1 (zk ws):=
 Qz D.str ws (fun a ha=>Qy (h a ha)) (by have:=Nat.mul_le_mul_right 102 hn; omega)
end
theorem oR {a b c:Str} (h1:ltS a b=true) (h2:ltS b c=true):ltS a c=true:=by
 unfold ltS at h1 h2⊢
 rw[decide_eq_true_eq]at h1 h2⊢
 exact List.lt_trans h1 h2
theorem l7:∀{ws:List Str},Xc ws=true→ws.Pairwise (fun a b=>ltS a b=true)
 |[],_=>List.Pairwise.nil
 |[a],_=>by simp
 |a::b::r,h=>by
  have h':(ltS a b&&Xc (b::r))=true:=by
   unfold Xc at h⊢
   simpa[Bool.and_eq_true]using h
  rw[Bool.and_eq_true]at h'
  have ih:=l7 h'.2
  refine Bz.mpr ⟨fun x hx=>?_,ih⟩
  rcases List.mem_cons.mp hx with rfl|hx
  ·exact h'.1
  ·exact oR h'.1 ((Bz.mp ih).1 x hx)
theorem eR {ws:List Str} (h:Xc ws=true):ws.Nodup:=
 (l7 h).imp fun {a b} h e=>by subst e; rw[Ux]at h; cases h
theorem nodup_le' {α:Type} [DecidableEq α]:∀(f u:List α),f.Nodup→(∀x∈f,x∈u)→f.length≤u.length
 |[],_,_,_=>Bg _
 |x::f,u,hn,h=>by
  obtain⟨hx,hf⟩:=Bl.mp hn
  have hu:=h x AN
  have:=nodup_le' f (u.erase x) hf fun y hy=>(List.mem_erase_of_ne (fun z=>hx (by rw[←z]; exact hy))).mpr (h y (List.mem_cons_of_mem _ hy))
  rw[List.length_erase_of_mem hu]at this
  have:=List.length_pos_of_mem hu
  rw[List.length_cons]; omega
section
variable {sl:List Slot} {p:Pat} {hs:List Str}
theorem rL (h:yG sl p=true):∀a∈p,∃s∈sl,a.1=s.nm∧a.2∈s.ws:=fun a ha=>by
 unfold yG at h
 rw[Bool.and_eq_true,AP]at h
 have:=h.1 a ha
 unfold qr at this
 rw[BE]at this
 obtain⟨s,hs,e⟩:=this
 rw[Bool.and_eq_true,decide_eq_true_eq,decide_eq_true_eq]at e
 exact⟨s,hs,e.1,e.2⟩
theorem M3 (h:yG sl p=true):p.length≤sl.length:=by
 have e:=nodup_le' (p.map (·.1)) (sl.map Slot.nm) (eR (by unfold yG at h; rw[Bool.and_eq_true]at h; exact h.2)) (fun x hx=>by
  obtain⟨a,ha,rfl⟩:=AM.mp hx
  obtain⟨s,hs,e,_⟩:=rL h a ha
  rw[e]
  exact List.mem_map_of_mem hs)
 simpa using e
structure SlK (hs:List Str) (sl:List Slot):Prop where
 len:1≤sl.length∧sl.length≤6
 nd:(sl.map Slot.nm).Nodup
 nm:∀s∈sl,yk s.nm=true
 ho:∀s∈sl,s.ho∈hs
 wl:∀s∈sl,2≤s.ws.length∧s.ws.length≤4
 wn:∀s∈sl,∀w∈s.ws,yk w=true
 wd:∀s∈sl,s.ws.Nodup
 many:yv sl≤32
theorem Nh (h:Yn hs sl=true):SlK hs sl:=by
 obtain⟨h1,h2,h3,h4,h5⟩:=bA h
 have each:∀s∈sl,yk s.nm=true∧s.ho∈hs∧(2≤s.ws.length∧s.ws.length≤4)∧(∀w∈s.ws,yk w=true)∧s.ws.Nodup:=fun s hs'=>by
  have e:=h3 s hs'
  unfold ZV qX at e
  simp only[Bool.and_eq_true,decide_eq_true_eq,AP]at e
  exact⟨e.1,e.2.1,e.2.2.1.1,e.2.2.1.2,(Vw _).mp e.2.2.2⟩
 exact⟨⟨h1,h2⟩,h4,fun s h=>(each s h).1,fun s h=>(each s h).2.1,fun s h=>(each s h).2.2.1,fun s h=>(each s h).2.2.2.1,fun s h=>(each s h).2.2.2.2,h5⟩
theorem SlK.ok (k:SlK hs sl):SlOk sl:=⟨fun e=>by have:=k.len.1; rw[e]at this; simp at this,k.len.2,fun s h=>⟨fun e=>by have:=(k.wl s h).1; rw[e]at this; simp at this,(k.wl s h).2⟩⟩
theorem SlK.names (k:SlK hs sl) (h:yG sl p=true):∀a∈p,yk a.1=true∧yk a.2=true:=fun a ha=>by
 obtain⟨s,h1,h2,h3⟩:=rL h a ha
 exact⟨h2▸k.nm s h1,k.wn s h1 _ h3⟩
theorem wH (h:p.length≤6) (hn:∀a∈p,yk a.1=true∧yk a.2=true):Fine 0 1243 2 (z6 p):=
 Qz (c:=205) yi p (fun a ha=>mN (Qy (hn a ha).1) (Qy (hn a ha).2)) (by omega)
theorem pP (k:SlK hs sl) (hh:∀h∈hs,yk h=true):Fine 0 7417 3 (zE sl):=by
 refine Qz (c:=1234) Slot.d sl (fun s h=>?_) (by have:=k.len.2; omega)
 exact wI ((Qy (k.nm s h)).mono (Nat.le_refl _) (by omega) (by omega)) ((Qy (hh _ (k.ho s h))).mono (Nat.le_refl _) (by omega) (by omega)) (Uo (n:=4) (k.wn s h) (k.wl s h).2)
theorem dO {ps:List Pat} (h:∀p∈ps,p.length≤6∧∀a∈p,yk a.1=true∧yk a.2=true) (hl:ps.length≤10):Fine 0 12451 3 (yo ps):=
 Qz (c:=1243) z6 ps (fun p hp=>wH (h p hp).1 (h p hp).2) (by omega)
end
structure Good (W:Wd):Prop where
 ok:XO W=true
 few:W.be.length≤10∧W.ne.length≤10
 be:∀p∈W.be,Off W.sl p
 ne:∀p∈W.ne,Off W.sl p
section
variable {W:Wd}
structure GoodK (W:Wd):Prop where
 hs:1≤W.hs.length∧W.hs.length≤4∧(∀z∈W.hs,yk z=true)∧Xc W.hs=true
 sl:SlK W.hs W.sl
 be:∀p∈W.be,yG W.sl p=true∧p≠[]
 ne:∀p∈W.ne,yG W.sl p=true∧p≠[]
 la:W.la.length≤4∧∀l∈W.la,ZQ W.hs W.sl l=true
theorem Good.k (g:Good W):GoodK W:=by
 have h:=g.ok
 unfold XO ZO qX Uv YF at h
 simp only[Bool.and_eq_true,decide_eq_true_eq,AP,U5]at h
 obtain⟨⟨⟨⟨⟨⟨a,b⟩,c⟩,d⟩,s⟩,l1,l2⟩,⟨b1,b2⟩,⟨n1,n2⟩,_⟩:=h
 exact⟨⟨a,b,c,d⟩,Nh s,b1,n1,l1,l2⟩
theorem vq {h:Str} {p:Pat} {sl:List Slot} (e:yG (atH sl h) p=true):yG sl p=true:=by
 unfold yG at e⊢
 rw[Bool.and_eq_true,AP]at e⊢
 refine⟨fun a ha=>?_,e.2⟩
 have:=e.1 a ha
 unfold qr at this⊢
 rw[BE]at this⊢
 obtain⟨s,hs,z⟩:=this
 exact⟨s,(List.mem_filter.mp hs).1,z⟩
theorem Good.pat {p:Pat} (g:Good W) (h:yG W.sl p=true):p.length≤6∧∀a∈p,yk a.1=true∧yk a.2=true:=
 ⟨AU (M3 h) g.k.sl.len.2,g.k.sl.names h⟩
theorem Good.fh (g:Good W):Fine 0 409 1 (zk W.hs):=Uo (n:=4) g.k.hs.2.2.1 g.k.hs.2.1
theorem Good.fs (g:Good W):Fine 0 7417 3 (zE W.sl):=pP g.k.sl g.k.hs.2.2.1
theorem Good.fb (g:Good W):Fine 0 12451 3 (yo W.be):=dO (fun p h=>g.pat (g.k.be p h).1) g.few.1
theorem Good.fn (g:Good W):Fine 0 12451 3 (yo W.ne):=dO (fun p h=>g.pat (g.k.ne p h).1) g.few.2
theorem Good.fl (g:Good W):Fine 0 14953 4 (qH W.la):=by
 refine Qz (c:=3736) Lps.d W.la (fun l h=>?_) (by have:=g.k.la.1; omega)
 have e:=g.k.la.2 l h
 unfold ZQ at e
 simp only[Bool.and_eq_true,decide_eq_true_eq]at e
 have p1:=g.pat (vq e.2.1)
 have p2:=g.pat (vq e.2.2.1)
 exact wI ((Qy (g.k.hs.2.2.1 _ e.1)).mono (Nat.le_refl _) (by omega) (by omega)) (wH p1.1 p1.2) (wH p2.1 p2.2)
theorem Good.five (g:Good W):Fine 0 60000 5 (jF W):=by
 have a:=g.fh; have b:=g.fs; have c:=g.fb; have d:=g.fn; have e:=g.fl
 refine⟨?_,?_,?_⟩
 ·unfold jF
  rw[okD,okL,okL,okL,okL,okL,okL,a.ok,b.ok,c.ok,d.ok,e.ok]; rfl
 ·have:=a.sz; have:=b.sz; have:=c.sz; have:=d.sz; have:=e.sz
  unfold jF
  simp only[szD,szL]
  omega
 ·have:=a.dp; have:=b.dp; have:=c.dp; have:=d.dp; have:=e.dp
  unfold jF
  rw[dpD]
  simp only[dpL]
  omega
theorem wG {s d:Nat} {x:D} (h:Fine 0 s d x) (hs:s≤450000):OkP 3 x:=⟨U7 (by omega) x h.ok,AU h.sz hs⟩
theorem Good.parts (g:Good W):xg [.d (zk W.hs),.d (zE W.sl),.d (yo W.be),.d (yo W.ne),.d (qH W.la)]=.ok (.d (.bl true)) [.d (zk W.hs),.d (zE W.sl),.d (yo W.be),.d (yo W.ne),.d (qH W.la)]:=by
 have e:=vp (b:=3) (by omega) (wG g.fh (by omega)) (wG g.fs (by omega)) (wG g.fb (by omega)) (wG g.fn (by omega)) (wG g.fl (by omega))
 have q:cB (zk W.hs) (zE W.sl) (yo W.be) (yo W.ne) (qH W.la)=true:=by
  unfold cB
  rw[(Yd _ _).mpr rfl,(bz _ _).mpr rfl,(gF _ _).mpr rfl,(gF _ _).mpr rfl,(Ks _ _).mpr rfl]
  exact g.ok
 rw[q]at e
 exact e
theorem Good.at_first (g:Good W):((W.be++W.ne).any fun p=>agT W.sl p (ZM W.sl))=false:=by
 rw[←Bj,BE]
 rintro⟨p,hp,e⟩
 have off:Off W.sl p:=by
  rcases AW.mp hp with h|h
  ·exact g.be p h
  ·exact g.ne p h
 rw[ib g.k.sl.nd g.k.sl.wd off]at e
 cases e
end
def UV (W:Wd):List (Key×D):=[(.inr "houses",zk W.hs),(.inr "slots",zE W.sl),(.inr "bears",yo W.be),(.inr "never",yo W.ne),(.inr "lapses",qH W.la)]
theorem rW (i:Int) (n:Nat):(qa i n).length=n:=by simp[qa]
theorem PX {np nl j:Nat} {f:AJ} {ρ ρ1:List S} {o:O} (hρ:ρ.length=np) (h:f (ρ++List.replicate nl .no)=.ok (.rt (.sl j)) ρ1) (hj:¬j<np) (ho:ρ1[j]?=some (.own o)):zJ np nl f ρ=.ok (.fr o) (ρ1.take np):=by
 unfold zJ; rw[if_pos hρ,h]
 simp only[yf,if_neg hj,ho]
theorem Nc {f:AK} {ρ ρ1:List S} {j:Int} (h:f ρ=.ok (.d (.int j)) ρ1) (h0:-(2 ^ 62)≤j∧j<2 ^ 62):qG (za f ze) ρ=.ok (qa 0 j.toNat) ρ1:=by
 unfold qG
 simp only[za,h,Res.bind_ok,ze]
 rw[if_pos h0]
theorem Lm {f:AK} {ρ ρ1:List S} {n:Nat} (h:f ρ=.ok (.d (.int (n:Int))) ρ1) (hn:n≤100):qG (za f ze) ρ=.ok (qa 0 n) ρ1:=by
 obtain⟨j,hj⟩:∃j:Int,j=(n:Int):=⟨_,rfl⟩
 rw[←hj]at h
 have:=Nc h (by omega)
 rw[this]
 congr 2
 omega
mutual
def txD:D→Bool
 | .str z=>yk z
 | .tup xs=>txL xs
 |_=>false
def txL:List D→Bool
 |[]=>true
 |x::xs=>txD x&&txL xs
end
mutual
theorem LJ:∀x:D,txD x=true→∃p,x.py=some p∧p.canLay0=true∧p.depth≤dpD x
 | .str z,h=>⟨.str z,by rw[D.py],KL (by rw[txD]at h; exact h),by simp only[PyData.depth]; omega⟩
 | .tup xs,h=>by
   rw[txD]at h
   obtain⟨ps,e,h1,h2⟩:=tx_pyL xs h
   exact⟨.tuple ps,by rw[D.py,e]; rfl,by simp only[PyData.canLay0]; exact h1,by simp only[PyData.depth]; rw[dpD]; omega⟩
 | .non,h=>by simp[txD]at h
 | .bl _,h=>by simp[txD]at h
 | .int _,h=>by simp[txD]at h
 | .lst _,h=>by simp[txD]at h
 | .dct _,h=>by simp[txD]at h
 | .fn _,h=>by simp[txD]at h
 | .ty _,h=>by simp[txD]at h
 | .scr _,h=>by simp[txD]at h
 | .cd _,h=>by simp[txD]at h
 | .dd _,h=>by simp[txD]at h
 | .db _,h=>by simp[txD]at h
 | .ins _ _,h=>by simp[txD]at h
 | .raw _,h=>by simp[txD]at h
 | .exc _ _,h=>by simp[txD]at h
 | .wt _,h=>by simp[txD]at h
theorem tx_pyL:∀xs:List D,txL xs=true→∃ps,D.pyL xs=some ps∧PyData.canLayAll0 ps=true∧PyData.depthAll ps≤dpL xs
 |[],_=>⟨[],by rw[D.pyL],by simp only[PyData.canLayAll0],by simp only[PyData.depthAll]; omega⟩
 |x::xs,h=>by
  rw[txL,Bool.and_eq_true]at h
  obtain⟨p,e1,h1,h2⟩:=LJ x h.1
  obtain⟨ps,e2,h3,h4⟩:=tx_pyL xs h.2
  exact⟨p::ps,by rw[D.pyL,e1,e2],by simp only[PyData.canLayAll0,h1,h3]; rfl,by simp only[PyData.depthAll]; rw[dpL]; omega⟩
end
theorem NA {xs ys:List D} (hx:txD (.tup xs)=true) (hy:txD (.tup ys)=true) (dx:dpD (.tup xs)≤60) (dy:dpD (.tup ys)≤60) :
  ∃b,gEq (.tup xs) (.tup ys)=some (eBl b)∧gEq (.tup ys) (.tup xs)=some (eBl b)∧(xs=ys→b=true):=by
 obtain⟨p,e1,c1,d1⟩:=LJ _ hx
 obtain⟨q,e2,c2,d2⟩:=LJ _ hy
 have s1:SeqAt.shaped p=true:=by unfold SeqAt.shaped; rw[c1,decide_eq_true (by omega)]; rfl
 have s2:SeqAt.shaped q=true:=by unfold SeqAt.shaped; rw[c2,decide_eq_true (by omega)]; rfl
 refine⟨PyData.eqv p q,?_,?_,fun h=>?_⟩
 ·simp only[gEq,D.eq?,e1,e2]
  rw[if_pos ⟨s1,s2⟩]; rfl
 ·simp only[gEq,D.eq?,e1,e2]
  rw[if_pos ⟨s2,s1⟩,PySem.W.eqv_comm]; rfl
 ·subst h
  rw[e1]at e2
  cases e2
  exact PySem.SeqAt.eqv_refl _ c1
theorem Jh {α:Type} (f:α→D) (l:List α) (h:∀a∈l,txD (f a)=true):txL (l.map f)=true:=by
 induction l with
 |nil=>rfl
 |cons a l ih=>rw[List.map_cons,txL,h a AN,ih fun x hx=>h x (List.mem_cons_of_mem _ hx)]; rfl
section
variable {W W':Wd}
theorem kA {ws:List Str} (h:∀z∈ws,yk z=true):txD (zk ws)=true:=by
 unfold zk; rw[txD]; exact Jh D.str ws fun a ha=>by rw[txD]; exact h a ha
theorem cP {p:Pat} (hn:∀a∈p,yk a.1=true∧yk a.2=true):txD (z6 p)=true:=by
 unfold z6; rw[txD]
 refine Jh yi p fun a ha=>?_
 unfold yi
 simp[txD,txL,hn a ha]
theorem Good.tx (g:Good W):txD (jF W)=true:=by
 have k:=g.k
 have h1:=kA k.hs.2.2.1
 have h2:txD (zE W.sl)=true:=by
  unfold zE; rw[txD]
  refine Jh Slot.d W.sl fun s hs=>?_
  have a:=k.sl.nm s hs
  have b:=k.hs.2.2.1 _ (k.sl.ho s hs)
  have c:=kA (k.sl.wn s hs)
  unfold Slot.d
  simp[txD,txL,a,b,c]
 have h3:txD (yo W.be)=true:=by
  unfold yo; rw[txD]; exact Jh z6 W.be fun p hp=>cP (g.pat (k.be p hp).1).2
 have h4:txD (yo W.ne)=true:=by
  unfold yo; rw[txD]; exact Jh z6 W.ne fun p hp=>cP (g.pat (k.ne p hp).1).2
 have h5:txD (qH W.la)=true:=by
  unfold qH; rw[txD]
  refine Jh Lps.d W.la fun l hl=>?_
  have e:=k.la.2 l hl
  unfold ZQ at e
  simp only[Bool.and_eq_true,decide_eq_true_eq]at e
  have a:=k.hs.2.2.1 _ e.1
  have b:=cP (g.pat (vq e.2.1)).2
  have c:=cP (g.pat (vq e.2.2.1)).2
  unfold Lps.d
  simp[txD,txL,a,b,c]
 unfold jF
 simp[txD,txL,h1,h2,h3,h4,h5]
theorem Good.eq (g:Good W) (g':Good W'):∃b,gEq (jF W) (jF W')=some (eBl b)∧gEq (jF W') (jF W)=some (eBl b)∧(W=W'→b=true):=by
 obtain⟨b,h1,h2,h3⟩:=NA g.tx g'.tx (AU g.five.dp (by decide)) (AU g'.five.dp (by decide))
 exact⟨b,h1,h2,fun e=>h3 (by rw[e])⟩
def StOf:List Slot→Stn→Prop
 |[],[]=>True
 |s::l,w::st=>w∈s.ws∧StOf l st
 |_,_=>False
theorem aN:∀(l:List Slot) (f:List Stn) (st:Stn),st∈kf l f→∃t∈f,∃u,st=t++u∧StOf l u
 |[],f,st,h=>⟨st,h,[],by simp,trivial⟩
 |s::l,f,st,h=>by
  obtain⟨t,ht,u,rfl,hu⟩:=aN l _ st h
  obtain⟨t0,h0,h2⟩:=List.mem_flatMap.mp ht
  obtain⟨w,hw,rfl⟩:=AM.mp h2
  exact⟨t0,h0,w::u,by simp,hw,hu⟩
theorem OL {l:List Slot} {st:Stn} (h:st∈bL l):StOf l st:=by
 obtain⟨t,ht,u,rfl,hu⟩:=aN l _ st h
 rw[A8.mp ht]; exact hu
theorem StOf.len:∀{l:List Slot} {st:Stn},StOf l st→st.length=l.length
 |[],[],_=>rfl
 |s::l,w::st,h=>by rw[List.length_cons,List.length_cons,StOf.len h.2]
theorem StOf.mem:∀{l:List Slot} {st:Stn},StOf l st→∀w∈st,∃s∈l,w∈s.ws
 |[],[],_,_,h=>by cases h
 |s::l,w::st,h,a,ha=>by
  rcases List.mem_cons.mp ha with rfl|ha
  ·exact⟨s,AN,h.1⟩
  ·obtain⟨t,ht,hw⟩:=StOf.mem h.2 a ha
   exact⟨t,List.mem_cons_of_mem _ ht,hw⟩
theorem kW:∀(l:List Nat) (a:Nat),l.foldl (·* ·) a=a * l.foldl (·* ·) 1
 |[],a=>by simp
 |x::l,a=>by
  rw[List.foldl_cons,List.foldl_cons,kW l (a * x),kW l (1 * x),Nat.one_mul,Nat.mul_assoc]
theorem gH:∀(l:List Slot) (f:List Stn),(kf l f).length=f.length * yv l
 |[],f=>by simp[kf,yv]
 |s::l,f=>by
  have fl:(f.flatMap fun st=>s.ws.map fun w=>st++[w]).length=f.length * s.ws.length:=by
   induction f with
   |nil=>simp
   |cons a f ih=>rw[List.flatMap_cons,AS,List.length_map,ih,List.length_cons,Nat.add_mul,Nat.one_mul]; omega
  rw[kf,gH l,fl]
  unfold yv
  rw[List.map_cons,List.foldl_cons,kW _ (1 * s.ws.length),Nat.one_mul,Nat.mul_assoc]
theorem eP (l:List Slot):(bL l).length=yv l:=by
 unfold bL; rw[gH]; simp
theorem Good.stands (g:Good W):∃L:List Stn,qb W.sl=.tup (L.map zk)∧L.length≤32∧∀st∈L,StOf W.sl st:=by
 obtain⟨L,pm,e,_⟩:=Xz zk (bL W.sl)
 refine⟨L,by unfold qb; rw[e],by rw[pm.length_eq,eP]; exact g.k.sl.many,fun st h=>OL (pm.mem_iff.mp h)⟩
theorem Good.st_names (g:Good W) {st:Stn} (h:StOf W.sl st):∀z∈st,yk z=true:=fun z hz=>by
 obtain⟨s,hs,hw⟩:=h.mem z hz
 exact g.k.sl.wn s hs z hw
theorem Good.fst (g:Good W) {st:Stn} (h:StOf W.sl st):Fine 0 613 1 (zk st):=Uo (n:=6) (g.st_names h) (by rw[h.len]; exact g.k.sl.len.2)
theorem wJ:∀{sl:List Slot},(∀s∈sl,s.ws≠[])→StOf sl (ZM sl)
 |[],_=>trivial
 |s::l,h=>by
  refine⟨?_,wJ fun t ht=>h t (List.mem_cons_of_mem _ ht)⟩
  have:=h s AN
  cases e:s.ws with
  |nil=>exact absurd e this
  |cons w ws=>
   show s.ws.headD Str.empty∈w::ws
   rw[e]; simp
theorem Good.two (g:Good W):Fine 0 40000 3 (.tup [zk (ZM W.sl),qb W.sl]):=by
 obtain⟨L,e,hl,hs⟩:=g.stands
 have a:=g.fst (wJ fun s h=>(g.k.sl.ok.ws s h).1)
 have b:Fine 0 19681 2 (qb W.sl):=by
  rw[e]; exact Qz (c:=613) zk L (fun st h=>g.fst (hs st h)) (by omega)
 exact(mN (c:=19681) (d:=2) (a.mono (Nat.le_refl _) (by omega) (by omega)) b).mono (Nat.le_refl _) (by omega) (by omega)
end
def ym (W:Wd):D:=.ins "World" [("own_places",xf W.sl),("own_parts",jF W),("own_stands",qb W.sl)]
section
variable {W W':Wd} {ls:S}
theorem prop_ok {c:Str} {F:AK} {ds:List (Str×D)} {y:D} {k:Nat} {ρ:List S} (h:ρ[k]?=some (.d (.ins c ds))) (hF:F [.d (.ins c ds)]=.ok (.d y) [.d (.ins c ds)]):xl c F (zb k) ρ=.ok (.d y) ρ:=by
 simp[xl,zb,h,E.val,zx,zO,zM,hF,wb]
theorem lb:yB [.d (ym W)]=.ok (.d (zE W.sl)) [.d (ym W)]:=rfl
theorem tc:yQ [.d (ym W)]=.ok (.d (yo W.be)) [.d (ym W)]:=rfl
theorem KN:yR [.d (ym W)]=.ok (.d (yo W.ne)) [.d (ym W)]:=rfl
variable {st:Stn}
theorem sG {f:Str} {y:D} {ds:List (Str×D)} {k:Nat} {ρ:List S} (h:ρ[k]?=some (.d (.ins "World" ds))) (lk:ds.lookup f=some y):Y9 "World" f (zb k) ρ=.ok (.d y) ρ:=by
 simp[Y9,zb,h,E.val,lk]
end
inductive An where
 |v (y:D)|ex (e:Exc)
section
variable {W:Wd} {w p s x y:D} {ds:List (Str×D)} {a:An} {F:AK} {m:Str} {i j k:Nat} {ρ:List S}
theorem Lr {f g:AJ} {e:Exc} {ρ1:List S} (h:f ρ=.ex e ρ1):zt f g ρ=.ex e ρ1:=by unfold zt; rw[h]
end
theorem Rq {ρ:List S} {f:AK} {h:List D→Option E} {x:D} {v:E} (ha:f ρ=.ok (.d x) ρ) (e:h [x]=some v):zh h (za f ze) ρ=.ok v ρ:=by
 simp[zh,za,ha,ze,zY,E.val,e]
theorem Nz {ρ:List S} {f k:AK} {h:List D→Option E} {x y:D} {v:E} (ha:f ρ=.ok (.d x) ρ) (hb:k ρ=.ok (.d y) ρ) (e:h [x,y]=some v):zh h (za f (za k ze)) ρ=.ok v ρ:=by
 simp[zh,za,ha,hb,ze,zY,E.val,e]
def pW (N:Int):List S→Res (List D):=qG (za (zh (VJ oz dR) (za (aK (.int 1)) (za (zh (VJ pS wU) (za (aK (.int N)) (za (zh xT (za (zb 0) ze)) ze))) ze))) ze)
def cn (mr:AK) (M:Int):AJ:=zt (zp 2 (aFn Zi (za (zb 0) (za (zb 1) ze))))
 (sIf (zz (aT (zh YW (za (aLc [3] (qG (za (aK (.int M)) ze)) (.nm 3) yX (aFn mr (za (zb 2) ze))) ze)))) (zH (aK (.bl false))) sNx)
theorem Nd {N:Int} (hN:1≤N) (hN2:N≤9) (ns:List Int) (h:ns.length≤63) (r:List S):∃k:Nat,(k:Int)≤N∧pW N (.d (.scr ns)::r)=.ok (qa 0 k) (.d (.scr ns)::r):=by
 have l:zh xT (za (zb 0) ze) (.d (.scr ns)::r)=.ok (.d (.int ns.length)) (.d (.scr ns)::r):=Rq (x:=.scr ns) rfl rfl
 have mi:zh (VJ pS wU) (za (aK (.int N)) (za (zh xT (za (zb 0) ze)) ze)) (.d (.scr ns)::r)=.ok (.d (.int (if (ns.length:Int)<N then ns.length else N))) (.d (.scr ns)::r):=Nz (x:=.int N) rfl l rfl
 obtain⟨q,hq⟩:∃q:Int,q=if (ns.length:Int)<N then(ns.length:Int)else N:=⟨_,rfl⟩
 rw[←hq]at mi
 have q4:q≤N:=by rw[hq]; split<;>omega
 have q0:0≤q:=by rw[hq]; split<;>omega
 have ma:zh (VJ oz dR) (za (aK (.int 1)) (za (zh (VJ pS wU) (za (aK (.int N)) (za (zh xT (za (zb 0) ze)) ze))) ze)) (.d (.scr ns)::r)=.ok (.d (.int (if q > 1 then q else 1))) (.d (.scr ns)::r):=Nz (x:=.int 1) rfl mi rfl
 obtain⟨v,hr⟩:∃v:Int,v=if q > 1 then q else 1:=⟨_,rfl⟩
 rw[←hr]at ma
 have r4:v≤N:=by rw[hr]; split<;>omega
 have r0:0≤v:=by rw[hr]; split<;>omega
 refine⟨v.toNat,by omega,?_⟩
 unfold pW qG
 rw[za,ma]
 simp only[Res.bind_ok,ze]
 rw[if_pos ⟨by omega,by omega⟩]
theorem b9 {mr:AK} {M:Nat} {C T B:Nat} {o:O} {X a:S} (hM:M≤100) (hr:∀T o,JarOk T o→T≤B→∃o',mr [.own o]=.ok (.d (.bl true)) [.own o']∧JarOk (T+C) o') (h:JarOk T o) (hT:T+C * (M - 1)≤B) :
  ∃o',aT (zh YW (za (aLc [3] (qG (za (aK (.int M)) ze)) (.nm 3) yX (aFn mr (za (zb 2) ze))) ze)) [X,a,.own o,.no]=.ok true [X,a,.own o',.no]:=by
 have hit:qG (za (aK (.int M)) ze) [X,a,.own o,.no]=.ok (qa 0 M) [X,a,.own o,.no]:=by
  obtain⟨m,hm⟩:∃m:Int,m=(M:Int):=⟨_,rfl⟩
  have e:m.toNat=M:=by omega
  rw[←hm,←e]
  have m0:0≤m:=by omega
  have m1:m≤100:=by omega
  clear hm e hr h hT hM
  unfold qG
  simp only[za,aK,Res.bind_ok,ze]
  rw[if_pos ⟨by omega,by omega⟩]
 obtain⟨ys,ρ',e,hl,hy,o',r⟩:=lR (it:=qG (za (aK (.int M)) ze)) (t:=.nm 3) (f:=aFn mr (za (zb 2) ze)) (vs:=[3])
  (I:=fun i ρ=>∃o',ρ=[X,a,.own o',.no]∧JarOk (T+C * i) o'∧i≤M) (R:=fun y=>y=.bl true) (xs:=qa 0 M) (ρ:=[X,a,.own o,.no]) (ρ1:=[X,a,.own o,.no]) hit rfl (by
    rintro i x ρ hx ⟨o1,rfl,ok,hi'⟩
    obtain⟨rfl,hi⟩:=UC hx
    have le:C * i≤C * (M - 1):=Nat.mul_le_mul_left _ (by omega)
    obtain⟨o2,e2,ok2⟩:=hr _ _ ok (by omega)
    have q1:aFn mr (za (zb 2) ze) [X,a,.own o1,.d (.int (0+i))]=.ok (.d (.bl true)) [X,a,.own o2,.d (.int (0+i))]:=by
     simp[aFn,za,zb,ze,zx,zO,zM,e2,wb]
    exact⟨[X,a,.own o1,.d (.int (0+i))],_,_,_,_,rfl,q1,rfl,rfl,o2,rfl,ok2.mono (by rw[Nat.mul_add]; omega),by omega⟩) ⟨o,rfl,h,Bg _⟩ (by rw[UD]; exact zu (by omega))
 obtain⟨rfl,_⟩:=r
 have hall:ys=ys.map (fun _=>D.bl true):=(List.map_id ys).symm.trans (List.map_congr_left (f:=id) (g:=fun _=>D.bl true) fun y hy'=>hy y hy')
 refine⟨o',qi ?_⟩
 have g:YW [.lst (ys.map fun _=>D.bl true)]=some (eBl true):=by
  rw[xS (fun _:D=>true) ys]; simp
 rw[←hall]at g
 simp[zh,za,e,ze,zY,E.val,O.toD,g,zA]
theorem pX {mr:AK} {N:Int} {M C B:Nat} (hN:1≤N) (hN2:N≤9) (hM:M≤100) (hC:C * (M - 1)≤B) (hr:∀T o,JarOk T o→T≤B→∃o',mr [.own o]=.ok (.d (.bl true)) [.own o']∧JarOk (T+C) o') (ns:List Int) (h:ns.length≤63) :
  ∃ρ',zJ 1 3 (zt (Xt (pW N) (.nm 1) (cn mr M)) (zH (aK (.bl true)))) [.d (.scr ns)]=.ok (.d (.bl true)) ρ':=by
 obtain⟨k,hk,hit⟩:=Nd hN hN2 ns h [.no,.no,.no]
 obtain⟨ρ',loop,b,c,rfl⟩:=Nf (t:=.nm 1) (body:=cn mr M) (I:=fun i ρ=>∃b c,ρ=[.d (.scr ns),b,c,.no]) hit (by
  rintro i x ρ hx ⟨b,c,rfl⟩
  obtain⟨rfl,hi⟩:=UC hx
  obtain⟨K,hK⟩:∃K:Int,K=0+(i:Int):=⟨_,rfl⟩
  rw[←hK]
  obtain⟨o,e1,ok1⟩:=Kj (ns:=ns) (k:=K) (by omega) (by omega) h
  obtain⟨o4,e4⟩:=b9 (X:=.d (.scr ns)) (a:=.d (.int K)) hM hr ok1 (by omega)
  have q1:aFn Zi (za (zb 0) (za (zb 1) ze)) [.d (.scr ns),.d (.int K),c,.no]=.ok (.fr o) [.d (.scr ns),.d (.int K),c,.no]:=by
   simp[aFn,za,zb,ze,zx,zO,zM,e1,wb]
  refine⟨[.d (.scr ns),.d (.int K),c,.no],[.d (.scr ns),.d (.int K),.own o4,.no],rfl,?_,_,_,rfl⟩
  unfold cn
  rw[zU (ρ1:=[.d (.scr ns),.d (.int K),.own o,.no]) (QM q1 (by simp)),UZ (c_ e4)]
  rfl) ⟨.no,.no,rfl⟩
 refine⟨_,xR (x:=.bl true) (ρ1:=[.d (.scr ns),b,c,.no]) rfl ?_⟩
 show zt _ _ [.d (.scr ns),.no,.no,.no]=_
 rw[zU loop]
 rfl
section
variable {T b s d n:Nat} {o:O} {x:D} {xs ys:List D} {sN:S} {fi:Bool} {s4 s5 s6:S} {z:Str}
theorem tU (h:Fine b s d (.tup xs)):Fine b s d (.lst xs):=
 ⟨by have:=h.ok; rw[okD]at this; rw[okD]; exact this,by have:=h.sz; rw[szD]at this; rw[szD]; exact this,by have:=h.dp; rw[dpD]at this; rw[dpD]; exact this⟩
end
section
variable {W:Wd} {b:Nat} {x y:D} {xs:List D} {ws wa:List Str} {sl:List Slot} {so wd ho:Str} {ρ ρ1:List S} {f g:AK}
theorem ixT (xs:List D) (k:Nat) (x:D) (h:xs[k]?=some x):gIx (.tup xs) (.int (k:Nat))=some (.d x):=by
 have hk:=(AQ.mp h).1
 simp only[gIx,atI,ixN]
 rw[if_pos (by omega),if_pos (by omega)]
 simp[h]
end
def Vg (s:Slot):PyData:=.tuple [.str s.nm,.str s.ho,.tuple (s.ws.map .str)]
theorem aS (s:Slot):s.d.py=some (Vg s):=by
 unfold Slot.d Vg
 have e:=cH s.ws
 simp only[D.py,D.pyL,e]
 rfl
theorem QH (s:Slot):s.d.pyd=Vg s:=by unfold D.pyd; rw[aS]; rfl
theorem lZ (a b:Slot):PySem.W.alike (Vg a) (Vg b)=true:=by
 unfold Vg
 simp only[PySem.W.alike,PySem.W.alikeAll,Bool.and_true,Bool.true_and]
 exact YO PyData.str (fun _ _=>rfl) a.ws b.ws
theorem pF (a:Slot):(Vg a).depth≤2:=by
 unfold Vg
 simp only[PyData.depth,PyData.depthAll]
 have:=XH PyData.str 0 (fun _=>Nat.le_refl _) a.ws
 omega
theorem Mf {a b:Slot} (h:ltS a.nm b.nm=true):PySem.W.dataLt (Vg a) (Vg b)=true:=by
 have ne:a.nm.cps.toList≠b.nm.cps.toList:=fun e=>by
  have:=PySem.W.str_of_cps e
  rw[this,Ux]at h; cases h
 unfold PySem.W.dataLt Vg
 simp only[PySem.W.keyToks,PySem.W.keyToksAll,List.cons_append,List.nil_append]
 rw[lex_self,lex_diff (by simpa using ne)]
 exact(mW a.nm b.nm).trans h
theorem rT (l:List Slot):xq (l.map Slot.d)=true:=by
 unfold xq
 simp only[Bool.and_eq_true,Bx,AP]
 refine⟨⟨fun x hx=>?_,fun x hx y hy=>?_⟩,.inl fun x hx=>?_⟩
 ·obtain⟨a,_,rfl⟩:=AM.mp hx
  refine⟨by rw[aS]; rfl,decide_eq_true ?_⟩
  rw[QH]
  have:=pF a
  omega
 ·obtain⟨a,_,rfl⟩:=AM.mp hx
  obtain⟨c,_,rfl⟩:=AM.mp hy
  rw[QH,QH]
  exact lZ a c
 ·obtain⟨a,_,rfl⟩:=AM.mp hx
  rw[QH]; rfl
theorem cO {sl:List Slot} (ne:sl≠[]) (nd:(sl.map Slot.nm).Nodup):∃m:List Slot,m.Perm sl∧Xc (m.map Slot.nm)=true∧qx [zE sl]=some (.fr (.lst (m.map Slot.d))):=by
 obtain⟨m,pm,e,pw⟩:=Xz Slot.d sl
 refine⟨m,pm,Qt ?_,?_⟩
 ·have ndp:(m.map Slot.nm).Nodup:=(pm.map Slot.nm).nodup_iff.mpr nd
  rw[Br]
  rw[List.Nodup,Br]at ndp
  refine(pw.and ndp).imp fun {a b} h=>?_
  rcases k9 h.2 with c|c
  ·exact c
  ·have:=Mf c
   have h1:=h.1
   unfold D.sle at h1
   rw[QH,QH,this]at h1
   cases h1
 ·cases sl with
  |nil=>exact absurd rfl ne
  |cons a G=>
   have ei:D.ints? ((a::G).map Slot.d)=none:=rfl
   unfold zE
   simp only[qx,ei]
   rw[if_pos (rT _),e]
theorem L5 {a b:List Str} (h:a.Sublist b) (hb:Xc b=true):Xc a=true:=Qt ((l7 hb).sublist h)
theorem yn {f:AK} {fs:List S→Res (List E)} {es:List E} {ρ ρ1 ρ2:List S} {x:D} (h:f ρ=.ok (.d x) ρ1) (h2:fs ρ1=.ok es ρ2):za f fs ρ=.ok (.d x::es) ρ2:=by
 rw[za,h,Res.bind_ok,h2]; rfl
theorem qj {f:AK} {h:List D→Option E} {v w:E} {x:D} {ρ ρ1:List S} (hf:f ρ=.ok v ρ1) (hv:v.val ρ1=some x) (hg:h [x]=some w):zh h (za f ze) ρ=.ok w ρ1:=by
 simp[zh,za,hf,ze,zY,hv,hg]
theorem mX (ρ:List S):∀ds:List D,keepL (ds.map E.d) ρ=some (ds,ρ)
 |[]=>rfl
 |d::ds=>by
  rw[List.map_cons,keepL]
  simp only[keep1,mX ρ ds]
theorem vF {fs:List S→Res (List E)} {ds:List D} {ρ ρ1:List S} (h:fs ρ=.ok (ds.map E.d) ρ1) (hl:ds.length≤sizeLine):zV fs ρ=.ok (.d (.tup ds)) ρ1:=by
 unfold zV
 rw[h,Res.bind_ok,mX]
 simp only[if_pos hl]
def yf (g:List Str):List Str:=if ("kept":Str)∈g∧("mark":Str)∈g then g.erase "mark" else g
theorem Nb {fs:List S→Res (List E)} {n:Nat} {ρ ρ1:List S} (h:fs ρ=.ok [.d (.int n)] ρ1) (hn:n≤100000):qG fs ρ=.ok (qa 0 n) ρ1:=by
 unfold qG
 rw[h,Res.bind_ok]
 simp only[Int.toNat_natCast]
 rw[if_pos ⟨by omega,by omega⟩]
end L2.AL.WS
namespace L2.AL.YS
open PySem PySem.Spec PyProof.Rows L2 L2.AL L2.AL.SH L2.AL.WS TL
inductive Rw where
 |stp (ask:Bool) (ho:Str) (nd mk:Pat) (fl:List Str) (th ot:Nat)
 |say (a:Str)
structure Sch where
 nm:Str
 so:Str
 wa:List Str
 rs:List Rw
inductive F2 {α β:Type} (R:α→β→Prop):List α→List β→Prop where
 |nil:F2 R [] []
 |cons {a:α} {b:β} {l:List α} {m:List β}:R a b→F2 R l m→F2 R (a::l) (b::m)
inductive Hw where
 |here|thn|oth|ltr
deriving DecidableEq
structure Who where
 nm:Str
 row:Nat
 mr:Bool
 hw:Hw
deriving DecidableEq
section
variable {s:Sch} {w:Who}
theorem ext_fr {ρ ρ1:List S} {i:Nat} {F F1 ys:List D} {f:AK} (h:ρ[i]?=some (.own (.lst F))) (hf:f ρ=.ok (.fr (.lst ys)) ρ1) (h1:ρ1[i]?=some (.own (.lst F1))) (sz:F1.length+ys.length≤sizeLine):zy (Y_ "list" i jn (za f ze)) ρ=.ok .nx (ρ1.set i (.own (.lst (F1++ys)))):=by
 simp[zy,Y_,h,O.tyn,za,hf,ze,keepL,keep1,O.toD,jn,h1,sz]
end
abbrev WP:=Who×Bool
inductive Sn where
 |non|row|both|made
deriving DecidableEq
structure Cs where
 st:Stn
 hero:Option (Who×Sn)
 ot:List Who
theorem xQ {ρ:List S}:ze ρ=.ok (([]:List D).map E.d) ρ:=rfl
theorem qF {ρ:List S} {j:Nat} {x:D} (h:ρ[j]?=some (.d x)):zb j ρ=.ok (.d x) ρ:=by unfold zb; rw[h]
theorem wM {F:AK} {fs:List S→Res (List E)} {xs:List D} {v:E} {s' ρ:List S} (hf:fs ρ=.ok (xs.map E.d) ρ) (hF:F (xs.map S.d)=.ok v s') (hv:∀j,v≠.sl j) (ha:∀a,v≠.ad a:=by(intro a h; cases h)):aFn F fs ρ=.ok v ρ:=by
 have a:zO ρ (xs.map E.d)=some (xs.map S.d):=by
  induction xs with
  |nil=>rfl
  |cons y ys ih=>clear hf hF; induction ys with
   |nil=>rfl
   |cons z zs ih2=>
    have:∀l:List D,zO ρ (l.map E.d)=some (l.map S.d):=fun l=>by
     induction l with
     |nil=>rfl
     |cons q l ih=>simp[zO,ih]
    exact this (y::z::zs)
 have sl:zM (xs.map E.d)=[]:=by
  have:∀ys:List D,zM (ys.map E.d)=[]:=fun ys=>by
   induction ys with
   |nil=>rfl
   |cons y ys ih=>simp[zM,ih]
  exact this xs
 have w:∀(ss:List S),wb (xs.map E.d) ss ρ=ρ:=fun ss=>by
  have:∀(ys:List D) (ss:List S),wb (ys.map E.d) ss ρ=ρ:=fun ys=>by
   induction ys with
   |nil=>intro ss; cases ss<;>rfl
   |cons y ys ih=>
    intro ss
    cases ss with
    |nil=>rfl
    |cons s ss=>exact ih ss
  exact this xs ss
 unfold aFn
 rw[hf,Res.bind_ok]
 unfold zx
 rw[a]
 simp only
 rw[sl,if_pos BI,hF]
 cases v with
 |sl j=>exact absurd rfl (hv j)
 |ad a=>exact absurd rfl (ha a)
 |d x=>simp only[w]
 |fr o=>simp only[w]
theorem aO {c:Str} {F:AK} {ds:List (Str×D)} {y:D} {fo:AK} {ρ:List S} {s':List S} (h:fo ρ=.ok (.d (.ins c ds)) ρ) (hF:F [.d (.ins c ds)]=.ok (.d y) s'):xl c F fo ρ=.ok (.d y) ρ:=by
 cases s' with
 |nil=>simp[xl,h,E.val,zx,zO,zM,hF,wb]
 |cons a l=>simp[xl,h,E.val,zx,zO,zM,hF,wb]
structure Mv where
 wd:Str
 bh:Stn
 sl:List Str
 wh:Option Who
 an:Option Str
 lt:Option Who
section
variable {R:D} {W:Wd} {ss:List Sch} {L:List Stn}
theorem Rk {fa fb:List S→Res Bool} {a b:Bool} {ρ:List S} (ha:fa ρ=.ok a ρ) (hb:fb ρ=.ok b ρ):zF fa fb ρ=.ok (a&&b) ρ:=by
 unfold zF
 rw[ha,Res.bind_ok]
 cases a
 ·rfl
 ·simpa using hb
theorem RS {fa fb:List S→Res Bool} {a b:Bool} {ρ:List S} (ha:fa ρ=.ok a ρ) (hb:fb ρ=.ok b ρ):zW fa fb ρ=.ok (a||b) ρ:=by
 unfold zW
 rw[ha,Res.bind_ok]
 cases a
 ·simpa using hb
 ·rfl
end
end L2.AL.YS
namespace L2.AL.YS
open PySem PySem.Spec PyProof.Rows L2 L2.AL L2.AL.SH L2.AL.WS
noncomputable section
end
end L2.AL.YS
namespace L2.AL
open PySem PySem.Spec PyProof.Rows L2
def Res.All {α:Type} (P:α→List S→Prop):Res α→Prop
 | .ok a ρ=>P a ρ
 | .ex _ _=>False
 | .no=>False
 | .new τ k=>∀a,τ a=none→(k a).All P
theorem Res.All.bind {α β:Type} {P:α→List S→Prop} {Q:β→List S→Prop} {r:Res α} {f:α→List S→Res β} (h:r.All P) (w:∀a ρ,P a ρ→(f a ρ).All Q):(r.bind f).All Q:=by
 induction r with
 |ok a ρ=>exact w a ρ h
 |ex e ρ=>exact h.elim
 |no=>exact h.elim
 |new τ k ih=>exact fun a e=>ih a (h a e)
theorem Res.All.mono {α:Type} {P Q:α→List S→Prop} {r:Res α} (h:r.All P) (w:∀a ρ,P a ρ→Q a ρ):r.All Q:=by
 induction r with
 |ok a ρ=>exact w a ρ h
 |ex e ρ=>exact h.elim
 |no=>exact h.elim
 |new τ k ih=>exact fun a e=>ih a (h a e)
theorem Res.All.of {α:Type} {P:α→List S→Prop} {r:Res α} {a:α} {ρ:List S} (e:r=.ok a ρ) (h:P a ρ):r.All P:=by rw[e]; exact h
def Nx (P:List S→Prop) (fl:Fl) (ρ:List S):Prop:=fl=.nx∧P ρ
theorem iZ {g:AJ} {P:List S→Prop} {Q:Fl→List S→Prop} {r:Res Fl} (h:r.All (Nx P)) (w:∀ρ,P ρ→(g ρ).All Q):(Lq g r).All Q:=by
 induction r with
 |ok fl ρ=>obtain⟨rfl,hp⟩:=h; exact w ρ hp
 |ex e ρ=>exact h.elim
 |no=>exact h.elim
 |new τ k ih=>exact fun a e=>ih a (h a e)
theorem sA {f g:AJ} {P:List S→Prop} {Q:Fl→List S→Prop} {ρ:List S} (h:(f ρ).All (Nx P)) (w:∀ρ1,P ρ1→(g ρ1).All Q):(zt f g ρ).All Q:=by
 rw[cJ]; exact iZ h w
theorem iX {K:AJ} {P:List S→Prop} {Q:Fl→List S→Prop} {r:Res Fl} (h:r.All (Nx P)) (w:∀ρ,P ρ→(K ρ).All Q):(Mm K r).All Q:=by
 induction r with
 |ok fl ρ=>obtain⟨rfl,hp⟩:=h; exact w ρ hp
 |ex e ρ=>exact h.elim
 |no=>exact h.elim
 |new τ k ih=>exact fun a e=>ih a (h a e)
theorem OJ {c:List S→Res Bool} {f g:AJ} {Q:Fl→List S→Prop} {ρ ρ1:List S} {b:Bool} (h:c ρ=.ok b ρ1) (ht:b=true→(f ρ1).All Q) (hf:b=false→(g ρ1).All Q):(sIf c f g ρ).All Q:=by
 unfold sIf
 rw[h,Res.bind_ok]
 cases b with
 |true=>rw[if_pos rfl]; exact ht rfl
 |false=>rw[if_neg Bn]; exact hf rfl
theorem md {f:AK} {ρ ρ1:List S} {o:O} {τ:Mem} {Q:E→List S→Prop} (h:f ρ=.ok (.fr o) ρ1) (hm:qm ρ1=some τ) (w:∀a,τ a=none→Q (.ad a) (x_ ρ1 (ZX τ a o))):(Z0 f ρ).All Q:=by
 unfold Z0 tw mw
 rw[h,Res.bind_ok]
 simp only[hm]
 exact w
end L2.AL
namespace L2.AL.YS
open PySem PySem.Spec PyProof.Rows L2 L2.AL L2.AL.SH L2.AL.WS TL
abbrev rfD (a:Addr):D:=.raw (.ref a)
section
variable {f g fa fb fo fk fv:AK} {ρ ρ1:List S} {a b:Addr} {τ:Mem} {x y v k:D} {o o':O} {c m:Str} {ds:List (Str×D)}
theorem UQ (h:f ρ=.ok (.d (rfD a)) ρ):Yo f ρ=.ok (.ad a) ρ:=by unfold Yo; rw[h]; rfl
theorem JX (hm:qm ρ=some τ) (a:Addr):JW ρ a=τ a:=by unfold JW; rw[hm]
theorem LO (hm:qm ρ=some τ) (ht:τ a=some o):(E.ad a).val ρ=some o.toD:=by simp[E.val,JX hm,ht]
theorem NO {h:D→D→Option E} {w:E} (ha:fa ρ=.ok (.ad a) ρ) (hm:qm ρ=some τ) (ht:τ a=some o) (hb:fb ρ=.ok (.d y) ρ) (hg:h o.toD y=some w):zg h fa fb ρ=.ok w ρ:=by
 unfold zg zX
 rw[ha,Res.bind_ok,hb,Res.bind_ok,LO hm ht]
 simp only[E.val,hg]
theorem KS {h:D→D→Option E} {w:E} {i:Nat} (ha:fa ρ=.ok (.sl i) ρ) (hi:ρ[i]?=some (.own o)) (hb:fb ρ=.ok (.d y) ρ) (hg:h o.toD y=some w):zg h fa fb ρ=.ok w ρ:=by
 unfold zg zX
 rw[ha,Res.bind_ok,hb,Res.bind_ok]
 simp only[E.val,hi,hg]
theorem Yp {fs:List S→Res (List E)} {w:E} {ws:List E} (h:f ρ=.ok w ρ) (h2:fs ρ=.ok ws ρ):za f fs ρ=.ok (w::ws) ρ:=by
 unfold za
 rw[h,Res.bind_ok,h2,Res.bind_ok]
theorem Jc:ze ρ=.ok [] ρ:=rfl
theorem MM {T:String} {h:O→List D→Option (D×O)} {fs:List S→Res (List E)} {ws:List E} {xs:List D} (ho:fo ρ=.ok (.ad a) ρ) (hs:fs ρ=.ok ws ρ) (hk:keepL ws ρ=some (xs,ρ)) (hm:qm ρ=some τ) (ht:τ a=some o) (hy:o.tyn=some T) (hg:h o xs=some (y,o')) :
  UJ T h fo fs ρ=.ok (.d y) (x_ ρ (ZX τ a o')):=by
 unfold UJ
 rw[ho,Res.bind_ok,if_pos (by simp[isC,JX hm,ht,hy]),hs,Res.bind_ok]
 simp only[ng,hk,JX hm,ht,hm,hg]
variable {Qv:E→List S→Prop} {Q:Fl→List S→Prop}
theorem i6 {i:Nat} (hv:(fv ρ).All Qv) (w:∀v ρ1,Qv v ρ1→(zp i (fun ρ=>.ok v ρ) ρ1).All Q):(zp i fv ρ).All Q:=by
 have e:zp i fv ρ=(fv ρ).bind fun v ρ1=>zp i (fun ρ=>.ok v ρ) ρ1:=by
  unfold zp z9 za ze
  rw[BZ]
  rfl
 rw[e]
 exact Res.All.bind hv fun v ρ1 h=>w v ρ1 h
end
section
variable {ls:S} {W:Wd} {ss:List Sch} {s:Sch} {w:Who} {st:Stn} {p:Pat}
theorem i7 {f g:AK} {a b:Bool} {ρ:List S} (ha:aT f ρ=.ok a ρ) (hb:a=true→g ρ=.ok (.d (.bl b)) ρ):zB f g ρ=.ok (.d (.bl (a&&b))) ρ:=by
 unfold zB
 rw[ha,Res.bind_ok]
 cases a
 ·rfl
 ·simpa using hb rfl
end
structure Dp where
 i:Nat
 w:Who
 an:Option Str
structure Ps where
 st:Stn
 ds:List Dp
 ls:List (Option Dp)
structure Ad where
 m:Addr
 a1:Addr
 a2:Addr
 a3:Addr
 a4:Addr
 a5:Addr
 da:List Addr
 la:List (Option Addr)
 F:Mem
section
variable {τ τ':Mem} {lore:D} {A:Ad} {M:Ps} {ss:List Sch} {W:Wd} {d:Dp} {s:Sch} {r:Rw} {a:Addr} {ρ:List S}
theorem ixL (xs:List D) (k:Nat) (x:D) (h:xs[k]?=some x):gIx (.lst xs) (.int (k:Nat))=some (.d x):=ixT xs k x h
end
section
variable {τ τ':Mem} {lore schs:D} {A:Ad} {M:Ps} {ss:List Sch} {W:Wd} {d d':Dp} {s:Sch} {r:Rw} {a:Addr} {ρ ρ1:List S} {p:Pat} {n:Nat}
theorem PZ {f:AK} {i:Nat} (h:f ρ=.ok (.ad a) ρ1) (hi:i<ρ1.length):zp i f ρ=.ok .nx (ρ1.set i (.d (rfD a))):=by
 simp[zp,z9,za,h,ze,toSL,toS,setL,hi]
end
section
variable {τ τ':Mem} {lore schs:D} {A:Ad} {M:Ps} {ss:List Sch} {W:Wd} {d d':Dp} {s:Sch} {r:Rw} {a:Addr} {ρ ρ1:List S} {p:Pat} {n:Nat}
theorem iY {α:Type} {P:α→List S→Prop} {r:Res α} (h:r.All P):r.noex.All P:=by
 induction r with
 |ok a ρ=>exact h
 |ex e ρ=>exact h.elim
 |no=>exact h.elim
 |new τ k ih=>exact fun a e=>ih a (h a e)
theorem eO {f:AK} {Qf Q:E→List S→Prop} (h:(f ρ).All Qf) (w:∀v ρ1,Qf v ρ1→∃o τ,v=.fr o∧qm ρ1=some τ∧∀a,τ a=none→Q (.ad a) (x_ ρ1 (ZX τ a o))):(Z0 f ρ).All Q:=by
 unfold Z0
 refine Res.All.bind h fun v ρ1 hv=>?_
 obtain⟨o,τ,rfl,h1,h2⟩:=w v ρ1 hv
 simp only[tw,mw,h1]
 exact h2
end
theorem K_ {np nl:Nat} {zs ls:List S} {τ:Mem} (hn:zs.length=np) (hl:ls.length=nl):pjM np nl (zs++(ls++[.mem τ]))=zs++[.mem τ]:=by
 unfold pjM
 have e1:(zs++(ls++[S.mem τ])).take np=zs:=by
  rw[List.take_append_of_le_length (by omega)]
  exact BR (by omega)
 have e2:(zs++(ls++[S.mem τ]))[np+nl]?=some (.mem τ):=by
  rw[AV (by omega),AV (by omega)]
  simp[hn,hl]
 rw[e1,e2]; rfl
structure Bd where
 c:Addr
 e:Addr
 ad:Addr
 af:Addr
 al:Addr
 am:Addr
 aw:Addr
 fa:List Addr
structure Fc where
 so:Str
 m:Bool
 r:Bool
 n:Bool
structure Hs where
 es:List D
 ms:List D
 ws:List D
 fs:List Fc
structure Cg where
 st:Stn
 sl:List Str
 num:Option Nat
 thn:Option Dp
 more:Option Dp
 less:Option Nat
inductive TE where
 |beg (z:Str)
 |ev (w:Str) (n:Nat)
end L2.AL.YS
namespace L2.AL.WS.R
open PySem PySem.Spec PyProof.Rows L2 L2.AL L2.AL.SH L2.AL.WS L2.AL.YS TL
def eD (s:S) (ws:List Str):Prop:=s=.own (.lst (ws.map .str))∨s=.d (.lst (ws.map .str))∨s=.d (zk ws)
def xM (n:Nat) (ws:List Str):Option (List Str):=if decide (n≤ws.length)&&ws.all yk then some ws else none
def U9:Option (List Str)→D
 |none=>.non
 |some ws=>zk ws
theorem Pl {xs:List D} (h:xs.length≤100000):xT [.tup xs]=some (zN xs.length)∧xT [.lst xs]=some (zN xs.length):=by
 have l:=zu h
 exact⟨by simp[xT,l],by simp[xT,l]⟩
theorem OX (a b:Nat):gGe (.int (a:Int)) (.int (b:Int))=some (eBl (decide (b≤a))):=by
 have:gGe (.int (a:Int)) (.int (b:Int))=some (eBl (decide ((b:Int)≤(a:Int)))):=rfl
 rw[this]
 congr 2
 exact decide_eq_decide.mpr (by omega)
theorem vg {s:S} {ws:List Str} (hs:eD s ws) (hl:ws.length≤100000) (hw:∀w∈ws,w.length≤100000) (n:Nat) :
  ∃s',qk [s,.d (.int (n:Int))]=.ok (.d (U9 (xM n ws))) [s',.d (.int (n:Int))]:=by
 have lw:(ws.map D.str).length≤100000:=by rw[List.length_map]; exact hl
 obtain⟨g1,g2⟩:=Pl lw
 rw[List.length_map]at g1 g2
 have gg:=OX ws.length n
 have ga:=xS yk ws
 have comp:∀s,eD s ws→∃s',(s'=.d (.lst (ws.map .str))∨s'=.d (zk ws))∧aLc [2] (zn (zb 0)) (.nm 2) yX (aFn qg (za (zb 2) ze)) [s,.d (.int (n:Int)),.no]=.ok (.fr (.lst (ws.map fun w=>.bl (yk w)))) [s',.d (.int (n:Int)),.no]:=by
  intro s hs
  have each:∀(s':S),∀w∈ws,∃ρ2,zQ (.nm 2) (.str w) [s',.d (.int (n:Int)),.no]=some ρ2∧aFn qg (za (zb 2) ze) ρ2=.ok (.d (.bl (yk w))) ρ2∧zo ρ2 [2]=[s',.d (.int (n:Int)),.no]:=fun s' w h=>
   ⟨[s',.d (.int (n:Int)),.d (.str w)],rfl,wM (xs:=[.str w]) (yn rfl xQ) (vd w (hw w h)) (fun j h=>by cases h),rfl⟩
  rcases hs with rfl|rfl|rfl
  ·exact⟨.d (.lst (ws.map .str)),.inl rfl,xA (ρ1:=[.d (.lst (ws.map .str)),.d (.int (n:Int)),.no]) D.str (fun w=>D.bl (yk w)) ws rfl (zu hl) (each _)⟩
  ·exact⟨.d (.lst (ws.map .str)),.inl rfl,xA (ρ1:=[.d (.lst (ws.map .str)),.d (.int (n:Int)),.no]) D.str (fun w=>D.bl (yk w)) ws rfl (zu hl) (each _)⟩
  ·exact⟨.d (zk ws),.inr rfl,xA (ρ1:=[.d (zk ws),.d (.int (n:Int)),.no]) D.str (fun w=>D.bl (yk w)) ws rfl (zu hl) (each _)⟩
 obtain⟨s',hs',comp⟩:=comp s hs
 have len:zh xT (za (zb 0) ze) [s,.d (.int (n:Int)),.no]=.ok (.d (.int (ws.length:Nat))) [s,.d (.int (n:Int)),.no]:=by
  rcases hs with rfl|rfl|rfl
  ·exact qj (v:=.sl 0) rfl rfl g2
  ·exact qj (v:=.d _) rfl rfl g2
  ·exact qj (v:=.d _) rfl rfl g1
 have c1:aT (zg gGe (zh xT (za (zb 0) ze)) (zb 1)) [s,.d (.int (n:Int)),.no]=.ok (decide (n≤ws.length)) [s,.d (.int (n:Int)),.no]:=qi (yh len rfl gg)
 have c2:aT (zh YW (za JZ ze)) [s,.d (.int (n:Int)),.no]=.ok (ws.all yk) [s',.d (.int (n:Int)),.no]:=by
  refine qi ?_
  exact qj (v:=.fr (.lst (ws.map fun w=>.bl (yk w)))) comp rfl ga
 have tup:zh yH (za (zb 0) ze) [s',.d (.int (n:Int)),.no]=.ok (.d (zk ws)) [s',.d (.int (n:Int)),.no]:=by
  rcases hs' with rfl|rfl
  ·exact qj (v:=.d _) rfl rfl rfl
  ·exact qj (v:=.d _) rfl rfl rfl
 have val:∃s'',aIf (zF (aT (zg gGe (zh xT (za (zb 0) ze)) (zb 1))) (aT (zh YW (za JZ ze)))) (zh yH (za (zb 0) ze)) (aK .non) [s,.d (.int (n:Int)),.no]=.ok (.d (U9 (xM n ws))) [s'',.d (.int (n:Int)),.no]:=by
  unfold aIf zF xM
  rw[c1,Res.bind_ok]
  cases decide (n≤ws.length)with
  |false=>exact⟨s,rfl⟩
  |true=>
   simp only[if_true,Bool.true_and]
   rw[c2,Res.bind_ok]
   cases ws.all yk with
   |false=>exact⟨s',rfl⟩
   |true=>exact⟨s',tup⟩
 obtain⟨s'',val⟩:=val
 refine⟨s'',xR (ρ1:=[s'',.d (.int (n:Int)),.no]) rfl ?_⟩
 show Ug [s,.d (.int (n:Int)),.no]=_
 unfold Ug vT
 exact xp val
theorem rA {n:Nat} {ws zs:List Str} (h:xM n ws=some zs):zs=ws∧n≤ws.length∧∀w∈ws,yk w=true:=by
 unfold xM at h
 split at h
 ·rename_i c
  cases h
  rw[Bool.and_eq_true,decide_eq_true_eq,AP]at c
  exact⟨rfl,c⟩
 ·cases h
theorem bf {n:Nat} {ws:List Str} (h1:n≤ws.length) (h2:∀w∈ws,yk w=true):xM n ws=some ws:=by
 unfold xM
 rw[if_pos]
 rw[Bool.and_eq_true,decide_eq_true_eq,AP]
 exact⟨h1,h2⟩
def xD (w:Str):List Str:=Txt.split w "="
def VW (w:Str):Bool:=decide ((xD w).length=2)&&(xD w).all yk
def Zk (ws:List Str):Option (List (List Str)):=if ws.all VW then some (ws.map xD)else none
def Xr:Option (List (List Str))→D
 |none=>.non
 |some ps=>.tup (ps.map zk)
theorem is1:L2.AL.K14.One "=" 61:=⟨by decide+kernel,by decide+kernel,by decide+kernel⟩
theorem gX {y x:Str} {c:Nat} (h:L2.AL.K14.One y c) (hx:x.length≤90000):ZN (.str x) [.str y]=some (.fr (.lst ((Txt.split x y).map .str))):=if_pos ⟨by rw[h.len]; rfl,zu (by omega)⟩
theorem OR (a b:Nat):gEq (.int (a:Int)) (.int (b:Int))=some (eBl (decide (a=b))):=by
 rw[Ms]
 congr 2
 exact decide_eq_decide.mpr (by omega)
theorem J6 {s:S} {ws:List Str} (hs:eD s ws) (hl:ws.length≤90000) (hw:∀w∈ws,w.length≤90000):∃s',xY [s]=.ok (.d (Xr (Zk ws))) [s']:=by
 have comp:∃s',(aLc [2] (zn (zb 0)) (.nm 2) yX (zh yH (za (zC "str" ZN (zb 2) (za (aK c_IS) ze)) ze))) [s,.no,.no,.no]=.ok (.fr (.lst (ws.map fun w=>zk (xD w)))) [s',.no,.no,.no]:=by
  have each:∀(s':S),∀w∈ws,∃ρ2,zQ (.nm 2) (.str w) [s',.no,.no,.no]=some ρ2∧zh yH (za (zC "str" ZN (zb 2) (za (aK c_IS) ze)) ze) ρ2=.ok (.d (zk (xD w))) ρ2∧zo ρ2 [2]=[s',.no,.no,.no]:=fun s' w h=>by
   refine⟨[s',.no,.d (.str w),.no],rfl,?_,rfl⟩
   have sp:ZN (.str w) [c_IS]=some (.fr (.lst ((xD w).map .str))):=gX is1 (hw w h)
   unfold zh zC za ze zb aK
   simp[Res.bind,zY,E.val,O.toD,D.tyn,sp,yH]
   rfl
  rcases hs with rfl|rfl|rfl
  ·exact⟨_,xA (ρ1:=[.d (.lst (ws.map .str)),.no,.no,.no]) D.str (fun w=>zk (xD w)) ws rfl (zu (by omega)) (each _)⟩
  ·exact⟨_,xA (ρ1:=[.d (.lst (ws.map .str)),.no,.no,.no]) D.str (fun w=>zk (xD w)) ws rfl (zu (by omega)) (each _)⟩
  ·exact⟨_,xA (ρ1:=[.d (zk ws),.no,.no,.no]) D.str (fun w=>zk (xD w)) ws rfl (zu (by omega)) (each _)⟩
 obtain⟨s',comp⟩:=comp
 obtain⟨PL,hPL⟩:∃PL:List D,PL=ws.map fun w=>zk (xD w):=⟨_,rfl⟩
 have s1:Qh [s,.no,.no,.no]=.ok .nx [s',.own (.lst PL),.no,.no]:=by
  unfold Qh VX
  rw[hPL]
  exact(QM (i:=1) comp (by simp)).trans rfl
 have e4:jO [s',.own (.lst PL),.no,.no]=.ok (.fr (.lst (ws.map fun w=>.bl (VW w)))) [s',.d (.lst PL),.no,.no]:=by
  unfold jO
  rw[hPL]
  refine xA (ρ1:=[s',.d (.lst (ws.map fun w=>zk (xD w))),.no,.no]) (fun w=>zk (xD w)) (fun w=>D.bl (VW w)) ws rfl (zu (by omega)) fun w h=>⟨[s',.d (.lst (ws.map fun w=>zk (xD w))),.no,.d (zk (xD w))],rfl,?_,rfl⟩
  obtain⟨Z,hZ⟩:∃Z:List D,Z=ws.map fun w=>zk (xD w):=⟨_,rfl⟩
  rw[←hZ]
  have lp:(xD w).length≤90001:=by have:=L2.AL.K14.split_count (x:=w) is1; have:=hw w h; unfold xD; omega
  have wp:∀z∈xD w,z.length≤100000:=fun z hz=>by have:=L2.AL.K14.split_part is1 hz; have:=hw w h; omega
  obtain⟨g1,_⟩:=Pl (xs:=(xD w).map D.str) (by rw[List.length_map]; omega)
  rw[List.length_map]at g1
  obtain⟨s2,en⟩:=vg (s:=.d (zk (xD w))) (.inr (.inr rfl)) (by omega) wp 2
  have c1:zg gEq (zh xT (za (zb 3) ze)) (aK c_PAIR_reading) [s',.d (.lst Z),.no,.d (zk (xD w))]=.ok (.d (.bl (decide ((xD w).length=2)))) [s',.d (.lst Z),.no,.d (zk (xD w))]:=
   yh (qj (v:=.d (zk (xD w))) rfl rfl g1) (show aK c_PAIR_reading _=.ok (.d (.int ((2:Nat):Int))) _ from rfl) (OR _ _)
  have c2:aFn qk (za (zb 3) (za (aK c_PAIR_reading) ze)) [s',.d (.lst Z),.no,.d (zk (xD w))]=.ok (.d (U9 (xM 2 (xD w)))) [s',.d (.lst Z),.no,.d (zk (xD w))]:=
   wM (xs:=[zk (xD w),.int ((2:Nat):Int)]) (yn rfl (yn rfl xQ)) en (fun j h=>by cases h)
  unfold VW
  refine i7 (qi c1) fun h2=>?_
  have h2:=of_decide_eq_true h2
  have nb:(xM 2 (xD w))=if (xD w).all yk=true then some (xD w)else none:=by
   unfold xM
   rw[decide_eq_true (by omega),Bool.true_and]
  have g:yj (U9 (xM 2 (xD w))) .non=some (eBl ((xD w).all yk)):=by
   rw[nb]
   cases(xD w).all yk<;>rfl
  exact yh c2 rfl g
 have c:aT (zh YW (za jO ze)) [s',.own (.lst PL),.no,.no]=.ok (ws.all VW) [s',.d (.lst PL),.no,.no]:=by
  exact qi (qj (v:=.fr (.lst (ws.map fun w=>.bl (VW w)))) e4 rfl (xS VW ws))
 have val:aIf (aT (zh YW (za jO ze))) (zh yH (za (zb 1) ze)) (aK .non) [s',.own (.lst PL),.no,.no]=.ok (.d (Xr (Zk ws))) [s',.d (.lst PL),.no,.no]:=by
  unfold aIf Zk
  rw[c,Res.bind_ok]
  cases ws.all VW with
  |false=>rfl
  |true=>
   have:zh yH (za (zb 1) ze) [s',.d (.lst PL),.no,.no]=.ok (.d (.tup PL)) [s',.d (.lst PL),.no,.no]:=qj (v:=.d (.lst PL)) rfl rfl rfl
   refine this.trans ?_
   rw[hPL]
   simp[Xr,AY]
 refine⟨s',xR (ρ1:=[s',.d (.lst PL),.no,.no]) rfl ?_⟩
 show Q2 [s,.no,.no,.no]=_
 unfold Q2
 refine(zU s1).trans ?_
 unfold VY
 exact xp val
theorem kO {α:Type} (l:List α) (i:Nat):Qc l (some (i:Int)) none=l.drop i:=by
 unfold Qc
 rw[HT.sIx_none,HT.sIx_nat]
 by_cases h:i≤l.length
 ·rw[Nat.min_eq_left h,BR (by rw[Bw]; omega)]
 ·rw[Nat.min_eq_right (by omega),List.drop_of_length_le (Nat.le_refl _),List.drop_of_length_le (by omega),List.take_nil]
local macro_rules|`(tactic|simp[AI,$xs,*]) => `(tactic|simp[zJ,yf,zt,sIf,zH,zL,zp,z9,sTg,zy,sNx,zb,aK,za,ze,zg,zX,zh,zY,E.val,aT,zz,zF,zW,zB,yl,zK,aIf,zr,zV,zG,keepL,keep1,zq,toSL,toS,setL,aFn,zx,zO,zM,wb,zn,D.items?,zC,D.tyn,zj,zw,zm,yc,D.isi,gIs,yj,D.is?,D.seq?,zD,O.toD,eBl,zN,z_,zQ,tsetL,zo,zA,ya,D.imm,$xs,*])
theorem Nq {s:S} {ws:List Str} (hs:eD s ws) (hl:ws.length≤90000) (hw:∀w∈ws,w.length≤90000):∃s',jw [s]=.ok (.d (match xM 2 ws with
  |some (a::b::r)=>.tup [.str a,.str b,zk r]
  |_=>.non)) [s']:=by
 obtain⟨s',en⟩:=vg hs (by omega) (fun w h=>by have:=hw w h; omega) 2
 have en:qk [s,.d (.int 2)]=.ok (.d (U9 (xM 2 ws))) [s',.d (.int 2)]:=en
 have s1:∃s2,Jz [s,.no]=.ok .nx [s2,.d (U9 (xM 2 ws))]:=by
  have f:∃s2,aFn qk (za (zb 0) (za (aK c_PAIR_reading) ze)) [s,.no]=.ok (.d (U9 (xM 2 ws))) [s2,.no]:=by
   rcases hs with rfl|rfl|rfl
   ·refine⟨s',?_⟩
    generalize U9 (xM 2 ws)=R at en⊢
    simp[AI,c_PAIR_reading,en]
   ·exact⟨_,wM (xs:=[.lst (ws.map .str),.int 2]) (yn rfl (yn rfl xQ)) en (fun j h=>by cases h)⟩
   ·exact⟨_,wM (xs:=[zk ws,.int 2]) (yn rfl (yn rfl xQ)) en (fun j h=>by cases h)⟩
  obtain⟨s2,f⟩:=f
  exact⟨s2,(YL (i:=1) f (by simp)).trans rfl⟩
 obtain⟨s2,s1⟩:=s1
 refine⟨s2,xR (ρ1:=[s2,.d (U9 (xM 2 ws))]) rfl ?_⟩
 show Xg [s,.no]=_
 unfold Xg
 refine(zU s1).trans ?_
 unfold JA
 refine xp ?_
 cases hn:xM 2 ws with
 |none=>rfl
 |some zs=>
  obtain⟨rfl,h2,_⟩:=rA hn
  obtain⟨a,b,r,rfl⟩:∃a b r,zs=a::b::r:=by
   match zs,h2 with
   |a::b::r,_=>exact⟨a,b,r,rfl⟩
  have i0:gIx (zk (a::b::r)) (.int 0)=some (.d (.str a)):=ixT ((a::b::r).map .str) 0 (.str a) rfl
  have i1:gIx (zk (a::b::r)) (.int 1)=some (.d (.str b)):=ixT ((a::b::r).map .str) 1 (.str b) rfl
  have l3:(3:Nat)≤sizeLine:=zu (by decide)
  have sl:zj (zb 1) (zw (aK (.int 2))) zm [s2,.d (zk (a::b::r))]=.ok (.d (zk r)) [s2,.d (zk (a::b::r))]:=by
   have:=kO ((a::b::r).map D.str) 2
   unfold zk
   simp[zJ,yf,zt,sIf,zH,zL,zp,z9,sTg,zy,sNx,zb,aK,za,ze,zg,zX,zh,zY,E.val,aT,zz,zF,zW,zB,yl,zK,aIf,zr,zV,zG,keepL,keep1,zq,toSL,toS,setL,aFn,zx,zO,zM,wb,zn,D.items?,zC,D.tyn,zj,zw,zm,yc,D.isi,gIs,yj,D.is?,D.seq?,zD,O.toD,eBl,zN,z_,zQ,tsetL,zo,zA,ya,D.imm,gSl]at this⊢
   rw[this]
  have c:aT (zg gIs (zb 1) (aK .non)) [s2,.d (zk (a::b::r))]=.ok false [s2,.d (zk (a::b::r))]:=qi (yh (x:=zk (a::b::r)) (y:=.non) rfl rfl rfl)
  show aIf _ _ _ [s2,.d (zk (a::b::r))]=_
  unfold aIf
  rw[c,Res.bind_ok,if_neg Bn]
  have v1:zb 1 [s2,.d (zk (a::b::r))]=.ok (.d (zk (a::b::r))) [s2,.d (zk (a::b::r))]:=rfl
  exact vF (ds:=[.str a,.str b,zk r]) (yn (yh v1 rfl i0) (yn (yh v1 rfl i1) (yn sl xQ))) l3
end L2.AL.WS.R
namespace L2.AL.YS
open PySem PySem.Spec PyProof.Rows L2 L2.AL L2.AL.SH L2.AL.WS TL
section
variable {τ τ':Mem} {R:D} {B:Bd} {M M':Ps} {ss:List Sch} {L:List Stn} {W:Wd} {n:Nat} {k:Hs} {ρ ρ1:List S} {f:AK} {ts tl:List TE}
def h0:Hs:=⟨[],[],[],[]⟩
end
end L2.AL.YS
namespace L2.AL.YS.R
open PySem PySem.Spec PyProof.Rows L2 L2.AL L2.AL.SH L2.AL.WS L2.AL.YS TL
instance:DecidableEq TE:=fun a b=>match a,b with
 | .beg z,.beg y=>if h:z=y then isTrue (by rw[h])else isFalse fun e=>h (by injection e)
 | .ev w n,.ev v m=>if h:w=v∧n=m then isTrue (by rw[h.1,h.2])else isFalse fun e=>h (by cases e; exact⟨rfl,rfl⟩)
 | .beg _,.ev _ _=>isFalse fun e=>by cases e
 | .ev _ _,.beg _=>isFalse fun e=>by cases e
structure SpecZ (F:AK) (zs:List S) (τ:Mem) (x:D) (zs':List S):Prop where
 go:(F (zs++[.mem τ])).All fun v ρ'=>∃τ',v=.d x∧ρ'=zs'++[.mem τ']
theorem specZ_run {np nl:Nat} {f:AJ} {zs zs':List S} {τ:Mem} {x:D} (hn:zs.length=np) (hn':zs'.length=np)
  (h:(f (zs++(List.replicate nl .no++[.mem τ]))).All fun fl ρ'=>∃ls τ',ls.length=nl∧ρ'=zs'++(ls++[.mem τ'])∧fl=.rt (.d x)):SpecZ (vv np nl f) zs τ x zs':=by
 constructor
 unfold vv
 rw[if_pos (by simp[hn])]
 have e1:(zs++[S.mem τ]).take np=zs:=by
  rw[List.take_append_of_le_length (by simp[hn])]
  exact BR (by simp[hn])
 have e2:(zs++[S.mem τ])[np]?=some (.mem τ):=by
  rw[AV (by simp[hn])]
  simp[hn]
 rw[e1,e2,Bi]
 show(ic np nl (f (zs++(List.replicate nl S.no++[S.mem τ])))).All _
 generalize f (zs++(List.replicate nl S.no++[S.mem τ]))=r at h
 induction r with
 |ex e ρ=>exact h.elim
 |no=>exact h.elim
 |new τ k ih=>exact fun a e=>ih a (h a e)
 |ok fl ρ=>
  obtain⟨ls,τ',h2,rfl,rfl⟩:=h
  exact⟨τ',rfl,K_ hn' h2⟩
theorem runB_ofZ {F:AK} {zs zs':List S} {x:D} (h:SpecZ F zs Mem.nil x zs'):gK F zs=.ok (.d x) zs':=by
 unfold gK
 refine vK ?_
 have h:=h.go
 generalize F (zs++[S.mem Mem.nil])=r at h
 induction r with
 |ex e ρ=>exact h.elim
 |no=>exact h.elim
 |new τ k ih=>exact fun a e=>ih a (h a e)
 |ok v ρ'=>
  obtain⟨τ',rfl,rfl⟩:=h
  exact⟨⟨fun i e=>(by cases e),fun a e=>(by cases e)⟩,by rw[List.dropLast_concat]⟩
end L2.AL.YS.R
namespace L2.AL.WS.R
open PySem PySem.Spec PyProof.Rows L2 L2.AL L2.AL.SH L2.AL.WS L2.AL.YS TL
section
variable {fv fo:AK} {ρ:List S} {a:Addr} {τ:Mem} {x:D} {Qv:E→List S→Prop} {Q:Fl→List S→Prop}
theorem sC {xs:List D} {w:E} (ho:fo ρ=.ok (.ad a) ρ) (hv:fv ρ=.ok w ρ) (hk:keep1 w ρ=some (x,ρ)) (hm:qm ρ=some τ) (ht:τ a=some (.lst xs)) (hl:xs.length<100000) :
  zy (UJ "list" qc fo (za fv ze)) ρ=.ok .nx (x_ ρ (ZX τ a (.lst (xs++[x])))):=by
 have l:xs.length<sizeLine:=Bq hl (zu (by decide))
 have e:=MM (T:="list") (h:=qc) (xs:=[x]) (y:=.non) (o':=.lst (xs++[x])) ho (Yp hv Jc) (by simp[keepL,hk]) hm ht rfl (by simp[qc,l])
 unfold zy
 rw[e]; rfl
theorem eN {xs:List D} (ho:fo ρ=.ok (.ad a) ρ) (hm:qm ρ=some τ) (ht:τ a=some (.lst xs)) (hv:(fv ρ).All Qv) (w:∀v ρ1,Qv v ρ1→∃x τ1,keep1 v ρ1=some (x,ρ1)∧qm ρ1=some τ1∧τ1 a=some (.lst xs)∧Q .nx (x_ ρ1 (ZX τ1 a (.lst (xs++[x]))))) (hl:xs.length<100000) :
  (zy (UJ "list" qc fo (za fv ze)) ρ).All Q:=by
 have l:xs.length<sizeLine:=Bq hl (zu (by decide))
 unfold zy UJ
 rw[ho,Res.bind_ok,if_pos (by simp[isC,JX hm,ht,O.tyn])]
 unfold za ze
 rw[BZ,BZ]
 refine Res.All.bind hv fun v ρ1 h=>?_
 obtain⟨x,τ1,h1,h2,h3,h4⟩:=w v ρ1 h
 simp only[Res.bind_ok,ng,keepL,h1,JX h2,h3,h2,qc,l,if_true]
 exact h4
end
def Yq (d:List (List Str)) (l:List Str):List Str→List (List Str)
 |[]=>d++[l]
 |w::ws=>if w=":" then Yq (d++[l]) [] ws else Yq d (l++[w]) ws
def fL (ws:List Str):List (List Str):=Yq [] [] ws
def lsD (ls:List (List Str)):D:=.lst (ls.map fun l=>.lst (l.map .str))
structure CutI (s':S) (d:List (List Str)) (l:List Str) (ρ:List S):Prop where
 ex:∃(P b:Addr) (as:List Addr) (w:S) (τ:Mem),ρ=[s',.d (rfD P),w,.mem τ]∧τ P=some (.lst ((as++[b]).map rfD))∧as.length=d.length∧(∀(j:Nat) a x,as[j]?=some a→d[j]?=some x→τ a=some (.lst (x.map .str)))∧
   τ b=some (.lst (l.map .str))∧P∉as∧P≠b∧b∉as
theorem MA (xs:List D) (x:D) (h:xs.length≤100000):gIx (.lst (xs++[x])) (.int (-1))=some (.d x):=by
 have e:atI (xs++[x]) (-1)=some x:=by
  unfold atI ixN
  simp
  rw[if_pos (by omega),show(-1+((xs.length:Int)+1)).toNat=xs.length by omega]
  simp
 have l:=zu h
 simp only[gIx]
 rw[e]
 rfl
theorem tJ {s':S} {w:Str} {d:List (List Str)} {l:List Str} {ρ:List S} (hd:d.length≤90000) (hl:l.length≤90000) (I:CutI s' d l ρ) :
  ∃ρ1,zQ (.nm 2) (.str w) ρ=some ρ1∧(XQ ρ1).All (Nx fun ρ=>if w=":" then CutI s' (d++[l]) [] ρ else CutI s' d (l++[w]) ρ):=by
 obtain⟨P,b,as,w0,τ,rfl,h1,h2,h3,h4,h5,h6,h7⟩:=I.ex
 refine⟨[s',.d (rfD P),.d (.str w),.mem τ],rfl,?_⟩
 obtain⟨Q,hQ⟩:∃Q:Mem→List S,Q=fun t=>[s',.d (rfD P),.d (.str w),.mem t]:=⟨_,rfl⟩
 have e0:[s',.d (rfD P),.d (.str w),.mem τ]=Q τ:=by rw[hQ]
 have hm:∀t,qm (Q t)=some t:=fun t=>by rw[hQ]; rfl
 have setQ:∀t t',x_ (Q t) t'=Q t':=fun t t'=>by rw[hQ]; rfl
 have v1:∀t,Yo (zb 1) (Q t)=.ok (.ad P) (Q t):=fun t=>UQ (qF (by rw[hQ]; rfl))
 have v2:∀t,zb 2 (Q t)=.ok (.d (.str w)) (Q t):=fun t=>qF (by rw[hQ]; rfl)
 rw[e0]
 unfold XQ
 refine OJ (b:=decide (w=":")) (qi (yh (v2 _) rfl (WS.eq_strs w ":"))) (fun hw=>?_) (fun hw=>?_)
 ·have hw:=of_decide_eq_true hw
  refine Res.All.mono (P:=Nx (CutI s' (d++[l]) [])) ?_ (fun fl ρ h=>⟨h.1,by show(if w=":" then CutI s' (d++[l]) [] ρ else CutI s' d (l++[w]) ρ); rw[if_pos hw]; exact h.2⟩)
  unfold vW
  have nil:zG ze (Q τ)=.ok (.fr (.lst [])) (Q τ):=by
   unfold zG ze
   simp[keepL]
  refine eN (Qv:=fun v ρ=>∃c,v=.ad c∧τ c=none∧ρ=Q (ZX τ c (.lst []))) (v1 τ) (hm τ) h1 (md nil (hm τ) fun c hc=>⟨c,rfl,hc,setQ _ _⟩) ?_ (by rw[List.length_map,AS,h2,Bf]; omega)
  rintro v ρ ⟨c,rfl,hc,rfl⟩
  have nP:P≠c:=fun e=>by rw[←e,h1]at hc; cases hc
  have nb:b≠c:=fun e=>by rw[←e,h4]at hc; cases hc
  have na:∀a,a∈as→a≠c:=fun a ha e=>by
   obtain⟨j,hj⟩:=List.mem_iff_getElem?.mp ha
   have hlt:=(AQ.mp hj).1
   have:=h3 j a d[j] hj (AX (by omega))
   rw[e,hc]at this; cases this
  refine⟨rfD c,_,rfl,hm _,by rw[jE nP]; exact h1,rfl,⟨P,c,as++[b],.d (.str w),ZX (ZX τ c (.lst [])) P (.lst ((as++[b]).map rfD++[rfD c])),?_,?_,?_,?_,?_,?_,nP,?_⟩⟩
  ·rw[setQ,hQ]
  ·rw[qP]; simp
  ·simp[h2]
  ·intro j a x ha hx
   have am:a∈as++[b]:=Bh ha
   have aP:a≠P:=fun e=>by
    rcases AW.mp am with h|h
    ·exact h5 (e▸h)
    ·exact h6 (by rw[←e,A8.mp h])
   have ac:a≠c:=by
    rcases AW.mp am with h|h
    ·exact na a h
    ·rw[A8.mp h]; exact nb
   rw[jE aP,jE ac]
   by_cases hj:j<as.length
   ·rw[AT hj]at ha
    rw[AT (by omega)]at hx
    exact h3 j a x ha hx
   ·have hj':=(AQ.mp ha).1
    rw[AS,Bf]at hj'
    have:j=as.length:=by omega
    subst this
    rw[AV (Nat.le_refl _),Nat.sub_self]at ha
    rw[h2,AV (Nat.le_refl _),Nat.sub_self]at hx
    cases ha; cases hx
    exact h4
  ·rw[jE nP.symm]; exact qP
  ·intro h
   rcases AW.mp h with h|h
   ·exact h5 h
   ·exact h6 (A8.mp h)
  ·intro h
   rcases AW.mp h with h|h
   ·exact na c h rfl
   ·exact nb (A8.mp h).symm
 ·have hw:=of_decide_eq_false hw
  refine Res.All.mono (P:=Nx (CutI s' d (l++[w]))) ?_ (fun fl ρ h=>⟨h.1,by show(if w=":" then CutI s' (d++[l]) [] ρ else CutI s' d (l++[w]) ρ); rw[if_neg hw]; exact h.2⟩)
  unfold vX
  have ob:Yo (zg gIx (Yo (zb 1)) (LV t6 (aK (.int 1)))) (Q τ)=.ok (.ad b) (Q τ):=by
   refine UQ (NO (y:=.int (-1)) (v1 τ) (hm τ) h1 rfl ?_)
   rw[A7]
   exact MA _ _ (by rw[List.length_map]; omega)
  refine .of (sC (w:=.d (.str w)) (x:=.str w) ob (v2 τ) rfl (hm τ) h4 (by rw[List.length_map]; omega)) ⟨rfl,⟨P,b,as,.d (.str w),ZX τ b (.lst (l.map .str++[.str w])),?_,?_,h2,?_,?_,h5,h6,h7⟩⟩
  ·rw[setQ,hQ]
  ·rw[jE h6]; exact h1
  ·intro j a x ha hx
   rw[jE fun e:a=b=>h7 (by rw[←e]; exact Bh ha)]
   exact h3 j a x ha hx
  ·rw[qP]; simp
theorem wm {s':S}:∀(ws:List Str) (d:List (List Str)) (l:List Str) (ρ:List S),d.length+l.length+ws.length≤90000→CutI s' d l ρ→
  (xr (.nm 2) XQ (ws.map .str) ρ).All (Nx fun ρ=>∃d' l',d'++[l']=Yq d l ws∧d'.length≤90000∧CutI s' d' l' ρ)
 |[],d,l,ρ,h,I=>⟨rfl,d,l,rfl,by omega,I⟩
 |w::ws,d,l,ρ,h,I=>by
  simp only[List.length_cons]at h
  obtain⟨ρ1,h1,h2⟩:=tJ (w:=w) (by omega) (by omega) I
  rw[List.map_cons,UX h1]
  refine iX h2 fun ρ2 h3=>?_
  unfold Yq
  split at h3
  ·rename_i hw
   rw[if_pos hw]
   exact wm ws _ _ ρ2 (by simp; omega) h3
  ·rename_i hw
   rw[if_neg hw]
   exact wm ws _ _ ρ2 (by simp; omega) h3
theorem lC (τ:Mem) (n:Nat):∀l:List Str,Vn (QN τ (n+1)) (l.map .str)=some (l.map .str)
 |[]=>rfl
 |w::l=>by
  have e:QN τ (n+1) (.str w)=some (.str w):=rfl
  rw[List.map_cons,Vn,e,lC τ n l]
theorem g7 {τ:Mem} (n:Nat):∀(as:List Addr) (d:List (List Str)),as.length=d.length→(∀(j:Nat) a x,as[j]?=some a→d[j]?=some x→τ a=some (.lst (x.map .str)))→Vn (QN τ (n+2)) (as.map rfD)=some (d.map fun l=>.lst (l.map .str))
 |[],[],_,_=>rfl
 |[],_::_,h,_=>by simp at h
 |_::_,[],h,_=>by simp at h
 |a::as,x::d,h,k=>by
  have ka:=k 0 a x rfl rfl
  have e:QN τ (n+2) (rfD a)=some (.lst (x.map .str)):=by
   show(match τ a with
    |some (.lst xs)=>(Vn (QN τ (n+1)) xs).map D.lst
    |_=>none)=_
   rw[ka]
   show(Vn (QN τ (n+1)) (x.map .str)).map D.lst=_
   rw[lC]; rfl
  rw[List.map_cons,List.map_cons,Vn,e,g7 n as d (by simpa using h) fun j b y h1 h2=>k (j+1) b y h1 h2]
theorem vp {s:S} {ws:List Str} (hs:eD s ws) (hl:ws.length≤90000):∃s',Jb [s]=.ok (.d (lsD (fL ws))) [s']:=by
 have it:∃s',∀P (τ:Mem),zn (zb 0) [s,.d (rfD P),.no,.mem τ]=.ok (ws.map .str) [s',.d (rfD P),.no,.mem τ]:=by
  rcases hs with rfl|rfl|rfl
  ·exact⟨_,fun P τ=>rfl⟩
  ·exact⟨_,fun P τ=>rfl⟩
  ·exact⟨_,fun P τ=>rfl⟩
 obtain⟨s',it⟩:=it
 refine⟨s',L2.AL.YS.R.runB_ofZ (zs:=[s]) (zs':=[s']) (L2.AL.YS.R.specZ_run (np:=1) (nl:=2) rfl rfl ?_)⟩
 show(Uh [s,.no,.no,.mem Mem.nil]).All _
 unfold Uh
 have nil:∀x t,zG ze [s,x,.no,.mem t]=.ok (.fr (.lst [])) [s,x,.no,.mem t]:=fun x t=>by
  unfold zG ze
  simp[keepL]
 refine sA (P:=fun ρ=>∃P b τ,ρ=[s,.d (rfD P),.no,.mem τ]∧τ P=some (.lst [rfD b])∧τ b=some (.lst [])∧P≠b) ?_ ?_
 ·unfold vU
  refine i6 (Qv:=fun v ρ=>∃P b τ,v=.ad P∧ρ=[s,.no,.no,.mem τ]∧τ P=some (.lst [rfD b])∧τ b=some (.lst [])∧P≠b) (eO (Qf:=fun v ρ=>∃b,v=.fr (.lst [rfD b])∧ρ=[s,.no,.no,.mem (ZX Mem.nil b (.lst []))]) ?_ ?_) ?_
  ·unfold zG za
   refine Res.All.bind (P:=fun es ρ=>∃b,es=[.ad b]∧ρ=[s,.no,.no,.mem (ZX Mem.nil b (.lst []))]) ?_ ?_
   ·refine Res.All.bind (P:=fun v ρ=>∃b,v=.ad b∧ρ=[s,.no,.no,.mem (ZX Mem.nil b (.lst []))]) (md (nil _ _) rfl fun b hb=>⟨b,rfl,rfl⟩) ?_
    rintro v ρ ⟨b,rfl,rfl⟩
    exact⟨b,rfl,rfl⟩
   ·rintro es ρ ⟨b,rfl,rfl⟩
    have l1:(1:Nat)≤sizeLine:=zu (by decide)
    simp only[keepL,keep1,List.length_cons,List.length_nil]
    rw[if_pos l1]
    exact⟨b,rfl,rfl⟩
  ·rintro v ρ ⟨b,rfl,rfl⟩
   refine⟨_,_,rfl,rfl,fun P hP=>⟨P,b,ZX (ZX Mem.nil b (.lst [])) P (.lst [rfD b]),rfl,rfl,qP,?_,?_⟩⟩
   ·have:b≠P:=fun e=>by rw[←e,qP]at hP; cases hP
    rw[jE this]; exact qP
   ·exact fun e=>by rw[e,qP]at hP; cases hP
  ·rintro v ρ ⟨P,b,τ,rfl,rfl,h⟩
   exact .of (PZ (i:=1) (f:=fun ρ=>.ok (.ad P) ρ) rfl (by simp)) ⟨rfl,P,b,τ,rfl,h⟩
 rintro ρ ⟨P,b,τ,rfl,h1,h2,h3⟩
 refine sA (P:=fun ρ=>∃d' l',d'++[l']=fL ws∧d'.length≤90000∧CutI s' d' l' ρ) ?_ ?_
 ·unfold vV Xt
  rw[it,Res.bind_ok]
  exact wm ws [] [] _ (by simpa using hl) ⟨P,b,[],.no,τ,rfl,h1,rfl,fun j a x h=>by simp at h,h2,List.not_mem_nil,h3,List.not_mem_nil⟩
 rintro ρ ⟨d,l,hc,_,I⟩
 obtain⟨P,b,as,w0,τ,rfl,h1,h2,h3,h4,h5,h6,h7⟩:=I.ex
 unfold vY
 have tr:QN τ 8 (.raw (.ref P))=some (lsD (fL ws)):=by
  have e:=g7 (τ:=τ) 5 (as++[b]) (d++[l]) (by simp[h2]) fun j a x ha hx=>by
   by_cases hj:j<as.length
   ·rw[AT hj]at ha
    rw[AT (by omega)]at hx
    exact h3 j a x ha hx
   ·have hj':=(AQ.mp ha).1
    rw[AS,Bf]at hj'
    have:j=as.length:=by omega
    subst this
    rw[AV (Nat.le_refl _),Nat.sub_self]at ha
    rw[h2,AV (Nat.le_refl _),Nat.sub_self]at hx
    cases ha; cases hx
    exact h4
  show(match τ P with
   |some (.lst xs)=>(Vn (QN τ 7) xs).map D.lst
   |_=>none)=_
  rw[h1]
  show(Vn (QN τ 7) ((as++[b]).map rfD)).map D.lst=_
  rw[e,hc]; rfl
 have fz:c9 (Yo (zb 1)) [s',.d (rfD P),w0,.mem τ]=.ok (.d (lsD (fL ws))) [s',.d (rfD P),w0,.mem Mem.nil]:=by
  unfold c9
  rw[show Yo (zb 1) [s',.d (rfD P),w0,.mem τ]=.ok (.ad P) [s',.d (rfD P),w0,.mem τ]from UQ rfl,Res.bind_ok]
  unfold Mo
  simp only[qm,tr]
  rfl
 exact .of (xp fz) ⟨[.d (rfD P),w0],Mem.nil,rfl,rfl,rfl⟩
theorem Rz {F:AK} {f:AK} {o:O} {y:D} {s':S} {ρ:List S} (h:f ρ=.ok (.fr o) ρ) (hF:F [.own o]=.ok (.d y) [s']):aFn F (za f ze) ρ=.ok (.d y) ρ:=by
 simp[aFn,za,ze,h,zx,zO,zM,hF,wb]
def Qd:List (List Str)→D
 |[h::r,m]=>if (yk h&&((Zk r).isSome&&(Zk m).isSome))=true then .tup [.str h,Xr (Zk r),Xr (Zk m)]else .non
 |_=>.non
theorem rR:∀ws:List Str,D.pyL (ws.map .str)=some (ws.map PyData.str)
 |[]=>rfl
 |w::ws=>by rw[List.map_cons,D.pyL,D.py,rR ws]; rfl
theorem bt:∀ps:List (List Str),D.pyL (ps.map zk)=some (ps.map fun p=>PyData.tuple (p.map PyData.str))
 |[]=>rfl
 |p::ps=>by
  have e:D.py (zk p)=some (.tuple (p.map PyData.str)):=by unfold zk; rw[D.py,rR]; rfl
  rw[List.map_cons,D.pyL,e,bt ps]; rfl
theorem gG:∀ws:List Str,PyData.plainAll (ws.map PyData.str)=true
 |[]=>rfl
 |w::ws=>by rw[List.map_cons,PyData.plainAll,gG ws]; rfl
theorem v9:∀ps:List (List Str),PyData.plainAll (ps.map fun p=>PyData.tuple (p.map PyData.str))=true
 |[]=>rfl
 |p::ps=>by
  have e:PyData.plain (.tuple (p.map PyData.str))=true:=by rw[PyData.plain]; exact gG p
  rw[List.map_cons,PyData.plainAll,e,v9 ps]; rfl
theorem MT (h:Str) (p q:Option (List (List Str))):oA .non (.tup [.str h,Xr p,Xr q])=some (eBl (p.isSome&&q.isSome)):=by
 have e:∀p:Option (List (List Str)),∃z,D.py (Xr p)=some z∧z.plain=true∧PyData.eqv z .none=!p.isSome:=fun p=>by
  cases p with
  |none=>exact⟨.none,rfl,rfl,rfl⟩
  |some ps=>
   refine⟨.tuple (ps.map fun p=>PyData.tuple (p.map PyData.str)),?_,?_,rfl⟩
   ·unfold Xr; rw[D.py,bt]; rfl
   ·rw[PyData.plain]; exact v9 ps
 obtain⟨z,z1,z2,z3⟩:=e p
 obtain⟨y,y1,y2,y3⟩:=e q
 have py:D.py (.tup [.str h,Xr p,Xr q])=some (.tuple [.str h,z,y]):=by
  rw[D.py,D.pyL,D.pyL,D.pyL,D.pyL,z1,y1]; rfl
 have s1:PyData.eqv (.str h) .none=false:=rfl
 have pl:PyData.plainAll [.str h,z,y]=true:=by
  rw[PyData.plainAll,PyData.plainAll,PyData.plainAll,PyData.plainAll,z2,y2]; rfl
 unfold oA inP?
 simp only[py,show D.py .non=some .none from rfl]
 rw[if_pos ⟨pl,rfl,by decide⟩,Option.map_some]
 simp only[List.any_cons,List.any_nil,s1,z3,y3,Bool.false_or,Bool.or_false]
 cases p.isSome<;>cases q.isSome<;>rfl
theorem oC {ls:List (List Str)} (hn:ls.length≤90000) (hl:∀l∈ls,l.length≤90000∧∀w∈l,w.length≤90000):∃ρ',xj [.d (lsD ls)]=.ok (.d (Qd ls)) ρ':=by
 obtain⟨LD,hLD⟩:∃LD,LD=lsD ls:=⟨_,rfl⟩
 have hx:∀(i:Nat) l,ls[i]?=some l→gIx LD (.int (i:Int))=some (.d (.lst (l.map .str))):=fun i l h=>by
  rw[hLD]
  exact ixL (ls.map fun l=>D.lst (l.map .str)) i (.lst (l.map .str)) (by rw[List.getElem?_map,h]; rfl)
 obtain⟨_,g2⟩:=Pl (xs:=ls.map fun l=>D.lst (l.map .str)) (by rw[List.length_map]; omega)
 rw[List.length_map]at g2
 have g2:xT [LD]=some (zN ls.length):=by rw[hLD]; exact g2
 have v0:∀x,zb 0 [.d LD,x]=.ok (.d LD) [.d LD,x]:=fun x=>rfl
 have c1:aT (zg gNe (zh xT (za (zb 0) ze)) (aK c_PAIR_reading)) [.d LD,.no]=.ok (!decide (ls.length=2)) [.d LD,.no]:=by
  refine qi (yh (qj (v:=.d LD) rfl rfl g2) (show aK c_PAIR_reading _=.ok (.d (.int ((2:Nat):Int))) _ from rfl) ?_)
  have:gNe (.int (ls.length:Int)) (.int ((2:Nat):Int))=some (eBl (!decide ((ls.length:Int)=((2:Nat):Int)))):=by unfold gNe D.eq?; rw[bT]; rfl
  rw[this]
  congr 3
  exact decide_eq_decide.mpr (by omega)
 have non:Qd ls=.non→(∀h m,ls≠[h,m])∨(∃m,ls=[[],m])→∃ρ',xj [.d LD]=.ok (.d (Qd ls)) ρ':=fun e0 hh=>by
  refine⟨[.d LD],xR (ρ1:=[.d LD,.no]) rfl ?_⟩
  show xI [.d LD,.no]=_
  unfold xI
  refine(vz (v:=.d .non) (ρ1:=[.d LD,.no]) ?_).trans (by rw[e0])
  unfold qo
  refine(fX ?_).trans rfl
  unfold zW
  rw[c1,Res.bind_ok]
  rcases hh with hh|⟨m,rfl⟩
  ·have:ls.length≠2:=fun e=>by
    match ls,e with
    |[h,m],_=>exact hh h m rfl
   rw[decide_eq_false this]; rfl
  ·rw[decide_eq_true (show([[],m]:List (List Str)).length=2 from rfl)]
   have z0:=hx 0 [] rfl
   have nil:zG ze [.d LD,.no]=.ok (.fr (.lst [])) [.d LD,.no]:=by unfold zG ze; simp[keepL]
   refine qi ?_
   unfold zg zX
   have e1:zg gIx (zb 0) (aK (.int 0)) [.d LD,.no]=.ok (.d (.lst [])) [.d LD,.no]:=yh (v0 _) rfl z0
   unfold zg zX at e1
   rw[e1,Res.bind_ok,nil,Res.bind_ok]
   rfl
 match hls:ls,hl with
 |[h0::r,m],hl=>
  have hl0:=hl (h0::r) (by simp)
  have hlm:=hl m (by simp)
  have lh0:h0.length≤90000:=hl0.2 h0 (by simp)
  have lr:r.length≤90000∧∀w∈r,w.length≤90000:=⟨by have:=hl0.1; simp at this; omega,fun w hw=>hl0.2 w (by simp[hw])⟩
  rw[hls]at hx c1
  rw[←hls,←hLD,hls]
  have z0:=hx 0 (h0::r) rfl
  have z1:=hx 1 m rfl
  have i0:∀x,zg gIx (zb 0) (aK (.int 0)) [.d LD,x]=.ok (.d (.lst ((h0::r).map .str))) [.d LD,x]:=fun x=>yh (v0 x) rfl z0
  have i1:∀x,zg gIx (zb 0) (aK (.int 1)) [.d LD,x]=.ok (.d (.lst (m.map .str))) [.d LD,x]:=fun x=>yh (v0 x) rfl z1
  have s1:qo [.d LD,.no]=.ok .nx [.d LD,.no]:=by
   unfold qo
   refine(UZ ?_).trans rfl
   unfold zW
   rw[c1,decide_eq_true (show([h0::r,m]:List (List Str)).length=2 from rfl),Res.bind_ok]
   have nil:zG ze [.d LD,.no]=.ok (.fr (.lst [])) [.d LD,.no]:=by unfold zG ze; simp[keepL]
   refine qi ?_
   have e1:=i0 .no
   unfold zg zX at e1⊢
   rw[e1,Res.bind_ok,nil,Res.bind_ok]
   rfl
  obtain⟨sa,ea⟩:=J6 (s:=.own (.lst (r.map .str))) (.inl rfl) lr.1 lr.2
  obtain⟨sb,eb⟩:=J6 (s:=.d (.lst (m.map .str))) (.inr (.inl rfl)) hlm.1 hlm.2
  have q1:zg gIx (zg gIx (zb 0) (aK (.int 0))) (aK (.int 0)) [.d LD,.no]=.ok (.d (.str h0)) [.d LD,.no]:=yh (i0 _) rfl (ixL _ 0 (.str h0) rfl)
  have q2:aFn xY (za (zj (zg gIx (zb 0) (aK (.int 0))) (zw (aK (.int 1))) zm) ze) [.d LD,.no]=.ok (.d (Xr (Zk r))) [.d LD,.no]:=by
   have sl:zj (zg gIx (zb 0) (aK (.int 0))) (zw (aK (.int 1))) zm [.d LD,.no]=.ok (.fr (.lst (r.map .str))) [.d LD,.no]:=by
    have:=kO ((h0::r).map D.str) 1
    have this:Qc ((h0::r).map D.str) (some 1) none=r.map .str:=this
    have i0':=i0 .no
    generalize (h0::r).map D.str=R at this i0'
    unfold zj
    rw[i0',Res.bind_ok]
    simp[zw,zm,aK,E.val,gSl,this]
   exact Rz sl ea
  have q3:aFn xY (za (zg gIx (zb 0) (aK (.int 1))) ze) [.d LD,.no]=.ok (.d (Xr (Zk m))) [.d LD,.no]:=wM (xs:=[.lst (m.map .str)]) (yn (i1 _) xQ) eb (fun j h=>by cases h)
  obtain⟨FD,hFD⟩:∃FD,FD=D.tup [.str h0,Xr (Zk r),Xr (Zk m)]:=⟨_,rfl⟩
  have s3:jk [.d LD,.no]=.ok .nx [.d LD,.d FD]:=by
   have l3:(3:Nat)≤sizeLine:=zu (by decide)
   unfold jk
   refine(YL (i:=1) (vF (ds:=[.str h0,Xr (Zk r),Xr (Zk m)]) (yn q1 (yn q2 (yn q3 xQ))) l3) (by simp)).trans ?_
   rw[hFD]; rfl
  have f0:gIx FD (.int 0)=some (.d (.str h0)):=by rw[hFD]; exact ixT _ 0 (.str h0) rfl
  have fn:oA .non FD=some (eBl ((Zk r).isSome&&(Zk m).isSome)):=by rw[hFD]; exact MT _ _ _
  have v1:zb 1 [.d LD,.d FD]=.ok (.d FD) [.d LD,.d FD]:=rfl
  have d1:aT (aFn qg (za (zg gIx (zb 1) (aK (.int 0))) ze)) [.d LD,.d FD]=.ok (yk h0) [.d LD,.d FD]:=qi (wM (xs:=[.str h0]) (yn (yh v1 rfl f0) xQ) (vd h0 (by omega)) (fun j h=>by cases h))
  have d2:aT (zg oA (aK .non) (zb 1)) [.d LD,.d FD]=.ok ((Zk r).isSome&&(Zk m).isSome) [.d LD,.d FD]:=qi (yh (x:=.non) rfl v1 fn)
  have dd:=Rk d1 d2
  refine⟨[.d LD],xR (ρ1:=[.d LD,.d FD]) rfl ?_⟩
  show xI [.d LD,.no]=_
  unfold xI
  refine(zU s1).trans ((zU s3).trans ?_)
  unfold Z2
  refine xp ?_
  unfold aIf
  rw[dd,Res.bind_ok]
  unfold Qd
  simp only
  split
  ·rw[v1,hFD]
  ·rfl
 |[],_=>rw[←hls,←hLD]; exact non (by rw[hls]; rfl) (.inl fun h m e=>by rw[hls]at e; cases e)
 |[_],_=>rw[←hls,←hLD]; exact non (by rw[hls]; unfold Qd; split<;>first|rfl|(rename_i e; cases e)) (.inl fun h m e=>by rw[hls]at e; cases e)
 |[]::m::[],_=>rw[←hls,←hLD]; exact non (by rw[hls]; rfl) (.inr ⟨m,hls⟩)
 |_::_::_::_,_=>rw[←hls,←hLD]; exact non (by rw[hls]; unfold Qd; split<;>first|rfl|(rename_i e; cases e)) (.inl fun h m e=>by rw[hls]at e; cases e)
def kindsW:List Str:=["houses","slot","bears","never","lapse"]
def LH (ws:List Str):D:=match xM 2 ws with
 |some (a::b::r)=>.tup [.str a,.str b,zk r]
 |_=>.non
def thK (k:Str) (rest:List Str):D:=if k="houses" then U9 (xM 0 rest)else if k="slot" then LH rest else if k∈(["bears","never"]:List Str)then Xr (Zk rest)else if k∈kindsW then Qd (fL rest)else .non
def thI:List Str→D
 |[]=>.non
 |k::rest=>thK k rest
theorem kM:∀(ws:List Str) (d:List (List Str)) (l:List Str),(Yq d l ws).length≤d.length+ws.length+1∧(∀z∈Yq d l ws,z∈d∨z.length≤l.length+ws.length)∧∀z∈Yq d l ws,∀w∈z,(∃y∈d,w∈y)∨w∈l∨w∈ws
 |[],d,l=>by
  unfold Yq
  refine⟨by simp,fun z hz=>?_,fun z hz w hw=>?_⟩
  ·rcases AW.mp hz with h|h
   ·exact .inl h
   ·rw[A8.mp h]; exact .inr (by simp)
  ·rcases AW.mp hz with h|h
   ·exact .inl ⟨z,h,hw⟩
   ·rw[A8.mp h]at hw; exact .inr (.inl hw)
 |c::ws,d,l=>by
  unfold Yq
  split
  ·obtain⟨h1,h2,h3⟩:=kM ws (d++[l]) []
   refine⟨by simp at h1⊢; omega,fun z hz=>?_,fun z hz w hw=>?_⟩
   ·rcases h2 z hz with h|h
    ·rcases AW.mp h with h|h
     ·exact .inl h
     ·rw[A8.mp h]; exact .inr (by omega)
    ·exact .inr (by simp at h⊢; omega)
   ·rcases h3 z hz w hw with⟨y,hy,h⟩|h|h
    ·rcases AW.mp hy with hy|hy
     ·exact .inl ⟨y,hy,h⟩
     ·rw[A8.mp hy]at h; exact .inr (.inl h)
    ·cases h
    ·exact .inr (.inr (List.mem_cons_of_mem _ h))
  ·obtain⟨h1,h2,h3⟩:=kM ws d (l++[c])
   refine⟨by simp at h1⊢; omega,fun z hz=>?_,fun z hz w hw=>?_⟩
   ·rcases h2 z hz with h|h
    ·exact .inl h
    ·exact .inr (by simp at h⊢; omega)
   ·rcases h3 z hz w hw with h|h|h
    ·exact .inl h
    ·rcases AW.mp h with h|h
     ·exact .inr (.inl h)
     ·rw[A8.mp h]; exact .inr (.inr AN)
    ·exact .inr (.inr (List.mem_cons_of_mem _ h))
theorem tE {ws:List Str} {n:Nat} (hl:ws.length<n) (hw:∀w∈ws,w.length≤n):(fL ws).length≤n∧∀l∈fL ws,l.length≤n∧∀w∈l,w.length≤n:=by
 obtain⟨h1,h2,h3⟩:=kM ws [] []
 refine⟨by unfold fL; simp at h1; omega,fun l h=>⟨?_,fun w hw'=>?_⟩⟩
 ·rcases h2 l h with z|z
  ·cases z
  ·simp at z; omega
 ·rcases h3 l h w hw' with⟨y,z,_⟩|z|z
  ·cases z
  ·cases z
  ·exact hw w z
theorem mV (z:Str) (ws:List Str):gIn (.str z) (zk ws)=some (eBl (decide (z∈ws))):=by
 unfold gIn
 rw[WS.in_strs]; rfl
theorem tW {F:AK} {f:AK} {x y:D} {ρ ρ1 ρ':List S} (h:f ρ=.ok (.d x) ρ1) (hF:F [.d x]=.ok (.d y) ρ'):aFn F (za f ze) ρ=.ok (.d y) ρ1:=by
 unfold aFn za ze
 rw[h]
 cases ρ'<;>simp[zx,zO,zM,hF,wb]
theorem Ke (z:Str):gIn (.str z) c_KINDS=some (eBl (decide (z∈kindsW))):=mV z kindsW
theorem Mu (z:Str):gIn (.str z) c_PATTERN_KINDS=some (eBl (decide (z∈(["bears","never"]:List Str)))):=mV z ["bears","never"]
theorem iB {k:Str} {rest:List Str} (hl:rest.length<90000) (hw:∀w∈rest,w.length≤90000):∃ρ',Yb [.d (.lst ((k::rest).map .str))]=.ok (.d (thI (k::rest))) ρ':=by
 obtain⟨L,hL⟩:∃L,L=D.lst ((k::rest).map .str):=⟨_,rfl⟩
 obtain⟨P,hP⟩:∃P:S→List S,P=fun r=>[S.d L,.d (.str k),r]:=⟨_,rfl⟩
 have i0:gIx L (.int 0)=some (.d (.str k)):=by rw[hL]; exact ixL _ 0 (.str k) rfl
 have sl:zj (zb 0) (zw (aK (.int 1))) zm [.d L,.no,.no]=.ok (.fr (.lst (rest.map .str))) [.d L,.no,.no]:=by
  have:=kO ((k::rest).map D.str) 1
  have this:Qc ((k::rest).map D.str) (some 1) none=rest.map .str:=this
  rw[hL]
  generalize (k::rest).map D.str=R at this
  unfold zj
  rw[show zb 0 [.d (.lst R),.no,.no]=.ok (.d (.lst R)) [.d (.lst R),.no,.no]from rfl,Res.bind_ok]
  simp[zw,zm,aK,E.val,gSl,this]
 have s1:Vm [.d L,.no,.no]=.ok .nx (P (.own (.lst (rest.map .str)))):=by
  unfold Vm z9
  have e:za (zg gIx (zb 0) (aK (.int 0))) (za (zj (zb 0) (zw (aK (.int 1))) zm) ze) [.d L,.no,.no]=.ok [.d (.str k),.fr (.lst (rest.map .str))] [.d L,.no,.no]:=Yp (yh rfl rfl i0) (Yp sl Jc)
  rw[e,hP]
  rfl
 have v1:∀r,zb 1 (P r)=.ok (.d (.str k)) (P r):=fun r=>qF (by rw[hP]; rfl)
 have k0:∀r,zg gIx (aK c_KINDS) (aK (.int 0)) (P r)=.ok (.d (.str "houses")) (P r):=fun r=>yh rfl rfl rfl
 have k1:∀r,zg gIx (aK c_KINDS) (aK (.int 1)) (P r)=.ok (.d (.str "slot")) (P r):=fun r=>yh rfl rfl rfl
 have c0:∀r,aT (zg gEq (zb 1) (zg gIx (aK c_KINDS) (aK (.int 0)))) (P r)=.ok (decide (k="houses")) (P r):=fun r=>qi (yh (v1 r) (k0 r) (WS.eq_strs _ _))
 have c1:∀r,aT (zg gEq (zb 1) (zg gIx (aK c_KINDS) (aK (.int 1)))) (P r)=.ok (decide (k="slot")) (P r):=fun r=>qi (yh (v1 r) (k1 r) (WS.eq_strs _ _))
 have c2:∀r,aT (zg gIn (zb 1) (aK c_PATTERN_KINDS)) (P r)=.ok (decide (k∈(["bears","never"]:List Str))) (P r):=fun r=>qi (yh (v1 r) rfl (Mu _))
 have c3:∀r,aT (zg gIn (zb 1) (aK c_KINDS)) (P r)=.ok (decide (k∈kindsW)) (P r):=fun r=>qi (yh (v1 r) rfl (Ke _))
 have own:eD (.own (.lst (rest.map .str))) rest:=.inl rfl
 have call:∀{F:AK} {y:D} {s':S},F [.own (.lst (rest.map .str))]=.ok (.d y) [s']→aFn F (za (zb 2) ze) (P (.own (.lst (rest.map .str))))=.ok (.d y) (P s'):=fun {F y s'} h=>by
  rw[hP]
  generalize rest.map D.str=R at h
  simp[aFn,za,ze,zb,zx,zO,zM,h,wb]
 suffices h:∃ρ',Ui [.d L,.no,.no]=.ok (.rt (.d (thI (k::rest)))) ρ' by
  obtain⟨ρ',h⟩:=h
  exact⟨ρ'.take 1,xR rfl (by rw[←hL]; exact h)⟩
 unfold Ui
 rw[zU s1]
 show∃ρ',_=Res.ok (Fl.rt (E.d (thK k rest))) ρ'
 unfold thK
 by_cases h0:k="houses"
 ·rw[if_pos h0]
  obtain⟨s',e⟩:=vg own (by omega) (fun w h=>by have:=hw w h; omega) 0
  have e:qk [.own (.lst (rest.map .str)),.d (.int 0)]=.ok (.d (U9 (xM 0 rest))) [s',.d (.int 0)]:=e
  refine⟨P s',vz ?_⟩
  unfold XU uo
  refine(fX (by rw[c0,decide_eq_true h0])).trans (xp ?_)
  rw[hP]
  generalize rest.map D.str=R at e
  generalize U9 (xM 0 rest)=Z at e
  simp[aFn,za,ze,zb,aK,zx,zO,zM,e,wb]
 rw[if_neg h0]
 have s2:XU (P (.own (.lst (rest.map .str))))=.ok .nx (P (.own (.lst (rest.map .str)))):=by
  unfold XU
  exact(UZ (by rw[c0,decide_eq_false h0])).trans rfl
 rw[zU s2]
 by_cases h1:k="slot"
 ·rw[if_pos h1]
  obtain⟨s',e⟩:=Nq own (by omega) hw
  refine⟨P s',vz ?_⟩
  unfold XW uq
  exact(fX (by rw[c1,decide_eq_true h1])).trans (xp (call e))
 rw[if_neg h1]
 have s4:XW (P (.own (.lst (rest.map .str))))=.ok .nx (P (.own (.lst (rest.map .str)))):=by
  unfold XW
  exact(UZ (by rw[c1,decide_eq_false h1])).trans rfl
 rw[zU s4]
 by_cases h2:k∈(["bears","never"]:List Str)
 ·rw[if_pos h2]
  obtain⟨s',e⟩:=J6 own (by omega) hw
  refine⟨P s',vz ?_⟩
  unfold XX ur
  exact(fX (by rw[c2,decide_eq_true h2])).trans (xp (call e))
 rw[if_neg h2]
 have s6:XX (P (.own (.lst (rest.map .str))))=.ok .nx (P (.own (.lst (rest.map .str)))):=by
  unfold XX
  exact(UZ (by rw[c2,decide_eq_false h2])).trans rfl
 rw[zU s6]
 unfold ut
 by_cases h3:k∈kindsW
 ·rw[if_pos h3]
  obtain⟨s',e⟩:=vp own (by omega)
  obtain⟨l1,l2⟩:=tE hl hw
  obtain⟨ρ',e2⟩:=oC (by omega) (fun l h=>⟨by have:=(l2 l h).1; omega,(l2 l h).2⟩)
  refine⟨P s',xp ?_⟩
  unfold aIf
  rw[c3,decide_eq_true h3,Res.bind_ok,if_pos rfl]
  refine tW (call e) e2
 ·rw[if_neg h3]
  refine⟨P (.own (.lst (rest.map .str))),xp ?_⟩
  unfold aIf
  rw[c3,decide_eq_false h3,Res.bind_ok,if_neg Bn]
  rfl
open L2.AL.K14 (One US Uj jC kz split_count split_part Vj)
local macro_rules|`(tactic|simp[AI]) => `(tactic|simp[zJ,yf,zt,sIf,zH,zL,zp,z9,sTg,zy,sNx,zb,aK,za,ze,zg,zX,zh,zY,E.val,aT,zz,zF,zW,zB,yl,zK,aIf,zr,zV,zG,keepL,keep1,zq,toSL,toS,setL,aFn,zx,zO,zM,wb,zn,D.items?,zC,D.tyn,zj,zw,zm,yc,D.isi,gIs,yj,D.is?,D.seq?,zD,O.toD,eBl,zN,z_,zQ,tsetL,zo,zA,ya,D.imm])
local macro_rules|`(tactic|simp[AI,$xs,*]) => `(tactic|simp[zJ,yf,zt,sIf,zH,zL,zp,z9,sTg,zy,sNx,zb,aK,za,ze,zg,zX,zh,zY,E.val,aT,zz,zF,zW,zB,yl,zK,aIf,zr,zV,zG,keepL,keep1,zq,toSL,toS,setL,aFn,zx,zO,zM,wb,zn,D.items?,zC,D.tyn,zj,zw,zm,yc,D.isi,gIs,yj,D.is?,D.seq?,zD,O.toD,eBl,zN,z_,zQ,tsetL,zo,zA,ya,D.imm,$xs,*])
section
variable {W:Wd} {ls:S}
def iSX (fs:List (Str×D)) (W:Wd):List S:=[.own (.ins "World" fs),.d (zk W.hs),.d (zE W.sl),.d (yo W.be),.d (yo W.ne),.d (qH W.la)]
theorem dT (g:Good W):yp (iSX [] W)=.ok (.d .non) (iSX [("own_places",xf W.sl),("own_parts",jF W),("own_stands",qb W.sl)] W):=by
 have k:=g.k
 have n1:¬("own_places":Str)="own_parts":=by decide+kernel
 have n2:¬("own_places":Str)="own_stands":=by decide+kernel
 have n3:¬("own_parts":Str)="own_stands":=by decide+kernel
 have s1:Zs (iSX [] W)=.ok .nx (iSX [] W):=by
  have e:=g.parts
  unfold iSX
  generalize zk W.hs=h at e⊢
  generalize zE W.sl=s at e⊢
  generalize yo W.be=b at e⊢
  generalize yo W.ne=n at e⊢
  generalize qH W.la=l at e⊢
  simp[AI,Zs,e]
 have l6:W.sl.length≤6:=k.sl.len.2
 have s3:Zt (iSX [] W)=.ok .nx (iSX [("own_places",xf W.sl)] W):=by
  have e:=ig k.sl.nd (show W.sl.length≤1000 by omega)
  have pl:(O.dct (plK 0 W.sl)).toD=xf W.sl:=rfl
  unfold iSX
  generalize zE W.sl=s at e⊢
  simp[AI,Zt,e,gL,rP,xf]
 have pin:∀p∈W.be++W.ne,sk W.sl (ZM W.sl) p∧p.length≤sizeLine:=fun p hp=>by
  have q:yG W.sl p=true:=by
   rcases AW.mp hp with h|h
   ·exact(k.be p h).1
   ·exact(k.ne p h).1
  exact⟨PB q (by unfold ZM; rw[List.length_map]),zu (by have:=(g.pat q).1; omega)⟩
 have s4:Zu (iSX [("own_places",xf W.sl)] W)=.ok .nx (iSX [("own_places",xf W.sl)] W):=by
  have e:=Ni pin (zu (by rw[AS]; have:=g.few; omega))
  rw[g.at_first]at e
  have f:=mO (fun s h=>(k.sl.ok.ws s h).1) (show W.sl.length≤sizeLine from zu (by omega))
  have ga:yP (yo W.be) (yo W.ne)=some (.d (yo (W.be++W.ne))):=by
   unfold yo
   simp only[yP]
   rw[if_pos (zu (by simp only[List.length_map]; have:=g.few; omega)),A7]
  unfold iSX
  generalize zE W.sl=s at f⊢
  generalize zk (ZM W.sl)=ft at e f
  generalize yo (W.be++W.ne)=bn at e ga
  generalize yo W.be=b at ga⊢
  generalize yo W.ne=n at ga⊢
  generalize xf W.sl=pl at e⊢
  simp[AI,Zu,f,ga,Y9,e]
 have s6:Zv (iSX [("own_places",xf W.sl)] W)=.ok .nx (iSX [("own_places",xf W.sl),("own_parts",jF W)] W):=by
  have l5:(5:Nat)≤sizeLine:=by decide
  unfold iSX jF
  generalize zk W.hs=h
  generalize zE W.sl=s
  generalize yo W.be=b
  generalize yo W.ne=n
  generalize qH W.la=l
  simp[AI,Zv,gL,rP,l5,n1]
 have s7:Zw (iSX [("own_places",xf W.sl),("own_parts",jF W)] W)=.ok .nx (iSX [("own_places",xf W.sl),("own_parts",jF W),("own_stands",qb W.sl)] W):=by
  have e:=iz k.sl.ok
  unfold iSX
  generalize zE W.sl=s at e⊢
  simp[AI,Zw,gL,rP,e,n2,n3]
 have b:Z6 (iSX [] W)=.ok .nx (iSX [("own_places",xf W.sl),("own_parts",jF W),("own_stands",qb W.sl)] W):=by
  unfold Z6
  rw[zU s1,zU s3,zU s4,zU s6,s7]
 unfold yp zJ
 rw[if_pos (show(iSX [] W).length=6 from rfl),show iSX [] W++List.replicate 0 S.no=iSX [] W from A6 _,b]
 rfl
end
def bR (k:Str):Option Str→Bool
 |none=>decide (k="houses")
 |some l=>!decide (k="houses")&&decide (kindsW.idxOf l≤kindsW.idxOf k)
def qQ:Option Str→D
 |none=>.non
 |some l=>.str l
theorem dS {z:Str} (h:z∈kindsW):vN c_KINDS [.str z]=some (zN (kindsW.idxOf z:Nat)):=by
 unfold kindsW at h
 simp only[List.mem_cons,List.not_mem_nil,or_false]at h
 have e:∀w∈kindsW,(match D.pyL (kindsW.map .str),D.py (.str w)with
  |some ps,some px=>if ((ps.all fun d=>PySem.W.alike d px&&d.canLay0)=true∧px.depth≤60)∧(ps.findIdx fun d=>PyData.eqv d px)<ps.length then some (ps.findIdx fun d=>PyData.eqv d px)else none
  |_,_=>none)=some (kindsW.idxOf w):=by decide+kernel
 have e:=e z (by unfold kindsW; simp only[List.mem_cons,List.not_mem_nil,or_false]; exact h)
 show(match D.pyL (kindsW.map .str),D.py (.str z)with
  |some ps,some px=>if ((ps.all fun d=>PySem.W.alike d px&&d.canLay0)=true∧px.depth≤60)∧(ps.findIdx fun d=>PyData.eqv d px)<ps.length then some (zN (ps.findIdx fun d=>PyData.eqv d px:Nat))else none
  |_,_=>none)=_
 generalize D.pyL (kindsW.map .str)=A at e⊢
 generalize D.py (.str z)=B at e⊢
 cases A with
 |none=>cases e
 |some ps=>
  cases B with
  |none=>cases e
  |some px=>
   simp only at e⊢
   split at e
   ·rename_i c
    rw[if_pos c,Option.some.inj e]
   ·cases e
theorem Pi (a b:Nat):gLe (.int (a:Int)) (.int (b:Int))=some (eBl (decide (a≤b))):=by
 have:gLe (.int (a:Int)) (.int (b:Int))=some (eBl (decide ((a:Int)≤(b:Int)))):=rfl
 rw[this]
 congr 2
 exact decide_eq_decide.mpr (by omega)
theorem L_ {k:Str} {l:Option Str} (hk:k∈kindsW) (hl:∀z,l=some z→z∈kindsW):ju [.d (.str k),.d (qQ l)]=.ok (.d (.bl (bR k l))) [.d (.str k),.d (qQ l)]:=by
 obtain⟨P,hP⟩:∃P,P=[S.d (.str k),.d (qQ l)]:=⟨_,rfl⟩
 have v0:zb 0 P=.ok (.d (.str k)) P:=qF (by rw[hP]; rfl)
 have v1:zb 1 P=.ok (.d (qQ l)) P:=qF (by rw[hP]; rfl)
 have k0:zg gIx (aK c_KINDS) (aK (.int 0)) P=.ok (.d (.str "houses")) P:=yh rfl rfl rfl
 have g1:gIs (qQ l) .non=some (eBl l.isNone):=by cases l<;>rfl
 have c1:zg gIs (zb 1) (aK .non) P=.ok (.d (.bl l.isNone)) P:=yh v1 rfl g1
 have c2:zg gEq (zb 0) (zg gIx (aK c_KINDS) (aK (.int 0))) P=.ok (.d (.bl (decide (k="houses")))) P:=yh v0 k0 (WS.eq_strs _ _)
 have cc:=RS (qi c1) (qi c2)
 have s2:zH (zB (zg gIs (zb 1) (aK .non)) (zg gEq (zb 0) (zg gIx (aK c_KINDS) (aK (.int 0))))) P=.ok (.rt (.d (.bl (l.isNone&&decide (k="houses"))))) P:=xp (i7 (qi c1) fun _=>c2)
 suffices h:JN P=.ok (.rt (.d (.bl (bR k l)))) P by
  rw[hP]at h
  exact(xR (np:=2) (nl:=0) rfl h).trans rfl
 unfold JN
 by_cases hc:(l.isNone||decide (k="houses"))=true
 ·have:(l.isNone&&decide (k="houses"))=bR k l:=by
   cases l with
   |none=>rfl
   |some z=>
    have:decide (k="houses")=true:=hc
    show false=_
    unfold bR
    rw[this]; rfl
  rw[hc]at cc
  rw[←this]
  refine vz ?_
  unfold Q5 UO
  rw[fX cc]
  exact s2
 ·have hc:=Bool.eq_false_iff.mpr hc
  rw[hc]at cc
  rw[Bool.or_eq_false_iff]at hc
  obtain⟨z,rfl⟩:∃z,l=some z:=by
   cases l with
   |none=>cases hc.1
   |some z=>exact⟨z,rfl⟩
  refine(zU (ρ1:=P) ?_).trans ?_
  ·unfold Q5
   rw[UZ cc]; rfl
  unfold UP
  refine xp ?_
  have i1:Yf vN (aK c_KINDS) (za (zb 1) ze) P=.ok (.d (.int (kindsW.idxOf z:Nat))) P:=by
   have e:za (zb 1) ze P=.ok [.d (.str z)] P:=Yp v1 Jc
   unfold Yf aK
   simp only[Res.bind_ok,E.val,c_KINDS,e,zY]
   have:=dS (hl z rfl)
   unfold c_KINDS at this
   rw[this]
  have i2:Yf vN (aK c_KINDS) (za (zb 0) ze) P=.ok (.d (.int (kindsW.idxOf k:Nat))) P:=by
   have e:za (zb 0) ze P=.ok [.d (.str k)] P:=Yp v0 Jc
   unfold Yf aK
   simp only[Res.bind_ok,E.val,c_KINDS,e,zY]
   have:=dS hk
   unfold c_KINDS at this
   rw[this]
  unfold bR
  rw[hc.2]
  exact yh i1 i2 (Pi _ _)
def jl (t:Str):List (List Str):=(Txt.split t "\n").map fun l=>Txt.split l " "
def yz (ws:List Str):D:=.lst (ws.map .str)
theorem oP {t:Str} (ht:t.length≤90000):jv [.d (.str t)]=.ok (.fr (.lst ((jl t).map yz))) [.d (.str t)]:=by
 have e1:zn (zC "str" ZN (zb 0) (za (aK c_FEED) ze)) [.d (.str t),.no]=.ok ((Txt.split t "\n").map .str) [.d (.str t),.no]:=by
  have hs:ZN (.str t) [c_FEED]=some (.fr (.lst ((Txt.split t "\n").map .str))):=gX US ht
  simp[zn,zC,zb,aK,E.val,D.tyn,za,ze,zY,hs,keep1,O.toD,D.items?]
 have comp:aLc [1] (zn (zC "str" ZN (zb 0) (za (aK c_FEED) ze))) (.nm 1) yX (zC "str" ZN (zb 1) (za (aK c_BLANK) ze)) [.d (.str t),.no]=.ok (.fr (.lst ((jl t).map yz))) [.d (.str t),.no]:=by
  unfold jl
  rw[AY]
  refine UI (fun l=>D.str l) (yz∘fun l=>Txt.split l " ") (Txt.split t "\n") (ρ1:=[.d (.str t),.no]) e1 rfl (fun l hl'=>?_) (zu (AU (split_count US) (by omega)))
  refine⟨_,.fr (.lst ((Txt.split l " ").map .str)),rfl,?_,rfl,rfl⟩
  have hs:ZN (.str l) [c_BLANK]=some (.fr (.lst ((Txt.split l " ").map .str))):=gX Uj (by have:=split_part US hl'; omega)
  simp[zC,zb,aK,E.val,D.tyn,za,ze,zY,hs,zo]
 refine(vw (ρ1:=[.d (.str t),.no]) rfl ?_).trans rfl
 show Ue [.d (.str t),.no]=_
 unfold Ue vQ
 rw[zU (ρ1:=[.d (.str t),.no]) (by simp[AI])]
 unfold vR vP
 exact xp comp
theorem oO (t:Str):jl t≠[]∧∀ws∈jl t,ws≠[]:=by
 unfold jl
 refine⟨fun h=>kz US (List.map_eq_nil_iff.mp h),fun ws h=>?_⟩
 obtain⟨l,_,rfl⟩:=AM.mp h
 exact kz Uj
theorem pZ {t:Str} {n:Nat} (ht:t.length<n):(jl t).length≤n∧∀ws∈jl t,ws.length≤n∧∀w∈ws,w.length≤n:=by
 unfold jl
 refine⟨by rw[List.length_map]; have:=split_count (x:=t) US; omega,fun ws h=>?_⟩
 obtain⟨l,hl,rfl⟩:=AM.mp h
 have h1:=split_part US hl
 exact⟨by have:=split_count (x:=l) Uj; omega,fun w hw=>by have:=split_part Uj hw; omega⟩
end L2.AL.WS.R
namespace L2.AL.WS.R
open PySem PySem.Spec PyProof.Rows L2 L2.AL L2.AL.SH L2.AL.WS L2.AL.YS TL
def eA {α:Type} (P:α→List S→Prop) (X:Exc→List S→Prop):Res α→Prop
 | .ok a ρ=>P a ρ
 | .ex e ρ=>X e ρ
 | .no=>False
 | .new τ k=>∀a,τ a=none→eA P X (k a)
section
variable {α β:Type} {P:α→List S→Prop} {Q:β→List S→Prop} {X:Exc→List S→Prop}
theorem eM {g:AJ} {P:List S→Prop} {Q:Fl→List S→Prop} {r:Res Fl} (h:r.All (Nx P)) (w:∀ρ,P ρ→eA Q X (g ρ)):eA Q X (Lq g r):=by
 induction r with
 |ok fl ρ=>obtain⟨rfl,hp⟩:=h; exact w ρ hp
 |ex e ρ=>exact h.elim
 |no=>exact h.elim
 |new τ k ih=>exact fun a e=>ih a (h a e)
theorem iW {f g:AJ} {P:List S→Prop} {Q:Fl→List S→Prop} {ρ:List S} (h:(f ρ).All (Nx P)) (w:∀ρ1,P ρ1→eA Q X (g ρ1)):eA Q X (zt f g ρ):=by
 rw[cJ]; exact eM h w
theorem PV {np nl:Nat} {f:AJ} {zs zs':List S} {r0:Res E} (hn:zs.length=np) (hn':zs'.length=np)
  (h:eA (fun fl ρ'=>∃ls τ' x,ls.length=nl∧ρ'=zs'++(ls++[.mem τ'])∧fl=.rt (.d x)∧r0=.ok (.d x) zs') (fun e ρ'=>∃ls τ',ls.length=nl∧ρ'=zs'++(ls++[.mem τ'])∧r0=.ex e zs') (f (zs++(List.replicate nl .no++[.mem Mem.nil])))):gK (vv np nl f) zs=r0:=by
 unfold gK
 refine vK ?_
 unfold vv
 rw[if_pos (by simp[hn])]
 have e1:(zs++[S.mem Mem.nil]).take np=zs:=by
  rw[List.take_append_of_le_length (by simp[hn])]
  exact BR (by simp[hn])
 have e2:(zs++[S.mem Mem.nil])[np]?=some (.mem Mem.nil):=by
  rw[AV (by simp[hn])]
  simp[hn]
 rw[e1,e2,Bi]
 show DetB r0 (ic np nl (f (zs++(List.replicate nl S.no++[S.mem Mem.nil]))))
 generalize f (zs++(List.replicate nl S.no++[S.mem Mem.nil]))=r at h
 have pj:∀{ls:List S} {τ':Mem},ls.length=nl→(pjM np nl (zs'++(ls++[.mem τ']))).dropLast=zs':=fun {ls τ'} hl=>by
  rw[K_ hn' hl,List.dropLast_concat]
 induction r with
 |no=>exact h.elim
 |new τ k ih=>exact fun a e=>ih a (h a e)
 |ex e ρ=>
  obtain⟨ls,τ',h2,rfl,rfl⟩:=h
  show Res.ex e _=Res.ex e _
  rw[pj h2]
 |ok fl ρ=>
  obtain⟨ls,τ',x,h2,rfl,rfl,rfl⟩:=h
  refine⟨⟨fun i e=>(by cases e),fun a e=>(by cases e)⟩,?_⟩
  show Res.ok _ _=_
  rw[pj h2]
end
abbrev St5:=List (List D)×Option Str
def o_:D→Bool
 | .non=>true
 |_=>false
def JI (F:List (List D)) (i:Nat) (x:D):List (List D):=F.set i ((F[i]?.getD [])++[x])
def um (s:St5) (ws:List Str):Option St5:=match ws with
 |[]=>none
 |k::r=>if o_ (thK k r)||!bR k s.2 then none else some (JI s.1 (kindsW.idxOf k) (thK k r),some k)
def Yv:List (List Str)→Nat→St5→Except Nat St5
 |[],_,s=>.ok s
 |ws::l,n,s=>match um s ws with
  |none=>.error n
  |some s'=>Yv l (n+1) s'
def s0R:St5:=([[],[],[],[],[]],none)
def kvW:List Addr→List (Key×D)
 |[a,b,c,d,e]=>[(.inr "houses",rfD a),(.inr "slot",rfD b),(.inr "bears",rfD c),(.inr "never",rfD d),(.inr "lapse",rfD e)]
 |_=>[]
theorem Ml {α:Type}:∀{l:List α},l.length=5→∃a b c d e,l=[a,b,c,d,e]
 |[a,b,c,d,e],_=>⟨a,b,c,d,e,rfl⟩
theorem mZ {k:Str} (h:k∈kindsW):kindsW.idxOf k<5:=by
 have:=List.idxOf_lt_length_iff.mpr h
 exact this
theorem NI {as:List Addr} (h5:as.length=5) {k:Str} (hk:k∈kindsW):∃a,as[kindsW.idxOf k]?=some a∧gIx (.dct (kvW as)) (.str k)=some (.d (rfD a)):=by
 obtain⟨a,b,c,d,e,rfl⟩:=Ml h5
 unfold kindsW at hk
 simp only[List.mem_cons,List.not_mem_nil,or_false]at hk
 rcases hk with rfl|rfl|rfl|rfl|rfl
 ·exact⟨a,by rw[show kindsW.idxOf ("houses":Str)=0 by decide+kernel]; rfl,rfl⟩
 ·exact⟨b,by rw[show kindsW.idxOf ("slot":Str)=1 by decide+kernel]; rfl,rfl⟩
 ·exact⟨c,by rw[show kindsW.idxOf ("bears":Str)=2 by decide+kernel]; rfl,rfl⟩
 ·exact⟨d,by rw[show kindsW.idxOf ("never":Str)=3 by decide+kernel]; rfl,rfl⟩
 ·exact⟨e,by rw[show kindsW.idxOf ("lapse":Str)=4 by decide+kernel]; rfl,rfl⟩
theorem lA (k:Str) (r:List Str):(thK k r=.non∨∃xs,thK k r=.tup xs)∧(thK k r≠.non→k∈kindsW):=by
 have o1:∀n ws,U9 (xM n ws)=.non∨∃xs,U9 (xM n ws)=.tup xs:=fun n ws=>by
  cases xM n ws with
  |none=>exact .inl rfl
  |some z=>exact .inr ⟨_,rfl⟩
 have o2:∀ws,Xr (Zk ws)=.non∨∃xs,Xr (Zk ws)=.tup xs:=fun ws=>by
  cases Zk ws with
  |none=>exact .inl rfl
  |some z=>exact .inr ⟨_,rfl⟩
 have o3:∀ws,LH ws=.non∨∃xs,LH ws=.tup xs:=fun ws=>by
  unfold LH
  split
  ·exact .inr ⟨_,rfl⟩
  ·exact .inl rfl
 have o4:∀ls,Qd ls=.non∨∃xs,Qd ls=.tup xs:=fun ls=>by
  unfold Qd
  split
  ·split
   ·exact .inr ⟨_,rfl⟩
   ·exact .inl rfl
  ·exact .inl rfl
 unfold thK
 split
 ·rename_i h; subst h; exact⟨o1 _ _,fun _=>by decide+kernel⟩
 split
 ·rename_i h; subst h; exact⟨o3 _,fun _=>by decide+kernel⟩
 split
 ·rename_i h
  refine⟨o2 _,fun _=>?_⟩
  simp only[List.mem_cons,List.not_mem_nil,or_false]at h
  rcases h with rfl|rfl<;>decide+kernel
 split
 ·rename_i h; exact⟨o4 _,fun _=>h⟩
 ·exact⟨.inl rfl,fun h=>absurd rfl h⟩
theorem Sw (k:Str) (r:List Str):gIs (thK k r) .non=some (eBl (o_ (thK k r))):=by
 rcases(lA k r).1 with h|⟨xs,h⟩<;>rw[h]<;>rfl
theorem Nm {k:Str} {r:List Str} (h:o_ (thK k r)=false):k∈kindsW:=(lA k r).2 fun e=>by rw[e]at h; cases h
def rdS (t fo la x3 x4 x5 x6 x7 x8 x9 x10:S) (τ:Mem):List S:=[t,fo,la,x3,x4,x5,x6,x7,x8,x9,x10,.mem τ]
structure RdC (as:List Addr) (F:List (List D)) (τ:Mem):Prop where
 n5:as.length=5
 f5:F.length=5
 nd:as.Nodup
 at_:∀(j:Nat) a xs,as[j]?=some a→F[j]?=some xs→τ a=some (.lst xs)
structure RdI (t:S) (s:St5) (ρ:List S):Prop where
 ex:∃(as:List Addr) (τ:Mem) (x4 x5 x6:S),ρ=rdS t (.own (.dct (kvW as))) (.d (qQ s.2)) .no x4 x5 x6 .no .no .no .no τ∧RdC as s.1 τ
 la:∀z,s.2=some z→z∈kindsW
theorem RdC.add {as:List Addr} {F:List (List D)} {τ:Mem} (h:RdC as F τ) {i:Nat} {a:Addr} {x:D} (ha:as[i]?=some a):∃xs,F[i]?=some xs∧τ a=some (.lst xs)∧RdC as (JI F i x) (ZX τ a (.lst (xs++[x]))):=by
 have hi:i<as.length:=(AQ.mp ha).1
 have hi2:i<F.length:=by rw[h.f5,←h.n5]; exact hi
 have hF:F[i]?=some F[i]:=AX hi2
 refine⟨_,hF,h.at_ i a _ ha hF,h.n5,?_,h.nd,?_⟩
 ·unfold JI; rw[List.length_set]; exact h.f5
 ·intro j b xs hb hx
  unfold JI at hx
  by_cases hj:i=j
  ·subst hj
   rw[ha]at hb; cases hb
   rw[A0 (by rw[h.f5,←h.n5]; exact hi),hF]at hx
   cases hx
   exact qP
  ·rw[AZ hj]at hx
   have:b≠a:=fun e=>hj ((List.getElem?_inj hi h.nd).mp (by rw[ha,hb,e]))
   rw[jE this]
   exact h.at_ j b xs hb hx
noncomputable def vJ:AJ:=zt Ym (zt qE (zt jh ji))
theorem il {t:S} {s:St5} {ρ:List S} {ws:List Str} {n N:Nat} (I:RdI t s ρ) (hne:ws≠[]) (hl:ws.length<90000) (hw:∀w∈ws,w.length≤90000) (hN:∀xs∈s.1,xs.length≤N) (hN2:N<100000) :
  ∃ρ1,zQ (.tp [(.nm 4),(.nm 5)]) (.wt [.int (n:Int),yz ws]) ρ=some ρ1∧match um s ws with
   |none=>∃ls τ,ls.length=10∧vJ ρ1=.ex ⟨"BadText",[("line",.int (n:Int))]⟩ ([t]++(ls++[.mem τ]))
   |some s'=>(∀xs∈s'.1,xs.length≤N+1)∧∃ρ2,vJ ρ1=.ok .nx ρ2∧RdI t s' ρ2:=by
 obtain⟨as,τ,x4,x5,x6,rfl,c⟩:=I.ex
 obtain⟨k,r,rfl⟩:∃k r,ws=k::r:=by
  cases ws with
  |nil=>exact absurd rfl hne
  |cons k r=>exact⟨k,r,rfl⟩
 obtain⟨WL,hWL⟩:∃WL,WL=yz (k::r):=⟨_,rfl⟩
 rw[←hWL]
 refine⟨rdS t (.own (.dct (kvW as))) (.d (qQ s.2)) .no (.d (.int (n:Int))) (.d WL) x6 .no .no .no .no τ,rfl,?_⟩
 obtain⟨P,hP⟩:∃P:S→S→Mem→List S,P=fun la x m=>rdS t (.own (.dct (kvW as))) la .no (.d (.int (n:Int))) (.d WL) x .no .no .no .no m:=⟨_,rfl⟩
 have e0:∀la x m,rdS t (.own (.dct (kvW as))) la .no (.d (.int (n:Int))) (.d WL) x .no .no .no .no m=P la x m:=fun la x m=>by rw[hP]
 rw[e0]
 have i0:gIx WL (.int 0)=some (.d (.str k)):=by rw[hWL]; exact ixL _ 0 (.str k) rfl
 have v5:∀la x m,zb 5 (P la x m)=.ok (.d WL) (P la x m):=fun la x m=>qF (by rw[hP]; rfl)
 have v2:∀la x m,zb 2 (P (.d la) x m)=.ok (.d la) (P (.d la) x m):=fun la x m=>qF (by rw[hP]; rfl)
 have v6:∀la x m,zb 6 (P la (.d x) m)=.ok (.d x) (P la (.d x) m):=fun la x m=>qF (by rw[hP]; rfl)
 have hm:∀la x m,qm (P la x m)=some m:=fun la x m=>by rw[hP]; rfl
 obtain⟨ρ',th⟩:=iB (k:=k) (rest:=r) (by simp at hl; omega) fun w h=>hw w (List.mem_cons_of_mem _ h)
 have th:Yb [.d WL]=.ok (.d (thK k r)) ρ':=by rw[hWL]; exact th
 have s4:Ym (P (.d (qQ s.2)) x6 τ)=.ok .nx (P (.d (qQ s.2)) (.d (thK k r)) τ):=by
  unfold Ym
  refine(YL (i:=6) (tW (v5 _ _ _) th) (by rw[hP]; simp[rdS])).trans ?_
  rw[hP]; rfl
 have c1:aT (zg gIs (zb 6) (aK .non)) (P (.d (qQ s.2)) (.d (thK k r)) τ)=.ok (o_ (thK k r)) (P (.d (qQ s.2)) (.d (thK k r)) τ):=qi (yh (v6 _ _ _) rfl (Sw k r))
 have raise:zt qE (zt jh ji) (P (.d (qQ s.2)) (.d (thK k r)) τ)=zt qE (zt jh ji) (P (.d (qQ s.2)) (.d (thK k r)) τ)→zW (aT (zg gIs (zb 6) (aK .non))) (zz (aT (aFn ju (za (zg gIx (zb 5) (aK (.int 0))) (za (zb 2) ze))))) (P (.d (qQ s.2)) (.d (thK k r)) τ)=.ok true (P (.d (qQ s.2)) (.d (thK k r)) τ)→
   ∃ls τ1,ls.length=10∧vJ (P (.d (qQ s.2)) x6 τ)=.ex ⟨"BadText",[("line",.int (n:Int))]⟩ ([t]++(ls++[.mem τ1])):=fun _ hc=>by
  refine⟨[.own (.dct (kvW as)),.d (qQ s.2),.no,.d (.int (n:Int)),.d WL,.d (thK k r),.no,.no,.no,.no],τ,rfl,?_⟩
  unfold vJ
  rw[zU s4]
  refine Lr ?_
  unfold qE
  rw[fX hc]
  unfold VZ vy
  have e:za (zb 4) ze (P (.d (qQ s.2)) (.d (thK k r)) τ)=.ok [.d (.int (n:Int))] (P (.d (qQ s.2)) (.d (thK k r)) τ):=Yp (qF (by rw[hP]; rfl)) Jc
  rw[e,hP]; rfl
 unfold um
 simp only
 cases hb:o_ (thK k r)with
 |true=>
  rw[hb]at c1
  exact raise rfl (by unfold zW; rw[c1]; rfl)
 |false=>
  have hk:=Nm hb
  rw[hb]at c1
  have ca:=L_ hk I.la
  have c2:zz (aT (aFn ju (za (zg gIx (zb 5) (aK (.int 0))) (za (zb 2) ze)))) (P (.d (qQ s.2)) (.d (thK k r)) τ)=.ok (!bR k s.2) (P (.d (qQ s.2)) (.d (thK k r)) τ):=
   c_ (qi (wM (xs:=[.str k,qQ s.2]) (yn (yh (v5 _ _ _) rfl i0) (yn (v2 _ _ _) xQ)) ca (fun j h=>by cases h)))
  have cc:=RS c1 c2
  simp only[Bool.false_or]at cc⊢
  cases hc:bR k s.2 with
  |false=>
   rw[hc]at cc
   exact raise rfl cc
  |true=>
   rw[hc]at cc
   rw[if_neg (by decide)]
   obtain⟨a,ha,gk⟩:=NI c.n5 hk
   obtain⟨xs,hx,tx,c'⟩:=c.add (x:=thK k r) ha
   have lx:xs.length≤N:=hN xs (Bh hx)
   have s5:qE (P (.d (qQ s.2)) (.d (thK k r)) τ)=.ok .nx (P (.d (qQ s.2)) (.d (thK k r)) τ):=by
    unfold qE
    exact(UZ cc).trans rfl
   have s7:jh (P (.d (qQ s.2)) (.d (thK k r)) τ)=.ok .nx (P (.d (.str k)) (.d (thK k r)) τ):=by
    unfold jh
    refine(YL (i:=2) (yh (v5 _ _ _) rfl i0) (by rw[hP]; simp[rdS])).trans ?_
    rw[hP]; rfl
   have ob:Yo (zg gIx (Yo (zb 1)) (zb 2)) (P (.d (.str k)) (.d (thK k r)) τ)=.ok (.ad a) (P (.d (.str k)) (.d (thK k r)) τ):=by
    refine UQ (KS (i:=1) (o:=.dct (kvW as)) ?_ (by rw[hP]; rfl) (v2 _ _ _) gk)
    rw[hP]; rfl
   have s8:ji (P (.d (.str k)) (.d (thK k r)) τ)=.ok .nx (P (.d (.str k)) (.d (thK k r)) (ZX τ a (.lst (xs++[thK k r])))):=by
    unfold ji
    refine(sC (w:=.d (thK k r)) (x:=thK k r) ob (v6 _ _ _) rfl (hm _ _ _) tx (by omega)).trans ?_
    rw[hP]; rfl
   refine⟨fun ys hy=>?_,_,?_,⟨as,_,.d (.int (n:Int)),.d WL,.d (thK k r),by rw[e0],c'⟩,fun z hz=>by cases hz; exact hk⟩
   ·unfold JI at hy
    rw[hx]at hy
    rcases List.mem_or_eq_of_mem_set hy with h|h
    ·have:=hN ys h; omega
    ·rw[h]; simp; omega
   ·unfold vJ
    rw[zU s4,zU s5,zU s7]
    exact s8
def enG:Nat→List D→List D
 |_,[]=>[]
 |n,x::xs=>.wt [.int n,x]::enG (n+1) xs
theorem sR:∀(xs:List D) (n:Nat),xs.mapIdx (fun i x=>D.wt [.int ((n+i:Nat):Int),x])=enG n xs
 |[],_=>rfl
 |x::xs,n=>by
  rw[List.mapIdx_cons,enG]
  congr 1
  have:=sR xs (n+1)
  rw[←this]
  congr 1
  funext i y
  rw[show n+(i+1)=n+1+i by omega]
theorem tP (xs:List D):YK xs=enG 0 xs:=by
 rw[←sR]
 unfold YK
 congr 1
 funext i x
 rw[Nat.zero_add]
theorem bu {t:S}:∀(l:List (List Str)) (n N:Nat) (s:St5) (ρ:List S),RdI t s ρ→(∀ws∈l,ws≠[]∧ws.length<90000∧∀w∈ws,w.length≤90000)→(∀xs∈s.1,xs.length≤N)→N+l.length<100000→
  match Yv l n s with
  | .error m=>∃ls τ,ls.length=10∧xr (.tp [(.nm 4),(.nm 5)]) vJ (enG n (l.map yz)) ρ=.ex ⟨"BadText",[("line",.int (m:Int))]⟩ ([t]++(ls++[.mem τ]))
  | .ok s'=>∃ρ',xr (.tp [(.nm 4),(.nm 5)]) vJ (enG n (l.map yz)) ρ=.ok .nx ρ'∧RdI t s' ρ'
 |[],n,N,s,ρ,I,_,_,_=>⟨ρ,rfl,I⟩
 |ws::l,n,N,s,ρ,I,hw,hN,hl=>by
  obtain⟨h1,h2,h3⟩:=hw ws AN
  simp only[List.length_cons]at hl
  obtain⟨ρ1,e1,e2⟩:=il (n:=n) (N:=N) I h1 h2 h3 hN (by omega)
  rw[List.map_cons,enG,UX e1]
  unfold Yv
  cases hs:um s ws with
  |none=>
   rw[hs]at e2
   obtain⟨ls,τ,q1,q2⟩:=e2
   exact⟨ls,τ,q1,by rw[q2]; rfl⟩
  |some s'=>
   rw[hs]at e2
   obtain⟨q0,ρ2,q1,q2⟩:=e2
   rw[q1]
   exact bu l (n+1) (N+1) s' ρ2 q2 (fun ws h=>hw ws (List.mem_cons_of_mem _ h)) q0 (by omega)
abbrev rd0 (t:S) (τ:Mem):List S:=rdS t .no .no .no .no .no .no .no .no .no .no τ
theorem LZ {t:S} {k:Str} {xs:List D} {acc:List (Key×D)} {τ:Mem} {Q:List (Key×D)→List S→Prop} (acc':Addr→List (Key×D)) (he:∀a,JT acc (.inr k) (rfD a)=acc' a) (hl:acc.length<1000)
  (h:∀a,τ a=none→(Q7 (.nm 3) yX (zb 3) (Z0 (zG ze)) [3] xs (acc' a) (rd0 t (ZX τ a (.lst [])))).All Q) :
  (Q7 (.nm 3) yX (zb 3) (Z0 (zG ze)) [3] (.str k::xs) acc (rd0 t τ)).All Q:=by
 have l:acc.length<sizeLine:=Bq hl (zu (by decide))
 obtain⟨ρ1,h1⟩:∃ρ1,ρ1=rdS t .no .no (.d (.str k)) .no .no .no .no .no .no .no τ:=⟨_,rfl⟩
 have ts:zQ (.nm 3) (.str k) (rd0 t τ)=some ρ1:=by rw[h1]; rfl
 have ce:Z0 (zG ze) ρ1=.new τ fun a=>.ok (.ad a) (x_ ρ1 (ZX τ a (.lst []))):=by
  have nil:zG ze ρ1=.ok (.fr (.lst [])) ρ1:=by unfold zG ze; simp[keepL]
  unfold Z0
  rw[nil,h1]; rfl
 have v3:zb 3 ρ1=.ok (.d (.str k)) ρ1:=by rw[h1]; rfl
 rw[Q7,ts]
 simp only[yX,Res.bind_ok,if_true,v3,D.key?,ce,Res.bind_new]
 intro a ha
 have:=h a ha
 simp only[keep1,l,if_true]
 rw[h1,he]
 exact this
theorem wu {as:List Addr} {τ:Mem} {a:Addr} (nd:as.Nodup) (h:∀b∈as,τ b=some (.lst [])) (hn:τ a=none):(as++[a]).Nodup∧∀b∈as++[a],ZX τ a (.lst []) b=some (.lst []):=by
 have na:a∉as:=fun hm=>by rw[h a hm]at hn; cases hn
 refine⟨List.nodup_append.mpr ⟨nd,by simp,fun x hx y hy e=>?_⟩,fun b hb=>?_⟩
 ·rw[A8.mp hy]at e; exact na (by rw[←e]; exact hx)
 ·rcases AW.mp hb with hb|hb
  ·rw[jE fun e:b=a=>na (by rw[←e]; exact hb)]; exact h b hb
  ·rw[A8.mp hb]; exact qP
def kp1 (a:Addr):List (Key×D):=[(.inr "houses",rfD a)]
def kp2 (a b:Addr):List (Key×D):=[(.inr "houses",rfD a),(.inr "slot",rfD b)]
def kp3 (a b c:Addr):List (Key×D):=[(.inr "houses",rfD a),(.inr "slot",rfD b),(.inr "bears",rfD c)]
def kp4 (a b c d:Addr):List (Key×D):=[(.inr "houses",rfD a),(.inr "slot",rfD b),(.inr "bears",rfD c),(.inr "never",rfD d)]
theorem O6 (a:Addr):JT [] (.inr "houses") (rfD a)=kp1 a:=rfl
theorem O7 (a b:Addr):JT (kp1 a) (.inr "slot") (rfD b)=kp2 a b:=rfl
theorem O8 (a b c:Addr):JT (kp2 a b) (.inr "bears") (rfD c)=kp3 a b c:=rfl
theorem O9 (a b c d:Addr):JT (kp3 a b c) (.inr "never") (rfD d)=kp4 a b c d:=rfl
theorem O_ (a b c d e:Addr):JT (kp4 a b c d) (.inr "lapse") (rfD e)=kvW [a,b,c,d,e]:=rfl
structure AllW {α:Type} (P:α→List S→Prop) (r:Res α):Prop where
 go:r.All P
theorem dc5 {G:List D→List (Key×D)→List S→Res (List (Key×D))} {R:Mem→List S} (step:∀{k:Str} {xs:List D} {acc:List (Key×D)} {τ:Mem} {Q:List (Key×D)→List S→Prop} (acc':Addr→List (Key×D)) (_:∀a,JT acc (.inr k) (rfD a)=acc' a) (_:acc.length<1000)
  (_:∀a,τ a=none→AllW Q (G xs (acc' a) (R (ZX τ a (.lst []))))),AllW Q (G (.str k::xs) acc (R τ))) (nil:∀acc ρ,G [] acc ρ=.ok acc ρ) :
  AllW (fun acc ρ=>∃as τ,acc=kvW as∧ρ=R τ∧RdC as s0R.1 τ) (G [.str "houses",.str "slot",.str "bears",.str "never",.str "lapse"] [] (R Mem.nil)):=by
 refine step kp1 O6 (by decide) fun a ha=>?_
 have e1:=wu (as:=[]) BI (fun b h=>by cases h) ha
 refine step (kp2 a) (O7 a) (by unfold kp1; simp) fun b hb=>?_
 have e2:=wu e1.1 e1.2 hb
 refine step (kp3 a b) (O8 a b) (by unfold kp2; simp) fun c hc=>?_
 have e3:=wu e2.1 e2.2 hc
 refine step (kp4 a b c) (O9 a b c) (by unfold kp3; simp) fun d hd=>?_
 have e4:=wu e3.1 e3.2 hd
 refine step (fun e=>kvW [a,b,c,d,e]) (O_ a b c d) (by unfold kp4; simp) fun e he=>?_
 have e5:=wu e4.1 e4.2 he
 rw[nil]
 refine⟨[a,b,c,d,e],_,rfl,rfl,rfl,rfl,e5.1,fun j x xs hx hxs=>?_⟩
 have hx:=Bh hx
 have hxs:=Bh hxs
 have:xs=[]:=by
  unfold s0R at hxs
  simp only[List.mem_cons,List.not_mem_nil,or_false,or_self]at hxs
  exact hxs
 rw[this]
 exact e5.2 x hx
theorem Ss {t:S} {k:Str} {xs:List D} {acc:List (Key×D)} {τ:Mem} {Q:List (Key×D)→List S→Prop} (acc':Addr→List (Key×D)) (h1:∀a,JT acc (.inr k) (rfD a)=acc' a) (h2:acc.length<1000)
 (h3:∀a,τ a=none→AllW Q ((Q7 (.nm 3) yX (zb 3) (Z0 (zG ze)) [3]) xs (acc' a) ((rd0 t) (ZX τ a (.lst []))))):AllW Q ((Q7 (.nm 3) yX (zb 3) (Z0 (zG ze)) [3]) (.str k::xs) acc ((rd0 t) τ)):=⟨LZ acc' h1 h2 fun a ha=>(h3 a ha).go⟩
theorem hnA:∀acc ρ,Q7 (.nm 3) yX (zb 3) (Z0 (zG ze)) [3] [] acc ρ=.ok acc ρ:=fun acc ρ=>by rw[Q7]
theorem Mh {t:S} {P:List S} (hP:P=rd0 t Mem.nil):(Qi P).All fun v ρ=>∃as τ,v=.fr (.dct (kvW as))∧ρ=rd0 t τ∧RdC as s0R.1 τ:=by
 have it:zn (aK c_KINDS) P=.ok [.str "houses",.str "slot",.str "bears",.str "never",.str "lapse"] P:=rfl
 have d5:=dc5 (G:=Q7 (.nm 3) yX (zb 3) (Z0 (zG ze)) [3]) (R:=rd0 t) (fun {k xs acc τ Q} acc' h1 h2 h3=>Ss acc' h1 h2 h3) hnA
 have wi:zo P [3]=P:=by rw[hP]; rfl
 have no:ya P [3]=true:=by rw[hP]; rfl
 have bk:∀τ,zA P (rd0 t τ) [3]=rd0 t τ:=fun τ=>by rw[hP]; rfl
 rw[←hP]at d5
 unfold Qi aDc
 rw[it,Res.bind_ok,if_pos no,wi]
 refine Res.All.bind (iY d5.go) fun acc ρ h=>?_
 obtain⟨as,τ,rfl,rfl,c⟩:=h
 exact⟨as,τ,rfl,bk τ,c⟩
theorem nF {t:S} {P:List S} (hP:P=rd0 t Mem.nil):(Qj P).All (Nx fun ρ=>RdI t s0R ρ):=by
 have dc:=Mh hP
 unfold Qj z9
 refine Res.All.bind (P:=fun es ρ=>∃as τ,es=[.fr (.dct (kvW as)),.d .non]∧ρ=rd0 t τ∧RdC as s0R.1 τ) ?_ ?_
 ·unfold za
  refine Res.All.bind dc ?_
  rintro v ρ ⟨as,τ,rfl,rfl,c⟩
  exact⟨as,τ,rfl,rfl,c⟩
 ·rintro es ρ ⟨as,τ,rfl,rfl,c⟩
  exact⟨rfl,⟨as,τ,.no,.no,.no,rfl,c⟩,fun z h=>by cases h⟩
theorem M_ {t:Str} {s:St5} {ρ:List S} (ht:t.length≤90000) (I:RdI (.d (.str t)) s ρ):QQ (za (aFn jv (za (zb 0) ze)) ze) ρ=.ok (enG 0 ((jl t).map yz)) ρ:=by
 have v0:zb 0 ρ=.ok (.d (.str t)) ρ:=by
  obtain⟨as,τ,x4,x5,x6,rfl,_⟩:=I.ex
  rfl
 have f:=SN (a:=zb 0) v0 (oP ht)
 rw[←tP]
 unfold QQ
 rw[Yp f Jc]
 rfl
theorem aU {t:Str} {s:St5} {ρ:List S} (ht:t.length≤90000) (I:RdI (.d (.str t)) s ρ):jP ρ=xr (.tp [(.nm 4),(.nm 5)]) vJ (enG 0 ((jl t).map yz)) ρ:=by
 unfold jP Xt
 rw[M_ ht I,Res.bind_ok]
 rfl
def Vo (F:List (List D)) (k:Str):D:=.tup ((F[kindsW.idxOf k]?).getD [])
theorem OF {c:Str} {F:AK} {fs:List S→Res (List E)} {xs:List D} {ds:List (Str×D)} {ρ:List S} (hf:fs ρ=.ok (xs.map E.d) ρ) (ha:zO ρ (xs.map E.d)=some (xs.map S.d)) (hs:zM (xs.map E.d)=[]) (hF:F (.own (.ins c [])::xs.map S.d)=.ok (.d .non) (.own (.ins c ds)::xs.map S.d))
  (hw:wb (.fr (.ins c [])::xs.map E.d) (.own (.ins c ds)::xs.map S.d) ρ=ρ):eF (eH c F fs) ρ=.ok (.d (.ins c ds)) ρ:=by
 unfold eF eH
 rw[hf,Res.bind_ok]
 have e:JJ c F (xs.map E.d) ρ=.ok (.fr (.ins c ds)) ρ:=by
  unfold JJ
  simp only[ha,hs,BI,if_true,hF,List.getElem?_cons_zero,hw]
 rw[e]; rfl
theorem Lj {t:S} {s:St5} {ρ:List S} {h:D} {r:List D} {ds:List (Str×D)} (I:RdI t s ρ) (h0:s.1[0]?=some (h::r))
  (hi:yp [.own (.ins "World" []),.d h,.d (Vo s.1 "slot"),.d (Vo s.1 "bears"),.d (Vo s.1 "never"),.d (Vo s.1 "lapse")]=.ok (.d .non) [.own (.ins "World" ds),.d h,.d (Vo s.1 "slot"),.d (Vo s.1 "bears"),.d (Vo s.1 "never"),.d (Vo s.1 "lapse")]) :
  ∃ls τ,ls.length=10∧zt xG xO ρ=.ok (.rt (.d (.ins "World" ds))) ([t]++(ls++[.mem τ])):=by
 obtain⟨as,τ,x4,x5,x6,hρ,c⟩:=I.ex
 obtain⟨L,hL⟩:∃L,L=qQ s.2:=⟨_,rfl⟩
 obtain⟨K,hK⟩:∃K,K=kvW as:=⟨_,rfl⟩
 obtain⟨Z,hZ⟩:∃Z:S→S→S→S→S→List S,Z=fun a b c d e=>rdS t (.own (.dct K)) (.d L) a x4 x5 x6 b c d e τ:=⟨_,rfl⟩
 have e0:ρ=Z .no .no .no .no .no:=by rw[hρ,hZ,hK,hL]
 have hm:∀a b c d e,qm (Z a b c d e)=some τ:=fun a b c d e=>by rw[hZ]; rfl
 have ob:∀(f:AK) (k:Str) (a b c' d e:_),k∈kindsW→f (Z a b c' d e)=.ok (.d (.str k)) (Z a b c' d e)→∃x xs,Yo (zg gIx (Yo (zb 1)) f) (Z a b c' d e)=.ok (.ad x) (Z a b c' d e)∧τ x=some (.lst xs)∧s.1[kindsW.idxOf k]?=some xs:=fun f k a b c' d e hk hf=>by
  obtain⟨x,hx,gk⟩:=NI c.n5 hk
  have hi:kindsW.idxOf k<as.length:=(AQ.mp hx).1
  have hi2:kindsW.idxOf k<s.1.length:=by rw[c.f5,←c.n5]; exact hi
  refine⟨x,s.1[kindsW.idxOf k],UQ (KS (i:=1) (o:=.dct (kvW as)) ?_ ?_ hf gk),c.at_ _ x _ hx (AX hi2),AX hi2⟩
  ·rw[hZ]; rfl
  ·rw[hZ,hK]; rfl
 have comp:ZU (Z .no .no .no .no .no)=.ok (.fr (.lst ((["slot","bears","never","lapse"]:List Str).map (Vo s.1)))) (Z .no .no .no .no .no):=by
  unfold ZU
  refine xA (ρ1:=Z .no .no .no .no .no) (ρw:=Z .no .no .no .no .no) D.str (Vo s.1) ["slot","bears","never","lapse"] ?_ (zu (by decide)) (fun k hk=>⟨Z (.d (.str k)) .no .no .no .no,by rw[hZ]; rfl,?_,by rw[hZ]; rfl⟩) (by rw[hZ]; rfl) (by rw[hZ]; rfl) (by rw[hZ]; rfl)
  ·rw[hZ]; rfl
  ·obtain⟨x,xs,q1,q2,q3⟩:=ob (zb 3) k (.d (.str k)) .no .no .no .no (by
    unfold kindsW
    simp only[List.mem_cons,List.not_mem_nil,or_false]at hk⊢
    exact .inr hk) (by rw[hZ]; rfl)
   have:Vo s.1 k=.tup xs:=by unfold Vo; rw[q3]; rfl
   rw[this]
   exact qj (v:=.ad x) q1 (LO (hm _ _ _ _ _) q2) rfl
 obtain⟨F1,h1⟩:∃x,x=Vo s.1 "slot":=⟨_,rfl⟩
 obtain⟨F2,h2⟩:∃x,x=Vo s.1 "bears":=⟨_,rfl⟩
 obtain⟨F3,h3⟩:∃x,x=Vo s.1 "never":=⟨_,rfl⟩
 obtain⟨F4,h4⟩:∃x,x=Vo s.1 "lapse":=⟨_,rfl⟩
 have comp:ZU (Z .no .no .no .no .no)=.ok (.fr (.lst [F1,F2,F3,F4])) (Z .no .no .no .no .no):=by rw[h1,h2,h3,h4]; exact comp
 rw[←h1,←h2,←h3,←h4]at hi
 have s9:xG (Z .no .no .no .no .no)=.ok .nx (Z .no (.d F1) (.d F2) (.d F3) (.d F4)):=by
  unfold xG sTg
  rw[comp,Res.bind_ok,hZ]; rfl
 obtain⟨x,xs,q1,q2,q3⟩:=ob (aK (.str "houses")) "houses" .no (.d F1) (.d F2) (.d F3) (.d F4) (by decide+kernel) rfl
 rw[show kindsW.idxOf ("houses":Str)=0 by decide+kernel,h0]at q3
 cases q3
 have a0:zg gIx (Yo (zg gIx (Yo (zb 1)) (aK (.str "houses")))) (aK (.int 0)) (Z .no (.d F1) (.d F2) (.d F3) (.d F4))=.ok (.d h) (Z .no (.d F1) (.d F2) (.d F3) (.d F4)):=NO q1 (hm _ _ _ _ _) q2 rfl (ixL (h::r) 0 h rfl)
 have args:za (zg gIx (Yo (zg gIx (Yo (zb 1)) (aK (.str "houses")))) (aK (.int 0))) (za (zb 7) (za (zb 8) (za (zb 9) (za (zb 10) ze)))) (Z .no (.d F1) (.d F2) (.d F3) (.d F4))=.ok (([h,F1,F2,F3,F4]:List D).map E.d) (Z .no (.d F1) (.d F2) (.d F3) (.d F4)):=
  yn a0 (yn (qF (by rw[hZ]; rfl)) (yn (qF (by rw[hZ]; rfl)) (yn (qF (by rw[hZ]; rfl)) (yn (qF (by rw[hZ]; rfl)) xQ))))
 have nw:=OF (c:="World") (F:=yp) args rfl rfl hi rfl
 refine⟨[.own (.dct K),.d L,.no,x4,x5,x6,.d F1,.d F2,.d F3,.d F4],τ,rfl,?_⟩
 rw[e0,zU s9]
 unfold xO
 refine(xp nw).trans ?_
 rw[hZ]; rfl
theorem Lk {t:Str} (ht:t.length<80000) {r0:Res E} (hbad:∀m,Yv (jl t) 0 s0R=.error m→r0=.ex ⟨"BadText",[("line",.int (m:Int))]⟩ [.d (.str t)])
  (hok:∀s ρ,Yv (jl t) 0 s0R=.ok s→RdI (.d (.str t)) s ρ→∃ls τ,ls.length=10∧((∃x,zt xG xO ρ=.ok (.rt (.d x)) ([.d (.str t)]++(ls++[.mem τ]))∧r0=.ok (.d x) [.d (.str t)])∨∃e,zt xG xO ρ=.ex e ([.d (.str t)]++(ls++[.mem τ]))∧r0=.ex e [.d (.str t)])) :
  xh [.d (.str t)]=r0:=by
 unfold xh Qg
 refine PV (zs':=[.d (.str t)]) rfl rfl ?_
 obtain⟨P,hP⟩:∃P,P=rd0 (.d (.str t)) Mem.nil:=⟨_,rfl⟩
 have e0:([.d (.str t)]++(List.replicate 10 .no++[.mem Mem.nil]):List S)=P:=by rw[hP]; rfl
 rw[e0]
 unfold UN
 refine iW (nF hP) fun ρ I=>?_
 have ll:=pZ ht
 have lp:=bu (t:=.d (.str t)) (jl t) 0 0 s0R ρ I (fun ws hw=>⟨(oO t).2 ws hw,by have:=(ll.2 ws hw).1; omega,fun w h=>by have:=(ll.2 ws hw).2 w h; omega⟩) (fun xs hx=>by
  unfold s0R at hx
  simp only[List.mem_cons,List.not_mem_nil,or_false,or_self]at hx
  rw[hx]; exact Nat.le_refl _) (by have:=ll.1; omega)
 cases hr:Yv (jl t) 0 s0R with
 |error m=>
  rw[hr]at lp
  obtain⟨ls,τ,q1,q2⟩:=lp
  have e:zt jP (zt xG xO) ρ=.ex ⟨"BadText",[("line",.int (m:Int))]⟩ ([.d (.str t)]++(ls++[.mem τ])):=Lr (by rw[aU (by omega) I]; exact q2)
  rw[e]
  exact⟨ls,τ,q1,rfl,hbad m hr⟩
 |ok s=>
  rw[hr]at lp
  obtain⟨ρ',q1,q2⟩:=lp
  have e:zt jP (zt xG xO) ρ=zt xG xO ρ':=zU (by rw[aU (by omega) I]; exact q1)
  rw[e]
  obtain⟨ls,τ,h1,h2⟩:=hok s ρ' hr q2
  rcases h2 with⟨x,h2,h3⟩|⟨x,h2,h3⟩
  ·rw[h2]
   exact⟨ls,τ,x,h1,rfl,rfl,h3⟩
  ·rw[h2]
   exact⟨ls,τ,h1,rfl,h3⟩
open L2.AL.K14 (One US Uj gW jC kz split_count split_part Vj)
def bI (c:Nat) (z:Str):Prop:=∀x∈tl z,x≠c
theorem ky {s:Nat}:∀(l acc:List Nat),(∀x∈l,x≠s)→spl [s] 0 acc l=[acc++l]
 |[],acc,_=>by rw[spl_nil,A6]
 |c::r,acc,h=>by
  rw[gW,if_neg (h c AN),ky r _ fun x hx=>h x (List.mem_cons_of_mem _ hx)]
  simp
theorem nN {y z:Str} {s:Nat} (h:One y s) (f:bI s z):Txt.split z y=[z]:=by
 refine map_tl_inj ?_
 rw[jC h,ky _ _ f]
 rfl
theorem gY {y:Str} {s:Nat} (h:One y s) {ps:List Str} (hne:ps≠[]) (f:∀p∈ps,bI s p):Txt.split (Txt.join y ps) y=ps:=by
 rw[Vj h hne]
 clear hne
 induction ps with
 |nil=>rfl
 |cons p ps ih=>rw[List.flatMap_cons,nN h (f p AN),ih fun q hq=>f q (List.mem_cons_of_mem _ hq)]; rfl
theorem bc {c:Nat} {y:List Nat}:∀{ps:List (List Nat)},c∈joinL y ps→c∈y∨∃p∈ps,c∈p
 |[],h=>by simp[joinL]at h
 |[p],h=>by simp[joinL]at h; exact .inr ⟨p,by simp,h⟩
 |p::q::r,h=>by
  have e:joinL y (p::q::r)=p++(y++joinL y (q::r)):=by simp[joinL]
  rw[e]at h
  rcases AW.mp h with h|h
  ·exact .inr ⟨p,by simp,h⟩
  ·rcases AW.mp h with h|h
   ·exact .inl h
   ·rcases bc h with h|⟨z,hz,h⟩
    ·exact .inl h
    ·exact .inr ⟨z,by simp only[List.mem_cons]at hz⊢; exact .inr hz,h⟩
theorem om {c:Nat} {y:Str} {ps:List Str} (hy:bI c y) (h:∀p∈ps,bI c p):bI c (Txt.join y ps):=fun x hx=>by
 rw[join_eq,tl_join]at hx
 rcases bc hx with h1|⟨p,hp,h1⟩
 ·exact hy x h1
 ·obtain⟨q,hq,rfl⟩:=AM.mp hp
  exact h q hq x h1
theorem Y1 {z:Str} (h:yk z=true) {c:Nat} (hc:c<97):bI c z:=fun x hx=>by
 unfold yk at h
 rw[Bool.and_eq_true]at h
 have:=of_decide_eq_true (AP.mp h.2 x hx)
 simp only[YE,List.mem_cons,List.not_mem_nil,or_false]at this
 omega
def J4 (a:Str×Str):Str:=a.1++"="++a.2
def yg (p:Pat):List Str:=p.map J4
def kH:Str:="houses"
def kS:Str:="slot"
def kB:Str:="bears"
def kN:Str:="never"
def kL:Str:="lapse"
def kC:Str:=":"
def Qe (l:Lps):List Str:=l.ho::(yg l.needs++(kC::yg l.makes))
def yK (W:Wd):List (List Str):=(kH::W.hs)::(W.sl.map (fun s=>kS::s.nm::s.ho::s.ws)++(W.be.map (fun p=>kB::yg p)++(W.ne.map (fun p=>kN::yg p)++W.la.map fun l=>kL::Qe l)))
def J1 (W:Wd):Str:=Txt.join "\n" ((yK W).map (Txt.join " "))
theorem Sy:tl (Str.ofString "=")=[61]:=by decide+kernel
theorem uO (a:Str×Str):tl (J4 a)=tl a.1++61::tl a.2:=by
 unfold J4
 rw[tl_append,tl_append,Sy]; simp
theorem gE {a:Str×Str} (h:yk a.1=true∧yk a.2=true):xD (J4 a)=[a.1,a.2]:=by
 unfold xD
 refine map_tl_inj ?_
 rw[jC is1,uO,L2.AL.K14.spl_app,ky _ _ (Y1 h.1 (by decide)),ky _ _ (Y1 h.2 (by decide))]
 rfl
theorem bo {a:Str×Str} (h:yk a.1=true∧yk a.2=true) {c:Nat} (hc:c<97) (h6:c≠61):bI c (J4 a):=fun x hx=>by
 rw[uO]at hx
 rcases AW.mp hx with h1|h1
 ·exact Y1 h.1 hc x h1
 ·rcases List.mem_cons.mp h1 with rfl|h1
  ·exact h6.symm
  ·exact Y1 h.2 hc x h1
def Ua (z:Str):Prop:=bI 10 z∧bI 32 z
theorem QF {p:Pat} (h:∀a∈p,yk a.1=true∧yk a.2=true):Xr (Zk (yg p))=z6 p∧Zk (yg p)≠none∧∀w∈yg p,Ua w∧w≠":":=by
 have e:Zk (yg p)=some (p.map fun a=>[a.1,a.2]):=by
  unfold Zk yg
  rw[if_pos]
  ·rw[AY]
   congr 1
   exact List.map_congr_left fun a ha=>gE (h a ha)
  ·rw[List.all_map,AP]
   intro a ha
   show VW (J4 a)=true
   unfold VW
   rw[gE (h a ha)]
   simp[(h a ha).1,(h a ha).2]
 refine⟨?_,by rw[e]; exact fun h=>(by cases h),fun w hw=>?_⟩
 ·rw[e]
  show D.tup ((p.map fun a=>[a.1,a.2]).map zk)=D.tup (p.map yi)
  rw[AY]
  rfl
 ·unfold yg at hw
  obtain⟨a,ha,rfl⟩:=AM.mp hw
  refine⟨⟨bo (h a ha) (by decide) (by decide),bo (h a ha) (by decide) (by decide)⟩,fun e=>?_⟩
  have:(61:Nat)∈tl (Str.ofString ":"):=by
   rw[←e,uO]; simp
  rw[show tl (Str.ofString ":")=[58]by decide+kernel]at this
  simp at this
theorem Y3 {z:Str} (h:yk z=true):Ua z∧z≠":":=⟨⟨Y1 h (by decide),Y1 h (by decide)⟩,fun e=>by rw[e]at h; revert h; decide+kernel⟩
theorem Y0 {W:Wd} (g:Good W) {q:Lps} (hq:q∈W.la):yk q.ho=true∧yG W.sl q.needs=true∧yG W.sl q.makes=true:=by
 have k:=g.k
 have lo:=k.la.2 q hq
 unfold ZQ at lo
 simp only[Bool.and_eq_true,decide_eq_true_eq]at lo
 exact⟨k.hs.2.2.1 _ lo.1,vq lo.2.1,vq lo.2.2.1⟩
theorem rk {W:Wd} (g:Good W):∀l∈yK W,l≠[]∧∀w∈l,Ua w:=by
 have k:=g.k
 have kw:∀w∈kindsW,Ua w:=by
  intro w hw
  have:∀w∈kindsW,(tl w).all (fun c=>decide (c≠10∧c≠32))=true:=by decide+kernel
  have:=AP.mp (this w hw)
  exact⟨fun x hx=>(of_decide_eq_true (this x hx)).1,fun x hx=>(of_decide_eq_true (this x hx)).2⟩
 have pw:∀{p:Pat},yG W.sl p=true→∀w∈yg p,Ua w:=fun {p} hp w hw=>((QF (g.pat hp).2).2.2 w hw).1
 have cons:∀{k:Str} {r:List Str},k∈kindsW→(∀w∈r,Ua w)→k::r≠[]∧∀w∈k::r,Ua w:=fun {k r} hk hr=>⟨by simp,fun w hw=>by
  rcases List.mem_cons.mp hw with rfl|hw
  ·exact kw _ hk
  ·exact hr w hw⟩
 intro l hl
 unfold yK at hl
 simp only[AW,List.mem_cons,AM]at hl
 rcases hl with rfl|⟨s,hs,rfl⟩|⟨p,hp,rfl⟩|⟨p,hp,rfl⟩|⟨q,hq,rfl⟩
 ·exact cons (by decide+kernel) fun w hw=>(Y3 (k.hs.2.2.1 w hw)).1
 ·refine cons (by decide+kernel) fun w hw=>?_
  simp only[List.mem_cons]at hw
  rcases hw with rfl|rfl|hw
  ·exact(Y3 (k.sl.nm s hs)).1
  ·exact(Y3 (k.hs.2.2.1 _ (k.sl.ho s hs))).1
  ·exact(Y3 (k.sl.wn s hs w hw)).1
 ·exact cons (by decide+kernel) (pw (k.be p hp).1)
 ·exact cons (by decide+kernel) (pw (k.ne p hp).1)
 ·have lk:=Y0 g hq
  refine cons (by decide+kernel) fun w hw=>?_
  unfold Qe at hw
  simp only[List.mem_cons,AW]at hw
  rcases hw with rfl|hw|rfl|hw
  ·exact(Y3 lk.1).1
  ·exact pw lk.2.1 w hw
  ·exact⟨fun x hx=>by rw[show tl kC=[58]by decide+kernel]at hx; simp at hx; omega,fun x hx=>by rw[show tl kC=[58]by decide+kernel]at hx; simp at hx; omega⟩
  ·exact pw lk.2.2 w hw
theorem nu {W:Wd} (g:Good W):jl (J1 W)=yK W:=by
 have h:=rk g
 unfold jl J1
 have ne:(yK W).map (Txt.join " ")≠[]:=by unfold yK; simp
 rw[gY US ne fun p hp=>?_]
 ·rw[AY]
  conv=>rhs; rw[←List.map_id (yK W)]
  refine List.map_congr_left fun l hl=>?_
  exact gY Uj (h l hl).1 fun w hw=>((h l hl).2 w hw).2
 ·obtain⟨l,hl,rfl⟩:=AM.mp hp
  refine om (fun x hx=>?_) fun w hw=>((h l hl).2 w hw).1
  rw[show tl (Str.ofString " ")=[32]by decide+kernel]at hx
  simp at hx; omega
end L2.AL.WS.R
namespace L2.AL.WS.R
open PySem PySem.Spec PyProof.Rows L2 L2.AL L2.AL.SH L2.AL.WS L2.AL.YS TL
theorem wg:∀(ws:List Str) (d:List (List Str)) (l:List Str),(∀w∈ws,w≠":")→Yq d l ws=d++[l++ws]
 |[],d,l,_=>by rw[Yq,A6]
 |w::ws,d,l,h=>by
  rw[Yq,if_neg (h w AN),wg ws _ _ fun z hz=>h z (List.mem_cons_of_mem _ hz)]
  simp
theorem dH (r:List Str):∀(ws:List Str) (d:List (List Str)) (l:List Str),(∀w∈ws,w≠":")→Yq d l (ws++kC::r)=Yq (d++[l++ws]) [] r
 |[],d,l,_=>by
  rw[List.nil_append,Yq,if_pos (show kC=":" from rfl),A6]
 |w::ws,d,l,h=>by
  rw[List.cons_append,Yq,if_neg (h w AN),dH r ws _ _ fun z hz=>h z (List.mem_cons_of_mem _ hz)]
  simp
section
variable {W:Wd} (g:Good W)
include g
theorem iA:thK kH W.hs=zk W.hs:=by
 have k:=g.k
 unfold thK
 rw[if_pos (show kH="houses" from rfl),bf (Bg _) k.hs.2.2.1]
 rfl
theorem Nn {s:Slot} (hs:s∈W.sl):thK kS (s.nm::s.ho::s.ws)=s.d:=by
 have k:=g.k
 have n:xM 2 (s.nm::s.ho::s.ws)=some (s.nm::s.ho::s.ws):=bf (by simp) fun w hw=>by
  simp only[List.mem_cons]at hw
  rcases hw with rfl|rfl|hw
  ·exact k.sl.nm s hs
  ·exact k.hs.2.2.1 _ (k.sl.ho s hs)
  ·exact k.sl.wn s hs w hw
 unfold thK
 rw[if_neg (by decide+kernel),if_pos (show kS="slot" from rfl)]
 unfold LH
 rw[n]
 rfl
theorem LC {p:Pat} (hp:yG W.sl p=true):thK kB (yg p)=z6 p:=by
 unfold thK
 rw[if_neg (by decide+kernel),if_neg (by decide+kernel),if_pos (by decide+kernel)]
 exact(QF (g.pat hp).2).1
theorem LF {p:Pat} (hp:yG W.sl p=true):thK kN (yg p)=z6 p:=by
 unfold thK
 rw[if_neg (by decide+kernel),if_neg (by decide+kernel),if_pos (by decide+kernel)]
 exact(QF (g.pat hp).2).1
theorem LE {q:Lps} (hq:q∈W.la):thK kL (Qe q)=q.d:=by
 obtain⟨h1,h2,h3⟩:=Y0 g hq
 obtain⟨a1,a2,a3⟩:=QF (g.pat h2).2
 obtain⟨b1,b2,b3⟩:=QF (g.pat h3).2
 unfold thK
 rw[if_neg (by decide+kernel),if_neg (by decide+kernel),if_neg (by decide+kernel),if_pos (by decide+kernel)]
 have c:fL (Qe q)=[q.ho::yg q.needs,yg q.makes]:=by
  unfold fL Qe
  have e:=dH (yg q.makes) (q.ho::yg q.needs) [] [] fun w hw=>by
   rcases List.mem_cons.mp hw with rfl|hw
   ·exact(Y3 h1).2
   ·exact(a3 w hw).2
  rw[show q.ho::(yg q.needs++(kC::yg q.makes))=(q.ho::yg q.needs)++kC::yg q.makes from rfl,e,wg _ _ _ fun w hw=>(b3 w hw).2]
  rfl
 rw[c]
 show(if (yk q.ho&&((Zk (yg q.needs)).isSome&&(Zk (yg q.makes)).isSome))=true then D.tup [.str q.ho,Xr (Zk (yg q.needs)),Xr (Zk (yg q.makes))]else .non)=_
 rw[a1,b1,h1,if_pos]
 ·rfl
 ·cases ha:Zk (yg q.needs)with
  |none=>exact absurd ha a2
  |some _=>cases hb:Zk (yg q.makes)with
   |none=>exact absurd hb b2
   |some _=>rfl
end
theorem QI {α:Type} {k l:Str} (hk:k∈kindsW) (hh:k≠"houses") (hl:kindsW.idxOf l≤kindsW.idxOf k) (w:α→List Str) (x:α→D) (rest:List (List Str)):∀(xs:List α) (n:Nat) (F:List (List D)),F.length=5→(∀a∈xs,thK k (w a)=x a∧o_ (x a)=false)→
  ∀l,kindsW.idxOf l≤kindsW.idxOf k→∃l',(l'=l∨l'=k)∧Yv (xs.map (fun a=>k::w a)++rest) n (F,some l)=Yv rest (n+xs.length) (F.set (kindsW.idxOf k) ((F[kindsW.idxOf k]?).getD []++xs.map x),some l')
 |[],n,F,hF,_,l,hl=>by
  refine⟨l,.inl rfl,?_⟩
  have hi:kindsW.idxOf k<F.length:=by rw[hF]; exact mZ hk
  rw[List.map_nil,List.map_nil,A6,List.nil_append,AX hi]
  show Yv rest n (F,some l)=Yv rest n (F.set _ F[kindsW.idxOf k],some l)
  rw[List.set_getElem_self]
 |a::xs,n,F,hF,h,l,hl=>by
  obtain⟨h1,h2⟩:=h a AN
  have hi:kindsW.idxOf k<F.length:=by rw[hF]; exact mZ hk
  have st:um (F,some l) (k::w a)=some (JI F (kindsW.idxOf k) (x a),some k):=by
   unfold um
   simp only[h1,h2]
   rw[if_neg]
   show¬(false||!(!decide (k="houses")&&decide (kindsW.idxOf l≤kindsW.idxOf k)))=true
   rw[decide_eq_false hh,decide_eq_true hl]
   decide
  obtain⟨l',q1,q2⟩:=QI hk hh (Nat.le_refl _) w x rest xs (n+1) (JI F (kindsW.idxOf k) (x a)) (by unfold JI; rw[List.length_set]; exact hF) (fun b hb=>h b (List.mem_cons_of_mem _ hb)) k (Nat.le_refl _)
  refine⟨l',.inr (q1.elim id id),?_⟩
  rw[List.map_cons,List.cons_append,Yv,st]
  simp only
  rw[q2]
  have e:(JI F (kindsW.idxOf k) (x a)).set (kindsW.idxOf k) (((JI F (kindsW.idxOf k) (x a))[kindsW.idxOf k]?).getD []++xs.map x)=F.set (kindsW.idxOf k) ((F[kindsW.idxOf k]?).getD []++(a::xs).map x):=by
   unfold JI
   rw[List.set_set,A0 hi]
   simp
  rw[e,List.length_cons,show n+1+xs.length=n+(xs.length+1)by omega]
theorem im {W:Wd} (g:Good W):∃l,Yv (jl (J1 W)) 0 s0R=.ok ([[zk W.hs],W.sl.map Slot.d,W.be.map z6,W.ne.map z6,W.la.map Lps.d],some l):=by
 have k:=g.k
 rw[nu g]
 unfold yK
 have i0:kindsW.idxOf kH=0:=by decide+kernel
 have i1:kindsW.idxOf kS=1:=by decide+kernel
 have i2:kindsW.idxOf kB=2:=by decide+kernel
 have i3:kindsW.idxOf kN=3:=by decide+kernel
 have i4:kindsW.idxOf kL=4:=by decide+kernel
 have st:um s0R (kH::W.hs)=some ([[zk W.hs],[],[],[],[]],some kH):=by
  unfold um s0R
  simp only[iA g]
  rw[if_neg (by rw[show bR kH none=true by decide+kernel]; show¬(false||!true)=true; decide),i0]
  rfl
 rw[Yv,st]
 simp only
 obtain⟨A,hA⟩:∃A,A=[zk W.hs]:=⟨_,rfl⟩
 obtain⟨B,hB⟩:∃B,B=W.sl.map Slot.d:=⟨_,rfl⟩
 obtain⟨C,hC⟩:∃C,C=W.be.map z6:=⟨_,rfl⟩
 obtain⟨E,hE⟩:∃E,E=W.ne.map z6:=⟨_,rfl⟩
 obtain⟨G,hG⟩:∃G,G=W.la.map Lps.d:=⟨_,rfl⟩
 rw[←hA,←hB,←hC,←hE,←hG]
 obtain⟨R1,r1⟩:∃R,R=(W.la.map fun l=>kL::Qe l):=⟨_,rfl⟩
 obtain⟨R2,r2⟩:∃R,R=W.ne.map (fun p=>kN::yg p)++R1:=⟨_,rfl⟩
 obtain⟨R3,r3⟩:∃R,R=W.be.map (fun p=>kB::yg p)++R2:=⟨_,rfl⟩
 rw[←r1,←r2,←r3]
 obtain⟨l1,q1,e1⟩:=QI (k:=kS) (l:=kH) (by decide+kernel) (by decide+kernel) (by rw[i0,i1]; omega) (fun s:Slot=>s.nm::s.ho::s.ws) Slot.d R3 W.sl (0+1) [A,[],[],[],[]] rfl (fun s hs=>⟨Nn g hs,rfl⟩) kH (by rw[i0,i1]; omega)
 rw[i1,←hB]at e1
 have e1:_=Yv R3 (0+1+W.sl.length) ([A,B,[],[],[]],some l1):=e1
 have j1:kindsW.idxOf l1≤1:=by rcases q1 with rfl|rfl<;>omega
 obtain⟨l2,q2,e2⟩:=QI (k:=kB) (l:=l1) (by decide+kernel) (by decide+kernel) (by rw[i2]; omega) yg z6 R2 W.be (0+1+W.sl.length) [A,B,[],[],[]] rfl (fun p hp=>⟨LC g (k.be p hp).1,rfl⟩) l1 (by rw[i2]; omega)
 rw[i2,←hC,←r3]at e2
 have e2:_=Yv R2 (0+1+W.sl.length+W.be.length) ([A,B,C,[],[]],some l2):=e2
 have j2:kindsW.idxOf l2≤2:=by rcases q2 with rfl|rfl<;>omega
 obtain⟨l3,q3,e3⟩:=QI (k:=kN) (l:=l2) (by decide+kernel) (by decide+kernel) (by rw[i3]; omega) yg z6 R1 W.ne (0+1+W.sl.length+W.be.length) [A,B,C,[],[]] rfl (fun p hp=>⟨LF g (k.ne p hp).1,rfl⟩) l2 (by rw[i3]; omega)
 rw[i3,←hE,←r2]at e3
 have e3:_=Yv R1 (0+1+W.sl.length+W.be.length+W.ne.length) ([A,B,C,E,[]],some l3):=e3
 have j3:kindsW.idxOf l3≤3:=by rcases q3 with rfl|rfl<;>omega
 obtain⟨l4,q4,e4⟩:=QI (k:=kL) (l:=l3) (by decide+kernel) (by decide+kernel) (by rw[i4]; omega) Qe Lps.d [] W.la (0+1+W.sl.length+W.be.length+W.ne.length) [A,B,C,E,[]] rfl (fun q hq=>⟨LE g hq,rfl⟩) l3 (by rw[i4]; omega)
 rw[i4,←hG,←r1,A6]at e4
 have e4:_=Yv [] (0+1+W.sl.length+W.be.length+W.ne.length+W.la.length) ([A,B,C,E,G],some l4):=e4
 exact⟨l4,(e1.trans e2).trans ((e3.trans e4).trans rfl)⟩
theorem ik {W:Wd} (g:Good W) (ht:(J1 W).length<80000):xh [.d (.str (J1 W))]=.ok (.d (ym W)) [.d (.str (J1 W))]:=by
 obtain⟨l,e⟩:=im g
 refine Lk ht (fun m h=>by rw[e]at h; cases h) fun s ρ h I=>?_
 rw[e]at h
 cases h
 have i0:kindsW.idxOf ("slot":Str)=1:=by decide+kernel
 have i1:kindsW.idxOf ("bears":Str)=2:=by decide+kernel
 have i2:kindsW.idxOf ("never":Str)=3:=by decide+kernel
 have i3:kindsW.idxOf ("lapse":Str)=4:=by decide+kernel
 have ini:=dT g
 obtain⟨ls,τ,h1,h2⟩:=Lj (ds:=[("own_places",xf W.sl),("own_parts",jF W),("own_stands",qb W.sl)]) I (h:=zk W.hs) (r:=[]) rfl (by
  unfold Vo
  rw[i0,i1,i2,i3]
  exact ini)
 exact⟨ls,τ,h1,.inl ⟨_,h2,rfl⟩⟩
theorem dX (y:List Nat):∀ps:List (List Nat),(joinL y ps).length≤(ps.map List.length).sum+ps.length * y.length
 |[]=>by simp[joinL]
 |[p]=>by simp[joinL]
 |p::q::r=>by
  have:=dX y (q::r)
  simp only[joinL,AS,List.map_cons,List.sum_cons,List.length_cons]at this⊢
  rw[Nat.add_mul]
  omega
theorem Kk (y:Str) (ps:List Str):(Txt.join y ps).length≤(ps.map Str.length).sum+ps.length * y.length:=by
 rw[len_tl,join_eq,tl_join]
 have:=dX (tl y) (ps.map tl)
 rw[AY,List.length_map]at this
 have e:(List.length∘tl)=Str.length:=by funext x; exact(len_tl x).symm
 rw[e,←len_tl]at this
 exact this
theorem gZ {α:Type} (f:α→Nat) (b:Nat):∀l:List α,(∀x∈l,f x≤b)→(l.map f).sum≤l.length * b
 |[],_=>by simp
 |x::l,h=>by
  have h1:=h x AN
  have h2:=gZ f b l fun y hy=>h y (List.mem_cons_of_mem _ hy)
  rw[List.map_cons,List.sum_cons,List.length_cons,Nat.add_mul]
  omega
theorem Ka {a:Str} {zs:List Str} {B n:Nat} (ha:a.length=1) (hz:∀z∈zs,z.length≤B) (hn:zs.length≤n) (hs:n * B+n≤16000000):Ys (.str a) [.lst (zs.map .str)]=some (z_ (Txt.join a zs))∧(Txt.join a zs).length≤n * B+n:=by
 have s1:=gZ Str.length B zs hz
 have s2:zs.length * B≤n * B:=Nat.mul_le_mul_right _ hn
 have s3:=Kk a zs
 rw[ha,Nat.mul_one]at s3
 refine⟨?_,by omega⟩
 show((D.strs? (zs.map .str)).bind fun ys=>if (ys.map (·.length)).sum+ys.length * a.length≤16777216 then some (z_ (Txt.join a ys))else none)=_
 have:=aW (fun z:Str=>z) zs
 rw[List.map_id']at this
 rw[this,Option.bind_some,if_pos (by rw[ha,Nat.mul_one]; show(zs.map Str.length).sum+zs.length≤_; omega)]
theorem aj {a:Str} {f:AK} {v w:E} {xs:D} {ρ ρ1:List S} (hf:f ρ=.ok v ρ1) (hv:v.val ρ1=some xs) (hg:Ys (.str a) [xs]=some w):zC "str" Ys (aK (.str a)) (za f ze) ρ=.ok w ρ1:=by
 have k:∀ρ,(E.d (.str a)).val ρ=some (.str a):=fun _=>rfl
 have t:(D.str a).tyn="str"∧"str"≠"tuple":=⟨rfl,by decide⟩
 simp only[zC,aK,Res.bind_ok,k,if_pos t,za,hf,ze,zY,hv,hg]
section
variable {f fa fb:AK} {ρ ρ1:List S} {v u w:E} {x y:D}
theorem NP {h:D→D→Option E} (ha:fa ρ=.ok v ρ) (hv:v.val ρ=some x) (hb:fb ρ=.ok u ρ) (hu:u.val ρ=some y) (hg:h x y=some w):zg h fa fb ρ=.ok w ρ:=by
 unfold zg zX
 rw[ha,Res.bind_ok,hb,Res.bind_ok]
 simp only[hv,hu,hg]
theorem dB {xs ys:List D} (ha:fa ρ=.ok (.fr (.lst xs)) ρ) (hb:fb ρ=.ok u ρ) (hu:u.val ρ=some (.lst ys)) (hl:xs.length+ys.length≤1000):zg yP fa fb ρ=.ok (.fr (.lst (xs++ys))) ρ:=
 NP ha rfl hb hu (by show yP (.lst xs) (.lst ys)=_; simp only[yP]; rw[if_pos (zu (by omega))])
theorem Kx {ws:List Str} (h:f ρ=.ok (.d (zk ws)) ρ):zh (VJ wR Uq) (za f ze) ρ=.ok (.fr (.lst (ws.map .str))) ρ:=qj (v:=.d (zk ws)) h rfl rfl
theorem VU {fs:List S→Res (List E)} {xs:List D} (h:fs ρ=.ok (xs.map E.d) ρ) (hl:xs.length≤1000):zG fs ρ=.ok (.fr (.lst xs)) ρ:=by
 have k:∀xs:List D,keepL (xs.map E.d) ρ=some (xs,ρ):=fun xs=>by
  induction xs with
  |nil=>rfl
  |cons x xs ih=>rw[List.map_cons,keepL,keep1]; simp only[ih]
 unfold zG
 rw[h,Res.bind_ok,k]
 simp only
 rw[if_pos (zu (by omega))]
theorem NN {xs:List D} (h:f ρ=.ok (.fr (.lst xs)) ρ):zG (za f ze) ρ=.ok (.fr (.lst [.lst xs])) ρ:=by
 have l1:(1:Nat)≤sizeLine:=zu (by decide)
 unfold zG
 rw[Yp h Jc,Res.bind_ok]
 simp only[keepL,keep1,List.length_cons,List.length_nil]
 rw[if_pos l1]
 rfl
theorem vD {fs:List S→Res (List E)} {xs es:List D} (h:f ρ=.ok v ρ) (hv:(v.val ρ).bind D.seq?=some xs) (hr:fs ρ=.ok (es.map E.d) ρ):zD f fs ρ=.ok ((xs++es).map E.d) ρ:=by
 unfold zD
 rw[h,Res.bind_ok]
 simp only[hv,hr,Res.bind_ok,A7]
theorem wL {F:AK} {o:O} {s':List S} (h:f ρ=.ok (.d x) ρ) (hF:F [.d x]=.ok (.fr o) s'):aFn F (za f ze) ρ=.ok (.fr o) ρ:=by
 unfold aFn za ze
 rw[h]
 cases s'<;>simp[zx,zO,zM,hF,wb]
theorem m9 {α:Type} {it:List S→Res (List D)} {t:Tg} {vs:List Nat} {ρw ρ3:List S} (F:α→D) (g:α→List D) (l:List α) (hit:it ρ=.ok (l.map F) ρ1) (hl:l.length≤1000) (h:∀a∈l,∃ρ2,zQ t (F a) ρw=some ρ2∧f ρ2=.ok (.fr (.lst (g a))) ρ2∧zo ρ2 vs=ρw)
  (hno:ya ρ1 vs=true:=by rfl) (hw:zo ρ1 vs=ρw:=by rfl) (hb:zA ρ1 ρw vs=ρ3:=by rfl):aLc vs it t yX f ρ=.ok (.fr (.lst (l.map fun a=>.lst (g a)))) ρ3:=by
 rw[UI F (fun a=>D.lst (g a)) l hit hno (fun a ha=>?_) (zu (by omega)),hw,hb]
 obtain⟨ρ2,h1,h2,h3⟩:=h a ha
 rw[hw]
 exact⟨ρ2,_,h1,h2,rfl,h3⟩
theorem pH {i:Nat} {A xs:List D} (h:f ρ=.ok (.fr (.lst xs)) ρ) (h0:ρ[i]?=some (.own (.lst A))) (sz:A.length+xs.length≤1000):zy (Y_ "list" i jn (za f ze)) ρ=.ok .nx (ρ.set i (.own (.lst (A++xs)))):=
 L2.AL.YS.ext_fr h0 h h0 (zu (by omega))
theorem SK {i:Nat} {A xs:List D} (h:f ρ=.ok (.fr (.lst xs)) ρ) (h0:ρ[i]?=some (.own (.lst A))) (sz:A.length<1000):zy (Y_ "list" i qc (za f ze)) ρ=.ok .nx (ρ.set i (.own (.lst (A++[.lst xs])))):=by
 have l:A.length<sizeLine:=Bq sz (zu (by decide))
 unfold zy Y_ za ze
 simp only[h0]
 rw[if_pos (show O.tyn (.lst A)=some "list" from rfl),h]
 simp only[Res.bind_ok,keepL,keep1,h0,qc,l,if_true]
 rfl
end
theorem KW {a:Str×Str} (h:yk a.1=true∧yk a.2=true):(J4 a).length≤17:=by
 have n1:∀{z:Str},yk z=true→(tl z).length≤8:=fun {z} h=>by
  unfold yk at h
  rw[Bool.and_eq_true]at h
  have:=(of_decide_eq_true h.1).2
  rw[len_tl]at this; exact this
 have h1:=n1 h.1
 have h2:=n1 h.2
 rw[len_tl,uO,AS,List.length_cons]
 omega
theorem ZT {z:Str} (h:yk z=true):z.length≤8:=by
 unfold yk at h
 rw[Bool.and_eq_true]at h
 exact(of_decide_eq_true h.1).2
theorem k8 {W:Wd} (g:Good W):(yK W).length≤40∧∀l∈yK W,l.length≤20∧∀w∈l,w.length≤17:=by
 have k:=g.k
 have kw:∀w∈kindsW,w.length≤17:=by decide+kernel
 have pw:∀{p:Pat},yG W.sl p=true→(yg p).length≤6∧∀w∈yg p,w.length≤17:=fun {p} hp=>⟨by unfold yg; rw[List.length_map]; exact(g.pat hp).1,fun w hw=>by
  unfold yg at hw
  obtain⟨a,ha,rfl⟩:=AM.mp hw
  exact KW ((g.pat hp).2 a ha)⟩
 have cons:∀{k:Str} {r:List Str},k∈kindsW→r.length≤19∧(∀w∈r,w.length≤17)→(k::r).length≤20∧∀w∈k::r,w.length≤17:=fun {k r} hk hr=>⟨by rw[List.length_cons]; omega,fun w hw=>by
  rcases List.mem_cons.mp hw with rfl|hw
  ·exact kw _ hk
  ·exact hr.2 w hw⟩
 refine⟨?_,?_⟩
 ·unfold yK
  simp only[List.length_cons,AS,List.length_map]
  have:=k.sl.len.2; have:=g.few; have:=k.la.1
  omega
 intro l hl
 unfold yK at hl
 simp only[AW,List.mem_cons,AM]at hl
 rcases hl with rfl|⟨s,hs,rfl⟩|⟨p,hp,rfl⟩|⟨p,hp,rfl⟩|⟨q,hq,rfl⟩
 ·exact cons (by decide+kernel) ⟨by have:=k.hs.2.1; omega,fun w hw=>by have:=ZT (k.hs.2.2.1 w hw); omega⟩
 ·refine cons (by decide+kernel) ⟨by have:=(k.sl.wl s hs).2; simp; omega,fun w hw=>?_⟩
  simp only[List.mem_cons]at hw
  rcases hw with rfl|rfl|hw
  ·have:=ZT (k.sl.nm s hs); omega
  ·have:=ZT (k.hs.2.2.1 _ (k.sl.ho s hs)); omega
  ·have:=ZT (k.sl.wn s hs w hw); omega
 ·have:=pw (k.be p hp).1
  exact cons (by decide+kernel) ⟨by omega,this.2⟩
 ·have:=pw (k.ne p hp).1
  exact cons (by decide+kernel) ⟨by omega,this.2⟩
 ·have lk:=Y0 g hq
  have p1:=pw lk.2.1
  have p2:=pw lk.2.2
  refine cons (by decide+kernel) ⟨by unfold Qe; simp; omega,fun w hw=>?_⟩
  unfold Qe at hw
  simp only[List.mem_cons,AW]at hw
  rcases hw with rfl|hw|rfl|hw
  ·have:=ZT lk.1; omega
  ·exact p1.2 w hw
  ·decide+kernel
  ·exact p2.2 w hw
theorem vn {W:Wd} (g:Good W):(∀l∈yK W,Ys (.str " ") [yz l]=some (z_ (Txt.join " " l)))∧Ys (.str "\n") [.lst (((yK W).map (Txt.join " ")).map .str)]=some (z_ (J1 W))∧(J1 W).length≤14440:=by
 obtain⟨h1,h2⟩:=k8 g
 have e:∀l∈yK W,Ys (.str " ") [yz l]=some (z_ (Txt.join " " l))∧(Txt.join " " l).length≤20 * 17+20:=fun l hl=>Ka (by decide+kernel) (h2 l hl).2 (h2 l hl).1 (by decide)
 have p:=Ka (a:="\n") (zs:=(yK W).map (Txt.join " ")) (B:=20 * 17+20) (n:=40) (by decide+kernel) (fun z hz=>by
  obtain⟨l,hl,rfl⟩:=AM.mp hz
  exact(e l hl).2) (by rw[List.length_map]; exact h1) (by decide)
 exact⟨fun l hl=>(e l hl).1,p.1,p.2⟩
theorem kY {p:Pat} (h:p.length≤6) (hn:∀a∈p,yk a.1=true∧yk a.2=true):xn [.d (z6 p)]=.ok (.fr (.lst ((yg p).map .str))) [.d (z6 p)]:=by
 have e:XY [.d (z6 p),.no,.no]=.ok (.fr (.lst ((yg p).map .str))) [.d (z6 p),.no,.no]:=by
  unfold XY yg
  rw[AY]
  refine xA (ρ1:=[.d (z6 p),.no,.no]) yi (D.str∘J4) p rfl (zu (by omega)) fun a ha=>⟨[.d (z6 p),.d (.str a.1),.d (.str a.2)],rfl,?_,rfl⟩
  obtain⟨n1,n2⟩:=hn a ha
  have l1:=ZT n1
  have l2:=ZT n2
  have li:(Str.ofString "=").length=1:=is1.len
  have la:(a.1++Str.ofString "=").length≤9:=by rw[len_tl,tl_append,AS,←len_tl,←len_tl]; omega
  have g1:yP (.str a.1) (.str "=")=some (.d (.str (a.1++"="))):=if_pos (zu (by omega))
  have g2:yP (.str (a.1++"=")) (.str a.2)=some (.d (.str (J4 a))):=if_pos (zu (by omega))
  exact yh (yh rfl rfl g1) rfl g2
 refine(vw (ρ1:=[.d (z6 p),.no,.no]) rfl ?_).trans rfl
 show QY [.d (z6 p),.no,.no]=_
 unfold QY VM
 exact xp e
def jY (ls:S) (A:List D) (qs:List Lps) (x3 x6 x7:S):List S:=[ls,.own (.lst (A++qs.map fun q=>yz (kL::Qe q))),.no,x3,.no,.no,x6,x7,.no]
theorem MG {W:Wd} (g:Good W) {q:Lps} (hq:q∈W.la) {ρ:List S} (v3:zb 3 ρ=.ok (.d (.str q.ho)) ρ) (v6:zb 6 ρ=.ok (.d (z6 q.needs)) ρ) (v7:zb 7 ρ=.ok (.d (z6 q.makes)) ρ) :
  zg yP (zg yP (zg yP (zG (za (aK (.str "lapse")) (za (zb 3) ze))) (aFn xn (za (zb 6) ze))) (zG (za (aK (.str ":")) ze))) (aFn xn (za (zb 7) ze)) ρ=.ok (.fr (.lst ((kL::Qe q).map .str))) ρ:=by
 have lk:=Y0 g hq
 have p1:=g.pat lk.2.1
 have p2:=g.pat lk.2.2
 have q1:=wL v6 (kY p1.1 p1.2)
 have q2:=wL v7 (kY p2.1 p2.2)
 have l1:(yg q.needs).length≤6:=by unfold yg; rw[List.length_map]; exact p1.1
 have l2:(yg q.makes).length≤6:=by unfold yg; rw[List.length_map]; exact p2.1
 have a1:zG (za (aK (.str "lapse")) (za (zb 3) ze)) ρ=.ok (.fr (.lst [.str "lapse",.str q.ho])) ρ:=VU (xs:=[.str "lapse",.str q.ho]) (yn rfl (yn v3 xQ)) (by simp)
 have a2:zG (za (aK (.str ":")) ze) ρ=.ok (.fr (.lst [.str ":"])) ρ:=VU (xs:=[.str ":"]) (yn rfl xQ) (by simp)
 have e:=dB (dB (dB a1 q1 rfl (by simp; omega)) a2 rfl (by simp; omega)) q2 rfl (by simp; omega)
 rw[e]
 congr 3
 unfold Qe
 simp only[List.map_cons,A7,Bi,List.cons_append,List.nil_append]
 rfl
theorem m6 {W:Wd} (g:Good W) {ls:S} {A:List D} (hA:A.length≤40):∀(qs:List Lps) (x3 x6 x7:S),(∀q∈qs,q∈W.la)→∀done:List Lps,done.length+qs.length≤10→∃y3 y6 y7,xr (.tp [(.nm 3),(.nm 6),(.nm 7)]) qS (qs.map Lps.d) (jY ls A done x3 x6 x7)=.ok .nx (jY ls A (done++qs) y3 y6 y7)
 |[],x3,x6,x7,_,done,_=>⟨x3,x6,x7,by rw[A6]; rfl⟩
 |q::qs,x3,x6,x7,h,done,hd=>by
  simp only[List.length_cons]at hd
  obtain⟨y3,y6,y7,ih⟩:=m6 g hA qs (.d (.str q.ho)) (.d (z6 q.needs)) (.d (z6 q.makes)) (fun z hz=>h z (List.mem_cons_of_mem _ hz)) (done++[q]) (by simp; omega)
  refine⟨y3,y6,y7,?_⟩
  have ts:zQ (.tp [(.nm 3),(.nm 6),(.nm 7)]) q.d (jY ls A done x3 x6 x7)=some (jY ls A done (.d (.str q.ho)) (.d (z6 q.needs)) (.d (z6 q.makes))):=rfl
  rw[List.map_cons,UX ts]
  obtain⟨P,hP⟩:∃P,P=jY ls A done (.d (.str q.ho)) (.d (z6 q.needs)) (.d (z6 q.makes)):=⟨_,rfl⟩
  have v:=MG g (h q AN) (ρ:=P) (by rw[hP]; rfl) (by rw[hP]; rfl) (by rw[hP]; rfl)
  have s9:qS P=.ok .nx (jY ls A (done++[q]) (.d (.str q.ho)) (.d (z6 q.needs)) (.d (z6 q.makes))):=by
   unfold qS
   refine(SK (i:=1) (A:=A++done.map fun q=>yz (kL::Qe q)) v (by rw[hP]; rfl) (by simp; omega)).trans ?_
   rw[hP]
   unfold jY
   rw[A7,←Bi]
   rfl
  rw[←hP,s9]
  show xr _ _ (qs.map Lps.d) _=_
  rw[ih]
  congr 2
  simp
theorem Kt {W:Wd} (g:Good W) {ls:S} (L:Lore ls W):qA [ls]=.ok (.d (.str (J1 W))) [ls]:=by
 have k:=g.k
 obtain⟨Z,hZ⟩:∃Z:List D→List S,Z=fun A=>[ls,.own (.lst A),.no,.no,.no,.no,.no,.no,.no]:=⟨_,rfl⟩
 have v1:∀A,(Z A)[1]?=some (.own (.lst A)):=fun A=>by rw[hZ]; rfl
 have set1:∀A B,(Z A).set 1 (.own (.lst B))=Z B:=fun A B=>by rw[hZ]; rfl
 obtain⟨A1,hA1⟩:∃A,A=[yz (kH::W.hs)]:=⟨_,rfl⟩
 obtain⟨A2,hA2⟩:∃A,A=W.sl.map fun s=>yz (kS::s.nm::s.ho::s.ws):=⟨_,rfl⟩
 obtain⟨A3,hA3⟩:∃A,A=W.be.map fun p=>yz (kB::yg p):=⟨_,rfl⟩
 obtain⟨A4,hA4⟩:∃A,A=W.ne.map fun p=>yz (kN::yg p):=⟨_,rfl⟩
 have n1:A1.length=1:=by rw[hA1]; rfl
 have n2:A2.length≤6:=by rw[hA2,List.length_map]; exact k.sl.len.2
 have n3:A3.length≤10:=by rw[hA3,List.length_map]; exact g.few.1
 have n4:A4.length≤10:=by rw[hA4,List.length_map]; exact g.few.2
 have s1:j9 [ls,.no,.no,.no,.no,.no,.no,.no,.no]=.ok .nx (Z A1):=by
  have hh:zg gIx (zb 0) (aK (.str "houses")) [ls,.no,.no,.no,.no,.no,.no,.no,.no]=.ok (.d (zk W.hs)) [ls,.no,.no,.no,.no,.no,.no,.no,.no]:=Q9 L.h1
  generalize hX:([ls,.no,.no,.no,.no,.no,.no,.no,.no]:List S)=X at hh⊢
  have a1:zG (za (aK (.str "houses")) ze) X=.ok (.fr (.lst [.str "houses"])) X:=VU (xs:=[.str "houses"]) (yn rfl xQ) (by simp)
  have e:=dB a1 (Kx hh) rfl (by have:=k.hs.2.1; simp; omega)
  have e2:zG (za (zg yP (zG (za (aK (.str "houses")) ze)) (zh (VJ wR Uq) (za (zg gIx (zb 0) (aK (.str "houses"))) ze))) ze) X=.ok (.fr (.lst A1)) X:=by
   rw[hA1]
   exact NN e
  unfold j9
  refine(QM (i:=1) e2 (by rw[←hX]; simp)).trans ?_
  rw[←hX,hZ]; rfl
 have s2:∀A,A.length≤100→j_ (Z A)=.ok .nx (Z (A++A2)):=fun A hA=>by
  have e:j6 (Z A)=.ok (.fr (.lst A2)) (Z A):=by
   unfold j6
   rw[hA2]
   refine m9 (ρ1:=Z A) (ρw:=Z A) Slot.d (fun s=>(kS::s.nm::s.ho::s.ws).map .str) W.sl ?_ (by have:=k.sl.len.2; omega) (fun s hs=>⟨[ls,.own (.lst A),.d (.str s.nm),.d (.str s.ho),.d (zk s.ws),.no,.no,.no,.no],by rw[hZ]; rfl,?_,by rw[hZ]; rfl⟩) (by rw[hZ]; rfl) (by rw[hZ]; rfl) (by rw[hZ]; rfl)
   ·unfold zn
    rw[show zg gIx (zb 0) (aK (.str "slots")) (Z A)=.ok (.d (zE W.sl)) (Z A)by rw[hZ]; exact Q9 L.h2,Res.nn_ok,Res.bind_ok]
    rfl
   ·have a1:zG (za (aK (.str "slot")) (za (zb 2) (za (zb 3) ze))) [ls,.own (.lst A),.d (.str s.nm),.d (.str s.ho),.d (zk s.ws),.no,.no,.no,.no]=.ok (.fr (.lst [.str "slot",.str s.nm,.str s.ho])) [ls,.own (.lst A),.d (.str s.nm),.d (.str s.ho),.d (zk s.ws),.no,.no,.no,.no]:=VU (xs:=[.str "slot",.str s.nm,.str s.ho]) (yn rfl (yn rfl (yn rfl xQ))) (by simp)
    exact dB a1 (Kx (f:=zb 4) rfl) rfl (by have:=(k.sl.wl s hs).2; simp; omega)
  unfold j_
  exact(pH e (v1 A) (by omega)).trans (by rw[set1])
 have pats:∀(A:List D) (word:Str) (key:Str) (ps:List Pat),(∀p∈ps,yG W.sl p=true)→ps.length≤10→Has ls key (yo ps)→aLc [5] (zn (zg gIx (zb 0) (aK (.str key)))) (.nm 5) yX (zg yP (zG (za (aK (.str word)) ze)) (aFn xn (za (zb 5) ze))) (Z A)=.ok (.fr (.lst (ps.map fun p=>yz (word::yg p)))) (Z A):=fun A word key ps hp hl hk=>by
  refine m9 (ρ1:=Z A) (ρw:=Z A) z6 (fun p=>(word::yg p).map .str) ps ?_ (by omega) (fun p hp'=>⟨[ls,.own (.lst A),.no,.no,.no,.d (z6 p),.no,.no,.no],by rw[hZ]; rfl,?_,by rw[hZ]; rfl⟩) (by rw[hZ]; rfl) (by rw[hZ]; rfl) (by rw[hZ]; rfl)
  ·unfold zn
   rw[show zg gIx (zb 0) (aK (.str key)) (Z A)=.ok (.d (yo ps)) (Z A)by rw[hZ]; exact Q9 hk,Res.nn_ok,Res.bind_ok]
   rfl
  ·have q:=g.pat (hp p hp')
   have a1:zG (za (aK (.str word)) ze) [ls,.own (.lst A),.no,.no,.no,.d (z6 p),.no,.no,.no]=.ok (.fr (.lst [.str word])) [ls,.own (.lst A),.no,.no,.no,.d (z6 p),.no,.no,.no]:=VU (xs:=[.str word]) (yn rfl xQ) (by simp)
   have l1:(yg p).length≤6:=by unfold yg; rw[List.length_map]; exact q.1
   exact dB a1 (wL (f:=zb 5) rfl (kY q.1 q.2)) rfl (by simp; omega)
 have s4:∀A,A.length≤100→Za (Z A)=.ok .nx (Z (A++A3)):=fun A hA=>by
  have e:j7 (Z A)=.ok (.fr (.lst A3)) (Z A):=by
   unfold j7
   rw[hA3]
   exact pats A "bears" "bears" W.be (fun p hp=>(k.be p hp).1) g.few.1 L.h3
  unfold Za
  exact(pH e (v1 A) (by omega)).trans (by rw[set1])
 have s6:∀A,A.length≤100→Zb (Z A)=.ok .nx (Z (A++A4)):=fun A hA=>by
  have e:j8 (Z A)=.ok (.fr (.lst A4)) (Z A):=by
   unfold j8
   rw[hA4]
   exact pats A "never" "never" W.ne (fun p hp=>(k.ne p hp).1) g.few.2 L.h4
  unfold Zb
  exact(pH e (v1 A) (by omega)).trans (by rw[set1])
 obtain⟨AA,hAA⟩:∃AA,AA=A1++A2++A3++A4:=⟨_,rfl⟩
 have nA:AA.length≤40:=by rw[hAA]; simp; omega
 obtain⟨y3,y6,y7,lp⟩:=m6 g (ls:=ls) nA W.la .no .no .no (fun q hq=>hq) [] (by have:=k.la.1; simp; omega)
 have s8:Zd (Z AA)=.ok .nx (jY ls AA W.la y3 y6 y7):=by
  unfold Zd Xt
  have it:zn (zg gIx (zb 0) (aK (.str "lapses"))) (Z AA)=.ok (W.la.map Lps.d) (Z AA):=by
   unfold zn
   rw[show zg gIx (zb 0) (aK (.str "lapses")) (Z AA)=.ok (.d (qH W.la)) (Z AA)by rw[hZ]; exact Q9 L.h5,Res.nn_ok,Res.bind_ok]
   rfl
  have z0:Z AA=jY ls AA [] .no .no .no:=by rw[hZ]; unfold jY; simp
  rw[it,Res.bind_ok,z0]
  exact lp
 have all:AA++W.la.map (fun q=>yz (kL::Qe q))=(yK W).map yz:=by
  rw[hAA,hA1,hA2,hA3,hA4]
  unfold yK
  simp[A7,AY,Function.comp_def]
 obtain⟨j1,j2,_⟩:=vn g
 obtain⟨WL,hWL⟩:∃WL,WL=(yK W).map yz:=⟨_,rfl⟩
 have e0:jY ls AA W.la y3 y6 y7=[ls,.own (.lst WL),.no,y3,.no,.no,y6,y7,.no]:=by unfold jY; rw[all,hWL]
 have nl:=(k8 g).1
 have e11:jG [ls,.own (.lst WL),.no,y3,.no,.no,y6,y7,.no]=.ok (.fr (.lst (((yK W).map (Txt.join " ")).map .str))) [ls,.d (.lst WL),.no,y3,.no,.no,y6,y7,.no]:=by
  unfold jG
  rw[AY,hWL]
  refine xA (ρ1:=[ls,.d (.lst ((yK W).map yz)),.no,y3,.no,.no,y6,y7,.no]) yz (D.str∘Txt.join " ") (yK W) rfl (zu (by omega)) fun l hl=>⟨[ls,.d (.lst ((yK W).map yz)),.no,y3,.no,.no,y6,y7,.d (yz l)],rfl,aj (f:=zb 8) (v:=.d (yz l)) rfl rfl (j1 l hl),rfl⟩
 refine(xR (np:=1) (nl:=8) (ρ1:=[ls,.d (.lst WL),.no,y3,.no,.no,y6,y7,.no]) rfl ?_).trans rfl
 show ZI [ls,.no,.no,.no,.no,.no,.no,.no,.no]=_
 unfold ZI
 refine(zU s1).trans ((zU (s2 A1 (by omega))).trans ((zU (s4 _ (by simp; omega))).trans ((zU (s6 _ (by simp; omega))).trans ?_)))
 rw[←hAA]
 refine(zU s8).trans ?_
 rw[e0]
 unfold YI
 exact xp (aj (v:=.fr (.lst (((yK W).map (Txt.join " ")).map .str))) e11 rfl j2)
end L2.AL.WS.R
namespace L2.AL.WS.R.K09
open PySem PySem.Spec PyProof.Rows L2 L2.AL L2.AL.SH L2.AL.WS L2.AL.YS TL
theorem vr {p:Pat} (h:p.length≤6) (hn:∀a∈p,yk a.1=true∧yk a.2=true):yD [.d (z6 p)]=.ok (.fr (.lst ((yg p).map .str))) [.d (z6 p)]:=by
 have e:Yc [.d (z6 p),.no,.no]=.ok (.fr (.lst ((yg p).map .str))) [.d (z6 p),.no,.no]:=by
  unfold Yc yg
  rw[AY]
  refine xA (ρ1:=[.d (z6 p),.no,.no]) yi (D.str∘J4) p rfl (zu (by omega)) fun a ha=>⟨[.d (z6 p),.d (.str a.1),.d (.str a.2)],rfl,?_,rfl⟩
  obtain⟨n1,n2⟩:=hn a ha
  have l1:=ZT n1
  have l2:=ZT n2
  have li:(Str.ofString "=").length=1:=is1.len
  have la:(a.1++Str.ofString "=").length≤9:=by rw[len_tl,tl_append,AS,←len_tl,←len_tl]; omega
  have g1:yP (.str a.1) c_IS=some (.d (.str (a.1++"="))):=if_pos (zu (by omega))
  have g2:yP (.str (a.1++"=")) (.str a.2)=some (.d (.str (J4 a))):=if_pos (zu (by omega))
  exact yh (yh rfl rfl g1) rfl g2
 refine(vw (ρ1:=[.d (z6 p),.no,.no]) rfl ?_).trans rfl
 show YB [.d (z6 p),.no,.no]=_
 unfold YB QG
 exact xp e
theorem m7 {W:Wd} (g:Good W) {q:Lps} (hq:q∈W.la):jN [.d q.d]=.ok (.fr (.lst ((Qe q).map .str))) [.d q.d]:=by
 have lk:=Y0 g hq
 have p1:=g.pat lk.2.1
 have p2:=g.pat lk.2.2
 have l1:(yg q.needs).length≤6:=by unfold yg; rw[List.length_map]; exact p1.1
 have l2:(yg q.makes).length≤6:=by unfold yg; rw[List.length_map]; exact p2.1
 obtain⟨P,hP⟩:∃P,P=[S.d q.d,.d (.str q.ho),.d (z6 q.needs),.d (z6 q.makes)]:=⟨_,rfl⟩
 have s1:JU [.d q.d,.no,.no,.no]=.ok .nx P:=by rw[hP]; rfl
 have v1:zb 1 P=.ok (.d (.str q.ho)) P:=qF (by rw[hP]; rfl)
 have q1:=wL (f:=zb 2) (ρ:=P) (qF (by rw[hP]; rfl)) (vr p1.1 p1.2)
 have q2:=wL (f:=zb 3) (ρ:=P) (qF (by rw[hP]; rfl)) (vr p2.1 p2.2)
 have c:=vD (es:=[]) q2 rfl xQ
 have b:=vD (es:=.str ":"::((yg q.makes).map .str++[])) q1 rfl (yn (f:=aK c_COLON) (x:=.str ":") rfl c)
 have a:za (zb 1) (zD (aFn yD (za (zb 2) ze)) (za (aK c_COLON) (zD (aFn yD (za (zb 3) ze)) ze))) P=.ok ((.str q.ho::((yg q.needs).map .str++(.str ":"::((yg q.makes).map .str++[])))).map E.d) P:=yn v1 b
 have e:zG (za (zb 1) (zD (aFn yD (za (zb 2) ze)) (za (aK c_COLON) (zD (aFn yD (za (zb 3) ze)) ze)))) P=.ok (.fr (.lst ((Qe q).map .str))) P:=by
  have e:=VU (xs:=.str q.ho::((yg q.needs).map .str++(.str ":"::((yg q.makes).map .str++[])))) a (by simp; omega)
  rw[e]
  congr 3
  unfold Qe
  rw[A6,List.map_cons,A7,List.map_cons]
  rfl
 refine(vw (ρ1:=P) rfl ?_).trans (by rw[hP]; rfl)
 show Qb [.d q.d,.no,.no,.no]=_
 unfold Qb
 refine(zU s1).trans ?_
 unfold JV
 exact xp e
theorem MH {l:List Str} (h:l.length≤1000) (hj:Ys (.str " ") [yz l]=some (z_ (Txt.join " " l))):QB [.d (yz l)]=.ok (.d (.str (Txt.join " " l))) [.d (yz l)]:=by
 have e2:Uw [.d (yz l),.no]=.ok (.fr (.lst (l.map .str))) [.d (yz l),.no]:=by
  unfold Uw
  exact xA (ρ1:=[.d (yz l),.no]) D.str D.str l rfl (zu (by omega)) fun w hw=>⟨[.d (yz l),.d (.str w)],rfl,qj (f:=zb 1) (v:=.d (.str w)) rfl rfl rfl,rfl⟩
 refine(xR (ρ1:=[.d (yz l),.no]) rfl ?_).trans rfl
 show kJ [.d (yz l),.no]=_
 unfold kJ w_
 exact xp (aj (a:=" ") (v:=.fr (.lst (l.map .str))) e2 rfl hj)
theorem iq {W:Wd} (g:Good W):xZ [.d (ym W)]=.ok (.d (.str (J1 W))) [.d (ym W)]:=by
 have k:=g.k
 have h1:yM [.d (ym W)]=.ok (.d (zk W.hs)) [.d (ym W)]:=rfl
 have h2:yB [.d (ym W)]=.ok (.d (zE W.sl)) [.d (ym W)]:=rfl
 have h3:yQ [.d (ym W)]=.ok (.d (yo W.be)) [.d (ym W)]:=rfl
 have h4:yR [.d (ym W)]=.ok (.d (yo W.ne)) [.d (ym W)]:=rfl
 have h5:yN [.d (ym W)]=.ok (.d (qH W.la)) [.d (ym W)]:=rfl
 obtain⟨ds,hds⟩:∃ds,ym W=.ins "World" ds:=⟨_,rfl⟩
 rw[hds]at h1 h2 h3 h4 h5⊢
 obtain⟨Z,hZ⟩:∃Z:List D→List S,Z=fun A=>[.d (.ins "World" ds),.own (.lst A),.no,.no,.no,.no,.no,.no]:=⟨_,rfl⟩
 have v0:∀A,zb 0 (Z A)=.ok (.d (.ins "World" ds)) (Z A):=fun A=>qF (by rw[hZ]; rfl)
 have v1:∀A,(Z A)[1]?=some (.own (.lst A)):=fun A=>by rw[hZ]; rfl
 have set1:∀A B,(Z A).set 1 (.own (.lst B))=Z B:=fun A B=>by rw[hZ]; rfl
 obtain⟨A1,hA1⟩:∃A,A=[yz (kH::W.hs)]:=⟨_,rfl⟩
 obtain⟨A2,hA2⟩:∃A,A=W.sl.map fun s=>yz (kS::s.nm::s.ho::s.ws):=⟨_,rfl⟩
 obtain⟨A3,hA3⟩:∃A,A=W.be.map fun p=>yz (kB::yg p):=⟨_,rfl⟩
 obtain⟨A4,hA4⟩:∃A,A=W.ne.map fun p=>yz (kN::yg p):=⟨_,rfl⟩
 obtain⟨A5,hA5⟩:∃A,A=W.la.map fun q=>yz (kL::Qe q):=⟨_,rfl⟩
 have n1:A1.length=1:=by rw[hA1]; rfl
 have n2:A2.length≤6:=by rw[hA2,List.length_map]; exact k.sl.len.2
 have n3:A3.length≤10:=by rw[hA3,List.length_map]; exact g.few.1
 have n4:A4.length≤10:=by rw[hA4,List.length_map]; exact g.few.2
 have n5:A5.length≤4:=by rw[hA5,List.length_map]; exact k.la.1
 have s1:Qo [.d (.ins "World" ds),.no,.no,.no,.no,.no,.no,.no]=.ok .nx (Z A1):=by
  generalize hX:([.d (.ins "World" ds),.no,.no,.no,.no,.no,.no,.no]:List S)=X
  have vx:zb 0 X=.ok (.d (.ins "World" ds)) X:=qF (by rw[←hX]; rfl)
  have p:=aO (c:="World") vx h1
  have e:=VU (xs:=.str "houses"::(W.hs.map .str++[])) (yn (f:=aK (.str "houses")) rfl (vD (es:=[]) p rfl xQ)) (by have:=k.hs.2.1; simp; omega)
  rw[A6]at e
  unfold Qo
  refine(QM (i:=1) (NN e) (by rw[←hX]; simp)).trans ?_
  rw[←hX,hZ,hA1]; rfl
 have s2:∀A,A.length≤100→Qp (Z A)=.ok .nx (Z (A++A2)):=fun A hA=>by
  have e:Qk (Z A)=.ok (.fr (.lst A2)) (Z A):=by
   unfold Qk
   rw[hA2]
   refine m9 (ρ1:=Z A) (ρw:=Z A) Slot.d (fun s=>(kS::s.nm::s.ho::s.ws).map .str) W.sl ?_ (by have:=k.sl.len.2; omega) (fun s hs=>⟨[.d (.ins "World" ds),.own (.lst A),.d (.str s.nm),.d (.str s.ho),.d (zk s.ws),.no,.no,.no],by rw[hZ]; rfl,?_,by rw[hZ]; rfl⟩) (by rw[hZ]; rfl) (by rw[hZ]; rfl) (by rw[hZ]; rfl)
   ·unfold zn
    rw[aO (c:="World") (v0 A) h2,Res.nn_ok,Res.bind_ok]
    rfl
   ·have e:=VU (xs:=.str "slot"::.str s.nm::.str s.ho::(s.ws.map .str++[])) (yn (f:=aK (.str "slot")) rfl (yn (f:=zb 2) rfl (yn (f:=zb 3) rfl (vD (f:=zb 4) (v:=.d (zk s.ws)) (es:=[]) (ρ:=[.d (.ins "World" ds),.own (.lst A),.d (.str s.nm),.d (.str s.ho),.d (zk s.ws),.no,.no,.no]) rfl rfl xQ)))) (by have:=(k.sl.wl s hs).2; simp; omega)
    rw[A6]at e
    exact e
  unfold Qp
  exact(pH e (v1 A) (by omega)).trans (by rw[set1])
 have pats:∀(A:List D) (word:Str) (F:AK) (ps:List Pat),(∀p∈ps,yG W.sl p=true)→ps.length≤10→F [.d (.ins "World" ds)]=.ok (.d (yo ps)) [.d (.ins "World" ds)]→aLc [5] (zn (xl "World" F (zb 0))) (.nm 5) yX (zG (za (aK (.str word)) (zD (aFn yD (za (zb 5) ze)) ze))) (Z A)=.ok (.fr (.lst (ps.map fun p=>yz (word::yg p)))) (Z A):=fun A word F ps hp hl hk=>by
  refine m9 (ρ1:=Z A) (ρw:=Z A) z6 (fun p=>(word::yg p).map .str) ps ?_ (by omega) (fun p hp'=>⟨[.d (.ins "World" ds),.own (.lst A),.no,.no,.no,.d (z6 p),.no,.no],by rw[hZ]; rfl,?_,by rw[hZ]; rfl⟩) (by rw[hZ]; rfl) (by rw[hZ]; rfl) (by rw[hZ]; rfl)
  ·unfold zn
   rw[aO (c:="World") (v0 A) hk,Res.nn_ok,Res.bind_ok]
   rfl
  ·have q:=g.pat (hp p hp')
   have l1:(yg p).length≤6:=by unfold yg; rw[List.length_map]; exact q.1
   have f:=wL (f:=zb 5) (ρ:=[.d (.ins "World" ds),.own (.lst A),.no,.no,.no,.d (z6 p),.no,.no]) rfl (vr q.1 q.2)
   have e:=VU (xs:=.str word::((yg p).map .str++[])) (yn (f:=aK (.str word)) rfl (vD (es:=[]) f rfl xQ)) (by simp; omega)
   rw[A6]at e
   exact e
 have s4:∀A,A.length≤100→Qq (Z A)=.ok .nx (Z (A++A3)):=fun A hA=>by
  have e:Ql (Z A)=.ok (.fr (.lst A3)) (Z A):=by
   unfold Ql
   rw[hA3]
   exact pats A "bears" yQ W.be (fun p hp=>(k.be p hp).1) g.few.1 h3
  unfold Qq
  exact(pH e (v1 A) (by omega)).trans (by rw[set1])
 have s6:∀A,A.length≤100→Qr (Z A)=.ok .nx (Z (A++A4)):=fun A hA=>by
  have e:Qm (Z A)=.ok (.fr (.lst A4)) (Z A):=by
   unfold Qm
   rw[hA4]
   exact pats A "never" yR W.ne (fun p hp=>(k.ne p hp).1) g.few.2 h4
  unfold Qr
  exact(pH e (v1 A) (by omega)).trans (by rw[set1])
 have s8:∀A,A.length≤100→Qs (Z A)=.ok .nx (Z (A++A5)):=fun A hA=>by
  have e:Qn (Z A)=.ok (.fr (.lst A5)) (Z A):=by
   unfold Qn
   rw[hA5]
   refine m9 (ρ1:=Z A) (ρw:=Z A) Lps.d (fun q=>(kL::Qe q).map .str) W.la ?_ (by have:=k.la.1; omega) (fun q hq=>⟨[.d (.ins "World" ds),.own (.lst A),.no,.no,.no,.no,.d q.d,.no],by rw[hZ]; rfl,?_,by rw[hZ]; rfl⟩) (by rw[hZ]; rfl) (by rw[hZ]; rfl) (by rw[hZ]; rfl)
   ·unfold zn
    rw[aO (c:="World") (v0 A) h5,Res.nn_ok,Res.bind_ok]
    rfl
   ·have f:=wL (f:=zb 6) (ρ:=[.d (.ins "World" ds),.own (.lst A),.no,.no,.no,.no,.d q.d,.no]) rfl (m7 g hq)
    have lk:=Y0 g hq
    have p1:=(g.pat lk.2.1).1
    have p2:=(g.pat lk.2.2).1
    have e:=VU (xs:=.str "lapse"::((Qe q).map .str++[])) (yn (f:=aK (.str "lapse")) rfl (vD (es:=[]) f rfl xQ)) (by unfold Qe yg; simp; omega)
    rw[A6]at e
    exact e
  unfold Qs
  exact(pH e (v1 A) (by omega)).trans (by rw[set1])
 have all:A1++A2++A3++A4++A5=(yK W).map yz:=by
  rw[hA1,hA2,hA3,hA4,hA5]
  unfold yK
  simp[A7,AY,Function.comp_def]
 obtain⟨j1,j2,_⟩:=vn g
 obtain⟨nl,ll⟩:=k8 g
 obtain⟨WL,hWL⟩:∃WL,WL=(yK W).map yz:=⟨_,rfl⟩
 have e11:Xv (Z WL)=.ok (.fr (.lst (((yK W).map (Txt.join " ")).map .str))) [.d (.ins "World" ds),.d (.lst WL),.no,.no,.no,.no,.no,.no]:=by
  unfold Xv
  rw[AY,hZ,hWL]
  refine xA (ρ1:=[.d (.ins "World" ds),.d (.lst ((yK W).map yz)),.no,.no,.no,.no,.no,.no]) yz (D.str∘Txt.join " ") (yK W) rfl (zu (by omega)) fun l hl=>⟨[.d (.ins "World" ds),.d (.lst ((yK W).map yz)),.no,.no,.no,.no,.no,.d (yz l)],rfl,?_,rfl⟩
  exact tW (f:=zb 7) rfl (MH (by have:=(ll l hl).1; omega) (j1 l hl))
 refine(xR (np:=1) (nl:=7) (ρ1:=[.d (.ins "World" ds),.d (.lst WL),.no,.no,.no,.no,.no,.no]) rfl ?_).trans rfl
 show Q4 [.d (.ins "World" ds),.no,.no,.no,.no,.no,.no,.no]=_
 unfold Q4
 refine(zU s1).trans ((zU (s2 A1 (by omega))).trans ((zU (s4 _ (by simp; omega))).trans ((zU (s6 _ (by simp; omega))).trans ((zU (s8 _ (by simp; omega))).trans ?_))))
 rw[all,←hWL]
 unfold Vf
 exact xp (aj (a:="\n") (v:=.fr (.lst (((yK W).map (Txt.join " ")).map .str))) e11 rfl j2)
end L2.AL.WS.R.K09
namespace L2.AL.WS.R
open PySem PySem.Spec PyProof.Rows L2 L2.AL L2.AL.SH L2.AL.WS L2.AL.YS TL
structure PartsX (l:List Slot) (k must:Nat) (G:Pat):Prop where
 sub:(G.map (·.1)).Sublist (l.map Slot.nm)
 each:∀a∈G,∃(j:Nat) (s:Slot),l[j]?=some s∧k+j≠must∧s.nm=a.1∧a.2∈s.ws
theorem PartsX.skip {l:List Slot} {k must:Nat} {G:Pat} {s:Slot} (h:PartsX l (k+1) must G):PartsX (s::l) k must G:=
 ⟨h.sub.cons _,fun a ha=>by obtain⟨j,t,h1,h2,h3⟩:=h.each a ha; exact⟨j+1,t,h1,by omega,h3⟩⟩
theorem PartsX.take {l:List Slot} {k must:Nat} {G:Pat} {s:Slot} {w:Str} (h:PartsX l (k+1) must G) (hk:k≠must) (hw:w∈s.ws):PartsX (s::l) k must ((s.nm,w)::G):=
 ⟨by rw[List.map_cons,List.map_cons]; exact h.sub.cons₂ _,fun a ha=>by
  rcases List.mem_cons.mp ha with rfl|ha
  ·exact⟨0,s,rfl,by omega,rfl,hw⟩
  ·obtain⟨j,t,h1,h2,h3⟩:=h.each a ha; exact⟨j+1,t,h1,by omega,h3⟩⟩
theorem Mb {o:O} {t:Nat} (sd:D) (must:Nat) (F:Pat) (k:Nat) (s:Slot) (hj:JarOk t o) (ht:t≤90000) (hF:F.length≤1000) (hw:2≤s.ws.length∧s.ws.length≤1000) :
  ∃o' G,qt (hbS o sd must F (.d (.int k)) (.d (.str s.nm)) (.d (.str s.ho)) (.d (zk s.ws)))=.ok .nx (hbS o' sd must (F++G) (.d (.int k)) (.d (.str s.nm)) (.d (.str s.ho)) (.d (zk s.ws)))∧JarOk (t+2) o'∧
   (G=[]∨(k≠must∧∃w∈s.ws,G=[(s.nm,w)])):=by
 have sz:(F.map yi).length<sizeLine:=Nat.lt_of_le_of_lt (by rw[List.length_map]; exact hF) (by decide)
 have l2:(2:Nat)≤sizeLine:=by decide
 have nei:gNe (.int (k:Int)) (.int (must:Int))=some (eBl (!decide ((k:Int)=(must:Int)))):=by unfold gNe D.eq?; rw[bT]; rfl
 have t1:aT (zg gNe (zb 4) (zb 2)) (hbS o sd must F (.d (.int k)) (.d (.str s.nm)) (.d (.str s.ho)) (.d (zk s.ws)))=.ok (!decide ((k:Int)=(must:Int))) (hbS o sd must F (.d (.int k)) (.d (.str s.nm)) (.d (.str s.ho)) (.d (zk s.ws))):=qi (yh rfl rfl nei)
 by_cases c:k=must
 ·have c':(k:Int)=(must:Int):=by omega
  rw[decide_eq_true c']at t1
  refine⟨o,[],?_,hj.mono (by omega),.inl rfl⟩
  unfold qt
  rw[UZ (show zF _ _ _=.ok false (hbS o sd must F (.d (.int k)) (.d (.str s.nm)) (.d (.str s.ho)) (.d (zk s.ws)))by unfold zF; rw[t1]; rfl)]
  simp[sNx]
 ·have c':¬(k:Int)=(must:Int):=by omega
  rw[decide_eq_false c']at t1
  obtain⟨r,o1,e1,r0,r1,ok1⟩:=xB (m:=3) hj (by omega) (by decide) (by decide)
  have ft:=Zg (ρ:=hbS o sd must F (.d (.int k)) (.d (.str s.nm)) (.d (.str s.ho)) (.d (zk s.ws))) (fx:=aK (.int 3)) rfl rfl (.inl ⟨_,rfl,rfl⟩) e1
  have t2:aT (zg gEq (aFn zZ (za (zb 0) (za (aK (.int 3)) ze))) (aK (.int 0))) (hbS o sd must F (.d (.int k)) (.d (.str s.nm)) (.d (.str s.ho)) (.d (zk s.ws)))=.ok (r==0) (hbS o1 sd must F (.d (.int k)) (.d (.str s.nm)) (.d (.str s.ho)) (.d (zk s.ws))):=by
   have eqr:gEq (.int r) (.int 0)=some (eBl (r==0)):=rfl
   simp only[aT,zg,ft,Res.bind_ok]
   simp[hbS,aK,zX,E.val,eqr]
  by_cases cr:r=0
  ·subst cr
   obtain⟨w,o',e,hw',ok⟩:=U6 (ws:=s.ws) ok1 (by omega) (fun z=>by rw[z]at hw; simp at hw) (by omega)
   have fo:=Zg (ρ:=hbS o1 sd must F (.d (.int k)) (.d (.str s.nm)) (.d (.str s.ho)) (.d (zk s.ws))) (fx:=zb 7) rfl rfl (.inl ⟨_,rfl,rfl⟩) e
   refine⟨o',[(s.nm,w)],?_,ok.mono (by omega),.inr ⟨c,w,hw',rfl⟩⟩
   unfold qt
   rw[fX (show zF _ _ _=.ok true (hbS o1 sd must F (.d (.int k)) (.d (.str s.nm)) (.d (.str s.ho)) (.d (zk s.ws)))by unfold zF; rw[t1,Res.bind_ok]; simp only[Bool.not_false,if_true]; rw[t2]; rfl)]
   unfold Jj
   rw[WS.app_eq (F:=F.map yi) (F':=F.map yi) (x:=yi (s.nm,w)) (ρ1:=hbS o' sd must F (.d (.int k)) (.d (.str s.nm)) (.d (.str s.ho)) (.d (zk s.ws))) rfl (by
    simp only[zV,za,show zb 5 (hbS o1 sd must F (.d (.int k)) (.d (.str s.nm)) (.d (.str s.ho)) (.d (zk s.ws)))=.ok (.d (.str s.nm)) (hbS o1 sd must F (.d (.int k)) (.d (.str s.nm)) (.d (.str s.ho)) (.d (zk s.ws)))from rfl,Res.bind_ok]
    rw[fo]
    simp[hbS,ze,keepL,keep1,l2,yi]) rfl sz]
   simp[hbS]
  ·refine⟨o1,[],?_,ok1.mono (by omega),.inl rfl⟩
   unfold qt
   rw[UZ (show zF _ _ _=.ok false (hbS o1 sd must F (.d (.int k)) (.d (.str s.nm)) (.d (.str s.ho)) (.d (zk s.ws)))by unfold zF; rw[t1,Res.bind_ok]; simp only[Bool.not_false,if_true]; rw[t2]; simp[cr])]
   simp[sNx]
theorem sK (sd:D) (must:Nat):∀(l:List Slot) (k:Nat) (F:Pat) (o:O) (t:Nat) (a b c d:S),JarOk t o→t+2 * l.length≤80000→F.length+l.length≤1000→(∀s∈l,2≤s.ws.length∧s.ws.length≤1000)→
  ∃o' G a' b' c' d',xr (.tp [(.nm 4),(.tp [(.nm 5),(.nm 6),(.nm 7)])]) qt (VT k (l.map Slot.d)) (hbS o sd must F a b c d)=.ok .nx (hbS o' sd must (F++G) a' b' c' d')∧JarOk (t+2 * l.length) o'∧PartsX l k must G
 |[],k,F,o,t,a,b,c,d,hj,_,_,_=>⟨o,[],a,b,c,d,by simp[VT,xr],by simpa using hj,⟨List.Sublist.refl _,fun a h=>by cases h⟩⟩
 |s::l,k,F,o,t,a,b,c,d,hj,ht,hF,hw=>by
  rw[List.length_cons]at ht hF
  obtain⟨o1,G1,e1,ok1,g1⟩:=Mb sd must F k s hj (by omega) (by omega) (hw s AN)
  have lg:G1.length≤1:=by
   rcases g1 with rfl|⟨_,w,_,rfl⟩<;>simp
  obtain⟨o',G,a',b',c',d',e,ok,pg⟩:=sK sd must l (k+1) (F++G1) o1 (t+2) (.d (.int k)) (.d (.str s.nm)) (.d (.str s.ho)) (.d (zk s.ws)) ok1 (by omega) (by rw[AS]; omega) (fun t h=>hw t (List.mem_cons_of_mem _ h))
  refine⟨o',G1++G,a',b',c',d',?_,by rw[List.length_cons,show t+2 * (l.length+1)=t+2+2 * l.length by omega]; exact ok,?_⟩
  ·rw[List.map_cons,VT,xr,show zQ (.tp [(.nm 4),(.tp [(.nm 5),(.nm 6),(.nm 7)])]) (.wt [.int k,s.d]) (hbS o sd must F a b c d)=some (hbS o sd must F (.d (.int k)) (.d (.str s.nm)) (.d (.str s.ho)) (.d (zk s.ws)))from rfl]
   simp only[e1]
   rw[e,Bi]
  ·rcases g1 with rfl|⟨hk,w,hw',rfl⟩
   ·exact pg.skip
   ·exact pg.take hk hw'
local macro_rules|`(tactic|simp[AI,$xs,*]) => `(tactic|simp[zJ,yf,zt,sIf,zH,zL,zp,z9,sTg,zy,sNx,zb,aK,za,ze,zg,zX,zh,zY,E.val,aT,zz,zF,zW,zB,yl,zK,aIf,zr,zV,zG,keepL,keep1,zq,toSL,toS,setL,aFn,zx,zO,zM,wb,zn,D.items?,zC,D.tyn,zj,zw,zm,yc,D.isi,gIs,yj,D.is?,D.seq?,zD,O.toD,eBl,zN,z_,zQ,tsetL,zo,zA,ya,D.imm,$xs,*])
theorem pA {T:Nat} {o:O} {sl:List Slot} (hs:SlW sl) (h:JarOk T o) (hT:T≤70000) {s:S} (hq:s=.own (.lst (sl.map Slot.d))∨s=.d (.lst (sl.map Slot.d))) :
  ∃o' p,xJ [.own o,s]=.ok (.d (z6 p)) [.own o',.d (.lst (sl.map Slot.d))]∧yG sl p=true∧Off sl p∧JarOk (T+300) o':=by
 have pos:0<sl.length:=List.length_pos_iff.mpr hs.ne
 have few:=hs.few
 obtain⟨r,o1,e1,r0,r1,ok1⟩:=xB (m:=(sl.length:Int)) h (by omega) (by omega) (by omega)
 obtain⟨must,rfl⟩:∃m:Nat,r=(m:Int):=⟨r.toNat,by omega⟩
 have hlt:must<sl.length:=by omega
 obtain⟨s0,hs0⟩:∃s0,sl[must]?=some s0:=⟨_,AX hlt⟩
 have m0:s0∈sl:=Bh hs0
 have w0:=hs.ws s0 m0
 obtain⟨X,hX⟩:∃X,X=sl.map Slot.d:=⟨_,rfl⟩
 rw[←hX]at hq⊢
 have lX:X.length=sl.length:=by rw[hX,List.length_map]
 have gl:xT [.lst X]=some (.d (.int (sl.length:Int))):=by
  have l:=zu (show X.length≤100000 by omega)
  simp[xT,l,lX,zN]
 have gi:gIx (.lst X) (.int (must:Int))=some (.d s0.d):=by rw[hX]; exact ixL _ _ _ (by rw[List.getElem?_map,hs0]; rfl)
 have s1:jQ [.own o,s,.no,.no,.no,.no,.no,.no]=.ok .nx [.own o1,s,.d (.int must),.no,.no,.no,.no,.no]:=by
  rcases hq with rfl|rfl
  ·simp[AI,jQ,gl,e1]
  ·simp[AI,jQ,gl,e1]
 obtain⟨w,o2,e2,hw,ok2⟩:=U6 (ws:=s0.ws.drop 1) ok1 (by omega) (fun z=>by have:=congrArg List.length z; simp at this; omega) (by rw[Bw]; omega)
 have g0:gIx s0.d (.int 0)=some (.d (.str s0.nm)):=rfl
 have g2:gIx s0.d (.int 2)=some (.d (zk s0.ws)):=rfl
 have gs:Qc (s0.ws.map D.str) (some 1) none=(s0.ws.drop 1).map D.str:=SM _
 have s2:jR [.own o1,s,.d (.int must),.no,.no,.no,.no,.no]=.ok .nx [.own o2,s,.d (.int must),.own (.lst [yi (s0.nm,w)]),.no,.no,.no,.no]:=by
  have l1:(1:Nat)≤sizeLine:=zu (by decide)
  have l2:(2:Nat)≤sizeLine:=zu (by decide)
  have pd:yi (s0.nm,w)=.tup [.str s0.nm,.str w]:=rfl
  rw[pd]
  unfold zk at e2 g2
  generalize s0.d=Y at gi g0 g2
  generalize s0.ws.map D.str=A at g2 gs
  generalize (s0.ws.drop 1).map D.str=B at gs e2
  rcases hq with rfl|rfl
  ·simp[AI,jR,gi,g0,g2,gSl,gs,e2,l1,l2]
  ·simp[AI,jR,gi,g0,g2,gSl,gs,e2,l1,l2]
 obtain⟨o',G,a',b',c',d',e,ok,pg⟩:=sK (.lst X) must sl 0 [(s0.nm,w)] o2 (T+1+1) .no .no .no .no ok2 (by omega) (by simp; omega) (fun s h=>⟨(hs.ws s h).1,by have:=(hs.ws s h).2.1; omega⟩)
 have s3:Yx [.own o2,s,.d (.int must),.own (.lst [yi (s0.nm,w)]),.no,.no,.no,.no]=.ok .nx (hbS o' (.lst X) must ([(s0.nm,w)]++G) a' b' c' d'):=by
  unfold Yx Xt
  have it:QQ (za (zb 1) ze) [.own o2,s,.d (.int must),.own (.lst [yi (s0.nm,w)]),.no,.no,.no,.no]=.ok (YK X) (hbS o2 (.lst X) must [(s0.nm,w)] .no .no .no .no):=by
   rcases hq with rfl|rfl<;>rfl
  rw[it,Res.bind_ok,sS,hX]
  rw[hX]at e
  exact e
 have ndG:(([(s0.nm,w)]++G).map (·.1)).Nodup:=by
  rw[A7,List.map_cons,List.map_nil,List.cons_append,List.nil_append,Bl]
  refine⟨fun hm=>?_,pg.sub.nodup hs.nd⟩
  obtain⟨a,ha,e⟩:=AM.mp hm
  obtain⟨j,t,h1,h2,h3,_⟩:=pg.each a ha
  have i1:(sl.map Slot.nm)[j]?=some s0.nm:=by rw[List.getElem?_map,h1,Option.map_some,h3]; exact congrArg some e
  have i2:(sl.map Slot.nm)[must]?=some s0.nm:=by rw[List.getElem?_map,hs0]; rfl
  have hj:j<(sl.map Slot.nm).length:=(AQ.mp i1).1
  have:j=must:=(List.getElem?_inj hj hs.nd).mp (i1.trans i2.symm)
  omega
 obtain⟨p,pp,as,so⟩:=cN ndG
 refine⟨o',p,?_,?_,⟨s0,m0,w,hw,pp.mem_iff.mpr (by simp)⟩,ok.mono (by omega)⟩
 ·refine(xR (np:=2) (nl:=6) (ρ1:=hbS o' (.lst X) must ([(s0.nm,w)]++G) a' b' c' d') rfl ?_).trans rfl
  unfold JK
  show zt _ _ [.own o,s,.no,.no,.no,.no,.no,.no]=_
  rw[zU s1,zU s2,zU s3]
  unfold hbS
  generalize ([(s0.nm,w)]++G).map yi=Q at so⊢
  simp[AI,Jk,so,yH,z6]
 ·unfold yG
  rw[as,Bool.and_true,AP]
  intro a ha
  have ha:=pp.mem_iff.mp ha
  unfold qr
  rw[BE]
  rcases AW.mp ha with ha|ha
  ·rw[A8.mp ha]
   exact⟨s0,m0,by simp[oa hw]⟩
  ·obtain⟨j,t,h1,h2,h3,h4⟩:=pg.each a ha
   exact⟨t,Bh h1,by simp[h3,h4]⟩
def lpX (o:O) (sl:S) (fo:List Lps) (x3 x4 x5 x6 x7 x8:S):List S:=[.own o,sl,.own (.lst (fo.map Lps.d)),x3,x4,x5,x6,x7,x8]
def aF:List S→Res Bool:=aT (zg gEq (aFn zZ (za (zb 0) (za (aK (.int 2)) ze))) (aK (.int 0)))
def aH:AK:=zV (za (zg gIx (zb 6) (aK (.int 0))) (za (aFn yJ (za (zb 0) (za (zg gIx (zb 6) (aK (.int 2))) ze))) ze))
theorem cj (s:Slot):gIx s.d (.int 0)=some (.d (.str s.nm))∧gIx s.d (.int 1)=some (.d (.str s.ho))∧gIx s.d (.int 2)=some (.d (zk s.ws)):=⟨rfl,rfl,rfl⟩
theorem cD {sl:S} {fo:List Lps} {x3 x4 x5 x7 x8:S}:∀(l:List Slot) (t:Nat) (o:O) (acc:List D),JarOk t o→t+2 * l.length≤80000→acc.length+l.length≤1000→(∀s∈l,1≤s.ws.length∧s.ws.length≤1000)→
  ∃o' G,Xl (.nm 6) aF aH [6] (l.map Slot.d) acc (lpX o sl fo x3 x4 x5 .no x7 x8)=.ok (acc++(G:Pat).map yi) (lpX o' sl fo x3 x4 x5 .no x7 x8)∧JarOk (t+2 * l.length) o'∧PartsOf l G
 |[],t,o,acc,hj,_,_,_=>⟨o,[],by simp[Xl],by simpa using hj,.nil⟩
 |s::l,t,o,acc,hj,ht,ha,hw=>by
  rw[List.length_cons]at ht ha
  have l2:(2:Nat)≤1000:=by decide
  obtain⟨g0,_,g2⟩:=cj s
  obtain⟨Y,hY⟩:∃Y,Y=s.d:=⟨_,rfl⟩
  rw[←hY]at g0 g2
  obtain⟨R,hR⟩:∃R:O→List S,R=fun o=>lpX o sl fo x3 x4 x5 (.d Y) x7 x8:=⟨_,rfl⟩
  have ts:zQ (.nm 6) s.d (lpX o sl fo x3 x4 x5 .no x7 x8)=some (R o):=by rw[hR,hY]; rfl
  have wi:∀o,zo (R o) [6]=lpX o sl fo x3 x4 x5 .no x7 x8:=fun o=>by rw[hR]; rfl
  obtain⟨r,o1,e1,r0,r1,ok1⟩:=xB (m:=2) hj (by omega) (by decide) (by decide)
  have st0:∀o o',(R o).set 0 (.own o')=R o':=fun o o'=>by rw[hR]; rfl
  have at0:∀o,(R o)[0]?=some (.own o):=fun o=>by rw[hR]; rfl
  have v6:∀o,zb 6 (R o)=.ok (.d Y) (R o):=fun o=>qF (by rw[hR]; rfl)
  have ft:=Zg (ρ:=R o) (fx:=aK (.int 2)) (at0 o) rfl (.inl ⟨_,rfl,rfl⟩) e1
  rw[st0]at ft
  have c1:aF (R o)=.ok (r==0) (R o1):=by
   unfold aF
   have eqr:gEq (.int r) (.int 0)=some (eBl (r==0)):=rfl
   refine qi ?_
   unfold zg zX aK
   rw[show aFn zZ (za (zb 0) (za (fun ρ=>Res.ok (E.d (D.int 2)) ρ) ze)) (R o)=.ok (.d (.int r)) (R o1)from ft]
   simp only[Res.bind_ok,E.val,eqr]
  by_cases cr:(r==0)=true
  ·rw[cr]at c1
   obtain⟨w,o2,e2,hw2,ok2⟩:=U6 (ws:=s.ws) ok1 (by omega) (fun z=>by have:=(hw s AN).1; rw[z]at this; simp at this) (by have:=(hw s AN).2; omega)
   have fo2:=Zg (ρ:=R o1) (fx:=zg gIx (zb 6) (aK (.int 2))) (at0 o1) (yh (v6 o1) rfl g2) (.inl ⟨_,rfl,rfl⟩) e2
   rw[st0]at fo2
   have val:aH (R o1)=.ok (.d (yi (s.nm,w))) (R o2):=by
    unfold aH
    exact vF (ds:=[.str s.nm,.str w]) (yn (yh (v6 o1) rfl g0) (yn fo2 xQ)) (zu (by simp))
   obtain⟨o',G,e,ok,pg⟩:=cD l (t+2) o2 (acc++[yi (s.nm,w)]) ok2 (by omega) (by simp; omega) (fun z hz=>hw z (List.mem_cons_of_mem _ hz))
   refine⟨o',(s.nm,w)::G,?_,by rw[List.length_cons,show t+2 * (l.length+1)=t+2+2 * l.length by omega]; exact ok,pg.take hw2⟩
   rw[List.map_cons,Xl,ts]
   simp only[c1,Res.bind_ok,if_true,val,keep1]
   rw[if_pos (Bq (show acc.length<100000 by omega) (zu (by decide))),wi,e]
   simp
  ·have cr:=Bool.eq_false_iff.mpr cr
   rw[cr]at c1
   obtain⟨o',G,e,ok,pg⟩:=cD l (t+2) o1 acc (ok1.mono (by omega)) (by omega) (by omega) (fun z hz=>hw z (List.mem_cons_of_mem _ hz))
   refine⟨o',G,?_,by rw[List.length_cons,show t+2 * (l.length+1)=t+2+2 * l.length by omega]; exact ok,pg.skip⟩
   rw[List.map_cons,Xl,ts]
   simp only[c1,Res.bind_ok,Bool.false_eq_true,if_false]
   rw[wi,e]
theorem aI {sl:S} {fo:List Lps} {x3 x4 x5 x5' x6 x7 x8:S} {l:List Slot} {t:Nat} {o:O} (hj:JarOk t o) (ht:t+2 * l.length≤80000) (few:l.length≤100) (hw:∀s∈l,1≤s.ws.length∧s.ws.length≤1000) (h6:∀z,x6≠.own z) (h6':∀τ,x6≠.mem τ) (h6c:∀u F,x6≠.clo u F)
  (it:zn (zb 5) (lpX o sl fo x3 x4 x5 x6 x7 x8)=.ok (l.map Slot.d) (lpX o sl fo x3 x4 x5' x6 x7 x8)) :
  ∃o' G,aLc [6] (zn (zb 5)) (.nm 6) aF aH (lpX o sl fo x3 x4 x5 x6 x7 x8)=.ok (.fr (.lst ((G:Pat).map yi))) (lpX o' sl fo x3 x4 x5' x6 x7 x8)∧JarOk (t+2 * l.length) o'∧PartsOf l G:=by
 obtain⟨o',G,e,ok,pg⟩:=cD (sl:=sl) (fo:=fo) (x3:=x3) (x4:=x4) (x5:=x5') (x7:=x7) (x8:=x8) l t o [] hj ht (by simp; omega) hw
 refine⟨o',G,?_,ok,pg⟩
 unfold aLc
 rw[it,Res.bind_ok,if_pos (by cases x6<;>first|rfl|exact absurd rfl (h6 _))]
 rw[show zo (lpX o sl fo x3 x4 x5' x6 x7 x8) [6]=lpX o sl fo x3 x4 x5' .no x7 x8 from rfl,e]
 simp only[Res.noex,Res.bind_ok,List.nil_append]
 congr 1
theorem fZ {sl:List Slot} (ne:sl≠[]) (nd:(sl.map Slot.nm).Nodup):∃m:List Slot,m.Perm sl∧Xc (m.map Slot.nm)=true∧qx [.lst (sl.map Slot.d)]=some (.fr (.lst (m.map Slot.d))):=by
 obtain⟨m,pm,as,e⟩:=cO ne nd
 refine⟨m,pm,as,?_⟩
 cases sl with
 |nil=>exact absurd rfl ne
 |cons a G=>
  have ei:D.ints? ((a::G).map Slot.d)=none:=rfl
  unfold zE at e
  simp only[qx,ei]at e⊢
  exact e
theorem K2 {lots m:List Slot} {G:Pat} (pm:m.Perm lots) (as:Xc (m.map Slot.nm)=true) (pg:PartsOf m G):yG lots G=true:=by
 unfold yG
 rw[L5 pg.1 as,Bool.and_true,AP]
 intro a ha
 obtain⟨s,h1,h2,h3⟩:=pg.2 a ha
 unfold qr
 rw[BE]
 exact⟨s,pm.mem_iff.mp h1,by simp[h2,h3]⟩
section
variable {hs:List Str} {lots:List Slot}
theorem oN (W:SlW lots) (hin:∀s∈lots,s.ho∈hs) {T:Nat} {o:O} (hj:JarOk T o) (hT:T≤50000) {la:List Lps} (hla:la.length≤100) {l:S} (hl:l=.own (.lst (lots.map Slot.d))∨l=.d (.lst (lots.map Slot.d))) (x3:D) (x4 x5 x7 x8:S) :
  ∃o' q y4 y5 y7 y8,(zt jo (zt jp (zt jq (zt jr (zt qZ jS))))) (lpX o l la (.d x3) x4 x5 .no x7 x8)=.ok .nx (lpX o' (.d (.lst (lots.map Slot.d))) (la++[q]) (.d x3) y4 y5 .no y7 y8)∧JarOk (T+500) o'∧ZQ hs lots q=true:=by
 obtain⟨x,o1,e1,hx,ok1⟩:=KR (xs:=lots.map Slot.d) hj (by omega) (by simpa using W.ne) (by rw[List.length_map]; have:=W.few; omega) l hl
 obtain⟨s,hs',rfl⟩:=AM.mp hx
 obtain⟨X,hX⟩:∃X,X=lots.map Slot.d:=⟨_,rfl⟩
 rw[←hX]at hl⊢
 have s3:jo (lpX o l la (.d x3) x4 x5 .no x7 x8)=.ok .nx (lpX o1 l la (.d x3) (.d (.str s.ho)) x5 .no x7 x8):=by
  have g:gIx s.d (.int 1)=some (.d (.str s.ho)):=rfl
  generalize s.d=sd at e1 g
  unfold lpX
  generalize la.map Lps.d=LA
  rcases hl with rfl|rfl<;>simp[AI,jo,e1,g]
 have e5:Y6 (lpX o1 l la (.d x3) (.d (.str s.ho)) x5 .no x7 x8)=.ok (.fr (.lst ((atH lots s.ho).map Slot.d))) (lpX o1 (.d (.lst X)) la (.d x3) (.d (.str s.ho)) x5 .no x7 x8):=by
  unfold Y6
  rw[hX]at hl⊢
  refine NJ (ρ1:=lpX o1 (.d (.lst (lots.map Slot.d))) la (.d x3) (.d (.str s.ho)) x5 .no x7 x8) Slot.d Slot.d (fun t=>decide (t.ho=s.ho)) lots ?_ (zu (by have:=W.few; omega)) (fun t _=>⟨lpX o1 (.d (.lst (lots.map Slot.d))) la (.d x3) (.d (.str s.ho)) x5 (.d t.d) x7 x8,rfl,?_,fun _=>rfl,rfl⟩)
  ·rcases hl with rfl|rfl<;>rfl
  ·exact qi (yh (yh (fa:=zb 6) (x:=t.d) rfl rfl (cj t).2.1) rfl (WS.eq_strs t.ho s.ho))
 have ne1:atH lots s.ho≠[]:=List.ne_nil_of_mem (List.mem_filter.mpr ⟨hs',by simp⟩)
 have few1:(atH lots s.ho).length≤100:=AU (sF _) W.few
 have nd1:((atH lots s.ho).map Slot.nm).Nodup:=(List.Sublist.map _ List.filter_sublist).nodup W.nd
 obtain⟨m,pm,as,so⟩:=fZ ne1 nd1
 have lm:m.length≤100:=by rw[pm.length_eq]; exact few1
 have ws1:∀t∈m,1≤t.ws.length∧t.ws.length≤1000:=fun t ht=>by
  have:=W.ws t ((List.mem_filter.mp (pm.mem_iff.mp ht)).1); omega
 have s4:jp (lpX o1 l la (.d x3) (.d (.str s.ho)) x5 .no x7 x8)=.ok .nx (lpX o1 (.d (.lst X)) la (.d x3) (.d (.str s.ho)) (.own (.lst (m.map Slot.d))) .no x7 x8):=by
  unfold jp
  refine(QM (i:=5) (qj (v:=.fr (.lst ((atH lots s.ho).map Slot.d))) e5 rfl so) (by simp[lpX])).trans ?_
  rfl
 obtain⟨o2,G1,e7,ok2,p1⟩:=aI (sl:=.d (.lst X)) (fo:=la) (x3:=.d x3) (x4:=.d (.str s.ho)) (x5:=.own (.lst (m.map Slot.d))) (x5':=.d (.lst (m.map Slot.d))) (x6:=.no) (x7:=x7) (x8:=x8) ok1 (by omega) lm ws1 (fun z e=>by cases e) (fun z e=>by cases e) (fun u F e=>by cases e) rfl
 have s6:jq (lpX o1 (.d (.lst X)) la (.d x3) (.d (.str s.ho)) (.own (.lst (m.map Slot.d))) .no x7 x8)=.ok .nx (lpX o2 (.d (.lst X)) la (.d x3) (.d (.str s.ho)) (.d (.lst (m.map Slot.d))) .no (.own (.lst (G1.map yi))) x8):=by
  unfold jq JE
  refine(QM (i:=7) e7 (by simp[lpX])).trans ?_
  rfl
 obtain⟨o3,G2,e9,ok3,p2⟩:=aI (sl:=.d (.lst X)) (fo:=la) (x3:=.d x3) (x4:=.d (.str s.ho)) (x5:=.d (.lst (m.map Slot.d))) (x5':=.d (.lst (m.map Slot.d))) (x6:=.no) (x7:=.own (.lst (G1.map yi))) (x8:=x8) ok2 (by omega) lm ws1 (fun z e=>by cases e) (fun z e=>by cases e) (fun u F e=>by cases e) rfl
 have s8:jr (lpX o2 (.d (.lst X)) la (.d x3) (.d (.str s.ho)) (.d (.lst (m.map Slot.d))) .no (.own (.lst (G1.map yi))) x8)=.ok .nx (lpX o3 (.d (.lst X)) la (.d x3) (.d (.str s.ho)) (.d (.lst (m.map Slot.d))) .no (.own (.lst (G1.map yi))) (.own (.lst (G2.map yi)))):=by
  unfold jr JF
  refine(QM (i:=8) e9 (by simp[lpX])).trans ?_
  rfl
 have mk:∃o4 G,qZ (lpX o3 (.d (.lst X)) la (.d x3) (.d (.str s.ho)) (.d (.lst (m.map Slot.d))) .no (.own (.lst (G1.map yi))) (.own (.lst (G2.map yi))))=.ok .nx (lpX o4 (.d (.lst X)) la (.d x3) (.d (.str s.ho)) (.d (.lst (m.map Slot.d))) .no (.own (.lst ((G:Pat).map yi))) (.own (.lst (G2.map yi))))∧JarOk (T+1+2 * m.length+2 * m.length+1) o4∧PartsOf m G∧G≠[]:=by
  obtain⟨Q,hQ⟩:∃Q:O→S→List S,Q=fun o x=>lpX o (.d (.lst X)) la (.d x3) (.d (.str s.ho)) (.d (.lst (m.map Slot.d))) .no x (.own (.lst (G2.map yi))):=⟨_,rfl⟩
  have e0:∀o x,lpX o (.d (.lst X)) la (.d x3) (.d (.str s.ho)) (.d (.lst (m.map Slot.d))) .no x (.own (.lst (G2.map yi)))=Q o x:=fun o x=>by rw[hQ]
  simp only[e0]
  have nil:zG ze (Q o3 (.own (.lst (G1.map yi))))=.ok (.fr (.lst [])) (Q o3 (.own (.lst (G1.map yi)))):=by unfold zG ze; simp[keepL]
  have c:aT (zg wQ (zb 7) (zG ze)) (Q o3 (.own (.lst (G1.map yi))))=.ok (G1.map yi).isEmpty (Q o3 (.own (.lst (G1.map yi)))):=by
   refine qi (NP (v:=.sl 7) (x:=.lst (G1.map yi)) (u:=.fr (.lst [])) (y:=.lst []) ?_ ?_ nil rfl rfl)
   ·rw[hQ]; rfl
   ·rw[hQ]; rfl
  unfold qZ
  cases hG:G1 with
  |cons a r=>
   rw[hG]at c
   have c:aT (zg wQ (zb 7) (zG ze)) (Q o3 (.own (.lst ((a::r).map yi))))=.ok false (Q o3 (.own (.lst ((a::r).map yi)))):=c
   refine⟨o3,a::r,(UZ c).trans rfl,ok3.mono (by omega),hG▸p1,by simp⟩
  |nil=>
   rw[hG]at c
   have c:aT (zg wQ (zb 7) (zG ze)) (Q o3 (.own (.lst (([]:Pat).map yi))))=.ok true (Q o3 (.own (.lst (([]:Pat).map yi)))):=c
   obtain⟨t,r,hm⟩:∃t r,m=t::r:=by
    cases m with
    |nil=>exact absurd (List.nil_perm.mp pm) ne1
    |cons t r=>exact⟨t,r,rfl⟩
   have wt:=ws1 t (by rw[hm]; simp)
   obtain⟨w,o4,e4,hw,ok4⟩:=U6 (ws:=t.ws) ok3 (by omega) (fun z=>by rw[z]at wt; simp at wt) wt.2
   have i5:zg gIx (zb 5) (aK (.int 0)) (Q o3 (.own (.lst (([]:Pat).map yi))))=.ok (.d t.d) (Q o3 (.own (.lst (([]:Pat).map yi)))):=by
    refine yh (x:=.lst (m.map Slot.d)) (qF (by rw[hQ]; rfl)) rfl ?_
    rw[hm]; exact ixL _ 0 t.d rfl
   obtain⟨g0,_,g2⟩:=cj t
   have fo:=Zg (ρ:=Q o3 (.own (.lst (([]:Pat).map yi)))) (fx:=zg gIx (zg gIx (zb 5) (aK (.int 0))) (aK (.int 2))) (by rw[hQ]; rfl) (yh i5 rfl g2) (.inl ⟨_,rfl,rfl⟩) e4
   rw[show(Q o3 (.own (.lst (([]:Pat).map yi)))).set 0 (.own o4)=Q o4 (.own (.lst (([]:Pat).map yi)))by rw[hQ]; rfl]at fo
   have tu:zV (za (zg gIx (zg gIx (zb 5) (aK (.int 0))) (aK (.int 0))) (za (aFn yJ (za (zb 0) (za (zg gIx (zg gIx (zb 5) (aK (.int 0))) (aK (.int 2))) ze))) ze)) (Q o3 (.own (.lst (([]:Pat).map yi))))=.ok (.d (.tup [.str t.nm,.str w])) (Q o4 (.own (.lst (([]:Pat).map yi)))):=vF (ds:=[.str t.nm,.str w]) (yn (yh i5 rfl g0) (yn fo xQ)) (zu (by simp))
   have ls:zG (za (zV (za (zg gIx (zg gIx (zb 5) (aK (.int 0))) (aK (.int 0))) (za (aFn yJ (za (zb 0) (za (zg gIx (zg gIx (zb 5) (aK (.int 0))) (aK (.int 2))) ze))) ze))) ze) (Q o3 (.own (.lst (([]:Pat).map yi))))=.ok (.fr (.lst [yi (t.nm,w)])) (Q o4 (.own (.lst (([]:Pat).map yi)))):=by
    have l1:(1:Nat)≤sizeLine:=zu (by decide)
    unfold zG
    rw[yn tu xQ,Res.bind_ok]
    simp[keepL,keep1,l1,yi]
   refine⟨o4,[(t.nm,w)],?_,ok4.mono (by omega),?_,by simp⟩
   ·refine(fX c).trans ?_
    unfold Jl
    refine(QM (i:=7) ls (by rw[hQ]; simp[lpX])).trans ?_
    rw[hQ]; rfl
   ·rw[hm]
    have:PartsOf r []:=⟨List.nil_sublist _,fun a h=>by cases h⟩
    exact this.take hw
 obtain⟨o4,G,s10,ok4,p3,ne3⟩:=mk
 refine⟨o4,⟨s.ho,G2,G⟩,.d (.str s.ho),.d (.lst (m.map Slot.d)),.own (.lst (G.map yi)),.own (.lst (G2.map yi)),?_,ok4.mono (by omega),?_⟩
 ·rw[zU s3,zU s4,zU s6,zU s8,zU s10]
  unfold jS
  obtain⟨Q,hQ⟩:∃Q,Q=lpX o4 (.d (.lst X)) la (.d x3) (.d (.str s.ho)) (.d (.lst (m.map Slot.d))) .no (.own (.lst (G.map yi))) (.own (.lst (G2.map yi))):=⟨_,rfl⟩
  have t8:zh yH (za (zb 8) ze) Q=.ok (.d (z6 G2)) Q:=qj (v:=.sl 8) (x:=.lst (G2.map yi)) (by rw[hQ]; rfl) (by rw[hQ]; rfl) rfl
  have t7:zh yH (za (zb 7) ze) Q=.ok (.d (z6 G)) Q:=qj (v:=.sl 7) (x:=.lst (G.map yi)) (by rw[hQ]; rfl) (by rw[hQ]; rfl) rfl
  have tu:=vF (ds:=[.str s.ho,z6 G2,z6 G]) (yn (f:=zb 4) (ρ:=Q) (qF (by rw[hQ]; rfl)) (yn t8 (yn t7 xQ))) (zu (by simp))
  rw[←hQ]
  refine(WS.app_eq (i:=2) (F:=la.map Lps.d) (F':=la.map Lps.d) (by rw[hQ]; rfl) tu (by rw[hQ]; rfl) (Nat.lt_of_le_of_lt (by rw[List.length_map]; exact hla) (show 100<sizeLine by decide))).trans ?_
  rw[hQ]
  unfold lpX
  rw[A7]
  rfl
 ·unfold ZQ
  have a:=K2 pm as p2
  have b:=K2 pm as p3
  rw[decide_eq_true (hin s hs'),a,b,(U5 G).mpr ne3]
  rfl
theorem d7 (W:SlW lots) (hin:∀s∈lots,s.ho∈hs):∀(xs:List D) (T:Nat) (o:O) (la:List Lps) (l x3 x4 x5 x7 x8:S),JarOk T o→T+500 * xs.length≤50000→la.length+xs.length≤100→(l=.own (.lst (lots.map Slot.d))∨l=.d (.lst (lots.map Slot.d)))→la.all (ZQ hs lots)=true→
  ∃(o':O) (l' y3 y4 y5 y7 y8:S) (la':List Lps),xr (.nm 3) (zt jo (zt jp (zt jq (zt jr (zt qZ jS))))) xs (lpX o l la x3 x4 x5 .no x7 x8)=.ok .nx (lpX o' l' la' y3 y4 y5 .no y7 y8)∧JarOk (T+500 * xs.length) o'∧(l'=.own (.lst (lots.map Slot.d))∨l'=.d (.lst (lots.map Slot.d)))∧la'.length=la.length+xs.length∧la'.all (ZQ hs lots)=true
 |[],T,o,la,l,x3,x4,x5,x7,x8,hj,_,_,hl,ha=>⟨o,l,x3,x4,x5,x7,x8,la,by simp[xr],by simpa using hj,hl,by simp,ha⟩
 |x::xs,T,o,la,l,x3,x4,x5,x7,x8,hj,hT,hn,hl,ha=>by
  rw[List.length_cons]at hT hn
  obtain⟨o1,q,y4,y5,y7,y8,e1,ok1,hq⟩:=oN W hin hj (by omega) (by omega) hl x x4 x5 x7 x8 (la:=la)
  obtain⟨o',l',z3,z4,z5,z7,z8,la',e,ok,hl',len,ha'⟩:=d7 W hin xs (T+500) o1 (la++[q]) (.d (.lst (lots.map Slot.d))) (.d x) y4 y5 y7 y8 ok1 (by omega) (by rw[AS,Bf]; omega) (.inr rfl) (by rw[List.all_append,ha]; simp[hq])
  refine⟨o',l',z3,z4,z5,z7,z8,la',?_,by rw[List.length_cons,show T+500 * (xs.length+1)=T+500+500 * xs.length by omega]; exact ok,hl',by rw[len,AS,Bf,List.length_cons]; omega,ha'⟩
  rw[xr,show zQ (.nm 3) x (lpX o l la x3 x4 x5 .no x7 x8)=some (lpX o l la (.d x) x4 x5 .no x7 x8)from rfl]
  simp only[e1]
  exact e
theorem oM (W:SlW lots) (hin:∀s∈lots,s.ho∈hs) {T:Nat} {o:O} (h:JarOk T o) (hT:T≤40000) {s:S} (hq:s=.own (.lst (lots.map Slot.d))∨s=.d (.lst (lots.map Slot.d))) :
  ∃o' la s',jM [.own o,s]=.ok (.d (qH la)) [.own o',s']∧la.length≤4∧la.all (ZQ hs lots)=true∧JarOk (T+3000) o'∧(s'=.own (.lst (lots.map Slot.d))∨s'=.d (.lst (lots.map Slot.d))):=by
 obtain⟨r,o1,e1,r0,r1,ok1⟩:=xB (m:=5) h (by omega) (by decide) (by decide)
 obtain⟨k,rfl⟩:∃k:Nat,r=(k:Int):=⟨r.toNat,by omega⟩
 have s1:Y7 [.own o,s,.no,.no,.no,.no,.no,.no,.no]=.ok .nx (lpX o s [] .no .no .no .no .no .no):=by
  have nil:zG ze [.own o,s,.no,.no,.no,.no,.no,.no,.no]=.ok (.fr (.lst [])) [.own o,s,.no,.no,.no,.no,.no,.no,.no]:=by unfold zG ze; simp[keepL]
  unfold Y7
  exact(QM (i:=2) nil (by simp)).trans rfl
 have it:qG (za (aFn zZ (za (zb 0) (za (aK (.int 5)) ze))) ze) (lpX o s [] .no .no .no .no .no .no)=.ok (qa 0 k) (lpX o1 s [] .no .no .no .no .no .no):=by
  have ft:=Zg (ρ:=lpX o s [] .no .no .no .no .no .no) (fx:=aK (.int 5)) rfl rfl (.inl ⟨_,rfl,rfl⟩) e1
  refine Nb (n:=k) ?_ (by omega)
  unfold za ze
  rw[show aFn zZ (fun ρ=>(zb 0 ρ).bind fun v ρ1=>((fun ρ=>(aK (D.int 5) ρ).bind fun v ρ1=>((fun ρ=>Res.ok [] ρ) ρ1).bind fun vs ρ2=>Res.ok (v::vs) ρ2) ρ1).bind fun vs ρ2=>Res.ok (v::vs) ρ2) (lpX o s [] .no .no .no .no .no .no)=.ok (.d (.int (k:Int))) (lpX o1 s [] .no .no .no .no .no .no)from ft]
  rfl
 have lr:(qa 0 k).length=k:=by simp[qa]
 obtain⟨o',l',y3,y4,y5,y7,y8,la,e,ok,hl',len,ha⟩:=d7 (hs:=hs) W hin (qa 0 k) (T+1) o1 [] s .no .no .no .no .no ok1 (by rw[lr]; omega) (by rw[lr]; simp; omega) hq rfl
 rw[lr]at ok len
 have s2:Y8 (lpX o s [] .no .no .no .no .no .no)=.ok .nx (lpX o' l' la y3 y4 y5 .no y7 y8):=by
  unfold Y8 Xt
  rw[it,Res.bind_ok]
  exact e
 refine⟨o',la,l',?_,by simp at len; omega,ha,ok.mono (by omega),hl'⟩
 refine(xR (np:=2) (nl:=7) (ρ1:=lpX o' l' la y3 y4 y5 .no y7 y8) rfl ?_).trans rfl
 unfold VR
 show zt _ _ [.own o,s,.no,.no,.no,.no,.no,.no,.no]=_
 rw[zU s1,zU s2]
 unfold Jm
 exact xp (qj (v:=.sl 2) (x:=.lst (la.map Lps.d)) rfl rfl rfl)
end
def awS (j n wd h l m a b c be t ne fo:S):List S:=[j,n,wd,h,l,m,a,b,c,be,t,ne,fo]
section
variable {T:Nat} {o:O} {nms wds hs:List Str}
theorem L7 (h:JarOk T o) (hT:T≤60000) (hw6:wds.length=6) (hwb:∀z∈wds,yk z=true) (hwd:wds.Nodup) (hh:hs≠[]) (hhl:hs.length≤100) {lots:List Slot} {used:List Str} {nm:Str} (L:LotsOk hs used lots) (hl:lots.length≤100) (n b c:S) :
  ∃o' lots' b' c',(zt qu qv) (awS (.own o) n (.own (.lst (wds.map .str))) (.d (zk hs)) (.own (.lst (lots.map Slot.d))) (.d (.int (yv lots:Nat))) (.d (.str nm)) b c .no .no .no .no)=
   .ok .nx (awS (.own o') n (.own (.lst (wds.map .str))) (.d (zk hs)) (.own (.lst (lots'.map Slot.d))) (.d (.int (yv lots':Nat))) (.d (.str nm)) b' c' .no .no .no .no)∧JarOk (T+3) o'∧LotsOk hs (used++[nm]) lots'∧lots'.length≤lots.length+1∧(lots=[]→lots'≠[])∧(lots≠[]→lots'≠[]):=by
 obtain⟨r,o1,e1,r0,r1,ok1⟩:=xB (m:=3) h (by omega) (by decide) (by decide)
 obtain⟨k,rfl⟩:∃k:Nat,r=(k:Int):=⟨r.toNat,by omega⟩
 obtain⟨st,hst⟩:∃st:O→List D→D→S→S→List S,st=fun o l m b c=>awS (.own o) n (.own (.lst (wds.map .str))) (.d (zk hs)) (.own (.lst l)) (.d m) (.d (.str nm)) b c .no .no .no .no:=⟨_,rfl⟩
 have e0:∀o l m b c,awS (.own o) n (.own (.lst (wds.map .str))) (.d (zk hs)) (.own (.lst l)) (.d m) (.d (.str nm)) b c .no .no .no .no=st o l m b c:=fun o l m b c=>by rw[hst]
 simp only[e0]
 have at0:∀o l m b c,(st o l m b c)[0]?=some (.own o):=fun o l m b c=>by rw[hst]; rfl
 have Ls:∀o o' l m b c,(st o l m b c).set 0 (.own o')=st o' l m b c:=fun o o' l m b c=>by rw[hst]; rfl
 have v3:∀o l m b c,zb 3 (st o l m b c)=.ok (.d (zk hs)) (st o l m b c):=fun o l m b c=>by rw[hst]; rfl
 have v5:∀o l m b c,zb 5 (st o l m b c)=.ok (.d m) (st o l m b c):=fun o l m b c=>by rw[hst]; rfl
 have v6:∀o l m b c,zb 6 (st o l m b c)=.ok (.d (.str nm)) (st o l m b c):=fun o l m b c=>by rw[hst]; rfl
 have v7:∀o l m b c,zb 7 (st o l m (.d b) c)=.ok (.d b) (st o l m (.d b) c):=fun o l m b c=>by rw[hst]; rfl
 have v8:∀o l m b c,zb 8 (st o l m b (.d c))=.ok (.d c) (st o l m b (.d c)):=fun o l m b c=>by rw[hst]; rfl
 obtain⟨LD,hLD⟩:∃LD,LD=lots.map Slot.d:=⟨_,rfl⟩
 obtain⟨m0,hm0⟩:∃m0,m0=D.int (yv lots:Nat):=⟨_,rfl⟩
 obtain⟨sz,hsz⟩:∃sz,sz=D.int ((2+k:Nat):Int):=⟨_,rfl⟩
 have s4:qu (st o LD m0 b c)=.ok .nx (st o1 LD m0 (.d sz) c):=by
  have ga:yP (.int 2) (.int (k:Int))=some (.d sz):=by
   rw[hsz]
   show some (zN (2+(k:Int)))=_
   rw[show((2+k:Nat):Int)=2+(k:Int)by omega]
  have ft:=Zg (ρ:=st o LD m0 b c) (fx:=aK (.int 3)) (at0 _ _ _ _ _) rfl (.inl ⟨_,rfl,rfl⟩) e1
  rw[Ls]at ft
  have e:zg yP (aK (.int 2)) (aFn zZ (za (zb 0) (za (aK (.int 3)) ze))) (st o LD m0 b c)=.ok (.d sz) (st o1 LD m0 b c):=by
   generalize aFn zZ (za (zb 0) (za (aK (.int 3)) ze))=ff at ft
   unfold zg zX aK
   simp only[Res.bind_ok,ft,E.val,ga]
  unfold qu
  refine(YL (i:=7) e (by rw[hst]; simp[awS])).trans ?_
  rw[hst]; rfl
 have fewm:=L.few
 have mul:Zh m0 sz=some (.d (.int ((yv lots * (2+k):Nat):Int))):=by
  rw[hm0,hsz,jW (YJ (by omega)) (YJ (by omega)),←Int.natCast_mul]
 obtain⟨m1,hm1⟩:∃m1,m1=D.int ((yv lots * (2+k):Nat):Int):=⟨_,rfl⟩
 rw[←hm1]at mul
 have lt:gLt m1 (.int 33)=some (.d (.bl (decide (yv lots * (2+k)<33)))):=by
  rw[hm1]
  show some (eBl (decide (((yv lots * (2+k):Nat):Int)<33)))=some (eBl _)
  congr 2
  rw[decide_eq_decide]; omega
 have tst:∀o c,aT (zg gLt (zg Zh (zb 5) (zb 7)) (aK (.int 33))) (st o LD m0 (.d sz) c)=.ok (decide (yv lots * (2+k)<33)) (st o LD m0 (.d sz) c):=fun o c=>qi (yh (yh (v5 _ _ _ _ _) (v7 _ _ _ _ _) mul) rfl lt)
 by_cases cm:yv lots * (2+k)<33
 ·
  have tst1:=tst o1 c
  rw[decide_eq_true cm]at tst1
  obtain⟨r',o2,e2,r0',r1',ok2⟩:=xB (m:=3) ok1 (by omega) (by decide) (by decide)
  obtain⟨f,rfl⟩:∃k:Nat,r'=(k:Int):=⟨r'.toNat,by omega⟩
  obtain⟨w,o3,e3,hw,ok3⟩:=U6 (ws:=hs) ok2 (by omega) hh (by omega)
  have s6:ZA (st o1 LD m0 (.d sz) c)=.ok .nx (st o2 LD m0 (.d sz) (.d (.int (f:Int)))):=by
   have ft:=Zg (ρ:=st o1 LD m0 (.d sz) c) (fx:=aK (.int 3)) (at0 _ _ _ _ _) rfl (.inl ⟨_,rfl,rfl⟩) e2
   rw[Ls]at ft
   unfold ZA
   refine(YL (i:=8) ft (by rw[hst]; simp[awS])).trans ?_
   rw[hst]; rfl
  obtain⟨ws,hws⟩:∃ws,ws=(wds.drop f).take (2+k):=⟨_,rfl⟩
  have lws:ws.length=2+k:=by rw[hws,A9,Bw]; omega
  have cutw:Qc (wds.map D.str) (some (f:Int)) (some ((f+(2+k):Nat):Int))=ws.map .str:=by
   rw[sM _ (by rw[List.length_map]; omega) (by omega),hws,List.map_take,List.map_drop,show f+(2+k) - f=2+k by omega]
  have wsn:∀z∈ws,yk z=true:=fun z hz=>by rw[hws]at hz; exact hwb z (BS (BV hz))
  have wsd:ws.Nodup:=by rw[hws]; exact((List.take_sublist _ _).trans (List.drop_sublist _ _)).nodup hwd
  obtain⟨s,hs'⟩:∃s:Slot,s=⟨nm,w,ws⟩:=⟨_,rfl⟩
  have s7:ZC (st o2 LD m0 (.d sz) (.d (.int (f:Int))))=.ok .nx (st o3 (LD++[s.d]) m0 (.d sz) (.d (.int (f:Int)))):=by
   have fo:=Zg (ρ:=st o2 LD m0 (.d sz) (.d (.int (f:Int)))) (fx:=zb 3) (at0 _ _ _ _ _) (v3 _ _ _ _ _) (.inl ⟨_,rfl,rfl⟩) e3
   rw[Ls]at fo
   have ga:yP (.int (f:Int)) sz=some (.d (.int ((f+(2+k):Nat):Int))):=by
    rw[hsz]
    show some (zN ((f:Int)+((2+k:Nat):Int)))=_
    rw[←Int.natCast_add]
   have ad:zg yP (zb 8) (zb 7) (st o3 LD m0 (.d sz) (.d (.int (f:Int))))=.ok (.d (.int ((f+(2+k):Nat):Int))) (st o3 LD m0 (.d sz) (.d (.int (f:Int)))):=yh (v8 _ _ _ _ _) (v7 _ _ _ _ _) ga
   have sl:zj (zb 2) (zw (zb 8)) (zw (zg yP (zb 8) (zb 7))) (st o3 LD m0 (.d sz) (.d (.int (f:Int))))=.ok (.fr (.lst (ws.map .str))) (st o3 LD m0 (.d sz) (.d (.int (f:Int)))):=by
    have v2:zb 2 (st o3 LD m0 (.d sz) (.d (.int (f:Int))))=.ok (.sl 2) (st o3 LD m0 (.d sz) (.d (.int (f:Int)))):=by rw[hst]; rfl
    have i2:(st o3 LD m0 (.d sz) (.d (.int (f:Int))))[2]?=some (.own (.lst (wds.map .str))):=by rw[hst]; rfl
    have v8':=v8 o3 LD m0 (.d sz) (.int (f:Int))
    generalize ((f+(2+k):Nat):Int)=z at cutw ad
    generalize (f:Int)=z1 at cutw ad v8' v2 i2⊢
    unfold zj zw
    rw[v2]
    simp[Res.bind,v8',ad,E.val,i2,O.toD,gSl,cutw]
   have tt:=qj (h:=yH) (v:=.fr (.lst (ws.map .str))) (x:=.lst (ws.map .str)) (w:=.d (zk ws)) sl rfl rfl
   have tu:=vF (ds:=[.str nm,.str w,zk ws]) (yn (v6 o2 LD m0 (.d sz) (.d (.int (f:Int)))) (yn fo (yn tt xQ))) (zu (by simp))
   have sd:s.d=.tup [.str nm,.str w,zk ws]:=by rw[hs']; rfl
   unfold ZC
   refine(WS.app_eq (i:=4) (F:=LD) (F':=LD) (by rw[hst]; rfl) tu (by rw[hst]; rfl) (Nat.lt_of_le_of_lt (show LD.length≤100 by rw[hLD,List.length_map]; exact hl) (show 100<sizeLine by decide))).trans ?_
   rw[hst,sd]; rfl
  have s8:ZD (st o3 (LD++[s.d]) m0 (.d sz) (.d (.int (f:Int))))=.ok .nx (st o3 (LD++[s.d]) m1 (.d sz) (.d (.int (f:Int)))):=by
   unfold ZD
   refine(YL (i:=5) (yh (v5 _ _ _ _ _) (v7 _ _ _ _ _) mul) (by rw[hst]; simp[awS])).trans ?_
   rw[hst]; rfl
  refine⟨o3,lots++[s],.d sz,.d (.int (f:Int)),?_,ok3.mono (by omega),⟨fun t ht=>?_,?_,?_,?_⟩,by simp,fun _=>by simp,fun _=>by simp⟩
  ·rw[←hLD,←hm0,zU s4]
   unfold qv
   rw[fX tst1,zU s6,zU s7,s8,k_,A7,←hLD,hm1,hs']
   show Res.ok _ _=Res.ok _ (st o3 _ (.int ((yv lots * ws.length:Nat):Int)) _ _)
   rw[lws]; rfl
  ·rcases AW.mp ht with ht|ht
   ·exact L.each t ht
   ·rw[A8.mp ht,hs']
    exact⟨hw,by show 2≤ws.length; omega,by show ws.length≤4; omega,wsd,wsn⟩
  ·rw[A7]
   refine L.sub.append ?_
   rw[hs']; exact List.Sublist.refl _
  ·rw[k_,hs']
   show yv lots * ws.length≤32
   rw[lws]; omega
  ·rw[k_,hs']
   show 1≤yv lots * ws.length
   rw[lws]
   have:=L.pos
   exact Nat.mul_pos (by omega) (by omega)
 ·have tst1:=tst o1 c
  rw[decide_eq_false cm]at tst1
  refine⟨o1,lots,.d sz,c,?_,ok1.mono (by omega),⟨L.each,L.sub.trans (List.sublist_append_left _ _),L.few,L.pos⟩,by omega,fun e=>?_,fun h=>h⟩
  ·rw[←hLD,←hm0,zU s4]
   unfold qv
   rw[UZ tst1]
   rfl
  ·subst e
   exfalso
   apply cm
   show 1 * (2+k)<33
   omega
theorem sH (hw6:wds.length=6) (hwb:∀z∈wds,yk z=true) (hwd:wds.Nodup) (hh:hs≠[]) (hhl:hs.length≤100) (n:S):∀(l:List Str) (T:Nat) (o:O) (lots:List Slot) (used:List Str) (a b c:S),JarOk T o→T+3 * l.length≤60000→LotsOk hs used lots→lots.length+l.length≤100→
  ∃o' lots' a' b' c',xr (.nm 6) (zt qu qv) (l.map .str) (awS (.own o) n (.own (.lst (wds.map .str))) (.d (zk hs)) (.own (.lst (lots.map Slot.d))) (.d (.int (yv lots:Nat))) a b c .no .no .no .no)=
   .ok .nx (awS (.own o') n (.own (.lst (wds.map .str))) (.d (zk hs)) (.own (.lst (lots'.map Slot.d))) (.d (.int (yv lots':Nat))) a' b' c' .no .no .no .no)∧JarOk (T+3 * l.length) o'∧LotsOk hs (used++l) lots'∧lots'.length≤lots.length+l.length∧(lots=[]→l≠[]→lots'≠[])∧(lots≠[]→lots'≠[])
 |[],T,o,lots,used,a,b,c,hj,hT,L,hl=>⟨o,lots,a,b,c,by simp[xr],by simpa using hj,by simpa using L,by simp,fun _ h=>absurd rfl h,fun h=>h⟩
 |nm::l,T,o,lots,used,a,b,c,hj,hT,L,hl=>by
  rw[List.length_cons]at hT hl
  obtain⟨o1,lots1,b1,c1,e1,ok1,L1,n1,n2,n3⟩:=L7 (nm:=nm) hj (by omega) hw6 hwb hwd hh hhl L (by omega) n b c
  obtain⟨o',lots',a',b',c',e,ok,L',m1,m2,m3⟩:=sH hw6 hwb hwd hh hhl n l (T+3) o1 lots1 (used++[nm]) (.d (.str nm)) b1 c1 ok1 (by omega) L1 (by omega)
  have k3:lots1≠[]→lots'≠[]:=fun h=>m3 h
  refine⟨o',lots',a',b',c',?_,by rw[List.length_cons,show T+3 * (l.length+1)=T+3+3 * l.length by omega]; exact ok,by rw[Bi]at L'; exact L',by rw[List.length_cons]; omega,fun h _=>k3 (n2 h),fun h=>k3 (n3 h)⟩
  rw[List.map_cons,xr,show zQ (.nm 6) (.str nm) (awS (.own o) n (.own (.lst (wds.map .str))) (.d (zk hs)) (.own (.lst (lots.map Slot.d))) (.d (.int (yv lots:Nat))) a b c .no .no .no .no)=some (awS (.own o) n (.own (.lst (wds.map .str))) (.d (zk hs)) (.own (.lst (lots.map Slot.d))) (.d (.int (yv lots:Nat))) (.d (.str nm)) b c .no .no .no .no)from rfl]
  simp only[e1]
  exact e
theorem sL {lots:List Slot} (W:SlW lots) {n' wd h m a b c be ne fo:S} {T:Nat} {o:O} {n:Nat} (hj:JarOk T o) (hT:T+300 * n≤60000) (hn:n≤10) {l:S} (hl:l=.own (.lst (lots.map Slot.d))∨l=.d (.lst (lots.map Slot.d)))
  {it:List S→Res (List D)} {xs:List D} {ρ:List S} (hx:xs.length=n) (hit:it ρ=.ok xs (awS (.own o) n' wd h l m a b c be .no ne fo)) :
  ∃(o':O) (ps:List Pat) (l':S),zh Z7 (za (aLc [10] it (.nm 10) yX (aFn xJ (za (zb 0) (za (zb 4) ze)))) ze) ρ=.ok (.fr (.lst (ps.map z6))) (awS (.own o') n' wd h l' m a b c be .no ne fo)∧YF lots ps=true∧(∀p∈ps,Off lots p)∧ps.length≤10∧(0<n→ps≠[])∧JarOk (T+300 * n) o'∧(l'=.own (.lst (lots.map Slot.d))∨l'=.d (.lst (lots.map Slot.d))):=by
 obtain⟨ys,ρ',e,e1,e2,o',l',rfl,ok,hl'⟩:=lR (it:=it) (t:=.nm 10) (f:=aFn xJ (za (zb 0) (za (zb 4) ze))) (vs:=[10]) (xs:=xs) (ρ:=ρ)
  (I:=fun i ρ=>∃o' l',ρ=awS (.own o') n' wd h l' m a b c be .no ne fo∧JarOk (T+300 * i) o'∧(l'=.own (.lst (lots.map Slot.d))∨l'=.d (.lst (lots.map Slot.d)))) (R:=fun y=>∃p,y=z6 p∧yG lots p=true∧Off lots p)
  hit rfl (fun i x1 ρ hi ⟨o1,l1,hρ,ok1,hl1⟩=>by
      subst hρ
      have li:i<xs.length:=by
       rcases AQ.mp hi with⟨h,_⟩; exact h
      obtain⟨o2,p,e2,pk,of,ok2⟩:=pA W ok1 (by omega) hl1
      refine⟨_,.d (z6 p),awS (.own o2) n' wd h (.d (.lst (lots.map Slot.d))) m a b c be (.d x1) ne fo,z6 p,_,rfl,?_,rfl,⟨p,rfl,pk,of⟩,o2,_,rfl,by rw[show T+300 * (i+1)=T+300 * i+300 by omega]; exact ok2,.inr rfl⟩
      generalize z6 p=P at e2
      generalize lots.map Slot.d=LL at hl1 e2
      rcases hl1 with rfl|rfl<;>simp[AI,awS,e2]) ⟨o,l,rfl,by simpa using hj,hl⟩ (zu (by omega))
 have key:∀ys:List D,(∀y∈ys,∃p,y=z6 p∧yG lots p=true∧Off lots p)→∃ps:List Pat,ys=ps.map z6∧∀p∈ps,yG lots p=true∧Off lots p:=by
  intro ys
  induction ys with
  |nil=>exact fun _=>⟨[],rfl,fun p h=>by cases h⟩
  |cons z zs ih=>
   intro h
   obtain⟨p,rfl,pk,of⟩:=h z AN
   obtain⟨ps,rfl,hp⟩:=ih fun y hy=>h y (List.mem_cons_of_mem _ hy)
   exact⟨p::ps,rfl,fun q hq=>by
    rcases List.mem_cons.mp hq with rfl|hq
    ·exact⟨pk,of⟩
    ·exact hp q hq⟩
 obtain⟨ps,rfl,each⟩:=key ys e2
 rw[hx]at e1 ok
 rw[List.length_map]at e1
 have pne:∀p∈ps,p≠[]:=fun p hp=>by
  obtain⟨s,_,w,_,hm⟩:=(each p hp).2
  exact List.ne_nil_of_mem hm
 obtain⟨qs,e2,asc,mem,nd⟩:=Lu pne (by omega)
 have ql:qs.length≤ps.length:=nodup_le' qs ps nd fun p hp=>(mem p).mp hp
 refine⟨o',qs,l',qj (v:=.fr (.lst (ps.map z6))) (e.trans rfl) rfl e2,?_,fun p hp=>(each p ((mem p).mp hp)).2,by omega,fun h0 z=>?_,ok,hl'⟩
 ·unfold YF
  rw[asc,Bool.and_true,AP]
  intro p hp
  have:=each p ((mem p).mp hp)
  rw[this.1,(U5 p).mpr (pne p ((mem p).mp hp))]; rfl
 ·subst z
  cases ps with
  |nil=>simp at e1; omega
  |cons p ps=>have:=(mem p).mpr AN; cases this
end
theorem RN {W:Wd} {s:S} (h:s=.own (.dct (UV W))):Lore s W:=by
 refine⟨?_,?_,?_,?_,?_⟩<;>exact⟨.dct (UV W),rfl,.inr ⟨_,h,rfl⟩⟩
theorem SX (a b c d e:D):JT [(.inr "houses",a),(.inr "slots",b),(.inr "bears",c),(.inr "never",d)] (.inr "lapses") e=[(.inr "houses",a),(.inr "slots",b),(.inr "bears",c),(.inr "never",d),(.inr "lapses",e)]:=rfl
theorem Pm (a b c d:D):wX [] [(.inr "houses",a),(.inr "slots",b),(.inr "bears",c),(.inr "never",d)]=[(.inr "houses",a),(.inr "slots",b),(.inr "bears",c),(.inr "never",d)]:=rfl
section
variable {T:Nat} {o:O}
theorem bM (h:JarOk T o) (hT:T≤20000):∃(o':O) (W:Wd),qf [.own o]=.ok (.fr (.dct (UV W))) [.own o']∧Good W∧JarOk (T+6000) o':=by
 obtain⟨nms,o0,e0,n10',nb,nd,ok0⟩:=au (n:=10) h (by omega) (by decide) (by decide)
 have n10:nms.length=10:=n10'
 obtain⟨wds,o1,e1,w6',wb',wd',ok1⟩:=au (n:=6) ok0 (by omega) (by decide) (by decide)
 have w6:wds.length=6:=w6'
 obtain⟨N,hN⟩:∃N:S,N=.own (.lst (nms.map .str)):=⟨_,rfl⟩
 obtain⟨V,hV⟩:∃V:S,V=.own (.lst (wds.map .str)):=⟨_,rfl⟩
 have s1:Zx (awS (.own o) .no .no .no .no .no .no .no .no .no .no .no .no)=.ok .nx (awS (.own o1) N V .no .no .no .no .no .no .no .no .no .no):=by
  rw[hN,hV]
  generalize nms.map D.str=NL at e0
  generalize wds.map D.str=VL at e1
  simp[AI,Zx,awS,e0,e1]
 obtain⟨r,o2,e2,r0,r1,ok2⟩:=xB (m:=4) ok1 (by omega) (by decide) (by decide)
 obtain⟨kh,rfl⟩:∃k:Nat,r=(k:Int):=⟨r.toNat,by omega⟩
 have lh:(nms.take (1+kh)).length=1+kh:=by rw[A9]; omega
 obtain⟨hs,pm,has,eso⟩:=cM (ws:=nms.take (1+kh)) (by intro z; rw[z]at lh; simp at lh; omega) ((List.take_sublist _ _).nodup nd)
 have hl:hs.length=1+kh:=by rw[pm.length_eq,lh]
 have hnb:∀z∈hs,yk z=true:=fun z hz=>nb z (BV (pm.mem_iff.mp hz))
 have hne:hs≠[]:=by intro z; rw[z]at hl; simp at hl; omega
 have s2:Zy (awS (.own o1) N V .no .no .no .no .no .no .no .no .no .no)=.ok .nx (awS (.own o2) N V (.d (zk hs)) (.own (.lst (([]:List Slot).map Slot.d))) (.d (.int (yv []:Nat))) .no .no .no .no .no .no .no):=by
  have cut:Qc (nms.map D.str) none (some (1+(kh:Int)))=(nms.take (1+kh)).map D.str:=by
   have:=WS.cut_take (nms.map D.str) (k:=1+kh) (by rw[List.length_map]; omega)
   rw[show((1+kh:Nat):Int)=1+(kh:Int)by omega]at this
   rw[this,List.map_take]
  have ga:yP (.int 1) (.int (kh:Int))=some (.d (.int (1+(kh:Int)))):=rfl
  have l0:(0:Nat)≤sizeLine:=by decide
  have mn:((yv []:Nat):Int)=1:=rfl
  rw[mn,hN]
  unfold zk
  generalize hs.map D.str=HL at eso⊢
  generalize (nms.take (1+kh)).map D.str=NL at eso cut
  generalize nms.map D.str=NM at cut⊢
  simp[AI,Zy,awS,e2,ga,gSl,cut,eso,yH,l0]
 obtain⟨r,o3,e3,r0',r1',ok3⟩:=xB (m:=6) ok2 (by omega) (by decide) (by decide)
 obtain⟨ks,rfl⟩:∃k:Nat,r=(k:Int):=⟨r.toNat,by omega⟩
 have lu:((nms.drop 4).take (1+ks)).length=1+ks:=by rw[A9,Bw]; omega
 obtain⟨o4,lots,xa,xb,xc,e4,ok4,L,lle,lne,_⟩:=sH (hs:=hs) w6 wb' wd' hne (by omega) N ((nms.drop 4).take (1+ks)) (T+20+20+1+1) o3 [] [] .no .no .no ok3 (by omega) ⟨fun s h=>(nomatch h),List.Sublist.refl _,by decide,by decide⟩ (by rw[lu]; simp; omega)
 have lne:lots≠[]:=lne rfl (by intro z; rw[z]at lu; simp at lu; omega)
 have l6:lots.length≤6:=by rw[lu]at lle; simp at lle; omega
 rw[List.nil_append]at L
 have und:((nms.drop 4).take (1+ks)).Nodup:=((List.take_sublist _ _).trans (List.drop_sublist _ _)).nodup nd
 have unb:∀z∈(nms.drop 4).take (1+ks),yk z=true:=fun z hz=>nb z (BS (BV hz))
 have slok:=L.slots und unb lne l6
 have W:=L.slw und lne (by omega)
 rw[←hV]at e4
 have s3:Zz (awS (.own o2) N V (.d (zk hs)) (.own (.lst (([]:List Slot).map Slot.d))) (.d (.int (yv []:Nat))) .no .no .no .no .no .no .no)=.ok .nx (awS (.own o4) N V (.d (zk hs)) (.own (.lst (lots.map Slot.d))) (.d (.int (yv lots:Nat))) xa xb xc .no .no .no .no):=by
  unfold Zz Xt
  have cut:Qc (nms.map D.str) (some 4) (some ((5+ks:Nat):Int))=((nms.drop 4).take (1+ks)).map D.str:=by
   have:=sM (nms.map D.str) (i:=4) (j:=5+ks) (by rw[List.length_map]; omega) (by omega)
   rw[show((4:Nat):Int)=4 from rfl]at this
   rw[this,List.map_take,List.map_drop,show 5+ks - 4=1+ks by omega]
  have ga:yP (.int 5) (.int (ks:Int))=some (.d (.int ((5+ks:Nat):Int))):=by
   show some (zN (5+(ks:Int)))=_
   rw[show((5+ks:Nat):Int)=5+(ks:Int)by omega]
  have it:zn (zj (zb 1) (zw (aK (.int 4))) (zw (zg yP (aK (.int 5)) (aFn zZ (za (zb 0) (za (aK (.int 6)) ze)))))) (awS (.own o2) N V (.d (zk hs)) (.own (.lst (([]:List Slot).map Slot.d))) (.d (.int (yv []:Nat))) .no .no .no .no .no .no .no)=.ok (((nms.drop 4).take (1+ks)).map D.str) (awS (.own o3) N V (.d (zk hs)) (.own (.lst (([]:List Slot).map Slot.d))) (.d (.int (yv []:Nat))) .no .no .no .no .no .no .no):=by
   rw[hN]
   generalize ((nms.drop 4).take (1+ks)).map D.str=NL at cut⊢
   generalize nms.map D.str=NM at cut⊢
   generalize zk hs=HH
   generalize ((5+ks:Nat):Int)=z at cut ga
   simp[AI,awS,e3,ga,gSl,cut]
  rw[it,Res.bind_ok]
  exact e4
 rw[lu]at ok4
 obtain⟨r,o5,e5,r0'',r1'',ok5⟩:=xB (m:=3) ok4 (by omega) (by decide) (by decide)
 obtain⟨kb,rfl⟩:∃k:Nat,r=(k:Int):=⟨r.toNat,by omega⟩
 obtain⟨Z,hZ⟩:∃Z:O→S→S→S→S→List S,Z=fun o l be ne fo=>awS (.own o) N V (.d (zk hs)) l (.d (.int (yv lots:Nat))) xa xb xc be .no ne fo:=⟨_,rfl⟩
 have z0:∀o l be ne fo,awS (.own o) N V (.d (zk hs)) l (.d (.int (yv lots:Nat))) xa xb xc be .no ne fo=Z o l be ne fo:=fun o l be ne fo=>by rw[hZ]
 have at0:∀o l be ne fo,(Z o l be ne fo)[0]?=some (.own o):=fun o l be ne fo=>by rw[hZ]; rfl
 have st0:∀o o' l be ne fo,(Z o l be ne fo).set 0 (.own o')=Z o' l be ne fo:=fun o o' l be ne fo=>by rw[hZ]; rfl
 have itb:qG (za (zg yP (aK (.int 1)) (aFn zZ (za (zb 0) (za (aK (.int 3)) ze)))) ze) (Z o4 (.own (.lst (lots.map Slot.d))) .no .no .no)=.ok (qa 0 (1+kb)) (Z o5 (.own (.lst (lots.map Slot.d))) .no .no .no):=by
  have ga:yP (.int 1) (.int (kb:Int))=some (.d (.int ((1+kb:Nat):Int))):=by
   show some (zN (1+(kb:Int)))=_
   rw[show((1+kb:Nat):Int)=1+(kb:Int)by omega]
  have ft:=Zg (ρ:=Z o4 (.own (.lst (lots.map Slot.d))) .no .no .no) (fx:=aK (.int 3)) (at0 _ _ _ _ _) rfl (.inl ⟨_,rfl,rfl⟩) e5
  rw[st0]at ft
  have q:zg yP (aK (.int 1)) (aFn zZ (za (zb 0) (za (aK (.int 3)) ze))) (Z o4 (.own (.lst (lots.map Slot.d))) .no .no .no)=.ok (.d (.int ((1+kb:Nat):Int))) (Z o5 (.own (.lst (lots.map Slot.d))) .no .no .no):=by
   generalize aFn zZ (za (zb 0) (za (aK (.int 3)) ze))=ff at ft
   unfold zg zX aK
   simp only[Res.bind_ok,ft,E.val,ga]
  exact Lm q (by omega)
 obtain⟨o6,be,l1,e6,bok,boff,blen,bne,ok6,hl1⟩:=sL W (n':=N) (wd:=V) (h:=.d (zk hs)) (m:=.d (.int (yv lots:Nat))) (a:=xa) (b:=xb) (c:=xc) (be:=.no) (ne:=.no) (fo:=.no) (n:=1+kb) (ρ:=Z o4 (.own (.lst (lots.map Slot.d))) .no .no .no) ok5 (by omega) (by omega) (.inl rfl) (rW 0 (1+kb)) (itb.trans (by rw[hZ]))
 rw[z0]at e6
 have s9:ZE (Z o4 (.own (.lst (lots.map Slot.d))) .no .no .no)=.ok .nx (Z o6 l1 (.own (.lst (be.map z6))) .no .no):=by
  unfold ZE Y4
  refine(QM (i:=9) e6 (by rw[hZ]; simp[awS])).trans ?_
  rw[hZ]; rfl
 obtain⟨r,o7,e7,r0n,r1n,ok7⟩:=xB (m:=3) ok6 (by omega) (by decide) (by decide)
 obtain⟨kn,rfl⟩:∃k:Nat,r=(k:Int):=⟨r.toNat,by omega⟩
 have itn:qG (za (aFn zZ (za (zb 0) (za (aK (.int 3)) ze))) ze) (Z o6 l1 (.own (.lst (be.map z6))) .no .no)=.ok (qa 0 kn) (Z o7 l1 (.own (.lst (be.map z6))) .no .no):=by
  have ft:=Zg (ρ:=Z o6 l1 (.own (.lst (be.map z6))) .no .no) (fx:=aK (.int 3)) (at0 _ _ _ _ _) rfl (.inl ⟨_,rfl,rfl⟩) e7
  rw[st0]at ft
  exact Lm ft (by omega)
 obtain⟨o8,ne,l2,e8,nok,noff,nlen,_,ok8,hl2⟩:=sL W (n':=N) (wd:=V) (h:=.d (zk hs)) (m:=.d (.int (yv lots:Nat))) (a:=xa) (b:=xb) (c:=xc) (be:=.own (.lst (be.map z6))) (ne:=.no) (fo:=.no) (n:=kn) (ρ:=Z o6 l1 (.own (.lst (be.map z6))) .no .no) ok7 (by omega) (by omega) hl1 (rW 0 kn) (itn.trans (by rw[hZ]))
 rw[z0]at e8
 have s11:j4 (Z o6 l1 (.own (.lst (be.map z6))) .no .no)=.ok .nx (Z o8 l2 (.own (.lst (be.map z6))) (.own (.lst (ne.map z6))) .no):=by
  unfold j4 Y5
  refine(QM (i:=11) e8 (by rw[hZ]; simp[awS])).trans ?_
  rw[hZ]; rfl
 have t4:zh yH (za (zb 4) ze) (Z o8 l2 (.own (.lst (be.map z6))) (.own (.lst (ne.map z6))) .no)=.ok (.d (zE lots)) (Z o8 l2 (.own (.lst (be.map z6))) (.own (.lst (ne.map z6))) .no):=by
  rcases hl2 with rfl|rfl
  ·exact qj (v:=.sl 4) (x:=.lst (lots.map Slot.d)) (by rw[hZ]; rfl) (by rw[hZ]; rfl) rfl
  ·exact qj (v:=.d (.lst (lots.map Slot.d))) (x:=.lst (lots.map Slot.d)) (by rw[hZ]; rfl) rfl rfl
 have t9:zh yH (za (zb 9) ze) (Z o8 l2 (.own (.lst (be.map z6))) (.own (.lst (ne.map z6))) .no)=.ok (.d (yo be)) (Z o8 l2 (.own (.lst (be.map z6))) (.own (.lst (ne.map z6))) .no):=qj (v:=.sl 9) (x:=.lst (be.map z6)) (by rw[hZ]; rfl) (by rw[hZ]; rfl) rfl
 have t11:zh yH (za (zb 11) ze) (Z o8 l2 (.own (.lst (be.map z6))) (.own (.lst (ne.map z6))) .no)=.ok (.d (yo ne)) (Z o8 l2 (.own (.lst (be.map z6))) (.own (.lst (ne.map z6))) .no):=qj (v:=.sl 11) (x:=.lst (ne.map z6)) (by rw[hZ]; rfl) (by rw[hZ]; rfl) rfl
 have v3:zb 3 (Z o8 l2 (.own (.lst (be.map z6))) (.own (.lst (ne.map z6))) .no)=.ok (.d (zk hs)) (Z o8 l2 (.own (.lst (be.map z6))) (.own (.lst (ne.map z6))) .no):=by rw[hZ]; rfl
 obtain⟨D4,hD4⟩:∃D4:List (Key×D),D4=[(.inr "houses",zk hs),(.inr "slots",zE lots),(.inr "bears",yo be),(.inr "never",yo ne)]:=⟨_,rfl⟩
 have s13:j5 (Z o8 l2 (.own (.lst (be.map z6))) (.own (.lst (ne.map z6))) .no)=.ok .nx (Z o8 l2 (.own (.lst (be.map z6))) (.own (.lst (ne.map z6))) (.own (.dct D4))):=by
  have m4:=Pm (zk hs) (zE lots) (yo be) (yo ne)
  have e:su [("houses",(zb 3)),("slots",(zh yH (za (zb 4) ze))),("bears",(zh yH (za (zb 9) ze))),("never",(zh yH (za (zb 11) ze)))] (Z o8 l2 (.own (.lst (be.map z6))) (.own (.lst (ne.map z6))) .no)=.ok (.fr (.dct D4)) (Z o8 l2 (.own (.lst (be.map z6))) (.own (.lst (ne.map z6))) .no):=by
   rw[hD4]
   generalize zh yH (za (zb 4) ze)=f4 at t4
   generalize zh yH (za (zb 9) ze)=f9 at t9
   generalize zh yH (za (zb 11) ze)=f11 at t11
   generalize zb 3=f3 at v3
   generalize zk hs=HH at v3 m4⊢
   generalize zE lots=SS at t4 m4⊢
   generalize yo be=BB at t9 m4⊢
   generalize yo ne=BN at t11 m4⊢
   simp[su,kG,v3,t4,t9,t11,keep1,m4]
  unfold j5
  refine(QM (i:=12) e (by rw[hZ]; simp[awS])).trans ?_
  rw[hZ]; rfl
 have hin:∀s∈lots,s.ho∈hs:=fun s hs'=>(L.each s hs').1
 obtain⟨o9,la,s',e9,lal,lall,ok9,hs'⟩:=oM (hs:=hs) W hin ok8 (by omega) hl2
 let Wd0:Wd:=⟨hs,lots,be,ne,la⟩
 have s14:∃s'',qR (Z o8 l2 (.own (.lst (be.map z6))) (.own (.lst (ne.map z6))) (.own (.dct D4)))=.ok .nx (Z o9 s'' (.own (.lst (be.map z6))) (.own (.lst (ne.map z6))) (.own (.dct (UV Wd0)))):=by
  have p5:=SX (zk hs) (zE lots) (yo be) (yo ne) (qH la)
  have l5:(4:Nat)<sizeLine:=by decide
  show∃s'',_=Res.ok Fl.nx (Z o9 s'' (.own (.lst (be.map z6))) (.own (.lst (ne.map z6))) (.own (.dct [(.inr "houses",zk hs),(.inr "slots",zE lots),(.inr "bears",yo be),(.inr "never",yo ne),(.inr "lapses",qH la)])))
  rw[hD4,hZ]
  generalize zk hs=HH at p5⊢
  generalize zE lots=SS at p5⊢
  generalize yo be=BB at p5⊢
  generalize yo ne=BN at p5⊢
  generalize qH la=LL at p5 e9⊢
  generalize be.map z6=bm
  generalize ne.map z6=nm
  generalize lots.map Slot.d=lm at hl2 hs'
  rcases hl2 with rfl|rfl
  ·exact⟨s',by simp[AI,qR,awS,e9,rX,rQ,l5,D.key?,p5]⟩
  ·exact⟨.d (.lst lm),by simp[AI,qR,awS,e9,rX,rQ,l5,D.key?,p5]⟩
 obtain⟨s'',s14⟩:=s14
 refine⟨o9,Wd0,?_,⟨?_,⟨blen,nlen⟩,boff,noff⟩,ok9.mono (by omega)⟩
 ·refine(PX (j:=12) (o:=.dct (UV Wd0)) (ρ1:=Z o9 s'' (.own (.lst (be.map z6))) (.own (.lst (ne.map z6))) (.own (.dct (UV Wd0)))) rfl ?_ (by show¬12<1; decide) (by rw[hZ]; rfl)).trans (by rw[hZ]; rfl)
  unfold Qu
  show zt _ _ (awS (.own o) .no .no .no .no .no .no .no .no .no .no .no .no)=_
  rw[zU s1,zU s2,zU s3,z0,zU s9,zU s11,zU s13,zU s14,hZ]
  rfl
 ·unfold XO ZO qX Uv
  simp only[Bool.and_eq_true,decide_eq_true_eq,AP,U5]
  rw[AP]at lall
  have:=bne (by omega)
  exact⟨⟨⟨⟨⟨⟨by show 1≤hs.length; omega,by show hs.length≤4; omega⟩,hnb⟩,has⟩,slok⟩,by show la.length≤4; exact lal,lall⟩,bok,nok,this⟩
end
end L2.AL.WS.R
namespace L2.AL.WS.R.K09
open PySem PySem.Spec PyProof.Rows L2 L2.AL L2.AL.SH L2.AL.WS L2.AL.YS TL
local macro_rules|`(tactic|simp[AI,$xs,*]) => `(tactic|simp[zJ,yf,zt,sIf,zH,zL,zp,z9,sTg,zy,sNx,zb,aK,za,ze,zg,zX,zh,zY,E.val,aT,zz,zF,zW,zB,yl,zK,aIf,zr,zV,zG,keepL,keep1,zq,toSL,toS,setL,aFn,zx,zO,zM,wb,zn,D.items?,zC,D.tyn,zj,zw,zm,yc,D.isi,gIs,yj,D.is?,D.seq?,zD,O.toD,eBl,zN,z_,zQ,tsetL,zo,zA,ya,D.imm,$xs,*])
section
variable {W:Wd}
theorem oS (g:Good W) (L:Lore ls W):Yu [ls]=.ok (.d (ym W)) [ls]:=by
 have e:=dT g
 refine(xR (ρ1:=[ls]) rfl ?_).trans rfl
 show QP [ls]=_
 have args:(za (zg gIx (zb 0) (aK (.str "houses"))) (za (zg gIx (zb 0) (aK (.str "slots"))) (za (zg gIx (zb 0) (aK (.str "bears"))) (za (zg gIx (zb 0) (aK (.str "never"))) (za (zg gIx (zb 0) (aK (.str "lapses"))) ze))))) [ls]=.ok [.d (zk W.hs),.d (zE W.sl),.d (yo W.be),.d (yo W.ne),.d (qH W.la)] [ls]:=by
  simp only[za,Q9 L.h1,Q9 L.h2,Q9 L.h3,Q9 L.h4,Q9 L.h5,Res.bind_ok,ze]
 have q:JJ "World" yp [.d (zk W.hs),.d (zE W.sl),.d (yo W.be),.d (yo W.ne),.d (qH W.la)] [ls]=.ok (.fr (.ins "World" [("own_places",xf W.sl),("own_parts",jF W),("own_stands",qb W.sl)])) [ls]:=by
  unfold JJ
  have a:zO [ls] [E.d (zk W.hs),.d (zE W.sl),.d (yo W.be),.d (yo W.ne),.d (qH W.la)]=some [.d (zk W.hs),.d (zE W.sl),.d (yo W.be),.d (yo W.ne),.d (qH W.la)]:=rfl
  rw[a]
  simp only[zM,BI,if_true]
  have e':yp [.own (.ins "World" []),.d (zk W.hs),.d (zE W.sl),.d (yo W.be),.d (yo W.ne),.d (qH W.la)]=_:=e
  rw[e']
  rfl
 unfold QP zH JG eF eH
 rw[args,Res.bind_ok,q]
 rfl
theorem Mi (g:Good W):yZ [.d (ym W),.d (ym W)]=.ok (.d (.bl true)) [.d (ym W),.d (ym W)]:=by
 obtain⟨b,e,_,hb⟩:=g.eq g
 have hb:=hb rfl
 subst hb
 have a1:Y9 "World" "own_parts" (zb 0) [.d (ym W),.d (ym W)]=.ok (.d (jF W)) [.d (ym W),.d (ym W)]:=sG rfl rfl
 have a2:Y9 "World" "own_parts" (zb 1) [.d (ym W),.d (ym W)]=.ok (.d (jF W)) [.d (ym W),.d (ym W)]:=sG rfl rfl
 have i1:Mq "World" [ym W,.fn "World"]=some (eBl true):=rfl
 refine(xR (ρ1:=[.d (ym W),.d (ym W)]) rfl ?_).trans rfl
 show Xd [.d (ym W),.d (ym W)]=_
 generalize ym W=w at a1 a2 i1⊢
 generalize jF W=f at a1 a2 e
 simp[AI,Xd,Ji,a1,a2,i1,e]
theorem rH (g:Good W) {fa fb:AK} {ρ:List S} (ha:fa ρ=.ok (.d (ym W)) ρ) (hb:fb ρ=.ok (.d (ym W)) ρ):aT (lS "World" true yZ fa fb) ρ=.ok false ρ:=by
 refine qi ?_
 have q:=Mi g
 unfold lS
 simp only[ha,hb,Res.bind_ok]
 unfold ym at q⊢
 simp only[bN,E.val]
 rw[if_pos ⟨trivial,by simp[okR]⟩]
 simp only[zx,zO,zM,BI,if_true]
 rw[q]
 rfl
theorem oK:yN [.d (ym W)]=.ok (.d (qH W.la)) [.d (ym W)]:=rfl
theorem oD:yM [.d (ym W)]=.ok (.d (zk W.hs)) [.d (ym W)]:=rfl
theorem bE:yO [.d (ym W)]=.ok (.d (qb W.sl)) [.d (ym W)]:=rfl
theorem tV (g:Good W):y9 [.d (ym W)]=.ok (.d (zk (ZM W.sl))) [.d (ym W)]:=by
 have f:=mO (fun s h=>(g.k.sl.ok.ws s h).1) (show W.sl.length≤sizeLine from zu (by have:=g.k.sl.len.2; omega))
 have p:xl "World" yB (zb 0) [.d (ym W)]=.ok (.d (zE W.sl)) [.d (ym W)]:=prop_ok rfl lb
 refine(xR (ρ1:=[.d (ym W)]) rfl ?_).trans rfl
 show Qa [.d (ym W)]=_
 generalize ym W=w at p⊢
 generalize zE W.sl=s at p f
 simp[AI,Qa,JD,p,f]
theorem KZ (g:Good W):∃z,qz [.d (ym W)]=.ok (.d (.str z)) [.d (ym W)]:=by
 have f5:Fine 0 60000 5 (.lst [zk W.hs,zE W.sl,yo W.be,yo W.ne,qH W.la]):=tU g.five
 obtain⟨z,hz⟩:=Na (b:=0) (by omega) f5.ok (AU f5.sz (by omega)) (AU f5.dp (by omega))
 have l5:(5:Nat)≤sizeLine:=by decide
 refine⟨z,?_⟩
 have q:∀{F:AK} {y:D},F [.d (ym W)]=.ok (.d y) [.d (ym W)]→xl "World" F (zb 0) [.d (ym W)]=.ok (.d y) [.d (ym W)]:=fun h=>prop_ok rfl h
 have q1:=q oD
 have q2:=q lb
 have q3:=q tc
 have q4:=q KN
 have q5:=q oK
 refine(xR (ρ1:=[.d (ym W)]) rfl ?_).trans rfl
 show QZ [.d (ym W)]=_
 generalize ym W=w at q1 q2 q3 q4 q5⊢
 generalize zk W.hs=a1 at q1 hz
 generalize zE W.sl=a2 at q2 hz
 generalize yo W.be=a3 at q3 hz
 generalize yo W.ne=a4 at q4 hz
 generalize qH W.la=a5 at q5 hz
 have t:zG (za (xl "World" yM (zb 0)) (za (xl "World" yB (zb 0)) (za (xl "World" yQ (zb 0)) (za (xl "World" yR (zb 0)) (za (xl "World" yN (zb 0)) ze))))) [.d w]=.ok (.fr (.lst [a1,a2,a3,a4,a5])) [.d w]:=by
  simp only[zG,za,q1,q2,q3,q4,q5,Res.bind_ok,ze]
  simp[keepL,keep1,l5]
 unfold QZ VN
 refine xp ?_
 simp[zh,za,ze,t,zY,E.val,O.toD,hz,z_]
theorem sT {xs:List D} (h:txD (.tup xs)=true) (d:dpD (.tup xs)≤60):gEq (.tup xs) (.tup xs)=some (eBl true):=by
 obtain⟨b,e,_,hb⟩:=NA h h d d
 rw[e,hb rfl]
theorem tS (g:Good W):gEq (zk (ZM W.sl)) (zk (ZM W.sl))=some (eBl true):=
 have s:=wJ fun s h=>(g.k.sl.ok.ws s h).1
 sT (kA (g.st_names s)) (AU (g.fst s).dp (by decide))
theorem oh (g:Good W):gEq (qb W.sl) (qb W.sl)=some (eBl true):=by
 obtain⟨L,e,_,hs⟩:=g.stands
 have t:txD (qb W.sl)=true:=by
  rw[e,txD]; exact Jh zk L fun st h=>kA (g.st_names (hs st h))
 have d:dpD (qb W.sl)≤60:=by
  have:=g.two.dp
  rw[dpD,dpL,dpL]at this
  omega
 rw[e]at t d⊢
 exact sT t d
theorem tX {F f:AK} {x y:D} {ρ:List S} (hf:f ρ=.ok (.d x) ρ) (e:F [.d x]=.ok (.d y) [.d x]):aFn F (za f ze) ρ=.ok (.d y) ρ:=by
 simp[aFn,za,hf,ze,zx,zO,zM,e,wb]
theorem av {f g:AK} {ρ:List S} {z:Str} (h1:f ρ=.ok (.d (.str z)) ρ) (h2:g ρ=.ok (.d (.str z)) ρ):aT (zg gNe f g) ρ=.ok false ρ:=by
 refine qi ?_
 have:gNe (.str z) (.str z)=some (eBl false):=by
  show some (eBl (!(z==z)))=_
  simp
 simp[zg,h1,h2,zX,E.val,this]
theorem PN {c:Str} {F f:AK} {ds:List (Str×D)} {y:D} {ρ:List S} (h:f ρ=.ok (.d (.ins c ds)) ρ) (hF:F [.d (.ins c ds)]=.ok (.d y) [.d (.ins c ds)]):xl c F f ρ=.ok (.d y) ρ:=by
 simp[xl,h,E.val,zx,zO,zM,hF,wb]
theorem nG {T:Nat} {o:O} (h:JarOk T o) (hT:T≤12000):∃o',jA [.own o]=.ok (.d (.bl true)) [.own o']∧JarOk (T+6000) o':=by
 obtain⟨o',W,e1,g,ok⟩:=bM h (by omega)
 refine⟨o',?_,ok⟩
 obtain⟨ls,hls⟩:∃ls:S,ls=.own (.dct (UV W)):=⟨_,rfl⟩
 have L:=RN hls
 have em:=oS g L
 have ep:=Kt g L
 obtain⟨_,_,pl⟩:=vn g
 have er:=ik g (by omega)
 have es:=iq g
 obtain⟨z,ez⟩:=KZ g
 have ef:=tV g
 obtain⟨Z,hZ⟩:∃Z:S→S→S→S→List S,Z=fun a b c d=>[.own o',a,b,c,d]:=⟨_,rfl⟩
 have s1:XZ [.own o,.no,.no,.no,.no]=.ok .nx (Z ls .no .no .no):=by
  have q:aFn qf (za (zb 0) ze) [.own o,.no,.no,.no,.no]=.ok (.fr (.dct (UV W))) [.own o',.no,.no,.no,.no]:=by
   simp[aFn,za,zb,ze,zx,zO,zM,e1,wb]
  unfold XZ
  refine(QM (i:=1) q (by simp)).trans ?_
  rw[hZ,hls]; rfl
 obtain⟨w,hw⟩:∃w,w=ym W:=⟨_,rfl⟩
 obtain⟨t,ht⟩:∃t,t=J1 W:=⟨_,rfl⟩
 have s2:X0 (Z ls .no .no .no)=.ok .nx (Z ls (.d w) (.d (.str t)) .no):=by
  rw[←hw]at em
  rw[←ht]at ep
  rw[hZ]
  unfold X0
  generalize UV W=kv at hls
  subst hls
  simp[z9,za,aFn,zb,ze,zx,zO,zM,em,ep,wb,toSL,toS,setL]
 have v2:∀d,zb 2 (Z ls (.d w) (.d (.str t)) d)=.ok (.d w) (Z ls (.d w) (.d (.str t)) d):=fun d=>by rw[hZ]; rfl
 have v3:∀d,zb 3 (Z ls (.d w) (.d (.str t)) d)=.ok (.d (.str t)) (Z ls (.d w) (.d (.str t)) d):=fun d=>by rw[hZ]; rfl
 have v4:zb 4 (Z ls (.d w) (.d (.str t)) (.d w))=.ok (.d w) (Z ls (.d w) (.d (.str t)) (.d w)):=by rw[hZ]; rfl
 rw[←ht,←hw]at er
 rw[←ht,←hw]at es
 have rd:∀d,JG (aFn xh (za (zb 3) ze)) (Z ls (.d w) (.d (.str t)) d)=.ok (.d w) (Z ls (.d w) (.d (.str t)) d):=fun d=>by
  unfold JG
  rw[tX (v3 d) er]
 have s3:X5 (Z ls (.d w) (.d (.str t)) .no)=.ok .nx (Z ls (.d w) (.d (.str t)) .no):=by
  have q:=av (tX (v2 .no) es) (v3 .no)
  unfold X5
  rw[UZ (by unfold zW; rw[q]; simp only[Res.bind_ok,Bool.false_eq_true,if_false]; rw[q])]
  rfl
 have s5:X6 (Z ls (.d w) (.d (.str t)) .no)=.ok .nx (Z ls (.d w) (.d (.str t)) (.d w)):=by
  unfold X6
  rw[show zp 4 (JG (aFn xh (za (zb 3) ze))) (Z ls (.d w) (.d (.str t)) .no)=.ok .nx ((Z ls (.d w) (.d (.str t)) .no).set 4 (.d w))from YL (rd .no) (by rw[hZ]; simp)]
  rw[hZ]; rfl
 have s6:X7 (Z ls (.d w) (.d (.str t)) (.d w))=.ok .nx (Z ls (.d w) (.d (.str t)) (.d w)):=by
  have q1:aT (lS "World" true yZ (zb 4) (zb 2)) (Z ls (.d w) (.d (.str t)) (.d w))=.ok false _:=rH g (by rw[←hw]; exact v4) (by rw[←hw]; exact v2 _)
  have q2:=av (tX v4 (F:=qz) (by rw[hw]; exact ez)) (tX (v2 (.d w)) (F:=qz) (by rw[hw]; exact ez))
  have q3:aT (lS "World" true yZ (JG (aFn xh (za (zb 3) ze))) (zb 4)) (Z ls (.d w) (.d (.str t)) (.d w))=.ok false _:=rH g (by rw[←hw]; exact rd _) (by rw[←hw]; exact v4)
  unfold X7
  rw[UZ (by
   unfold zW
   rw[q1]
   simp only[Res.bind_ok,Bool.false_eq_true,if_false]
   rw[q2]
   simp only[Res.bind_ok,Bool.false_eq_true,if_false]
   exact q3)]
  rfl
 have s8:X8 (Z ls (.d w) (.d (.str t)) (.d w))=.ok (.rt (.d (.bl true))) (Z ls (.d w) (.d (.str t)) (.d w)):=by
  have q1:zg gEq (aFn xZ (za (zb 4) ze)) (zb 3) (Z ls (.d w) (.d (.str t)) (.d w))=.ok (.d (.bl true)) _:=yh (tX v4 es) (v3 _) (by show some (eBl (t==t))=_; simp)
  have pw:∀{i:Nat} {F:AK} {y:D},zb i (Z ls (.d w) (.d (.str t)) (.d w))=.ok (.d w) (Z ls (.d w) (.d (.str t)) (.d w))→F [.d w]=.ok (.d y) [.d w]→xl "World" F (zb i) (Z ls (.d w) (.d (.str t)) (.d w))=.ok (.d y) (Z ls (.d w) (.d (.str t)) (.d w)):=fun hi hF=>by
   rw[hw]at hi hF⊢
   exact PN hi hF
  have q2:zg gEq (xl "World" y9 (zb 4)) (xl "World" y9 (zb 2)) (Z ls (.d w) (.d (.str t)) (.d w))=.ok (.d (.bl true)) _:=yh (pw v4 (by rw[hw]; exact ef)) (pw (v2 _) (by rw[hw]; exact ef)) (tS g)
  have q3:zg gEq (xl "World" yO (zb 4)) (xl "World" yO (zb 2)) (Z ls (.d w) (.d (.str t)) (.d w))=.ok (.d (.bl true)) _:=yh (pw v4 (by rw[hw]; exact bE)) (pw (v2 _) (by rw[hw]; exact bE)) (oh g)
  unfold X8
  refine xp ?_
  generalize zg gEq (aFn xZ (za (zb 4) ze)) (zb 3)=f1 at q1
  generalize zg gEq (xl "World" y9 (zb 4)) (xl "World" y9 (zb 2))=f2 at q2
  generalize zg gEq (xl "World" yO (zb 4)) (xl "World" yO (zb 2))=f3 at q3
  simp[AI,q1,q2,q3]
 refine(xR (np:=1) (nl:=4) (x:=.bl true) (ρ1:=Z ls (.d w) (.d (.str t)) (.d w)) rfl ?_).trans (by rw[hZ]; rfl)
 show Q0 [.own o,.no,.no,.no,.no]=_
 unfold Q0
 rw[zU s1,zU s2,zU s3,zU s5,zU s6,s8]
end
theorem math (ns:List Int) (h:ns.length≤63):∃ρ',KA [.d (.scr ns)]=.ok (.d (.bl true)) ρ':=
 pX (mr:=jA) (N:=4) (M:=3) (C:=6000) (B:=12000) (by omega) (by omega) (by omega) (by omega) (fun T o h hT=>nG h hT) ns h
end L2.AL.WS.R.K09
namespace L2.AL.WS.R.K09
open PySem PySem.Spec PyProof.Rows L2 L2.AL L2.AL.SH L2.AL.WS
theorem walk_ {d:DefRec} (hdf:d.params.defaults=[]) (hn:d.name="law"):PySem.W.WalkO q_ loose_ (PySem.W.XL q_ []) (HX.hookH fa_ fn_ dc_).says PySem.Challenge.rw_unlikekeys_k09_texts_of_worlds.row.toRowW d [] (fun f vs=>PySem.call f vs):=
 HX.walk_E (l:=PySem.Challenge.rw_unlikekeys_k09_texts_of_worlds) (n:=63) (k:=11) rfl (by decide) hdf ⟨rfl,by decide,by decide⟩ (by intro x hx; simp[lamNames]at hx) (fun w mg fa h ⟨K,X,c⟩ G hm=>⟨K,X,OK X G (hn▸hm) c rfl rfl⟩) math
end L2.AL.WS.R.K09
open PySem PySem.W PyProof.Rows
set_option maxRecDepth 100000 in
set_option maxHeartbeats 0 in
theorem PySem.Challenge.cw_unlikekeys_k09_texts_of_worlds_holds : PySem.Challenge.rw_unlikekeys_k09_texts_of_worlds.Holds := by
 exact L2.AL.WS.R.K09.end_ fun _ hd hn=>L2.AL.WS.R.K09.walk_ hd hn
