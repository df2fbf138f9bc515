import PyProof.Rows.All
import Wide.All
import OpenK.AllK
import Wide.FinOn
import HandS.Base
import HandS.Call
import HandS.CallRecv
import HandS.CallSlots
import HandS.ClsMeth
import HandS.Comp
import HandS.Conv
import HandS.Deep
import HandS.Defaults
import HandS.DictComp
import HandS.EndTab
import HandS.ExcField
import HandS.ExcInit
import HandS.ExcIs
import HandS.ExcOwn
import HandS.ExcValue
import HandS.FStr
import HandS.Finally
import HandS.Flow
import HandS.ForExc
import HandS.ForMost
import HandS.Head2
import HandS.HeadEnd
import HandS.HeadHook4
import HandS.HeadNt
import HandS.IsInst
import HandS.Iter
import HandS.Lambda
import HandS.List
import HandS.ListItems
import HandS.MakeKw
import HandS.MapObj
import HandS.More
import HandS.NamedTupSort
import HandS.NoneIn
import HandS.OwnEq
import HandS.Property
import HandS.Rev
import HandS.Set
import HandS.SetBool
import HandS.SetFor
import HandS.SetKeys
import HandS.Small
import HandS.SortKw
import HandS.Strs
import HandS.Style
import HandS.Text
import HandS.TupAny
import HandS.TupLen
import HandS.TupSets
import HandS.Walk
import HandS.Wide
import HandS.Zip
import KE.DataEq
import KE.DataMinMax
import KE.GoesMore
import KE.GoesRaise
import KE.KDictCopyH
import KE.KDictDisplayH
import KE.KDictExact
import KE.KDictPairs
import KE.KDictZip
import KE.KEqNest
import KE.KExcIs
import KE.KIntText
import KE.KItemsList
import KE.KPairComp
import KE.LtData
import KE.SortData
import PyProof.AutoSeq1
import PyProof.InstEq
import PyProof.ListMulRoad
import PyProof.ReprRoads
import PyProof.Rows.RegStrFacts
import PyProof.Rows.StrItems
import PyProof.Rows.StrSplit
import PyProof.StrOps2
import Lean
import PySem.Challenge.RW_lastnumbers_k74_table_texts
set_option Elab.async false
set_option linter.all false
set_option maxRecDepth 100000
set_option maxHeartbeats 4000000
namespace GQ
end GQ
namespace HandSPX
end HandSPX
namespace K07
end K07
namespace K09
end K09
namespace K61
end K61
namespace K62
end K62
namespace K68
end K68
namespace K71
end K71
namespace K72
end K72
namespace K73
end K73
namespace K74
end K74
namespace PL
end PL
namespace PM
end PM
namespace PN
end PN
namespace PV
end PV
namespace PV.K09
end PV.K09
namespace PV.K1
end PV.K1
namespace PV.K61
end PV.K61
namespace PV.K62
end PV.K62
namespace PV.K68
end PV.K68
namespace PV.K71
end PV.K71
namespace PV.K72
end PV.K72
namespace PV.K73
end PV.K73
namespace PV.K74
end PV.K74
namespace PV.M1
end PV.M1
namespace PV.N1
end PV.N1
namespace PV.Q1
end PV.Q1
namespace PV.RN
end PV.RN
namespace PySem
end PySem
namespace PySem.SeqAt
end PySem.SeqAt
namespace PV
open PySem L2 PyProof.Rows
def DA (C C':Nat):Bool:=C == C'||(C' == 0&&decide (C < 20))
end PV
namespace PV
open PySem PySem.Spec PyProof.Rows L2
def nX:List String:=["NoneType", "bool", "int", "str", "tuple", "list", "dict"]
def iN:List String:=["bool", "int", "str", "list", "tuple", "dict", "ValueError"]
end PV
namespace PV
open PySem PySem.Spec PyProof.Rows L2
open He (ga ma fAd ba eqO eqO_ok)
abbrev ku:Type:=PySem.W.Frag
abbrev DefA:Type:=He5.DefA
def Ij (fa:List (ku→Bool)) (fn:List DefA) (K:ku):He.AlD:=((fa.all fun f=>f K)&&fn.all fun d=>d.ok K,fn.map fun d=>He5.fnA K (d.at_ K))
def tH (fa:List (ku→Bool)) (fn:List DefA) (K:ku):Prop:=Ij fa fn K=He5.valA fn
def AU (n:Nat) (fa:List (ku→Bool)) (fn:List DefA) (g:Addr→Option Obj):He.AlD:=Ij fa fn (He.frG g (He5.asA g n))
def EY (n:Nat) (fa:List (ku→Bool)) (fn:List DefA):PySem.W.Hook where
 α:=He.AlD
 obs:=fun s=>AU n fa fn s.heap.get?
 val:=fun _=>He5.valA fn
 says:=fun _ h=>∃ K:ku,K.In h∧tH fa fn K
 of:=fun _ _ e=>⟨_,He.frG_in,e⟩
 keeps:=fun _ _ _ ⟨K,hK,c⟩ k=>⟨K,PySem.W.Frag.In.keeps hK k,c⟩
abbrev fa (f:He.Fa):ku→Bool:=fun K=>f.ok K
def EZ (x:Str) (K:ku):Bool:=(He.Fa.cls x).ok K&&(eqO (PySem.W.findIn K (.ref (ga K x)) "__class__") (some (some (.builtin "object.__class__")))&&(eqO (PySem.W.specialIn K (.builtin "object.__class__") "__get__") (some (some (.builtin "getset_descriptor.__get__"))) &&
 (decide (PySem.W.takesIn K (.builtin "object.__class__")=some true)&&decide (PySem.W.mroIn K (ga K x) (.type "object")=some true))))
def E8 (x:Str) (K:ku):Bool:=eqO (PySem.W.findIn K (.ref (ga K x)) "__getattribute__") (some (some (.builtin "BaseException.__getattribute__")))&&(eqO (PySem.W.findIn K (.ref (ga K x)) "__getattr__") (some none)&&(decide (PySem.W.subIn K (.ref (ga K x)) (.type "BaseException")=some true)&&(PySem.W.hasDictIn K (ga K x) &&
 (eqO (PySem.W.findIn K (.ref (ga K x)) "__class__") (some (some (.builtin "object.__class__")))&&(eqO (PySem.W.specialIn K (.builtin "object.__class__") "__get__") (some (some (.builtin "getset_descriptor.__get__")))&&(decide (PySem.W.takesIn K (.builtin "object.__class__")=some true)&&decide (PySem.W.mroIn K (ga K x) (.type "object")=some true)))))))
def Ge (nm:Nat→Str) (cs:List Nat) (K:ku):Bool:=(cs.all fun C=>if C < 20 then E8 (nm C) K else EZ (nm C) K)&&((cs.all fun C=>iN.all fun b=>decide (PySem.W.kitOne K (.ref (ga K (nm C))) (.type b)=some (decide (C < 20)&&b == "ValueError")))&&((cs.all fun C=>nX.all fun a=>decide (PySem.W.kitOne K (.type a) (.ref (ga K (nm C)))=some false)) &&
 cs.all fun C=>cs.all fun C'=>decide (PySem.W.kitOne K (.ref (ga K (nm C))) (.ref (ga K (nm C')))=some (DA C C'))))
end PV
namespace PV
open PySem PySem.Spec PyProof.Rows L2
open He (ga ma ba eqO eqO_ok)
def Ik (x:Str) (K:ku):Bool:=(He.Fa.glo x).ok K&&(PySem.W.excIn K (ga K x) [.type "ValueError",.type "Exception",.type "BaseException",.type "object"] "ValueError.__new__" && (PySem.W.keepIn K (.ref (ga K x))&&(decide (PySem.W.subIn K (.ref (ga K x)) (.type "BaseException")=some true)&&decide (PySem.W.typeIn K (.ref (ga K x))=some (.type "type")))))
def Il (nm:Nat→Str) (cs:List Nat) (K:ku):Bool:=cs.all fun C=>decide (PySem.W.exmOne K (.ref (ga K (nm C))) (.ref (ga K (nm 0)))=some true)
def Im (x:Str) (K:ku):Bool:=(match K.lookup (ga K x)with
  | some ⟨.type "type",_,.cls cd,sl⟩=>(match cd.mro,sl.toList with
   | .ref C'::bm,[_,_,_,_,some (.builtin n),_]=>C' == ga K x&&(n == "ValueError.__new__" && (! cd.hasDel&&(PySem.HandSPX.refsVE bm&&cd.hasDict)))
   | _,_=>false)
  | _=>false)&&(eqO (PySem.W.findIn K (.ref (ga K x)) "__setattr__") (some (some (.builtin "object.__setattr__")))&&(decide (PySem.W.subIn K (.ref (ga K x)) (.type "BaseException")=some true)&&(decide (PySem.W.typeIn K (.ref (ga K x))=some (.type "type"))&&PySem.W.keepIn K (.ref (ga K x)))))
def AV (x f:Str) (K:ku):Bool:=Im x K&&((He.Fa.glo x).ok K&&(eqO (PySem.W.findIn K (.ref (ga K x)) f) (some none)&&(eqO (PySem.W.findIn K (.ref (ga K x)) "__init__") (some (some (.ref (ma K (ga K x) "__init__"))))&&decide (PySem.W.typeIn K (.ref (ma K (ga K x) "__init__"))=some (.type "function")))))
def Io (K:ku):Bool:=(He.Fa.glo "TreeError").ok K&&(PySem.W.readsIn K (ga K "TreeError") (.type "type")&&(eqO (PySem.W.specialIn K (.ref (ga K "TreeError")) "__getattribute__") (some (some (.builtin "type.__getattribute__"))) &&
 (match PySem.W.findCls K (.ref (ga K "TreeError")) (.type "type") "__init__" with
 | some (.val (.builtin n))=>n == "ValueError.__init__"
 | _=>false)))
end PV
namespace PV
open PySem PySem.Spec PyProof.Rows L2
open He (ga ma eqO eqO_ok)
def Ip (x f:Str) (K:ku):Bool:=xfB K (ga K x)&&eqO (PySem.W.findIn K (.ref (ga K x)) f) (some none)
end PV
namespace K74
open PySem PySem.Spec PyProof.Rows L2 PV PL PM PN K61 K09 K72 K71
variable {P:Program}{w:World}{K:PySem.W.Frag}{mg:Str→Option Value}{base:Heap}{cls:Nat→Addr}{tbs:List (Addr×Str)}{dvs:List V}{kws:List (Str×V)}{f:Addr}{fd:FuncData}
def top (i:Nat):Stmt:=PySem.Challenge.pw_lastnumbers_k74_table_texts.main.body.getD i (.Pass ⟨0,0,0,0⟩)
abbrev cL:Stmt:=(top 7)
abbrev d8:Stmt:=(top 8)
abbrev fu:Stmt:=(top 10)
abbrev dz:Stmt:=(top 11)
abbrev bF:Stmt:=(inClass (top 3) 0)
abbrev d9:Stmt:=(top 21)
abbrev fv:Stmt:=(top 22)
abbrev gJ:Stmt:=(top 23)
abbrev gK:Stmt:=(top 24)
abbrev fD:Stmt:=(top 25)
abbrev dC:Stmt:=(top 26)
abbrev bY:Stmt:=(top 27)
abbrev cD:Stmt:=(top 28)
abbrev b9:Stmt:=(top 15)
abbrev eg:Stmt:=(top 16)
abbrev cE:Stmt:=(top 17)
abbrev gL:Stmt:=(top 18)
abbrev cM:Stmt:=(top 19)
abbrev fw:Stmt:=(top 29)
abbrev ew:Stmt:=(top 30)
abbrev bT:Stmt:=(top 31)
abbrev bZ:Stmt:=(top 32)
abbrev dD:Stmt:=(top 33)
abbrev gM:Stmt:=(top 34)
abbrev jA:Stmt:=(top 35)
end K74
noncomputable section
namespace K74
open PySem PySem.Spec PyProof.Rows L2 PV PL PM PN K61 K09 K72 K71
open He (ga ma)
def nm:Nat→Str
 | 0 => "TreeError"
 | 3 => "BadTable"
 | 14 => "BadText"
 | _ => ""
def nY:DefA:=⟨fun K=>ga K "is_integer", "is_integer", "is_integer",defArgs cL,defBody cL,defScope cL,[],[]⟩
def tJ:DefA:=⟨fun K=>ga K "is_name", "is_name", "is_name",defArgs d8,defBody d8,defScope d8,[],[]⟩
def tK:DefA:=⟨fun K=>ga K "is_pair", "is_pair", "is_pair",defArgs fu,defBody fu,defScope fu,[],[]⟩
def qI:DefA:=⟨fun K=>ga K "is_table", "is_table", "is_table",defArgs dz,defBody dz,defScope dz,[],[]⟩
def jO:DefA:=⟨fun K=>ma K (ga K "BadText") "__init__", "__init__", "BadText.__init__",defArgs bF,defBody bF,defScope bF,[],[]⟩
def tM:DefA:=⟨fun K=>ga K "_law_begun", "_law_begun", "_law_begun",defArgs d9,defBody d9,defScope d9,[],[]⟩
def tN:DefA:=⟨fun K=>ga K "_law_mixed", "_law_mixed", "_law_mixed",defArgs fv,defBody fv,defScope fv,[],[]⟩
def wb:DefA:=⟨fun K=>ga K "_law_take", "_law_take", "_law_take",defArgs gJ,defBody gJ,defScope gJ,[],[]⟩
def wc:DefA:=⟨fun K=>ga K "_law_pick", "_law_pick", "_law_pick",defArgs gK,defBody gK,defScope gK,[],[]⟩
def we:DefA:=⟨fun K=>ga K "_law_name", "_law_name", "_law_name",defArgs fD,defBody fD,defScope fD,[],[]⟩
def tQ:DefA:=⟨fun K=>ga K "_law_names", "_law_names", "_law_names",defArgs dC,defBody dC,defScope dC,[],[]⟩
def lL:DefA:=⟨fun K=>ga K "_law_is_integer", "_law_is_integer", "_law_is_integer",defArgs bY,defBody bY,defScope bY,[],[]⟩
def pK:DefA:=⟨fun K=>ga K "_law_is_name", "_law_is_name", "_law_is_name",defArgs cD,defBody cD,defScope cD,[],[]⟩
def n6:DefA:=⟨fun K=>ga K "table_text", "table_text", "table_text",defArgs b9,defBody b9,defScope b9,[],[]⟩
def qJ:DefA:=⟨fun K=>ga K "lines_of", "lines_of", "lines_of",defArgs eg,defBody eg,defScope eg,[],[]⟩
def pL:DefA:=⟨fun K=>ga K "is_number", "is_number", "is_number",defArgs cE,defBody cE,defScope cE,[],[]⟩
def wg:DefA:=⟨fun K=>ga K "is_row", "is_row", "is_row",defArgs gL,defBody gL,defScope gL,[],[]⟩
def n7:DefA:=⟨fun K=>ga K "read_table", "read_table", "read_table",defArgs cM,defBody cM,defScope cM,[],[]⟩
def tR:DefA:=⟨fun K=>ga K "_law_tried", "_law_tried", "_law_tried",defArgs fw,defBody fw,defScope fw,[],[]⟩
def qK:DefA:=⟨fun K=>ga K "_law_number", "_law_number", "_law_number",defArgs ew,defBody ew,defScope ew,[],[]⟩
def ng:DefA:=⟨fun K=>ga K "_law_is_number", "_law_is_number", "_law_is_number",defArgs bT,defBody bT,defScope bT,[],[]⟩
def lM:DefA:=⟨fun K=>ga K "_law_wrong_line", "_law_wrong_line", "_law_wrong_line",defArgs bZ,defBody bZ,defScope bZ,[],[]⟩
def tU:DefA:=⟨fun K=>ga K "_law_right", "_law_right", "_law_right",defArgs dD,defBody dD,defScope dD,[],[]⟩
def wj:DefA:=⟨fun K=>ga K "_law_bent", "_law_bent", "_law_bent",defArgs gM,defBody gM,defScope gM,[],[]⟩
def E9:DefA:=⟨fun K=>ga K "law", "law", "law",defArgs jA,defBody jA,defScope jA,[],[]⟩
def fn:List DefA:=[nY,tJ,tK,qI,jO,tM,tN,wb,wc,we,tQ,lL,pK,n6,qJ,pL,wg,n7,tR,qK]++[ng,lM,tU,wj,E9]
def MW:List (ku→Bool):=[Ge nm [],fa (.free "int"),fa (.free "isinstance"),fa (.free "bool"),fa (.free "str"),fa (.free "len"),fa (.int "MOST_LETTERS" 8),fa (.str "LETTERS" "abcdefghijklmnopqrstuvwxyz"),fa (.free "all"),fa (.free "tuple"),fa (.glo "is_integer"),fa (.free "dict"),fa (.glo "is_name"),fa (.glo "is_pair"),Io,AV "BadText" "line",fa (.free "list"),fa (.glo "_law_mixed"),fa (.glo "_law_take"),fa (.free "range")]
def MX:List (ku→Bool):=[fa (.glo "_law_name"),fa (.glo "is_table"),Ik "BadTable",fa (.free "sorted"),fa (.int "MOST_DIGITS" 40),fa (.str "DIGITS" "0123456789"),fa (.glo "is_number"),fa (.glo "lines_of"),fa (.free "enumerate"),fa (.glo "is_row"),Il nm [0,3,14],fa (.glo "TreeError"),fa (.glo "table_text"),fa (.glo "read_table"),fa (.glo "_law_pick"),fa (.glo "_law_is_name"),fa (.glo "_law_is_number"),fa (.glo "_law_wrong_line"),fa (.glo "_law_tried"),Ge nm [0,3,14]]
def MY:List (ku→Bool):=[fa (.glo "BadText"),Ip "BadText" "line",fa (.free "min"),fa (.free "max"),fa (.glo "_law_begun"),fa (.glo "_law_names"),fa (.glo "_law_number"),fa (.glo "_law_bent"),fa (.glo "_law_right"),fa (.glo "BadTable"),fa (.glo "law")]
def fs:List (ku→Bool):=MW++MX++MY
def MZ:List Str:=["__name__", "TreeError", "BadTable", "BadText", "LETTERS", "MOST_LETTERS", "is_integer", "is_name", "is_pair", "is_table", "MOST_DIGITS", "DIGITS", "table_text", "lines_of", "is_number", "is_row", "read_table", "_law_begun", "_law_mixed", "_law_take"]
def lo1:List Str:=["_law_pick", "_law_name", "_law_names", "_law_is_integer", "_law_is_name", "_law_tried", "_law_number", "_law_is_number", "_law_wrong_line", "_law_right", "_law_bent"]
def lo:List Str:=MZ++lo1
abbrev R:PySem.W.OpenRow:=PySem.W.OpenLaw.row PySem.Challenge.rw_lastnumbers_k74_table_texts
abbrev hk:PySem.W.Hook:=EY 6 fs fn
def ob (s:PySem.W.SharedT):He.AlD:=AU 6 fs fn (HandSHeadRun.getT s)
theorem run (w:World):HandSHeadRun.RunEq R (PySem.W.view R.prog [35]) hk ob 9000 lo w:=by
 intro os
 kernel_rfl
end K74
namespace PV
open PySem PySem.Spec PyProof.Rows L2
abbrev sZ:=List Key
abbrev hK (P:Program) (w:World) (k:sZ):Int:=tupleKeyHash (mixKind P w) k
abbrev Kr (P:Program) (w:World) (h:Heap) (k:sZ) (a:Addr):Prop:=IsTupleKey (mixKind P w) h k a
end PV
namespace PV
open PySem PySem.Spec PyProof.Rows L2
section
variable {P:Program}{w:World}{A:Around}{E:Value→Shared→Prop}{s:Shared}{a:Addr}{L:List (Addr×sZ)}{es:Array (Int×Value)}{t:SetTable}
theorem AW {h h':Heap}{k:sZ}{b:Addr} (x:Kr P w h k b) (hk:∀ c o,h.get? c=some o→h'.get? c=some o):Kr P w h' k b:=by
 obtain⟨o,its,n,ho,r⟩:=x
 exact⟨o,its,n,hk b o ho,r⟩
end
end PV
namespace PV
open PySem L2
inductive D where
 | non | bl (b:Bool) | int (i:Int) | str (x:Str)
 | tup (xs:List D) | lst (xs:List D)
 | dic (ks vs:List D)
 | obj (C:Nat) (ns:List Str) (vs:List D)
 | exc (C:Nat) (p:List D)
inductive O where
 | d (x:D) | tup (xs:List O) | lst (xs:List O) | dic (ks:List D) (vs:List O) | obj (C:Nat) (ns:List Str) (vs:List O)
mutual
def O.frz:O→D
 | .d x=>x
 | .tup xs=>.tup (O.frzL xs)
 | .lst xs=>.lst (O.frzL xs)
 | .dic ks vs=>.dic ks (O.frzL vs)
 | .obj C ns vs=>.obj C ns (O.frzL vs)
def O.frzL:List O→List D
 | []=>[]
 | x::xs=>O.frz x::O.frzL xs
end
theorem bM:∀ xs:List O,O.frzL xs=xs.map O.frz
 | []=>rfl
 | x::xs=>by rw [O.frzL,List.map_cons,bM xs]
def keyOf:D→Option Key
 | .int i=>some (.inl i)
 | .str x=>some (.inr x)
 | _=>none
def keysOf:List D→Option (List Key)
 | []=>some []
 | d::ds=>match keyOf d,keysOf ds with
  | some k,some r=>some (k::r)
  | _,_=>none
def aA:D→Option (List Key)
 | .tup ds=>if ds.length=2∨ds.length=3 then keysOf ds else none
 | _=>none
def au:List D→Option (List (List Key))
 | []=>some []
 | d::ds=>match aA d,au ds with
  | some k,some r=>some (k::r)
  | _,_=>none
noncomputable def vw (L:Addr→Prop) (H:Hp):Hp:=fun a=>match H a with
 | some (.frz o u)=>by classical exact if L a then some u else some (.frz o u)
 | x=>x
structure Tab where
 K:PySem.W.Frag
 cls:Nat→Addr
 tabs:List (Addr×Str)
def KL (K:PySem.W.Frag) (a:Addr) (xs:List V):Prop:=∃ (o:Obj) (its:Array Value) (n:Nat),K.lookup a=some o∧o.cls = .type "list" ∧ o.dict=none∧o.data = .seq its n∧its.size≤sizeLine∧Vals xs its.toList
def M0 (K:PySem.W.Frag) (a:Addr) (xs:List V):Prop:=∃ (o:Obj) (its:Array Value) (n:Nat),K.lookup a=some o∧o.cls = .type "tuple" ∧ o.data = .seq its n∧its.size≤sizeLine∧Vals xs its.toList
def TupAt (K:PySem.W.Frag) (H:Hp) (n:Nat) (a:Addr) (vs:List V):Prop:=H a=some (.tup vs)∨((n=2∨n=3)→False)∧M0 K a vs
def vZ (a C:Addr) (d:Option Addr):HO:=.ext fun h=>∃ o:PySem.Obj,h.get? a=some o∧o.cls = .ref C∧o.dict=d∧∃ vs,o.data = .fields vs
def fx (C:Nat):Str:=if C=2 then "name" else if C=6 then "end" else if C=7 then "ring" else if C=12 then "at" else if C=13 then "most" else "line"
section
variable (T:Tab) (own:Addr→Prop) (H:Hp)
def zZ (C:Nat) (d:Option Addr) (vs:List V):Prop:=match vs with
 | []=>d=none
 | [v]=>∃ dx,d=some dx∧¬ own dx∧H dx=some (.xd [(fx C,v)])
 | _=>False
mutual
def Dr:D→V→Prop
 | .non,v=>v = .non
 | .bl b,v=>v = .bl b
 | .int i,v=>v = .int i
 | .str x,v=>v = .str x
 | .tup xs,v=>∃ a vs,v = .ref a∧TupAt T.K H xs.length a vs∧jB xs vs
 | .lst xs,v=>∃ a vs,v = .ref a∧((¬ own a∧Rd H a (.lst vs))∨KL T.K a vs)∧jB xs vs
 | .dic ks xs,v=>∃ a vs,v = .ref a∧¬ own a∧((∃ js,keysOf ks=some js∧H a=some (.dK (js.zip vs))∧js.length=vs.length)∨(∃ js,au ks=some js∧H a=some (.dT (js.zip vs))∧js.length=vs.length))∧jB xs vs
 | .obj C ns xs,v=>∃ a dx vs,v = .ref a∧¬ own a∧H a=some (.ins (T.cls C) dx (ns.zip vs))∧ns.length=vs.length∧jB xs vs
 | .exc C p,v=>(p.length=3∧v = .ref (T.cls C))∨∃ a d vs,v = .ref a∧¬ own a∧H a=some (vZ a (T.cls C) d)∧zZ own H C d vs∧jB p vs
def jB:List D→List V→Prop
 | [],vs=>vs = []
 | x::xs,vs=>∃ v r,vs=v::r∧Dr x v∧jB xs r
end
mutual
def Or:O→V→List Addr→Prop
 | .d x,v,F=>F = []∧Dr T own H x v
 | .tup xs,v,F=>∃ a vs,v = .ref a∧H a=some (.tup vs)∧AO xs vs F
 | .lst xs,v,F=>∃ a vs G,v = .ref a∧F=a::G∧H a=some (.lst vs)∧AO xs vs G
 | .dic ks xs,v,F=>∃ a vs G,v = .ref a∧F=a::G∧((∃ js,keysOf ks=some js∧H a=some (.dK (js.zip vs))∧js.length=vs.length)∨(∃ js,au ks=some js∧H a=some (.dT (js.zip vs))∧js.length=vs.length))∧AO xs vs G
 | .obj C ns xs,v,F=>∃ a dx vs G,v = .ref a∧F=a::G∧H a=some (.ins (T.cls C) dx (ns.zip vs))∧ns.length=vs.length∧AO xs vs G
def AO:List O→List V→List Addr→Prop
 | [],vs,F=>vs = []∧F = []
 | x::xs,vs,F=>∃ v r F1 F2,vs=v::r∧F=F1++F2∧Or x v F1∧AO xs r F2
end
end
def Ks (u:HO):Prop:=match u with
 | .tbl _=>False
 | _=>True
def fP (own:Addr→Prop) (h h':Hp):Prop:=∀ a o,h a=some o→(own a→(∃ xs,o = .tup xs)∨∃ ob u,o = .frz ob u)→Ks o→h' a=some o
theorem fP.refl {own:Addr→Prop}{h:Hp}:fP own h h:=fun _ _ e _ _=>e
section
variable {T:Tab}{own own':Addr→Prop}{h h':Hp}
theorem DB {a:Addr}{u:HO} (k:fP own h h') (n:¬ own a) (e:Rd h a u) (nt:Ks u:=by trivial):Rd h' a u:=by
 rcases e with e | ⟨o,e⟩
 ·exact .inl (k a _ e (fun z=>(n z).elim) nt)
 ·exact .inr ⟨o,k a _ e (fun z=>(n z).elim) trivial⟩
theorem AX {a:Addr}{u:HO} (e:Rd h a u):h a≠none:=by
 rcases e with e | ⟨o,e⟩ <;> rw [e] <;> simp
theorem xQ {a:Addr}{n:Nat}{vs:List V} (k:fP own h h') (e:TupAt T.K h n a vs):TupAt T.K h' n a vs:=e.imp (fun e=>k a _ e (fun _=>.inl ⟨_,rfl⟩) trivial) id
theorem zZ.keep {C:Nat}{d:Option Addr}{vs:List V} (k:fP own h h') (s:∀ a,own' a→own a∨h a=none) (e:zZ own h C d vs):zZ own' h' C d vs:=match vs,e with
 | [],e=>e
 | [v],⟨dx,e1,n,e2⟩=>⟨dx,e1,fun z=>n ((s dx z).resolve_right (by rw [e2]; simp)),k dx _ e2 (fun z=>(n z).elim) trivial⟩
theorem TupAt.sq {K:PySem.W.Frag}{h:Hp}{a:Addr}{n:Nat}{vs:List V} (e:TupAt K h n a vs):SqT K h a vs:=e.imp (fun e=>.inl e) And.right
mutual
theorem Dr.keep (k:fP own h h') (s:∀ a,own' a→own a∨h a=none):∀ (x:D) (v:V),Dr T own h x v→Dr T own' h' x v
 | .non,v,e=>e
 | .bl b,v,e=>e
 | .int i,v,e=>e
 | .str x,v,e=>e
 | .tup xs,v,e=>by
  obtain⟨a,vs,e1,e2,e3⟩:=e
  exact⟨a,vs,e1,xQ k e2,Dr.keepL k s xs vs e3⟩
 | .lst xs,v,e=>by
  obtain⟨a,vs,e1,e2,e3⟩:=e
  refine⟨a,vs,e1,?_,Dr.keepL k s xs vs e3⟩
  rcases e2 with⟨n,e2⟩ | e2
  ·exact .inl ⟨fun z=>n ((s a z).resolve_right (AX e2)),DB k n e2⟩
  ·exact .inr e2
 | .dic ks xs,v,e=>by
  obtain⟨a,vs,e1,n,e2,e3⟩:=e
  have th:h a≠none:=by rcases e2 with⟨js,_,q,_⟩ | ⟨js,_,q,_⟩ <;> rw [q] <;> simp
  refine⟨a,vs,e1,fun z=>n ((s a z).resolve_right th),?_,Dr.keepL k s xs vs e3⟩
  rcases e2 with⟨js,q1,q2,q3⟩ | ⟨js,q1,q2,q3⟩
  ·exact .inl ⟨js,q1,k a _ q2 (fun z=>(n z).elim) trivial,q3⟩
  ·exact .inr ⟨js,q1,k a _ q2 (fun z=>(n z).elim) trivial,q3⟩
 | .obj C ns xs,v,e=>by
  obtain⟨a,dx,vs,e1,n,e2,e3,e4⟩:=e
  exact⟨a,dx,vs,e1,fun z=>n ((s a z).resolve_right (by rw [e2]; simp)),k a _ e2 (fun z=>(n z).elim) trivial,e3,Dr.keepL k s xs vs e4⟩
 | .exc C p,v,e=>by
  rcases e with e | ⟨a,d,vs,e1,n,e2,e3,e4⟩
  ·exact .inl e
  exact .inr ⟨a,d,vs,e1,fun z=>n ((s a z).resolve_right (by rw [e2]; simp)),k a _ e2 (fun z=>(n z).elim) trivial,zZ.keep k s e3,Dr.keepL k s p vs e4⟩
theorem Dr.keepL (k:fP own h h') (s:∀ a,own' a→own a∨h a=none):∀ (xs:List D) (vs:List V),jB T own h xs vs→jB T own' h' xs vs
 | [],vs,e=>e
 | x::xs,vs,e=>by
  obtain⟨v,r,e1,e2,e3⟩:=e
  exact⟨v,r,e1,Dr.keep k s x v e2,Dr.keepL k s xs r e3⟩
end
mutual
theorem Or.keep (k:fP own h h') (s:∀ a,own' a→own a∨h a=none):∀ (x:O) (v:V) (F:List Addr),(∀ a∈F,h' a=h a)→Or T own h x v F→Or T own' h' x v F
 | .d x,v,F,_,e=>⟨e.1,Dr.keep k s x v e.2⟩
 | .tup xs,v,F,f,e=>by
  obtain⟨a,vs,e1,e2,e3⟩:=e
  exact⟨a,vs,e1,k a _ e2 (fun _=>.inl ⟨_,rfl⟩) trivial,Or.keepL k s xs vs F f e3⟩
 | .lst xs,v,F,f,e=>by
  obtain⟨a,vs,G,e1,rfl,e2,e3⟩:=e
  exact⟨a,vs,G,e1,rfl,by rw [f a List.mem_cons_self]; exact e2,Or.keepL k s xs vs G (fun b hb=>f b (List.mem_cons_of_mem _ hb)) e3⟩
 | .dic ks xs,v,F,f,e=>by
  obtain⟨a,vs,G,e1,rfl,e2,e3⟩:=e
  refine⟨a,vs,G,e1,rfl,?_,Or.keepL k s xs vs G (fun b hb=>f b (List.mem_cons_of_mem _ hb)) e3⟩
  rw [f a List.mem_cons_self]
  exact e2
 | .obj C ns xs,v,F,f,e=>by
  obtain⟨a,dx,vs,G,e1,rfl,e2,e3,e4⟩:=e
  exact⟨a,dx,vs,G,e1,rfl,by rw [f a List.mem_cons_self]; exact e2,e3,Or.keepL k s xs vs G (fun b hb=>f b (List.mem_cons_of_mem _ hb)) e4⟩
theorem Or.keepL (k:fP own h h') (s:∀ a,own' a→own a∨h a=none):∀ (xs:List O) (vs:List V) (F:List Addr),(∀ a∈F,h' a=h a)→AO T own h xs vs F→AO T own' h' xs vs F
 | [],vs,F,_,e=>e
 | x::xs,vs,F,f,e=>by
  obtain⟨v,r,F1,F2,e1,rfl,e2,e3⟩:=e
  exact⟨v,r,F1,F2,e1,rfl,Or.keep k s x v F1 (fun b hb=>f b (List.mem_append_left _ hb)) e2,Or.keepL k s xs r F2 (fun b hb=>f b (List.mem_append_right _ hb)) e3⟩
end
mutual
theorem Or.freeze (hn:∀ a,own' a→own a∨h a=none):∀ (x:O) (v:V) (F:List Addr),(∀ a∈F,¬ own' a)→Or T own h x v F→Dr T own' h x.frz v
 | .d x,v,F,_,e=>Dr.keep fP.refl hn x v e.2
 | .tup xs,v,F,f,e=>by
  obtain⟨a,vs,e1,e2,e3⟩:=e
  exact⟨a,vs,e1,.inl e2,Or.freezeL hn xs vs F f e3⟩
 | .lst xs,v,F,f,e=>by
  obtain⟨a,vs,G,e1,rfl,e2,e3⟩:=e
  exact⟨a,vs,e1,.inl ⟨f a List.mem_cons_self,.inl e2⟩,Or.freezeL hn xs vs G (fun b hb=>f b (List.mem_cons_of_mem _ hb)) e3⟩
 | .dic ks xs,v,F,f,e=>by
  obtain⟨a,vs,G,e1,rfl,e2,e3⟩:=e
  exact⟨a,vs,e1,f a List.mem_cons_self,e2,Or.freezeL hn xs vs G (fun b hb=>f b (List.mem_cons_of_mem _ hb)) e3⟩
 | .obj C ns xs,v,F,f,e=>by
  obtain⟨a,dx,vs,G,e1,rfl,e2,e3,e4⟩:=e
  exact⟨a,dx,vs,e1,f a List.mem_cons_self,e2,e3,Or.freezeL hn xs vs G (fun b hb=>f b (List.mem_cons_of_mem _ hb)) e4⟩
theorem Or.freezeL (hn:∀ a,own' a→own a∨h a=none):∀ (xs:List O) (vs:List V) (F:List Addr),(∀ a∈F,¬ own' a)→AO T own h xs vs F→jB T own' h (O.frzL xs) vs
 | [],vs,F,_,e=>e.1
 | x::xs,vs,F,f,e=>by
  obtain⟨v,r,F1,F2,e1,rfl,e2,e3⟩:=e
  exact⟨v,r,e1,Or.freeze hn x v F1 (fun b hb=>f b (List.mem_append_left _ hb)) e2,Or.freezeL hn xs r F2 (fun b hb=>f b (List.mem_append_right _ hb)) e3⟩
end
theorem Or.read (x:O) (v:V) (F:List Addr) (e:Or T own h x v F):Dr T (fun _=>False) h x.frz v:=Or.freeze (fun _ z=>z.elim) x v F (fun _ _ z=>z) e
end
abbrev bf:=O×V
section
variable (T:Tab) (own:Addr→Prop) (h:Hp)
def aP:List bf→List Addr→Prop
 | [],F=>F = []
 | p::r,F=>∃ F1 F2,F=F1++F2∧Or T own h p.1 p.2 F1∧aP r F2
end
section
variable {T:Tab}{own own':Addr→Prop}{h h':Hp}
theorem aP.keep (k:fP own h h') (s:∀ a,own' a→own a∨h a=none):∀ (l:List bf) (F:List Addr),(∀ a∈F,h' a=h a)→aP T own h l F→aP T own' h' l F
 | [],F,_,e=>e
 | p::r,F,f,e=>by
  obtain⟨F1,F2,rfl,e1,e2⟩:=e
  exact⟨F1,F2,rfl,Or.keep k s p.1 p.2 F1 (fun b hb=>f b (List.mem_append_left _ hb)) e1,aP.keep k s r F2 (fun b hb=>f b (List.mem_append_right _ hb)) e2⟩
theorem aP.append:∀ {l m:List bf}{F G:List Addr},aP T own h l F→aP T own h m G→aP T own h (l++m) (F++G)
 | [],m,F,G,e,e'=>by
  have e:F = []:=e
  subst e
  exact e'
 | p::r,m,F,G,e,e'=>by
  obtain⟨F1,F2,rfl,e1,e2⟩:=e
  exact⟨F1,F2++G,by rw [List.append_assoc],e1,aP.append e2 e'⟩
theorem aP.split:∀ {l m:List bf}{F:List Addr},aP T own h (l++m) F→∃ F1 F2,F=F1++F2∧aP T own h l F1∧aP T own h m F2
 | [],m,F,e=>⟨[],F,rfl,rfl,e⟩
 | p::r,m,F,e=>by
  obtain⟨F1,F2,rfl,e1,e2⟩:=e
  obtain⟨G1,G2,rfl,e3,e4⟩:=aP.split e2
  exact⟨F1++G1,G2,by rw [List.append_assoc],⟨F1,G1,rfl,e1,e3⟩,e4⟩
theorem aP.perm {l m:List bf} (p:l.Perm m):∀ {F:List Addr},aP T own h l F→∃ G,aP T own h m G∧F.Perm G:=by
 induction p with
 | nil=>intro F e; exact⟨F,e,.refl _⟩
 | cons x _ ih =>
  intro F e
  obtain⟨F1,F2,rfl,e1,e2⟩:=e
  obtain⟨G,e3,q⟩:=ih e2
  exact⟨F1++G,⟨F1,G,rfl,e1,e3⟩,q.append_left F1⟩
 | swap x y l =>
  intro F e
  obtain⟨F1,F2,rfl,e1,F3,F4,rfl,e2,e3⟩:=e
  refine⟨F3++(F1++F4),⟨F3,F1++F4,rfl,e2,F1,F4,rfl,e1,e3⟩,?_⟩
  rw [← List.append_assoc,← List.append_assoc]
  exact List.perm_append_comm.append_right F4
 | trans _ _ ih1 ih2 =>
  intro F e
  obtain⟨G,e1,q1⟩:=ih1 e
  obtain⟨G',e2,q2⟩:=ih2 e1
  exact⟨G',e2,q1.trans q2⟩
theorem aP.ofL:∀ {xs:List O}{vs:List V}{F:List Addr},AO T own h xs vs F→aP T own h (xs.zip vs) F∧xs.length=vs.length
 | [],vs,F,e=>by
  obtain⟨rfl,rfl⟩:=e
  exact⟨rfl,rfl⟩
 | x::xs,vs,F,e=>by
  obtain⟨v,r,F1,F2,rfl,rfl,e1,e2⟩:=e
  obtain⟨q1,q2⟩:=aP.ofL e2
  exact⟨⟨F1,F2,rfl,e1,q1⟩,by simp [q2]⟩
theorem aP.toL:∀ {xs:List O}{vs:List V}{F:List Addr},xs.length=vs.length→aP T own h (xs.zip vs) F→AO T own h xs vs F
 | [],[],F,_,e=>⟨rfl,e⟩
 | [],_::_,F,l,e=>by simp at l
 | _::_,[],F,l,e=>by simp at l
 | x::xs,v::vs,F,l,e=>by
  obtain⟨F1,F2,rfl,e1,e2⟩:=e
  exact⟨v,vs,F1,F2,rfl,rfl,e1,aP.toL (by simpa using l) e2⟩
end
structure Base where
 G:Addr→Prop
 Z:Addr→Prop
 H0:Hp
 IO:Addr→Prop
 pr:List (Nat×V):=[]
 zo:Addr→PySem.Obj:=fun _=>default
end PV
namespace PV
open PySem L2
theorem cF {Z:Addr→Prop}{H:Hp}{a:Addr}:vw Z H a=none↔H a=none:=by
 unfold vw
 split
 ·rename_i o u e
  constructor
  ·intro q
   split at q <;> cases q
  ·intro q; rw [e]at q; cases q
 ·exact Iff.rfl
theorem bx {Z:Addr→Prop}{H:Hp}{a:Addr} (h:¬ Z a):vw Z H a=H a:=by
 unfold vw
 split
 ·rename_i o u e
  rw [if_neg h,e]
 ·rfl
theorem i8 {Z:Addr→Prop}{H:Hp}{a:Addr}{u:HO} (e:vw Z H a=some u):H a=some u∨(Z a∧∃ o,H a=some (.frz o u)):=by
 unfold vw at e
 split at e
 ·rename_i o u' e'
  split at e
  ·rename_i hz
   cases e
   exact .inr ⟨hz,o,e'⟩
  ·exact .inl (by rw [e']; exact e)
 ·exact .inl e
theorem uP {Z:Addr→Prop}{H:Hp}{p:Addr}{o:HO} (h:¬ Z p):vw Z (upd H p o)=upd (vw Z H) p o:=by
 funext a
 by_cases e:a=p
 ·subst e
  rw [bx h,upd_same,upd_same]
 ·rw [upd_ne e]
  unfold vw
  rw [upd_ne e]
def LD (u:HO):Prop:=match u with
 | .lst _=>True
 | .dK _=>True
 | .dT _=>True
 | _=>False
structure ae (T:Tab) (B:Base) (H:Hp) (hs:List Addr) (l:List bf):Prop where
 lk:∀ a,B.Z a→∃ u,H a=some (.frz (B.zo a) u)∧LD u
 old:∀ a o,B.H0 a=some o→¬ B.IO a→(∀ q,(a,q)∉T.tabs)→vw B.Z H a=some o
 oth:∀ a,B.G a→¬ B.IO a∧B.H0 a≠none∧∀ fs,B.H0 a≠some (.xd fs)
 io:∀ a,B.IO a→H a≠none
 tb:∀ p∈T.tabs,B.H0 p.1≠none∧¬ B.IO p.1∧LamX.TabS H p.1 p.2
 reps:∃ F:List Addr,aP T (fun a=>B.G a∨a∈hs++F) (vw B.Z H) l F∧(hs++F).Nodup∧∀ a∈hs++F,¬ B.G a∧(B.IO a∨B.H0 a=none)∧¬ B.Z a∧H a≠none
abbrev Sat (T:Tab) (B:Base) (H:Hp) (l:List bf):Prop:=ae T B H [] l
theorem wm {H:Hp}{P p:Addr}{q:Str}{ob:HO} (t:LamX.TabS H P q) (hP:p≠P) (k:∀ g,H p≠some (.ext g)):LamX.TabS (upd H p ob) P q:=by
 obtain⟨ps,h1,h2,h3⟩:=t
 refine⟨ps,by rw [upd_ne (Ne.symm hP)]; exact h1,h2,fun pos cv hc=>?_⟩
 obtain⟨c,e1,e2⟩:=h3 pos cv hc
 refine⟨c,e1,?_⟩
 rw [upd_ne fun z=>?_]
 ·exact e2
 ·rw [z]at e2
  exact k _ e2
theorem qL {H H':Hp}{P d:Addr}{q:Str} (t:LamX.TabS H P q) (ho:∀ a,a≠d→H' a=H a) (k1:∀ ps,H d≠some (.tbl ps)) (k:∀ g,H d≠some (.ext g)):LamX.TabS H' P q:=by
 obtain⟨ps,h1,h2,h3⟩:=t
 refine⟨ps,by rw [ho P fun z=>k1 ps (by rw [← z]; exact h1)]; exact h1,h2,fun pos cv hc=>?_⟩
 obtain⟨c,e1,e2⟩:=h3 pos cv hc
 refine⟨c,e1,?_⟩
 rw [ho c fun z=>?_]
 ·exact e2
 ·rw [z]at e2
  exact k _ e2
theorem AY {Z:Addr→Prop}{H:Hp}{a:Addr}{ps:Array PySem.Value} (e:H a=some (.tbl ps)):vw Z H a=some (.tbl ps):=by
 unfold vw
 rw [e]
theorem AZ {own:Addr→Prop}{h:Hp}{p:Addr}{o:HO} (n:h p=none):fP own h (upd h p o):=fun a u e _ _=>by
 rw [upd_ne (ne_of_none e n)]
 exact e
theorem z4 {own:Addr→Prop}{h:Hp}{p:Addr}{o:HO} (n:own p) (t:∀ xs,h p≠some (.tup xs)) (f:∀ ob u,h p≠some (.frz ob u)):fP own h (upd h p o):=fun a u e k _=>by
 rw [upd_ne]
 ·exact e
 ·rintro rfl
  rcases k n with⟨xs,z⟩ | ⟨ob,u',z⟩
  ·exact t xs (z ▸ e)
  ·exact f ob u' (z ▸ e)
section
variable {T:Tab}{B:Base}{H H':Hp}{hs:List Addr}{l m:List bf}{o:O}{v:V}{x:D}{a p:Addr}
theorem ae.perm (s:ae T B H hs l) (q:l.Perm m):ae T B H hs m:=by
 obtain⟨F,r,nd,c⟩:=s.reps
 obtain⟨G,r',qq⟩:=r.perm q
 have pm:(hs++F).Perm (hs++G):=qq.append_left hs
 refine⟨s.lk,s.old,s.oth,s.io,s.tb,G,?_,pm.nodup_iff.mp nd,fun a ha=>c a (pm.mem_iff.mpr ha)⟩
 exact aP.keep fP.refl (fun a z=>.inl (z.imp id fun z=>pm.mem_iff.mpr z)) m G (fun _ _=>rfl) r'
theorem ae.drop1 (s:ae T B H hs ((o,v)::l)):ae T B H hs l:=by
 obtain⟨F,⟨F1,F2,rfl,r1,r2⟩,nd,c⟩:=s.reps
 have sub:∀ a,a∈hs++F2→a∈hs++(F1++F2):=fun a ha=>by
  rcases List.mem_append.mp ha with z | z
  ·exact List.mem_append_left _ z
  ·exact List.mem_append_right _ (List.mem_append_right _ z)
 refine⟨s.lk,s.old,s.oth,s.io,s.tb,F2,aP.keep fP.refl (fun a z=>.inl (z.imp id (sub a))) l F2 (fun _ _=>rfl) r2,?_,fun a ha=>c a (sub a ha)⟩
 exact nd.sublist (List.Sublist.append_left (List.sublist_append_right F1 F2) hs)
theorem ae.dropL (s:ae T B H hs (m++l)):ae T B H hs l:=by
 induction m with
 | nil=>exact s
 | cons p r ih=>exact ih (ae.drop1 (o:=p.1) (v:=p.2) s)
theorem ae.freeze (s:ae T B H hs ((o,v)::l)):ae T B H hs ((.d o.frz,v)::l):=by
 obtain⟨F,⟨F1,F2,rfl,r1,r2⟩,nd,c⟩:=s.reps
 have sub:∀ a,a∈hs++F2→a∈hs++(F1++F2):=fun a ha=>by
  rcases List.mem_append.mp ha with z | z
  ·exact List.mem_append_left _ z
  ·exact List.mem_append_right _ (List.mem_append_right _ z)
 have sm:∀ a,(B.G a∨a∈hs++F2)→(B.G a∨a∈hs++(F1++F2))∨vw B.Z H a=none:=fun a z=>.inl (z.imp id (sub a))
 refine⟨s.lk,s.old,s.oth,s.io,s.tb,F2,⟨[],F2,rfl,⟨rfl,?_⟩,aP.keep fP.refl sm l F2 (fun _ _=>rfl) r2⟩,?_,fun a ha=>c a (sub a ha)⟩
 ·refine Or.freeze sm o v F1 (fun a ha z=>?_) r1
  rcases z with z | z
  ·exact(c a (List.mem_append_right _ (List.mem_append_left _ ha))).1 z
  ·have nd':(F1++(hs++F2)).Nodup:=by
    refine(List.Perm.nodup_iff ?_).mp nd
    rw [← List.append_assoc,← List.append_assoc]
    exact List.perm_append_comm.append_right F2
   exact(List.nodup_append.mp nd').2.2 a ha a z rfl
 ·exact nd.sublist (List.Sublist.append_left (List.sublist_append_right F1 F2) hs)
theorem ae.dup (s:ae T B H hs ((.d x,v)::l)):ae T B H hs ((.d x,v)::(.d x,v)::l):=by
 obtain⟨F,⟨F1,F2,rfl,r1,r2⟩,nd,c⟩:=s.reps
 obtain⟨e,r1⟩:=r1
 have e:F1 = []:=e
 subst e
 exact⟨s.lk,s.old,s.oth,s.io,s.tb,F2,⟨[],F2,rfl,⟨rfl,r1⟩,[],F2,rfl,⟨rfl,r1⟩,r2⟩,nd,c⟩
theorem ae.lit (s:ae T B H hs l) (h:∀ own h,Dr T own h x v):ae T B H hs ((.d x,v)::l):=by
 obtain⟨F,r,nd,c⟩:=s.reps
 exact⟨s.lk,s.old,s.oth,s.io,s.tb,F,⟨[],F,rfl,⟨rfl,h _ _⟩,r⟩,nd,c⟩
theorem ae.read (s:ae T B H hs ((o,v)::l)):Dr T (fun _=>False) (vw B.Z H) o.frz v:=by
 obtain⟨F,⟨F1,F2,rfl,r1,r2⟩,nd,c⟩:=s.reps
 exact Or.read o v F1 r1
theorem ae.tn (s:ae T B H hs l) (h:B.IO a∨B.H0 a=none):∀ q,(a,q)∉T.tabs:=fun q hq=>by
 obtain⟨h1,h2,_⟩:=s.tb _ hq
 exact h.elim h2 h1
theorem ae.tt (s:ae T B H hs l) {q:Str} (h:(a,q)∈T.tabs):∃ ps,H a=some (.tbl ps):=by
 obtain⟨_,_,ps,h1,_⟩:=s.tb _ h
 exact⟨ps,h1⟩
theorem ae.tx (s:ae T B H hs l) {u:HO} (h:vw B.Z H a=some u) (nt:Ks u):∀ q,(a,q)∉T.tabs:=fun q hq=>by
 obtain⟨ps,h1⟩:=s.tt hq
 rw [AY h1]at h
 cases h
 exact nt
theorem ae.t0 (s:ae T B H hs l) (h:H a=none):∀ q,(a,q)∉T.tabs:=fun q hq=>by
 obtain⟨ps,h1⟩:=s.tt hq
 rw [h]at h1
 cases h1
theorem ae.notG (s:ae T B H hs l) (n:H p=none):¬ B.G p:=fun z=>by
 obtain⟨h1,h2,_⟩:=s.oth p z
 cases e:B.H0 p with
 | none=>exact h2 e
 | some o =>
  have:=s.old p o e h1 (s.t0 n)
  rw [cF.mpr n]at this
  cases this
theorem ae.notZ (s:ae T B H hs l) (n:H p=none):¬ B.Z p:=fun z=>by
 obtain⟨u,e,_⟩:=s.lk p z
 rw [n]at e
 cases e
theorem ae.new0 (s:ae T B H hs l) (n:H p=none):B.H0 p=none:=by
 cases e:B.H0 p with
 | none=>rfl
 | some o =>
  have:=s.old p o e (fun z=>s.io p z n) (s.t0 n)
  rw [cF.mpr n]at this
  cases this
theorem ae.alloc (s:ae T B H hs l) {ob:HO} (n:H p=none):ae T B (upd H p ob) (p::hs) l:=by
 obtain⟨F,r,nd,c⟩:=s.reps
 have np:p∉hs++F:=fun z=>(c p z).2.2.2 n
 have nz:=s.notZ n
 refine⟨fun a ha=>?_,fun a o e hi nt=>?_,s.oth,fun a ha=>?_,fun p' hp'=>?_,F,?_,List.nodup_cons.mpr ⟨np,nd⟩,fun a ha=>?_⟩
 ·obtain⟨u,e,mu⟩:=s.lk a ha
  exact⟨u,by rw [upd_ne (ne_of_none e n)]; exact e,mu⟩
 ·rw [uP nz,upd_ne]
  ·exact s.old a o e hi nt
  ·rintro rfl
   have:=s.old a o e hi nt
   rw [cF.mpr n]at this
   cases this
 ·by_cases e:a=p
  ·subst e; rw [upd_same]; simp
  ·rw [upd_ne e]; exact s.io a ha
 ·obtain⟨t1,t2,t3⟩:=s.tb p' hp'
  exact⟨t1,t2,wm t3 (fun z=>s.t0 n _ (by rw [z]; exact hp')) fun g=>by rw [n]; simp⟩
 ·rw [uP nz]
  refine aP.keep (AZ (cF.mpr n)) (fun a z=>?_) l F (fun a ha=>upd_ne fun e=>np (e ▸ List.mem_append_right _ ha)) r
  rcases z with z | z
  ·exact .inl (.inl z)
  ·rcases List.mem_cons.mp z with e | z
   ·exact .inr (e ▸ cF.mpr n)
   ·exact .inl (.inr z)
 ·rcases List.mem_cons.mp ha with e | ha
  ·subst e
   exact⟨s.notG n,.inr (s.new0 n),nz,by rw [upd_same]; simp⟩
  ·obtain⟨c1,c2,c3,c4⟩:=c a ha
   exact⟨c1,c2,c3,by rw [upd_ne (show a≠p from fun e=>c4 (by rw [e]; exact n))]; exact c4⟩
theorem ae.write (s:ae T B H (p::hs) l) {ob:HO} (t:∀ xs,H p≠some (.tup xs)) (f:∀ o u,H p≠some (.frz o u)) (k:∀ g,H p≠some (.ext g)):ae T B (upd H p ob) (p::hs) l:=by
 obtain⟨F,r,nd,c⟩:=s.reps
 obtain⟨c1,c2,nz,c4⟩:=c p (List.mem_cons_self)
 have np:p∉hs++F:=(List.nodup_cons.mp nd).1
 refine⟨fun a ha=>?_,fun a o e hi nt=>?_,s.oth,fun a ha=>?_,fun p' hp'=>?_,F,?_,nd,fun a ha=>?_⟩
 ·obtain⟨u,e,mu⟩:=s.lk a ha
  exact⟨u,by rw [upd_ne (show a≠p from fun z=>nz (by rw [← z]; exact ha))]; exact e,mu⟩
 ·rw [uP nz,upd_ne]
  ·exact s.old a o e hi nt
  ·rintro rfl
   rcases c2 with z | z
   ·exact hi z
   ·rw [z]at e; cases e
 ·by_cases e:a=p
  ·subst e; rw [upd_same]; simp
  ·rw [upd_ne e]; exact s.io a ha
 ·obtain⟨t1,t2,t3⟩:=s.tb p' hp'
  exact⟨t1,t2,wm t3 (fun z=>s.tn c2 _ (by rw [z]; exact hp')) k⟩
 ·rw [uP nz]
  exact aP.keep (z4 (.inr List.mem_cons_self) (by rw [bx nz]; exact t) (by rw [bx nz]; exact f)) (fun a z=>.inl z) l F (fun a ha=>upd_ne fun e=>np (e ▸ List.mem_append_right _ ha)) r
 ·by_cases e:a=p
  ·subst e
   exact⟨c1,c2,nz,by rw [upd_same]; simp⟩
  ·obtain⟨d1,d2,d3,d4⟩:=c a ha
   exact⟨d1,d2,d3,by rw [upd_ne e]; exact d4⟩
theorem ae.letgo (s:ae T B H (p::hs) l):ae T B H hs l:=by
 obtain⟨F,r,nd,c⟩:=s.reps
 exact⟨s.lk,s.old,s.oth,s.io,s.tb,F,aP.keep fP.refl (fun a z=>.inl (z.imp id fun z=>List.mem_cons_of_mem _ z)) l F (fun _ _=>rfl) r,(List.nodup_cons.mp nd).2,fun a ha=>c a (List.mem_cons_of_mem _ ha)⟩
theorem ae.openL {os:List O} (s:ae T B H hs ((.lst os,v)::l)):∃ a vs,v = .ref a∧H a=some (.lst vs)∧os.length=vs.length∧ae T B H (a::hs) (os.zip vs++l):=by
 obtain⟨F,⟨F1,F2,rfl,r1,r2⟩,nd,c⟩:=s.reps
 obtain⟨a,vs,G,e1,rfl,e2,e3⟩:=r1
 obtain⟨e4,el⟩:=aP.ofL e3
 have pm:(hs++(a::G++F2)).Perm (a::hs++(G++F2)):=by
  have:(hs++(a::(G++F2))).Perm (a::(hs++(G++F2))):=List.perm_middle
  simpa using this
 have nz:¬ B.Z a:=(c a (pm.mem_iff.mpr List.mem_cons_self)).2.2.1
 refine⟨a,vs,e1,(bx nz).symm.trans e2,el,s.lk,s.old,s.oth,s.io,s.tb,G++F2,?_,pm.nodup_iff.mp nd,fun b hb=>c b (pm.mem_iff.mpr hb)⟩
 exact aP.keep fP.refl (fun b z=>.inl (z.imp id fun z=>pm.mem_iff.mpr z)) _ _ (fun _ _=>rfl) (aP.append e4 r2)
theorem ae.closeL {os:List O}{vs:List V} (s:ae T B H (a::hs) (os.zip vs++l)) (e:H a=some (.lst vs)) (hl:os.length=vs.length):ae T B H hs ((.lst os,.ref a)::l):=by
 obtain⟨F,r,nd,c⟩:=s.reps
 obtain⟨G,F2,rfl,r1,r2⟩:=aP.split r
 have pm:(hs++(a::G++F2)).Perm (a::hs++(G++F2)):=by
  have:(hs++(a::(G++F2))).Perm (a::(hs++(G++F2))):=List.perm_middle
  simpa using this
 have nz:¬ B.Z a:=(c a List.mem_cons_self).2.2.1
 have k:∀ b,(B.G b∨b∈hs++(a::G++F2))→(B.G b∨b∈a::hs++(G++F2))∨vw B.Z H b=none:=fun b z=>.inl (z.imp id fun z=>pm.mem_iff.mp z)
 refine⟨s.lk,s.old,s.oth,s.io,s.tb,a::G++F2,⟨a::G,F2,rfl,⟨a,vs,G,rfl,rfl,by rw [bx nz]; exact e,?_⟩,aP.keep fP.refl k _ _ (fun _ _=>rfl) r2⟩,pm.nodup_iff.mpr nd,fun b hb=>c b (pm.mem_iff.mp hb)⟩
 exact Or.keepL fP.refl k _ _ _ (fun _ _=>rfl) (aP.toL hl r1)
theorem qM (s:ae T B H hs l) {u:HO} (nf:∀ o w,u≠.frz o w) (e:Rd (vw B.Z H) a u):Rd H a u:=by
 rcases e with e | ⟨o,e⟩
 ·rcases i8 e with e | ⟨_,o,e⟩
  ·exact .inl e
  ·exact .inr ⟨o,e⟩
 ·rcases i8 e with e | ⟨z,o',e⟩
  ·exact .inr ⟨o,e⟩
  ·obtain⟨u2,e2,mu⟩:=s.lk a z
   rw [e]at e2
   cases e2
   exact mu.elim
theorem xR (s:ae T B H hs l) {vs:List V} (e:vw B.Z H a=some (.tup vs)):H a=some (.tup vs):=by
 rcases i8 e with e | ⟨z,o,e⟩
 ·exact e
 ·obtain⟨u2,e2,mu⟩:=s.lk a z
  rw [e]at e2
  cases e2
  exact mu.elim
theorem wo (s:ae T B H hs l) {n:Nat}{vs:List V} (e:TupAt T.K (vw B.Z H) n a vs):TupAt T.K H n a vs:=e.imp (xR s) id
theorem xS (s:ae T B H hs l) {n:Nat}{vs:List V} (e:TupAt T.K (vw B.Z H) n a vs):SqT T.K H a vs:=(wo s e).sq
theorem jB.len {own:Addr→Prop}{h:Hp}:∀ {xs:List D}{vs:List V},jB T own h xs vs→xs.length=vs.length
 | [],vs,e=>by
  have e:vs = []:=e
  subst e; rfl
 | x::xs,vs,e=>by
  obtain⟨v,r,rfl,_,e⟩:=e
  simp [jB.len e]
theorem jB.reps {own:Addr→Prop}{h:Hp}:∀ {xs:List D}{vs:List V},jB T own h xs vs→aP T own h ((xs.map O.d).zip vs) []
 | [],vs,e=>by
  have e:vs = []:=e
  subst e; rfl
 | x::xs,vs,e=>by
  obtain⟨v,r,rfl,e1,e2⟩:=e
  exact⟨[],[],rfl,⟨rfl,e1⟩,jB.reps e2⟩
theorem ae.more (s:ae T B H hs l) {xs:List D}{vs:List V} (h:∀ F:List Addr,(∀ a∈hs++F,H a≠none)→aP T (fun a=>B.G a∨a∈hs++F) (vw B.Z H) l F→jB T (fun a=>B.G a∨a∈hs++F) (vw B.Z H) xs vs):ae T B H hs ((xs.map O.d).zip vs++l):=by
 obtain⟨F,r,nd,c⟩:=s.reps
 exact⟨s.lk,s.old,s.oth,s.io,s.tb,F,by simpa using aP.append (jB.reps (h F (fun a ha=>(c a ha).2.2.2) r)) r,nd,c⟩
theorem ae.lstKids {xs:List D} (s:ae T B H hs ((.d (.lst xs),v)::l)):∃ a vs,v = .ref a∧SqL T.K H a vs∧xs.length=vs.length∧ae T B H hs ((xs.map O.d).zip vs++(.d (.lst xs),v)::l):=by
 obtain⟨F,⟨F1,F2,rfl,r1,r2⟩,nd,c⟩:=id s.reps
 obtain⟨e,a,vs,e1,e2,e3⟩:=r1
 have e:F1 = []:=e
 subst e
 refine⟨a,vs,e1,?_,e3.len,s.lk,s.old,s.oth,s.io,s.tb,F2,?_,nd,c⟩
 ·rcases e2 with⟨_,e2⟩ | e2
  ·exact .inl (qM s (fun _ _ z=>nomatch z) e2)
  ·exact .inr e2
 ·exact aP.append (F:=[]) (jB.reps e3) ⟨[],F2,rfl,⟨rfl,a,vs,e1,e2,e3⟩,r2⟩
theorem ae.tupKids {xs:List D} (s:ae T B H hs ((.d (.tup xs),v)::l)):∃ a vs,v = .ref a∧SqT T.K H a vs∧xs.length=vs.length∧ae T B H hs ((xs.map O.d).zip vs++(.d (.tup xs),v)::l):=by
 obtain⟨F,⟨F1,F2,rfl,r1,r2⟩,nd,c⟩:=id s.reps
 obtain⟨e,a,vs,e1,e2,e3⟩:=r1
 have e:F1 = []:=e
 subst e
 exact⟨a,vs,e1,xS s e2,e3.len,s.lk,s.old,s.oth,s.io,s.tb,F2,aP.append (F:=[]) (jB.reps e3) ⟨[],F2,rfl,⟨rfl,a,vs,e1,e2,e3⟩,r2⟩,nd,c⟩
theorem ae.openT {os:List O} (s:ae T B H hs ((.tup os,v)::l)):∃ a vs,v = .ref a∧H a=some (.tup vs)∧os.length=vs.length∧ae T B H hs (os.zip vs++l):=by
 obtain⟨F,⟨F1,F2,rfl,r1,r2⟩,nd,c⟩:=s.reps
 obtain⟨a,vs,e1,e2,e3⟩:=r1
 obtain⟨e4,el⟩:=aP.ofL e3
 exact⟨a,vs,e1,xR s e2,el,s.lk,s.old,s.oth,s.io,s.tb,F1++F2,aP.append e4 r2,nd,c⟩
theorem ae.closeT {os:List O}{vs:List V} (s:ae T B H hs (os.zip vs++l)) (e:H a=some (.tup vs)) (hl:os.length=vs.length):ae T B H hs ((.tup os,.ref a)::l):=by
 obtain⟨F,r,nd,c⟩:=s.reps
 obtain⟨G,F2,rfl,r1,r2⟩:=aP.split r
 have e':vw B.Z H a=some (.tup vs):=by
  rw [bx]
  ·exact e
  ·intro z
   obtain⟨u2,e2,mu⟩:=s.lk a z
   rw [e]at e2
   cases e2
 exact⟨s.lk,s.old,s.oth,s.io,s.tb,G++F2,⟨G,F2,rfl,⟨a,vs,rfl,e',aP.toL hl r1⟩,r2⟩,nd,c⟩
theorem A0 {own:Addr→Prop}{h:Hp}:∀ {xs:List D}{vs:List V}{F:List Addr},xs.length=vs.length→aP T own h ((xs.map O.d).zip vs) F→F = []∧jB T own h xs vs
 | [],[],F,_,e=>⟨e,rfl⟩
 | [],_::_,F,hl,e=>by simp at hl
 | _::_,[],F,hl,e=>by simp at hl
 | x::xs,v::vs,F,hl,e=>by
  obtain⟨F1,F2,rfl,⟨q1,e1⟩,e2⟩:=e
  have q1:F1 = []:=q1
  subst q1
  obtain⟨rfl,e3⟩:=A0 (by simpa using hl) e2
  exact⟨rfl,v,vs,rfl,e1,e3⟩
theorem ae.closeTd {xs:List D}{vs:List V} (s:ae T B H hs ((xs.map O.d).zip vs++l)) (e:H a=some (.tup vs)) (hl:xs.length=vs.length):ae T B H hs ((.d (.tup xs),.ref a)::l):=by
 have s':=(s.closeT e (by simpa using hl)).freeze
 have q:(O.tup (xs.map O.d)).frz = .tup xs:=by
  rw [O.frz,bM,List.map_map]
  congr 1
  exact List.map_id xs
 rw [q]at s'
 exact s'
theorem Or.mut {own:Addr→Prop}{h:Hp}:∀ (x:O) (v:V) (F:List Addr),Or T own h x v F→∀ a∈F,∃ o,h a=some o∧Mut (some o)∧∀ φ,o≠.ext φ:=by
 intro x
 apply O.rec (motive_1:=fun x=>∀ (v:V) (F:List Addr),Or T own h x v F→∀ a∈F,∃ o,h a=some o∧Mut (some o)∧∀ φ,o≠.ext φ) (motive_2:=fun xs=>∀ (vs:List V) (F:List Addr),AO T own h xs vs F→∀ a∈F,∃ o,h a=some o∧Mut (some o)∧∀ φ,o≠.ext φ)
 ·intro x v F e a ha
  obtain⟨e,_⟩:=e
  have e:F = []:=e
  subst e; cases ha
 ·intro xs ih v F e
  obtain⟨a,vs,_,_,e⟩:=e
  exact ih vs F e
 ·intro xs ih v F e b hb
  obtain⟨a,vs,G,_,rfl,e1,e⟩:=e
  rcases List.mem_cons.mp hb with rfl | hb
  ·exact⟨_,e1,trivial,fun _ z=>nomatch z⟩
  ·exact ih vs G e b hb
 ·intro ks xs ih v F e b hb
  obtain⟨a,vs,G,_,rfl,e1,e⟩:=e
  rcases List.mem_cons.mp hb with rfl | hb
  ·rcases e1 with⟨js,_,e1,_⟩ | ⟨js,_,e1,_⟩
   ·exact⟨_,e1,trivial,fun _ z=>nomatch z⟩
   ·exact⟨_,e1,trivial,fun _ z=>nomatch z⟩
  ·exact ih vs G e b hb
 ·intro C ns xs ih v F e b hb
  obtain⟨a,dx,vs,G,_,rfl,e1,_,e⟩:=e
  rcases List.mem_cons.mp hb with rfl | hb
  ·exact⟨_,e1,trivial,fun _ z=>nomatch z⟩
  ·exact ih vs G e b hb
 ·intro vs F e a ha
  obtain⟨_,e⟩:=e
  subst e; cases ha
 ·intro x xs ih1 ih2 vs F e a ha
  obtain⟨v,r,F1,F2,rfl,rfl,e1,e2⟩:=e
  rcases List.mem_append.mp ha with ha | ha
  ·exact ih1 v F1 e1 a ha
  ·exact ih2 r F2 e2 a ha
theorem aP.mut {own:Addr→Prop}{h:Hp}:∀ {l:List bf}{F:List Addr},aP T own h l F→∀ a∈F,∃ o,h a=some o∧Mut (some o)∧∀ φ,o≠.ext φ
 | [],F,e,a,ha=>by
  have e:F = []:=e
  subst e; cases ha
 | p::r,F,e,a,ha=>by
  obtain⟨F1,F2,rfl,e1,e2⟩:=e
  rcases List.mem_append.mp ha with ha | ha
  ·exact Or.mut _ _ _ e1 a ha
  ·exact aP.mut e2 a ha
theorem Mm {p:Addr×Str}{Q:Addr→Prop} (s:ae T B H hs l) (hp:p∈T.tabs) (h:Q p.1→B.IO p.1∨B.H0 p.1=none):vw B.Z H p.1≠none∧¬ Q p.1∧LamX.TabS H p.1 p.2:=by
 obtain⟨t1,t2,t3⟩:=s.tb p hp
 refine⟨?_,fun z=>(h z).elim t2 t1,t3⟩
 obtain⟨ps,e,_⟩:=t3
 rw [AY e]
 simp
theorem Sat.callT {args:List bf} (s:Sat T B H (args++l)):∃ (B':Base) (Fl:List Addr) (own:Addr→Prop),B'.Z=B.Z∧B'.pr=B.pr∧T.tabs=T.tabs∧aP T own (vw B.Z H) l Fl∧Sat T B' H args∧∀ H' res,Sat T B' H' res→Sat T B H' (res++l)∧(∀ a∈Fl,vw B.Z H' a=vw B.Z H a)∧∀ a xs,vw B.Z H a=some (.tup xs)→vw B.Z H' a=some (.tup xs):=by
 obtain⟨F,r,nd,c⟩:=s.reps
 obtain⟨Fa,Fl,rfl,ra,rl⟩:=aP.split r
 simp only [List.nil_append]at nd c r ra rl
 have ndl:=List.nodup_append.mp nd
 refine⟨⟨fun a=>B.G a∨a∈Fl,B.Z,vw B.Z H,fun a=>a∈Fa,B.pr,B.zo⟩,Fl,_,rfl,rfl,rfl,rl,⟨s.lk,fun a o e _ _=>e,fun a ha=>?_,fun a ha=>(c a (List.mem_append_left _ ha)).2.2.2,fun p hp=>Mm s hp fun z=>(c _ (List.mem_append_left _ z)).2.1,Fa,?_,ndl.1,fun a ha=>?_⟩,fun H' res s'=>?_⟩
 ·rcases ha with ha | ha
  ·refine⟨fun z=>(c a (List.mem_append_left _ z)).1 ha,?_⟩
   obtain⟨h1,h2,h3⟩:=s.oth a ha
   cases e:B.H0 a with
   | none=>exact(h2 e).elim
   | some o =>
    refine⟨fun z=>(by have q:=s.old a o e h1 (s.t0 (cF.mp z)); rw [show vw B.Z H a=none from z]at q; cases q),fun fs z=>h3 fs ?_⟩
    have q:=s.old a o e h1 (s.tx z trivial)
    rw [show vw B.Z H a=some (.xd fs)from z]at q
    rw [e]
    exact q.symm
  ·refine⟨fun z=>ndl.2.2 a z a ha rfl,fun z=>?_,fun fs z=>?_⟩
   ·exact(c a (List.mem_append_right _ ha)).2.2.2 (cF.mp z)
   ·obtain⟨o,e1,e2,_⟩:=aP.mut rl a ha
    rw [show vw B.Z H a=some (.xd fs)from z]at e1
    cases e1
    exact e2
 ·refine aP.keep fP.refl (fun a z=>.inl ?_) args Fa (fun _ _=>rfl) ra
  simp only [List.nil_append]at z
  rcases z with(z | z) | z
  ·exact .inl z
  ·exact .inr (List.mem_append_right _ z)
  ·exact .inr (List.mem_append_left _ z)
 ·simp only [List.nil_append]at ha
  obtain⟨c1,c2,c3,c4⟩:=c a (List.mem_append_left _ ha)
  exact⟨fun z=>z.elim c1 fun z=>ndl.2.2 a ha a z rfl,.inl ha,c3,c4⟩
 ·obtain⟨F',r',nd',c'⟩:=s'.reps
  simp only [List.nil_append]at nd' c' r'
  have keepFl:∀ a∈Fl,vw B.Z H' a=vw B.Z H a:=fun a ha=>by
   cases e:vw B.Z H a with
   | none=>exact((c a (List.mem_append_right _ ha)).2.2.2 (cF.mp e)).elim
   | some o=>exact s'.old a o e (fun z=>ndl.2.2 a z a ha rfl) (s.tn (c a (List.mem_append_right _ ha)).2.1)
  refine⟨⟨s'.lk,fun a o e hi nt=>s'.old a o (s.old a o e hi nt) (fun z=>?_) nt,s.oth,fun a ha=>?_,fun p hp=>⟨(s.tb p hp).1,(s.tb p hp).2.1,(s'.tb p hp).2.2⟩,F'++Fl,?_,?_,fun a ha=>?_⟩,keepFl,fun a xs e=>s'.old a _ e (fun z=>by
   obtain⟨o',e',mu,_⟩:=aP.mut ra a z
   rw [e]at e'
   cases e'
   exact mu) (s.tx e trivial)⟩
  ·obtain⟨_,c2,_⟩:=c a (List.mem_append_left _ z)
   rcases c2 with c2 | c2
   ·exact hi c2
   ·rw [e]at c2; cases c2
  ·by_cases z:a∈Fa
   ·exact s'.io a z
   ·cases e:vw B.Z H a with
    | none=>exact(s.io a ha (cF.mp e)).elim
    | some o =>
     intro q
     have:=s'.old a o e z (s'.t0 q)
     rw [cF.mpr q]at this
     cases this
  ·refine aP.append (aP.keep fP.refl (fun a z=>.inl ?_) res F' (fun _ _=>rfl) r') (aP.keep (fun a o e k nt=>?_) (fun a z=>?_) l Fl keepFl rl)
   ·simp only [List.nil_append]at z
    rcases z with z | z
    ·exact .inl (.inl z)
    ·rcases List.mem_append.mp z with z | z
     ·exact .inr z
     ·exact .inl (.inr z)
   ·refine s'.old a o e (fun z=>?_) (s.tx e nt)
    obtain⟨o',e',mu,_⟩:=aP.mut ra a z
    rw [e]at e'
    cases e'
    rcases k (.inr (List.mem_append_left _ z))with⟨xs,rfl⟩ | ⟨ob,u,rfl⟩
    ·exact mu
    ·exact mu
   ·simp only [List.nil_append]at z
    rcases z with z | z
    ·exact .inl (.inl z)
    ·rcases List.mem_append.mp z with z | z
     ·rcases(c' a z).2.1 with q | q
      ·exact .inl (.inr (List.mem_append_left _ q))
      ·exact .inr q
     ·exact .inl (.inr (List.mem_append_right _ z))
  ·show(F'++Fl).Nodup
   refine List.nodup_append.mpr ⟨nd',ndl.2.1,fun a ha b hb e=>?_⟩
   subst e
   exact(c' a ha).1 (.inr hb)
  ·simp only [List.nil_append]at ha
   rcases List.mem_append.mp ha with ha | ha
   ·obtain⟨d1,d2,d3,d4⟩:=c' a ha
    refine⟨fun z=>d1 (.inl z),?_,d3,d4⟩
    rcases d2 with d2 | d2
    ·exact(c a (List.mem_append_left _ d2)).2.1
    ·exact .inr (s.new0 (cF.mp d2))
   ·obtain⟨c1,c2,c3,c4⟩:=c a (List.mem_append_right _ ha)
    refine⟨c1,c2,c3,fun z=>?_⟩
    have:=keepFl a ha
    rw [cF.mpr z]at this
    exact c4 (cF.mp this.symm)
theorem Sat.call {args:List bf} (s:Sat T B H (args++l)):∃ (B':Base) (Fl:List Addr) (own:Addr→Prop),B'.Z=B.Z∧B'.pr=B.pr∧T.tabs=T.tabs∧aP T own (vw B.Z H) l Fl∧Sat T B' H args∧∀ H' res,Sat T B' H' res→Sat T B H' (res++l)∧∀ a∈Fl,vw B.Z H' a=vw B.Z H a:=by
 obtain⟨B',Fl,own,h1,h2,Kt,h3,h4,h5⟩:=Sat.callT s
 exact⟨B',Fl,own,h1,h2,Kt,h3,h4,fun H' res s'=>⟨(h5 H' res s').1,(h5 H' res s').2.1⟩⟩
end
end PV
namespace PV
open PySem PySem.Spec PyProof.Rows
def Iq (acc:List Str) (x:Str):List Str:=if acc.any (· == x)then acc else acc++[x]
def met (xs:List Str):List Str:=xs.foldl Iq []
end PV
namespace PV
open PySem L2 PyProof.Rows
mutual
def D.okd:Nat→D→Bool
 | _,.non=>true
 | _,.bl _=>true
 | _,.int _=>true
 | _,.str _=>true
 | 0,_=>false
 | n+1,.tup xs=>D.okdL n xs
 | n+1,.lst xs=>D.okdL n xs
 | _+1,.dic _ _=>false
 | _+1,.obj _ _ _=>false
 | _+1,.exc _ _=>false
def D.okdL:Nat→List D→Bool
 | _,[]=>true
 | n,x::xs=>D.okd n x&&D.okdL n xs
end
mutual
def D.toP:D→PyData
 | .non=>.none
 | .bl b=>.bool b
 | .int i=>.int i
 | .str x=>.str x
 | .tup xs=>.tuple (D.toPL xs)
 | .lst xs=>.list (D.toPL xs)
 | .dic _ _=>.none
 | .obj _ _ _=>.none
 | .exc _ _=>.none
def D.toPL:List D→List PyData
 | []=>[]
 | x::xs=>D.toP x::D.toPL xs
end
mutual
def D.eqd:D→D→Bool
 | .non,.non=>true
 | .bl a,.bl b=>a == b
 | .bl a,.int j=>(if a then 1 else 0) == j
 | .int i,.bl b=>i == (if b then 1 else 0)
 | .int i,.int j=>i == j
 | .str x,.str y=>x == y
 | .tup xs,.tup ys=>D.eqdL xs ys
 | .lst xs,.lst ys=>D.eqdL xs ys
 | _,_=>false
def D.eqdL:List D→List D→Bool
 | [],[]=>true
 | x::xs,y::ys=>D.eqd x y&&D.eqdL xs ys
 | _,_=>false
end
inductive Bi | add | sub | mul | fdiv | mod | pow
inductive Cm | eq | ne | lt | le | gt | ge | is | isnot | isin | notin
inductive Un | neg
inductive Fn | len | list | tuple | sorted | dict | abs | int | str | bool | sum | sum2 | min1 | max1 | min2 | max2 | any | all | repr | lenset
deriving DecidableEq
inductive v5 | bool | int | str | list | tuple | dict | verr | cls (C:Nat)
inductive Mt | index | indexT | count | get1 | get2 | split | join | copy
inductive Mu | append | extend | pop | popAt | insert | clear | setdefault | update | reverse
inductive Ck | lst | set
mutual
inductive SE where
 | var (i:Nat)
 | mv (i:Nat)
 | lit (d:D)
 | glo (x:Str) (d:D)
 | tup (es:List SE)
 | lst (es:List SE)
 | dct (kvs:List SE)
 | dctT (k v:SE)
 | bi (k:Bi) (a b:SE)
 | un (k:Un) (a:SE)
 | cm (k:Cm) (a b:SE)
 | cm2 (k l:Cm) (a b c:SE)
 | band (es:List SE)
 | bor (es:List SE)
 | bnot (a:SE)
 | ite (c a b:SE)
 | idx (a b:SE)
 | slc (a lo hi:SE)
 | rev (a:SE)
 | fld (C:Nat) (a:SE) (f:Str)
 | prop (C:Nat) (nm:Str) (f:Nat) (a:SE)
 | fn (k:Fn) (es:List SE)
 | ofn (sh:Bool) (f:List D→Option O) (es:List SE)
 | oex (f:List (Option O)→Option (O×List (Option O)))
 | isa (cs:List Nat) (ts:List v5) (a:SE)
 | mt (k:Mt) (a:SE) (es:List SE)
 | mu (k:Mu) (i:Nat) (path:List SE) (es:List SE)
 | call (f:Nat) (es:List SE)
 | callp (f:Nat) (es:List SE) (g:List (Nat ⊕ D))
 | meth (C:Nat) (nm:Str) (f:Nat) (a:SE) (es:List SE) (g:List (Nat ⊕ D))
 | make (C:Nat) (f:Nat) (es:List SE) (g:List (Nat ⊕ D))
 | makeL (i:Nat) (C:Nat) (f:Nat) (es:List SE) (g:List (Nat ⊕ D))
 | cmeth (C:Nat) (f:Nat) (es:List SE) (g:List (Nat ⊕ D))
 | dlen (C f:Nat) (a:SE)
 | din (neg:Bool) (C f:Nat) (x a:SE)
 | deq (neg:Bool) (C f:Nat) (a b:SE)
 | never
 | frz (a:SE)
 | pkcm (k:Cm) (i:Nat) (path:List SE) (b:SE)
 | lck (i:Nat) (a:SE)
 | comp (k:Ck) (e:SE) (own:List Nat) (t:Tg) (it:IE) (ifs:List SE)
 | comp2 (e:SE) (own:List Nat) (t:Tg) (it:IE) (ifs:List SE) (t2:Tg) (it2:IE) (ifs2:List SE)
 | dcomp (k v:SE) (own:List Nat) (t:Tg) (it:IE) (ifs:List SE)
inductive IE where
 | of (e:SE)
 | range (es:List SE)
 | enum (e:SE)
 | zip (a b:SE)
 | items (e:SE)
 | vals (e:SE)
 | rev (e:SE)
 | keys (i:Nat)
 | gen (f:D→Option (List D)) (e:SE)
 | zipM (a b:SE)
inductive Tg where
 | nm (i:Nat)
 | tp (ts:List Tg)
 | fl (i C:Nat) (f:Str)
end
inductive SS where
 | asg (t:Tg) (e:SE)
 | sub (i:Nat) (path:List SE) (e:SE)
 | fld (i C:Nat) (f:Str) (e:SE)
 | aug (i:Nat) (k:Bi) (e:SE)
 | augs (i:Nat) (path:List SE) (k:Bi) (e:SE)
 | sub2 (i j k:Nat) (e1 e2:SE)
 | exp (e:SE)
 | ret (e:SE)
 | retN
 | ite (c:SE) (a b:List SS)
 | for (t:Tg) (it:IE) (b:List SS)
 | whl (c:SE) (b:List SS)
 | rse (C:Nat) (es:List SE)
 | try (cs:List Nat) (b:List SS) (e x:Nat)
 | pass | brk | cont
 | kill (l:List Nat)
 | never
 | lck (i:Nat) (s:SS)
 | osl (f:List (Option O)→Option (List (Option O)))
abbrev Env:=List (Option O)
inductive Res (α:Type) where
 | ok (a:α) (ρ:Env)
 | exc (C:Nat) (p:List D) (ρ:Env)
 | bad
def Res.bind {α β:Type} (r:Res α) (f:α→Env→Res β):Res β:=match r with
 | .ok a ρ=>f a ρ
 | .exc C p ρ=>.exc C p ρ
 | .bad=>.bad
@[simp] theorem Res.bind_ok {α β:Type}{a:α}{ρ:Env}{f:α→Env→Res β}:(Res.ok a ρ).bind f=f a ρ:=rfl
@[simp] theorem Res.bind_exc {α β:Type}{C:Nat}{p:List D}{ρ:Env}{f:α→Env→Res β}:(Res.exc C p ρ:Res α).bind f = .exc C p ρ:=rfl
@[simp] theorem Res.bind_bad {α β:Type}{f:α→Env→Res β}:(Res.bad:Res α).bind f = .bad:=rfl
def bnd {α β:Type} (o:Option α) (f:α→Res β):Res β:=match o with
 | some a=>f a
 | none=>.bad
@[simp] theorem cX {α β:Type}{a:α}{f:α→Res β}:bnd (some a) f=f a:=rfl
@[simp] theorem Ir {α β:Type}{f:α→Res β}:bnd none f = .bad:=rfl
def Res.of {α:Type} (o:Option α) (ρ:Env):Res α:=match o with
 | some a=>.ok a ρ
 | none=>.bad
@[simp] theorem Res.of_some {α:Type}{a:α}{ρ:Env}:Res.of (some a) ρ = .ok a ρ:=rfl
@[simp] theorem Res.of_none {α:Type}{ρ:Env}:Res.of (none:Option α) ρ = .bad:=rfl
inductive bA where
 | ok (o:O) (ios:List O)
 | exc (C:Nat) (p:List D) (ios:List O)
 | bad
structure A9 where
 lvl:Nat
 run:List O→bA
abbrev cU:=Nat→A9
def ax (ρ:Env) (i:Nat):Option O:=(ρ[i]?).join
@[simp] theorem HX {i:Nat}:ax [] i=none:=rfl
@[simp] theorem Gf {o:Option O}{ρ:Env}:ax (o::ρ) 0=o:=rfl
@[simp] theorem Gg {o:Option O}{ρ:Env}{i:Nat}:ax (o::ρ) (i+1)=ax ρ i:=rfl
inductive Arg | slot (i:Nat) | val (o:O)
def aj (a:Arg) (ρ:Env):Res O:=match a with
 | .val o=>.ok o ρ
 | .slot i=>bnd (ax ρ i) fun o=>.ok o (taken o i ρ)
where taken (o:O) (i:Nat) (ρ:Env):Env:=match o with
 | .d _=>ρ
 | _=>ρ.set i none
def dE:List Arg→Env→Res (List O)
 | [],ρ=>.ok [] ρ
 | a::as,ρ=>(aj a ρ).bind fun o ρ=>(dE as ρ).bind fun os ρ=>.ok (o::os) ρ
def back (a:Arg) (o:O) (ρ:Env):Env:=match a with
 | .val _=>ρ
 | .slot i=>ρ.set i (some o)
def b7:List Arg→List O→Env→Env
 | a::as,o::os,ρ=>b7 as os (back a o ρ)
 | _,_,ρ=>ρ
def O.shal:O→O
 | .d x=>.d x
 | .tup xs=>.tup (xs.map fun o=>.d o.frz)
 | .lst xs=>.lst (xs.map fun o=>.d o.frz)
 | .dic ks vs=>.dic ks (vs.map fun o=>.d o.frz)
 | .obj C ns vs=>.obj C ns (vs.map fun o=>.d o.frz)
def pM (f:List D→Option O) (sh:Bool) (as:List Arg) (ρ:Env):Res O :=
 (dE as ρ).bind fun os ρ=>(Res.of (f (os.map O.frz)) ρ).bind fun r ρ=>.ok r (b7 as (if sh then os.map O.shal else os) ρ)
def nC (x y:D):Bool:=D.okd 150 x&&D.okd 150 y
def z5 (x y:D):Option O:=match x,y with
 | .int i,.int j=>some (.d (.int (i+j)))
 | .str i,.str j=>if i.length+j.length≤sizeLine then some (.d (.str (i++j)))else none
 | .lst xs,.lst ys=>if xs.length+ys.length≤sizeLine then some (.lst ((xs++ys).map .d))else none
 | .tup xs,.tup ys=>if xs.length+ys.length≤sizeLine then some (.d (.tup (xs++ys)))else none
 | _,_=>none
def i7 (k:Bi) (as:List D):Option O:=match as with
 | [x,y]=>match k with
  | .add=>z5 x y
  | .sub=>match x,y with
   | .int i,.int j=>some (.d (.int (i - j)))
   | _,_=>none
  | .mul=>match x,y with
   | .int i,.int j=>if(-(2 ^ 64) < i∧i < 2 ^ 64)∨(-(2 ^ 64) < j∧j < 2 ^ 64)then some (.d (.int (i * j)))else none
   | _,_=>none
  | .fdiv=>match x,y with
   | .int i,.int j=>if 0 < j∧(j < 1073741824∨j < 2 ^ 200)then some (.d (.int (i / j)))else none
   | _,_=>none
  | .mod=>match x,y with
   | .int i,.int j=>if 0 < j then some (.d (.int (i % j)))else none
   | _,_=>none
  | .pow=>match x,y with
   | .int i,.int j=>if 0≤j∧j≤1000000∧i.natAbs < 2 ^ 64 then some (.d (.int (i ^ j.toNat)))else none
   | _,_=>none
 | _=>none
def Ku (k:Un) (as:List D):Option O:=match as with
 | [.int i]=>match k with
  | .neg=>some (.d (.int (-i)))
 | _=>none
def aW (k:D):List D→List D→Option D
 | j::js,v::vs=>if keyOf j=keyOf k∧aA j=aA k then some v else aW k js vs
 | _,_=>none
def aZ (k:D) (ks:List D):Bool:=((keyOf k).isSome&&ks.all fun j=>(keyOf j).isSome)||((aA k).isSome&&ks.all fun j=>(aA j).isSome)
def oZ:D→Bool
 | .str _=>true
 | _=>false
def tV (x:D) (ys:List D):Option Bool:=match x with
 | .dic _ _=>if ys.all oZ then some false else none
 | _=>none
def qN (x y:D):Option Unit:=match x,y with
 | .lst xs,.lst ys=>if xs.length≠ys.length then some ()else none
 | _,_=>none
def D.okn:Nat→D→Bool
 | _,.non=>true
 | _,.bl _=>true
 | _,.int _=>true
 | _,.str _=>true
 | 0,_=>false
 | n+1,.tup xs=>xs.all (D.okn n)
 | n+1,.lst xs=>xs.all (D.okn n)
 | n+1,.dic ks vs=>(match keysOf ks with
  | some js=>decide js.Nodup
  | none=>false)&&(decide (ks.length=vs.length)&&vs.all (D.okn n))
 | _+1,.obj _ _ _=>false
 | _+1,.exc _ _=>false
def D.eqn:Nat→D→D→Bool
 | n+1,.tup xs,.tup ys=>xs.length == ys.length&&(xs.zip ys).all fun p=>D.eqn n p.1 p.2
 | n+1,.lst xs,.lst ys=>xs.length == ys.length&&(xs.zip ys).all fun p=>D.eqn n p.1 p.2
 | n+1,.dic ks vs,.dic js ws=>ks.length == js.length&&(ks.zip vs).all fun p=>match aW p.1 js ws with
  | some y=>D.eqn n p.2 y
  | none=>false
 | _,x,y=>D.eqd x y
def qO (x y:D):Bool:=match x,y with
 | .lst _,.lst _=>D.okn 140 x&&D.okn 140 y
 | .tup _,.tup _=>D.okn 140 x&&D.okn 140 y
 | .dic _ _,.dic _ _=>D.okn 140 x&&D.okn 140 y
 | _,_=>false
def qP (x y:D):Bool:=match x,y with
 | .lst _,.lst _=>D.okn 140 x&&D.okn 140 y
 | .dic _ _,.dic _ _=>D.okn 140 x&&D.okn 140 y
 | _,_=>false
def aB (k:Cm) (x y:D):Option Bool:=match k with
 | .eq=>if nC x y then some (D.eqd x y)else if qO x y then some (D.eqn 140 x y)else(qN x y).map fun _=>false
 | .ne=>if nC x y then some (! D.eqd x y)else if qP x y then some (! D.eqn 140 x y)else(qN x y).map fun _=>true
 | .lt=>match x,y with
  | .int i,.int j=>some (decide (i < j))
  | .str i,.str j=>some (decide (i.cps.toList < j.cps.toList))
  | _,_=>none
 | .le=>match x,y with
  | .int i,.int j=>some (decide (i≤j))
  | .str i,.str j=>some (! decide (j.cps.toList < i.cps.toList))
  | _,_=>none
 | .gt=>match x,y with
  | .int i,.int j=>some (decide (j < i))
  | .str i,.str j=>some (decide (j.cps.toList < i.cps.toList))
  | _,_=>none
 | .ge=>match x,y with
  | .int i,.int j=>some (decide (j≤i))
  | .str i,.str j=>some (! decide (i.cps.toList < j.cps.toList))
  | _,_=>none
 | .is=>match x,y with
  | .non,.non=>some true
  | _,.non=>some false
  | .bl a,.bl b=>some (a == b)
  | _,_=>none
 | .isnot=>match x,y with
  | .non,.non=>some false
  | _,.non=>some true
  | .bl a,.bl b=>some (a != b)
  | _,_=>none
 | .isin=>inD x y
 | .notin=>(inD x y).map (!·)
where inD (x y:D):Option Bool:=match y with
  | .lst ys=>if D.okd 150 x&&D.okdL 150 ys then some (ys.any fun y=>D.eqd y x)else tV x ys
  | .tup ys=>if D.okd 150 x&&D.okdL 150 ys then some (ys.any fun y=>D.eqd y x)else tV x ys
  | .dic ks vs=>if aZ x ks then some (aW x ks vs).isSome else none
  | .str t=>match x with
   | .str s=>match s.cps.toList with
    | [c]=>some (decide (c∈t.cps.toList))
    | _=>some (!(Builtin.Str.occurrences t s 0 t.length 1).isEmpty)
   | _=>none
  | _=>none
def AQ (k:Cm) (as:List D):Option O:=match as with
 | [x,y]=>(aB k x y).map fun b=>.d (.bl b)
 | _=>none
def bU (as:List D):Option O:=match as with
 | [.lst xs,.int i]=>(atI xs i).map .d
 | [.tup xs,.int i]=>(atI xs i).map .d
 | [.str x,.int i]=>if x.length≤sizeLine then(atI x.cps.toList i).map fun c=>.d (.str ⟨#[c]⟩)else none
 | [.dic ks vs,k]=>if aZ k ks then(aW k ks vs).map .d else none
 | _=>none
def ll:D→Option (Option Int)
 | .non=>some none
 | .int i=>some (some i)
 | _=>none
def cutD (xs:List D) (lo hi:Option Int):List D:=(xs.drop (HT.sIx xs.length 0 lo)).take (HT.sIx xs.length xs.length hi - HT.sIx xs.length 0 lo)
def ig (as:List D):Option O:=match as with
 | [x,l,h]=>match ll l,ll h with
  | some lo,some hi=>match x with
   | .lst xs=>some (.lst ((cutD xs lo hi).map .d))
   | .tup xs=>some (.d (.tup (cutD xs lo hi)))
   | .str z=>if z.length≤sizeLine then some (.d (.str ⟨((z.cps.toList.drop (HT.sIx z.length 0 lo)).take (HT.sIx z.length z.length hi - HT.sIx z.length 0 lo)).toArray⟩))else none
   | _=>none
  | _,_=>none
 | _=>none
def Iu (as:List D):Option O:=match as with
 | [.lst xs]=>some (.lst (xs.reverse.map .d))
 | _=>none
def uQ (f:Str):List Str→List D→Option D
 | n::ns,v::vs=>if n=f then some v else uQ f ns vs
 | _,_=>none
def Iv (C:Nat) (f:Str) (as:List D):Option O:=match as with
 | [.obj C' ns vs]=>if C'=C then(uQ f ns vs).map .d else none
 | _=>none
def jP:D→Option (List D)
 | .lst xs=>some xs
 | .tup xs=>some xs
 | .str x=>if x.length≤sizeLine then some (x.cps.toList.map fun c=>.str ⟨#[c]⟩)else none
 | _=>none
def DC:D→Option (List D)
 | .lst xs=>some xs
 | .tup xs=>some xs
 | _=>none
def qQ:D→Option Bool
 | .non=>some false
 | .bl b=>some b
 | .int i=>some (i != 0)
 | .str x=>if x.length≤sizeLine then some ((x.length:Int) != 0)else none
 | .lst xs=>some (! xs.isEmpty)
 | .tup xs=>some (! xs.isEmpty)
 | .dic ks _=>if ks.all fun k=>(keyOf k).isSome then some (! ks.isEmpty)else none
 | _=>none
def dU:List D→Option (List Bool)
 | []=>some []
 | .bl b::r=>(dU r).map (b :: ·)
 | _=>none
def bB (lo:Int) (n:Nat):List D:=(List.range n).map fun(i:Nat)=>.int (lo+(i:Int))
def jQ:List D→Option (List Str)
 | []=>some []
 | .str x::r=>(jQ r).map (x :: ·)
 | _=>none
def iw (k:Fn) (x:D):Option O:=match k with
 | .len=>(match x with
  | .lst xs=>some (.d (.int xs.length))
  | .tup xs=>some (.d (.int xs.length))
  | .str x=>if x.length≤sizeLine then some (.d (.int x.length))else none
  | .dic ks _=>some (.d (.int ks.length))
  | _=>none)
 | .list=>(match x with
  | .lst xs=>some (.lst (xs.map .d))
  | .tup xs=>some (.lst (xs.map .d))
  | .dic ks _=>if ks.all fun k=>(keyOf k).isSome then some (.lst (ks.map .d))else none
  | _=>none)
 | .tuple=>(match x with
  | .lst xs=>some (.d (.tup xs))
  | .tup xs=>some (.d (.tup xs))
  | .dic ks _=>if ks.all fun k=>(keyOf k).isSome then some (.d (.tup ks))else none
  | _=>none)
 | .abs=>(match x with
  | .int i=>some (.d (.int (if i < 0 then -i else i)))
  | _=>none)
 | .int=>(match x with
  | .int i=>some (.d (.int i))
  | .bl b=>some (.d (.int (if b then 1 else 0)))
  | _=>none)
 | .lenset=>(match x with
  | .lst xs=>(match jQ xs with
   | some ys=>if ys.length≤4000 then some (.d (.int (met ys).length))else none
   | none=>none)
  | _=>none)
 | .all=>(match x with
  | .lst xs=>(dU xs).map fun bs=>.d (.bl (bs.all id))
  | _=>none)
 | .any=>(match x with
  | .lst xs=>(dU xs).map fun bs=>.d (.bl (bs.any id))
  | _=>none)
 | _=>none
def Gh (k:Fn) (x y:D):Option O:=match k with
 | .min2=>(match x,y with
  | .int i,.int j=>some (.d (.int (if j < i then j else i)))
  | _,_=>none)
 | .max2=>(match x,y with
  | .int i,.int j=>some (.d (.int (if j > i then j else i)))
  | _,_=>none)
 | _=>none
def Ba (k:Fn):Bool:=match k with
 | .list=>true
 | .tuple=>true
 | .sorted=>true
 | .dict=>true
 | .min1=>true
 | .max1=>true
 | _=>false
def yQ (k:Fn) (as:List D):Option O:=match as with
 | [x]=>iw k x
 | [x,y]=>Gh k x y
 | _=>none
def jC (x:D) (t:v5):Bool:=match t,x with
 | .bool,.bl _=>true
 | .int,.bl _=>true
 | .int,.int _=>true
 | .str,.str _=>true
 | .list,.lst _=>true
 | .tuple,.tup _=>true
 | .dict,.dic _ _=>true
 | .cls C,.obj C' _ _=>C == C'
 | .cls C,.exc C' _=>DA C' C
 | .verr,.exc _ _=>true
 | _,_=>false
def fQ (cs:List Nat) (ts:List v5) (as:List D):Option O:=match as with
 | [.exc C p]=>if C∈cs∧C < 20∧p.length≠3 then some (.d (.bl (ts.any (jC (.exc C p)))))else none
 | [.obj C ns vs]=>if C∈cs∧20≤C then some (.d (.bl (ts.any (jC (.obj C ns vs)))))else none
 | [x]=>some (.d (.bl (ts.any (jC x))))
 | _=>none
def qp (k:Mt) (as:List D):Option O:=match k,as with
 | .get2,[.dic ks vs,k,z]=>if aZ k ks then some (.d ((aW k ks vs).getD z))else none
 | .index,[.lst xs,y]=>if D.okd 150 y&&D.okdL 150 xs then(xs.findIdx? fun x=>D.eqd x y).map fun j=>.d (.int (j:Nat))else none
 | .indexT,[.tup xs,y]=>if D.okd 150 y&&D.okdL 150 xs then(xs.findIdx? fun x=>D.eqd x y).map fun j=>.d (.int (j:Nat))else none
 | .count,[.lst xs,y]=>if D.okd 150 y&&D.okdL 150 xs then some (.d (.int ((xs.countP fun x=>D.eqd x y:Nat))))else none
 | .get1,[.dic ks vs,k]=>if aZ k ks then some (.d ((aW k ks vs).getD .non))else none
 | .join,[.str a,.lst xs]=>match jQ xs with
  | some ys=>if(ys.map (·.length)).sum+ys.length * a.length≤16777216 then some (.d (.str (Txt.join a ys)))else none
  | none=>none
 | .split,[.str a,.str b]=>if(b.length == 0)=false∧a.length+2≤sizeLine then some (.lst ((Txt.split a b).map fun x=>.d (.str x)))else none
 | _,_=>none
def Bb (k:Mu) (o:O) (as:List O):Option (O×O):=match k,o,as with
 | .append,.lst xs,[y]=>if xs.length < sizeLine then some (.d .non,.lst (xs++[y]))else none
 | .extend,.lst xs,[.lst ys]=>if xs.length+ys.length≤sizeLine then some (.d .non,.lst (xs++ys))else none
 | .extend,.lst xs,[.d (.lst ys)]=>if xs.length+ys.length≤sizeLine then some (.d .non,.lst (xs++ys.map .d))else none
 | .pop,.lst xs,[]=>match xs[xs.length - 1]? with
  | some y=>some (y,.lst xs.dropLast)
  | none=>none
 | .popAt,.lst xs,[.d (.int i)]=>match ixN xs.length i with
  | some k=>match xs[k]? with
   | some y=>some (y,.lst (xs.eraseIdx k))
   | none=>none
  | none=>none
 | .clear,.lst _,[]=>some (.d .non,.lst [])
 | .insert,.lst xs,[.d (.int i),y]=>if xs.length < sizeLine∧0≤i∧i < 2 ^ 63 then some (.d .non,.lst (xs.take i.toNat++[y]++xs.drop i.toNat))else none
 | .reverse,.lst xs,[]=>some (.d .non,.lst xs.reverse)
 | _,_,_=>none
def dM (k:D):List D→Option Nat
 | []=>none
 | j::js=>if keyOf j=keyOf k∧aA j=aA k then some 0 else(dM k js).map (· + 1)
def qe (f:Str):List Str→Option Nat
 | []=>none
 | n::ns=>if n=f then some 0 else(qe f ns).map (· + 1)
def dA (o:O) (k:D):Option (O×(O→O)):=match o with
 | .tup xs=>match k with
  | .int i=>match ixN xs.length i with
   | some j=>match xs[j]? with
    | some y=>some (y,fun z=>.tup (xs.set j z))
    | none=>none
   | none=>none
  | _=>none
 | .lst xs=>match k with
  | .int i=>match ixN xs.length i with
   | some j=>match xs[j]? with
    | some y=>some (y,fun z=>.lst (xs.set j z))
    | none=>none
   | none=>none
  | _=>none
 | .dic ks vs=>if aZ k ks then(match dM k ks with
   | some j=>match vs[j]? with
    | some y=>some (y,fun z=>.dic ks (vs.set j z))
    | none=>none
   | none=>none)else none
 | .obj C ns vs=>match k with
  | .exc C' [.str f,.non]=>if C'=C then(match qe f ns with
   | some j=>match vs[j]? with
    | some y=>some (y,fun z=>.obj C ns (vs.set j z))
    | none=>none
   | none=>none)else none
  | _=>none
 | _=>none
def yR:D→Bool
 | .non=>true
 | .bl _=>true
 | .int _=>true
 | .str _=>true
 | _=>false
def yS:O→Bool
 | .d x=>yR x
 | _=>false
def aJ (o:O) (k:D) (r:O):O:=if yS r then o else(match dA o k with
 | some (y,g)=>g (.d y.frz)
 | none=>o.shal)
def iy (k:D) (r:O):List O→List O
 | o::os=>aJ o k r::os.map O.shal
 | []=>[]
def Fb (f:List D→Option O) (kf:List D→D) (as:List Arg) (ρ:Env):Res O :=
 (dE as ρ).bind fun os ρ=>(Res.of (f (os.map O.frz)) ρ).bind fun r ρ=>.ok r (b7 as (iy (kf (os.map O.frz)) r os) ρ)
def Bc (ds:List D):D:=match ds with
 | [_,k]=>k
 | _=>.non
def putD (k:D) (v:O) (ks:List D) (vs:List O):List D×List O:=match dM k ks with
 | some n=>(ks,vs.set n v)
 | none=>(ks++[k],vs++[v])
def qR (o:O) (k:D) (v:O):Option O:=match o with
 | .lst xs=>match k with
  | .int i=>(ixN xs.length i).map fun j=>.lst (xs.set j v)
  | _=>none
 | .dic ks vs=>if aZ k ks&&decide (ks.length < sizeLine)then some (let r:=putD k v ks vs; .dic r.1 r.2)else none
 | _=>none
def dZ:List D→O→(O→Option (O×O))→Option (O×O)
 | [],o,f=>f o
 | k::ks,o,f=>match dA o k with
  | some (y,g)=>(dZ ks y f).map fun p=>(p.1,g p.2)
  | none=>none
def Gi (f:Str):List Str→List O→Option O
 | n::ns,v::vs=>if n=f then some v else Gi f ns vs
 | _,_=>none
def wq (f:Str) (v:O):List Str→List O→List Str×List O
 | n::ns,x::xs=>if n=f then(n::ns,v::xs)else(let r:=wq f v ns xs; (n::r.1,x::r.2))
 | ns,xs=>(ns++[f],xs++[v])
def qS:O→Option Bool
 | .d (.bl b)=>some b
 | _=>none
def wa (os:List O):O:=match allD os with
 | some ds=>.d (.tup ds)
 | none=>.tup os
where allD:List O→Option (List D)
 | []=>some []
 | .d x::r=>(allD r).map (x :: ·)
 | _::_=>none
def aH:Tg→D→Env→Option Env
 | .nm i,x,ρ=>some (ρ.set i (some (.d x)))
 | .tp ts,.tup xs,ρ=>go ts xs ρ
 | _,_,_=>none
where go:List Tg→List D→Env→Option Env
 | [],[],ρ=>some ρ
 | t::ts,x::xs,ρ=>match aH t x ρ with
  | some ρ'=>go ts xs ρ'
  | none=>none
 | _,_,_=>none
def DD (C:Nat) (f:Str) (v:O):O→Option O
 | .obj C' ns vs=>if C'=C∧ns.length < 1000 then some (let r:=wq f v ns vs; .obj C' r.1 r.2)else none
 | _=>none
def aQ:Tg→O→Env→Option Env
 | .nm i,o,ρ=>some (ρ.set i (some o))
 | .tp ts,.d (.tup xs),ρ=>goD ts xs ρ
 | .tp ts,.tup xs,ρ=>go ts xs ρ
 | .fl i C f,o,ρ=>match ax ρ i with
  | some b=>match DD C f o b with
   | some b'=>some (ρ.set i (some b'))
   | none=>none
  | none=>none
 | _,_,_=>none
where
 go:List Tg→List O→Env→Option Env
 | [],[],ρ=>some ρ
 | t::ts,x::xs,ρ=>match aQ t x ρ with
  | some ρ'=>go ts xs ρ'
  | none=>none
 | _,_,_=>none
 goD:List Tg→List D→Env→Option Env
 | [],[],ρ=>some ρ
 | t::ts,x::xs,ρ=>match aH t x ρ with
  | some ρ'=>goD ts xs ρ'
  | none=>none
 | _,_,_=>none
def ar:List Nat→Env→Env
 | [],ρ=>ρ
 | i::r,ρ=>ar r (ρ.set i none)
def DE:List D→List D→List D
 | x::xs,y::ys=>.tup [x,y]::DE xs ys
 | _,_=>[]
def Iw (x y:D):Option (List D):=match x,y with
 | .lst xs,.lst ys=>some (DE xs ys)
 | .tup xs,.tup ys=>some (DE xs ys)
 | _,_=>none
def Iy (x y:D):Option (List D):=match x,y with
 | .lst xs,.tup ys=>some (DE xs ys)
 | _,_=>none
def fE:Nat→List D→List D
 | _,[]=>[]
 | n,x::xs=>.tup [.int (n:Int),x]::fE (n+1) xs
mutual
def fq:Tg→List Nat
 | .nm i=>[i]
 | .tp ts=>n8 ts
 | .fl _ _ _=>[]
def n8:List Tg→List Nat
 | []=>[]
 | t::ts=>fq t++n8 ts
end
def bq (f:D→Env→Res (Option O)):List D→Env→Res (List O)
 | [],ρ=>.ok [] ρ
 | x::xs,ρ=>(f x ρ).bind fun o ρ=>(bq f xs ρ).bind fun os ρ=>.ok (match o with
  | some y=>y::os
  | none=>os) ρ
def Be (f:D→Env→Res (List O)):List D→Env→Res (List O)
 | [],ρ=>.ok [] ρ
 | x::xs,ρ=>(f x ρ).bind fun os ρ=>(Be f xs ρ).bind fun os2 ρ=>.ok (os++os2) ρ
def Res.outL (r:Res (List O)) (g:Env→Env):Res O:=match r with
 | .ok os ρ=>.ok (.lst os) (g ρ)
 | .exc C p ρ=>.exc C p (g ρ)
 | .bad=>.bad
@[simp] theorem Res.outL_ok {os:List O}{ρ:Env}{g:Env→Env}:(Res.ok os ρ).outL g = .ok (.lst os) (g ρ):=rfl
@[simp] theorem Res.outL_exc {C:Nat}{p:List D}{ρ:Env}{g:Env→Env}:(Res.exc C p ρ:Res (List O)).outL g = .exc C p (g ρ):=rfl
@[simp] theorem Res.outL_bad {g:Env→Env}:(Res.bad:Res (List O)).outL g = .bad:=rfl
def Kv (os:List O):Option O:=if os.length≤sizeLine then some (.lst os)else none
inductive Fl where
 | nx | rt (o:O) | bk | ct
def Fl.turn (e:Fl) (go:Res Fl) (ρ:Env):Res Fl:=match e with
 | .nx=>go
 | .ct=>go
 | .bk=>.ok .nx ρ
 | .rt o=>.ok (.rt o) ρ
@[simp] theorem Fl.turn_nx {go:Res Fl}{ρ:Env}:Fl.nx.turn go ρ=go:=rfl
@[simp] theorem Fl.turn_ct {go:Res Fl}{ρ:Env}:Fl.ct.turn go ρ=go:=rfl
@[simp] theorem Fl.turn_bk {go:Res Fl}{ρ:Env}:Fl.bk.turn go ρ = .ok .nx ρ:=rfl
@[simp] theorem Fl.turn_rt {o:O}{go:Res Fl}{ρ:Env}:(Fl.rt o).turn go ρ = .ok (.rt o) ρ:=rfl
def Fl.seq (e:Fl) (go:Env→Res Fl) (ρ:Env):Res Fl:=match e with
 | .nx=>go ρ
 | e=>.ok e ρ
@[simp] theorem Fl.seq_nx {go:Env→Res Fl}{ρ:Env}:Fl.nx.seq go ρ=go ρ:=rfl
@[simp] theorem Fl.seq_ct {go:Env→Res Fl}{ρ:Env}:Fl.ct.seq go ρ = .ok .ct ρ:=rfl
@[simp] theorem Fl.seq_bk {go:Env→Res Fl}{ρ:Env}:Fl.bk.seq go ρ = .ok .bk ρ:=rfl
@[simp] theorem Fl.seq_rt {o:O}{go:Env→Res Fl}{ρ:Env}:(Fl.rt o).seq go ρ = .ok (.rt o) ρ:=rfl
def forL (f:D→Env→Res Fl):List D→Env→Res Fl
 | [],ρ=>.ok .nx ρ
 | x::xs,ρ=>(f x ρ).bind fun e ρ=>e.turn (forL f xs ρ) ρ
def Iz (f:Env→Res (Option Fl)):Nat→Env→Option (Res Fl)
 | 0,_=>none
 | n+1,ρ=>match f ρ with
  | .ok none ρ=>Iz f n ρ
  | .ok (some e) ρ=>some (.ok e ρ)
  | .exc C p ρ=>some (.exc C p ρ)
  | .bad=>some .bad
open Classical in
noncomputable def Kw (f:Env→Res (Option Fl)) (ρ:Env):Res Fl :=
 if h:∃ n r,Iz f n ρ=some r then(Classical.choose_spec h).choose else .bad
def bA.to (r:bA) (as:List Arg) (ρ:Env):Res O:=match r with
 | .ok r ios=>.ok r (b7 as ios ρ)
 | .exc C p ios=>.exc C p (b7 as ios ρ)
 | .bad=>.bad
@[simp] theorem bA.to_ok {r:O}{ios:List O}{as:List Arg}{ρ:Env}:(bA.ok r ios).to as ρ = .ok r (b7 as ios ρ):=rfl
@[simp] theorem bA.to_exc {C:Nat}{p:List D}{ios:List O}{as:List Arg}{ρ:Env}:(bA.exc C p ios).to as ρ = .exc C p (b7 as ios ρ):=rfl
def i9 (S:A9) (as:List Arg) (ρ:Env):Res O:=(dE as ρ).bind fun os ρ=>(S.run os).to as ρ
def arr (as:List Arg):List (Nat ⊕ D)→Option (List Arg)
 | []=>some []
 | .inl i::r=>match as[i]?,arr as r with
  | some a,some l=>some (a::l)
  | _,_=>none
 | .inr d::r=>(arr as r).map (.val (.d d) :: ·)
def bA.made (r:bA):bA:=match r with
 | .ok (.d .non) (o::ios)=>.ok o ios
 | .exc C p (_::ios)=>.exc C p ios
 | _=>.bad
@[simp] theorem bA.made_ok {o:O}{ios:List O}:(bA.ok (.d .non) (o::ios)).made = .ok o ios:=rfl
@[simp] theorem bA.made_exc {o:O}{C:Nat}{p:List D}{ios:List O}:(bA.exc C p (o::ios)).made = .exc C p ios:=rfl
def wt (S:A9) (as:List Arg) (ρ:Env):Res O:=(dE as ρ).bind fun os ρ=>(S.run os).made.to (as.drop 1) ρ
def lr:List O→List O
 | k::_::r=>k::lr r
 | _=>[]
def nD:List O→List O
 | _::v::r=>v::nD r
 | _=>[]
def qT (ks vs:List O):Option O:=match keysOf (ks.map O.frz)with
 | some js=>if js.Nodup∧js.length≤15 then some (.dic (ks.map O.frz) vs)else none
 | none=>none
def Kx (k v:O):Option O:=match aA k.frz with
 | some _=>some (.dic [k.frz] [v])
 | none=>none
def IA (C:Nat):D:=.exc C [.non,.non,.non]
def IB (C:Nat) (o:O):Option Unit:=match o with
 | .d (.exc C' [.non,.non,.non])=>if C'=C then some ()else none
 | _=>none
def Bf (C:Nat) (d:D):Option Unit:=match d with
 | .obj C' _ _=>if C'=C then some ()else none
 | _=>none
def DF (C:Nat) (f:Str) (d:D):Option Unit:=match d with
 | .obj C' ns _=>if C'=C∧f∉ns then some ()else none
 | _=>none
def DG (C:Nat) (d:D):Option Unit:=match d with
 | .obj C' _ _=>if C'=C then some ()else none
 | .exc _ _=>none
 | _=>some ()
def IC (o:O):Option O:=match o with
 | .d (.int n)=>if 0≤n∧n < 2 ^ 63 then some (.d (.int n))else none
 | _=>none
def Gj (neg:Bool) (o:O):Option O:=match o with
 | .d (.bl b)=>some (.d (.bl (if neg then ! b else b)))
 | _=>none
def Res.noX {α:Type} (r:Res α):Res α:=match r with
 | .ok a ρ=>.ok a ρ
 | _=>.bad
@[simp] theorem Res.noX_ok {α:Type}{a:α}{ρ:Env}:(Res.ok a ρ).noX = .ok a ρ:=rfl
def hI (own:List Nat) (ρ0 ρ:Env):Env:=match own with
 | []=>ρ
 | i::r=>hI r ρ0 (ρ.set i (ax ρ0 i))
def qg (k:Mu) (o:O):Option Unit:=match o with
 | .lst _=>match k with
  | .setdefault=>none
  | .update=>none
  | _=>some ()
 | _=>none
def lN (o:O):Option (List D):=match o with
 | .d (.dic ks _)=>(match keysOf ks with
  | some _=>some ks
  | none=>(au ks).map fun _=>ks)
 | _=>none
theorem yT {ks xs:List D}{js:List Key} (h:keysOf ks=some js):lN (.d (.dic ks xs))=some ks:=by
 unfold lN
 dsimp only
 rw [h]
def nE (as:List O):Option (List D):=match as with
 | [.d (.int n)]=>if -(2 ^ 62)≤n∧n≤sizeLine then some (bB 0 n.toNat)else none
 | [.d (.int a),.d (.int b)]=>if 0≤a∧a≤sizeLine∧0≤b∧b≤sizeLine then some (bB a (b - a).toNat)else none
 | _=>none
def m8 (a:Arg) (ρ:Env):Option O:=match a with
 | .val o=>some o
 | .slot i=>ax ρ i
def qU (a:Arg):Option Unit:=match a with
 | .slot _=>some ()
 | .val (.d _)=>some ()
 | _=>none
def cy (k:Mt) (d:D):Option Unit:=match k,d with
 | .index,.lst _=>some ()
 | .indexT,.tup _=>some ()
 | .count,.lst _=>some ()
 | .get1,.dic _ _=>some ()
 | .get2,.dic _ _=>some ()
 | .split,.str _=>some ()
 | .join,.str _=>some ()
 | _,_=>none
def kx (l:SE) (y:Arg) (ρ:Env):Option Unit:=match l with
 | .lit .non=>some ()
 | _=>match m8 y ρ with
  | some (.d (.int _))=>some ()
  | _=>none
def jR {α:Type} (b:Bool) (x y:Res α):Res α:=match b with
 | true=>x
 | false=>y
@[simp] theorem Bg {α:Type}{x y:Res α}:jR true x y=x:=rfl
@[simp] theorem z6 {α:Type}{x y:Res α}:jR false x y=y:=rfl
section
variable (Φ:cU)
mutual
def ev:SE→Env→Res O
 | .var i,ρ=>bnd (ax ρ i) fun o=>.ok (.d o.frz) (ρ.set i (some (.d o.frz)))
 | .mv i,ρ=>bnd (ax ρ i) fun o=>.ok o (ρ.set i none)
 | .lit d,ρ=>.ok (.d d) ρ
 | .glo _ d,ρ=>.ok (.d d) ρ
 | .tup es,ρ=>(lJ es ρ).bind fun os ρ=>.ok (wa os) ρ
 | .lst es,ρ=>(lJ es ρ).bind fun os ρ=>.ok (.lst os) ρ
 | .dct kvs,ρ=>(lJ kvs ρ).bind fun os ρ=>bnd (qT (lr os) (nD os)) fun o=>.ok o ρ
 | .dctT k v,ρ=>(ev k ρ).bind fun a ρ=>(ev v ρ).bind fun b ρ=>bnd (Kx a b) fun o=>.ok o ρ
 | .bi k a b,ρ=>(dJ a ρ).bind fun x ρ=>(dJ b ρ).bind fun y ρ=>pM (i7 k) true [x,y] ρ
 | .un k a,ρ=>(dJ a ρ).bind fun x ρ=>pM (Ku k) false [x] ρ
 | .cm k a b,ρ=>(dJ a ρ).bind fun x ρ=>(dJ b ρ).bind fun y ρ=>pM (AQ k) false [x,y] ρ
 | .cm2 k l a b c,ρ=>(dJ a ρ).bind fun x ρ=>(dJ b ρ).bind fun y ρ=>bnd (qU y) fun _=>(pM (AQ k) false [x,y] ρ).bind fun r ρ=>bnd (qS r) fun t=>jR t ((dJ c ρ).bind fun z ρ=>pM (AQ l) false [y,z] ρ) (.ok (.d (.bl false)) ρ)
 | .band es,ρ=>pN es ρ
 | .bor es,ρ=>wu es ρ
 | .bnot a,ρ=>(dJ a ρ).bind fun a ρ=>(aj a ρ).bind fun o ρ=>(Res.of (qQ o.frz) ρ).bind fun b ρ=>.ok (.d (.bl (! b))) (back a o ρ)
 | .ite c a b,ρ=>(qV c ρ).bind fun t ρ=>jR t (ev a ρ) (ev b ρ)
 | .idx a b,ρ=>(dJ a ρ).bind fun x ρ=>(dJ b ρ).bind fun y ρ=>Fb bU Bc [x,y] ρ
 | .slc a l h,ρ=>(dJ a ρ).bind fun x ρ=>(dJ l ρ).bind fun y ρ=>bnd (kx l y ρ) fun _=>(dJ h ρ).bind fun z ρ=>bnd (kx h z ρ) fun _=>pM ig true [x,y,z] ρ
 | .rev a,ρ=>(dJ a ρ).bind fun x ρ=>pM Iu true [x] ρ
 | .fld C a f,ρ=>(dJ a ρ).bind fun x ρ=>Fb (Iv C f) (fun _=>.exc C [.str f,.non]) [x] ρ
 | .frz a,ρ=>(ev a ρ).bind fun o ρ=>.ok (.d o.frz) ρ
 | .lck i a,ρ=>bnd (ax ρ i) fun o=>bnd (lN (.d o.frz)) fun _=>(ev a (ρ.set i (some (.d o.frz)))).noX
 | .pkcm k i path b,ρ=>bnd (ax ρ i) fun o=>(qh path (ρ.set i none)).bind fun ks ρ=>bnd (dZ ks o fun o=>some (o,o)) fun p=>(ev b ρ).bind fun v ρ=>bnd (aB k p.1.frz v.frz) fun r=>.ok (.d (.bl r)) (ρ.set i (some o))
 | .prop C _ f a,ρ=>(dJ a ρ).bind fun x ρ=>bnd (m8 x ρ) fun o=>bnd (Bf C o.frz) fun _=>(i9 (Φ f) [x] ρ).noX
 | .fn k es,ρ=>(cj es ρ).bind fun as ρ=>pM (yQ k) (Ba k) as ρ
 | .ofn sh f es,ρ=>(cj es ρ).bind fun as ρ=>pM f sh as ρ
 | .oex f,ρ=>bnd (f ρ) fun p=>.ok p.1 p.2
 | .isa cs ts a,ρ=>(dJ a ρ).bind fun x ρ=>pM (fQ cs ts) false [x] ρ
 | .mt k a es,ρ=>(dJ a ρ).bind fun x ρ=>bnd (m8 x ρ) fun o=>bnd (cy k o.frz) fun _=>(cj es ρ).bind fun as ρ=>pM (qp k) true (x::as) ρ
 | .mu k i path es,ρ=>bnd (ax ρ i) fun o=>(qh path (ρ.set i none)).bind fun ks ρ=>bnd (dZ ks o fun o=>(qg k o).map fun _=>(.d .non,o)) fun _=>(lJ es ρ).bind fun os ρ=>bnd (dZ ks o fun o=>Bb k o os) fun p=>.ok p.1 (ρ.set i (some p.2))
 | .call f es,ρ=>(cj es ρ).bind fun as ρ=>i9 (Φ f) as ρ
 | .meth C nm f a es g,ρ=>(dJ a ρ).bind fun x ρ=>bnd (m8 x ρ) fun o=>bnd (DF C nm o.frz) fun _=>(cj es ρ).bind fun as ρ=>bnd (arr (x::as) g) fun as=>i9 (Φ f) as ρ
 | .callp f es g,ρ=>(cj es ρ).bind fun as ρ=>bnd (arr as g) fun as=>i9 (Φ f) as ρ
 | .make C f es g,ρ=>(cj es ρ).bind fun as ρ=>bnd (arr (.val (.obj C [] [])::as) g) fun as=>wt (Φ f) as ρ
 | .makeL i C f es g,ρ=>bnd (ax ρ i) fun o=>bnd (IB C o) fun _=>(cj es ρ).bind fun as ρ=>bnd (arr (.val (.obj C [] [])::as) g) fun as=>wt (Φ f) as ρ
 | .cmeth C f es g,ρ=>(cj es ρ).bind fun as ρ=>bnd (arr (.val (.d (IA C))::as) g) fun as=>i9 (Φ f) as ρ
 | .never,ρ=>.bad
 | .dlen C f a,ρ=>(dJ a ρ).bind fun x ρ=>bnd (m8 x ρ) fun o=>bnd (Bf C o.frz) fun _=>(i9 (Φ f) [x] ρ).noX.bind fun o ρ=>bnd (IC o) fun o=>.ok o ρ
 | .din neg C f a b,ρ=>(dJ a ρ).bind fun x ρ=>(dJ b ρ).bind fun y ρ=>bnd (m8 y ρ) fun o=>bnd (Bf C o.frz) fun _=>(i9 (Φ f) [y,x] ρ).noX.bind fun o ρ=>bnd (Gj neg o) fun o=>.ok o ρ
 | .deq neg C f a b,ρ=>(dJ a ρ).bind fun x ρ=>(dJ b ρ).bind fun y ρ=>bnd (m8 x ρ) fun o=>bnd (Bf C o.frz) fun _=>bnd (m8 y ρ) fun o2=>bnd (DG C o2.frz) fun _=>(i9 (Φ f) [x,y] ρ).noX.bind fun o ρ=>bnd (Gj neg o) fun o=>.ok o ρ
 | .comp .lst e own t it ifs,ρ=>(n9 it ρ).bind fun p ρ=>((bq (fun x ρ=>bnd (aH t x ρ) fun ρ=>(dW ifs ρ).bind fun b ρ=>jR b ((ev e ρ).bind fun o ρ=>.ok (some o) (ar own ρ)) (.ok none (ar own ρ))) p.2.2 (ar own ρ)).noX).bind fun os ρ'=>.ok (.lst os) (b7 p.1 p.2.1 (hI own ρ ρ'))
 | .comp .set e own t it ifs,ρ=>(n9 it ρ).bind fun p ρ=>(bq (fun x ρ=>bnd (aH t x ρ) fun ρ=>(dW ifs ρ).bind fun b ρ=>jR b ((ev e ρ).bind fun o ρ=>.ok (some o) (ar own ρ)) (.ok none (ar own ρ))) p.2.2 (ar own ρ)).outL fun ρ'=>b7 p.1 p.2.1 (hI own ρ ρ')
 | .comp2 e own t it ifs t2 it2 ifs2,ρ=>(n9 it ρ).bind fun p ρ=>((Be (fun x ρ=>bnd (aH t x ρ) fun ρ=>(dW ifs ρ).bind fun b ρ=>jR b ((n9 it2 ρ).bind fun q ρ=>(bq (fun y ρ=>bnd (aH t2 y ρ) fun ρ=>(dW ifs2 ρ).bind fun b ρ=>jR b ((ev e ρ).bind fun o ρ=>.ok (some o) (ar (fq t2) ρ)) (.ok none (ar (fq t2) ρ))) q.2.2 (ar (fq t2) ρ)).bind fun os ρ=>.ok os (ar own (b7 q.1 q.2.1 ρ))) (.ok [] (ar own ρ))) p.2.2 (ar own ρ)).noX).bind fun os ρ'=>bnd (Kv os) fun o=>.ok o (b7 p.1 p.2.1 (hI own ρ ρ'))
 | .dcomp k v own t it ifs,ρ=>.bad
def lJ:List SE→Env→Res (List O)
 | [],ρ=>.ok [] ρ
 | e::es,ρ=>(ev e ρ).bind fun o ρ=>(lJ es ρ).bind fun os ρ=>.ok (o::os) ρ
def dJ:SE→Env→Res Arg
 | .var i,ρ=>bnd (ax ρ i) fun _=>.ok (.slot i) ρ
 | e,ρ=>(ev e ρ).bind fun o ρ=>.ok (.val o) ρ
def cj:List SE→Env→Res (List Arg)
 | [],ρ=>.ok [] ρ
 | e::es,ρ=>(dJ e ρ).bind fun a ρ=>(cj es ρ).bind fun as ρ=>.ok (a::as) ρ
def qh:List SE→Env→Res (List D)
 | [],ρ=>.ok [] ρ
 | e::es,ρ=>(qh es ρ).bind fun ks ρ=>((ev e ρ).noX).bind fun o ρ=>.ok (ks++[o.frz]) ρ
def qV:SE→Env→Res Bool
 | .band es,ρ=>qW es ρ
 | .bor es,ρ=>nh es ρ
 | .bnot a,ρ=>(qV a ρ).bind fun b ρ=>.ok (! b) ρ
 | e,ρ=>(dJ e ρ).bind fun a ρ=>(aj a ρ).bind fun o ρ=>(Res.of (qQ o.frz) ρ).bind fun b ρ=>.ok b (back a o ρ)
def qW:List SE→Env→Res Bool
 | [],ρ=>.ok true ρ
 | e::es,ρ=>(qV e ρ).bind fun b ρ=>jR b (qW es ρ) (.ok false ρ)
def nh:List SE→Env→Res Bool
 | [],ρ=>.ok false ρ
 | e::es,ρ=>(qV e ρ).bind fun b ρ=>jR b (.ok true ρ) (nh es ρ)
def dW:List SE→Env→Res Bool
 | [],ρ=>.ok true ρ
 | [e],ρ=>qV e ρ
 | _,_=>.bad
def pN:List SE→Env→Res O
 | [],ρ=>.bad
 | [e],ρ=>ev e ρ
 | e::es,ρ=>(ev e ρ).bind fun o ρ=>bnd (qS o) fun b=>jR b (pN es ρ) (.ok (.d (.bl false)) ρ)
def wu:List SE→Env→Res O
 | [],ρ=>.bad
 | [e],ρ=>ev e ρ
 | e::es,ρ=>(ev e ρ).bind fun o ρ=>bnd (qS o) fun b=>jR b (.ok (.d (.bl true)) ρ) (wu es ρ)
def n9:IE→Env→Res (List Arg×List O×List D)
 | .of e,ρ=>(dJ e ρ).bind fun a ρ=>(aj a ρ).bind fun o ρ=>(Res.of (jP o.frz) ρ).bind fun ds ρ=>.ok ([a],[o.shal],ds) ρ
 | .range es,ρ=>(lJ es ρ).bind fun os ρ=>(Res.of (nE os) ρ).bind fun ds ρ=>.ok ([],[],ds) ρ
 | .enum e,ρ=>(dJ e ρ).bind fun a ρ=>(aj a ρ).bind fun o ρ=>(Res.of (DC o.frz) ρ).bind fun ds ρ=>.ok ([a],[o.shal],fE 0 ds) ρ
 | .zip a b,ρ=>(dJ a ρ).bind fun a ρ=>(dJ b ρ).bind fun b ρ=>(aj a ρ).bind fun o ρ=>(aj b ρ).bind fun o2 ρ=>(Res.of (Iw o.frz o2.frz) ρ).bind fun ds ρ=>.ok ([a,b],[o.shal,o2.shal],ds) ρ
 | .items e,ρ=>.bad
 | .vals e,ρ=>.bad
 | .rev e,ρ=>.bad
 | .keys i,ρ=>bnd (ax ρ i) fun o=>bnd (lN o) fun ds=>.ok ([],[],ds) ρ
 | .gen f e,ρ=>(dJ e ρ).bind fun a ρ=>(aj a ρ).bind fun o ρ=>(Res.of (f o.frz) ρ).bind fun ds ρ=>.ok ([a],[o.shal],ds) ρ
 | .zipM a b,ρ=>(dJ a ρ).bind fun a ρ=>(dJ b ρ).bind fun b ρ=>(aj a ρ).bind fun o ρ=>(aj b ρ).bind fun o2 ρ=>(Res.of (Iy o.frz o2.frz) ρ).bind fun ds ρ=>.ok ([a,b],[o.shal,o2.shal],ds) ρ
end
end
end PV
namespace PV
open PySem L2
def Res.mapE {α:Type} (r:Res α) (g:Env→Env):Res α:=match r with
 | .ok a ρ=>.ok a (g ρ)
 | .exc C p ρ=>.exc C p (g ρ)
 | .bad=>.bad
@[simp] theorem Res.mapE_ok {α:Type}{a:α}{ρ:Env}{g:Env→Env}:(Res.ok a ρ).mapE g = .ok a (g ρ):=rfl
@[simp] theorem Res.mapE_exc {α:Type}{C:Nat}{p:List D}{ρ:Env}{g:Env→Env}:(Res.exc C p ρ:Res α).mapE g = .exc C p (g ρ):=rfl
def Res.caught (r:Res Fl) (cs:List Nat) (e x:Nat):Res Fl:=match r with
 | .exc C p ρ=>if C∈cs then .ok .nx ((ρ.set e none).set x (some (.d (.exc C p))))else .bad
 | r=>r
@[simp] theorem Res.caught_ok {f:Fl}{ρ:Env}{cs:List Nat}{e x:Nat}:(Res.ok f ρ).caught cs e x = .ok f ρ:=rfl
@[simp] theorem Res.caught_exc {C:Nat}{p:List D}{ρ:Env}{cs:List Nat}{e x:Nat}:(Res.exc C p ρ:Res Fl).caught cs e x=if C∈cs then .ok .nx ((ρ.set e none).set x (some (.d (.exc C p))))else .bad:=rfl
@[simp] theorem Res.caught_bad {cs:List Nat}{e x:Nat}:(Res.bad:Res Fl).caught cs e x = .bad:=rfl
def Fl.whl:Fl→Option Fl
 | .nx=>none
 | .ct=>none
 | .bk=>some .nx
 | .rt o=>some (.rt o)
def nH:O→Option D
 | .d x=>some x
 | _=>none
def setPath (ks:List D) (o v:O):Option O:=match ks.getLast? with
 | some k=>(dZ ks.dropLast o fun o=>(qR o k v).map fun o'=>(.d .non,o')).map (·.2)
 | none=>none
def getPath:List D→D→Option D
 | [],d=>some d
 | k::ks,d=>match bU [d,k]with
  | some (.d e)=>getPath ks e
  | _=>none
def xT (C:Nat):Bool:=C == 2||C == 6||C == 7||C == 12||C == 13||C == 14
def qX (C:Nat) (os:List O):List D:=if xT C then os.map O.frz else []
def setAt (i j:Nat) (v:O) (ρ:Env):Option Env:=match ax ρ i,ax ρ j with
 | some o,some (.d k)=>(qR o k v).map fun o'=>ρ.set i (some o')
 | _,_=>none
section
variable (Φ:cU)
mutual
noncomputable def bo:SS→Env→Res Fl
 | .asg t e,ρ=>(ev Φ e ρ).bind fun o ρ=>bnd (aQ t o ρ) fun ρ=>.ok .nx ρ
 | .sub i path e,ρ=>(ev Φ e ρ).bind fun v ρ=>bnd (ax ρ i) fun o=>(qh Φ path (ρ.set i none)).bind fun ks ρ=>bnd (setPath ks o v) fun o'=>.ok .nx (ρ.set i (some o'))
 | .fld i C f e,ρ=>(ev Φ e ρ).bind fun v ρ=>bnd (ax ρ i) fun o=>bnd (DD C f v o) fun o'=>.ok .nx (ρ.set i (some o'))
 | .aug i k e,ρ=>bnd (ax ρ i) fun x=>bnd (nH x) fun x=>(ev Φ e ρ).bind fun v ρ=>bnd (i7 k [x,v.frz]) fun r=>.ok .nx (ρ.set i (some r))
 | .augs i path k e,ρ=>bnd (ax ρ i) fun o=>(qh Φ path (ρ.set i none)).bind fun ks ρ=>bnd (getPath ks o.frz) fun x=>(ev Φ e ρ).bind fun v ρ=>bnd (i7 k [x,v.frz]) fun r=>bnd (setPath ks o r) fun o'=>.ok .nx (ρ.set i (some o'))
 | .sub2 i j k e1 e2,ρ=>(ev Φ e1 ρ).bind fun o1 ρ=>(ev Φ e2 ρ).bind fun o2 ρ=>bnd (setAt i j o1 ρ) fun ρ=>bnd (setAt i k o2 ρ) fun ρ=>.ok .nx ρ
 | .exp e,ρ=>(ev Φ e ρ).bind fun _ ρ=>.ok .nx ρ
 | .ret e,ρ=>(ev Φ e ρ).bind fun o ρ=>.ok (.rt o) ρ
 | .retN,ρ=>.ok (.rt (.d .non)) ρ
 | .ite c a b,ρ=>(qV Φ c ρ).bind fun t ρ=>jR t (bC a ρ) (bC b ρ)
 | .for t it b,ρ=>(n9 Φ it ρ).bind fun p ρ=>(forL (fun x ρ=>bnd (aH t x ρ) fun ρ=>bC b ρ) p.2.2 ρ).mapE (b7 p.1 p.2.1)
 | .whl c b,ρ=>Kw (fun ρ=>(qV Φ c ρ).bind fun t ρ=>jR t ((bC b ρ).bind fun f ρ=>.ok f.whl ρ) (.ok (some .nx) ρ)) ρ
 | .rse C es,ρ=>(lJ Φ es ρ).bind fun os ρ=>.exc C (qX C os) ρ
 | .try cs b e x,ρ=>(bC b ρ).caught cs e x
 | .pass,ρ=>.ok .nx ρ
 | .brk,ρ=>.ok .bk ρ
 | .cont,ρ=>.ok .ct ρ
 | .kill l,ρ=>.ok .nx (ar l ρ)
 | .never,ρ=>.bad
 | .osl f,ρ=>bnd (f ρ) fun ρ=>.ok .nx ρ
 | .lck i s,ρ=>bnd (ax ρ i) fun o=>bnd (lN (.d o.frz)) fun _=>(bo s (ρ.set i (some (.d o.frz)))).noX
noncomputable def bC:List SS→Env→Res Fl
 | [],ρ=>.ok .nx ρ
 | s::ss,ρ=>(bo s ρ).bind fun e ρ=>e.seq (bC ss) ρ
end
end
def bp:List O→Env→Option (List O)
 | [],_=>some []
 | .d x::r,ρ=>(bp r (ρ.drop 1)).map (.d x :: ·)
 | _::r,ρ=>match ρ with
  | some o::ρ'=>(bp r ρ').map (o :: ·)
  | _=>none
def Res.done (r:Res Fl) (args:List O):bA:=match r with
 | .ok (.rt o) ρ=>(match bp args ρ with
  | some ios=>.ok o ios
  | none=>.bad)
 | .ok .nx ρ=>(match bp args ρ with
  | some ios=>.ok (.d .non) ios
  | none=>.bad)
 | .exc C p ρ=>(match bp args ρ with
  | some ios=>.exc C p ios
  | none=>.bad)
 | _=>.bad
noncomputable def fR (Φ:cU) (b:List SS) (m:Nat) (args:List O):bA :=
 (bC Φ b (args.map some++List.replicate (m - args.length) none)).done args
end PV
namespace PV
open PySem L2
def ah:Env→St→List bf
 | some o::ρ,some v::σ=>(o,v)::ah ρ σ
 | _::ρ,_::σ=>ah ρ σ
 | _,_=>[]
def bJ:Env→St→Prop
 | [],[]=>True
 | some _::ρ,some _::σ=>bJ ρ σ
 | none::ρ,_::σ=>bJ ρ σ
 | _,_=>False
theorem bJ.len:∀ {ρ:Env}{σ:St},bJ ρ σ→ρ.length=σ.length
 | [],[],_=>rfl
 | some _::ρ,some _::σ,h=>by simp [bJ.len (ρ:=ρ) (σ:=σ) h]
 | none::ρ,none::σ,h=>by simp [bJ.len (ρ:=ρ) (σ:=σ) h]
 | none::ρ,some _::σ,h=>by simp [bJ.len (ρ:=ρ) (σ:=σ) h]
 | some _::_,none::_,h=>h.elim
 | [],_::_,h=>h.elim
 | some _::_,[],h=>h.elim
 | none::_,[],h=>h.elim
theorem bJ.at:∀ {ρ:Env}{σ:St}{i:Nat}{o:O},bJ ρ σ→ax ρ i=some o→∃ v,σ[i]?=some (some v)
 | some p::ρ,some v::σ,0,o,h,e=>⟨v,rfl⟩
 | some p::ρ,some v::σ,i+1,o,h,e=>by
  obtain⟨w,q⟩:=bJ.at (ρ:=ρ) (σ:=σ) (i:=i) h e
  exact⟨w,by simpa using q⟩
 | none::ρ,_::σ,0,o,h,e=>by simp at e
 | none::ρ,s::σ,i+1,o,h,e=>by
  obtain⟨w,q⟩:=bJ.at (ρ:=ρ) (σ:=σ) (i:=i) h e
  exact⟨w,by simpa using q⟩
 | [],σ,i,o,h,e=>by simp at e
 | some _::_,none::_,i,o,h,e=>h.elim
 | some _::_,[],i,o,h,e=>h.elim
theorem bJ.clear:∀ {ρ:Env}{σ:St} (i:Nat),bJ ρ σ→bJ (ρ.set i none) σ
 | [],[],i,h=>h
 | some p::ρ,some v::σ,0,h=>h
 | some p::ρ,some v::σ,i+1,h=>bJ.clear (ρ:=ρ) (σ:=σ) i h
 | none::ρ,s::σ,0,h=>h
 | none::ρ,s::σ,i+1,h=>bJ.clear (ρ:=ρ) (σ:=σ) i h
 | [],_::_,i,h=>h.elim
 | some _::_,none::_,i,h=>h.elim
 | some _::_,[],i,h=>h.elim
 | none::_,[],i,h=>h.elim
theorem bJ.put:∀ {ρ:Env}{σ:St} (i:Nat) (o:O) (v:V),bJ ρ σ→bJ (ρ.set i (some o)) (σ.set i (some v))
 | [],[],i,o,v,h=>h
 | some p::ρ,some w::σ,0,o,v,h=>h
 | some p::ρ,some w::σ,i+1,o,v,h=>bJ.put (ρ:=ρ) (σ:=σ) i o v h
 | none::ρ,s::σ,0,o,v,h=>h
 | none::ρ,s::σ,i+1,o,v,h=>by
  show bJ (none::ρ.set i (some o)) (s::σ.set i (some v))
  exact bJ.put (ρ:=ρ) (σ:=σ) i o v h
 | [],_::_,i,o,v,h=>h.elim
 | some _::_,none::_,i,o,v,h=>h.elim
 | some _::_,[],i,o,v,h=>h.elim
 | none::_,[],i,o,v,h=>h.elim
theorem bJ.fill:∀ {ρ:Env}{σ:St}{i:Nat}{v:V} (o:O),bJ ρ σ→σ[i]?=some (some v)→bJ (ρ.set i (some o)) σ
 | [],[],i,v,o,h,e=>h
 | some p::ρ,some w::σ,0,v,o,h,e=>h
 | some p::ρ,some w::σ,i+1,v,o,h,e=>bJ.fill (ρ:=ρ) (σ:=σ) (i:=i) o h (by simpa using e)
 | none::ρ,some s::σ,0,v,o,h,e=>h
 | none::ρ,none::σ,0,v,o,h,e=>by simp at e
 | none::ρ,s::σ,i+1,v,o,h,e=>by
  show bJ (none::ρ.set i (some o)) (s::σ)
  exact bJ.fill (ρ:=ρ) (σ:=σ) (i:=i) o h (by simpa using e)
 | [],_::_,i,v,o,h,e=>h.elim
 | some _::_,none::_,i,v,o,h,e=>h.elim
 | some _::_,[],i,v,o,h,e=>h.elim
 | none::_,[],i,v,o,h,e=>h.elim
theorem oa:∀ {ρ:Env}{σ:St}{i:Nat}{o:O}{v:V},ax ρ i=some o→σ[i]?=some (some v)→(ah ρ σ).Perm ((o,v)::ah (ρ.set i none) σ)
 | some p::ρ,some w::σ,0,o,v,e,e'=>by
  simp at e e'
  subst e e'
  exact .refl _
 | some p::ρ,some w::σ,i+1,o,v,e,e'=>by
  have q:=oa (ρ:=ρ) (σ:=σ) (i:=i) (o:=o) (v:=v) e (by simpa using e')
  exact(q.cons (p,w)).trans (.swap _ _ _)
 | some p::ρ,none::σ,0,o,v,e,e'=>by simp at e'
 | some p::ρ,none::σ,i+1,o,v,e,e'=>by
  have q:=oa (ρ:=ρ) (σ:=σ) (i:=i) (o:=o) (v:=v) e (by simpa using e')
  simpa [ah]using q
 | none::ρ,s::σ,0,o,v,e,e'=>by simp at e
 | none::ρ,s::σ,i+1,o,v,e,e'=>by
  have q:=oa (ρ:=ρ) (σ:=σ) (i:=i) (o:=o) (v:=v) e (by simpa using e')
  cases s <;> simpa [ah]using q
 | [],σ,i,o,v,e,e'=>by simp at e
 | _::_,[],i,o,v,e,e'=>by simp at e'
theorem og:∀ {ρ:Env}{σ:St}{i:Nat} (o:O) (v:V),i < ρ.length→i < σ.length→(ah (ρ.set i (some o)) (σ.set i (some v))).Perm ((o,v)::ah (ρ.set i none) σ)
 | p::ρ,s::σ,0,o,v,h,h'=>by
  cases s <;> exact .refl _
 | some p::ρ,some w::σ,i+1,o,v,h,h'=>by
  have q:=og (ρ:=ρ) (σ:=σ) (i:=i) o v (by simpa using h) (by simpa using h')
  exact(q.cons (p,w)).trans (.swap _ _ _)
 | some p::ρ,none::σ,i+1,o,v,h,h'=>by
  have q:=og (ρ:=ρ) (σ:=σ) (i:=i) o v (by simpa using h) (by simpa using h')
  simpa [ah]using q
 | none::ρ,s::σ,i+1,o,v,h,h'=>by
  have q:=og (ρ:=ρ) (σ:=σ) (i:=i) o v (by simpa using h) (by simpa using h')
  cases s <;> simpa [ah]using q
 | [],σ,i,o,v,h,h'=>by simp at h
 | _::_,[],i,o,v,h,h'=>by simp at h'
theorem Bh {ρ:Env}{σ:St}{i:Nat} (o:O) {v:V} (h:i < ρ.length) (e:σ[i]?=some (some v)):(ah (ρ.set i (some o)) σ).Perm ((o,v)::ah (ρ.set i none) σ):=by
 have hi:i < σ.length:=by
  rcases Nat.lt_or_ge i σ.length with z | z
  ·exact z
  ·rw [List.getElem?_eq_none z]at e; cases e
 have q:=og (ρ:=ρ) (σ:=σ) o v h hi
 have es:σ.set i (some v)=σ:=by
  apply List.ext_getElem?
  intro j
  by_cases hj:j=i
  ·subst hj; rw [List.getElem?_set_self hi,e]
  ·rw [List.getElem?_set_ne (Ne.symm hj)]
 rwa [es]at q
theorem mL {ρ:Env}{i:Nat}{o:O} (e:ax ρ i=some o):i < ρ.length:=by
 rcases Nat.lt_or_ge i ρ.length with z | z
 ·exact z
 ·unfold ax at e
  rw [List.getElem?_eq_none z]at e
  cases e
theorem oh {σ:St}{i:Nat}{v:V} (e:σ[i]?=some (some v)):i < σ.length:=by
 rcases Nat.lt_or_ge i σ.length with z | z
 ·exact z
 ·rw [List.getElem?_eq_none z]at e; cases e
section
variable {T:Tab}{B:Base}{H H':Hp}{ρ ρ':Env}{σ:St}{l:List bf}{o:O}{v:V}{i:Nat}{x:D}
structure At (T:Tab) (B:Base) (H:Hp) (ρ:Env) (σ:St) (l:List bf):Prop where
 ok:bJ ρ σ
 sat:Sat T B H (ah ρ σ++l)
 pr:∀ p∈B.pr,σ[p.1]?=some (some p.2)
theorem At.take (a:At T B H ρ σ l) (e:ax ρ i=some o) (ev:σ[i]?=some (some v)):At T B H (ρ.set i none) σ ((o,v)::l):=by
 refine⟨a.ok.clear i,a.sat.perm ?_,a.pr⟩
 exact((oa e ev).append_right l).trans List.perm_middle.symm
theorem At.fill (a:At T B H ρ σ ((o,v)::l)) (h:ax ρ i=none) (hi:i < ρ.length) (ev:σ[i]?=some (some v)):At T B H (ρ.set i (some o)) σ l:=by
 refine⟨a.ok.fill o ev,a.sat.perm ?_,a.pr⟩
 have q:=(Bh (ρ:=ρ) o hi ev).append_right l
 have e:ρ.set i none=ρ:=by
  apply List.ext_getElem?
  intro j
  by_cases hj:j=i
  ·subst hj
   rw [List.getElem?_set_self hi]
   unfold ax at h
   cases q:ρ[j]? with
   | none=>rw [List.getElem?_eq_none_iff]at q; omega
   | some w=>rw [q]at h; cases w with
    | none=>rfl
    | some w=>cases h
  ·rw [List.getElem?_set_ne (Ne.symm hj)]
 rw [e]at q
 exact List.perm_middle.trans q.symm
theorem At.drop (a:At T B H ρ σ ((o,v)::l)):At T B H ρ σ l:=⟨a.ok,(a.sat.perm List.perm_middle).drop1,a.pr⟩
theorem At.perm {m:List bf} (a:At T B H ρ σ l) (p:l.Perm m):At T B H ρ σ m:=⟨a.ok,a.sat.perm (p.append_left _),a.pr⟩
theorem At.clear (a:At T B H ρ σ l) (i:Nat):At T B H (ρ.set i none) σ l:=by
 cases e:ax ρ i with
 | none =>
  have:ρ.set i none=ρ:=by
   apply List.ext_getElem?
   intro j
   by_cases hj:j=i
   ·subst hj
    rcases Nat.lt_or_ge j ρ.length with z | z
    ·rw [List.getElem?_set_self z]
     unfold ax at e
     cases q:ρ[j]? with
     | none=>rw [List.getElem?_eq_none_iff]at q; omega
     | some w=>rw [q]at e; cases w with
      | none=>rfl
      | some w=>cases e
    ·rw [List.getElem?_eq_none (by simpa using z),List.getElem?_eq_none z]
   ·rw [List.getElem?_set_ne (Ne.symm hj)]
  rw [this]; exact a
 | some o =>
  obtain⟨v,ev⟩:=a.ok.at e
  exact(a.take e ev).drop
theorem At.kill:∀ {is:List Nat}{ρ:Env},At T B H ρ σ l→At T B H (ar is ρ) σ l
 | [],ρ,a=>a
 | i::is,ρ,a=>At.kill (is:=is) (a.clear i)
theorem At.store (a:At T B H ρ σ ((o,v)::l)) (hi:i < ρ.length) (hp:∀ p∈B.pr,p.1≠i):At T B H (ρ.set i (some o)) (σ.set i (some v)) l:=by
 have c:=a.clear i
 refine⟨a.ok.put i o v,c.sat.perm ?_,fun p hp'=>by rw [List.getElem?_set_ne (Ne.symm (hp p hp'))]; exact a.pr p hp'⟩
 have q:=(og (ρ:=ρ) (σ:=σ) o v hi (by rw [← a.ok.len]; exact hi)).append_right l
 exact List.perm_middle.trans q.symm
end
def ak:Arg→V→List bf
 | .slot _,_=>[]
 | .val o,v=>[(o,v)]
def oi (σ:St):Arg→V→Prop
 | .slot i,v=>σ[i]?=some (some v)
 | .val _,_=>True
def aD:List Arg→List V→List bf
 | a::as,v::vs=>ak a v++aD as vs
 | _,_=>[]
def cz (σ:St):List Arg→List V→Prop
 | [],[]=>True
 | a::as,v::vs=>oi σ a v∧cz σ as vs
 | _,_=>False
def tW (T:Tab) (H:Hp) (C:Nat) (p:List D) (d:Option Addr) (its:List bf):Prop:=match p with
 | []=>d=none∧its = []
 | [x]=>∃ dx v,d=some dx∧H dx=some (.xd [(fx C,v)])∧its = [(.d x,v)]
 | _=>False
section
variable {T:Tab}{B:Base}{H H':Hp}{ρ ρ':Env}{σ:St}{l:List bf}{o:O}{v:V}{i:Nat}{x:D}
theorem oj {a:Arg} (s:At T B H ρ σ (ak a v++l)) (av:oi σ a v) (e:aj a ρ = .ok o ρ'):At T B H ρ' σ ((o,v)::l):=by
 cases a with
 | val p =>
  injection e with e1 e2
  subst e1 e2
  exact s
 | slot i =>
  have av:σ[i]?=some (some v):=av
  have s:At T B H ρ σ l:=s
  have e:bnd (ax ρ i) (fun o=>Res.ok o (aj.taken o i ρ)) = .ok o ρ':=e
  cases q:ax ρ i with
  | none=>rw [q]at e; cases e
  | some p =>
   rw [q]at e
   injection e with e1 e2
   subst e1
   have t:=s.take q av
   have hi:=mL q
   cases p with
   | d x =>
    have e2:ρ=ρ':=e2
    subst e2
    have t2:At T B H (ρ.set i none) σ ((.d x,v)::(.d x,v)::l):=⟨t.ok,((t.sat.perm List.perm_middle).dup).perm (List.perm_middle.trans (List.perm_middle.cons _)).symm,t.pr⟩
    have t3:=t2.fill (i:=i) (by unfold ax; rw [List.getElem?_set_self hi]; rfl) (by simpa using hi) av
    rw [List.set_set]at t3
    have es:ρ.set i (some (.d x))=ρ:=by
     apply List.ext_getElem?
     intro j
     by_cases hj:j=i
     ·subst hj
      rw [List.getElem?_set_self hi]
      unfold ax at q
      cases q':ρ[j]? with
      | none=>rw [q']at q; cases q
      | some w=>rw [q']at q; cases w with
       | none=>cases q
       | some w=>cases q; rfl
     ·rw [List.getElem?_set_ne (Ne.symm hj)]
    rwa [es]at t3
   | lst xs =>
    have e2:ρ.set i none=ρ':=e2
    subst e2; exact t
   | tup xs =>
    have e2:ρ.set i none=ρ':=e2
    subst e2; exact t
   | dic ks xs =>
    have e2:ρ.set i none=ρ':=e2
    subst e2; exact t
   | obj C ns xs =>
    have e2:ρ.set i none=ρ':=e2
    subst e2; exact t
theorem cz.len {σ:St}:∀ {as:List Arg}{vs:List V},cz σ as vs→as.length=vs.length
 | [],[],_=>rfl
 | a::as,v::vs,h=>by simp [cz.len (as:=as) (vs:=vs) h.2]
 | [],_::_,h=>h.elim
 | _::_,[],h=>h.elim
theorem Res.bind_of {α β:Type}{r:Res α}{f:α→Env→Res β}{b:β} (e:r.bind f = .ok b ρ'):∃ a ρ1,r = .ok a ρ1∧f a ρ1 = .ok b ρ':=by
 cases r with
 | ok a ρ1=>exact⟨a,ρ1,rfl,e⟩
 | exc C p ρ1=>cases e
 | bad=>cases e
theorem mM:∀ {as:List Arg}{vs:List V}{ρ ρ':Env}{l:List bf}{os:List O},At T B H ρ σ (aD as vs++l)→cz σ as vs→dE as ρ = .ok os ρ'→os.length=vs.length∧At T B H ρ' σ (os.zip vs++l)
 | [],[],ρ,ρ',l,os,s,_,e=>by
  injection e with e1 e2
  subst e1 e2
  exact⟨rfl,s⟩
 | a::as,v::vs,ρ,ρ',l,os,s,av,e=>by
  have e:((aj a ρ).bind fun o ρ=>(dE as ρ).bind fun os ρ=>Res.ok (o::os) ρ) = .ok os ρ':=e
  obtain⟨o,ρ1,e1,e⟩:=Res.bind_of e
  obtain⟨os',ρ2,e2,e⟩:=Res.bind_of e
  injection e with e3 e4
  subst e3 e4
  have s1:At T B H ρ σ (ak a v++(aD as vs++l)):=by
   have s:At T B H ρ σ ((ak a v++aD as vs)++l):=s
   rwa [List.append_assoc]at s
  have s2:=oj s1 av.1 e1
  have s3:At T B H ρ1 σ (aD as vs++(o,v)::l):=s2.perm List.perm_middle.symm
  obtain⟨hl,s4⟩:=mM s3 av.2 e2
  exact⟨by simp [hl],s4.perm List.perm_middle⟩
 | [],_::_,ρ,ρ',l,os,s,av,e=>av.elim
 | _::_,[],ρ,ρ',l,os,s,av,e=>av.elim
theorem yU {a:Arg} (s:At T B H ρ σ ((o,v)::l)) (av:oi σ a v):At T B H (back a o ρ) σ l:=by
 cases a with
 | val p=>exact s.drop
 | slot i =>
  have av:σ[i]?=some (some v):=av
  have hi:i < ρ.length:=by rw [s.ok.len]; exact oh av
  have t:=(s.clear i).fill (i:=i) (by unfold ax; rw [List.getElem?_set_self hi]; rfl) (by simpa using hi) av
  rw [List.set_set]at t
  exact t
theorem iO:∀ {as:List Arg}{os:List O}{vs:List V}{ρ:Env},os.length=vs.length→At T B H ρ σ (os.zip vs++l)→cz σ as vs→At T B H (b7 as os ρ) σ l
 | [],[],[],ρ,_,s,_=>s
 | a::as,o::os,v::vs,ρ,hl,s,av=>by
  have s1:At T B H ρ σ ((o,v)::(os.zip vs++l)):=s
  exact iO (as:=as) (os:=os) (vs:=vs) (by simpa using hl) (yU s1 av.1) av.2
 | [],_::_,vs,ρ,hl,s,av=>by
  cases vs with
  | nil=>simp at hl
  | cons _ _=>exact av.elim
 | [],[],_::_,ρ,hl,s,av=>by simp at hl
 | _::_,[],[],ρ,hl,s,av=>av.elim
 | _::_,[],_::_,ρ,hl,s,av=>by simp at hl
 | _::_,_::_,[],ρ,hl,s,av=>by simp at hl
def dX (T:Tab) (B:Base) (f:List D→Option O) (sh:Bool) (xs:List V) (H:Hp) (Q:VK):Prop:=∃ (os:List O) (l:List bf) (r:O),os.length=xs.length∧Sat T B H (os.zip xs++l)∧f (os.map O.frz)=some r ∧
 ∀ u H',Sat T B H' ((r,u)::((if sh then os.map O.shal else os).zip xs++l))→Q u H'
def RP (T:Tab) (B:Base) (W:WX) (σ:St) (l:List bf) (r:Res O) (Q:VK):Prop:=match r with
 | .ok o ρ=>∀ v H,At T B H ρ σ ((o,v)::l)→Q v H
 | .exc C p ρ=>∀ d H its,At T B H ρ σ (its++l)→tW T H C p d its→W (.ref (T.cls C)) d σ H
 | .bad=>False
theorem Gk {f:List D→Option O}{sh:Bool}{as:List Arg}{vs:List V}{W:WX}{Q:VK} (s:At T B H ρ σ (aD as vs++l)) (av:cz σ as vs) (h:RP T B W σ l (pM f sh as ρ) Q):dX T B f sh vs H Q:=by
 unfold pM at h
 cases e:dE as ρ with
 | exc C p ρ1 =>
  exfalso
  have:∀ {as:List Arg}{ρ:Env},dE as ρ≠.exc C p ρ1:=by
   intro as
   induction as with
   | nil=>intro ρ z; cases z
   | cons a as ih =>
    intro ρ z
    have z:((aj a ρ).bind fun o ρ=>(dE as ρ).bind fun os ρ=>Res.ok (o::os) ρ) = .exc C p ρ1:=z
    cases ea:aj a ρ with
    | ok o ρ2 =>
     rw [ea]at z
     cases eb:dE as ρ2 with
     | ok os ρ3=>rw [Res.bind_ok,eb]at z; cases z
     | exc C' p' ρ3=>rw [Res.bind_ok,eb]at z; injection z with z1 z2 z3; subst z1 z2 z3; exact ih eb
     | bad=>rw [Res.bind_ok,eb]at z; cases z
    | exc C' p' ρ2 =>
     cases a with
     | val o=>cases ea
     | slot i =>
      have ea:bnd (ax ρ i) (fun o=>Res.ok o (aj.taken o i ρ)) = .exc C' p' ρ2:=ea
      cases q:ax ρ i <;> rw [q]at ea <;> cases ea
    | bad=>rw [ea]at z; cases z
  exact this e
 | bad=>rw [e]at h; exact h.elim
 | ok os ρ1 =>
  rw [e]at h
  obtain⟨hl,s1⟩:=mM s av e
  have h:RP T B W σ l ((Res.of (f (os.map O.frz)) ρ1).bind fun r ρ=>.ok r (b7 as (if sh then os.map O.shal else os) ρ)) Q:=h
  cases er:f (os.map O.frz)with
  | none=>rw [er]at h; exact h.elim
  | some r =>
   rw [er]at h
   refine⟨os,ah ρ1 σ++l,r,hl,s1.sat.perm ?_,er,fun u H' q=>?_⟩
   ·exact(List.perm_append_comm.trans (by rw [List.append_assoc]; exact(List.perm_append_comm (l₁:=l) (l₂:=ah ρ1 σ)).append_left _))
   ·have h:∀ v H,At T B H (b7 as (if sh then os.map O.shal else os) ρ1) σ ((r,v)::l)→Q v H:=h
    refine h u H' (iO (os:=if sh then os.map O.shal else os) (vs:=vs) (by cases sh <;> simp [hl]) ⟨s1.ok,q.perm ?_,s1.pr⟩ av)
    generalize (if sh then os.map O.shal else os).zip vs=z
    have p1:((r,u)::(z++(ah ρ1 σ++l))).Perm (z++(r,u)::(ah ρ1 σ++l)):=List.perm_middle.symm
    have p2:(z++(r,u)::(ah ρ1 σ++l)).Perm (z++(ah ρ1 σ++(r,u)::l)):=List.perm_middle.symm.append_left z
    have p3:(z++(ah ρ1 σ++(r,u)::l)).Perm (ah ρ1 σ++(z++(r,u)::l)):=by
     rw [← List.append_assoc,← List.append_assoc]
     exact List.perm_append_comm.append_right _
    exact p1.trans (p2.trans p3)
end
end PV
namespace PV
open PySem PySem.Spec PyProof.Rows L2
section
variable {T:Tab}{B:Base}{H H':Hp}{l:List bf}{o:O}{v:V}{x:D}{a:Addr}{hs:List Addr}
theorem oq {f:List D→Option O}{sh:Bool}{y:V}{Q:VK} (h:dX T B f sh [y] H Q):∃ o l r,Sat T B H ((o,y)::l)∧f [o.frz]=some r∧∀ u H',Sat T B H' ((r,u)::(if sh then o.shal else o,y)::l)→Q u H':=by
 obtain⟨os,l,r,hl,s,e,q⟩:=h
 match os,hl with
 | [o],_=>exact⟨o,l,r,s,e,fun u H' z=>q u H' (by cases sh <;> exact z)⟩
theorem Bj {f:List D→Option O}{sh:Bool}{y z:V}{Q:VK} (h:dX T B f sh [y,z] H Q):∃ o p l r,Sat T B H ((o,y)::(p,z)::l)∧f [o.frz,p.frz]=some r∧∀ u H',Sat T B H' ((r,u)::(if sh then o.shal else o,y)::(if sh then p.shal else p,z)::l)→Q u H':=by
 obtain⟨os,l,r,hl,s,e,q⟩:=h
 match os,hl with
 | [o,p],_=>exact⟨o,p,l,r,s,e,fun u H' z=>q u H' (by cases sh <;> exact z)⟩
theorem ae.int {i:Int} (s:ae T B H hs l):ae T B H hs ((.d (.int i),.int i)::l):=s.lit fun _ _=>rfl
theorem ae.bl {b:Bool} (s:ae T B H hs l):ae T B H hs ((.d (.bl b),.bl b)::l):=s.lit fun _ _=>rfl
theorem ae.str {z:Str} (s:ae T B H hs l):ae T B H hs ((.d (.str z),.str z)::l):=s.lit fun _ _=>rfl
theorem ae.non (s:ae T B H hs l):ae T B H hs ((.d .non,.non)::l):=s.lit fun _ _=>rfl
theorem ae.swap {p q:bf} (s:ae T B H hs (p::q::l)):ae T B H hs (q::p::l):=s.perm (.swap _ _ _)
theorem ae.read2 {p:bf} (s:ae T B H hs (p::(o,v)::l)):Dr T (fun _=>False) (vw B.Z H) o.frz v:=s.swap.read
theorem wx (s:ae T B H hs l) {xs:List D} (d:Dr T (fun _=>False) (vw B.Z H) (.lst xs) v):∃ a vs,v = .ref a∧SqL T.K H a vs∧jB T (fun _=>False) (vw B.Z H) xs vs:=by
 obtain⟨a,vs,e,h,d⟩:=d
 exact⟨a,vs,e,h.imp (fun z=>qM s (fun _ _ z=>nomatch z) z.2) id,d⟩
theorem Fc (s:ae T B H hs l) {xs:List D} (d:Dr T (fun _=>False) (vw B.Z H) (.tup xs) v):∃ a vs,v = .ref a∧SqT T.K H a vs∧jB T (fun _=>False) (vw B.Z H) xs vs:=by
 obtain⟨a,vs,e,h,d⟩:=d
 exact⟨a,vs,e,xS s h,d⟩
theorem iP:∀ os:List O,(O.frzL os).length=os.length
 | []=>rfl
 | o::os=>by simp [O.frzL,iP os]
theorem Sat.freezeL {os:List O}{vs:List V}:∀ {l:List bf},os.length=vs.length→ae T B H hs (os.zip vs++l)→ae T B H hs ((os.map fun o=>O.d o.frz).zip vs++l):=by
 induction os generalizing vs with
 | nil=>intro l _ s; exact s
 | cons o os ih =>
  intro l hl s
  match vs,hl with
  | v::vs,hl =>
   have s1:ae T B H hs ((o,v)::(os.zip vs++l)):=s
   have s2:ae T B H hs (os.zip vs++(O.d o.frz,v)::l):=s1.freeze.perm List.perm_middle.symm
   exact(ih (by simpa using hl) s2).perm List.perm_middle
theorem Sat.dupL {xs:List D}{vs:List V}:∀ {l:List bf},xs.length=vs.length→ae T B H hs ((xs.map O.d).zip vs++l)→ae T B H hs ((xs.map O.d).zip vs++((xs.map O.d).zip vs++l)):=by
 induction xs generalizing vs with
 | nil=>intro l _ s; exact s
 | cons x xs ih =>
  intro l hl s
  match vs,hl with
  | v::vs,hl =>
   have s1:ae T B H hs ((O.d x,v)::((xs.map O.d).zip vs++l)):=s
   have s2:ae T B H hs ((xs.map O.d).zip vs++((O.d x,v)::(O.d x,v)::l)):=s1.dup.perm ((List.perm_middle (l₁:=(xs.map O.d).zip vs)).trans ((List.perm_middle (l₁:=(xs.map O.d).zip vs)).cons _)).symm
   have s3:=ih (by simpa using hl) s2
   refine s3.perm ?_
   show((xs.map O.d).zip vs++((xs.map O.d).zip vs++((O.d x,v)::(O.d x,v)::l))).Perm ((O.d x,v)::((xs.map O.d).zip vs++((O.d x,v)::((xs.map O.d).zip vs++l))))
   have p1:((xs.map O.d).zip vs++((O.d x,v)::(O.d x,v)::l)).Perm ((O.d x,v)::(O.d x,v)::((xs.map O.d).zip vs++l)):=(List.perm_middle (l₁:=(xs.map O.d).zip vs)).trans ((List.perm_middle (l₁:=(xs.map O.d).zip vs)).cons _)
   have p2:=p1.append_left ((xs.map O.d).zip vs)
   exact p2.trans (List.perm_middle.trans (.refl _))
theorem lO (o:O):o.shal.frz=o.frz:=by
 cases o with
 | d x=>rfl
 | tup xs=>simp only [O.shal,O.frz,bM,List.map_map]; rfl
 | lst xs=>simp only [O.shal,O.frz,bM,List.map_map]; rfl
 | dic ks xs=>simp only [O.shal,O.frz,bM,List.map_map]; rfl
 | obj C ns xs=>simp only [O.shal,O.frz,bM,List.map_map]; rfl
theorem eJ (os:List O):(os.map fun o=>O.d o.frz)=(O.frzL os).map O.d:=by rw [bM,List.map_map]; rfl
theorem Sat.kidsL {xs:List D} (s:ae T B H hs ((o,v)::l)) (e:o.frz = .lst xs):∃ a vs,v = .ref a∧SqL T.K H a vs∧xs.length=vs.length∧ae T B H hs ((xs.map O.d).zip vs++(o.shal,v)::l):=by
 cases o with
 | d x =>
  have e:x = .lst xs:=e
  subst e
  exact s.lstKids
 | lst os =>
  have e:D.lst (O.frzL os) = .lst xs:=e
  injection e with e
  subst e
  obtain⟨a,vs,rfl,eh,hl,s1⟩:=s.openL
  have s2:=Sat.freezeL hl s1
  rw [eJ]at s2
  have hl2:(O.frzL os).length=vs.length:=by rw [iP]; exact hl
  have s3:=Sat.dupL hl2 s2
  refine⟨a,vs,rfl,SqL.of eh,hl2,?_⟩
  have s4:=(s3.perm (List.perm_append_comm (l₁:=((O.frzL os).map O.d).zip vs) (l₂:=((O.frzL os).map O.d).zip vs++l)))
  rw [List.append_assoc]at s4
  have s5:=s4.closeL (l:=l++((O.frzL os).map O.d).zip vs) eh (by simpa using hl2)
  rw [show O.shal (.lst os) = .lst ((O.frzL os).map O.d)by rw [O.shal,eJ]]
  exact s5.perm (by
   have:((O.lst ((O.frzL os).map O.d),V.ref a)::(l++((O.frzL os).map O.d).zip vs)).Perm (((O.lst ((O.frzL os).map O.d),V.ref a)::l)++((O.frzL os).map O.d).zip vs):=.refl _
   exact this.trans List.perm_append_comm)
 | tup xs=>cases e
 | dic ks xs=>cases e
 | obj C ns xs=>cases e
theorem Sat.kidsT {xs:List D} (s:ae T B H hs ((o,v)::l)) (e:o.frz = .tup xs):∃ a vs,v = .ref a∧SqT T.K H a vs∧xs.length=vs.length∧ae T B H hs ((xs.map O.d).zip vs++(o.shal,v)::l):=by
 cases o with
 | d x =>
  have e:x = .tup xs:=e
  subst e
  exact s.tupKids
 | tup os =>
  have e:D.tup (O.frzL os) = .tup xs:=e
  injection e with e
  subst e
  obtain⟨a,vs,rfl,eh,hl,s1⟩:=s.openT
  have s2:=Sat.freezeL hl s1
  rw [eJ]at s2
  have hl2:(O.frzL os).length=vs.length:=by rw [iP]; exact hl
  have s3:=Sat.dupL hl2 s2
  refine⟨a,vs,rfl,SqT.of eh,hl2,?_⟩
  have s4:=(s3.perm (List.perm_append_comm (l₁:=((O.frzL os).map O.d).zip vs) (l₂:=((O.frzL os).map O.d).zip vs++l)))
  rw [List.append_assoc]at s4
  have s5:=s4.closeT (l:=l++((O.frzL os).map O.d).zip vs) eh (by simpa using hl2)
  rw [show O.shal (.tup os) = .tup ((O.frzL os).map O.d)by rw [O.shal,eJ]]
  exact s5.perm (by
   have:((O.tup ((O.frzL os).map O.d),V.ref a)::(l++((O.frzL os).map O.d).zip vs)).Perm (((O.tup ((O.frzL os).map O.d),V.ref a)::l)++((O.frzL os).map O.d).zip vs):=.refl _
   exact this.trans List.perm_append_comm)
 | lst xs=>cases e
 | dic ks xs=>cases e
 | obj C ns xs=>cases e
theorem Sat.dupT {xs:List D} (s:ae T B H hs ((o,v)::l)) (e:o.frz = .tup xs):ae T B H hs ((.d (.tup xs),v)::(o.shal,v)::l):=by
 cases o with
 | d x =>
  have e:x = .tup xs:=e
  subst e
  exact s.dup
 | tup os =>
  have e:D.tup (O.frzL os) = .tup xs:=e
  injection e with e
  subst e
  obtain⟨a,vs,rfl,eh,hl,s1⟩:=s.openT
  have s2:=Sat.freezeL hl s1
  rw [eJ]at s2
  have hl2:(O.frzL os).length=vs.length:=by rw [iP]; exact hl
  have s3:=Sat.dupL hl2 s2
  have s4:=(s3.perm (List.perm_append_comm (l₁:=((O.frzL os).map O.d).zip vs) (l₂:=((O.frzL os).map O.d).zip vs++l)))
  rw [List.append_assoc]at s4
  have s5:=s4.closeT (l:=l++((O.frzL os).map O.d).zip vs) eh (by simpa using hl2)
  rw [show O.shal (.tup os) = .tup ((O.frzL os).map O.d)by rw [O.shal,eJ]]
  have s6:ae T B H hs (((O.frzL os).map O.d).zip vs++((O.tup ((O.frzL os).map O.d),V.ref a)::l)):=s5.perm (by
   have:((O.tup ((O.frzL os).map O.d),V.ref a)::(l++((O.frzL os).map O.d).zip vs)).Perm (((O.tup ((O.frzL os).map O.d),V.ref a)::l)++((O.frzL os).map O.d).zip vs):=.refl _
   exact this.trans List.perm_append_comm)
  exact s6.closeTd eh hl2
 | lst xs=>cases e
 | dic ks xs=>cases e
 | obj C ns xs=>cases e
theorem Sat.newL {os:List O}{vs:List V}{p:Addr} (s:Sat T B H (os.zip vs++l)) (hl:os.length=vs.length) (n:H p=none):Sat T B (upd H p (.lst vs)) ((.lst os,.ref p)::l):=(s.alloc n).closeL upd_same hl
theorem Sat.newT {os:List O}{vs:List V}{p:Addr} (s:Sat T B H (os.zip vs++l)) (hl:os.length=vs.length) (n:H p=none):Sat T B (upd H p (.tup vs)) ((.tup os,.ref p)::l):=(s.alloc (ob:=.tup vs) n).letgo.closeT upd_same hl
theorem Sat.newTd {xs:List D}{vs:List V}{p:Addr} (s:Sat T B H ((xs.map O.d).zip vs++l)) (hl:xs.length=vs.length) (n:H p=none):Sat T B (upd H p (.tup vs)) ((.d (.tup xs),.ref p)::l):=(s.alloc (ob:=.tup vs) n).letgo.closeTd upd_same hl
end
section
variable {T:Tab}{B:Base}{X:Cx}
theorem DH:OpR X (binaryOp .Add) (fun x y H Q=>∃ l b xs zs,x = .ref l∧y = .ref b∧SqL X.K H l xs∧SqL X.K H b zs∧xs.length+zs.length≤sizeLine∧∀ p,H p=none→Q (.ref p) (upd H p (.lst (xs++zs)))):=by
 intro pins s σ H x y v u Q I rx ry h
 obtain⟨l,b,xs,zs,rfl,rfl,hH,hB,hz,q⟩:=h
 cases rx
 cases ry
 obtain⟨its,r,pl,_⟩:=I.list hH
 obtain⟨its2,r2,pl2,_⟩:=I.list hB
 have hl:=r.length
 have hl2:=r2.length
 obtain⟨⟨cls,dd,data,sl⟩,n,ho,hc,hd0,hd⟩:=pl
 obtain⟨⟨cls2,dd2,data2,sl2⟩,n2,ho2,hc2,hd02,hd2⟩:=pl2
 simp only at hc hd hc2 hd2 hd0 hd02
 subst hc hd hc2 hd2 hd0 hd02
 have e:its.toArray++its2.toArray=(its++its2).toArray:=by simp
 refine concat_meets ⟨_,ho,rfl⟩ ⟨_,ho2,rfl⟩ noFill_list_add seq_list_add PySem.F.slot_list_add PySem.F.entry_list_add (PySem.F.args_list_add_2 _ _) (list_addW l b its.toArray its2.toArray n n2 none none sl sl2 (by simp; omega)) ⟨ho,ho2,?_⟩
 rw [e]
 exact⟨.ref _,_,I.lnew (t':=s.toks) (r.append r2) (by rw [List.length_append]; omega),rfl,q _ I.fresh⟩
def ID:Bi→Operator
 | .add=>.Add | .sub=>.Sub | .mul=>.Mult | .fdiv=>.FloorDiv | .mod=>.Mod | .pow=>.Pow
theorem zip_append {xs ys:List D}{vs ws:List V} (h:xs.length=vs.length):((xs++ys).map O.d).zip (vs++ws)=(xs.map O.d).zip vs++(ys.map O.d).zip ws:=by
 rw [List.map_append,List.zip_append (by simpa using h)]
theorem Ky (hK:X.K=T.K) (k:Bi):OpR X (binaryOp (ID k)) (fun x y H Q=>dX T B (i7 k) true [x,y] H Q):=by
 intro pins s σ H x y v u Q I rx ry h
 obtain⟨o,p,l,r,sa,e,q⟩:=Bj h
 have d1:=sa.read
 have d2:=sa.read2
 cases ea:o.frz with
 | int i =>
  rw [ea]at d1 e
  have d1:x = .int i:=d1
  subst d1
  cases eb:p.frz with
  | int j =>
   rw [eb]at d2 e
   have d2:y = .int j:=d2
   subst d2
   have so:o.shal.frz = .int i:=by rw [lO,ea]
   have fin:Sat T B H ((if true=true then o.shal else o,V.int i)::(if true=true then p.shal else p,V.int j)::l):=by
    have oc:o.shal=o:=by cases o <;> first | rfl | cases ea
    have pc:p.shal=p:=by cases p <;> first | rfl | cases eb
    rw [if_pos rfl,if_pos rfl,oc,pc]
    exact sa
   cases k with
   | add =>
    injection e with e; subst e
    exact op_add pins s σ H _ _ v u Q I rx ry ⟨i,j,rfl,rfl,q _ _ fin.int⟩
   | sub =>
    injection e with e; subst e
    exact op_sub pins s σ H _ _ v u Q I rx ry ⟨i,j,rfl,rfl,q _ _ fin.int⟩
   | mul =>
    have e:(if(-(2 ^ 64) < i∧i < 2 ^ 64)∨(-(2 ^ 64) < j∧j < 2 ^ 64)then some (O.d (.int (i * j)))else none)=some r:=e
    split at e
    ·rename_i hc
     injection e with e; subst e
     exact op_mul pins s σ H _ _ v u Q I rx ry ⟨i,j,rfl,rfl,hc,q _ _ fin.int⟩
    ·cases e
   | fdiv =>
    have e:(if 0 < j∧(j < 1073741824∨j < 2 ^ 200)then some (O.d (.int (i / j)))else none)=some r:=e
    split at e
    ·rename_i hc
     injection e with e; subst e
     have hw:CDivW i j:=wide_div (b:=200) hc.1 (by
      have h2:j < 2 ^ 200:=hc.2.elim (fun z=>Int.lt_trans z (by decide)) id
      have h3:((j.natAbs:Nat):Int)=j:=by have:=hc.1; omega
      have h4:((j.natAbs:Nat):Int) < ((2 ^ 200:Nat):Int):=by rw [h3]; exact h2
      exact Int.ofNat_lt.mp h4) (by decide) (by decide)
     exact op_fdivW pins s σ H _ _ v u Q I rx ry ⟨i,j,rfl,rfl,hw,q _ _ fin.int⟩
    ·cases e
   | mod =>
    have e:(if 0 < j then some (O.d (.int (i % j)))else none)=some r:=e
    split at e
    ·rename_i hc
     injection e with e; subst e
     exact op_mod pins s σ H _ _ v u Q I rx ry ⟨i,j,rfl,rfl,hc,q _ _ fin.int⟩
    ·cases e
   | pow =>
    have e:(if 0≤j∧j≤1000000∧i.natAbs < 2 ^ 64 then some (O.d (.int (i ^ j.toNat)))else none)=some r:=e
    split at e
    ·rename_i hc
     injection e with e; subst e
     exact op_pow pins s σ H _ _ v u Q I rx ry ⟨i,j,rfl,rfl,hc,q _ _ fin.int⟩
    ·cases e
  | _=>rw [eb]at e; cases k <;> cases e
 | str i =>
  rw [ea]at d1 e
  have d1:x = .str i:=d1
  subst d1
  cases eb:p.frz with
  | str j =>
   rw [eb]at d2 e
   have d2:y = .str j:=d2
   subst d2
   have oc:o.shal=o:=by cases o <;> first | rfl | cases ea
   have pc:p.shal=p:=by cases p <;> first | rfl | cases eb
   rw [if_pos rfl,if_pos rfl,oc,pc]at q
   cases k with
   | add =>
    have e:(if i.length+j.length≤sizeLine then some (O.d (.str (i++j)))else none)=some r:=e
    split at e
    ·rename_i hc
     injection e with e; subst e
     exact op_add_str pins s σ H _ _ v u Q I rx ry ⟨i,j,rfl,rfl,hc,q _ _ sa.str⟩
    ·cases e
   | _=>cases e
  | _=>rw [eb]at e; cases k <;> cases e
 | lst xs =>
  rw [ea]at e
  cases eb:p.frz with
  | lst ys =>
   rw [eb]at e
   cases k with
   | add =>
    have e:(if xs.length+ys.length≤sizeLine then some (O.lst ((xs++ys).map .d))else none)=some r:=e
    split at e
    ·rename_i hc
     injection e with e; subst e
     obtain⟨a,vs,rfl,ha,hl,s1⟩:=Sat.kidsL sa ea
     have s2:Sat T B H ((p,y)::((xs.map O.d).zip vs++(o.shal,V.ref a)::l)):=s1.perm (by
      have p1:((xs.map O.d).zip vs++(o.shal,V.ref a)::(p,y)::l).Perm ((xs.map O.d).zip vs++(p,y)::(o.shal,V.ref a)::l):=(List.Perm.swap _ _ _).append_left _
      exact p1.trans List.perm_middle)
     obtain⟨b,ws,rfl,hb,hl2,s3⟩:=Sat.kidsL s2 eb
     have s4:Sat T B H (((xs++ys).map O.d).zip (vs++ws)++((o.shal,V.ref a)::(p.shal,V.ref b)::l)):=s3.perm (by
      rw [zip_append hl,List.append_assoc]
      have p1:((ys.map O.d).zip ws++(p.shal,V.ref b)::((xs.map O.d).zip vs++(o.shal,V.ref a)::l)).Perm ((ys.map O.d).zip ws++((xs.map O.d).zip vs++(o.shal,V.ref a)::(p.shal,V.ref b)::l)):=by
       refine List.Perm.append_left _ ?_
       have:((p.shal,V.ref b)::((xs.map O.d).zip vs++(o.shal,V.ref a)::l)).Perm ((xs.map O.d).zip vs++(p.shal,V.ref b)::(o.shal,V.ref a)::l):=List.perm_middle.symm
       exact this.trans ((List.Perm.swap _ _ _).append_left _)
      refine p1.trans ?_
      rw [← List.append_assoc,← List.append_assoc]
      exact List.perm_append_comm.append_right _)
     refine DH pins s σ H _ _ v u Q I rx ry ⟨a,b,vs,ws,rfl,rfl,by rw [hK]; exact ha,by rw [hK]; exact hb,by omega,fun p' hp=>q _ _ ?_⟩
     exact Sat.newL (os:=(xs++ys).map O.d) (vs:=vs++ws) s4 (by simp [hl,hl2]) hp
    ·cases e
   | _=>cases e
  | _=>rw [eb]at e; cases k <;> cases e
 | tup xs =>
  rw [ea]at e
  cases eb:p.frz with
  | tup ys =>
   rw [eb]at e
   cases k with
   | add =>
    have e:(if xs.length+ys.length≤sizeLine then some (O.d (.tup (xs++ys)))else none)=some r:=e
    split at e
    ·rename_i hc
     injection e with e; subst e
     obtain⟨a,vs,rfl,ha,hl,s1⟩:=Sat.kidsT sa ea
     have s2:Sat T B H ((p,y)::((xs.map O.d).zip vs++(o.shal,V.ref a)::l)):=s1.perm (by
      have p1:((xs.map O.d).zip vs++(o.shal,V.ref a)::(p,y)::l).Perm ((xs.map O.d).zip vs++(p,y)::(o.shal,V.ref a)::l):=(List.Perm.swap _ _ _).append_left _
      exact p1.trans List.perm_middle)
     obtain⟨b,ws,rfl,hb,hl2,s3⟩:=Sat.kidsT s2 eb
     have s4:Sat T B H (((xs++ys).map O.d).zip (vs++ws)++((o.shal,V.ref a)::(p.shal,V.ref b)::l)):=s3.perm (by
      rw [zip_append hl,List.append_assoc]
      have p1:((ys.map O.d).zip ws++(p.shal,V.ref b)::((xs.map O.d).zip vs++(o.shal,V.ref a)::l)).Perm ((ys.map O.d).zip ws++((xs.map O.d).zip vs++(o.shal,V.ref a)::(p.shal,V.ref b)::l)):=by
       refine List.Perm.append_left _ ?_
       have:((p.shal,V.ref b)::((xs.map O.d).zip vs++(o.shal,V.ref a)::l)).Perm ((xs.map O.d).zip vs++(p.shal,V.ref b)::(o.shal,V.ref a)::l):=List.perm_middle.symm
       exact this.trans ((List.Perm.swap _ _ _).append_left _)
      refine p1.trans ?_
      rw [← List.append_assoc,← List.append_assoc]
      exact List.perm_append_comm.append_right _)
     refine op_catA pins s σ H _ _ v u Q I rx ry ⟨a,b,vs,ws,rfl,rfl,by rw [hK]; exact ha,by rw [hK]; exact hb,by omega,fun h0=>?_,fun h1 h2=>?_,fun _ _ p' hp=>q _ _ ?_⟩
     ·have hx:xs = []:=List.eq_nil_of_length_eq_zero (by rw [hl,h0]; rfl)
      subst hx
      refine q _ _ ?_
      have t1:Sat T B H ((p,V.ref b)::(o,V.ref a)::l):=sa.swap
      have t2:=Sat.dupT t1 eb
      have t3:Sat T B H ((o,V.ref a)::(.d (.tup ys),V.ref b)::(p.shal,V.ref b)::l):=t2.perm (((List.Perm.swap _ _ _).cons _).trans (.swap _ _ _))
      have t4:=(Sat.dupT t3 ea).drop1
      have t5:Sat T B H ((O.d (.tup ys),V.ref b)::(o.shal,V.ref a)::(p.shal,V.ref b)::l):=?_
      ·exact t5
      ·have t6:=Sat.dupT t3 ea
       exact t6.drop1.swap
     ·have hy:ys = []:=List.eq_nil_of_length_eq_zero (by rw [hl2,h2]; rfl)
      subst hy
      refine q _ _ ?_
      have t1:Sat T B H ((p,V.ref b)::(o,V.ref a)::l):=sa.swap
      have t2:=(Sat.dupT t1 eb).drop1
      have t3:Sat T B H ((o,V.ref a)::(p.shal,V.ref b)::l):=t2.swap
      have t4:=Sat.dupT t3 ea
      rw [List.append_nil]
      exact t4
     ·exact Sat.newTd (xs:=xs++ys) (vs:=vs++ws) s4 (by simp [hl,hl2]) hp
    ·cases e
   | _=>cases e
  | _=>rw [eb]at e; cases k <;> cases e
 | _=>rw [ea]at e; cases k <;> cases e
theorem IF:UnR X (unaryOp .USub) (fun x H Q=>dX T B (Ku .neg) false [x] H Q):=by
 intro pins s σ H x v Q I rx h
 obtain⟨o,l,r,sa,e,q⟩:=oq h
 have d1:=sa.read
 cases ea:o.frz with
 | int i =>
  rw [ea]at d1 e
  have d1:x = .int i:=d1
  subst d1
  injection e with e; subst e
  exact un_neg pins s σ H _ v Q I rx ⟨i,rfl,q _ _ sa.int⟩
 | _=>rw [ea]at e; cases e
end
end PV
namespace PV
open PySem PySem.Spec PyProof.Rows L2
section
variable {X:Cx}{pins:List (Addr×Obj)}{σ:L2.St}{H:Hp}{s:Shared}{a b:Addr}{y d:V}{u r:Value}{o:Option V}{A:Around}{E:Value→Shared→Prop}
theorem z7 {P:Program}{w:World}{es:List DictEntry} (h:Pairs (mixKind P w) es []):es = []:=by cases h; rfl
theorem Bk {P:Program}{w:World}{h:Heap} (e:h.DictOf (mixKind P w) a []):h.DictOfH (tupleKind (mixKind P w)) a []:=by
 obtain⟨o,es,ep,h1,h2,h3,h4,h5,h6⟩:=e
 exact⟨o,es,ep,h1,h2,h3,by rw [z7 h5]; rfl,fun x hx=>by simp at hx,List.nodup_nil⟩
theorem xU {P:Program}{w:World}{h:Heap} (e:h.DictOfH (tupleKind (mixKind P w)) a []):h.DictOf (mixKind P w) a []:=by
 obtain⟨o,es,ep,h1,h2,h3,h4,h5,h6⟩:=e
 have:es = #[]:=by
  have:es.toList = []:=h4
  simpa using this
 subst this
 exact⟨o,#[],ep,h1,h2,h3,fun x hx=>by simp at hx,.nil,List.nodup_nil⟩
theorem xV {vs:List (Key×Value)} (h:KV ([]:List (Key×V)) vs):vs = []:=by
 unfold KV at h; cases h; rfl
theorem Bl {vs:List (List Key×Addr×Value)} (h:KT H [] vs):vs = []:=by cases h; rfl
theorem tX (I:Inv X pins σ H s) (e:Rd H a (.dK [])):s.heap.DictOfH (tupleKind (mixKind X.prog X.w)) a []∧(a == sysModules)=false:=by
 obtain⟨_,hd,vs,rel,dd⟩:=dk_rd I.hok e
 rw [xV rel]at dd
 exact⟨Bk dd,hd⟩
theorem iG (I:Inv X pins σ H s) (e:Rd H a (.dT [])):s.heap.DictOf (mixKind X.prog X.w) a []∧(a == sysModules)=false:=by
 obtain⟨_,hd,vs,rel,dd⟩:=dt_rd I.hok e
 rw [Bl rel]at dd
 exact⟨xU dd,hd⟩
def JR (H:Hp) (a:Addr) (y:V) (r:Option V):Prop :=
 DGet H a y r∨(r=none∧Rd H a (.dK [])∧∃ k b,y = .ref b∧H b=some (.tup (List.map kV k)))∨(r=none∧Rd H a (.dT [])∧∃ k,y=kV k)
theorem IG {Q:Value→Shared→Prop} (hu:A.units+1 < cLine) (I:Inv X pins σ H s) (g:JR H a y o) (ry:RelV y u) (h:∀ s',Inv X pins σ H s'→Q (.bool o.isSome) s') :
  wpAny (model X.prog X.w) A (compareOp .In u (.ref a)) Q E s:=by
 rcases g with g | ⟨rfl,e,k,b,rfl,eb⟩ | ⟨rfl,e,k,rfl⟩
 ·exact d_in hu I g ry h
 ·cases (show u=Value.ref b from ry)
  obtain⟨dd,hd⟩:=tX I e
  exact wpAny_in_heap (tupleKind_room_in1 hu) (key_of I.hok eb) hd dd (h _ (I.tok _))
 ·obtain⟨dd,hd⟩:=iG I e
  exact wpAny_in_of (kV_is ry) hd dd.mapOf (h _ (I.tok _))
theorem Bm {Q:Value→Shared→Prop} (hu:A.units+1 < cLine) (I:Inv X pins σ H s) (g:JR H a y o) (ry:RelV y u) (h:∀ s',Inv X pins σ H s'→Q (.bool (! o.isSome)) s') :
  wpAny (model X.prog X.w) A (compareOp .NotIn u (.ref a)) Q E s:=by
 rcases g with g | ⟨rfl,e,k,b,rfl,eb⟩ | ⟨rfl,e,k,rfl⟩
 ·exact d_notIn hu I g ry h
 ·cases (show u=Value.ref b from ry)
  obtain⟨dd,hd⟩:=tX I e
  exact wpAny_notIn_heap (tupleKind_room_in1 hu) (key_of I.hok eb) hd dd (h _ (I.tok _))
 ·obtain⟨dd,hd⟩:=iG I e
  exact wpAny_notIn_of (kV_is ry) hd dd.mapOf (h _ (I.tok _))
theorem Inv.toT (I:Inv X pins σ H s) (e:H a=some (.dK [])):Inv X pins σ (upd H a (.dT [])) s:=by
 obtain⟨z,hd,vs,rel,dd⟩:=dk_of I.hok e
 rw [xV rel]at dd
 obtain⟨o,es,ep,h1,h2,h3,h4,h5,h6⟩:=Bk dd
 exact I.write (h':=s.heap) (t':=s.toks) (x:=a) (e:=a) (o:=.dT []) (by rw [e]; trivial) (.inl rfl) (fun _ _ _ z=>z) ⟨o,h1⟩ ⟨Nat.zero_le _,hd,[],.nil,o,es,ep,h1,h2,h3,h4,List.nodup_nil⟩
theorem Inv.toK (I:Inv X pins σ H s) (e:H a=some (.dT [])):Inv X pins σ (upd H a (.dK [])) s:=by
 obtain⟨z,hd,vs,rel,dd⟩:=dt_of I.hok e
 rw [Bl rel]at dd
 have dd':=xU dd
 obtain⟨o,es,ep,h1,_⟩:=id dd'
 exact I.write (h':=s.heap) (t':=s.toks) (x:=a) (e:=a) (o:=.dK []) (by rw [e]; trivial) (.inl rfl) (fun _ _ _ z=>z) ⟨o,h1⟩ ⟨Nat.zero_le _,hd,[],.nil,dd'⟩
end
section
variable {T:Tab}{B:Base}{H H':Hp}{l:List bf}{o p:O}{v:V}{x:D}{a:Addr}{hs:List Addr}{own:Addr→Prop}{h:Hp}
theorem qr {k:D}{kk:Key} (e:keyOf k=some kk) (d:Dr T own h k v):v=kV kk:=by
 cases k with
 | int i=>injection e with e; subst e; exact d
 | str i=>injection e with e; subst e; exact d
 | _=>cases e
theorem mN:∀ {ks:List D}{js:List Key}{vs:List V},keysOf ks=some js→jB T own h ks vs→vs=js.map kV
 | [],js,vs,e,d=>by
  have d:vs = []:=d
  injection e with e
  subst e d; rfl
 | k::ks,js,vs,e,d=>by
  obtain⟨v,r,rfl,d1,d2⟩:=d
  unfold keysOf at e
  cases e1:keyOf k with
  | none=>rw [e1]at e; cases e
  | some kk =>
   cases e2:keysOf ks with
   | none=>rw [e1,e2]at e; cases e
   | some r' =>
    rw [e1,e2]at e
    injection e with e
    subst e
    rw [qr e1 d1,mN e2 d2]; rfl
theorem ot {k:D}{kk:List Key} (e:aA k=some kk) (s:ae T B H hs l) (d:Dr T own (vw B.Z H) k v):∃ b,v = .ref b∧H b=some (.tup (kk.map kV)):=by
 cases k with
 | tup ds =>
  have e:(if ds.length=2∨ds.length=3 then keysOf ds else none)=some kk:=e
  by_cases hc:ds.length=2∨ds.length=3
  ·rw [if_pos hc]at e
   obtain⟨b,vs,rfl,h1,h2⟩:=d
   rcases wo s h1 with h1 | h1
   ·exact⟨b,rfl,by rw [← mN e h2]; exact h1⟩
   ·exact(h1.1 hc).elim
  ·rw [if_neg hc]at e; cases e
 | _=>cases e
theorem cV {k:D}{kk:Key} (e:keyOf k=some kk):aA k=none:=by
 cases k <;> first | rfl | cases e
theorem ij {k:D}{kk:List Key} (e:aA k=some kk):keyOf k=none:=by
 cases k <;> first | rfl | cases e
theorem Bn {k:D}{kk:Key} (ek:keyOf k=some kk):∀ {ks ds:List D}{js:List Key}{ws:List V},keysOf ks=some js→js.length=ws.length→ds.length=ws.length →
  (∃ (n:Nat) (d:D) (w:V),aW k ks ds=some d∧valV (js.zip ws) kk=some w∧ds[n]?=some d∧ws[n]?=some w)∨(aW k ks ds=none∧valV (js.zip ws) kk=none)
 | [],ds,js,ws,e,hl,d=>by
  injection e with e; subst e
  exact .inr ⟨by cases ds <;> rfl,rfl⟩
 | j::ks,ds,js,ws,e,hl,d=>by
  unfold keysOf at e
  cases e1:keyOf j with
  | none=>rw [e1]at e; cases e
  | some jj =>
   cases e2:keysOf ks with
   | none=>rw [e1,e2]at e; cases e
   | some r' =>
    rw [e1,e2]at e
    injection e with e
    subst e
    match ds,ws,hl,d with
    | [],[],hl,_=>simp at hl
    | d0::ds,w::r,hl,d =>
     unfold aW
     by_cases hc:jj=kk
     ·subst hc
      rw [if_pos ⟨by rw [e1,ek],by rw [cV e1,cV ek]⟩]
      exact .inl ⟨0,d0,w,rfl,valV_pos rfl,rfl,rfl⟩
     ·rw [if_neg (fun z=>hc (by have:=z.1; rw [e1,ek]at this; exact Option.some.inj this))]
      rw [List.zip_cons_cons,valV_neg hc]
      rcases Bn ek e2 (by simpa using hl) (by simpa using d)with⟨n,d',w',h1,h2,h3,h4⟩ | h
      ·exact .inl ⟨n+1,d',w',h1,h2,by simpa using h3,by simpa using h4⟩
      ·exact .inr h
theorem Bo {k:D}{kk:List Key} (ek:aA k=some kk):∀ {ks ds:List D}{js:List (List Key)}{ws:List V},au ks=some js→js.length=ws.length→ds.length=ws.length →
  (∃ (n:Nat) (d:D) (w:V),aW k ks ds=some d∧valV (js.zip ws) kk=some w∧ds[n]?=some d∧ws[n]?=some w)∨(aW k ks ds=none∧valV (js.zip ws) kk=none)
 | [],ds,js,ws,e,hl,d=>by
  injection e with e; subst e
  exact .inr ⟨by cases ds <;> rfl,rfl⟩
 | j::ks,ds,js,ws,e,hl,d=>by
  unfold au at e
  cases e1:aA j with
  | none=>rw [e1]at e; cases e
  | some jj =>
   cases e2:au ks with
   | none=>rw [e1,e2]at e; cases e
   | some r' =>
    rw [e1,e2]at e
    injection e with e
    subst e
    match ds,ws,hl,d with
    | [],[],hl,_=>simp at hl
    | d0::ds,w::r,hl,d =>
     unfold aW
     by_cases hc:jj=kk
     ·subst hc
      rw [if_pos ⟨by rw [ij e1,ij ek],by rw [e1,ek]⟩]
      exact .inl ⟨0,d0,w,rfl,valV_pos rfl,rfl,rfl⟩
     ·rw [if_neg (fun z=>hc (by have:=z.2; rw [e1,ek]at this; exact Option.some.inj this))]
      rw [List.zip_cons_cons,valV_neg hc]
      rcases Bo ek e2 (by simpa using hl) (by simpa using d)with⟨n,d',w',h1,h2,h3,h4⟩ | h
      ·exact .inl ⟨n+1,d',w',h1,h2,by simpa using h3,by simpa using h4⟩
      ·exact .inr h
theorem jS:∀ {ks:List D}{js:List Key},keysOf ks=some js→∀ j∈ks,(keyOf j).isSome=true
 | k::ks,js,e,j,hj=>by
  unfold keysOf at e
  cases e1:keyOf k with
  | none=>rw [e1]at e; cases e
  | some kk =>
   cases e2:keysOf ks with
   | none=>rw [e1,e2]at e; cases e
   | some r' =>
    rcases List.mem_cons.mp hj with rfl | hj
    ·rw [e1]; rfl
    ·exact jS e2 j hj
theorem eL:∀ {ks:List D}{js:List (List Key)},au ks=some js→∀ j∈ks,(aA j).isSome=true
 | k::ks,js,e,j,hj=>by
  unfold au at e
  cases e1:aA k with
  | none=>rw [e1]at e; cases e
  | some kk =>
   cases e2:au ks with
   | none=>rw [e1,e2]at e; cases e
   | some r' =>
    rcases List.mem_cons.mp hj with rfl | hj
    ·rw [e1]; rfl
    ·exact eL e2 j hj
theorem Fd (s:ae T B H hs l) {u:List (Key×V)} (e:vw B.Z H a=some (.dK u)):Rd H a (.dK u):=qM s (fun _ _ z=>nomatch z) (.inl e)
theorem Fe (s:ae T B H hs l) {u:List (List Key×V)} (e:vw B.Z H a=some (.dT u)):Rd H a (.dT u):=qM s (fun _ _ z=>nomatch z) (.inl e)
def Bp (H:Hp) (a:Addr) (ks:List D) (ws:List V):Prop:=(∃ js,keysOf ks=some js∧Rd H a (.dK (js.zip ws))∧js.length=ws.length)∨(∃ js,au ks=some js∧Rd H a (.dT (js.zip ws))∧js.length=ws.length)
theorem qY (s:ae T B H hs l) {ks ds:List D} (d:Dr T own (vw B.Z H) (.dic ks ds) v):∃ a ws,v = .ref a∧Bp H a ks ws∧jB T own (vw B.Z H) ds ws:=by
 obtain⟨a,vs,rfl,_,d1,d2⟩:=d
 refine⟨a,vs,rfl,?_,d2⟩
 rcases d1 with⟨js,q1,q2,q3⟩ | ⟨js,q1,q2,q3⟩
 ·exact .inl ⟨js,q1,Fd s q2,q3⟩
 ·exact .inr ⟨js,q1,Fe s q2,q3⟩
theorem yV (s:ae T B H hs l) {ks ds:List D}{ws:List V}{k:D}{y:V} (d1:Bp H a ks ws) (hl:ds.length=ws.length) (dk:Dr T own (vw B.Z H) k y) (hk:aZ k ks=true) :
  (∃ (n:Nat) (d:D) (w:V),aW k ks ds=some d∧DGet H a y (some w)∧ds[n]?=some d∧ws[n]?=some w)∨(aW k ks ds=none∧JR H a y none):=by
 unfold aZ at hk
 rw [Bool.or_eq_true,Bool.and_eq_true,Bool.and_eq_true]at hk
 rcases hk with⟨hk,ha⟩ | ⟨hk,ha⟩
 ·obtain⟨kk,ek⟩:=Option.isSome_iff_exists.mp hk
  have ey:=qr ek dk
  rcases d1 with⟨js,q1,rd,q3⟩ | ⟨js,q1,rd,q3⟩
  ·rcases Bn ek q1 q3 hl with⟨n,d,w,e1,e2,e3⟩ | ⟨e1,e2⟩
   ·exact .inl ⟨n,d,w,e1,.inl ⟨_,kk,rd,ey,e2.symm⟩,e3⟩
   ·exact .inr ⟨e1,.inl (.inl ⟨_,kk,rd,ey,e2.symm⟩)⟩
  ·cases ks with
   | nil =>
    injection q1 with q1
    subst q1
    exact .inr ⟨by cases ds <;> rfl,.inr (.inr ⟨rfl,rd,kk,ey⟩)⟩
   | cons j ks =>
    have h1:=eL q1 j List.mem_cons_self
    have h2:=List.all_eq_true.mp ha j List.mem_cons_self
    obtain⟨jj,ej⟩:=Option.isSome_iff_exists.mp h2
    rw [cV ej]at h1; cases h1
 ·obtain⟨kk,ek⟩:=Option.isSome_iff_exists.mp hk
  obtain⟨b,ey,eb⟩:=ot ek s dk
  rcases d1 with⟨js,q1,rd,q3⟩ | ⟨js,q1,rd,q3⟩
  ·cases ks with
   | nil =>
    injection q1 with q1
    subst q1
    exact .inr ⟨by cases ds <;> rfl,.inr (.inl ⟨rfl,rd,kk,b,ey,eb⟩)⟩
   | cons j ks =>
    have h1:=jS q1 j List.mem_cons_self
    have h2:=List.all_eq_true.mp ha j List.mem_cons_self
    obtain⟨jj,ej⟩:=Option.isSome_iff_exists.mp h2
    rw [ij ej]at h1; cases h1
  ·rcases Bo ek q1 q3 hl with⟨n,d,w,e1,e2,e3⟩ | ⟨e1,e2⟩
   ·exact .inl ⟨n,d,w,e1,.inr ⟨_,kk,b,rd,ey,eb,e2.symm⟩,e3⟩
   ·exact .inr ⟨e1,.inl (.inr ⟨_,kk,b,rd,ey,eb,e2.symm⟩)⟩
theorem ae.openD {ks:List D}{os:List O} (s:ae T B H hs ((.dic ks os,v)::l)):∃ a vs,v = .ref a∧((∃ js,keysOf ks=some js∧H a=some (.dK (js.zip vs))∧js.length=vs.length)∨(∃ js,au ks=some js∧H a=some (.dT (js.zip vs))∧js.length=vs.length))∧os.length=vs.length∧ae T B H (a::hs) (os.zip vs++l):=by
 obtain⟨F,⟨F1,F2,rfl,r1,r2⟩,nd,c⟩:=s.reps
 obtain⟨a,vs,G,e1,rfl,e2,e3⟩:=r1
 obtain⟨e4,el⟩:=aP.ofL e3
 have pm:(hs++(a::G++F2)).Perm (a::hs++(G++F2)):=by
  have:(hs++(a::(G++F2))).Perm (a::(hs++(G++F2))):=List.perm_middle
  simpa using this
 have nz:¬ B.Z a:=(c a (pm.mem_iff.mpr List.mem_cons_self)).2.2.1
 rw [bx nz]at e2
 refine⟨a,vs,e1,e2,el,s.lk,s.old,s.oth,s.io,s.tb,G++F2,?_,pm.nodup_iff.mp nd,fun b hb=>c b (pm.mem_iff.mpr hb)⟩
 exact aP.keep fP.refl (fun b z=>.inl (z.imp id fun z=>pm.mem_iff.mpr z)) _ _ (fun _ _=>rfl) (aP.append e4 r2)
theorem ae.closeD {ks:List D}{os:List O}{vs:List V} (s:ae T B H (a::hs) (os.zip vs++l)) (e:(∃ js,keysOf ks=some js∧H a=some (.dK (js.zip vs))∧js.length=vs.length)∨(∃ js,au ks=some js∧H a=some (.dT (js.zip vs))∧js.length=vs.length)) (hl:os.length=vs.length):ae T B H hs ((.dic ks os,.ref a)::l):=by
 obtain⟨F,r,nd,c⟩:=s.reps
 obtain⟨G,F2,rfl,r1,r2⟩:=aP.split r
 have pm:(hs++(a::G++F2)).Perm (a::hs++(G++F2)):=by
  have:(hs++(a::(G++F2))).Perm (a::(hs++(G++F2))):=List.perm_middle
  simpa using this
 have nz:¬ B.Z a:=(c a List.mem_cons_self).2.2.1
 have k:∀ b,(B.G b∨b∈hs++(a::G++F2))→(B.G b∨b∈a::hs++(G++F2))∨vw B.Z H b=none:=fun b z=>.inl (z.imp id fun z=>pm.mem_iff.mp z)
 refine⟨s.lk,s.old,s.oth,s.io,s.tb,a::G++F2,⟨a::G,F2,rfl,⟨a,vs,G,rfl,rfl,by rw [bx nz]; exact e,?_⟩,aP.keep fP.refl k _ _ (fun _ _=>rfl) r2⟩,pm.nodup_iff.mpr nd,fun b hb=>c b (pm.mem_iff.mp hb)⟩
 exact Or.keepL fP.refl k _ _ _ (fun _ _=>rfl) (aP.toL hl r1)
theorem ae.openO {C:Nat}{ns:List Str}{os:List O} (s:ae T B H hs ((.obj C ns os,v)::l)):∃ a dx vs,v = .ref a∧H a=some (.ins (T.cls C) dx (ns.zip vs))∧ns.length=vs.length∧os.length=vs.length∧ae T B H (a::hs) (os.zip vs++l):=by
 obtain⟨F,⟨F1,F2,rfl,r1,r2⟩,nd,c⟩:=s.reps
 obtain⟨a,dx,vs,G,e1,rfl,e2,en,e3⟩:=r1
 obtain⟨e4,el⟩:=aP.ofL e3
 have pm:(hs++(a::G++F2)).Perm (a::hs++(G++F2)):=by
  have:(hs++(a::(G++F2))).Perm (a::(hs++(G++F2))):=List.perm_middle
  simpa using this
 have nz:¬ B.Z a:=(c a (pm.mem_iff.mpr List.mem_cons_self)).2.2.1
 rw [bx nz]at e2
 refine⟨a,dx,vs,e1,e2,en,el,s.lk,s.old,s.oth,s.io,s.tb,G++F2,?_,pm.nodup_iff.mp nd,fun b hb=>c b (pm.mem_iff.mpr hb)⟩
 exact aP.keep fP.refl (fun b z=>.inl (z.imp id fun z=>pm.mem_iff.mpr z)) _ _ (fun _ _=>rfl) (aP.append e4 r2)
theorem ae.closeO {C:Nat}{ns:List Str}{os:List O}{vs:List V}{dx:Addr} (s:ae T B H (a::hs) (os.zip vs++l)) (e:H a=some (.ins (T.cls C) dx (ns.zip vs))) (hn:ns.length=vs.length) (hl:os.length=vs.length):ae T B H hs ((.obj C ns os,.ref a)::l):=by
 obtain⟨F,r,nd,c⟩:=s.reps
 obtain⟨G,F2,rfl,r1,r2⟩:=aP.split r
 have pm:(hs++(a::G++F2)).Perm (a::hs++(G++F2)):=by
  have:(hs++(a::(G++F2))).Perm (a::(hs++(G++F2))):=List.perm_middle
  simpa using this
 have nz:¬ B.Z a:=(c a List.mem_cons_self).2.2.1
 have k:∀ b,(B.G b∨b∈hs++(a::G++F2))→(B.G b∨b∈a::hs++(G++F2))∨vw B.Z H b=none:=fun b z=>.inl (z.imp id fun z=>pm.mem_iff.mp z)
 refine⟨s.lk,s.old,s.oth,s.io,s.tb,a::G++F2,⟨a::G,F2,rfl,⟨a,dx,vs,G,rfl,rfl,by rw [bx nz]; exact e,hn,?_⟩,aP.keep fP.refl k _ _ (fun _ _=>rfl) r2⟩,pm.nodup_iff.mpr nd,fun b hb=>c b (pm.mem_iff.mp hb)⟩
 exact Or.keepL fP.refl k _ _ _ (fun _ _=>rfl) (aP.toL hl r1)
theorem pO {os:List O}{vs:List V}{w:O} (hl:os.length=vs.length) (s1:ae T B H (a::hs) (os.zip vs++l)) (cl:∀ {l:List bf},ae T B H (a::hs) (((O.frzL os).map O.d).zip vs++l)→ae T B H hs ((w,v)::l)):ae T B H hs (((O.frzL os).map O.d).zip vs++(w,v)::l):=by
 have s2:=Sat.freezeL hl s1
 rw [eJ]at s2
 have hl2:(O.frzL os).length=vs.length:=by rw [iP]; exact hl
 have s3:=Sat.dupL hl2 s2
 have s4:=(s3.perm (List.perm_append_comm (l₁:=((O.frzL os).map O.d).zip vs) (l₂:=((O.frzL os).map O.d).zip vs++l)))
 rw [List.append_assoc]at s4
 have s5:=cl (l:=l++((O.frzL os).map O.d).zip vs) s4
 exact s5.perm (by
  have:((w,v)::(l++((O.frzL os).map O.d).zip vs)).Perm (((w,v)::l)++((O.frzL os).map O.d).zip vs):=.refl _
  exact this.trans List.perm_append_comm)
theorem Sat.kidsD {ks xs:List D} (s:ae T B H hs ((o,v)::l)) (e:o.frz = .dic ks xs):∃ a vs,v = .ref a∧Bp H a ks vs∧xs.length=vs.length∧ae T B H hs ((xs.map O.d).zip vs++(o.shal,v)::l):=by
 cases o with
 | d x =>
  have e:x = .dic ks xs:=e
  subst e
  obtain⟨F,⟨F1,F2,rfl,r1,r2⟩,nd,c⟩:=id s.reps
  obtain⟨e,d⟩:=r1
  have e:F1 = []:=e
  subst e
  obtain⟨a,vs,e1,e2,e3⟩:=qY s d
  exact⟨a,vs,e1,e2,e3.len,s.lk,s.old,s.oth,s.io,s.tb,F2,aP.append (F:=[]) (jB.reps e3) ⟨[],F2,rfl,⟨rfl,d⟩,r2⟩,nd,c⟩
 | dic ks' os =>
  have e:D.dic ks' (O.frzL os) = .dic ks xs:=e
  injection e with e0 e
  subst e e0
  obtain⟨a,vs,rfl,eh,hl,s1⟩:=s.openD
  have hl2:(O.frzL os).length=vs.length:=by rw [iP]; exact hl
  refine⟨a,vs,rfl,?_,hl2,?_⟩
  ·rcases eh with⟨js,q1,q2,q3⟩ | ⟨js,q1,q2,q3⟩
   ·exact .inl ⟨js,q1,.inl q2,q3⟩
   ·exact .inr ⟨js,q1,.inl q2,q3⟩
  ·rw [show O.shal (.dic ks' os) = .dic ks' ((O.frzL os).map O.d)by rw [O.shal,eJ]]
   exact pO hl s1 fun z=>z.closeD eh (by simpa using hl2)
 | tup xs=>cases e
 | lst xs=>cases e
 | obj C ns xs=>cases e
theorem Sat.kidsO {C:Nat}{ns:List Str}{xs:List D} (s:ae T B H hs ((o,v)::l)) (e:o.frz = .obj C ns xs):∃ a dx vs,v = .ref a∧H a=some (.ins (T.cls C) dx (ns.zip vs))∧ns.length=vs.length∧xs.length=vs.length∧ae T B H hs ((xs.map O.d).zip vs++(o.shal,v)::l):=by
 cases o with
 | d x =>
  have e:x = .obj C ns xs:=e
  subst e
  obtain⟨F,⟨F1,F2,rfl,r1,r2⟩,nd,c⟩:=id s.reps
  obtain⟨e,a,dx,vs,e1,n1,e2,e3,e4⟩:=r1
  have e:F1 = []:=e
  subst e
  have e2':H a=some (.ins (T.cls C) dx (ns.zip vs)):=by
   rcases i8 e2 with e | ⟨z,o,e⟩
   ·exact e
   ·obtain⟨u2,h1,mu⟩:=s.lk a z
    rw [e]at h1
    cases h1
    exact mu.elim
  exact⟨a,dx,vs,e1,e2',e3,e4.len,s.lk,s.old,s.oth,s.io,s.tb,F2,aP.append (F:=[]) (jB.reps e4) ⟨[],F2,rfl,⟨rfl,a,dx,vs,e1,n1,e2,e3,e4⟩,r2⟩,nd,c⟩
 | obj C' ns' os =>
  have e:D.obj C' ns' (O.frzL os) = .obj C ns xs:=e
  injection e with e0 e1 e
  subst e e0 e1
  obtain⟨a,dx,vs,rfl,eh,hn,hl,s1⟩:=s.openO
  have hl2:(O.frzL os).length=vs.length:=by rw [iP]; exact hl
  refine⟨a,dx,vs,rfl,eh,hn,hl2,?_⟩
  rw [show O.shal (.obj C' ns' os) = .obj C' ns' ((O.frzL os).map O.d)by rw [O.shal,eJ]]
  exact pO hl s1 fun z=>z.closeO eh hn (by simpa using hl2)
 | tup xs=>cases e
 | lst xs=>cases e
 | dic ns xs=>cases e
theorem ae.pick {m:List bf}:∀ {l:List bf}{n:Nat}{p:bf},l[n]?=some p→ae T B H hs (l++m)→ae T B H hs (p::m)
 | [],n,p,e,s=>by simp at e
 | q::l,0,p,e,s=>by
  simp at e
  subst e
  exact ae.dropL (m:=l) (s.perm List.perm_middle.symm)
 | q::l,n+1,p,e,s=>ae.pick (l:=l) (n:=n) (by simpa using e) (ae.drop1 (o:=q.1) (v:=q.2) s)
theorem zip_get {xs:List D}{vs:List V}{n:Nat}{d:D}{w:V} (e1:xs[n]?=some d) (e2:vs[n]?=some w):((xs.map O.d).zip vs)[n]?=some (.d d,w):=by
 rw [List.getElem?_zip_eq_some]
 exact⟨by rw [List.getElem?_map,e1]; rfl,e2⟩
end
section
variable {T:Tab}{B:Base}{H H':Hp}{l:List bf}{o p:O}{v:V}{x:D}{a:Addr}{hs:List Addr}
mutual
theorem eM:∀ (n:Nat) (d:D),D.okd n d=true→d.toP.plain=true∧d.toP.depth≤n
 | _,.non,_=>⟨rfl,Nat.zero_le _⟩
 | _,.bl _,_=>⟨rfl,Nat.zero_le _⟩
 | _,.int _,_=>⟨rfl,Nat.zero_le _⟩
 | _,.str _,_=>⟨rfl,Nat.zero_le _⟩
 | 0,.tup xs,h=>by simp [D.okd]at h
 | 0,.lst xs,h=>by simp [D.okd]at h
 | 0,.dic _ _,h=>by simp [D.okd]at h
 | 0,.obj _ _ _,h=>by simp [D.okd]at h
 | 0,.exc _ _,h=>by simp [D.okd]at h
 | n+1,.tup xs,h=>by
  have h:D.okdL n xs=true:=by simpa [D.okd]using h
  obtain⟨h1,h2⟩:=iQ n xs h
  exact⟨by simpa [D.toP,PyData.plain]using h1,by simp only [D.toP,PyData.depth]; omega⟩
 | n+1,.lst xs,h=>by
  have h:D.okdL n xs=true:=by simpa [D.okd]using h
  obtain⟨h1,h2⟩:=iQ n xs h
  exact⟨by simpa [D.toP,PyData.plain]using h1,by simp only [D.toP,PyData.depth]; omega⟩
 | _+1,.dic _ _,h=>by simp [D.okd]at h
 | _+1,.obj _ _ _,h=>by simp [D.okd]at h
 | _+1,.exc _ _,h=>by simp [D.okd]at h
theorem iQ:∀ (n:Nat) (ds:List D),D.okdL n ds=true→PyData.plainAll (D.toPL ds)=true∧PyData.depthAll (D.toPL ds)≤n
 | n,[],_=>⟨rfl,Nat.zero_le _⟩
 | n,d::ds,h=>by
  have h:D.okd n d=true∧D.okdL n ds=true:=by simpa [D.okdL]using h
  obtain⟨h1,h2⟩:=eM n d h.1
  obtain⟨h3,h4⟩:=iQ n ds h.2
  refine⟨by simp [D.toPL,PyData.plainAll,h1,h3],?_⟩
  simp only [D.toPL,PyData.depthAll]
  exact Nat.max_le.mpr ⟨h2,h4⟩
end
mutual
theorem qt:∀ (n m:Nat) (x y:D),D.okd n x=true→D.okd m y=true→PyData.eqv x.toP y.toP=D.eqd x y
 | n,m,x,y,hx,hy=>by
  cases x with
  | tup xs =>
   cases n with
   | zero=>simp [D.okd]at hx
   | succ n =>
    cases y with
    | tup ys =>
     cases m with
     | zero=>simp [D.okd]at hy
     | succ m =>
      simp only [D.toP,PyData.eqv,D.eqd]
      exact qZ n m xs ys (by simpa [D.okd]using hx) (by simpa [D.okd]using hy)
    | _=>first | rfl | (simp only [D.toP,PyData.eqv,D.eqd]) | (cases m <;> simp [D.okd]at hy)
  | lst xs =>
   cases n with
   | zero=>simp [D.okd]at hx
   | succ n =>
    cases y with
    | lst ys =>
     cases m with
     | zero=>simp [D.okd]at hy
     | succ m =>
      simp only [D.toP,PyData.eqv,D.eqd]
      exact qZ n m xs ys (by simpa [D.okd]using hx) (by simpa [D.okd]using hy)
    | _=>first | rfl | (simp only [D.toP,PyData.eqv,D.eqd]) | (cases m <;> simp [D.okd]at hy)
  | dic ks vs=>cases n <;> simp [D.okd]at hx
  | obj C ns vs=>cases n <;> simp [D.okd]at hx
  | exc C p=>cases n <;> simp [D.okd]at hx
  | _=>cases y <;> first | rfl | (simp only [D.toP,PyData.eqv,D.eqd]; done) | (cases m <;> simp [D.okd]at hy)
theorem qZ:∀ (n m:Nat) (xs ys:List D),D.okdL n xs=true→D.okdL m ys=true→PyData.eqvAll (D.toPL xs) (D.toPL ys)=D.eqdL xs ys
 | n,m,[],[],_,_=>rfl
 | n,m,[],y::ys,_,_=>rfl
 | n,m,x::xs,[],_,_=>rfl
 | n,m,x::xs,y::ys,hx,hy=>by
  have hx:D.okd n x=true∧D.okdL n xs=true:=by simpa [D.okdL]using hx
  have hy:D.okd m y=true∧D.okdL m ys=true:=by simpa [D.okdL]using hy
  simp only [D.toPL,PyData.eqvAll,D.eqdL,qt n m x y hx.1 hy.1,qZ n m xs ys hx.2 hy.2]
end
mutual
theorem ni (s:ae T B H hs l):∀ (n:Nat) (d:D) (v:V),D.okd n d=true→Dr T (fun _=>False) (vw B.Z H) d v→Dp T.K H v d.toP
 | _,.non,v,_,e=>by
  have e:v = .non:=e
  subst e; exact .non
 | _,.bl b,v,_,e=>by
  have e:v = .bl b:=e
  subst e; exact .bl b
 | _,.int i,v,_,e=>by
  have e:v = .int i:=e
  subst e; exact .int i
 | _,.str z,v,_,e=>by
  have e:v = .str z:=e
  subst e; exact .str z
 | 0,.tup xs,v,h,e=>by simp [D.okd]at h
 | 0,.lst xs,v,h,e=>by simp [D.okd]at h
 | n+1,.tup xs,v,h,e=>by
  obtain⟨a,vs,rfl,h1,h2⟩:=Fc s e
  simp only [D.toP]
  exact .tup h1 (xW s n xs vs (by simpa [D.okd]using h) h2)
 | n+1,.lst xs,v,h,e=>by
  obtain⟨a,vs,rfl,h1,h2⟩:=wx s e
  simp only [D.toP]
  exact .lst h1 (xW s n xs vs (by simpa [D.okd]using h) h2)
 | 0,.dic _ _,v,h,e=>by simp [D.okd]at h
 | 0,.obj _ _ _,v,h,e=>by simp [D.okd]at h
 | 0,.exc _ _,v,h,e=>by simp [D.okd]at h
 | _+1,.dic _ _,v,h,e=>by simp [D.okd]at h
 | _+1,.obj _ _ _,v,h,e=>by simp [D.okd]at h
 | _+1,.exc _ _,v,h,e=>by simp [D.okd]at h
theorem xW (s:ae T B H hs l):∀ (n:Nat) (ds:List D) (vs:List V),D.okdL n ds=true→jB T (fun _=>False) (vw B.Z H) ds vs→DpAll T.K H vs (D.toPL ds)
 | n,[],vs,_,e=>by
  have e:vs = []:=e
  subst e; exact .nil
 | n,d::ds,vs,h,e=>by
  obtain⟨v,r,rfl,e1,e2⟩:=e
  have h:D.okd n d=true∧D.okdL n ds=true:=by simpa [D.okdL]using h
  simp only [D.toPL]
  exact .cons (ni s n d v h.1 e1) (xW s n ds r h.2 e2)
end
end
end PV
namespace PySem.SeqAt
open AutoSeq1 (wpAny_loadPart')
open MeetsSeq
theorem lP (b:Str) (u:Tok) (l:Addr) (es:Array DictEntry) (n:Nat) :
  Meets (Builtin.«str.__eq__» ⟨[.str b u,.ref l],[]⟩) (fun _ R s=>s.heap.get? l=some {cls:=.type "dict",dict:=none,data:=.dict es n,slots:=#[]}∧R (.ok (.ret .notImplemented)) s) :=
 .of_wp fun prog w A R s h=>by obtain⟨hp,g,d,tk,os⟩:=s; obtain⟨hl,h⟩:=h; wp_walk using wpAny_loadPart' hl,wpAny_load hl; exact⟨_,rfl,h⟩
theorem lQ (l:Addr) (es:Array DictEntry) (n:Nat) (b:Str) (u:Tok) :
  Meets (Builtin.«dict.__eq__» ⟨[.ref l,.str b u],[]⟩) (fun _ R s=>s.heap.get? l=some {cls:=.type "dict",dict:=none,data:=.dict es n,slots:=#[]}∧R (.ok (.ret .notImplemented)) s) :=
 .of_wp fun prog w A R s h=>by obtain⟨hp,g,d,tk,os⟩:=s; obtain⟨hl,h⟩:=h; have f1:=F.sub_str_dict; wp_walk using wpAny_loadPart' hl; exact⟨_,rfl,h⟩
theorem nj {A:Around}{s:Shared}{l:Addr}{es:Array DictEntry}{n:Nat} (b:Str) (u:Tok) (ho:s.heap.get? l=some {cls:=.type "dict",dict:=none,data:=.dict es n,slots:=#[]}) (hu:A.units < cLine):EqAt A s (.str b u) (.ref l) false:=fun prog w E Q h=>by
 unfold eqBool
 refine wpAny_holding ?_
 refine wpAny_ite_split (fun hab=>absurd (eq_of_beq hab) nofun) (fun _=>?_)
 refine wpAny_bind ?_
 exact rc_eq_decline_or (k:=false) (typeIs_str s b u) ⟨_,ho,rfl⟩ (by decide) F.sub_dict_str F.slot_str_eq F.slot_dict_eq_refl
  (fun _ hq=>call_meets F.slot_str_eq (typeIs_str s b u) F.entry_str_eq (F.args_str_eq_2 _ _) (lP b u l es n) ⟨ho,hq⟩)
  (fun _ hq=>call_meets F.slot_dict_eq_refl ⟨_,ho,rfl⟩ F.entry_dict_eq (F.args_dict_eq_2 _ _) (lQ l es n b u) ⟨ho,hq⟩)
  (fun _ hq=>wpAny_of_eq (rfl:isSame (.str b u) (.ref l)=pure false) hq) (.inr hu) (wpAny_truthy_bool h)
end PySem.SeqAt
namespace PV
open PySem PySem.Spec PyProof.Rows L2
section
variable {T:Tab}{B:Base}{X:Cx}{σ:L2.St}{l m:List bf}{H:Hp}{pins:List (Addr×Obj)}{s:Shared}{hs:List Addr}
theorem uR (I:Inv X pins σ H s) {a:Addr}{ks:List D}{ws:List V} (d:Bp H a ks ws):∃ (es:Array DictEntry) (n:Nat),s.heap.get? a=some {cls:=.type "dict",dict:=none,data:=.dict es n,slots:=#[]}:=by
 have key:∀ o:Obj,s.heap.get? a=some o→o.ExactDict→∀ es ep,o.data = .dict es ep→∃ (es:Array DictEntry) (n:Nat),s.heap.get? a=some {cls:=.type "dict",dict:=none,data:=.dict es n,slots:=#[]}:=by
  rintro⟨oc,od,dt,sl⟩ ho ⟨h1,h2,h3⟩ es ep h4
  simp only at h1 h2 h3 h4
  subst h1 h2 h3 h4
  exact⟨es,ep,ho⟩
 rcases d with⟨js,_,r,_⟩ | ⟨js,_,r,_⟩
 ·obtain⟨_,_,vs,_,o,es,ep,ho,ex,hd,_⟩:=r.ok I.hok
  exact key o ho ex es ep hd
 ·obtain⟨_,_,xs,_,o,es,ep,ho,ex,hd,_⟩:=r.ok I.hok
  exact key o ho ex es ep hd
theorem IH (sa:ae T B H hs l) {n:Nat}{a:Addr}{vs:List V} (t:TupAt T.K (vw B.Z H) n a vs):SqT T.K H a vs:=by
 rcases t with e | ⟨_,q⟩
 ·exact .inl (qM sa (fun _ _ z=>nomatch z) (.inl e))
 ·exact .inr q
theorem uS {own:Addr→Prop}{h:Hp}:∀ {ys:List D}{vs:List V},jB T own h ys vs→ys.all oZ=true→∀ v∈vs,∃ z,v = .str z
 | [],vs,d,_,v,hv=>by
  cases (show vs = []from d)
  cases hv
 | y::ys,vs,d,hy,v,hv=>by
  obtain⟨v0,r,rfl,d0,d1⟩:=d
  rw [List.all_cons,Bool.and_eq_true]at hy
  rcases List.mem_cons.mp hv with rfl | hv
  ·cases y with
   | str z=>exact⟨z,d0⟩
   | _=>cases hy.1
  ·exact uS d1 hy.2 v hv
theorem q7 {u:Value}:∀ {vs:List V}{us:List Value},Vals vs us→u∈us→∃ v∈vs,RelV v u
 | _,_,.nil,h=>by cases h
 | _,_,.cons r rs,h=>by
  rcases List.mem_cons.mp h with rfl | h
  ·exact⟨_,List.mem_cons_self,r⟩
  ·obtain⟨v,hv,q⟩:=q7 rs h
   exact⟨v,List.mem_cons_of_mem _ hv,q⟩
theorem Gm (hK:X.K=T.K) (hu:X.A.units+200 < cLine) (I:Inv X pins σ H s) {x:V}{v u:Value}{y:V} (rx:RelV x v) (ry:RelV y u) {own:Addr→Prop}{ks ds ys:List D} (sa:ae T B H hs m) (d1:Dr T own (vw B.Z H) (.dic ks ds) x) (d2:Dr T own (vw B.Z H) (.tup ys) y) (hy:ys.all oZ=true) (hq:∀ {a n vs},TupAt T.K (vw B.Z H) n a vs→SqT T.K H a vs) {Q:VK} (neg:Bool) (q:Q (.bl neg) H) :
  wpAny (model X.prog X.w) X.A (compareOp (if neg then .NotIn else .In) v u) (EP X pins σ Q) X.xe s:=by
 obtain⟨a,ws,rfl,dr,_⟩:=qY sa d1
 obtain⟨es,n,ho⟩:=uR I dr
 obtain⟨b,vs,rfl,ht,dl⟩:=d2
 cases rx
 cases ry
 have ht:=hq ht
 rw [← hK]at ht
 obtain⟨its,rv,p,hz⟩:=I.tuple ht
 have he:∀ y,y∈its.toArray→SeqAt.EqAt X.A.in1 s y (.ref a) ((fun _=>false) y):=fun y hyy=>by
  obtain⟨w,hw,rw_⟩:=q7 rv (show y∈its by simpa using hyy)
  obtain⟨z,rfl⟩:=uS dl hy w hw
  obtain⟨t,e⟩:=(show ∃ t,y=Value.str z t from rw_)
  subst e
  exact SeqAt.nj z t ho (by show X.A.units+1 < cLine; omega)
 have ha:its.toArray.any (fun _=>false)=false:=by simp
 cases neg with
 | false=>exact SeqAt.in_tupleAt (fun _=>false) (show s.heap.IsTuple b its.toArray from p) he ⟨.bl _,H,I,rfl,by rw [ha]; exact q⟩
 | true=>exact SeqAt.notIn_tupleAt (fun _=>false) (show s.heap.IsTuple b its.toArray from p) he ⟨.bl _,H,I,rfl,by rw [ha]; exact q⟩
theorem DI (hK:X.K=T.K) (hu:X.A.units+200 < cLine) (I:Inv X pins σ H s) {x:V}{v u:Value}{y:V} (rx:RelV x v) (ry:RelV y u) {ks ds ys:List D} (sa:ae T B H hs m) (d1:Dr T (fun _=>False) (vw B.Z H) (.dic ks ds) x) (d2:Dr T (fun _=>False) (vw B.Z H) (.lst ys) y) (hy:ys.all oZ=true) {Q:VK} (neg:Bool) (q:Q (.bl neg) H) :
  wpAny (model X.prog X.w) X.A (compareOp (if neg then .NotIn else .In) v u) (EP X pins σ Q) X.xe s:=by
 obtain⟨a,ws,rfl,dr,_⟩:=qY sa d1
 obtain⟨es,n,ho⟩:=uR I dr
 obtain⟨b,vs,rfl,ht,dl⟩:=wx sa d2
 cases rx
 cases ry
 rw [← hK]at ht
 obtain⟨its,rv,p,hz⟩:=I.list ht
 have he:∀ y,y∈its.toArray→SeqAt.EqAt X.A.in1 s y (.ref a) ((fun _=>false) y):=fun y hyy=>by
  obtain⟨w,hw,rw_⟩:=q7 rv (show y∈its by simpa using hyy)
  obtain⟨z,rfl⟩:=uS dl hy w hw
  obtain⟨t,e⟩:=(show ∃ t,y=Value.str z t from rw_)
  subst e
  exact SeqAt.nj z t ho (by show X.A.units+1 < cLine; omega)
 have ha:its.toArray.any (fun _=>false)=false:=by simp
 cases neg with
 | false=>exact SeqAt.in_listAt (fun _=>false) (show s.heap.IsList b its.toArray from p.isList) he ⟨.bl _,H,I,rfl,by rw [ha]; exact q⟩
 | true=>exact SeqAt.notIn_listAt (fun _=>false) (show s.heap.IsList b its.toArray from p.isList) he ⟨.bl _,H,I,rfl,by rw [ha]; exact q⟩
end
end PV
namespace PySem.SeqAt
open AutoSeq1 (wpAny_loadPart')
open MeetsSeq
def fy (h:Heap) (l:Addr) (es:Array DictEntry) (n:Nat):Prop:=h.get? l=some {cls:=.type "dict",dict:=none,data:=.dict es n,slots:=#[]}
section
variable {A:Around}{s:Shared}{l:Addr}{es:Array DictEntry}{n:Nat}
theorem fS (l:Addr) (es:Array DictEntry) (n:Nat)  : Meets (Builtin.«dict.__eq__» ⟨[.ref l,.none],[]⟩) (fun _ R s=>s.heap.get? l=some {cls:=.type "dict",dict:=none,data:=.dict es n,slots:=#[]}∧R (.ok (.ret .notImplemented)) s) :=
 .of_wp fun prog w A R s h=>by obtain⟨hp,g,d,tk,os⟩:=s; obtain⟨hl,h⟩:=h; have f1:=F.sub_NoneType_dict; wp_walk using wpAny_loadPart' hl; exact⟨_,rfl,h⟩
theorem fT (l:Addr) (es:Array DictEntry) (n:Nat)  : Meets (Builtin.«NoneType.__eq__» ⟨[.none,.ref l],[]⟩) (fun _ R s=>s.heap.get? l=some {cls:=.type "dict",dict:=none,data:=.dict es n,slots:=#[]}∧R (.ok (.ret .notImplemented)) s) :=
 .of_wp fun prog w A R s h=>by obtain⟨hp,g,d,tk,os⟩:=s; obtain⟨hl,h⟩:=h; wp_walk using wpAny_loadPart' hl,wpAny_load hl; exact⟨_,rfl,h⟩
theorem EqAt.dict_none  (ho:fy s.heap l es n) (hu:A.units < cLine):EqAt A s (.ref l) .none false:=fun prog w E Q h=>by
 unfold fy at ho
 unfold eqBool
 refine wpAny_holding ?_
 refine wpAny_ite_split (fun hab=>absurd (eq_of_beq hab) nofun) (fun _=>?_)
 refine wpAny_bind ?_
 exact rc_eq_decline_or (k:=false) ⟨_,ho,rfl⟩ rfl (by decide) F.sub_NoneType_dict F.slot_dict_eq F.slot_NoneType_eq_refl
  (fun _ hq=>call_meets F.slot_dict_eq ⟨_,ho,rfl⟩ F.entry_dict_eq (F.args_dict_eq_2 _ _) (fS l es n ) ⟨ho,hq⟩)
  (fun _ hq=>call_meets F.slot_NoneType_eq_refl rfl F.entry_NoneType_eq (F.args_NoneType_eq_2 _ _) (fT l es n ) ⟨ho,hq⟩)
  (fun _ hq=>wpAny_of_eq (rfl:isSame (.ref l) .none=pure false) hq) (.inr hu) (wpAny_truthy_bool h)
theorem EqAt.none_dict  (ho:fy s.heap l es n) (hu:A.units < cLine):EqAt A s .none (.ref l) false:=fun prog w E Q h=>by
 unfold fy at ho
 unfold eqBool
 refine wpAny_holding ?_
 refine wpAny_ite_split (fun hab=>absurd (eq_of_beq hab) nofun) (fun _=>?_)
 refine wpAny_bind ?_
 exact rc_eq_decline_or (k:=false) rfl ⟨_,ho,rfl⟩ (by decide) F.sub_dict_NoneType F.slot_NoneType_eq F.slot_dict_eq_refl
  (fun _ hq=>call_meets F.slot_NoneType_eq rfl F.entry_NoneType_eq (F.args_NoneType_eq_2 _ _) (fT l es n ) ⟨ho,hq⟩)
  (fun _ hq=>call_meets F.slot_dict_eq_refl ⟨_,ho,rfl⟩ F.entry_dict_eq (F.args_dict_eq_2 _ _) (fS l es n ) ⟨ho,hq⟩)
  (fun _ hq=>wpAny_of_eq (rfl:isSame .none (.ref l)=pure false) hq) (.inr hu) (wpAny_truthy_bool h)
theorem fU (l:Addr) (es:Array DictEntry) (n:Nat) (b:Bool):Meets (Builtin.«dict.__eq__» ⟨[.ref l,.bool b],[]⟩) (fun _ R s=>s.heap.get? l=some {cls:=.type "dict",dict:=none,data:=.dict es n,slots:=#[]}∧R (.ok (.ret .notImplemented)) s) :=
 .of_wp fun prog w A R s h=>by obtain⟨hp,g,d,tk,os⟩:=s; obtain⟨hl,h⟩:=h; have f1:=F.sub_bool_dict; wp_walk using wpAny_loadPart' hl; exact⟨_,rfl,h⟩
theorem fV (l:Addr) (es:Array DictEntry) (n:Nat) (b:Bool):Meets (Builtin.«int.__eq__» ⟨[.bool b,.ref l],[]⟩) (fun _ R s=>s.heap.get? l=some {cls:=.type "dict",dict:=none,data:=.dict es n,slots:=#[]}∧R (.ok (.ret .notImplemented)) s) :=
 .of_wp fun prog w A R s h=>by obtain⟨hp,g,d,tk,os⟩:=s; obtain⟨hl,h⟩:=h; wp_walk using wpAny_loadPart' hl,wpAny_load hl; exact⟨_,rfl,h⟩
theorem EqAt.dict_bool (b:Bool) (ho:fy s.heap l es n) (hu:A.units < cLine):EqAt A s (.ref l) (.bool b) false:=fun prog w E Q h=>by
 unfold fy at ho
 unfold eqBool
 refine wpAny_holding ?_
 refine wpAny_ite_split (fun hab=>absurd (eq_of_beq hab) nofun) (fun _=>?_)
 refine wpAny_bind ?_
 exact rc_eq_decline_or (k:=false) ⟨_,ho,rfl⟩ rfl (by decide) F.sub_bool_dict F.slot_dict_eq F.slot_bool_eq_refl
  (fun _ hq=>call_meets F.slot_dict_eq ⟨_,ho,rfl⟩ F.entry_dict_eq (F.args_dict_eq_2 _ _) (fU l es n b) ⟨ho,hq⟩)
  (fun _ hq=>call_meets F.slot_bool_eq_refl rfl F.entry_int_eq (F.args_int_eq_2 _ _) (fV l es n b) ⟨ho,hq⟩)
  (fun _ hq=>wpAny_of_eq (rfl:isSame (.ref l) (.bool b)=pure false) hq) (.inr hu) (wpAny_truthy_bool h)
theorem EqAt.bool_dict (b:Bool) (ho:fy s.heap l es n) (hu:A.units < cLine):EqAt A s (.bool b) (.ref l) false:=fun prog w E Q h=>by
 unfold fy at ho
 unfold eqBool
 refine wpAny_holding ?_
 refine wpAny_ite_split (fun hab=>absurd (eq_of_beq hab) nofun) (fun _=>?_)
 refine wpAny_bind ?_
 exact rc_eq_decline_or (k:=false) rfl ⟨_,ho,rfl⟩ (by decide) F.sub_dict_bool F.slot_bool_eq F.slot_dict_eq_refl
  (fun _ hq=>call_meets F.slot_bool_eq rfl F.entry_int_eq (F.args_int_eq_2 _ _) (fV l es n b) ⟨ho,hq⟩)
  (fun _ hq=>call_meets F.slot_dict_eq_refl ⟨_,ho,rfl⟩ F.entry_dict_eq (F.args_dict_eq_2 _ _) (fU l es n b) ⟨ho,hq⟩)
  (fun _ hq=>wpAny_of_eq (rfl:isSame (.bool b) (.ref l)=pure false) hq) (.inr hu) (wpAny_truthy_bool h)
theorem gE (l:Addr) (es:Array DictEntry) (n:Nat) (b:Int) (u:Tok):Meets (Builtin.«dict.__eq__» ⟨[.ref l,.int b u],[]⟩) (fun _ R s=>s.heap.get? l=some {cls:=.type "dict",dict:=none,data:=.dict es n,slots:=#[]}∧R (.ok (.ret .notImplemented)) s) :=
 .of_wp fun prog w A R s h=>by obtain⟨hp,g,d,tk,os⟩:=s; obtain⟨hl,h⟩:=h; have f1:=F.sub_int_dict; wp_walk using wpAny_loadPart' hl; exact⟨_,rfl,h⟩
theorem gF (l:Addr) (es:Array DictEntry) (n:Nat) (b:Int) (u:Tok):Meets (Builtin.«int.__eq__» ⟨[.int b u,.ref l],[]⟩) (fun _ R s=>s.heap.get? l=some {cls:=.type "dict",dict:=none,data:=.dict es n,slots:=#[]}∧R (.ok (.ret .notImplemented)) s) :=
 .of_wp fun prog w A R s h=>by obtain⟨hp,g,d,tk,os⟩:=s; obtain⟨hl,h⟩:=h; wp_walk using wpAny_loadPart' hl,wpAny_load hl; exact⟨_,rfl,h⟩
theorem EqAt.dict_int (b:Int) (u:Tok) (ho:fy s.heap l es n) (hu:A.units < cLine):EqAt A s (.ref l) (.int b u) false:=fun prog w E Q h=>by
 unfold fy at ho
 unfold eqBool
 refine wpAny_holding ?_
 refine wpAny_ite_split (fun hab=>absurd (eq_of_beq hab) nofun) (fun _=>?_)
 refine wpAny_bind ?_
 exact rc_eq_decline_or (k:=false) ⟨_,ho,rfl⟩ (typeIs_int s b u) (by decide) F.sub_int_dict F.slot_dict_eq F.slot_int_eq_refl
  (fun _ hq=>call_meets F.slot_dict_eq ⟨_,ho,rfl⟩ F.entry_dict_eq (F.args_dict_eq_2 _ _) (gE l es n b u) ⟨ho,hq⟩)
  (fun _ hq=>call_meets F.slot_int_eq_refl (typeIs_int s b u) F.entry_int_eq (F.args_int_eq_2 _ _) (gF l es n b u) ⟨ho,hq⟩)
  (fun _ hq=>wpAny_of_eq (rfl:isSame (.ref l) (.int b u)=pure false) hq) (.inr hu) (wpAny_truthy_bool h)
theorem EqAt.int_dict (b:Int) (u:Tok) (ho:fy s.heap l es n) (hu:A.units < cLine):EqAt A s (.int b u) (.ref l) false:=fun prog w E Q h=>by
 unfold fy at ho
 unfold eqBool
 refine wpAny_holding ?_
 refine wpAny_ite_split (fun hab=>absurd (eq_of_beq hab) nofun) (fun _=>?_)
 refine wpAny_bind ?_
 exact rc_eq_decline_or (k:=false) (typeIs_int s b u) ⟨_,ho,rfl⟩ (by decide) F.sub_dict_int F.slot_int_eq F.slot_dict_eq_refl
  (fun _ hq=>call_meets F.slot_int_eq (typeIs_int s b u) F.entry_int_eq (F.args_int_eq_2 _ _) (gF l es n b u) ⟨ho,hq⟩)
  (fun _ hq=>call_meets F.slot_dict_eq_refl ⟨_,ho,rfl⟩ F.entry_dict_eq (F.args_dict_eq_2 _ _) (gE l es n b u) ⟨ho,hq⟩)
  (fun _ hq=>wpAny_of_eq (rfl:isSame (.int b u) (.ref l)=pure false) hq) (.inr hu) (wpAny_truthy_bool h)
theorem gG (l:Addr) (es:Array DictEntry) (n:Nat) (b:Str) (u:Tok):Meets (Builtin.«dict.__eq__» ⟨[.ref l,.str b u],[]⟩) (fun _ R s=>s.heap.get? l=some {cls:=.type "dict",dict:=none,data:=.dict es n,slots:=#[]}∧R (.ok (.ret .notImplemented)) s) :=
 .of_wp fun prog w A R s h=>by obtain⟨hp,g,d,tk,os⟩:=s; obtain⟨hl,h⟩:=h; have f1:=F.sub_str_dict; wp_walk using wpAny_loadPart' hl; exact⟨_,rfl,h⟩
theorem gH (l:Addr) (es:Array DictEntry) (n:Nat) (b:Str) (u:Tok):Meets (Builtin.«str.__eq__» ⟨[.str b u,.ref l],[]⟩) (fun _ R s=>s.heap.get? l=some {cls:=.type "dict",dict:=none,data:=.dict es n,slots:=#[]}∧R (.ok (.ret .notImplemented)) s) :=
 .of_wp fun prog w A R s h=>by obtain⟨hp,g,d,tk,os⟩:=s; obtain⟨hl,h⟩:=h; wp_walk using wpAny_loadPart' hl,wpAny_load hl; exact⟨_,rfl,h⟩
theorem EqAt.dict_str (b:Str) (u:Tok) (ho:fy s.heap l es n) (hu:A.units < cLine):EqAt A s (.ref l) (.str b u) false:=fun prog w E Q h=>by
 unfold fy at ho
 unfold eqBool
 refine wpAny_holding ?_
 refine wpAny_ite_split (fun hab=>absurd (eq_of_beq hab) nofun) (fun _=>?_)
 refine wpAny_bind ?_
 exact rc_eq_decline_or (k:=false) ⟨_,ho,rfl⟩ (typeIs_str s b u) (by decide) F.sub_str_dict F.slot_dict_eq F.slot_str_eq_refl
  (fun _ hq=>call_meets F.slot_dict_eq ⟨_,ho,rfl⟩ F.entry_dict_eq (F.args_dict_eq_2 _ _) (gG l es n b u) ⟨ho,hq⟩)
  (fun _ hq=>call_meets F.slot_str_eq_refl (typeIs_str s b u) F.entry_str_eq (F.args_str_eq_2 _ _) (gH l es n b u) ⟨ho,hq⟩)
  (fun _ hq=>wpAny_of_eq (rfl:isSame (.ref l) (.str b u)=pure false) hq) (.inr hu) (wpAny_truthy_bool h)
theorem EqAt.str_dict (b:Str) (u:Tok) (ho:fy s.heap l es n) (hu:A.units < cLine):EqAt A s (.str b u) (.ref l) false:=fun prog w E Q h=>by
 unfold fy at ho
 unfold eqBool
 refine wpAny_holding ?_
 refine wpAny_ite_split (fun hab=>absurd (eq_of_beq hab) nofun) (fun _=>?_)
 refine wpAny_bind ?_
 exact rc_eq_decline_or (k:=false) (typeIs_str s b u) ⟨_,ho,rfl⟩ (by decide) F.sub_dict_str F.slot_str_eq F.slot_dict_eq_refl
  (fun _ hq=>call_meets F.slot_str_eq (typeIs_str s b u) F.entry_str_eq (F.args_str_eq_2 _ _) (gH l es n b u) ⟨ho,hq⟩)
  (fun _ hq=>call_meets F.slot_dict_eq_refl ⟨_,ho,rfl⟩ F.entry_dict_eq (F.args_dict_eq_2 _ _) (gG l es n b u) ⟨ho,hq⟩)
  (fun _ hq=>wpAny_of_eq (rfl:isSame (.str b u) (.ref l)=pure false) hq) (.inr hu) (wpAny_truthy_bool h)
theorem fW (l b:Addr) (es:Array DictEntry) (n:Nat) (items:Array Value) (m:Nat) (dd:Option Addr) (sl:Array (Option Value)):Meets (Builtin.«dict.__eq__» ⟨[.ref l,.ref b],[]⟩) (fun _ R s=>s.heap.get? l=some {cls:=.type "dict",dict:=none,data:=.dict es n,slots:=#[]}∧s.heap.get? b=some {cls:=.type "list",dict:=dd,data:=.seq items m,slots:=sl}∧R (.ok (.ret .notImplemented)) s) :=
 .of_wp fun prog w A R s h=>by obtain⟨hp,g,d,tk,os⟩:=s; obtain⟨hl,hb,h⟩:=h; have f1:=F.sub_list_dict; wp_walk using wpAny_loadPart' hl,wpAny_loadPart' hb; exact⟨_,rfl,h⟩
theorem fX (l b:Addr) (es:Array DictEntry) (n:Nat) (items:Array Value) (m:Nat) (dd:Option Addr) (sl:Array (Option Value)):Meets (Builtin.«list.__eq__» ⟨[.ref b,.ref l],[]⟩) (fun _ R s=>s.heap.get? l=some {cls:=.type "dict",dict:=none,data:=.dict es n,slots:=#[]}∧s.heap.get? b=some {cls:=.type "list",dict:=dd,data:=.seq items m,slots:=sl}∧R (.ok (.ret .notImplemented)) s) :=
 .of_wp fun prog w A R s h=>by obtain⟨hp,g,d,tk,os⟩:=s; obtain⟨hl,hb,h⟩:=h; have f1:=F.sub_dict_list; wp_walk using wpAny_loadPart' hl,wpAny_loadPart' hb; exact⟨_,rfl,h⟩
theorem eN {b:Addr}{items:Array Value} (ho:fy s.heap l es n) (hb:s.heap.IsList b items):l≠b:=fun e=>by
 subst e
 obtain⟨o2,ho2,hc2,_⟩:=hb
 unfold fy at ho
 rw [ho]at ho2
 cases ho2
 exact absurd hc2 (by simp)
theorem EqAt.dict_list {b:Addr}{items:Array Value} (ho:fy s.heap l es n) (hb:s.heap.IsList b items) (hu:A.units < cLine):EqAt A s (.ref l) (.ref b) false:=.of_refs (eN ho hb) fun prog w E Q h=>by
 have hne:=eN ho hb
 unfold fy at ho
 obtain⟨⟨cls,dd,data,sl⟩,hob,hc,m,hd⟩:=id hb
 simp only at hc hd
 subst hc hd
 exact rc_eq_decline_or (k:=false) ⟨_,ho,rfl⟩ ⟨_,hob,rfl⟩ (by decide) F.sub_list_dict F.slot_dict_eq F.slot_list_eq_refl
  (fun _ hq=>call_meets F.slot_dict_eq ⟨_,ho,rfl⟩ F.entry_dict_eq (F.args_dict_eq_2 _ _) (fW l b es n items m dd sl) ⟨ho,hob,hq⟩)
  (fun _ hq=>call_meets F.slot_list_eq_refl ⟨_,hob,rfl⟩ F.entry_list_eq (F.args_list_eq_2 _ _) (fX l b es n items m dd sl) ⟨ho,hob,hq⟩)
  (fun _ hq=>wpAny_isSame_ref_other hne ho hob (by simp) hq) (.inr hu) h
theorem EqAt.list_dict {b:Addr}{items:Array Value} (ho:fy s.heap l es n) (hb:s.heap.IsList b items) (hu:A.units < cLine):EqAt A s (.ref b) (.ref l) false:=.of_refs (eN ho hb).symm fun prog w E Q h=>by
 have hne:=eN ho hb
 unfold fy at ho
 obtain⟨⟨cls,dd,data,sl⟩,hob,hc,m,hd⟩:=id hb
 simp only at hc hd
 subst hc hd
 exact rc_eq_decline_or (k:=false) ⟨_,hob,rfl⟩ ⟨_,ho,rfl⟩ (by decide) F.sub_dict_list F.slot_list_eq F.slot_dict_eq_refl
  (fun _ hq=>call_meets F.slot_list_eq ⟨_,hob,rfl⟩ F.entry_list_eq (F.args_list_eq_2 _ _) (fX l b es n items m dd sl) ⟨ho,hob,hq⟩)
  (fun _ hq=>call_meets F.slot_dict_eq_refl ⟨_,ho,rfl⟩ F.entry_dict_eq (F.args_dict_eq_2 _ _) (fW l b es n items m dd sl) ⟨ho,hob,hq⟩)
  (fun _ hq=>wpAny_isSame_ref_other hne.symm hob ho (by simp) hq) (.inr hu) h
theorem fF (l b:Addr) (es:Array DictEntry) (n:Nat) (items:Array Value) (m:Nat) (dd:Option Addr) (sl:Array (Option Value)):Meets (Builtin.«dict.__eq__» ⟨[.ref l,.ref b],[]⟩) (fun _ R s=>s.heap.get? l=some {cls:=.type "dict",dict:=none,data:=.dict es n,slots:=#[]}∧s.heap.get? b=some {cls:=.type "tuple",dict:=dd,data:=.seq items m,slots:=sl}∧R (.ok (.ret .notImplemented)) s) :=
 .of_wp fun prog w A R s h=>by obtain⟨hp,g,d,tk,os⟩:=s; obtain⟨hl,hb,h⟩:=h; have f1:=F.sub_tuple_dict; wp_walk using wpAny_loadPart' hl,wpAny_loadPart' hb; exact⟨_,rfl,h⟩
theorem fG (l b:Addr) (es:Array DictEntry) (n:Nat) (items:Array Value) (m:Nat) (dd:Option Addr) (sl:Array (Option Value)):Meets (Builtin.«tuple.__eq__» ⟨[.ref b,.ref l],[]⟩) (fun _ R s=>s.heap.get? l=some {cls:=.type "dict",dict:=none,data:=.dict es n,slots:=#[]}∧s.heap.get? b=some {cls:=.type "tuple",dict:=dd,data:=.seq items m,slots:=sl}∧R (.ok (.ret .notImplemented)) s) :=
 .of_wp fun prog w A R s h=>by obtain⟨hp,g,d,tk,os⟩:=s; obtain⟨hl,hb,h⟩:=h; have f1:=F.sub_dict_tuple; wp_walk using wpAny_loadPart' hl,wpAny_loadPart' hb; exact⟨_,rfl,h⟩
theorem dQ {b:Addr}{items:Array Value} (ho:fy s.heap l es n) (hb:s.heap.IsTuple b items):l≠b:=fun e=>by
 subst e
 obtain⟨o2,ho2,hc2,_⟩:=hb
 unfold fy at ho
 rw [ho]at ho2
 cases ho2
 exact absurd hc2 (by simp)
theorem EqAt.dict_tuple {b:Addr}{items:Array Value} (ho:fy s.heap l es n) (hb:s.heap.IsTuple b items) (hu:A.units < cLine):EqAt A s (.ref l) (.ref b) false:=.of_refs (dQ ho hb) fun prog w E Q h=>by
 have hne:=dQ ho hb
 unfold fy at ho
 obtain⟨⟨cls,dd,data,sl⟩,hob,hc,m,hd⟩:=id hb
 simp only at hc hd
 subst hc hd
 exact rc_eq_decline_or (k:=false) ⟨_,ho,rfl⟩ ⟨_,hob,rfl⟩ (by decide) F.sub_tuple_dict F.slot_dict_eq F.slot_tuple_eq_refl
  (fun _ hq=>call_meets F.slot_dict_eq ⟨_,ho,rfl⟩ F.entry_dict_eq (F.args_dict_eq_2 _ _) (fF l b es n items m dd sl) ⟨ho,hob,hq⟩)
  (fun _ hq=>call_meets F.slot_tuple_eq_refl ⟨_,hob,rfl⟩ F.entry_tuple_eq (F.args_tuple_eq_2 _ _) (fG l b es n items m dd sl) ⟨ho,hob,hq⟩)
  (fun _ hq=>wpAny_isSame_ref_other hne ho hob (by simp) hq) (.inr hu) h
theorem EqAt.tuple_dict {b:Addr}{items:Array Value} (ho:fy s.heap l es n) (hb:s.heap.IsTuple b items) (hu:A.units < cLine):EqAt A s (.ref b) (.ref l) false:=.of_refs (dQ ho hb).symm fun prog w E Q h=>by
 have hne:=dQ ho hb
 unfold fy at ho
 obtain⟨⟨cls,dd,data,sl⟩,hob,hc,m,hd⟩:=id hb
 simp only at hc hd
 subst hc hd
 exact rc_eq_decline_or (k:=false) ⟨_,hob,rfl⟩ ⟨_,ho,rfl⟩ (by decide) F.sub_dict_tuple F.slot_tuple_eq F.slot_dict_eq_refl
  (fun _ hq=>call_meets F.slot_tuple_eq ⟨_,hob,rfl⟩ F.entry_tuple_eq (F.args_tuple_eq_2 _ _) (fG l b es n items m dd sl) ⟨ho,hob,hq⟩)
  (fun _ hq=>call_meets F.slot_dict_eq_refl ⟨_,ho,rfl⟩ F.entry_dict_eq (F.args_dict_eq_2 _ _) (fF l b es n items m dd sl) ⟨ho,hob,hq⟩)
  (fun _ hq=>wpAny_isSame_ref_other' hne.symm hob ho (by simp) hq) (.inr hu) h
end
end PySem.SeqAt
namespace PV
open PySem PySem.Spec PyProof.Rows L2
open PySem.SeqAt (EqAt fy)
open PySem.W (EqTree)
inductive ja (P:Program) (w:World) (s:Shared):D→Value→Prop
 | non:ja P w s .non .none
 | bl (b:Bool):ja P w s (.bl b) (.bool b)
 | int (i:Int) (t:Tok):ja P w s (.int i) (.int i t)
 | str (z:Str) (t:Tok):ja P w s (.str z) (.str z t)
 | lst {xs:List D}{a:Addr}{its:Array Value}:s.heap.IsList a its→its.size=xs.length→(∀ j (h:j < xs.length) (h':j < its.size),ja P w s xs[j] its[j])→ja P w s (.lst xs) (.ref a)
 | tup {xs:List D}{a:Addr}{its:Array Value}:s.heap.IsTuple a its→its.size=xs.length→(∀ j (h:j < xs.length) (h':j < its.size),ja P w s xs[j] its[j])→ja P w s (.tup xs) (.ref a)
 | dic {ks ds:List D}{a:Addr}{es:Array DictEntry}{n:Nat}{js:List Key}{kvs:List (Key×Value)}:fy s.heap a es n→s.heap.DictOf (mixKind P w) a kvs→(a == sysModules)=false→keysOf ks=some js→kvs.map (·.1)=js→ks.length=ds.length →
   (∀ j (h:j < ds.length) (h':j < kvs.length),ja P w s ds[j] kvs[j].2)→ja P w s (.dic ks ds) (.ref a)
theorem ky {n:Nat}{xs:List D} (h:D.okn n (.lst xs)=true):∃ m,n=m+1∧∀ x∈xs,D.okn m x=true:=by
 cases n with
 | zero=>simp [D.okn]at h
 | succ m=>exact⟨m,rfl,by simpa [D.okn]using h⟩
theorem kz {n:Nat}{xs:List D} (h:D.okn n (.tup xs)=true):∃ m,n=m+1∧∀ x∈xs,D.okn m x=true:=by
 cases n with
 | zero=>simp [D.okn]at h
 | succ m=>exact⟨m,rfl,by simpa [D.okn]using h⟩
theorem ou {n:Nat}{ks vs:List D} (h:D.okn n (.dic ks vs)=true):∃ m js,n=m+1∧keysOf ks=some js∧js.Nodup∧ks.length=vs.length∧∀ x∈vs,D.okn m x=true:=by
 cases n with
 | zero=>simp [D.okn]at h
 | succ m =>
  cases e:keysOf ks with
  | none=>simp [D.okn,e]at h
  | some js =>
   simp [D.okn,e]at h
   exact⟨m,js,rfl,rfl,h.1,h.2.1,h.2.2⟩
theorem wy {P:Program}{w:World}{s:Shared}{n:Nat}{x y:D}{u v:Value} (hx:ja P w s x u) (hy:ja P w s y v) (hl:∀ A:Around,A.units+(n+1) < cLine→A.units < cLine) (hne:(∀ xs ys,¬ (x = .lst xs∧y = .lst ys))∧(∀ xs ys,¬ (x = .tup xs∧y = .tup ys))∧∀ a b c d,¬ (x = .dic a b∧y = .dic c d)):EqTree P w s (n+1) u v (D.eqd x y):=by
 cases hx with
 | non =>
  cases hy with
  | non=>rw [show D.eqd .non .non=true by simp only [D.eqd]]; exact .same
  | bl b2=>simp only [D.eqd]; exact .leaf fun A hu=>EqAt.none_bool b2
  | int i2 t2=>simp only [D.eqd]; exact .leaf fun A hu=>EqAt.none_int i2 t2
  | str z2 t2=>simp only [D.eqd]; exact .leaf fun A hu=>EqAt.none_str z2 t2
  | lst h21 h22 h23=>simp only [D.eqd]; exact .leaf fun A hu=>EqAt.none_list h21 (hl A hu)
  | tup h21 h22 h23=>simp only [D.eqd]; exact .leaf fun A hu=>EqAt.none_tuple h21 (hl A hu)
  | dic h21 h22 h23 h24 h25 h26 h27=>simp only [D.eqd]; exact .leaf fun A hu=>EqAt.none_dict h21 (hl A hu)
 | bl b1 =>
  cases hy with
  | non=>simp only [D.eqd]; exact .leaf fun A hu=>EqAt.bool_none b1
  | bl b2=>simp only [D.eqd]; exact .leaf fun A hu=>EqAt.bool_bool b1 b2
  | int i2 t2=>simp only [D.eqd]; exact .leaf fun A hu=>EqAt.bool_int b1 i2 t2
  | str z2 t2=>simp only [D.eqd]; exact .leaf fun A hu=>EqAt.bool_str b1 z2 t2
  | lst h21 h22 h23=>simp only [D.eqd]; exact .leaf fun A hu=>EqAt.bool_list b1 h21 (hl A hu)
  | tup h21 h22 h23=>simp only [D.eqd]; exact .leaf fun A hu=>EqAt.bool_tuple b1 h21 (hl A hu)
  | dic h21 h22 h23 h24 h25 h26 h27=>simp only [D.eqd]; exact .leaf fun A hu=>EqAt.bool_dict b1 h21 (hl A hu)
 | int i1 t1 =>
  cases hy with
  | non=>simp only [D.eqd]; exact .leaf fun A hu=>EqAt.int_none i1 t1
  | bl b2=>simp only [D.eqd]; exact .leaf fun A hu=>EqAt.int_bool i1 t1 b2
  | int i2 t2=>simp only [D.eqd]; exact .leaf fun A hu=>EqAt.int_int i1 t1 i2 t2
  | str z2 t2=>simp only [D.eqd]; exact .leaf fun A hu=>EqAt.int_str i1 t1 z2 t2
  | lst h21 h22 h23=>simp only [D.eqd]; exact .leaf fun A hu=>EqAt.int_list i1 t1 h21 (hl A hu)
  | tup h21 h22 h23=>simp only [D.eqd]; exact .leaf fun A hu=>EqAt.int_tuple i1 t1 h21 (hl A hu)
  | dic h21 h22 h23 h24 h25 h26 h27=>simp only [D.eqd]; exact .leaf fun A hu=>EqAt.int_dict i1 t1 h21 (hl A hu)
 | str z1 t1 =>
  cases hy with
  | non=>simp only [D.eqd]; exact .leaf fun A hu=>EqAt.str_none z1 t1
  | bl b2=>simp only [D.eqd]; exact .leaf fun A hu=>EqAt.str_bool z1 t1 b2
  | int i2 t2=>simp only [D.eqd]; exact .leaf fun A hu=>EqAt.str_int z1 t1 i2 t2
  | str z2 t2=>simp only [D.eqd]; exact .leaf fun A hu=>EqAt.str_str z1 t1 z2 t2
  | lst h21 h22 h23=>simp only [D.eqd]; exact .leaf fun A hu=>EqAt.str_list z1 t1 h21 (hl A hu)
  | tup h21 h22 h23=>simp only [D.eqd]; exact .leaf fun A hu=>EqAt.str_tuple z1 t1 h21 (hl A hu)
  | dic h21 h22 h23 h24 h25 h26 h27=>simp only [D.eqd]; exact .leaf fun A hu=>EqAt.str_dict z1 t1 h21 (hl A hu)
 | lst h11 h12 h13 =>
  cases hy with
  | non=>simp only [D.eqd]; exact .leaf fun A hu=>EqAt.list_none h11 (hl A hu)
  | bl b2=>simp only [D.eqd]; exact .leaf fun A hu=>EqAt.list_bool b2 h11 (hl A hu)
  | int i2 t2=>simp only [D.eqd]; exact .leaf fun A hu=>EqAt.list_int i2 t2 h11 (hl A hu)
  | str z2 t2=>simp only [D.eqd]; exact .leaf fun A hu=>EqAt.list_str z2 t2 h11 (hl A hu)
  | lst h21 h22 h23=>exact(hne.1 _ _ ⟨rfl,rfl⟩).elim
  | tup h21 h22 h23=>simp only [D.eqd]; exact .leaf fun A hu=>EqAt.list_tuple h11 h21 (hl A hu)
  | dic h21 h22 h23 h24 h25 h26 h27=>simp only [D.eqd]; exact .leaf fun A hu=>EqAt.list_dict h21 h11 (hl A hu)
 | tup h11 h12 h13 =>
  cases hy with
  | non=>simp only [D.eqd]; exact .leaf fun A hu=>EqAt.tuple_none h11 (hl A hu)
  | bl b2=>simp only [D.eqd]; exact .leaf fun A hu=>EqAt.tuple_bool b2 h11 (hl A hu)
  | int i2 t2=>simp only [D.eqd]; exact .leaf fun A hu=>EqAt.tuple_int i2 t2 h11 (hl A hu)
  | str z2 t2=>simp only [D.eqd]; exact .leaf fun A hu=>EqAt.tuple_str z2 t2 h11 (hl A hu)
  | lst h21 h22 h23=>simp only [D.eqd]; exact .leaf fun A hu=>EqAt.tuple_list h11 h21 (hl A hu)
  | tup h21 h22 h23=>exact(hne.2.1 _ _ ⟨rfl,rfl⟩).elim
  | dic h21 h22 h23 h24 h25 h26 h27=>simp only [D.eqd]; exact .leaf fun A hu=>EqAt.tuple_dict h21 h11 (hl A hu)
 | dic h11 h12 h13 h14 h15 h16 h17 =>
  cases hy with
  | non=>simp only [D.eqd]; exact .leaf fun A hu=>EqAt.dict_none h11 (hl A hu)
  | bl b2=>simp only [D.eqd]; exact .leaf fun A hu=>EqAt.dict_bool b2 h11 (hl A hu)
  | int i2 t2=>simp only [D.eqd]; exact .leaf fun A hu=>EqAt.dict_int i2 t2 h11 (hl A hu)
  | str z2 t2=>simp only [D.eqd]; exact .leaf fun A hu=>EqAt.dict_str z2 t2 h11 (hl A hu)
  | lst h21 h22 h23=>simp only [D.eqd]; exact .leaf fun A hu=>EqAt.dict_list h11 h21 (hl A hu)
  | tup h21 h22 h23=>simp only [D.eqd]; exact .leaf fun A hu=>EqAt.dict_tuple h11 h21 (hl A hu)
  | dic h21 h22 h23 h24 h25 h26 h27=>exact(hne.2.2 _ _ _ _ ⟨rfl,rfl⟩).elim
theorem wz {h:Heap}{a:Addr}{x y:Array Value} (h1:h.IsList a x) (h2:h.IsList a y):x=y:=by
 obtain⟨o,ho,_,n,hd⟩:=h1
 obtain⟨o2,ho2,_,m,hd2⟩:=h2
 rw [ho]at ho2
 cases ho2
 rw [hd]at hd2
 cases hd2
 rfl
theorem uT {h:Heap}{a:Addr}{x y:Array Value} (h1:h.IsTuple a x) (h2:h.IsTuple a y):x=y:=by
 obtain⟨o,ho,_,n,hd⟩:=h1
 obtain⟨o2,ho2,_,m,hd2⟩:=h2
 rw [ho]at ho2
 cases ho2
 rw [hd]at hd2
 cases hd2
 rfl
theorem q8 {P:Program}{w:World}{K:Type} [DecidableEq K] {knd:KeyKind P w K}:∀ {es:List DictEntry}{k1 k2:List (K×Value)},Pairs knd es k1→Pairs knd es k2→k1=k2
 | _,_,_,.nil,.nil=>rfl
 | _,_,_,.cons (kv:=p) a b c,.cons (kv:=q) a' b' c'=>by
  have h1:p.1=q.1:=knd.inj _ _ _ a a'
  have h2:p.2=q.2:=b.symm.trans b'
  rw [q8 c c',Prod.ext h1 h2]
theorem wA {P:Program}{w:World}{K:Type} [DecidableEq K] {knd:KeyKind P w K}{h:Heap}{a:Addr}{k1 k2:List (K×Value)} (h1:h.DictOf knd a k1) (h2:h.DictOf knd a k2):k1=k2:=by
 obtain⟨o,es,ep,ho,_,hd,_,hp,_⟩:=h1
 obtain⟨o2,es2,ep2,ho2,_,hd2,_,hp2,_⟩:=h2
 rw [ho]at ho2
 cases ho2
 rw [hd]at hd2
 cases hd2
 exact q8 hp hp2
theorem tY {a b:D}{k:Key} (h1:keyOf a=some k) (h2:keyOf b=some k):a=b:=by
 cases a <;> cases b <;> simp [keyOf]at h1 h2 <;> first | (rw [← h1]at h2; simp at h2; done) | (rw [← h1]at h2; injection h2 with h2; rw [h2])
theorem q9:∀ {ks ls:List D}{js:List Key},keysOf ks=some js→keysOf ls=some js→ks=ls
 | [],[],_,_,_=>rfl
 | [],b::ls,js,h1,h2=>by
  rw [keysOf]at h1
  cases h1
  rw [keysOf]at h2
  cases e1:keyOf b <;> cases e2:keysOf ls <;> simp [e1,e2]at h2
 | a::ks,[],js,h1,h2=>by
  rw [keysOf]at h2
  cases h2
  rw [keysOf]at h1
  cases e1:keyOf a <;> cases e2:keysOf ks <;> simp [e1,e2]at h1
 | a::ks,b::ls,js,h1,h2=>by
  rw [keysOf]at h1 h2
  cases e1:keyOf a <;> cases e2:keysOf ks <;> simp [e1,e2]at h1
  cases e3:keyOf b <;> cases e4:keysOf ls <;> simp [e3,e4]at h2
  rw [← h1]at h2
  injection h2 with h3 h4
  subst h3 h4
  rw [tY e1 e3,q9 e2 e4]
theorem jd:∀ {ks:List D}{js:List Key},keysOf ks=some js→js.length=ks.length
 | [],js,h=>by rw [keysOf]at h; cases h; rfl
 | a::ks,js,h=>by
  rw [keysOf]at h
  cases e1:keyOf a <;> cases e2:keysOf ks <;> simp [e1,e2]at h
  rw [← h,List.length_cons,List.length_cons,jd e2]
theorem mO {P:Program}{w:World}{s:Shared}:∀ (n:Nat) (x y:D) (u:Value),D.okn n x=true→ja P w s x u→ja P w s y u→x=y
 | n,x,y,u,ok,hx,hy=>by
  cases hx with
  | non=>cases hy; rfl
  | bl b=>cases hy; rfl
  | int i t=>cases hy; rfl
  | str z t=>cases hy; rfl
  | lst h1 h2 h3 =>
   obtain⟨m,rfl,om⟩:=ky ok
   cases hy with
   | lst k1 k2 k3 =>
    have e:=wz h1 k1
    subst e
    congr 1
    refine List.ext_getElem (h2.symm.trans k2) fun j j1 j2=>?_
    exact mO m _ _ _ (om _ (List.getElem_mem j1)) (h3 j j1 (by omega)) (k3 j j2 (by omega))
   | tup k1 k2 k3=>exact(PySem.SeqAt.ne_of_list_tuple h1 k1 rfl).elim
   | dic k1 k2 k3 k4 k5 k6 k7=>exact(PySem.SeqAt.eN k1 h1 rfl).elim
  | tup h1 h2 h3 =>
   obtain⟨m,rfl,om⟩:=kz ok
   cases hy with
   | lst k1 k2 k3=>exact(PySem.SeqAt.ne_of_list_tuple k1 h1 rfl).elim
   | tup k1 k2 k3 =>
    have e:=uT h1 k1
    subst e
    congr 1
    refine List.ext_getElem (h2.symm.trans k2) fun j j1 j2=>?_
    exact mO m _ _ _ (om _ (List.getElem_mem j1)) (h3 j j1 (by omega)) (k3 j j2 (by omega))
   | dic k1 k2 k3 k4 k5 k6 k7=>exact(PySem.SeqAt.dQ k1 h1 rfl).elim
  | dic h1 h2 h3 h4 h5 h6 h7 =>
   obtain⟨m,js,rfl,_,_,_,om⟩:=ou ok
   cases hy with
   | lst k1 k2 k3=>exact(PySem.SeqAt.eN h1 k1 rfl).elim
   | tup k1 k2 k3=>exact(PySem.SeqAt.dQ h1 k1 rfl).elim
   | dic k1 k2 k3 k4 k5 k6 k7 =>
    have e:=wA h2 k2
    subst e
    have ej:=h5.symm.trans k5
    subst ej
    have ek:=q9 h4 k4
    subst ek
    congr 1
    have l1:=jd h4
    have l2:=congrArg List.length h5
    rw [List.length_map]at l2
    refine List.ext_getElem (h6.symm.trans k6) fun j j1 j2=>?_
    exact mO m _ _ _ (om _ (List.getElem_mem j1)) (h7 j j1 (by omega)) (k7 j j2 (by omega))
theorem kA {n:Nat}:∀ {xs:List D},(∀ x∈xs,D.eqn n x x=true)→((xs.zip xs).all fun p=>D.eqn n p.1 p.2)=true
 | [],_=>rfl
 | x::xs,h=>by
  rw [List.zip_cons_cons,List.all_cons,h x List.mem_cons_self,kA fun y hy=>h y (List.mem_cons_of_mem _ hy)]
  rfl
theorem range_all {n:Nat}{f g:D×D→Bool}:∀ {xs ys:List D},xs.length=ys.length→∀ (e:Nat→Bool),(∀ j (h1:j < xs.length) (h2:j < ys.length),e j=f (xs[j],ys[j]))→(List.range xs.length).all e=(xs.zip ys).all f
 | [],[],_,e,_=>rfl
 | x::xs,y::ys,hl,e,h=>by
  rw [List.length_cons,List.range_succ_eq_map,List.all_cons,List.all_map,List.zip_cons_cons,List.all_cons]
  have h0:=h 0 (by simp) (by simp)
  have ih:=range_all (n:=n) (f:=f) (g:=g) (xs:=xs) (ys:=ys) (by simpa using hl) (e∘Nat.succ) fun j j1 j2=>h (j+1) (by simpa using j1) (by simpa using j2)
  rw [ih,h0]
  rfl
theorem nJ {k:D}{x:D}:∀ {ks vs:List D}{js:List Key},keysOf ks=some js→js.Nodup→ks.length=vs.length→(k,x)∈ks.zip vs→aW k ks vs=some x
 | [],vs,js,_,_,_,h=>by simp at h
 | a::ks,[],js,_,_,hl,h=>by simp at hl
 | a::ks,v::vs,js,e,nd,hl,h=>by
  rw [keysOf]at e
  cases e1:keyOf a with
  | none=>rw [e1]at e; cases e
  | some j =>
   cases e2:keysOf ks with
   | none=>rw [e1,e2]at e; cases e
   | some jr =>
    rw [e1,e2]at e
    injection e with e
    subst e
    obtain⟨n1,n2⟩:=List.nodup_cons.mp nd
    rw [List.zip_cons_cons]at h
    show(if keyOf a=keyOf k∧aA a=aA k then some v else aW k ks vs)=some x
    rcases List.mem_cons.mp h with h | h
    ·cases h
     rw [if_pos ⟨rfl,rfl⟩]
    ·have hk:k∈ks:=(List.of_mem_zip h).1
     have:keyOf k≠keyOf a:=by
      intro z
      rw [e1]at z
      have:∀ {ks:List D}{jr:List Key},keysOf ks=some jr→k∈ks→j∈jr:=by
       intro ks
       induction ks with
       | nil=>intro jr _ hk; cases hk
       | cons b ks ih =>
        intro jr e hk
        rw [keysOf]at e
        cases e3:keyOf b with
        | none=>rw [e3]at e; cases e
        | some jb =>
         cases e4:keysOf ks with
         | none=>rw [e3,e4]at e; cases e
         | some jc =>
          rw [e3,e4]at e
          injection e with e
          subst e
          rcases List.mem_cons.mp hk with rfl | hk
          ·rw [z]at e3
           injection e3 with e3
           rw [e3]; exact List.mem_cons_self
          ·exact List.mem_cons_of_mem _ (ih e4 hk)
      exact n1 (this e2 hk)
     rw [if_neg fun z=>this z.1.symm]
     exact nJ e2 n2 (by simpa using hl) h
theorem ow:∀ (n:Nat) (x:D),D.okn n x=true→D.eqn n x x=true:=by
 intro n
 induction n with
 | zero =>
  intro x h
  cases x <;> simp [D.okn]at h <;> simp [D.eqn,D.eqd]
 | succ n ih =>
  intro x h
  cases x with
  | tup xs =>
   obtain⟨m,e,om⟩:=kz h
   cases e
   rw [D.eqn,kA fun y hy=>ih y (om y hy)]
   simp
  | lst xs =>
   obtain⟨m,e,om⟩:=ky h
   cases e
   rw [D.eqn,kA fun y hy=>ih y (om y hy)]
   simp
  | dic ks vs =>
   obtain⟨m,js,e,ek,nd,hl,om⟩:=ou h
   cases e
   rw [D.eqn,Bool.and_eq_true]
   refine⟨by simp,List.all_eq_true.mpr fun p hp=>?_⟩
   obtain⟨k,x⟩:=p
   rw [nJ ek nd hl hp]
   exact ih x (om x (List.of_mem_zip hp).2)
  | obj C a b=>simp [D.okn]at h
  | exc C p=>simp [D.okn]at h
  | _=>simp [D.eqn,D.eqd]
theorem Bq {P:Program}{w:World}{s:Shared}{n:Nat} (ih:∀ (x y:D) (u v:Value),D.okn n x=true→D.okn n y=true→ja P w s x u→ja P w s y v→EqTree P w s (n+1) u v (D.eqn n x y)) {xs ys:List D}{u v:Value}
  (ox:D.okn (n+1) (.lst xs)=true) (oy:D.okn (n+1) (.lst ys)=true) (hx:ja P w s (.lst xs) u) (hy:ja P w s (.lst ys) v):EqTree P w s (n+1+1) u v (D.eqn (n+1) (.lst xs) (.lst ys)):=by
 by_cases huv:u=v
 ·subst huv
  rw [← mO _ _ _ _ ox hx hy,ow _ _ ox]
  exact .same
 obtain⟨m,e,om⟩:=ky ox
 cases e
 obtain⟨m,e,oy'⟩:=ky oy
 cases e
 cases hx with
 | lst h1 h2 h3 =>
  cases hy with
  | lst k1 k2 k3 =>
   have hne:=fun z=>huv (congrArg Value.ref z)
   rw [D.eqn]
   by_cases hl:xs.length=ys.length
   ·have e0:(xs.length == ys.length)=true:=by simp [hl]
    obtain⟨e,he⟩:∃ e:Nat→Bool,∀ j (j1:j < xs.length) (j2:j < ys.length),e j=D.eqn n xs[j] ys[j]:=⟨fun j=>if h:j < xs.length∧j < ys.length then D.eqn n xs[j] ys[j]else true,fun j j1 j2=>by simp only [j1,j2,and_self,dif_pos]⟩
    rw [e0,Bool.true_and,← range_all (n:=n) (g:=fun _=>true) hl e he]
    have T:EqTree P w s (n+1+1) _ _ _:=.lists (e:=e) hne h1 k1 (by omega) fun j j1 j2=>by
     have j3:j < xs.length:=by omega
     have j4:j < ys.length:=by omega
     rw [he j j3 j4]
     exact ih _ _ _ _ (om _ (List.getElem_mem j3)) (oy' _ (List.getElem_mem j4)) (h3 j j3 j1) (k3 j j4 j2)
    rw [h2]at T
    exact T
   ·have e0:(xs.length == ys.length)=false:=by simp [hl]
    rw [e0,Bool.false_and]
    exact .listsLen hne h1 k1 (by simp; omega)
theorem Br {P:Program}{w:World}{s:Shared}{n:Nat} (ih:∀ (x y:D) (u v:Value),D.okn n x=true→D.okn n y=true→ja P w s x u→ja P w s y v→EqTree P w s (n+1) u v (D.eqn n x y)) {xs ys:List D}{u v:Value}
  (ox:D.okn (n+1) (.tup xs)=true) (oy:D.okn (n+1) (.tup ys)=true) (hx:ja P w s (.tup xs) u) (hy:ja P w s (.tup ys) v):EqTree P w s (n+1+1) u v (D.eqn (n+1) (.tup xs) (.tup ys)):=by
 by_cases huv:u=v
 ·subst huv
  rw [← mO _ _ _ _ ox hx hy,ow _ _ ox]
  exact .same
 obtain⟨m,e,om⟩:=kz ox
 cases e
 obtain⟨m,e,oy'⟩:=kz oy
 cases e
 cases hx with
 | tup h1 h2 h3 =>
  cases hy with
  | tup k1 k2 k3 =>
   have hne:=fun z=>huv (congrArg Value.ref z)
   rw [D.eqn]
   by_cases hl:xs.length=ys.length
   ·have e0:(xs.length == ys.length)=true:=by simp [hl]
    obtain⟨e,he⟩:∃ e:Nat→Bool,∀ j (j1:j < xs.length) (j2:j < ys.length),e j=D.eqn n xs[j] ys[j]:=⟨fun j=>if h:j < xs.length∧j < ys.length then D.eqn n xs[j] ys[j]else true,fun j j1 j2=>by simp only [j1,j2,and_self,dif_pos]⟩
    rw [e0,Bool.true_and,← range_all (n:=n) (g:=fun _=>true) hl e he]
    have T:EqTree P w s (n+1+1) _ _ _:=.tuples (e:=e) hne h1 k1 fun j j1 j2=>by
     have j3:j < xs.length:=by omega
     have j4:j < ys.length:=by omega
     rw [he j j3 j4]
     exact ih _ _ _ _ (om _ (List.getElem_mem j3)) (oy' _ (List.getElem_mem j4)) (h3 j j3 j1) (k3 j j4 j2)
    rw [h2,k2,← hl,Nat.min_self,beq_self_eq_true,Bool.and_true]at T
    exact T
   ·have e0:(xs.length == ys.length)=false:=by simp [hl]
    obtain⟨e,he⟩:∃ e:Nat→Bool,∀ j (j1:j < xs.length) (j2:j < ys.length),e j=D.eqn n xs[j] ys[j]:=⟨fun j=>if h:j < xs.length∧j < ys.length then D.eqn n xs[j] ys[j]else true,fun j j1 j2=>by simp only [j1,j2,and_self,dif_pos]⟩
    have T:EqTree P w s (n+1+1) _ _ _:=.tuples (e:=e) hne h1 k1 fun j j1 j2=>by
     have j3:j < xs.length:=by omega
     have j4:j < ys.length:=by omega
     rw [he j j3 j4]
     exact ih _ _ _ _ (om _ (List.getElem_mem j3)) (oy' _ (List.getElem_mem j4)) (h3 j j3 j1) (k3 j j4 j2)
    rw [h2,k2,e0,Bool.and_false]at T
    rw [e0,Bool.false_and]
    exact T
theorem yW {α β:Type}{f:α→Bool}{g:β→Bool}:∀ {xs:List α}{ys:List β},xs.length=ys.length→(∀ j (h1:j < xs.length) (h2:j < ys.length),f xs[j]=g ys[j])→xs.all f=ys.all g
 | [],[],_,_=>rfl
 | x::xs,y::ys,hl,h=>by
  rw [List.all_cons,List.all_cons,show f x=g y from h 0 (by simp) (by simp),yW (xs:=xs) (ys:=ys) (by simpa using hl) fun j j1 j2=>h (j+1) (by simpa using j1) (by simpa using j2)]
def kD:Key→D
 | .inl i=>.int i
 | .inr x=>.str x
theorem wB (k:Key):keyOf (kD k)=some k:=by cases k <;> rfl
theorem Ff {d:D}{k:Key} (h:keyOf d=some k):d=kD k:=tY h (wB k)
theorem qu {k:Key}:∀ {ls ws:List D}{kb:List (Key×Value)},keysOf ls=some (kb.map (·.1))→ls.length=ws.length →
  (valueAt kb k=none∧aW (kD k) ls ws=none)∨∃ (j:Nat) (h1:j < kb.length) (h2:j < ws.length),valueAt kb k=some kb[j].2∧kb[j].1=k∧aW (kD k) ls ws=some ws[j]
 | [],ws,kb,e,hl=>by
  rw [keysOf]at e
  injection e with e
  cases kb with
  | nil=>exact .inl ⟨rfl,rfl⟩
  | cons p kb=>cases e
 | l::ls,[],kb,e,hl=>by cases hl
 | l::ls,x::ws,kb,e,hl=>by
  rw [keysOf]at e
  cases e1:keyOf l with
  | none=>rw [e1]at e; cases e
  | some j =>
   cases e2:keysOf ls with
   | none=>rw [e1,e2]at e; cases e
   | some jr =>
    rw [e1,e2]at e
    injection e with e
    cases kb with
    | nil=>cases e
    | cons p kb =>
     obtain⟨pk,pv⟩:=p
     rw [List.map_cons]at e
     injection e with ej er
     have ej:j=pk:=ej
     subst ej
     have el:=Ff e1
     by_cases hk:j=k
     ·subst hk
      refine .inr ⟨0,by simp,by simp,?_,rfl,?_⟩
      ·simp [valueAt]
      ·show(if keyOf l=keyOf (kD j)∧aA l=aA (kD j)then some x else aW (kD j) ls ws)=some x
       rw [if_pos ⟨by rw [el],by rw [el]⟩]
     ·have hv:valueAt ((j,pv)::kb) k=valueAt kb k:=by simp [valueAt,hk]
      have hd:aW (kD k) (l::ls) (x::ws)=aW (kD k) ls ws:=by
       show(if keyOf l=keyOf (kD k)∧aA l=aA (kD k)then some x else aW (kD k) ls ws)=_
       rw [if_neg fun z=>hk (by rw [e1,wB]at z; exact Option.some.inj z.1)]
      rw [hv,hd]
      rw [er]at e2
      rcases qu (k:=k) (ls:=ls) (ws:=ws) (kb:=kb) e2 (by simpa using hl)with q | ⟨i,h1,h2,q1,q2,q3⟩
      ·exact .inl q
      ·exact .inr ⟨i+1,by simpa using h1,by simpa using h2,by simpa using q1,by simpa using q2,by simpa using q3⟩
theorem rb:∀ {ks:List D}{js:List Key},keysOf ks=some js→∀ j (h1:j < ks.length) (h2:j < js.length),ks[j]=kD js[j]
 | [],js,h,j,h1,_=>by simp at h1
 | a::ks,js,h,j,h1,h2=>by
  rw [keysOf]at h
  cases e1:keyOf a with
  | none=>rw [e1]at h; cases h
  | some k =>
   cases e2:keysOf ks with
   | none=>rw [e1,e2]at h; cases h
   | some jr =>
    rw [e1,e2]at h
    injection h with h
    subst h
    cases j with
    | zero=>exact Ff e1
    | succ j=>exact rb e2 j (by simpa using h1) (by simpa using h2)
def eK (n:Nat) (ks xs ls ys:List D) (k:Key):Bool:=match aW (kD k) ks xs,aW (kD k) ls ys with
 | some x,some y=>D.eqn n x y
 | _,_=>true
theorem Fg {n:Nat}{ks xs ls ys:List D}{k:Key}{x y:D} (h1:aW (kD k) ks xs=some x) (h2:aW (kD k) ls ys=some y):eK n ks xs ls ys k=D.eqn n x y:=by
 unfold eK
 rw [h1,h2]
theorem tZ {P:Program}{w:World}{s:Shared}{n:Nat} (ih:∀ (x y:D) (u v:Value),D.okn n x=true→D.okn n y=true→ja P w s x u→ja P w s y v→EqTree P w s (n+1) u v (D.eqn n x y)) {ks xs ls ys:List D}{u v:Value}
  (ox:D.okn (n+1) (.dic ks xs)=true) (oy:D.okn (n+1) (.dic ls ys)=true) (hx:ja P w s (.dic ks xs) u) (hy:ja P w s (.dic ls ys) v) :
  ∃ (a b:Addr) (ka kb:List (Key×Value)) (g:Key→Bool),u = .ref a∧v = .ref b∧(a == sysModules)=false∧(b == sysModules)=false∧s.heap.DictOf (mixKind P w) a ka∧s.heap.DictOf (mixKind P w) b kb ∧
   (∀ k v y,(k,v)∈ka→valueAt kb k=some y→EqTree P w s (n+1) v y (g k))∧(ka.length == kb.length&&ka.all fun p=>(valueAt kb p.1).isSome&&g p.1)=D.eqn (n+1) (.dic ks xs) (.dic ls ys):=by
 obtain⟨m,jx,e,ekx,ndx,lx,om⟩:=ou ox
 cases e
 obtain⟨m,jy,e,eky,ndy,ly,oy'⟩:=ou oy
 cases e
 cases hx with
 | dic h1 h2 h3 h4 h5 h6 h7 =>
  rename_i a es nn js ka
  cases hy with
  | dic k1 k2 k3 k4 k5 k6 k7 =>
   rename_i b es2 nn2 js2 kb
   rw [ekx]at h4
   cases h4
   rw [eky]at k4
   cases k4
   have la:ka.length=ks.length:=by rw [← jd ekx,← h5,List.length_map]
   have lb:kb.length=ls.length:=by rw [← jd eky,← k5,List.length_map]
   have T:∀ k v y,(k,v)∈ka→valueAt kb k=some y→EqTree P w s (n+1) v y (eK n ks xs ls ys k):=fun k v y hm hv=>by
    obtain⟨j,hj,ej⟩:=List.getElem_of_mem hm
    have eka:=ekx; rw [← h5]at eka
    have ekb:=eky; rw [← k5]at ekb
    rcases qu (k:=k) eka lx with⟨q,_⟩ | ⟨i,i1,i2,q1,q2,q3⟩
    ·exfalso
     simp only [valueAt,Option.map_eq_none_iff,List.find?_eq_none]at q
     exact q (k,v) hm (by simp)
    ·have hij:i=j:=by
      have z1:(ka.map (·.1))[i]'(by simpa using i1)=(ka.map (·.1))[j]'(by simpa using hj):=by simp [q2,ej]
      have nd:(ka.map (·.1)).Nodup:=by rw [h5]; exact ndx
      exact(List.getElem_inj nd).mp z1
     subst hij
     rcases qu (k:=k) ekb ly with⟨r,_⟩ | ⟨i',r1,r2,r3,r4,r5⟩
     ·rw [r]at hv; cases hv
     ·rw [r3]at hv
      injection hv with hv
      rw [Fg q3 r5]
      have s1:=h7 i i2 i1
      have s2:=k7 i' r2 r1
      rw [ej]at s1
      rw [hv]at s2
      exact ih _ _ _ _ (om _ (List.getElem_mem i2)) (oy' _ (List.getElem_mem r2)) s1 s2
   rw [D.eqn]
   have ee:(ka.all fun p=>(valueAt kb p.1).isSome&&eK n ks xs ls ys p.1)=(ks.zip xs).all fun p=>match aW p.1 ls ys with
     | some y=>D.eqn n p.2 y
     | none=>false:=by
    refine yW (by rw [List.length_zip,← lx,Nat.min_self,la]) fun j j1 j2=>?_
    have j3:j < ks.length:=by omega
    have j4:j < xs.length:=by omega
    rw [List.getElem_zip]
    have eka:=ekx; rw [← h5]at eka
    have ekb:=eky; rw [← k5]at ekb
    have kj:=rb eka j j3 (by simpa using j1)
    rw [List.getElem_map]at kj
    show((valueAt kb ka[j].1).isSome&&eK n ks xs ls ys ka[j].1)=match aW ks[j] ls ys with
     | some y=>D.eqn n xs[j] y
     | none=>false
    have lk:aW (kD ka[j].1) ks xs=some xs[j]:=by
     rw [← kj]
     refine nJ ekx ndx lx ?_
     have:=List.getElem_mem (l:=ks.zip xs) (n:=j) (by rw [List.length_zip]; omega)
     rwa [List.getElem_zip]at this
    rw [kj]
    rcases qu (k:=ka[j].1) ekb ly with⟨r,r'⟩ | ⟨i',r1,r2,r3,r4,r5⟩
    ·rw [r,r']; rfl
    ·rw [r3,r5]
     show(true&&eK n ks xs ls ys ka[j].1)=D.eqn n xs[j] ys[i']
     rw [Bool.true_and,Fg lk r5]
   refine⟨a,b,ka,kb,_,rfl,rfl,h3,k3,h2,k2,T,?_⟩
   rw [la,lb,ee]
   first | done | rfl
theorem Bs {P:Program}{w:World}{s:Shared}{n:Nat} (ih:∀ (x y:D) (u v:Value),D.okn n x=true→D.okn n y=true→ja P w s x u→ja P w s y v→EqTree P w s (n+1) u v (D.eqn n x y)) {ks xs ls ys:List D}{u v:Value}
  (ox:D.okn (n+1) (.dic ks xs)=true) (oy:D.okn (n+1) (.dic ls ys)=true) (hx:ja P w s (.dic ks xs) u) (hy:ja P w s (.dic ls ys) v):EqTree P w s (n+1+1) u v (D.eqn (n+1) (.dic ks xs) (.dic ls ys)):=by
 by_cases huv:u=v
 ·subst huv
  rw [← mO _ _ _ _ ox hx hy,ow _ _ ox]
  exact .same
 obtain⟨a,b,ka,kb,g,rfl,rfl,s1,s2,d1,d2,T,er⟩:=tZ ih ox oy hx hy
 rw [← er]
 exact .dicts (fun z=>huv (congrArg Value.ref z)) s1 s2 d1 d2 T
theorem oz {P:Program}{w:World}{s:Shared}:∀ (n:Nat) (x y:D) (u v:Value),D.okn n x=true→D.okn n y=true→ja P w s x u→ja P w s y v→EqTree P w s (n+1) u v (D.eqn n x y)
 | 0,x,y,u,v,ox,oy,hx,hy=>by
  have e:D.eqn 0 x y=D.eqd x y:=by simp only [D.eqn]
  rw [e]
  refine wy hx hy (fun A h=>by omega) ⟨fun xs ys z=>?_,fun xs ys z=>?_,fun a b c d z=>?_⟩ <;> (rw [z.1]at ox; simp [D.okn]at ox)
 | n+1,x,y,u,v,ox,oy,hx,hy=>by
  have ih:=oz (P:=P) (w:=w) (s:=s) n
  by_cases c1:∃ xs ys,x = .lst xs∧y = .lst ys
  ·obtain⟨xs,ys,rfl,rfl⟩:=c1
   exact Bq ih ox oy hx hy
  by_cases c2:∃ xs ys,x = .tup xs∧y = .tup ys
  ·obtain⟨xs,ys,rfl,rfl⟩:=c2
   exact Br ih ox oy hx hy
  by_cases c3:∃ a b c d,x = .dic a b∧y = .dic c d
  ·obtain⟨a,b,c,d,rfl,rfl⟩:=c3
   exact Bs ih ox oy hx hy
  have c1:∀ xs ys,¬ (x = .lst xs∧y = .lst ys):=fun xs ys z=>c1 ⟨xs,ys,z⟩
  have c2:∀ xs ys,¬ (x = .tup xs∧y = .tup ys):=fun xs ys z=>c2 ⟨xs,ys,z⟩
  have c3:∀ a b c d,¬ (x = .dic a b∧y = .dic c d):=fun a b c d z=>c3 ⟨a,b,c,d,z⟩
  have e:D.eqn (n+1) x y=D.eqd x y:=by
   cases x with
   | tup xs =>
    cases y with
    | tup ys=>exact(c2 xs ys ⟨rfl,rfl⟩).elim
    | _=>simp only [D.eqn]
   | lst xs =>
    cases y with
    | lst ys=>exact(c1 xs ys ⟨rfl,rfl⟩).elim
    | _=>simp only [D.eqn]
   | dic a b =>
    cases y with
    | dic c d=>exact(c3 a b c d ⟨rfl,rfl⟩).elim
    | _=>simp only [D.eqn]
   | _=>simp only [D.eqn]
  rw [e]
  exact wy hx hy (fun A h=>by omega) ⟨c1,c2,c3⟩
end PV
namespace PV
open PySem PySem.Spec PyProof.Rows L2
open PySem.SeqAt (EqAt fy)
open PySem.W (EqTree)
section
variable {T:Tab}{B:Base}{X:Cx}{σ:L2.St}{l m:List bf}{H:Hp}{pins:List (Addr×Obj)}{s:Shared}{hs:List Addr}
theorem kv_get:∀ {js:List Key}{ws:List V}{vs:List (Key×Value)},KV (js.zip ws) vs→js.length=ws.length→vs.map (·.1)=js∧∀ j (h1:j < ws.length) (h2:j < vs.length),RelV ws[j] vs[j].2
 | [],[],vs,h,_=>by
  have h:KV ([]:List (Key×V)) vs:=h
  rw [xV h]
  exact⟨rfl,fun j h1=>by simp at h1⟩
 | [],_::_,vs,_,hl=>by cases hl
 | _::_,[],vs,_,hl=>by cases hl
 | j::js,w::ws,vs,h,hl=>by
  cases h with
  | cons r1 r2 =>
   obtain⟨q1,q2⟩:=kv_get r2 (by simpa using hl)
   refine⟨by rw [List.map_cons,q1,← r1.1],fun i h1 h2=>?_⟩
   cases i with
   | zero=>exact r1.2
   | succ i=>exact q2 i (by simpa using h1) (by simpa using h2)
theorem qv {own:Addr→Prop}{h:Hp}:∀ {xs:List D}{vs:List V},jB T own h xs vs→xs.length=vs.length∧∀ j (h1:j < xs.length) (h2:j < vs.length),Dr T own h xs[j] vs[j]
 | [],vs,e=>by
  have e:vs = []:=e
  subst e
  exact⟨rfl,fun j h1=>by simp at h1⟩
 | x::xs,vs,e=>by
  obtain⟨v,r,rfl,e1,e2⟩:=e
  obtain⟨q1,q2⟩:=qv e2
  refine⟨by simp [q1],fun j h1 h2=>?_⟩
  cases j with
  | zero=>exact e1
  | succ j=>exact q2 j (by simpa using h1) (by simpa using h2)
theorem qw:∀ {vs:List V}{us:List Value},Vals vs us→∀ j (h1:j < vs.length) (h2:j < us.length),RelV vs[j] us[j]
 | _,_,.nil,j,h1,_=>by simp at h1
 | _,_,.cons r t,0,_,_=>r
 | _,_,.cons r t,j+1,h1,h2=>qw t j (by simpa using h1) (by simpa using h2)
theorem nK (hK:X.K=T.K) (I:Inv X pins σ H s) (sa:ae T B H hs l):∀ (n:Nat) (d:D) (v:V) (u:Value),D.okn n d=true→Dr T (fun _=>False) (vw B.Z H) d v→RelV v u→ja X.prog X.w s d u
 | _,.non,v,u,_,e,r=>by
  have e:v = .non:=e
  subst e
  cases (show u=Value.none from r)
  exact .non
 | _,.bl b,v,u,_,e,r=>by
  have e:v = .bl b:=e
  subst e
  cases (show u=Value.bool b from r)
  exact .bl b
 | _,.int i,v,u,_,e,r=>by
  have e:v = .int i:=e
  subst e
  obtain⟨t,rfl⟩:=(show ∃ t,u=Value.int i t from r)
  exact .int i t
 | _,.str z,v,u,_,e,r=>by
  have e:v = .str z:=e
  subst e
  obtain⟨t,rfl⟩:=(show ∃ t,u=Value.str z t from r)
  exact .str z t
 | 0,.tup xs,v,u,h,e,r=>by simp [D.okn]at h
 | 0,.lst xs,v,u,h,e,r=>by simp [D.okn]at h
 | 0,.dic ks xs,v,u,h,e,r=>by simp [D.okn]at h
 | n+1,.tup xs,v,u,h,e,r=>by
  obtain⟨a,vs,rfl,h1,h2⟩:=Fc sa e
  cases (show u=Value.ref a from r)
  obtain⟨m,em,om⟩:=kz h
  cases em
  obtain⟨q1,q2⟩:=qv h2
  obtain⟨its,rv,p,hz⟩:=I.tuple (by rw [hK]; exact h1)
  have hl:=rv.length
  refine .tup (its:=its.toArray) p (by simp; omega) fun j j1 j2=>?_
  have j3:j < its.length:=by simpa using j2
  have j4:j < vs.length:=by omega
  have:=nK hK I sa n xs[j] vs[j] its[j] (om _ (List.getElem_mem j1)) (q2 j j1 j4) (qw rv j j4 j3)
  simpa using this
 | n+1,.lst xs,v,u,h,e,r=>by
  obtain⟨a,vs,rfl,h1,h2⟩:=wx sa e
  cases (show u=Value.ref a from r)
  obtain⟨m,em,om⟩:=ky h
  cases em
  obtain⟨q1,q2⟩:=qv h2
  obtain⟨its,rv,p,hz⟩:=I.list (by rw [hK]; exact h1)
  have hl:=rv.length
  refine .lst (its:=its.toArray) p.isList (by simp; omega) fun j j1 j2=>?_
  have j3:j < its.length:=by simpa using j2
  have j4:j < vs.length:=by omega
  have:=nK hK I sa n xs[j] vs[j] its[j] (om _ (List.getElem_mem j1)) (q2 j j1 j4) (qw rv j j4 j3)
  simpa using this
 | n+1,.dic ks xs,v,u,h,e,r=>by
  obtain⟨a,ws,rfl,dr,h2⟩:=qY sa e
  cases (show u=Value.ref a from r)
  obtain⟨m,js,em,ek,nd,lx,om⟩:=ou h
  cases em
  obtain⟨q1,q2⟩:=qv h2
  obtain⟨es,nn,ho⟩:=uR I dr
  have fin:∀ kvs:List (Key×Value),s.heap.DictOf (mixKind X.prog X.w) a kvs→(a == sysModules)=false→kvs.map (·.1)=js→(∀ j (h1:j < ws.length) (h2:j < kvs.length),RelV ws[j] kvs[j].2)→ja X.prog X.w s (.dic ks xs) (.ref a):=by
   intro kvs d hsm e1 e2
   refine .dic ho d hsm ek e1 lx fun j j1 j2=>?_
   have j4:j < ws.length:=by omega
   exact nK hK I sa n xs[j] ws[j] kvs[j].2 (om _ (List.getElem_mem j1)) (q2 j j1 j4) (e2 j j4 j2)
  rcases dr with⟨js',e1,rd,e3⟩ | ⟨js',e1,rd,e3⟩
  ·rw [ek]at e1
   cases e1
   obtain⟨_,hsm,vs,kv,d⟩:=dk_rd I.hok rd
   obtain⟨g1,g2⟩:=kv_get kv e3
   exact fin vs d hsm g1 g2
  ·cases ks with
   | nil =>
    rw [au]at e1
    cases e1
    rw [keysOf]at ek
    cases ek
    obtain⟨d,hsm⟩:=iG I rd
    refine fin [] d hsm rfl fun j h1 h2=>by simp at h2
   | cons k ks =>
    have a1:=eL e1 k List.mem_cons_self
    have a2:=jS ek k List.mem_cons_self
    cases z:keyOf k with
    | none=>rw [z]at a2; cases a2
    | some kk=>rw [cV z]at a1; cases a1
 | _+1,.obj _ _ _,v,u,h,e,r=>by simp [D.okn]at h
 | _+1,.exc _ _,v,u,h,e,r=>by simp [D.okn]at h
 | 0,.obj _ _ _,v,u,h,e,r=>by simp [D.okn]at h
 | 0,.exc _ _,v,u,h,e,r=>by simp [D.okn]at h
end
end PV
namespace PV
open PySem PySem.SeqAt PySem.W
open AutoSeq1 (wpAny_loadPart')
open MeetsSeq MeetsSeq2 MeetsSeq3 SeqRoads2
section
variable {P:Program}{w:World}
theorem Kz (p q:Addr) (ia ib:Array Value) (na nb:Nat) (xd yd:Option Addr) (xs ys:Array (Option Value)) (hz:ia.size=ib.size) (g:Nat→Bool) (m:Nat) :
  ∀ c:Nat,ia.size - c=m→MeetsIn P w (Builtin.«list.__eq__.loop» ⟨[.ref p,.ref q,rawInt c,rawInt 3],[]⟩) (fun A R s =>
   s.heap.get? p=some {cls:=.type "list",dict:=xd,data:=.seq ia na,slots:=xs}∧s.heap.get? q=some {cls:=.type "list",dict:=yd,data:=.seq ib nb,slots:=ys} ∧
    (∀ j (j1:j < ia.size) (j2:j < ib.size),EqIn P w A.in1 s ia[j] ib[j] (g j))∧R (.ok (.ret (.bool (!((List.range ia.size).drop c).all g)))) s):=by
 induction m with
 | zero =>
  intro c hc A R s z
  obtain⟨hp,gs,dd,tk,os⟩:=s; obtain⟨zp,zq,zi,z⟩:=z
  wp_walk using wpAny_loadPart' zp,wpAny_loadPart' zq
  have n1:ia[((c:Nat):Int).toNat]?=none:=by simp; omega
  have n2:ib[((c:Nat):Int).toNat]?=none:=by simp; omega
  have n3:(List.range ia.size).drop c = []:=by simp; omega
  rw [n3]at z
  rw [n1,n2]
  wp_walk using wpAny_loadPart' zp,wpAny_loadPart' zq
  show R (.ok (.ret (.bool (ia.size != ib.size)))) _
  rw [hz]
  simpa using z
 | succ m ih =>
  intro c hc A R s z
  obtain⟨hp,gs,dd,tk,os⟩:=s; obtain⟨zp,zq,zi,z⟩:=z
  wp_walk using wpAny_loadPart' zp,wpAny_loadPart' zq
  have c1:c < ia.size:=by omega
  have c2:c < ib.size:=by omega
  have n1:ia[((c:Nat):Int).toNat]?=some ia[c]:=by simp [c1]
  have n2:ib[((c:Nat):Int).toNat]?=some ib[c]:=by simp [c2]
  have n3:(List.range ia.size).drop c=c::(List.range ia.size).drop (c+1):=by simp [List.drop_eq_getElem_cons,c1]
  have n4:((c:Int)+1)=((c+1:Nat):Int):=by push_cast; rfl
  rw [n3,List.all_cons]at z
  rw [n1,n2]
  refine wpAny_bind (zi c c1 c2 _ _ ?_)
  cases gc:g c with
  | true =>
   rw [gc]at z
   wp_walk
   rw [n4]
   refine⟨plainId_quiet plain_eq_loop _,codeAny_builtin entry_eq_loop ?_⟩
   rw [Around.under_plainId plain_eq_loop _]
   exact ih (c+1) (by omega) A R _ ⟨zp,zq,zi,by simpa using z⟩
  | false =>
   rw [gc]at z
   wp_walk using wpAny_loadPart' zp,wpAny_loadPart' zq
   rw [n1,n2]
   wp_walk
   simpa using z
theorem KA (p q:Addr) (ia ib:Array Value) (na nb:Nat) (xd yd:Option Addr) (xs ys:Array (Option Value)) (hz:ia.size=ib.size) (g:Nat→Bool) :
  MeetsIn P w (Builtin.«list.__ne__» ⟨[.ref p,.ref q],[]⟩) (fun A R s=>s.heap.get? p=some {cls:=.type "list",dict:=xd,data:=.seq ia na,slots:=xs} ∧
   s.heap.get? q=some {cls:=.type "list",dict:=yd,data:=.seq ib nb,slots:=ys}∧(∀ j (j1:j < ia.size) (j2:j < ib.size),EqIn P w A.in1 s ia[j] ib[j] (g j))∧R (.ok (.ret (.bool (!(List.range ia.size).all g)))) s):=by
 intro A R s z
 obtain⟨hp,gs,dd,tk,os⟩:=s; obtain⟨zp,zq,zi,z⟩:=z
 have sl:=AutoSeq1.sub_list_list
 have nz:¬ (ia.size != ib.size)=true:=by simp [hz]
 wp_walk using wpAny_loadPart' zp,wpAny_loadPart' zq
 refine⟨plainId_quiet plain_eq_loop _,codeAny_builtin entry_eq_loop ?_⟩
 rw [Around.under_plainId plain_eq_loop _]
 exact Kz p q ia ib na nb xd yd xs ys hz g _ 0 rfl A R _ ⟨zp,zq,zi,by simpa using z⟩
theorem z8 {A:Around}{E:Value→Shared→Prop}{s:Shared}{n:Nat}{p q:Addr}{ia ib:Array Value}{g:Nat→Bool}{Q:Value→Shared→Prop} (lp:s.heap.IsList p ia) (lq:s.heap.IsList q ib) (hz:ia.size=ib.size)
  (t:∀ j (j1:j < ia.size) (j2:j < ib.size),EqTree P w s n ia[j] ib[j] (g j)) (hu:A.units+(n+1) < cLine) (h:Q (.bool (!(List.range ia.size).all g)) s):wpAny (model P w) A (compareOp .NotEq (.ref p) (.ref q)) Q E s:=by
 obtain⟨⟨c1,d1,t1,l1⟩,hp,ec,na,ed⟩:=id lp
 obtain⟨⟨c2,d2,t2,l2⟩,hq,ec2,nb,ed2⟩:=id lq
 simp only at ec ed ec2 ed2
 subst ec ed ec2 ed2
 refine wpAny_richCompare_same_room (T := "list") (op:=.NotEq) ⟨_,hp,rfl⟩ ⟨_,hq,rfl⟩ F.slot_list_ne (call_meetsIn F.slot_list_ne ⟨_,hp,rfl⟩ F.entry_list_ne (F.args_list_ne_2 _ _) (KA p q ia ib na nb d1 d2 l1 l2 hz g) ?_) (by omega)
 refine⟨hp,hq,fun j j1 j2=>(t j j1 j2).at A.in1 (by show A.units+1+_ < cLine; omega),?_⟩
 exact⟨(fun x=>nomatch x),h⟩
theorem z9 {A:Around}{E:Value→Shared→Prop}{s:Shared}{K:Type} [DecidableEq K] {knd:KeyKind P w K}{n:Nat}{p q:Addr}{ka kb:List (K×Value)}{g:K→Bool}{Q:Value→Shared→Prop} (sp:(p == sysModules)=false) (sq:(q == sysModules)=false)
  (dp:s.heap.DictOf knd p ka) (dq:s.heap.DictOf knd q kb) (t:∀ k v y,(k,v)∈ka→valueAt kb k=some y→EqTree P w s n v y (g k)) (hu:A.units+(n+1) < cLine)
  (h:Q (.bool (!(ka.length == kb.length&&ka.all fun z=>(valueAt kb z.1).isSome&&g z.1))) s):wpAny (model P w) A (compareOp .NotEq (.ref p) (.ref q)) Q E s:=by
 have row:=PySem.F.slot_dict_ne
 refine wpAny_richCompare_same_room (op:=.NotEq) dp.typeIs dq.typeIs row (wpAny_call_entry row dp.typeIs PySem.F.entry_dict_ne ?_ (PySem.F.args_dict_ne_2 _ _)) (by omega)
 show wpAny _ _ (Builtin.Dict.dictSlotArgs "__ne__" ⟨[.ref p,.ref q],[]⟩ >>= _) _ _ s
 refine wpAny_bind ?_
 unfold Builtin.Dict.dictSlotArgs
 refine wpAny_bind (wpAny_notOrdered_dict dp.typeIs ?_)
 refine wpAny_pure ?_
 refine wpAny_bind (wpAny_isInstance (T := "dict") dq.typeIs PySem.F.sub_dict_dict ?_)
 simp only [Bool.not_true,Bool.false_eq_true,if_false]
 refine wpAny_bind (wpAny_pure (wpAny_bind (wpAny_pure ?_)))
 refine wpAny_bind (keq_samePairsIn sp sq dp dq (fun _=>KeqHitsIn.of _ fun k v y hm hv=>(t k v y hm hv).at A.in1 (by show A.units+1+_ < cLine; omega)) ?_)
 refine wpAny_pure ⟨_,rfl,?_,?_⟩
 ·exact fun x=>nomatch x
 ·simpa using h
end
end PV
namespace PV
open PySem PySem.Spec PyProof.Rows L2
open PySem.W (EqTree)
section
variable {P:Program}{w:World}{A:Around}{E:Value→Shared→Prop}{s:Shared}{Q:Value→Shared→Prop}
theorem ua {n:Nat}{xs ys:List D}{u v:Value} (ox:D.okn (n+1) (.lst xs)=true) (oy:D.okn (n+1) (.lst ys)=true) (hx:ja P w s (.lst xs) u) (hy:ja P w s (.lst ys) v) (hu:A.units+(n+2) < cLine) :
  (Q (.bool (D.eqn (n+1) (.lst xs) (.lst ys))) s→wpAny (model P w) A (compareOp .Eq u v) Q E s)∧(Q (.bool (! D.eqn (n+1) (.lst xs) (.lst ys))) s→wpAny (model P w) A (compareOp .NotEq u v) Q E s):=by
 obtain⟨m,e,om⟩:=ky ox
 cases e
 obtain⟨m,e,oy'⟩:=ky oy
 cases e
 cases hx with
 | lst h1 h2 h3 =>
  cases hy with
  | lst k1 k2 k3 =>
   rename_i a ia b ib
   rw [D.eqn]
   by_cases hl:xs.length=ys.length
   ·have e0:(xs.length == ys.length)=true:=by simp [hl]
    obtain⟨e,he⟩:∃ e:Nat→Bool,∀ j (j1:j < xs.length) (j2:j < ys.length),e j=D.eqn n xs[j] ys[j]:=⟨fun j=>if h:j < xs.length∧j < ys.length then D.eqn n xs[j] ys[j]else true,fun j j1 j2=>by simp only [j1,j2,and_self,dif_pos]⟩
    rw [e0,Bool.true_and,← range_all (n:=n) (g:=fun _=>true) hl e he,← h2]
    have T:∀ j (j1:j < ia.size) (j2:j < ib.size),EqTree P w s (n+1) ia[j] ib[j] (e j):=fun j j1 j2=>by
     have j3:j < xs.length:=by omega
     have j4:j < ys.length:=by omega
     rw [he j j3 j4]
     exact oz n _ _ _ _ (om _ (List.getElem_mem j3)) (oy' _ (List.getElem_mem j4)) (h3 j j3 j1) (k3 j j4 j2)
    exact⟨fun q=>PySem.W.eq_listsT h1 k1 (by omega) T (by omega) q,fun q=>z8 h1 k1 (by omega) T (by omega) q⟩
   ·have e0:(xs.length == ys.length)=false:=by simp [hl]
    have e1:(ia.size != ib.size)=true:=by simp; omega
    rw [e0,Bool.false_and]
    exact⟨fun q=>PySem.SeqAt.eq_list_lengthsAt h1 k1 e1 (by omega) q,fun q=>PySem.SeqAt.RcNeAt.lists_lengths h1 k1 e1 (by omega) P w _ _ q⟩
theorem xX {n:Nat}{xs ys:List D}{u v:Value} (ox:D.okn (n+1) (.tup xs)=true) (oy:D.okn (n+1) (.tup ys)=true) (hx:ja P w s (.tup xs) u) (hy:ja P w s (.tup ys) v) (hu:A.units+(n+2) < cLine)
  (q:Q (.bool (D.eqn (n+1) (.tup xs) (.tup ys))) s):wpAny (model P w) A (compareOp .Eq u v) Q E s:=by
 obtain⟨m,e,om⟩:=kz ox
 cases e
 obtain⟨m,e,oy'⟩:=kz oy
 cases e
 cases hx with
 | tup h1 h2 h3 =>
  cases hy with
  | tup k1 k2 k3 =>
   rename_i a ia b ib
   rw [D.eqn]at q
   obtain⟨e,he⟩:∃ e:Nat→Bool,∀ j (j1:j < xs.length) (j2:j < ys.length),e j=D.eqn n xs[j] ys[j]:=⟨fun j=>if h:j < xs.length∧j < ys.length then D.eqn n xs[j] ys[j]else true,fun j j1 j2=>by simp only [j1,j2,and_self,dif_pos]⟩
   have T:∀ j (j1:j < ia.size) (j2:j < ib.size),EqTree P w s (n+1) ia[j] ib[j] (e j):=fun j j1 j2=>by
    have j3:j < xs.length:=by omega
    have j4:j < ys.length:=by omega
    rw [he j j3 j4]
    exact oz n _ _ _ _ (om _ (List.getElem_mem j3)) (oy' _ (List.getElem_mem j4)) (h3 j j3 j1) (k3 j j4 j2)
   refine PySem.W.eq_tuplesT h1 k1 T (by omega) ?_
   by_cases hl:xs.length=ys.length
   ·have e0:(xs.length == ys.length)=true:=by simp [hl]
    rw [e0,Bool.true_and,← range_all (n:=n) (g:=fun _=>true) hl e he]at q
    rw [h2,k2,← hl,Nat.min_self,beq_self_eq_true,Bool.and_true]
    exact q
   ·have e0:(xs.length == ys.length)=false:=by simp [hl]
    rw [e0,Bool.false_and]at q
    rw [h2,k2,e0,Bool.and_false]
    exact q
theorem ub {n:Nat}{ks xs ls ys:List D}{u v:Value} (ox:D.okn (n+1) (.dic ks xs)=true) (oy:D.okn (n+1) (.dic ls ys)=true) (hx:ja P w s (.dic ks xs) u) (hy:ja P w s (.dic ls ys) v) (hu:A.units+(n+2) < cLine) :
  (Q (.bool (D.eqn (n+1) (.dic ks xs) (.dic ls ys))) s→wpAny (model P w) A (compareOp .Eq u v) Q E s)∧(Q (.bool (! D.eqn (n+1) (.dic ks xs) (.dic ls ys))) s→wpAny (model P w) A (compareOp .NotEq u v) Q E s):=by
 obtain⟨a,b,ka,kb,g,rfl,rfl,s1,s2,d1,d2,T,er⟩:=tZ (fun x y u v=>oz n x y u v) ox oy hx hy
 rw [← er]
 exact⟨fun q=>PySem.W.eq_dictsT s1 s2 d1 d2 T (by omega) q,fun q=>z9 s1 s2 d1 d2 T (by omega) q⟩
end
end PV
namespace PV
open PySem PySem.Spec PyProof.Rows L2
section
variable {T:Tab}{B:Base}{X:Cx}
theorem Bt {own:Addr→Prop}{h:Hp}:∀ {d:D},Dr T own h d .non→d = .non
 | .non,_=>rfl
 | .bl _,e=>nomatch (show V.non=V.bl _ from e)
 | .int _,e=>nomatch (show V.non=V.int _ from e)
 | .str _,e=>nomatch (show V.non=V.str _ from e)
 | .tup _,e=>by obtain⟨_,_,z,_⟩:=e; cases z
 | .lst _,e=>by obtain⟨_,_,z,_⟩:=e; cases z
 | .dic _ _,e=>by obtain⟨_,_,z,_⟩:=e; cases z
 | .obj _ _ _,e=>by obtain⟨_,_,_,z,_⟩:=e; cases z
 | .exc _ _,e=>by rcases e with⟨_,z⟩ | ⟨_,_,_,z,_⟩ <;> cases z
def rf:Cm→CmpOp
 | .eq=>.Eq | .ne=>.NotEq | .lt=>.Lt | .le=>.LtE | .gt=>.Gt | .ge=>.GtE | .is=>.Is | .isnot=>.IsNot | .isin=>.In | .notin=>.NotIn
section
variable {pins:List (Addr×Obj)}{s:Shared}{σ:L2.St}{H:Hp}{x y:V}{v u:Value}{Q:VK}{o p:O}{l:List bf}
theorem II (hK:X.K=T.K) (hu:X.A.units+200 < cLine) (I:Inv X pins σ H s) (rx:RelV x v) (ry:RelV y u) (sa:Sat T B H ((o,x)::(p,y)::l)) (hc:nC o.frz p.frz=true) (q:Q (.bl (D.eqd o.frz p.frz)) H):wpAny (model X.prog X.w) X.A (compareOp .Eq v u) (EP X pins σ Q) X.xe s:=by
 have hc:D.okd 150 o.frz=true∧D.okd 150 p.frz=true:=by simpa [nC]using hc
 have p1:=ni sa 150 _ _ hc.1 sa.read
 have p2:=ni sa 150 _ _ hc.2 sa.read2
 rw [← hK]at p1 p2
 obtain⟨as,r1⟩:=Dp.reads I _ x v p1 rx
 obtain⟨bs,r2⟩:=Dp.reads I _ y u p2 ry
 have k1:=eM 150 _ hc.1
 have k2:=eM 150 _ hc.2
 have km:min o.frz.toP.depth p.frz.toP.depth≤150:=Nat.le_trans (Nat.min_le_left _ _) k1.2
 refine PySem.SeqAt.eq_plain r1 r2 k1.1 k2.1 (by omega) ?_
 rw [qt 150 150 _ _ hc.1 hc.2]
 exact⟨.bl _,H,I,rfl,q⟩
theorem IJ (hK:X.K=T.K) (hu:X.A.units+200 < cLine) (I:Inv X pins σ H s) (rx:RelV x v) (ry:RelV y u) (sa:Sat T B H ((o,x)::(p,y)::l)) (hc:nC o.frz p.frz=true) (q:Q (.bl (! D.eqd o.frz p.frz)) H):wpAny (model X.prog X.w) X.A (compareOp .NotEq v u) (EP X pins σ Q) X.xe s:=by
 have hc:D.okd 150 o.frz=true∧D.okd 150 p.frz=true:=by simpa [nC]using hc
 have p1:=ni sa 150 _ _ hc.1 sa.read
 have p2:=ni sa 150 _ _ hc.2 sa.read2
 rw [← hK]at p1 p2
 obtain⟨as,r1⟩:=Dp.reads I _ x v p1 rx
 obtain⟨bs,r2⟩:=Dp.reads I _ y u p2 ry
 have k1:=eM 150 _ hc.1
 have k2:=eM 150 _ hc.2
 have km:min o.frz.toP.depth p.frz.toP.depth≤150:=Nat.le_trans (Nat.min_le_left _ _) k1.2
 refine PySem.SeqAt.ne_plain r1 r2 k1.1 k2.1 (by omega) ?_
 rw [qt 150 150 _ _ hc.1 hc.2]
 exact⟨.bl _,H,I,rfl,q⟩
theorem Gn (hK:X.K=T.K) (hu:X.A.units+200 < cLine) (I:Inv X pins σ H s) (rx:RelV x v) (ry:RelV y u) (sa:Sat T B H ((o,x)::(p,y)::l)) (hc:qO o.frz p.frz=true) (q:Q (.bl (D.eqn 140 o.frz p.frz)) H):wpAny (model X.prog X.w) X.A (compareOp .Eq v u) (EP X pins σ Q) X.xe s:=by
 have d1:=sa.read
 have d2:=sa.read2
 have go:∀ {a b:D},o.frz=a→p.frz=b→D.okn 140 a=true∧D.okn 140 b=true→ja X.prog X.w s a v∧ja X.prog X.w s b u:=fun {a b} ea eb ok=>by
  rw [ea]at d1
  rw [eb]at d2
  exact⟨nK hK I sa 140 a x v ok.1 d1 rx,nK hK I sa 140 b y u ok.2 d2 ry⟩
 have fin:EP X pins σ Q (.bool (D.eqn 140 o.frz p.frz)) s:=⟨.bl _,H,I,rfl,q⟩
 unfold qO at hc
 split at hc
 ·rename_i ea eb
  rw [Bool.and_eq_true,ea,eb]at hc
  rw [ea,eb]at fin
  exact(ua hc.1 hc.2 (go ea eb hc).1 (go ea eb hc).2 (by omega)).1 fin
 ·rename_i ea eb
  rw [Bool.and_eq_true,ea,eb]at hc
  rw [ea,eb]at fin
  exact xX hc.1 hc.2 (go ea eb hc).1 (go ea eb hc).2 (by omega) fin
 ·rename_i ea eb
  rw [Bool.and_eq_true,ea,eb]at hc
  rw [ea,eb]at fin
  exact(ub hc.1 hc.2 (go ea eb hc).1 (go ea eb hc).2 (by omega)).1 fin
 ·cases hc
theorem Gp (hK:X.K=T.K) (hu:X.A.units+200 < cLine) (I:Inv X pins σ H s) (rx:RelV x v) (ry:RelV y u) (sa:Sat T B H ((o,x)::(p,y)::l)) (hc:qP o.frz p.frz=true) (q:Q (.bl (! D.eqn 140 o.frz p.frz)) H):wpAny (model X.prog X.w) X.A (compareOp .NotEq v u) (EP X pins σ Q) X.xe s:=by
 have d1:=sa.read
 have d2:=sa.read2
 have go:∀ {a b:D},o.frz=a→p.frz=b→D.okn 140 a=true∧D.okn 140 b=true→ja X.prog X.w s a v∧ja X.prog X.w s b u:=fun {a b} ea eb ok=>by
  rw [ea]at d1
  rw [eb]at d2
  exact⟨nK hK I sa 140 a x v ok.1 d1 rx,nK hK I sa 140 b y u ok.2 d2 ry⟩
 have fin:EP X pins σ Q (.bool (! D.eqn 140 o.frz p.frz)) s:=⟨.bl _,H,I,rfl,q⟩
 unfold qP at hc
 split at hc
 ·rename_i ea eb
  rw [Bool.and_eq_true,ea,eb]at hc
  rw [ea,eb]at fin
  exact(ua hc.1 hc.2 (go ea eb hc).1 (go ea eb hc).2 (by omega)).2 fin
 ·rename_i ea eb
  rw [Bool.and_eq_true,ea,eb]at hc
  rw [ea,eb]at fin
  exact(ub hc.1 hc.2 (go ea eb hc).1 (go ea eb hc).2 (by omega)).2 fin
 ·cases hc
theorem oA:∀ (n:Nat) {x:D} (ys:List D),D.okd 150 x=true→D.okdL n ys=true→((D.toPL ys).any fun y=>PyData.eqv y x.toP)=ys.any fun y=>D.eqd y x
 | _,_,[],_,_=>rfl
 | n,x,y::ys,hx,h=>by
  have h:D.okd n y=true∧D.okdL n ys=true:=by simpa [D.okdL]using h
  simp only [D.toPL,List.any_cons,qt n 150 y x h.1 hx,oA n ys hx h.2]
theorem Fh (hK:X.K=T.K) (hu:X.A.units+200 < cLine) (I:Inv X pins σ H s) (rx:RelV x v) (ry:RelV y u) (sa:Sat T B H ((o,x)::(p,y)::l)) {b:Bool} (e:aB.inD o.frz p.frz=some b) (neg:Bool) (q:Q (.bl (if neg then ! b else b)) H):wpAny (model X.prog X.w) X.A (compareOp (if neg then .NotIn else .In) v u) (EP X pins σ Q) X.xe s:=by
 have d1:=sa.read
 have d2:=sa.read2
 cases eb:p.frz with
 | lst ys =>
  rw [eb]at e
  have e:(if(D.okd 150 o.frz&&D.okdL 150 ys)=true then some (ys.any fun y=>D.eqd y o.frz)else tV o.frz ys)=some b:=e
  split at e
  ·rename_i hc
   rw [Bool.and_eq_true]at hc
   injection e with e; subst e
   have hy:D.okd 151 p.frz=true:=by rw [eb]; simpa [D.okd]using hc.2
   have p1:=ni sa 150 _ _ hc.1 d1
   have p2:=ni sa 151 _ _ hy d2
   rw [← hK]at p1 p2
   obtain⟨as,r1⟩:=Dp.reads I _ x v p1 rx
   obtain⟨bs,r2⟩:=Dp.reads I _ y u p2 ry
   rw [eb]at r2
   have k1:=eM 150 _ hc.1
   have k2:=iQ 150 _ hc.2
   have km:min (PyData.depthAll (D.toPL ys)) o.frz.toP.depth≤150:=Nat.le_trans (Nat.min_le_left _ _) k2.2
   cases neg with
   | false=>exact PySem.SeqAt.in_list_data r2 r1 k2.1 k1.1 (by omega) ⟨.bl _,H,I,rfl,by rw [oA 150 ys hc.1 hc.2]; exact q⟩
   | true=>exact PySem.SeqAt.notIn_list_data r2 r1 k2.1 k1.1 (by omega) ⟨.bl _,H,I,rfl,by rw [oA 150 ys hc.1 hc.2]; exact q⟩
  ·rw [eb]at d2
   cases ea:o.frz with
   | dic ks ds =>
    rw [ea]at e d1
    have e:(if ys.all oZ then some false else none)=some b:=e
    split at e
    ·rename_i hy
     cases e
     have q:Q (.bl neg) H:=by cases neg <;> exact q
     exact DI hK hu I rx ry sa d1 d2 hy neg q
    ·cases e
   | _=>rw [ea]at e; cases e
 | tup ys =>
  rw [eb]at e
  have e:(if(D.okd 150 o.frz&&D.okdL 150 ys)=true then some (ys.any fun y=>D.eqd y o.frz)else tV o.frz ys)=some b:=e
  split at e
  ·rename_i hc
   rw [Bool.and_eq_true]at hc
   injection e with e; subst e
   have hy:D.okd 151 p.frz=true:=by rw [eb]; simpa [D.okd]using hc.2
   have p1:=ni sa 150 _ _ hc.1 d1
   have p2:=ni sa 151 _ _ hy d2
   rw [← hK]at p1 p2
   obtain⟨as,r1⟩:=Dp.reads I _ x v p1 rx
   obtain⟨bs,r2⟩:=Dp.reads I _ y u p2 ry
   rw [eb]at r2
   have k1:=eM 150 _ hc.1
   have k2:=iQ 150 _ hc.2
   have km:min (PyData.depthAll (D.toPL ys)) o.frz.toP.depth≤150:=Nat.le_trans (Nat.min_le_left _ _) k2.2
   cases neg with
   | false=>exact PySem.SeqAt.in_tuple_data r2 r1 k2.1 k1.1 (by omega) ⟨.bl _,H,I,rfl,by rw [oA 150 ys hc.1 hc.2]; exact q⟩
   | true=>exact PySem.SeqAt.notIn_tuple_data r2 r1 k2.1 k1.1 (by omega) ⟨.bl _,H,I,rfl,by rw [oA 150 ys hc.1 hc.2]; exact q⟩
  ·rw [eb]at d2
   cases ea:o.frz with
   | dic ks ds =>
    rw [ea]at e d1
    have e:(if ys.all oZ then some false else none)=some b:=e
    split at e
    ·rename_i hy
     cases e
     have q:Q (.bl neg) H:=by cases neg <;> exact q
     exact Gm hK hu I rx ry sa d1 d2 hy (fun t=>IH sa t) neg q
    ·cases e
   | _=>rw [ea]at e; cases e
 | dic ks ds =>
  rw [eb]at e d2
  have e:(if aZ o.frz ks=true then some (aW o.frz ks ds).isSome else none)=some b:=e
  split at e
  ·rename_i hc
   injection e with e; subst e
   obtain⟨a,ws,rfl,dr,dl⟩:=qY sa d2
   have g:=yV (ds:=ds) sa dr dl.len d1 hc
   cases ry
   have fin:∀ (ov:Option V),JR H a x ov→ov.isSome=(aW o.frz ks ds).isSome→wpAny (model X.prog X.w) X.A (compareOp (if neg then .NotIn else .In) v (.ref a)) (EP X pins σ Q) X.xe s:=by
    intro ov g eo
    cases neg with
    | false=>exact IG (by omega) I g rx fun s' I'=>⟨.bl _,H,I',rfl,by rw [eo]; exact q⟩
    | true=>exact Bm (by omega) I g rx fun s' I'=>⟨.bl _,H,I',rfl,by rw [eo]; exact q⟩
   rcases g with⟨n,d,w,e1,g,_⟩ | ⟨e1,g⟩
   ·exact fin (some w) (.inl g) (by rw [e1]; rfl)
   ·exact fin none g (by rw [e1]; rfl)
  ·cases e
 | str t =>
  rw [eb]at e d2
  have d2:y = .str t:=d2
  subst d2
  cases ea:o.frz with
  | str z =>
   rw [ea]at e d1
   have d1:x = .str z:=d1
   subst d1
   have e:(match z.cps.toList with
    | [c]=>some (decide (c∈t.cps.toList))
    | _=>some (!(Builtin.Str.occurrences t z 0 t.length 1).isEmpty))=some b:=e
   split at e
   ·rename_i c hc
    injection e with e; subst e
    have hz:z=⟨#[c]⟩:=by
     cases z with
     | mk cps =>
      congr 1
      exact Array.toList_inj.mp (by simpa using hc)
    subst hz
    cases neg with
    | false=>exact op_in_sign pins s σ H _ _ v u Q I rx ry ⟨c,t,rfl,rfl,q⟩
    | true=>exact op_notIn_sign pins s σ H _ _ v u Q I rx ry ⟨c,t,rfl,rfl,q⟩
   ·injection e with e; subst e
    cases neg with
    | false=>exact op_in_str pins s σ H _ _ v u Q I rx ry ⟨z,t,rfl,rfl,q⟩
    | true=>exact op_notin_str pins s σ H _ _ v u Q I rx ry ⟨z,t,rfl,rfl,q⟩
  | _=>rw [ea]at e; cases e
 | _=>rw [eb]at e; cases e
end
theorem Bu (hK:X.K=T.K) (I:Inv X pins σ H s) (rx:RelV x v) (ry:RelV y u) (sa:Sat T B H ((o,x)::(p,y)::l)) (e:qN o.frz p.frz=some ()):∃ a b its its2,v=Value.ref a∧u=Value.ref b∧s.heap.IsList a its∧s.heap.IsList b its2∧(its.size != its2.size)=true:=by
 have d1:=sa.read
 have d2:=sa.read2
 cases e1:o.frz with
 | lst xs =>
  cases e2:p.frz with
  | lst ys =>
   rw [e1,e2]at e
   have e:(if xs.length≠ys.length then some ()else none)=some ():=e
   by_cases hl:xs.length≠ys.length
   ·obtain⟨a,vs,rfl,h1,q1,_⟩:=Sat.kidsL sa e1
    obtain⟨b,ws,rfl,h2,q2,_⟩:=Sat.kidsL (sa.perm (List.Perm.swap _ _ _)) e2
    cases (show v=Value.ref a from rx)
    cases (show u=Value.ref b from ry)
    obtain⟨its,r1,n1,g1⟩:=I.list (by rw [hK]; exact h1)
    obtain⟨its2,r2,n2,g2⟩:=I.list (by rw [hK]; exact h2)
    have k1:=r1.length
    have k2:=r2.length
    have k3:its.length≠its2.length:=by omega
    exact⟨a,b,its.toArray,its2.toArray,rfl,rfl,n1.isList,n2.isList,by simpa using k3⟩
   ·rw [if_neg hl]at e; cases e
  | _=>rw [e1,e2]at e; cases e
 | _=>rw [e1]at e; cases e
theorem Bv (hK:X.K=T.K) (hu:X.A.units+200 < cLine) (k:Cm):OpR X (compareOp (rf k)) (fun x y H Q=>dX T B (AQ k) false [x,y] H Q):=by
 intro pins s σ H x y v u Q I rx ry h
 obtain⟨o,p,l,r,sa,e,q⟩:=Bj h
 have d1:=sa.read
 have d2:=sa.read2
 have e:(aB k o.frz p.frz).map (fun b=>O.d (.bl b))=some r:=e
 obtain⟨b,ek,er⟩:=Option.map_eq_some_iff.mp e
 subst er
 have fin:Q (.bl b) H:=q _ _ sa.bl
 cases k with
 | eq =>
  have ek:(if nC o.frz p.frz then some (D.eqd o.frz p.frz)else if qO o.frz p.frz then some (D.eqn 140 o.frz p.frz)else(qN o.frz p.frz).map fun _=>false)=some b:=ek
  split at ek
  ·rename_i hc
   injection ek with ek; subst ek
   exact II hK hu I rx ry sa hc fin
  split at ek
  ·rename_i hc
   injection ek with ek; subst ek
   exact Gn hK hu I rx ry sa hc fin
  ·obtain⟨_,e1,e2⟩:=Option.map_eq_some_iff.mp ek
   subst e2
   obtain⟨a1,a2,its1,its2,rfl,rfl,h1,h2,h3⟩:=Bu hK I rx ry sa e1
   exact PySem.SeqAt.eq_list_lengthsAt h1 h2 h3 (by omega) ⟨.bl false,H,I,rfl,fin⟩
 | ne =>
  have ek:(if nC o.frz p.frz then some (! D.eqd o.frz p.frz)else if qP o.frz p.frz then some (! D.eqn 140 o.frz p.frz)else(qN o.frz p.frz).map fun _=>true)=some b:=ek
  split at ek
  ·rename_i hc
   injection ek with ek; subst ek
   exact IJ hK hu I rx ry sa hc fin
  split at ek
  ·rename_i hc
   injection ek with ek; subst ek
   exact Gp hK hu I rx ry sa hc fin
  ·obtain⟨_,e1,e2⟩:=Option.map_eq_some_iff.mp ek
   subst e2
   obtain⟨a1,a2,its1,its2,rfl,rfl,h1,h2,h3⟩:=Bu hK I rx ry sa e1
   exact PySem.SeqAt.RcNeAt.lists_lengths h1 h2 h3 (by omega) X.prog X.w _ _ ⟨.bl true,H,I,rfl,fin⟩
 | isin=>exact Fh hK hu I rx ry sa (b:=b) ek false fin
 | notin =>
  have ek:(aB.inD o.frz p.frz).map (!·)=some b:=ek
  obtain⟨c,e1,e2⟩:=Option.map_eq_some_iff.mp ek
  subst e2
  exact Fh hK hu I rx ry sa (b:=c) e1 true fin
 | is =>
  cases eb:p.frz with
  | non =>
   rw [eb]at d2 ek
   have d2:y = .non:=d2
   subst d2
   refine op_isN pins s σ H _ _ v u Q I rx ry ⟨rfl,?_⟩
   cases ea:o.frz with
   | non =>
    rw [ea]at d1 ek
    have d1:x = .non:=d1
    subst d1
    injection ek with ek; subst ek
    exact fin
   | _ =>
    rw [ea]at d1 ek
    injection ek with ek; subst ek
    have:¬ x = .non:=fun z=>by
     rw [z]at d1
     exact nomatch Bt d1
    rw [decide_eq_false this]
    exact fin
  | bl d =>
   rw [eb]at d2 ek
   have d2:y = .bl d:=d2
   subst d2
   cases ea:o.frz with
   | bl c =>
    rw [ea]at d1 ek
    have d1:x = .bl c:=d1
    subst d1
    injection ek with ek; subst ek
    obtain rfl:v=Value.bool c:=rx
    obtain rfl:u=Value.bool d:=ry
    exact PyProof.Rows.is_bool ⟨.bl (c == d),H,I,rfl,fin⟩
   | _=>rw [ea]at ek; cases ek
  | _=>rw [eb]at ek; cases hh:o.frz <;> rw [hh]at ek <;> cases ek
 | isnot =>
  cases eb:p.frz with
  | non =>
   rw [eb]at d2 ek
   have d2:y = .non:=d2
   subst d2
   refine op_notN pins s σ H _ _ v u Q I rx ry ⟨rfl,?_⟩
   cases ea:o.frz with
   | non =>
    rw [ea]at d1 ek
    have d1:x = .non:=d1
    subst d1
    injection ek with ek; subst ek
    exact fin
   | _ =>
    rw [ea]at d1 ek
    injection ek with ek; subst ek
    have:¬ x = .non:=fun z=>by
     rw [z]at d1
     exact nomatch Bt d1
    rw [decide_eq_false this]
    exact fin
  | bl d =>
   rw [eb]at d2 ek
   have d2:y = .bl d:=d2
   subst d2
   cases ea:o.frz with
   | bl c =>
    rw [ea]at d1 ek
    have d1:x = .bl c:=d1
    subst d1
    injection ek with ek; subst ek
    obtain rfl:v=Value.bool c:=rx
    obtain rfl:u=Value.bool d:=ry
    exact PyProof.Rows.isnot_bool ⟨.bl (c != d),H,I,rfl,fin⟩
   | _=>rw [ea]at ek; cases ek
  | _=>rw [eb]at ek; cases hh:o.frz <;> rw [hh]at ek <;> cases ek
 | lt =>
  cases ea:o.frz with
  | int i =>
   rw [ea]at d1 ek
   have d1:x = .int i:=d1
   subst d1
   cases eb:p.frz with
   | int j =>
    rw [eb]at d2 ek
    have d2:y = .int j:=d2
    subst d2
    injection ek with ek; subst ek
    exact op_lt pins s σ H _ _ v u Q I rx ry ⟨i,j,rfl,rfl,fin⟩
   | _=>rw [eb]at ek; cases ek
  | str i =>
   rw [ea]at d1 ek
   have d1:x = .str i:=d1
   subst d1
   cases eb:p.frz with
   | str j =>
    rw [eb]at d2 ek
    have d2:y = .str j:=d2
    subst d2
    injection ek with ek; subst ek
    exact op_lt_str pins s σ H _ _ v u Q I rx ry ⟨i,j,rfl,rfl,fin⟩
   | _=>rw [eb]at ek; cases ek
  | _=>rw [ea]at ek; cases ek
 | le =>
  cases ea:o.frz with
  | int i =>
   rw [ea]at d1 ek
   have d1:x = .int i:=d1
   subst d1
   cases eb:p.frz with
   | int j =>
    rw [eb]at d2 ek
    have d2:y = .int j:=d2
    subst d2
    injection ek with ek; subst ek
    exact op_le pins s σ H _ _ v u Q I rx ry ⟨i,j,rfl,rfl,fin⟩
   | _=>rw [eb]at ek; cases ek
  | str i =>
   rw [ea]at d1 ek
   have d1:x = .str i:=d1
   subst d1
   cases eb:p.frz with
   | str j =>
    rw [eb]at d2 ek
    have d2:y = .str j:=d2
    subst d2
    injection ek with ek; subst ek
    exact op_le_str pins s σ H _ _ v u Q I rx ry ⟨i,j,rfl,rfl,fin⟩
   | _=>rw [eb]at ek; cases ek
  | _=>rw [ea]at ek; cases ek
 | gt =>
  cases ea:o.frz with
  | int i =>
   rw [ea]at d1 ek
   have d1:x = .int i:=d1
   subst d1
   cases eb:p.frz with
   | int j =>
    rw [eb]at d2 ek
    have d2:y = .int j:=d2
    subst d2
    injection ek with ek; subst ek
    exact op_gt pins s σ H _ _ v u Q I rx ry ⟨i,j,rfl,rfl,fin⟩
   | _=>rw [eb]at ek; cases ek
  | str i =>
   rw [ea]at d1 ek
   have d1:x = .str i:=d1
   subst d1
   cases eb:p.frz with
   | str j =>
    rw [eb]at d2 ek
    have d2:y = .str j:=d2
    subst d2
    injection ek with ek; subst ek
    exact op_gt_str pins s σ H _ _ v u Q I rx ry ⟨i,j,rfl,rfl,fin⟩
   | _=>rw [eb]at ek; cases ek
  | _=>rw [ea]at ek; cases ek
 | ge =>
  cases ea:o.frz with
  | int i =>
   rw [ea]at d1 ek
   have d1:x = .int i:=d1
   subst d1
   cases eb:p.frz with
   | int j =>
    rw [eb]at d2 ek
    have d2:y = .int j:=d2
    subst d2
    injection ek with ek; subst ek
    exact op_ge pins s σ H _ _ v u Q I rx ry ⟨i,j,rfl,rfl,fin⟩
   | _=>rw [eb]at ek; cases ek
  | str i =>
   rw [ea]at d1 ek
   have d1:x = .str i:=d1
   subst d1
   cases eb:p.frz with
   | str j =>
    rw [eb]at d2 ek
    have d2:y = .str j:=d2
    subst d2
    injection ek with ek; subst ek
    exact op_ge_str pins s σ H _ _ v u Q I rx ry ⟨i,j,rfl,rfl,fin⟩
   | _=>rw [eb]at ek; cases ek
  | _=>rw [ea]at ek; cases ek
end
end PV
namespace PV
open PySem PySem.Spec PyProof.Rows L2
section
variable {T:Tab}{B:Base}{X:Cx}{H:Hp}{hs:List Addr}{m:List bf}
theorem Bw {o:O}{i:Str} (e:o.frz = .str i):o.shal=o:=by cases o <;> first | rfl | cases e
theorem Bx {o:O}{xs:List D} (e:o.frz = .tup xs) (sa:ae T B H hs ((o,v)::m)):ae T B H hs ((o.shal,v)::m):=(Sat.dupT sa e).drop1
theorem fc {o:O}{v:V} (sa:ae T B H hs ((o,v)::m)):ae T B H hs ((o.shal,v)::m):=by
 cases o with
 | d x=>exact sa
 | tup os=>exact Bx (xs:=O.frzL os) rfl sa
 | lst os =>
  obtain⟨a,vs,rfl,_,_,s⟩:=Sat.kidsL sa (xs:=O.frzL os) rfl
  exact ae.dropL s
 | dic ks os =>
  obtain⟨a,vs,rfl,_,_,s⟩:=Sat.kidsD sa (ks:=ks) (xs:=O.frzL os) rfl
  exact ae.dropL s
 | obj C ns os =>
  obtain⟨a,dx,vs,rfl,_,_,_,s⟩:=Sat.kidsO sa (C:=C) (ns:=ns) (xs:=O.frzL os) rfl
  exact ae.dropL s
theorem ae.sub {l l':List bf} (h:l.Sublist l'):∀ {m:List bf},ae T B H hs (l'++m)→ae T B H hs (l++m):=by
 induction h with
 | slnil=>exact fun s=>s
 | cons a _ ih=>exact fun s=>ih (ae.drop1 (o:=a.1) (v:=a.2) s)
 | cons_cons a _ ih=>exact fun {m} s=>(ih (m:=a::m) (s.perm (by exact List.perm_middle.symm))).perm List.perm_middle
theorem yX {xs:List D}{vs:List V} (hl:xs.length=vs.length) (n k:Nat):((((xs.drop n).take k).map O.d).zip ((vs.drop n).take k)).Sublist ((xs.map O.d).zip vs):=by
 have e:(((xs.drop n).take k).map O.d).zip ((vs.drop n).take k)=(((xs.map O.d).zip vs).drop n).take k:=by
  rw [List.map_take,List.map_drop]
  simp only [List.zip,List.drop_zipWith,List.take_zipWith]
 rw [e]
 exact(List.take_sublist _ _).trans (List.drop_sublist _ _)
theorem yY {xs:List D}{vs:List V} (hl:xs.length=vs.length) {i:Int}{d:D} (e:atI xs i=some d):∃ (n:Nat) (w:V),xs[n]?=some d∧vs[n]?=some w∧atI vs i=some w:=by
 unfold atI at e
 cases q:ixN xs.length i with
 | none=>rw [q]at e; cases e
 | some n =>
  rw [q]at e
  have e:xs[n]?=some d:=e
  obtain⟨hn,_⟩:=List.getElem?_eq_some_iff.mp e
  refine⟨n,vs[n]'(by omega),e,List.getElem?_eq_getElem (by omega),?_⟩
  have q':ixN vs.length i=some n:=by rw [← hl]; exact q
  unfold atI
  rw [q']
  exact List.getElem?_eq_getElem (by omega)
theorem yZ (hu:X.A.units+1 < cLine):IxR X (fun x y H Q=>∃ a v,x = .ref a∧DGet H a y (some v)∧Q v H):=by
 intro value slice pins s σ H x y v u Q I rx ry h hs
 obtain⟨a,z,rfl,g,q⟩:=h
 cases rx
 exact tail_any (dict_typeIs I g) slot_dict_getitem.lookup (d_getItem hu I g ry fun w' s3 I3 rw'=>⟨z,H,I3,rw',q⟩) hs
def wC (y:V) (lo:Option Int):Prop:=(y = .non∧lo=none)∨∃ i,y = .int i∧lo=some i
theorem part_of {p:D}{y:V}{lo lo':Option Int}{own:Addr→Prop}{h:Hp} (e:ll p=some lo) (d:Dr T own h p y) (k:wC y lo'):lo=lo':=by
 cases p with
 | non =>
  injection e with e
  have d:y = .non:=d
  subst d e
  rcases k with⟨_,k⟩ | ⟨i,k,_⟩
  ·exact k.symm
  ·cases k
 | int i =>
  injection e with e
  have d:y = .int i:=d
  subst d e
  rcases k with⟨k,_⟩ | ⟨j,k,k'⟩
  ·cases k
  ·injection k with k; rw [k',k]
 | _=>cases e
theorem KC {f:List D→Option O}{sh:Bool}{y z w:V}{Q:VK} (h:dX T B f sh [y,z,w] H Q):∃ o p q l r,Sat T B H ((o,y)::(p,z)::(q,w)::l)∧f [o.frz,p.frz,q.frz]=some r∧∀ u H',Sat T B H' ((r,u)::(if sh then o.shal else o,y)::(if sh then p.shal else p,z)::(if sh then q.shal else q,w)::l)→Q u H':=by
 obtain⟨os,l,r,hl,s,e,q⟩:=h
 match os,hl with
 | [o,p,q'],_=>exact⟨o,p,q',l,r,s,e,fun u H' z=>q u H' (by cases sh <;> exact z)⟩
theorem IK (hK:X.K=T.K):SlR X (fun x lo hi H Q=>∃ y z,wC y lo∧wC z hi∧dX T B ig true [x,y,z] H Q):=by
 intro pins s σ H x v vl vu lo hi sl Q I rx hs pl pu h
 obtain⟨y,z,k1,k2,h⟩:=h
 obtain⟨o,p,t,l,r,sa,e,q⟩:=KC h
 have dp:=sa.swap.read
 have dt:=(ae.drop1 sa).swap.read
 rw [if_pos rfl,if_pos rfl,if_pos rfl]at q
 have e:(match ll p.frz,ll t.frz with
  | some lo,some hi=>(match o.frz with
   | .lst xs=>some (O.lst ((cutD xs lo hi).map .d))
   | .tup xs=>some (.d (.tup (cutD xs lo hi)))
   | .str z=>if z.length≤sizeLine then some (.d (.str ⟨((z.cps.toList.drop (HT.sIx z.length 0 lo)).take (HT.sIx z.length z.length hi - HT.sIx z.length 0 lo)).toArray⟩))else none
   | _=>none)
  | _,_=>none)=some r:=e
 cases e1:ll p.frz with
 | none=>rw [e1]at e; cases e
 | some lo' =>
  cases e2:ll t.frz with
  | none=>rw [e1,e2]at e; cases e
  | some hi' =>
   rw [e1,e2]at e
   have elo:=part_of e1 dp k1
   have ehi:=part_of e2 dt k2
   subst elo ehi
   have sp:Sat T B H ((o,x)::(p.shal,y)::(t.shal,z)::l):=by
    have t1:=fc sa.swap
    have t2:Sat T B H ((t,z)::(p.shal,y)::(o,x)::l):=t1.perm (by
     have p1:((p.shal,y)::(o,x)::(t,z)::l).Perm ((o,x)::(p.shal,y)::(t,z)::l):=.swap _ _ _
     have p2:((p.shal,y)::(o,x)::(t,z)::l).Perm ((p.shal,y)::(t,z)::(o,x)::l):=(List.Perm.swap _ _ _).cons _
     exact p2.trans (.swap _ _ _))
    have t3:=fc t2
    exact t3.perm (by
     have p1:((t.shal,z)::(p.shal,y)::(o,x)::l).Perm ((t.shal,z)::(o,x)::(p.shal,y)::l):=(List.Perm.swap _ _ _).cons _
     exact p1.trans ((List.Perm.swap _ _ _).trans ((List.Perm.swap _ _ _).cons _)))
   cases ea:o.frz with
   | lst xs =>
    rw [ea]at e
    injection e with e
    subst e
    obtain⟨a,vs,rfl,ha,hl,s1⟩:=Sat.kidsL sp ea
    refine sl_list pins s σ H _ v vl vu lo' hi' sl Q I rx hs pl pu ⟨a,vs,rfl,by rw [hK]; exact ha,fun p' hp=>q _ _ ?_⟩
    have s2:=ae.sub (yX hl (HT.sIx xs.length 0 lo') (HT.sIx xs.length xs.length hi' - HT.sIx xs.length 0 lo')) s1
    have:cutV vs lo' hi'=(vs.drop (HT.sIx xs.length 0 lo')).take (HT.sIx xs.length xs.length hi' - HT.sIx xs.length 0 lo'):=by unfold cutV; rw [hl]
    rw [this]
    exact Sat.newL (os:=(cutD xs lo' hi').map O.d) s2 (by unfold cutD; simp [hl]) hp
   | tup xs =>
    rw [ea]at e
    injection e with e
    subst e
    obtain⟨a,vs,rfl,ha,hl,s1⟩:=Sat.kidsT sp ea
    have ec:cutV vs lo' hi'=(vs.drop (HT.sIx xs.length 0 lo')).take (HT.sIx xs.length xs.length hi' - HT.sIx xs.length 0 lo'):=by unfold cutV; rw [hl]
    refine sl_tupA pins s σ H _ v vl vu lo' hi' sl Q I rx hs pl pu ⟨a,vs,rfl,by rw [hK]; exact ha,fun hw=>q _ _ ?_,fun hw p' hp=>q _ _ ?_⟩
    ·have:cutD xs lo' hi'=xs:=by
      unfold cutD
      rw [hl,hw.1,hw.2,List.drop_zero,← hl]
      exact List.take_of_length_le (by omega)
     rw [this]
     exact Sat.dupT sp ea
    ·have s2:=ae.sub (yX hl (HT.sIx xs.length 0 lo') (HT.sIx xs.length xs.length hi' - HT.sIx xs.length 0 lo')) s1
     rw [ec]
     exact Sat.newTd (xs:=cutD xs lo' hi') s2 (by unfold cutD; simp [hl]) hp
   | str w =>
    rw [ea]at e
    have d1:=sa.read
    rw [ea]at d1
    have d1:x = .str w:=d1
    subst d1
    have e:(if w.length≤sizeLine then some (O.d (.str ⟨((w.cps.toList.drop (HT.sIx w.length 0 lo')).take (HT.sIx w.length w.length hi' - HT.sIx w.length 0 lo')).toArray⟩))else none)=some r:=e
    split at e
    ·rename_i hz
     injection e with e
     subst e
     rw [Bw ea]at q
     exact sl_str pins s σ H _ v vl vu lo' hi' sl Q I rx hs pl pu ⟨w,rfl,hz,q _ _ sp.str⟩
    ·cases e
   | _=>rw [ea]at e; cases e
end
end PV
namespace PV
open PySem PySem.Spec PyProof.Rows L2
section
variable {T:Tab}{B:Base}{W:WX}{σ:L2.St}{l m:List bf}{α β:Type}{H H':Hp}{ρ ρ':Env}
def RG (T:Tab) (B:Base) (W:WX) (σ:L2.St) (l:List bf) (r:Res α) (K:α→Env→Prop):Prop:=match r with
 | .ok a ρ=>K a ρ
 | .exc C p ρ=>∀ d H its,At T B H ρ σ (its++l)→tW T H C p d its→W (.ref (T.cls C)) d σ H
 | .bad=>False
theorem RP.rg {r:Res O}{Q:VK} (h:RP T B W σ l r Q):RG T B W σ l r fun o ρ=>∀ v H,At T B H ρ σ ((o,v)::l)→Q v H:=by
 cases r <;> exact h
theorem RG.rp {r:Res O}{Q:VK} (h:RG T B W σ l r fun o ρ=>∀ v H,At T B H ρ σ ((o,v)::l)→Q v H):RP T B W σ l r Q:=by
 cases r <;> exact h
theorem RG.bind {r:Res α}{f:α→Env→Res β}{K:β→Env→Prop} (h:RG T B W σ l (r.bind f) K):RG T B W σ l r fun a ρ=>RG T B W σ l (f a ρ) K:=by
 cases r <;> exact h
theorem RG.bnd {o:Option α}{f:α→Res β}{K:β→Env→Prop} (h:RG T B W σ l (bnd o f) K):∃ a,o=some a∧RG T B W σ l (f a) K:=by
 cases o with
 | none=>exact h.elim
 | some a=>exact⟨a,rfl,h⟩
theorem RG.of {o:Option α}{K:α→Env→Prop} (h:RG T B W σ l (Res.of o ρ) K):∃ a,o=some a∧K a ρ:=by
 cases o with
 | none=>exact h.elim
 | some a=>exact⟨a,rfl,h⟩
theorem RG.mono {r:Res α}{K K':α→Env→Prop} (h:RG T B W σ l r K) (hK:∀ a ρ,K a ρ→K' a ρ):RG T B W σ l r K':=by
 cases r with
 | ok a ρ=>exact hK a ρ h
 | exc C p ρ=>exact h
 | bad=>exact h
theorem At.keepR (a:At T B H ρ σ (m++l)):At T B H ρ σ l:=⟨a.ok,by
 have s:=a.sat
 have q:(ah ρ σ++(m++l)).Perm (m++(ah ρ σ++l)):=by
  rw [← List.append_assoc,← List.append_assoc]
  exact List.perm_append_comm.append_right l
 exact ae.dropL (s.perm q),a.pr⟩
theorem At.dropM {k:List bf} (a:At T B H ρ σ (k++(m++l))):At T B H ρ σ (k++l):=by
 have q:(k++(m++l)).Perm (m++(k++l)):=by
  rw [← List.append_assoc,← List.append_assoc]
  exact List.perm_append_comm.append_right l
 exact(a.perm q).keepR
theorem RG.more {r:Res α}{K:α→Env→Prop} (h:RG T B W σ l r K):RG T B W σ (m++l) r K:=by
 cases r with
 | ok a ρ=>exact h
 | exc C p ρ=>exact fun d H its a e=>h d H its a.dropM e
 | bad=>exact h
theorem RG.more1 {q:bf}{r:Res α}{K:α→Env→Prop} (h:RG T B W σ l r K):RG T B W σ (q::l) r K:=RG.more (m:=[q]) h
end
section
variable (T:Tab) (B:Base) (Φ:cU) (W:WX)
def tE (se:SE):TE:=fun σ H Q=>∃ ρ l,At T B H ρ σ l∧RP T B W σ l (ev Φ se ρ) Q
def tA (se:SE):TE:=fun σ H Q=>∃ ρ l,At T B H ρ σ l∧RG T B W σ l (dJ Φ se ρ) fun a ρ'=>∀ v H',At T B H' ρ' σ (ak a v++l)→oi σ a v→Q v H'
def sY (ses:List SE):TA:=fun σ H Q=>∃ ρ l,At T B H ρ σ l∧RG T B W σ l (cj Φ ses ρ) fun as ρ'=>∀ vs H',At T B H' ρ' σ (aD as vs++l)→cz σ as vs→Q vs H'
def tL (ses:List SE):TA:=fun σ H Q=>∃ ρ l,At T B H ρ σ l∧RG T B W σ l (lJ Φ ses ρ) fun os ρ'=>∀ vs H',os.length=vs.length→At T B H' ρ' σ (os.zip vs++l)→Q vs H'
def tT (se:SE):TT:=fun σ H Q=>∃ ρ l,At T B H ρ σ l∧RG T B W σ l (qV Φ se ρ) fun b ρ'=>∀ H',At T B H' ρ' σ l→Q b H'
def y5 (ses:List SE):TT:=fun σ H Q=>∃ ρ l,At T B H ρ σ l∧RG T B W σ l (nh Φ ses ρ) fun b ρ'=>∀ H',At T B H' ρ' σ l→Q b H'
def y6 (ses:List SE):TE:=fun σ H Q=>∃ ρ l,At T B H ρ σ l∧RP T B W σ l (pN Φ ses ρ) Q
def DJ (ses:List SE):TE:=fun σ H Q=>∃ ρ l,At T B H ρ σ l∧RP T B W σ l (wu Φ ses ρ) Q
end
section
variable {X:Cx}{e:Expr}{es:List Expr}
theorem _root_.L2.PE.pv {t t':TE} (h:PE X e t) (i:∀ σ H Q,t' σ H Q→t σ H Q):PE X e t':=⟨fun pins s σ H Q I q=>h.run pins s σ H Q I (i σ H Q q)⟩
theorem _root_.L2.PT.pv {t t':TT} (h:PT X e t) (i:∀ σ H Q,t' σ H Q→t σ H Q):PT X e t':=⟨fun pins s σ H Q I q=>h.run pins s σ H Q I (i σ H Q q)⟩
theorem _root_.L2.PW.pv {t t':TT} (h:PW X e t) (i:∀ σ H Q,t' σ H Q→t σ H Q):PW X e t':=⟨fun wh pins s σ H Q I q=>h.run wh pins s σ H Q I (i σ H Q q)⟩
theorem _root_.L2.PA.pv {t t':TA} (h:PA X es t) (i:∀ σ H Q,t' σ H Q→t σ H Q):PA X es t':=⟨fun pos pins s σ H Q I q=>h.run pos pins s σ H Q I (i σ H Q q)⟩
end
section
variable {T:Tab}{B:Base}{Φ:cU}{W:WX}{X:Cx}{e a b c:Expr}{es:List Expr}{se sa sb sc:SE}{ses:List SE}{pos:Pos}{i:Nat}{x:Str}
theorem IL (hN:X.N[i]?=some x) (hv:Vis X.env.scope x) (hd:(x == ("__debug__" : Str))=false) (hc:(x == ("__classdict__" : Str))=false):PE X (.Name x pos) (tE T B Φ W (.var i)) :=
 (pe_var hN hv hd hc).pv fun σ H Q ⟨ρ,l,a,h⟩=>by
  have h:RG T B W σ l (bnd (ax ρ i) fun o=>.ok (.d o.frz) (ρ.set i (some (.d o.frz)))) fun o ρ=>∀ v H,At T B H ρ σ ((o,v)::l)→Q v H:=by rw [ev]at h; exact h.rg
  obtain⟨o,eo,h⟩:=h.bnd
  obtain⟨v,ev⟩:=a.ok.at eo
  have t:=a.take eo ev
  have hi:=mL eo
  have t2:At T B H (ρ.set i none) σ ((.d o.frz,v)::(.d o.frz,v)::l):=⟨t.ok,((t.sat.perm List.perm_middle).freeze.dup).perm (List.perm_middle.trans (List.perm_middle.cons _)).symm,t.pr⟩
  have t3:=t2.fill (i:=i) (by unfold ax; rw [List.getElem?_set_self hi]; rfl) (by simpa using hi) ev
  rw [List.set_set]at t3
  exact⟨v,ev,h v H t3⟩
theorem wD (hN:X.N[i]?=some x) (hv:Vis X.env.scope x) (hd:(x == ("__debug__" : Str))=false) (hc:(x == ("__classdict__" : Str))=false):PE X (.Name x pos) (tE T B Φ W (.mv i)) :=
 (pe_var hN hv hd hc).pv fun σ H Q ⟨ρ,l,a,h⟩=>by
  have h:RG T B W σ l (bnd (ax ρ i) fun o=>.ok o (ρ.set i none)) fun o ρ=>∀ v H,At T B H ρ σ ((o,v)::l)→Q v H:=by rw [ev]at h; exact h.rg
  obtain⟨o,eo,h⟩:=h.bnd
  obtain⟨v,ev⟩:=a.ok.at eo
  exact⟨v,ev,h v H (a.take eo ev)⟩
theorem dF (hN:X.N[i]?=some x) (hv:Vis X.env.scope x) (hd:(x == ("__debug__" : Str))=false) (hc:(x == ("__classdict__" : Str))=false):PE X (.Name x pos) (tA T B Φ W (.var i)) :=
 (pe_var hN hv hd hc).pv fun σ H Q ⟨ρ,l,a,h⟩=>by
  have h:RG T B W σ l (bnd (ax ρ i) fun _=>Res.ok (.slot i) ρ) fun a ρ'=>∀ v H',At T B H' ρ' σ (ak a v++l)→oi σ a v→Q v H':=by rw [dJ]at h; exact h
  obtain⟨o,eo,h⟩:=h.bnd
  obtain⟨v,ev⟩:=a.ok.at eo
  exact⟨v,ev,h v H a ev⟩
theorem Gq (h:PE X e (tE T B Φ W se)) (hs:∀ ρ,dJ Φ se ρ=(ev Φ se ρ).bind fun o ρ=>.ok (.val o) ρ):PE X e (tA T B Φ W se) :=
 h.pv fun σ H Q ⟨ρ,l,a,h⟩=>⟨ρ,l,a,by
  rw [hs]at h
  refine RG.rp (h.bind.mono fun o ρ' k v H' q=>?_)
  exact k v H' q trivial⟩
theorem JS {v:V}{d:D} (h:PE X e (tC v)) (hd:∀ own hp,Dr T own hp d v):PE X e (tE T B Φ W (.lit d)) :=
 h.pv fun σ H Q ⟨ρ,l,a,h⟩=>by
  have h:∀ v H,At T B H ρ σ ((.d d,v)::l)→Q v H:=by rw [ev]at h; exact h
  exact h v H ⟨a.ok,(a.sat.lit hd).perm List.perm_middle.symm,a.pr⟩
theorem Mn {v:V}{d:D}{x:Str} (h:PE X e (tC v)) (hd:∀ own hp,Dr T own hp d v):PE X e (tE T B Φ W (.glo x d)) :=
 h.pv fun σ H Q ⟨ρ,l,a,h⟩=>by
  have h:∀ v H,At T B H ρ σ ((.d d,v)::l)→Q v H:=by rw [ev]at h; exact h
  exact h v H ⟨a.ok,(a.sat.lit hd).perm List.perm_middle.symm,a.pr⟩
theorem aq:PA X [] (sY T B Φ W []):=pa_nil.pv fun σ H Q ⟨ρ,l,a,h⟩=>by
 have h:∀ vs H',At T B H' ρ σ (aD [] vs++l)→cz σ [] vs→Q vs H':=by rw [cj]at h; exact h
 exact h [] H a trivial
theorem aF (ha:PE X e (tA T B Φ W se)) (hs:PA X es (sY T B Φ W ses)) (hst:starEach (e::es) X.env=(false,eval e X.env)::starEach es X.env):PA X (e::es) (sY T B Φ W (se::ses)) :=
 (pa_cons ha hs hst).pv fun σ H Q ⟨ρ,l,a,h⟩=>by
  rw [cj]at h
  refine⟨ρ,l,a,h.bind.mono fun a ρ1 k v H1 a1 av=>⟨ρ1,ak a v++l,a1,RG.more (k.bind.mono fun as ρ2 k2 vs H2 a2 avs=>k2 (v::vs) H2 ?_ ⟨av,avs⟩)⟩⟩
  refine a2.perm ?_
  show(aD as vs++(ak a v++l)).Perm ((ak a v++aD as vs)++l)
  rw [← List.append_assoc]
  exact List.perm_append_comm.append_right l
theorem bN:PA X [] (tL T B Φ W []):=pa_nil.pv fun σ H Q ⟨ρ,l,a,h⟩=>by
 have h:∀ vs H',([]:List O).length=vs.length→At T B H' ρ σ (([]:List O).zip vs++l)→Q vs H':=by rw [lJ]at h; exact h
 exact h [] H rfl a
theorem aC (ha:PE X e (tE T B Φ W se)) (hs:PA X es (tL T B Φ W ses)) (hst:starEach (e::es) X.env=(false,eval e X.env)::starEach es X.env):PA X (e::es) (tL T B Φ W (se::ses)) :=
 (pa_cons ha hs hst).pv fun σ H Q ⟨ρ,l,a,h⟩=>by
  rw [lJ]at h
  refine⟨ρ,l,a,RG.rp (h.bind.mono fun o ρ1 k v H1 a1=>⟨ρ1,(o,v)::l,a1,RG.more1 (k.bind.mono fun os ρ2 k2 vs H2 hl a2=>k2 (v::vs) H2 (by simp [hl]) ?_)⟩)⟩
  exact a2.perm List.perm_middle
theorem fY {f:List D→Option O}{sh:Bool}{as:List Arg}{vs:List V}{σ:L2.St}{l:List bf}{H:Hp}{ρ:Env}{Q:VK} (h:RG T B W σ l (pM f sh as ρ) fun o ρ=>∀ v H,At T B H ρ σ ((o,v)::l)→Q v H)
  (a:At T B H ρ σ (aD as vs++l)) (av:cz σ as vs):dX T B f sh vs H Q:=Gk a av h.rp
theorem qx {a b:Arg}{v w:V}{l:List bf}:(ak b w++(ak a v++l)).Perm (aD [a,b] [v,w]++l):=by
 show(ak b w++(ak a v++l)).Perm ((ak a v++(ak b w++[]))++l)
 rw [List.append_nil,← List.append_assoc]
 exact List.perm_append_comm.append_right l
theorem uU {a:Arg}{v:V}{l:List bf}:(ak a v++l).Perm (aD [a] [v]++l):=by
 show(ak a v++l).Perm ((ak a v++[])++l)
 rw [List.append_nil]
theorem aG {p q l:List bf}:(p++(q++l)).Perm (q++(p++l)):=by
 rw [← List.append_assoc,← List.append_assoc]
 exact List.perm_append_comm.append_right l
theorem Aa {a b c:Arg}{v w u:V}{l:List bf}:(ak c u++(ak b w++(ak a v++l))).Perm (aD [a,b,c] [v,w,u]++l):=by
 show(ak c u++(ak b w++(ak a v++l))).Perm ((ak a v++(ak b w++(ak c u++[])))++l)
 rw [List.append_nil,List.append_assoc,List.append_assoc]
 have p1:(ak c u++(ak b w++(ak a v++l))).Perm (ak c u++(ak a v++(ak b w++l))):=aG.append_left _
 have p2:(ak c u++(ak a v++(ak b w++l))).Perm (ak a v++(ak c u++(ak b w++l))):=aG
 exact p1.trans (p2.trans (aG.append_left _))
theorem wF {f:List D→Option O}{sh:Bool}{σ:L2.St}{l:List bf}{H:Hp}{ρ:Env}{Q:VK} (at_:At T B H ρ σ l)
  (h:RG T B W σ l ((dJ Φ sa ρ).bind fun x ρ=>(dJ Φ sb ρ).bind fun y ρ=>pM f sh [x,y] ρ) fun o ρ=>∀ v H,At T B H ρ σ ((o,v)::l)→Q v H) :
  tOp (fun x y H Q=>dX T B f sh [x,y] H Q) (tA T B Φ W sa) (tA T B Φ W sb) σ H Q:=by
 refine⟨ρ,l,at_,h.bind.mono fun a ρ1 k v H1 a1 av=>⟨ρ1,ak a v++l,a1,RG.more (k.bind.mono fun b ρ2 k2 w H2 a2 aw=>?_)⟩⟩
 exact fY (as:=[a,b]) k2 (a2.perm qx) ⟨av,aw,trivial⟩
theorem IM {f:List D→Option O}{sh:Bool}{σ:L2.St}{l:List bf}{H:Hp}{ρ:Env}{Q:VK} (at_:At T B H ρ σ l)
  (h:RG T B W σ l ((dJ Φ sa ρ).bind fun x ρ=>pM f sh [x] ρ) fun o ρ=>∀ v H,At T B H ρ σ ((o,v)::l)→Q v H) :
  tUn (fun x H Q=>dX T B f sh [x] H Q) (tA T B Φ W sa) σ H Q:=by
 refine⟨ρ,l,at_,h.bind.mono fun a ρ1 k v H1 a1 av=>?_⟩
 exact fY (as:=[a]) k (a1.perm uU) ⟨av,trivial⟩
theorem bR (hK:X.K=T.K) {k:Bi} (ha:PE X a (tA T B Φ W sa)) (hb:PE X b (tA T B Φ W sb)):PE X (.BinOp a (ID k) b pos) (tE T B Φ W (.bi k sa sb)) :=
 (pe_op (Ky (T:=T) (B:=B) hK k) ha hb).pv fun σ H Q ⟨ρ,l,at_,h⟩=>wF at_ (by rw [ev]at h; exact h.rg)
theorem uc (ha:PE X a (tA T B Φ W sa)):PE X (.UnaryOp .USub a pos) (tE T B Φ W (.un .neg sa)) :=
 (pe_un (IF (T:=T) (B:=B)) ha).pv fun σ H Q ⟨ρ,l,at_,h⟩=>IM at_ (by rw [ev]at h; exact h.rg)
theorem lR (hK:X.K=T.K) (hu:X.A.units+200 < cLine) {k:Cm} (ha:PE X a (tA T B Φ W sa)) (hb:PE X b (tA T B Φ W sb)) (hm:behindInMarks (rf k) b=false):PE X (.Compare a [rf k] [b] pos) (tE T B Φ W (.cm k sa sb)) :=
 (pe_cmpR (Bv (T:=T) (B:=B) hK hu k) ha hb hm).pv fun σ H Q ⟨ρ,l,at_,h⟩=>wF at_ (by rw [ev]at h; exact h.rg)
theorem Gr {os:List O}{vs:List V}{p:Addr}{H:Hp}{l:List bf} (s:Sat T B H (os.zip vs++l)) (hl:os.length=vs.length) (n:H p=none):Sat T B (upd H p (.tup vs)) ((wa os,.ref p)::l):=by
 have key:∀ {os:List O}{ds:List D},wa.allD os=some ds→os=ds.map O.d:=by
  intro os
  induction os with
  | nil=>intro ds e; injection e with e; subst e; rfl
  | cons o os ih =>
   intro ds e
   cases o with
   | d x =>
    have e:(wa.allD os).map (x :: ·)=some ds:=e
    obtain⟨r,e1,e2⟩:=Option.map_eq_some_iff.mp e
    subst e2
    rw [ih e1]; rfl
   | _=>cases e
 unfold wa
 split
 ·rename_i ds e
  have:=key e
  subst this
  exact Sat.newTd s (by simpa using hl) n
 ·exact Sat.newT s hl n
theorem je {k:Nat} (hz:ses.length≤sizeLine) (h:PA X es (tL T B Φ W ses)):PE X (.Tuple es k pos) (tE T B Φ W (.tup ses)) :=
 (pe_tup h).pv fun σ H Q ⟨ρ,l,at_,h⟩=>by
  have h:RG T B W σ l ((lJ Φ ses ρ).bind fun os ρ=>.ok (wa os) ρ) fun o ρ=>∀ v H,At T B H ρ σ ((o,v)::l)→Q v H:=by rw [ev]at h; exact h.rg
  have len:∀ {ses:List SE}{ρ:Env}{os:List O}{ρ':Env},lJ Φ ses ρ = .ok os ρ'→os.length=ses.length:=by
   intro ses
   induction ses with
   | nil=>intro ρ os ρ' e; rw [lJ]at e; injection e with e; subst e; rfl
   | cons se ses ih =>
    intro ρ os ρ' e
    rw [lJ]at e
    obtain⟨o,ρ1,_,e⟩:=Res.bind_of e
    obtain⟨os',ρ2,e1,e⟩:=Res.bind_of e
    injection e with e
    subst e
    simp [ih e1]
  refine⟨ρ,l,at_,?_⟩
  have h:=h.bind
  cases e:lJ Φ ses ρ with
  | bad=>rw [e]at h; exact h
  | exc C p ρ'=>rw [e]at h; exact h
  | ok os ρ' =>
   rw [e]at h
   have h:∀ v H,At T B H ρ' σ ((wa os,v)::l)→Q v H:=h
   intro vs H1 hl a1
   refine⟨by rw [← hl,len e]; exact hz,fun p hp=>h _ _ ⟨a1.ok,?_,a1.pr⟩⟩
   have s1:Sat T B H1 (os.zip vs++(ah ρ' σ++l)):=a1.sat.perm (by
    rw [← List.append_assoc,← List.append_assoc]
    exact List.perm_append_comm.append_right l)
   exact(Gr s1 hl hp).perm List.perm_middle.symm
theorem dB (hz:ses.length≤sizeLine) (h:PA X es (tL T B Φ W ses)):PE X (.List es pos) (tE T B Φ W (.lst ses)) :=
 (pe_lst h).pv fun σ H Q ⟨ρ,l,at_,h⟩=>by
  have h:RG T B W σ l ((lJ Φ ses ρ).bind fun os ρ=>.ok (O.lst os) ρ) fun o ρ=>∀ v H,At T B H ρ σ ((o,v)::l)→Q v H:=by rw [ev]at h; exact h.rg
  have len:∀ {ses:List SE}{ρ:Env}{os:List O}{ρ':Env},lJ Φ ses ρ = .ok os ρ'→os.length=ses.length:=by
   intro ses
   induction ses with
   | nil=>intro ρ os ρ' e; rw [lJ]at e; injection e with e; subst e; rfl
   | cons se ses ih =>
    intro ρ os ρ' e
    rw [lJ]at e
    obtain⟨o,ρ1,_,e⟩:=Res.bind_of e
    obtain⟨os',ρ2,e1,e⟩:=Res.bind_of e
    injection e with e
    subst e
    simp [ih e1]
  refine⟨ρ,l,at_,?_⟩
  have h:=h.bind
  cases e:lJ Φ ses ρ with
  | bad=>rw [e]at h; exact h
  | exc C p ρ'=>rw [e]at h; exact h
  | ok os ρ' =>
   rw [e]at h
   have h:∀ v H,At T B H ρ' σ ((.lst os,v)::l)→Q v H:=h
   intro vs H1 hl a1
   refine⟨by rw [← hl,len e]; exact hz,fun p hp=>h _ _ ⟨a1.ok,?_,a1.pr⟩⟩
   have s1:Sat T B H1 (os.zip vs++(ah ρ' σ++l)):=a1.sat.perm (by
    rw [← List.append_assoc,← List.append_assoc]
    exact List.perm_append_comm.append_right l)
   exact(Sat.newL s1 hl hp).perm List.perm_middle.symm
end
end PV
namespace PV
open PySem PySem.Spec PyProof.Rows L2
section
variable {T:Tab}{B:Base}{Φ:cU}{W:WX}{X:Cx}{e a b c:Expr}{es:List Expr}{se sa sb sc:SE}{ses:List SE}{pos:Pos}{i:Nat}{x:Str}
theorem gN:∀ {ks:List D}{js:List Key},keysOf ks=some js→js.length=ks.length
 | [],js,e=>by injection e with e; subst e; rfl
 | k::ks,js,e=>by
  unfold keysOf at e
  cases e1:keyOf k with
  | none=>rw [e1]at e; cases e
  | some kk =>
   cases e2:keysOf ks with
   | none=>rw [e1,e2]at e; cases e
   | some r' =>
    rw [e1,e2]at e
    injection e with e
    subst e
    simp [gN e2]
def DK (T:Tab) (B:Base):V→Hp→(Bool→Hp→Prop)→Prop:=fun x H Q=>∃ o l k,Sat T B H ((o,x)::l)∧qQ o.frz=some k∧Q k H
theorem By (hK:X.K=T.K):TruR X (DK T B):=by
 intro pins s σ H x v Q I rx h
 obtain⟨o,l,k,sa,e,q⟩:=h
 have d:=sa.read
 cases ea:o.frz with
 | non =>
  rw [ea]at d e
  have d:x = .non:=d
  subst d
  injection e with e
  subst e
  exact tru_ok pins s σ H _ v Q I rx ⟨false,rfl,q⟩
 | bl k' =>
  rw [ea]at d e
  have d:x = .bl k':=d
  subst d
  injection e with e
  subst e
  exact tru_ok pins s σ H _ v Q I rx ⟨k',rfl,q⟩
 | int i =>
  rw [ea]at d e
  have d:x = .int i:=d
  subst d
  injection e with e
  subst e
  exact tru_ok pins s σ H _ v Q I rx ⟨_,rfl,q⟩
 | str z =>
  rw [ea]at d e
  have d:x = .str z:=d
  subst d
  have e:(if z.length≤sizeLine then some ((z.length:Int) != 0)else none)=some k:=e
  split at e
  ·rename_i hz
   injection e with e
   subst e
   exact tru_ok pins s σ H _ v Q I rx ⟨_,⟨hz,rfl⟩,q⟩
  ·cases e
 | lst xs =>
  rw [ea]at e
  injection e with e
  subst e
  obtain⟨a,vs,rfl,ha,hl,_⟩:=Sat.kidsL sa ea
  refine tru_ok pins s σ H _ v Q I rx ⟨_,.inl ⟨vs,by rw [hK]; exact ha,rfl⟩,?_⟩
  have:xs.isEmpty=vs.isEmpty:=by cases xs <;> cases vs <;> first | rfl | simp at hl
  rw [← this]; exact q
 | tup xs =>
  rw [ea]at e
  injection e with e
  subst e
  obtain⟨a,vs,rfl,ha,hl,_⟩:=Sat.kidsT sa ea
  refine tru_ok pins s σ H _ v Q I rx ⟨_,.inr (.inl ⟨vs,by rw [hK]; exact ha,rfl⟩),?_⟩
  have:xs.isEmpty=vs.isEmpty:=by cases xs <;> cases vs <;> first | rfl | simp at hl
  rw [← this]; exact q
 | dic ks ds =>
  rw [ea]at e d
  have e:(if(ks.all fun k=>(keyOf k).isSome)=true then some (! ks.isEmpty)else none)=some k:=e
  split at e
  ·rename_i hk
   injection e with e
   subst e
   obtain⟨a,ws,rfl,dr,dl⟩:=qY sa d
   obtain rfl:v=Value.ref a:=rx
   rcases dr with⟨js,q1,rd,q3⟩ | ⟨js,q1,rd,q3⟩
   ·refine d_truth I rd fun s' I'=>⟨H,I',?_⟩
    have hl:=gN q1
    have:ks.isEmpty=(js.zip ws).isEmpty:=by
     cases ks <;> cases js <;> cases ws <;> first | rfl | simp at hl q3
    rw [← this]; exact q
   ·cases ks with
    | nil =>
     injection q1 with q1
     subst q1
     obtain⟨dd,hd⟩:=iG I rd
     exact wpAny_truthy_dict hd dd (by simp) ⟨H,I.tok _,q⟩
    | cons j ks =>
     have h1:=eL q1 j List.mem_cons_self
     have h2:=List.all_eq_true.mp hk j List.mem_cons_self
     obtain⟨jj,ej⟩:=Option.isSome_iff_exists.mp h2
     rw [cV ej]at h1; cases h1
  ·cases e
 | obj C ns xs=>rw [ea]at e; cases e
 | exc C p=>rw [ea]at e; cases e
theorem y7 {σ:L2.St}{l:List bf}{H:Hp}{ρ:Env}{v:V}{Q:Bool→Hp→Prop}{α:Arg}{β:Type}{f:Bool→Env→Res β}{K:β→Env→Prop} (at_:At T B H ρ σ (ak α v++l)) (av:oi σ α v)
  (h:RG T B W σ l ((aj α ρ).bind fun o ρ=>(Res.of (qQ o.frz) ρ).bind fun b ρ=>f b (back α o ρ)) K) (q:∀ b ρ',At T B H ρ' σ l→RG T B W σ l (f b ρ') K→Q b H):DK T B v H Q:=by
 have h:=h.bind
 cases e:aj α ρ with
 | bad=>rw [e]at h; exact h.elim
 | exc C p ρ' =>
  cases α with
  | val o=>cases e
  | slot i =>
   have e:bnd (ax ρ i) (fun o=>Res.ok o (aj.taken o i ρ)) = .exc C p ρ':=e
   cases q:ax ρ i <;> rw [q]at e <;> cases e
 | ok o ρ1 =>
  rw [e]at h
  have h:RG T B W σ l ((Res.of (qQ o.frz) ρ1).bind fun b ρ=>f b (back α o ρ)) K:=h
  obtain⟨b,eb,h⟩:=h.bind.of
  have a1:=oj at_ av e
  exact⟨o,ah ρ1 σ++l,b,a1.sat.perm List.perm_middle,eb,q b _ (yU a1 av) h⟩
def lS:Expr→Bool
 | .UnaryOp .Not _ _=>false
 | .BoolOp _ _ _=>false
 | .IfExp _ _ _ _=>false
 | .Compare _ _ _ _=>false
 | _=>true
theorem uV {e:Expr}{env:PySem.Env} (h:lS e=true) (whole:Sem Value):PySem.isTrue e env whole=(do let v ← whole; standAt e.pos; holding [v] (truthy v)):=by
 cases e with
 | UnaryOp op x p=>cases op <;> first | rfl | cases h
 | _=>first | rfl | cases h
theorem Gu (hK:X.K=T.K) (ha:PE X a (tA T B Φ W sa)) (he:lS a=true) (hs:∀ ρ,qV Φ sa ρ=(dJ Φ sa ρ).bind fun a ρ=>(aj a ρ).bind fun o ρ=>(Res.of (qQ o.frz) ρ).bind fun b ρ=>.ok b (back a o ρ)):PT X a (tT T B Φ W sa):=by
 refine⟨fun pins s σ H Q I ⟨ρ,l,at_,h⟩=>?_⟩
 rw [hs]at h
 have h1:tA T B Φ W sa σ H fun x H'=>DK T B x H' Q:=⟨ρ,l,at_,h.bind.mono fun α ρ1 k v H1 a1 av=>y7 a1 av k fun b ρ' a2 k2=>k2 H1 a2⟩
 exact isTrue_plain (thn (ha.run pins s σ H _ I h1) fun v s1 ⟨x,H1,I1,r1,q1⟩=>By hK pins s1 σ H1 x v Q I1 r1 q1) (uV he _)
theorem Fi (hK:X.K=T.K) (ha:PE X a (tA T B Φ W sa)):PE X (.UnaryOp .Not a pos) (tE T B Φ W (.bnot sa)):=by
 refine⟨fun pins s σ H Q I ⟨ρ,l,at_,h⟩=>?_⟩
 rw [ev]at h
 have h:=h.rg
 have h1:tA T B Φ W sa σ H fun x H'=>DK T B x H' fun b H2=>Q (.bl (! b)) H2:=⟨ρ,l,at_,h.bind.mono fun α ρ1 k v H1 a1 av=>y7 a1 av k fun b ρ' a2 k2=>k2 _ H1 ⟨a2.ok,a2.sat.bl.perm List.perm_middle.symm,a2.pr⟩⟩
 refine UnaryOp_ (thn (ha.run pins s σ H _ I h1) fun v s1 ⟨x,H1,I1,r1,q1⟩=>not_of ?_)
 exact thn (By hK pins s1 σ H1 x v _ I1 r1 q1) fun c s2 ⟨H2,I2,q2⟩=>⟨.bl (! c),H2,I2,rfl,q2⟩
theorem cO (ha:PT X a (tT T B Φ W sa)):PT X (.UnaryOp .Not a pos) (tT T B Φ W (.bnot sa)) :=
 (pt_not ha).pv fun σ H Q ⟨ρ,l,at_,h⟩=>by
  rw [qV]at h
  exact⟨ρ,l,at_,h.bind.mono fun b ρ1 k H1 a1=>k H1 a1⟩
theorem IP {o:O}{v:V}{H:Hp}{m:List bf}{b:Bool} (s:Sat T B H ((o,v)::m)) (e:qS o=some b):v = .bl b:=by
 have d:=s.read
 cases o with
 | d x =>
  cases x with
  | bl c=>injection e with e; subst e; exact d
  | _=>cases e
 | _=>cases e
theorem RG.eq {T:Tab}{B:Base}{W:WX}{σ:L2.St}{l:List bf}{α:Type}{r:Res α}{K:α→Env→Prop} (h:RG T B W σ l r K):RG T B W σ l r fun a ρ=>r = .ok a ρ∧K a ρ:=by
 cases r with
 | ok a ρ=>exact⟨rfl,h⟩
 | exc C p ρ=>exact h
 | bad=>exact h
theorem Bz {k:Cm}{as:List Arg}{sh:Bool}{ρ ρ':Env}{o:O} (e:pM (AQ k) sh as ρ = .ok o ρ'):∃ b,o = .d (.bl b):=by
 unfold pM at e
 obtain⟨os,ρ1,_,e⟩:=Res.bind_of e
 obtain⟨r,ρ2,e1,e⟩:=Res.bind_of e
 injection e with e _
 subst e
 cases q:AQ k (os.map O.frz)with
 | none=>rw [q]at e1; cases e1
 | some r' =>
  rw [q]at e1
  injection e1 with e1 _
  subst e1
  match hos:os.map O.frz,q with
  | [x,y],q =>
   obtain⟨b,_,h⟩:=Option.map_eq_some_iff.mp (show(aB k x y).map (fun b=>O.d (.bl b))=some r' from q)
   exact⟨b,h.symm⟩
  | [],q=>cases q
  | [_],q=>cases q
  | _::_::_::_,q=>cases q
theorem uW {se:SE}{ρ:Env} (h:qV Φ se ρ=(dJ Φ se ρ).bind fun a ρ=>(aj a ρ).bind fun o ρ=>(Res.of (qQ o.frz) ρ).bind fun b ρ=>.ok b (back a o ρ)) (h2:dJ Φ se ρ=(ev Φ se ρ).bind fun o ρ=>.ok (.val o) ρ) :
  qV Φ se ρ=(ev Φ se ρ).bind fun o ρ=>(Res.of (qQ o.frz) ρ).bind fun b ρ=>.ok b ρ:=by
 rw [h,h2]
 generalize ev Φ se ρ=r
 cases r <;> rfl
theorem At.bl1 {σ:L2.St}{l:List bf}{H:Hp}{ρ:Env}{v:V}{b:Bool} (a:At T B H ρ σ ((.d (.bl b),v)::l)):v = .bl b:=by
 have d:=(ae.perm a.sat List.perm_middle).read
 exact d
theorem cY (hK:X.K=T.K) (hu:X.A.units+200 < cLine) {k:Cm} (ha:PE X a (tA T B Φ W sa)) (hb:PE X b (tA T B Φ W sb)) (hm:behindInMarks (rf k) b=false):PT X (.Compare a [rf k] [b] pos) (tT T B Φ W (.cm k sa sb)) :=
 (pt_cmpR (Bv (T:=T) (B:=B) hK hu k) ha hb hm).pv fun σ H Q ⟨ρ,l,at_,h⟩=>by
  rw [uW (by rw [qV]; all_goals simp) (by rw [dJ]; all_goals simp),ev]at h
  refine wF (Q:=fun x H'=>∃ k,x = .bl k∧Q k H') at_ (h.bind.eq.mono fun o ρ1 k2 v H1 a1=>?_)
  obtain⟨ee,k2⟩:=k2
  obtain⟨_,_,_,ee⟩:=Res.bind_of ee
  obtain⟨_,_,_,ee⟩:=Res.bind_of ee
  obtain⟨b,eb⟩:=Bz ee
  subst eb
  have k2:∀ H',At T B H' ρ1 σ l→Q b H':=k2
  exact⟨b,a1.bl1,k2 H1 a1.drop⟩
theorem Gv (hK:X.K=T.K) (hu:X.A.units+200 < cLine) {k j:Cm}{σ:L2.St}{l:List bf}{H:Hp}{ρ:Env}{Q:VK} (at_:At T B H ρ σ l)
  (h:RG T B W σ l (ev Φ (.cm2 k j sa sb sc) ρ) fun o ρ=>∀ v H,At T B H ρ σ ((o,v)::l)→Q v H) :
  tChain (fun x y H Q=>dX T B (AQ k) false [x,y] H Q) (fun x y H Q=>dX T B (AQ j) false [x,y] H Q) (tA T B Φ W sa) (tA T B Φ W sb) (tA T B Φ W sc) σ H Q:=by
 rw [ev]at h
 refine⟨ρ,l,at_,h.bind.mono fun α ρ1 k1 v H1 a1 av=>⟨ρ1,ak α v++l,a1,RG.more (k1.bind.mono fun β ρ2 k2 w H2 a2 aw=>?_)⟩⟩
 obtain⟨_,ep,k2⟩:=k2.bnd
 have dup:At T B H2 ρ2 σ (aD [α,β] [v,w]++(ak β w++l)):=by
  cases β with
  | slot i=>exact a2.perm qx
  | val o =>
   cases o with
   | d x =>
    have s:At T B H2 ρ2 σ ((.d x,w)::(ak α v++l)):=a2
    have s2:At T B H2 ρ2 σ ((.d x,w)::(.d x,w)::(ak α v++l)):=⟨s.ok,((ae.perm s.sat List.perm_middle).dup).perm (List.perm_middle.trans (List.perm_middle.cons _)).symm,s.pr⟩
    refine s2.perm ?_
    show(((O.d x,w))::(O.d x,w)::(ak α v++l)).Perm ((ak α v++([(O.d x,w)]++[]))++([(O.d x,w)]++l))
    have p1:(((O.d x,w))::(O.d x,w)::(ak α v++l)).Perm ((O.d x,w)::(ak α v++(O.d x,w)::l)):=(List.perm_middle.symm).cons _
    refine p1.trans ?_
    rw [List.append_nil,List.append_assoc]
    exact List.perm_middle.symm
   | _=>cases ep
 refine fY (as:=[α,β]) (l:=ak β w++l) (RG.more (k2.bind.eq.mono fun o ρ3 k3 u H3 a3=>?_)) dup ⟨av,aw,trivial⟩
 obtain⟨ee,k3⟩:=k3
 obtain⟨b,eb⟩:=Bz ee
 subst eb
 refine⟨b,a3.bl1,?_⟩
 obtain⟨t,et,k3⟩:=k3.bnd
 injection et with et
 subst et
 have a4:=a3.drop
 cases b with
 | false =>
  have k3:∀ v H,At T B H ρ3 σ ((.d (.bl false),v)::l)→Q v H:=k3
  rw [if_neg Bool.false_ne_true]
  have a5:=a4.keepR
  exact k3 _ _ ⟨a5.ok,a5.sat.bl.perm List.perm_middle.symm,a5.pr⟩
 | true =>
  have k3:RG T B W σ l ((dJ Φ sc ρ3).bind fun z ρ=>pM (AQ j) false [β,z] ρ) fun o ρ=>∀ v H,At T B H ρ σ ((o,v)::l)→Q v H:=k3
  rw [if_pos rfl]
  refine⟨ρ3,ak β w++l,a4,RG.more (k3.bind.mono fun γ ρ4 k4 z H4 a6 az=>?_)⟩
  exact fY (as:=[β,γ]) k4 (a6.perm qx) ⟨aw,az,trivial⟩
theorem xY (hK:X.K=T.K) (hu:X.A.units+200 < cLine) {k j:Cm} (ha:PE X a (tA T B Φ W sa)) (hb:PE X b (tA T B Φ W sb)) (hc:PE X c (tA T B Φ W sc)) (hm:lastMarks [rf k,rf j] [b,c]=false):PT X (.Compare a [rf k,rf j] [b,c] pos) (tT T B Φ W (.cm2 k j sa sb sc)) :=
 (pt_chain (Bv (T:=T) (B:=B) hK hu k) (Bv (T:=T) (B:=B) hK hu j) ha hb hc hm).pv fun σ H Q ⟨ρ,l,at_,h⟩=>by
  rw [uW (by rw [qV]; all_goals simp) (by rw [dJ]; all_goals simp)]at h
  refine Gv (Q:=fun x H'=>∃ k,x = .bl k∧Q k H') hK hu at_ (h.bind.eq.mono fun o ρ1 k2 v H1 a1=>?_)
  obtain⟨ee,k2⟩:=k2
  have:∃ b,o = .d (.bl b):=by
   rw [ev]at ee
   obtain⟨_,_,_,ee⟩:=Res.bind_of ee
   obtain⟨y,ρy,_,ee⟩:=Res.bind_of ee
   cases q:qU y with
   | none=>rw [q]at ee; cases ee
   | some _ =>
    rw [q]at ee
    obtain⟨r,ρr,_,ee⟩:=Res.bind_of ee
    cases q2:qS r with
    | none=>rw [q2]at ee; cases ee
    | some t =>
     rw [q2]at ee
     cases t with
     | false=>injection ee with ee; exact⟨false,ee.symm⟩
     | true =>
      obtain⟨_,_,_,ee⟩:=Res.bind_of (show((dJ Φ sc ρr).bind fun z ρ=>pM (AQ j) false [y,z] ρ) = .ok o ρ1 from ee)
      exact Bz ee
  obtain⟨b,eb⟩:=this
  subst eb
  have k2:∀ H',At T B H' ρ1 σ l→Q b H':=k2
  exact⟨b,a1.bl1,k2 H1 a1.drop⟩
theorem nM (h:PE X a (tE T B Φ W sa)):PE X (.BoolOp .And [a] pos) (y6 T B Φ W [sa]):=(pe_one h).pv fun σ H Q ⟨ρ,l,at_,h⟩=>⟨ρ,l,at_,by rw [pN]at h; exact h⟩
theorem BA (h:PE X a (tE T B Φ W sa)):PE X (.BoolOp .Or [a] pos) (DJ T B Φ W [sa]):=(pe_one h).pv fun σ H Q ⟨ρ,l,at_,h⟩=>⟨ρ,l,at_,by rw [wu]at h; exact h⟩
theorem At.blR {σ:L2.St}{l:List bf}{H:Hp}{ρ:Env}{b:Bool} (a:At T B H ρ σ l):At T B H ρ σ ((.d (.bl b),.bl b)::l):=⟨a.ok,a.sat.bl.perm List.perm_middle.symm,a.pr⟩
theorem At.blO {σ:L2.St}{l:List bf}{H:Hp}{ρ:Env}{o:O}{v:V}{b:Bool} (a:At T B H ρ σ ((o,v)::l)) (e:qS o=some b):v = .bl b:=IP (ae.perm a.sat List.perm_middle) e
theorem nk {sb:SE} (ha:PE X a (tE T B Φ W sa)) (hb:PE X (.BoolOp .And (b::es) pos) (y6 T B Φ W (sb::ses))):PE X (.BoolOp .And (a::b::es) pos) (y6 T B Φ W (sa::sb::ses)) :=
 (pe_and ha hb).pv fun σ H Q ⟨ρ,l,at_,h⟩=>by
  rw [pN]at h
  ·refine⟨ρ,l,at_,RG.rp (h.rg.bind.mono fun o ρ1 k v H1 a1=>?_)⟩
   obtain⟨t,et,k⟩:=k.bnd
   refine⟨t,a1.blO et,?_⟩
   cases t with
   | true=>rw [if_pos rfl]; exact⟨ρ1,l,a1.drop,RG.rp k⟩
   | false =>
    have k:∀ v H,At T B H ρ1 σ ((.d (.bl false),v)::l)→Q v H:=k
    rw [if_neg Bool.false_ne_true]
    exact k _ _ a1.drop.blR
  all_goals simp
theorem Gx {sb:SE} (ha:PE X a (tE T B Φ W sa)) (hb:PE X (.BoolOp .Or (b::es) pos) (DJ T B Φ W (sb::ses))):PE X (.BoolOp .Or (a::b::es) pos) (DJ T B Φ W (sa::sb::ses)) :=
 (pe_or ha hb).pv fun σ H Q ⟨ρ,l,at_,h⟩=>by
  rw [wu]at h
  ·refine⟨ρ,l,at_,RG.rp (h.rg.bind.mono fun o ρ1 k v H1 a1=>?_)⟩
   obtain⟨t,et,k⟩:=k.bnd
   refine⟨t,a1.blO et,?_⟩
   cases t with
   | false=>rw [if_neg Bool.false_ne_true]; exact⟨ρ1,l,a1.drop,RG.rp k⟩
   | true =>
    have k:∀ v H,At T B H ρ1 σ ((.d (.bl true),v)::l)→Q v H:=k
    rw [if_pos rfl]
    exact k _ _ a1.drop.blR
  all_goals simp
theorem jD (h:PT X a (tT T B Φ W sa)):PW X (.BoolOp .Or [a] pos) (y5 T B Φ W [sa]):=(pw_or1 h).pv fun σ H Q ⟨ρ,l,at_,h⟩=>⟨ρ,l,at_,by
 rw [nh]at h
 refine h.bind.mono fun b ρ1 k H1 a1=>?_
 cases b with
 | false =>
  have k:RG T B W σ l (nh Φ [] ρ1) fun b ρ'=>∀ H',At T B H' ρ' σ l→Q b H':=k
  rw [nh]at k
  exact k H1 a1
 | true=>exact k H1 a1⟩
theorem jT {sb:SE} (ha:PT X a (tT T B Φ W sa)) (hb:PW X (.BoolOp .Or (b::es) pos) (y5 T B Φ W (sb::ses))):PW X (.BoolOp .Or (a::b::es) pos) (y5 T B Φ W (sa::sb::ses)) :=
 (pw_or ha hb).pv fun σ H Q ⟨ρ,l,at_,h⟩=>by
  rw [nh]at h
  refine⟨ρ,l,at_,h.bind.mono fun t ρ1 k H1 a1=>?_⟩
  cases t with
  | false=>rw [if_neg Bool.false_ne_true]; exact⟨ρ1,l,a1,k⟩
  | true=>rw [if_pos rfl]; exact k H1 a1
theorem jE (h:PW X (.BoolOp .Or es pos) (y5 T B Φ W ses)):PT X (.BoolOp .Or es pos) (tT T B Φ W (.bor ses)):=h.pt.pv fun σ H Q ⟨ρ,l,at_,h⟩=>⟨ρ,l,at_,by rw [qV]at h; exact h⟩
theorem nN (h:PE X (.BoolOp .And es pos) (y6 T B Φ W ses)):PE X (.BoolOp .And es pos) (tE T B Φ W (.band ses)):=h.pv fun σ H Q ⟨ρ,l,at_,h⟩=>⟨ρ,l,at_,by rw [ev]at h; exact h⟩
theorem BB (h:PE X (.BoolOp .Or es pos) (DJ T B Φ W ses)):PE X (.BoolOp .Or es pos) (tE T B Φ W (.bor ses)):=h.pv fun σ H Q ⟨ρ,l,at_,h⟩=>⟨ρ,l,at_,by rw [ev]at h; exact h⟩
theorem rh (hc:PT X c (tT T B Φ W sc)) (ha:PE X a (tE T B Φ W sa)) (hb:PE X b (tE T B Φ W sb)):PE X (.IfExp c a b pos) (tE T B Φ W (.ite sc sa sb)) :=
 (pe_ifExp hc ha hb).pv fun σ H Q ⟨ρ,l,at_,h⟩=>by
  rw [ev]at h
  refine⟨ρ,l,at_,h.rg.bind.mono fun t ρ1 k H1 a1=>?_⟩
  cases t with
  | true=>rw [if_pos rfl]; exact⟨ρ1,l,a1,RG.rp k⟩
  | false=>rw [if_neg Bool.false_ne_true]; exact⟨ρ1,l,a1,RG.rp k⟩
def tP (T:Tab) (B:Base) (Φ:cU) (W:WX) (s:SE):TO:=fun σ H Q=>∃ ρ l,At T B H ρ σ l∧RG T B W σ l ((dJ Φ s ρ).bind fun y ρ=>bnd (kx s y ρ) fun _=>.ok y ρ) fun y ρ'=>∀ v H',At T B H' ρ' σ (ak y v++l)→oi σ y v→∀ lo,wC v lo→Q lo H'
theorem bG:PO X none (tP T B Φ W (.lit .non)):=⟨fun pins s σ H Q I ⟨ρ,l,a,h⟩=>by
 have e:dJ Φ (.lit .non) ρ = .ok (.val (.d .non)) ρ:=by
  rw [dJ,ev]
  ·rfl
  all_goals simp
 rw [e]at h
 have h:∀ v H',At T B H' ρ σ (ak (.val (.d .non)) v++l)→oi σ (.val (.d .non)) v→∀ lo,wC v lo→Q lo H':=h
 exact po_none.run pins s σ H Q I (h .non H ⟨a.ok,a.sat.non.perm List.perm_middle.symm,a.pr⟩ trivial none (.inl ⟨rfl,rfl⟩))⟩
def isNon:SE→Bool
 | .lit .non=>true
 | _=>false
theorem Gy {σ:L2.St}{l:List bf}{H:Hp}{ρ:Env}{y:Arg}{v:V}{i:Int} (a:At T B H ρ σ (ak y v++l)) (av:oi σ y v) (e:m8 y ρ=some (.d (.int i))):v = .int i:=by
 cases y with
 | val o =>
  have e:some o=some (.d (.int i)):=e
  injection e with e
  subst e
  exact(ae.perm (m:=(O.d (.int i),v)::(ah ρ σ++l)) a.sat List.perm_middle).read
 | slot j =>
  have av:σ[j]?=some (some v):=av
  exact(ae.perm (a.take e av).sat List.perm_middle).read
theorem dG (hs:isNon se=false) (h:PE X e (tA T B Φ W se)):PO X (some e) (tP T B Φ W se):=⟨fun pins s σ H Q I ⟨ρ,l,a,h1⟩=>by
 refine(po_some h).run pins s σ H Q I ⟨ρ,l,a,h1.bind.mono fun y ρ1 k v H1 a1 av=>?_⟩
 obtain⟨_,ep,k⟩:=k.bnd
 have:∃ i,m8 y ρ1=some (.d (.int i)):=by
  unfold kx at ep
  split at ep
  ·cases hs
  ·split at ep
   ·rename_i i h; exact⟨i,h⟩
   ·cases ep
 obtain⟨i,ei⟩:=this
 have ev':=Gy a1 av ei
 exact⟨i,ev',k v H1 a1 av (some i) (.inr ⟨i,ev',rfl⟩)⟩⟩
theorem fZ (hK:X.K=T.K) {lo hi:Option Expr}{p2:Pos} (ha:PE X a (tA T B Φ W sa)) (hl:PO X lo (tP T B Φ W sb)) (hh:PO X hi (tP T B Φ W sc)):PE X (.Subscript a (.Slice lo hi none p2) pos) (tE T B Φ W (.slc sa sb sc)) :=
 (pe_slice (IK (T:=T) (B:=B) hK) ha hl hh).pv fun σ H Q ⟨ρ,l,at_,h⟩=>by
  rw [ev]at h
  refine⟨ρ,l,at_,h.rg.bind.mono fun α ρ1 k1 v H1 a1 av=>⟨ρ1,ak α v++l,a1,?_⟩⟩
  have k1:=k1.bind
  cases e1:dJ Φ sb ρ1 with
  | bad=>rw [e1]at k1; exact k1.elim
  | exc C p ρ'=>rw [e1]at k1; exact fun d H its a=>k1 d H its a.dropM
  | ok β ρ2 =>
   rw [e1]at k1
   obtain⟨u,eu,k1⟩:=RG.bnd k1
   show RG T B W σ (ak α v++l) (bnd (kx sb β ρ2) fun _=>Res.ok β ρ2) _
   rw [eu]
   intro w H2 a2 aw lo' hlo
   refine⟨ρ2,ak β w++(ak α v++l),a2,?_⟩
   have k2:=k1.bind
   cases e2:dJ Φ sc ρ2 with
   | bad=>rw [e2]at k2; exact k2.elim
   | exc C p ρ'=>rw [e2]at k2; exact fun d H its a=>k2 d H its a.dropM.dropM
   | ok γ ρ3 =>
    rw [e2]at k2
    obtain⟨u2,eu2,k2⟩:=RG.bnd k2
    show RG T B W σ _ (bnd (kx sc γ ρ3) fun _=>Res.ok γ ρ3) _
    rw [eu2]
    intro z H3 a3 az hi' hhi
    exact⟨w,z,hlo,hhi,fY (as:=[α,β,γ]) k2 (a3.perm Aa) ⟨av,aw,az,trivial⟩⟩
end
end PV
namespace PV
open PySem PySem.Spec PyProof.Rows L2
def BC (T:Tab) (B:Base) (r:bA) (vs:List V) (l:List bf) (Q:VK) (E:XK):Prop:=match r with
 | .ok o ios=>∀ u H',ios.length=vs.length→Sat T B H' ((o,u)::(ios.zip vs++l))→Q u H'
 | .exc C p ios=>∀ d H' its,ios.length=vs.length→Sat T B H' (its++(ios.zip vs++l))→tW T H' C p d its→E (.ref (T.cls C)) d H'
 | .bad=>False
def bI (T:Tab) (run:List O→bA):Sp:=fun vs H Q E=>∃ (B:Base) (os:List O) (l:List bf),os.length=vs.length∧Sat T B H (os.zip vs++l)∧BC T B (run os) vs l Q E
section
variable {T:Tab}{B:Base}{Φ:cU}{W:WX}{X:Cx}{e a b c:Expr}{es:List Expr}{se sa sb sc:SE}{ses:List SE}{pos p:Pos}{i:Nat}{x:Str}
theorem rm:∀ {as:List Arg}{ρ ρ1:Env}{C:Nat}{p:List D},dE as ρ≠.exc C p ρ1:=by
 intro as
 induction as with
 | nil=>intro ρ ρ1 C p z; cases z
 | cons a as ih =>
  intro ρ ρ1 C p z
  have z:((aj a ρ).bind fun o ρ=>(dE as ρ).bind fun os ρ=>Res.ok (o::os) ρ) = .exc C p ρ1:=z
  cases ea:aj a ρ with
  | ok o ρ2 =>
   rw [ea]at z
   cases eb:dE as ρ2 with
   | ok os ρ3=>rw [Res.bind_ok,eb]at z; cases z
   | exc C' p' ρ3=>exact ih eb
   | bad=>rw [Res.bind_ok,eb]at z; cases z
  | exc C' p' ρ2 =>
   cases a with
   | val o=>cases ea
   | slot i =>
    have ea:bnd (ax ρ i) (fun o=>Res.ok o (aj.taken o i ρ)) = .exc C' p' ρ2:=ea
    cases q:ax ρ i <;> rw [q]at ea <;> cases ea
  | bad=>rw [ea]at z; cases z
theorem call_of {run:List O→bA}{n:Nat}{as:List Arg}{vs:List V}{σ:L2.St}{l:List bf}{H:Hp}{ρ:Env}{Q:VK} (h:RG T B W σ l (i9 ⟨n,run⟩ as ρ) fun o ρ=>∀ v H,At T B H ρ σ ((o,v)::l)→Q v H)
  (a:At T B H ρ σ (aD as vs++l)) (av:cz σ as vs):bI T run vs H Q (WE W σ):=by
 unfold i9 at h
 have h:=h.bind
 cases e:dE as ρ with
 | bad=>rw [e]at h; exact h.elim
 | exc C p ρ'=>exact(rm e).elim
 | ok os ρ1 =>
  rw [e]at h
  obtain⟨hl,a1⟩:=mM a av e
  refine⟨B,os,ah ρ1 σ++l,hl,a1.sat.perm aG,?_⟩
  have h:RG T B W σ l ((run os).to as ρ1) fun o ρ=>∀ v H,At T B H ρ σ ((o,v)::l)→Q v H:=h
  unfold BC
  cases er:run os with
  | bad=>rw [er]at h; exact h.elim
  | ok r ios =>
   rw [er]at h
   have h:∀ v H,At T B H (b7 as ios ρ1) σ ((r,v)::l)→Q v H:=h
   intro u H' hi s
   refine h u H' (iO (as:=as) (os:=ios) (vs:=vs) hi ⟨a1.ok,s.perm ?_,a1.pr⟩ av)
   have p1:((r,u)::(ios.zip vs++(ah ρ1 σ++l))).Perm ((r,u)::(ah ρ1 σ++(ios.zip vs++l))):=aG.cons _
   refine p1.trans (List.perm_middle.symm.trans ?_)
   exact(List.perm_middle.symm).append_left _
  | exc C p ios =>
   rw [er]at h
   have h:∀ d H its,At T B H (b7 as ios ρ1) σ (its++l)→tW T H C p d its→W (.ref (T.cls C)) d σ H:=h
   intro d H' its hi s ei
   refine h d H' its (iO (as:=as) (os:=ios) (vs:=vs) hi ⟨a1.ok,s.perm ?_,a1.pr⟩ av) ei
   have p1:(its++(ios.zip vs++(ah ρ1 σ++l))).Perm (its++(ah ρ1 σ++(ios.zip vs++l))):=aG.append_left _
   have p2:(its++(ah ρ1 σ++(ios.zip vs++l))).Perm (ah ρ1 σ++(its++(ios.zip vs++l))):=aG
   exact p1.trans (p2.trans (aG.append_left _))
section
variable {k:Nat}{f:Addr}{fd:FuncData}{ps:List Str}{fi n:Nat}{run:List O→bA}
theorem s_call (F:FnOk X.prog X.w X.K X.mg X.base (L2.CX X.prog X.w) k f fd ps (bI T run)) (hΦ:Φ fi=⟨n,run⟩) (hr:Room k X.A) (hg:Gl X x) (hm:X.mg x=some (.ref f)) (hk:PySem.W.keepIn X.K (.ref f)=true) (hb:Binds X.K fd ps []) (tk:Takes X W)
  (ha:PA X (e::es) (sY T B Φ W ses)) (hdb:(x == ("__debug__" : Str))=false) (he:starEach (e::es) X.env=(false,eval e X.env)::starEach es X.env) (hpl:(backTo pos (starEach es X.env)).any (·.1)=false):PE X (.Call (.Name x p) (e::es) [] pos) (tE T B Φ W (.call fi ses)) :=
 (pe_callS (E:=WE W) F hr hg hm hk hb (fun σ=>passAt tk σ) ha hdb he hpl).pv fun σ H Q ⟨ρ,l,at_,h⟩=>by
  rw [ev,hΦ]at h
  exact⟨ρ,l,at_,h.rg.bind.mono fun as ρ1 k1 vs H1 a1 av=>call_of k1 a1 av⟩
end
end
end PV
namespace PV
open PySem PySem.Spec PyProof.Rows L2
section
variable {T:Tab}{B:Base}{Φ:cU}{W:WX}{X:Cx}{e a b c:Expr}{es:List Expr}{se sa sb sc:SE}{ses:List SE}{pos p:Pos}{i:Nat}{x:Str}
theorem BE {k:Nat}{f:List D→Option O}{sh:Bool}{xs:List V}{H:Hp}{Q:VK} (h:dX T B f sh xs H Q) (hk:∀ as r,f as=some r→as.length=k):xs.length=k:=by
 obtain⟨os,l,r,hl,s,e,q⟩:=h
 rw [← hl,← hk _ _ e,List.length_map]
theorem kB {f:List D→Option O}{sh:Bool}{xs:List V}{H:Hp}{Q:VK} (h:dX T B f sh xs H Q) (hk:∀ as r,f as=some r→as.length=1):∃ x,xs = [x]:=by
 have:=BE h hk
 match xs,this with
 | [x],_=>exact⟨x,rfl⟩
theorem Gz {f:List D→Option O}{sh:Bool}{xs:List V}{H:Hp}{Q:VK} (h:dX T B f sh xs H Q) (hk:∀ as r,f as=some r→as.length=2):∃ x y,xs = [x,y]:=by
 have:=BE h hk
 match xs,this with
 | [x,y],_=>exact⟨x,y,rfl⟩
theorem kE {k:Fn} (hk:k≠.min2∧k≠.max2) {as:List D}{r:O} (e:yQ k as=some r):as.length=1:=by
 match as,e with
 | [],e=>cases e
 | [_],_=>rfl
 | [x,y],e =>
  have e:Gh k x y=some r:=e
  cases k <;> first | exact absurd rfl hk.1 | exact absurd rfl hk.2 | cases e
 | _::_::_::_,e=>cases e
theorem lT:∀ {ks:List D}{js:List (List Key)},au ks=some js→js.length=ks.length
 | [],js,e=>by injection e with e; subst e; rfl
 | k::ks,js,e=>by
  unfold au at e
  cases e1:aA k with
  | none=>rw [e1]at e; cases e
  | some kk =>
   cases e2:au ks with
   | none=>rw [e1,e2]at e; cases e
   | some r' =>
    rw [e1,e2]at e
    injection e with e
    subst e
    simp [lT e2]
theorem GA (hK:X.K=T.K):CallR X (.builtin "len") (fun xs H Q=>dX T B (yQ .len) false xs H Q):=by
 intro pins s σ H xs us Q I r h
 obtain⟨y,rfl⟩:=kB h fun as r e=>kE ⟨by decide,by decide⟩ e
 obtain⟨o,l,r0,sa,e,q⟩:=oq h
 have d:=sa.read
 cases ea:o.frz with
 | lst xs =>
  rw [ea]at e
  injection e with e; subst e
  obtain⟨a,vs,rfl,ha,hl,s1⟩:=Sat.kidsL sa ea
  exact call_len_seq pins s σ H _ us Q I r ⟨a,vs,rfl,.inl (by rw [hK]; exact ha),by rw [← hl]; exact q _ _ sa.int⟩
 | tup xs =>
  rw [ea]at e
  injection e with e; subst e
  obtain⟨a,vs,rfl,ha,hl,s1⟩:=Sat.kidsT sa ea
  exact call_len_seq pins s σ H _ us Q I r ⟨a,vs,rfl,.inr (by rw [hK]; exact ha),by rw [← hl]; exact q _ _ sa.int⟩
 | str z =>
  rw [ea]at e d
  have d:y = .str z:=d
  subst d
  have e:(if z.length≤sizeLine then some (O.d (.int z.length))else none)=some r0:=e
  split at e
  ·rename_i hz
   injection e with e; subst e
   exact call_len_str pins s σ H _ us Q I r ⟨z,rfl,hz,q _ _ sa.int⟩
  ·cases e
 | dic ks ds =>
  rw [ea]at e
  injection e with e; subst e
  obtain⟨a,vs,rfl,ha,hl,s1⟩:=Sat.kidsD sa ea
  have fin:=q _ _ sa.int
  obtain⟨u,rfl,rx⟩:=vals1 r
  cases rx
  rcases ha with⟨js,q1,rd,q3⟩ | ⟨js,q1,rd,q3⟩
  ·have hz:(js.zip vs).length=ks.length:=by rw [List.length_zip,q3,Nat.min_self,← q3,gN q1]
   refine d_len I rd fun t s' I'=>?_
   rw [hz]
   exact⟨.int (ks.length:Nat),H,I',⟨t,rfl⟩,fin⟩
  ·have hz:(js.zip vs).length=ks.length:=by rw [List.length_zip,q3,Nat.min_self,← q3,lT q1]
   obtain⟨z,hd,ys,rel,dd⟩:=dt_rd I.hok rd
   have hy:(js.zip vs).length=ys.length:=Paired.length rel
   refine call_len_dictH hd dd (by rw [← hy]; rw [sizeLine_eq]at z; omega) ?_
   rw [← hy,hz]
   exact⟨.int (ks.length:Nat),H,I.tok _,⟨_,rfl⟩,fin⟩
 | _=>rw [ea]at e; cases e
theorem mP:∀ {ks:List D}{js:List Key}{l:List bf}{H:Hp}{hs:List Addr},keysOf ks=some js→ae T B H hs l→ae T B H hs ((ks.map O.d).zip (js.map kV)++l)
 | [],js,l,H,hs,e,s=>by
  have e:some ([]:List Key)=some js:=e
  cases e
  exact s
 | k::ks,js,l,H,hs,e,s=>by
  unfold keysOf at e
  cases e1:keyOf k with
  | none=>rw [e1]at e; cases e
  | some kk =>
   cases e2:keysOf ks with
   | none=>rw [e1,e2]at e; cases e
   | some r' =>
    rw [e1,e2]at e
    injection e with e
    subst e
    refine ae.lit (l:=(ks.map O.d).zip (r'.map kV)++l) (mP e2 s) fun own h=>?_
    cases k with
    | int i=>injection e1 with e1; subst e1; rfl
    | str i=>injection e1 with e1; subst e1; rfl
    | _=>cases e1
theorem DL (hK:X.K=T.K) (hc:X.calm=true):CallR X (.type "list") (fun xs H Q=>dX T B (yQ .list) true xs H Q):=by
 intro pins s σ H xs us Q I r h
 obtain⟨y,rfl⟩:=kB h fun as r e=>kE ⟨by decide,by decide⟩ e
 obtain⟨o,l,r0,sa,e,q⟩:=oq h
 rw [if_pos rfl]at q
 cases ea:o.frz with
 | lst xs =>
  rw [ea]at e
  injection e with e; subst e
  obtain⟨a,vs,rfl,ha,hl,s1⟩:=Sat.kidsL sa ea
  exact call_list_of pins s σ H _ us Q I r ⟨a,vs,rfl,.inl (by rw [hK]; exact ha),fun p hp=>q _ _ (Sat.newL s1 (by simp [hl]) hp)⟩
 | tup xs =>
  rw [ea]at e
  injection e with e; subst e
  obtain⟨a,vs,rfl,ha,hl,s1⟩:=Sat.kidsT sa ea
  exact call_list_of pins s σ H _ us Q I r ⟨a,vs,rfl,.inr (by rw [hK]; exact ha),fun p hp=>q _ _ (Sat.newL s1 (by simp [hl]) hp)⟩
 | dic ks ds =>
  rw [ea]at e
  have e:(if(ks.all fun k=>(keyOf k).isSome)=true then some (O.lst (ks.map .d))else none)=some r0:=e
  split at e
  ·rename_i hk
   injection e with e; subst e
   obtain⟨a,vs,rfl,ha,hl,s1⟩:=Sat.kidsD sa ea
   have s2:=ae.dropL s1
   rcases ha with⟨js,q1,rd,q3⟩ | ⟨js,q1,rd,q3⟩
   ·refine call_listD hc pins s σ H _ us Q I r ⟨a,js.zip vs,rfl,rd,fun p hp=>q _ _ ?_⟩
    have e2:((js.zip vs).map fun kv=>kV kv.1)=js.map kV:=by
     rw [show(fun kv:Key×V=>kV kv.1)=kV∘Prod.fst from rfl,← List.map_map,List.map_fst_zip (by omega)]
    rw [e2]
    exact Sat.newL (mP q1 s2) (by simp [gN q1]) hp
   ·cases ks with
    | nil =>
     injection q1 with q1
     subst q1
     obtain⟨u,rfl,rx⟩:=vals1 r
     cases rx
     obtain⟨dd,hd⟩:=iG I rd
     obtain⟨ep,hat⟩:=dd.dictAt
     refine PySem.W.kdl_call (PySem.W.kdl_dict (knd:=mixKind X.prog X.w) (kvs:=[]) (ep:=ep) hd) (I.ok.hd hc) hat (Nat.zero_le _) fun h' tk acc c' hk hD hacc=>?_
     have ha:acc.toList = []:=by
      have:=hacc.1
      simpa using this
     refine⟨.ref s.heap.objs.size,upd H s.heap.objs.size (.lst []),I.laid (t':=tk) hk (Nat.le_refl _) (show ObjOk X.prog X.w _ _ _ (.lst [])from⟨Nat.zero_le _,[],c',.nil,by rw [← ha,Array.toArray_toList]; exact hD⟩),rfl,q _ _ ?_⟩
     exact Sat.newL (os:=[]) (vs:=[]) s2 rfl (I.hok.fresh (Nat.le_refl _))
    | cons j ks =>
     have h1:=eL q1 j List.mem_cons_self
     have h2:=List.all_eq_true.mp hk j List.mem_cons_self
     obtain⟨jj,ej⟩:=Option.isSome_iff_exists.mp h2
     rw [cV ej]at h1; cases h1
  ·cases e
 | _=>rw [ea]at e; cases e
theorem wG {prog:Program}{w:World}{A:Around}{E:Value→Shared→Prop}{s:Shared}{T:String}{r d:Addr}{n:Nat}{P:Nat→Value→Prop}{OK:Heap→Prop}{Q:List Value→Shared→Prop} (K:PySem.W.KdlSrc prog w T r d n P OK) (hh:A.handled=none) (hok:OK s.heap) (hn:n≤sizeLine)
  (hQ:∀ (h':Heap) (tk:Nat) (acc:Array Value),(∀ b o,s.heap.get? b=some o→h'.get? b=some o)→ItemsOf P acc n→Q acc.toList {s with heap:=h',toks:=tk}):wpAny (model prog w) A (collect (.ref r)) Q E s:=by
 unfold collect
 refine wpAny_bind (wpAny_runValue (codeAny_builtin PySem.F.entry_proto_collect ?_))
 rw [Around.under_plainId PySem.F.plain_proto_collect _]
 show wpAny _ A.in1 (newList [] >>= fun l=>again (.builtin "list.__iadd__" ⟨[l,.ref r],[]⟩)) _ _ s
 refine wpAny_bind (wpAny_newObj_type ?_)
 refine wpAny_pure ⟨plainId_quiet PySem.F.plain_list_iadd _,codeAny_builtin PySem.F.entry_list_iadd ?_⟩
 rw [Around.under_plainId PySem.F.plain_list_iadd _]
 show wpAny _ A.in1 (Builtin.List.listExtendWith (.ref s.heap.objs.size) (.ref r) (.ref s.heap.objs.size)) _ _ _
 have hS:(s.heap.push {cls:=.type "list",data:=.seq ([]:List Value).toArray}).get? s.heap.objs.size=some {cls:=.type "list",data:=.seq #[] 0}:=Heap.get?_push_size _ rfl
 have lt:=K.there _ hok
 refine wpAny_mono (PySem.W.kdl_extend (A:=A) (R:=fun rr s'=>rr = .ok (.ret (.ref s.heap.objs.size))∧∃ (h':Heap) (tk:Nat) (acc:Array Value) (c':Nat),s'={s with heap:=h',toks:=tk} ∧
   (∀ b o,s.heap.get? b=some o→h'.get? b=some o)∧h'.get? s.heap.objs.size=some {cls:=.type "list",dict:=none,data:=.seq acc c',slots:=#[]}∧ItemsOf P acc n)
  (s:={s with heap:=s.heap.push {cls:=.type "list",data:=.seq ([]:List Value).toArray}}) K hh (K.keep _ _ hok fun b _ o e=>Heap.get?_push_of_some _ e) s.heap.objs.size (Nat.ne_of_gt lt.1) (Nat.ne_of_gt lt.2) (.ref s.heap.objs.size) 0 hS
  (fun h' tk acc c' hk e hi=>⟨rfl,h',tk,acc,c',rfl,fun b o q=>hk b o (Nat.ne_of_lt (Heap.lt_size q)) (Heap.get?_push_of_some _ q),e,hi⟩) hn) (fun fin s' h=>?_) (fun e s' h=>?_)
 ·cases fin with
  | done f =>
   obtain⟨e,h',tk,acc,c',rfl,hk,hS',hi⟩:=h
   cases e
   show wpAny _ A (load s.heap.objs.size >>= _) _ _ _
   exact wpAny_bind (wpAny_load hS' (wpAny_pure (hQ h' tk acc hk hi)))
  | again c' =>
   refine⟨h.1,codeAny_mono h.2 fun rr s'' hr'=>?_⟩
   obtain⟨rfl,h',tk,acc,c',rfl,hk,hS',hi⟩:=hr'
   show wpAny _ A (load s.heap.objs.size >>= _) _ _ _
   exact wpAny_bind (wpAny_load hS' (wpAny_pure (hQ h' tk acc hk hi)))
 ·exact absurd h.1 (by simp)
theorem xZ {prog:Program}{w:World}{A:Around}{E:Value→Shared→Prop}{s:Shared}{r d:Addr}{n:Nat}{P:Nat→Value→Prop}{OK:Heap→Prop}{Q₁:Value→Shared→Prop} (K:PySem.W.KdlSrc prog w "dict" r d n P OK) (hh:A.handled=none) (hok:OK s.heap) (hn:n≤sizeLine)
  (h:∀ (h':Heap) (tk:Nat) (acc:Array Value),(∀ b o,s.heap.get? b=some o→h'.get? b=some o)→ItemsOf P acc n →
   Q₁ (.ref h'.objs.size) {s with heap:=h'.push {cls:=.type "tuple",data:=.seq acc},toks:=tk}) :
  codeAny (model prog w) A (.call (.builtin "tuple.__new__") ⟨[.type "tuple",.ref r],[]⟩) (wants Q₁ E) s:=by
 refine codeAny_of_tree ?_
 show wpAny _ A.in1 (do checkBuiltinCall "tuple.__new__" ⟨[.type "tuple",.ref r],[]⟩; again (.builtin "tuple.__new__" ⟨[.type "tuple",.ref r],[]⟩)) _ _ s
 refine wpAny_bind (wpAny_of_eq (PySem.F.newCall_tuple_1 _) (wpAny_pure ⟨plainId_quiet PySem.F.plain_tuple_new _,codeAny_builtin PySem.F.entry_tuple_new ?_⟩))
 rw [Around.under_plainId PySem.F.plain_tuple_new _]
 have hsub:=sub_tuple_self
 have hinit:=init_tuple_lookup
 have hmh:=madeHere_tuple
 have hTI:s.TypeIs (.ref r) "dict" := K.type s hok
 have hh1:A.in1.handled=none:=hh
 wp_walk using wpAny_typeOf hTI,wG (A:=A.in1) K hh1 hok hn
 intro h' tk acc hk hacc
 show wpAny _ _ (Builtin.Tuple.tupleExact acc.toList.toArray >>= fun v=>ret v) _ _ _
 unfold Builtin.Tuple.tupleExact
 refine wpAny_bind (wpAny_newObj_type ?_ (by show acc.toList.toArray.size≤sizeLine; simp only [Array.toArray_toList]; rw [hacc.1]; exact hn))
 refine wpAny_pure ?_
 have e:acc.toList.toArray=acc:=by simp
 rw [e]
 exact h h' tk acc hk hacc
theorem y8 {prog:Program}{w:World}{A:Around}{E:Value→Shared→Prop}{s:Shared}{r d:Addr}{n:Nat}{P:Nat→Value→Prop}{OK:Heap→Prop}{Q:Value→Shared→Prop} (K:PySem.W.KdlSrc prog w "dict" r d n P OK) (hh:A.handled=none) (hok:OK s.heap) (hn:n≤sizeLine)
  (hQ:∀ (h':Heap) (tk:Nat) (acc:Array Value),(∀ b o,s.heap.get? b=some o→h'.get? b=some o)→ItemsOf P acc n →
   Q (.ref h'.objs.size) {s with heap:=h'.push {cls:=.type "tuple",data:=.seq acc},toks:=tk}) :
  wpAny (model prog w) A (call (.type "tuple") [.ref r]) Q E s:=by
 refine callType_codes (Q₁:=fun obj s₁=>s₁.TypeIs obj "tuple" ∧ Q obj s₁) PySem.F.called_tuple (PySem.F.typeCall_tuple_1 _) PySem.F.entry_object_init
  (xZ (A:=A.in1) K hh hok hn fun h' tk acc hk hacc=>⟨⟨_,Heap.get?_push_size _ rfl,rfl⟩,hQ h' tk acc hk hacc⟩) fun obj s₁ h₁=>?_
 exact⟨h₁.1,PySem.F.args_object_init_2 obj _,object_init_meets PySem.F.called_tuple.init.lookup PySem.F.called_tuple.made (by decide) prog w A.in1 _ s₁ ⟨h₁.1,rfl,h₁.2⟩⟩
theorem wH (hcalm:X.calm=true):CallR X (.type "tuple") (fun xs H Q=>∃ (a:Addr) (kvs:List (Key×V)),xs = [.ref a]∧Rd H a (.dK kvs)∧∀ p,H p=none→Q (.ref p) (upd H p (.tup (kvs.map fun kv=>kV kv.1)))):=by
 intro pins s σ H xs us Q I r q
 obtain⟨a,kvs,ex,hd,q⟩:=q
 subst ex
 obtain⟨u,eu,rx⟩:=vals1 r
 subst eu
 cases rx
 obtain⟨z,lo,vs,rel,dd⟩:=dk_rd I.hok hd
 obtain⟨ep,hat⟩:=dd.dictAt
 have ek:(kvs.map fun kv=>kV kv.1)=vs.map fun p=>kV p.1:=by
  have e:=congrArg (List.map kV) rel.keys
  rw [List.map_map,List.map_map]at e
  exact e
 refine y8 (PySem.W.kdl_dict (knd:=mixKind X.prog X.w) (kvs:=vs) (ep:=ep) lo) (I.ok.hd hcalm) hat (by rw [← rel.length]; exact z) fun h' tk acc hk hacc=>?_
 have hv:Vals (vs.map fun p=>kV p.1) acc.toList:=keys_at (by rw [Array.length_toList]; exact hacc.1) fun j v e=>hacc.2 j v (by rw [← Array.getElem?_toList]; exact e)
 have I2:Inv X pins σ H {s with heap:=h',toks:=tk}:=I.kept hk
 refine⟨.ref h'.objs.size,upd H h'.objs.size (.tup (kvs.map fun kv=>kV kv.1)),I2.laid (t':=tk) (fun c o e=>Heap.get?_push_of_some _ e) (Nat.le_refl _) (show ObjOk X.prog X.w _ _ _ (.tup (kvs.map fun kv=>kV kv.1))from⟨by rw [List.length_map]; exact z,acc.toList,by rw [ek]; exact hv,?_⟩),rfl,q _ (I2.hok.fresh (Nat.le_refl _))⟩
 rw [Array.toArray_toList]; exact IsTup.new _ _
theorem BF (hK:X.K=T.K) (hc:X.calm=true):CallR X (.type "tuple") (fun xs H Q=>dX T B (yQ .tuple) true xs H Q):=by
 intro pins s σ H xs us Q I r h
 obtain⟨y,rfl⟩:=kB h fun as r e=>kE ⟨by decide,by decide⟩ e
 obtain⟨o,l,r0,sa,e,q⟩:=oq h
 rw [if_pos rfl]at q
 cases ea:o.frz with
 | lst xs =>
  rw [ea]at e
  injection e with e; subst e
  obtain⟨a,vs,rfl,ha,hl,s1⟩:=Sat.kidsL sa ea
  exact call_tuple_of pins s σ H _ us Q I r ⟨a,vs,rfl,.inl ⟨by rw [hK]; exact ha,fun p hp=>q _ _ (Sat.newTd s1 hl hp)⟩⟩
 | tup xs =>
  rw [ea]at e
  injection e with e; subst e
  have s2:=Sat.dupT sa ea
  obtain⟨a,vs,rfl,ha,hl,s1⟩:=Sat.kidsT sa ea
  exact call_tuple_of pins s σ H _ us Q I r ⟨a,vs,rfl,.inr ⟨by rw [hK]; exact ha,q _ _ s2⟩⟩
 | dic ks ds =>
  rw [ea]at e
  have e:(if(ks.all fun k=>(keyOf k).isSome)=true then some (O.d (.tup ks))else none)=some r0:=e
  split at e
  ·rename_i hk
   injection e with e; subst e
   obtain⟨a,vs,rfl,ha,hl,s1⟩:=Sat.kidsD sa ea
   have s2:=ae.dropL s1
   rcases ha with⟨js,q1,rd,q3⟩ | ⟨js,q1,rd,q3⟩
   ·refine wH hc pins s σ H _ us Q I r ⟨a,js.zip vs,rfl,rd,fun p hp=>q _ _ ?_⟩
    have e2:((js.zip vs).map fun kv=>kV kv.1)=js.map kV:=by
     rw [show(fun kv:Key×V=>kV kv.1)=kV∘Prod.fst from rfl,← List.map_map,List.map_fst_zip (by omega)]
    rw [e2]
    exact Sat.newTd (mP q1 s2) (by simp [gN q1]) hp
   ·cases ks with
    | nil =>
     injection q1 with q1
     subst q1
     obtain⟨u,rfl,rx⟩:=vals1 r
     cases rx
     obtain⟨dd,hd⟩:=iG I rd
     obtain⟨ep,hat⟩:=dd.dictAt
     refine y8 (PySem.W.kdl_dict (knd:=mixKind X.prog X.w) (kvs:=[]) (ep:=ep) hd) (I.ok.hd hc) hat (Nat.zero_le _) fun h' tk acc hk hacc=>?_
     have ha:acc.toList = []:=by
      have hz:=hacc.1
      exact List.eq_nil_of_length_eq_zero (by rw [Array.length_toList]; exact hz)
     have I2:Inv X pins σ H {s with heap:=h',toks:=tk}:=I.kept hk
     refine⟨.ref h'.objs.size,upd H h'.objs.size (.tup []),I2.laid (t':=tk) (fun c o e=>Heap.get?_push_of_some _ e) (Nat.le_refl _) (show ObjOk X.prog X.w _ _ _ (.tup [])from⟨Nat.zero_le _,[],.nil,by rw [← ha,Array.toArray_toList]; exact IsTup.new _ _⟩),rfl,q _ _ ?_⟩
     exact Sat.newTd (xs:=[]) (vs:=[]) s2 rfl (I2.hok.fresh (Nat.le_refl _))
    | cons j ks =>
     have h1:=eL q1 j List.mem_cons_self
     have h2:=List.all_eq_true.mp hk j List.mem_cons_self
     obtain⟨jj,ej⟩:=Option.isSome_iff_exists.mp h2
     rw [cV ej]at h1; cases h1
  ·cases e
 | _=>rw [ea]at e; cases e
theorem GB:CallR X (.builtin "abs") (fun xs H Q=>dX T B (yQ .abs) false xs H Q):=by
 intro pins s σ H xs us Q I r h
 obtain⟨y,rfl⟩:=kB h fun as r e=>kE ⟨by decide,by decide⟩ e
 obtain⟨o,l,r0,sa,e,q⟩:=oq h
 have d:=sa.read
 cases ea:o.frz with
 | int i =>
  rw [ea]at e d
  have d:y = .int i:=d
  subst d
  injection e with e; subst e
  exact call_abs pins s σ H _ us Q I r ⟨i,rfl,q _ _ sa.int⟩
 | _=>rw [ea]at e; cases e
theorem GC:CallR X (.type "int") (fun xs H Q=>dX T B (yQ .int) false xs H Q):=by
 intro pins s σ H xs us Q I r h
 obtain⟨y,rfl⟩:=kB h fun as r e=>kE ⟨by decide,by decide⟩ e
 obtain⟨o,l,r0,sa,e,q⟩:=oq h
 have d:=sa.read
 cases ea:o.frz with
 | int i =>
  rw [ea]at e d
  have d:y = .int i:=d
  subst d
  injection e with e; subst e
  exact call_int1 pins s σ H _ us Q I r (.inl ⟨i,rfl,q _ _ sa.int⟩)
 | bl k =>
  rw [ea]at e d
  have d:y = .bl k:=d
  subst d
  injection e with e; subst e
  exact call_int1 pins s σ H _ us Q I r (.inr ⟨k,rfl,q _ _ sa.int⟩)
 | _=>rw [ea]at e; cases e
theorem DM {k:Fn} (hk:k = .min2∨k = .max2) {as:List D}{r:O} (e:yQ k as=some r):as.length=2:=by
 match as,e with
 | [],e=>cases e
 | [x],e =>
  have e:iw k x=some r:=e
  rcases hk with rfl | rfl <;> cases e
 | [_,_],_=>rfl
 | _::_::_::_,e=>cases e
theorem Fj (hc:X.calm=true) {k:Fn} (hk:k = .min2∨k = .max2):CallR X (.builtin (match k with | .min2 => "min" | _ => "max")) (fun xs H Q=>dX T B (yQ k) false xs H Q):=by
 intro pins s σ H xs us Q I r h
 obtain⟨y,z,rfl⟩:=Gz h fun as r e=>DM hk e
 obtain⟨o,p,l,r0,sa,e,q⟩:=Bj h
 have d1:=sa.read
 have d2:=sa.read2
 cases ea:o.frz with
 | int i =>
  rw [ea]at e d1
  have d1:y = .int i:=d1
  subst d1
  cases eb:p.frz with
  | int j =>
   rw [eb]at e d2
   have d2:z = .int j:=d2
   subst d2
   rcases hk with rfl | rfl
   ·injection e with e; subst e
    exact call_min2 hc pins s σ H _ us Q I r ⟨i,j,rfl,q _ _ sa.int⟩
   ·injection e with e; subst e
    exact call_max2 hc pins s σ H _ us Q I r ⟨i,j,rfl,q _ _ sa.int⟩
  | _=>rw [eb]at e; rcases hk with rfl | rfl <;> cases e
 | _=>rw [ea]at e; rcases hk with rfl | rfl <;> cases e
theorem nO {own:Addr→Prop}{h:Hp}:∀ {xs:List D}{bs:List Bool}{vs:List V},dU xs=some bs→jB T own h xs vs→vs=bs.map V.bl
 | [],bs,vs,e,d=>by
  have d:vs = []:=d
  injection e with e
  subst e d; rfl
 | x::xs,bs,vs,e,d=>by
  obtain⟨v,r,rfl,d1,d2⟩:=d
  cases x with
  | bl b =>
   have e:(dU xs).map (b :: ·)=some bs:=e
   obtain⟨r',e1,e2⟩:=Option.map_eq_some_iff.mp e
   subst e2
   have d1:v = .bl b:=d1
   rw [d1,nO e1 d2]; rfl
  | _=>cases e
theorem DN (hK:X.K=T.K) (hc:X.calm=true):CallR X (.builtin "all") (fun xs H Q=>dX T B (yQ .all) false xs H Q):=by
 intro pins s σ H xs us Q I r h
 obtain⟨y,rfl⟩:=kB h fun as r e=>kE ⟨by decide,by decide⟩ e
 obtain⟨o,l,r0,sa,e,q⟩:=oq h
 have d:=sa.read
 cases ea:o.frz with
 | lst xs =>
  rw [ea]at e d
  have e:(dU xs).map (fun bs=>O.d (.bl (bs.all id)))=some r0:=e
  obtain⟨bs,e1,e2⟩:=Option.map_eq_some_iff.mp e
  subst e2
  obtain⟨a,vs,rfl,ha,dl⟩:=wx sa d
  have:=nO e1 dl
  subst this
  exact cr_all hc pins s σ H _ us Q I r ⟨a,bs,rfl,by rw [hK]; exact ha,q _ _ sa.bl⟩
 | _=>rw [ea]at e; cases e
theorem DO (hK:X.K=T.K) (hc:X.calm=true):CallR X (.builtin "any") (fun xs H Q=>dX T B (yQ .any) false xs H Q):=by
 intro pins s σ H xs us Q I r h
 obtain⟨y,rfl⟩:=kB h fun as r e=>kE ⟨by decide,by decide⟩ e
 obtain⟨o,l,r0,sa,e,q⟩:=oq h
 have d:=sa.read
 cases ea:o.frz with
 | lst xs =>
  rw [ea]at e d
  have e:(dU xs).map (fun bs=>O.d (.bl (bs.any id)))=some r0:=e
  obtain⟨bs,e1,e2⟩:=Option.map_eq_some_iff.mp e
  subst e2
  obtain⟨a,vs,rfl,ha,dl⟩:=wx sa d
  have:=nO e1 dl
  subst this
  exact cr_any hc pins s σ H _ us Q I r ⟨a,bs,rfl,by rw [hK]; exact ha,q _ _ sa.bl⟩
 | _=>rw [ea]at e; cases e
def fnName:Fn→Str
 | .len => "len" | .list => "list" | .tuple => "tuple" | .abs => "abs" | .int => "int" | .min2 => "min" | .max2 => "max" | .any => "any" | .all => "all" | _ => ""
theorem gQ {k:Fn} (hK:X.K=T.K) (hc:X.calm=true) (hn:x=fnName k) (hx:(x == ("" : Str))=false) (hg:Gl X x) (hm:X.mg x=none) (ha:PA X (e::es) (sY T B Φ W ses))
  (he:starEach (e::es) X.env=(false,eval e X.env)::starEach es X.env) (hpl:(backTo pos (starEach es X.env)).any (·.1)=false):PE X (.Call (.Name x p) (e::es) [] pos) (tE T B Φ W (.fn k ses)):=by
 have go:∀ {r:List V→Hp→VK→Prop},r=(fun xs H Q=>dX T B (yQ k) (Ba k) xs H Q)→PE X (.Call (.Name x p) (e::es) [] pos) (tCB r (sY T B Φ W ses))→PE X (.Call (.Name x p) (e::es) [] pos) (tE T B Φ W (.fn k ses)):=by
  intro r er h
  subst er
  refine h.pv fun σ H Q ⟨ρ,l,at_,h⟩=>?_
  rw [ev]at h
  exact⟨ρ,l,at_,h.rg.bind.mono fun as ρ1 k1 vs H1 a1 av=>fY k1 a1 av⟩
 subst hn
 cases k with
 | len=>exact go rfl (pe_callB (GA hK) hg hm rfl ha (by decide) (by decide) he hpl)
 | list=>exact go rfl (pe_callTy (DL hK hc) hg hm rfl ha (by decide) (by decide) he hpl)
 | tuple=>exact go rfl (pe_callTy (BF hK hc) hg hm rfl ha (by decide) (by decide) he hpl)
 | abs=>exact go rfl (pe_callB GB hg hm rfl ha (by decide) (by decide) he hpl)
 | int=>exact go rfl (pe_callTy GC hg hm rfl ha (by decide) (by decide) he hpl)
 | min2=>exact go rfl (pe_callB (Fj hc (.inl rfl)) hg hm rfl ha (by decide) (by decide) he hpl)
 | max2=>exact go rfl (pe_callB (Fj hc (.inr rfl)) hg hm rfl ha (by decide) (by decide) he hpl)
 | any=>exact go rfl (pe_callB (DO hK hc) hg hm rfl ha (by decide) (by decide) he hpl)
 | all=>exact go rfl (pe_callB (DN hK hc) hg hm rfl ha (by decide) (by decide) he hpl)
 | _=>exact absurd hx (by decide)
end
end PV
namespace PV
open PySem PySem.Spec PyProof.Rows L2
section
variable {T:Tab}{B:Base}{Φ:cU}{W:WX}{X:Cx}{H H':Hp}{hs:List Addr}{l m:List bf}{o y:O}{v w:V}{a:Addr}
def DP (h:Hp) (a:Addr) (k:D) (w:V):Prop:=(∃ kvs kk,h a=some (.dK kvs)∧keyOf k=some kk∧valV kvs kk=some w)∨∃ kvs kk,h a=some (.dT kvs)∧aA k=some kk∧valV kvs kk=some w
def Stays (hs:List Addr) (H H':Hp):Prop:=(∀ b∈hs,H' b=H b)∧∀ b xs,H b=some (.tup xs)→H' b=some (.tup xs)
def jF (T:Tab) (h:Hp) (v:V) (k:D) (w:V):Prop:=∃ a,v = .ref a∧((∃ vs i,(h a=some (.lst vs)∨h a=some (.tup vs))∧k = .int i∧atI vs i=some w)∨DP h a k w∨∃ C dx fs f,h a=some (.ins (T.cls C) dx fs)∧k = .exc C [.str f,.non]∧fs.lookup f=some w)
def f6 (T:Tab) (h:Hp):V→List D→V→Prop
 | v,[],x=>x=v
 | v,k::ks,x=>∃ w,jF T h v k w∧f6 T h w ks x
theorem jF.inj {h:Hp}{v w w':V}{k:D} (a:jF T h v k w) (b:jF T h v k w'):w=w':=by
 obtain⟨p,rfl,a⟩:=a
 obtain⟨q,e,b⟩:=b
 injection e with e
 subst e
 rcases a with⟨vs,i,h1 | h1,rfl,h2⟩ | (⟨kvs,kk,h1,h2,h3⟩ | ⟨kvs,kk,h1,h2,h3⟩) | ⟨C,dx,fs,f,h1,h2,h3⟩ <;>
  rcases b with⟨vs',i',g1 | g1,g0,g2⟩ | (⟨kvs',kk',g1,g2,g3⟩ | ⟨kvs',kk',g1,g2,g3⟩) | ⟨C',dx',fs',f',g1,g2,g3⟩ <;> rw [h1]at g1 <;> first | (cases g1; done) | skip
 ·cases g1; cases g0; rw [h2]at g2; exact Option.some.inj g2
 ·cases g1; cases g0; rw [h2]at g2; exact Option.some.inj g2
 ·cases g1; rw [h2]at g2; cases g2; rw [h3]at g3; exact Option.some.inj g3
 ·cases g1; rw [h2]at g2; cases g2; rw [h3]at g3; exact Option.some.inj g3
 ·injection g1 with g1; injection g1 with g4 g5 g6; subst g6; rw [h2]at g2; injection g2 with g7 g8; injection g8 with g8 _; injection g8 with g8; subst g8; rw [h3]at g3; exact Option.some.inj g3
theorem f6.inj {h:Hp}:∀ {ks:List D}{v x x':V},f6 T h v ks x→f6 T h v ks x'→x=x'
 | [],v,x,x',a,b=>by
  have a:x=v:=a
  have b:x'=v:=b
  rw [a,b]
 | k::ks,v,x,x',a,b=>by
  obtain⟨w,a1,a2⟩:=a
  obtain⟨w',b1,b2⟩:=b
  rw [a1.inj b1]at a2
  exact a2.inj b2
theorem f6.unsnoc {h:Hp}{k:D}:∀ {ks:List D}{v w:V},f6 T h v (ks++[k]) w→∃ x,f6 T h v ks x∧jF T h x k w
 | [],v,w,a=>by
  obtain⟨u,a1,a2⟩:=a
  have a2:w=u:=a2
  subst a2
  exact⟨v,rfl,a1⟩
 | j::ks,v,w,a=>by
  obtain⟨u,a1,a2⟩:=a
  obtain⟨x,b1,b2⟩:=f6.unsnoc a2
  exact⟨x,⟨u,a1,b1⟩,b2⟩
theorem y9 {k:D}{kk:Key} (ek:keyOf k=some kk):∀ {ks:List D}{js:List Key}{ws:List V}{n:Nat},keysOf ks=some js→js.length=ws.length→dM k ks=some n→valV (js.zip ws) kk=ws[n]?
 | [],js,ws,n,e,hl,p=>by cases p
 | j::ks,js,ws,n,e,hl,p=>by
  unfold keysOf at e
  cases e1:keyOf j with
  | none=>rw [e1]at e; cases e
  | some jj =>
   cases e2:keysOf ks with
   | none=>rw [e1,e2]at e; cases e
   | some r' =>
    rw [e1,e2]at e
    injection e with e
    subst e
    match ws,hl with
    | w::r,hl =>
     unfold dM at p
     by_cases hc:jj=kk
     ·subst hc
      rw [if_pos ⟨by rw [e1,ek],by rw [cV e1,cV ek]⟩]at p
      injection p with p
      subst p
      exact valV_pos rfl
     ·rw [if_neg (fun z=>hc (by have:=z.1; rw [e1,ek]at this; exact Option.some.inj this))]at p
      obtain⟨n',p1,p2⟩:=Option.map_eq_some_iff.mp p
      subst p2
      rw [List.zip_cons_cons,valV_neg hc,y9 ek e2 (by simpa using hl) p1]
      simp
theorem za {k:D}{kk:List Key} (ek:aA k=some kk):∀ {ks:List D}{js:List (List Key)}{ws:List V}{n:Nat},au ks=some js→js.length=ws.length→dM k ks=some n→valV (js.zip ws) kk=ws[n]?
 | [],js,ws,n,e,hl,p=>by cases p
 | j::ks,js,ws,n,e,hl,p=>by
  unfold au at e
  cases e1:aA j with
  | none=>rw [e1]at e; cases e
  | some jj =>
   cases e2:au ks with
   | none=>rw [e1,e2]at e; cases e
   | some r' =>
    rw [e1,e2]at e
    injection e with e
    subst e
    match ws,hl with
    | w::r,hl =>
     unfold dM at p
     by_cases hc:jj=kk
     ·subst hc
      rw [if_pos ⟨by rw [ij e1,ij ek],by rw [e1,ek]⟩]at p
      injection p with p
      subst p
      exact valV_pos rfl
     ·rw [if_neg (fun z=>hc (by have:=z.2; rw [e1,ek]at this; exact Option.some.inj this))]at p
      obtain⟨n',p1,p2⟩:=Option.map_eq_some_iff.mp p
      subst p2
      rw [List.zip_cons_cons,valV_neg hc,za ek e2 (by simpa using hl) p1]
      simp
theorem iR {p:bf}:∀ {l:List bf}{j:Nat},l[j]?=some p→l.Perm (p::l.eraseIdx j)
 | [],j,e=>by simp at e
 | q::l,0,e=>by
  simp at e
  subst e
  exact .refl _
 | q::l,j+1,e=>((iR (l:=l) (j:=j) (by simpa using e)).cons q).trans (.swap _ _ _)
theorem mQ {os:List O}{vs:List V}{j:Nat}{y:O}{w:V} (e1:os[j]?=some y) (e2:vs[j]?=some w):(os.zip vs).Perm ((y,w)::(os.zip vs).eraseIdx j)∧∀ y',((y',w)::(os.zip vs).eraseIdx j).Perm ((os.set j y').zip vs):=by
 have e:(os.zip vs)[j]?=some (y,w):=by rw [List.getElem?_zip_eq_some]; exact⟨e1,e2⟩
 obtain⟨hj,hv⟩:=List.getElem?_eq_some_iff.mp e
 obtain⟨hj1,_⟩:=List.getElem?_eq_some_iff.mp e1
 obtain⟨hj2,hv2⟩:=List.getElem?_eq_some_iff.mp e2
 refine⟨iR e,fun y'=>?_⟩
 have es:(os.set j y').zip vs=(os.zip vs).set j (y',w):=by
  apply List.ext_getElem?
  intro i
  by_cases hi:i=j
  ·subst hi
   rw [List.getElem?_set_self hj,List.getElem?_zip_eq_some]
   exact⟨List.getElem?_set_self hj1,e2⟩
  ·rw [List.getElem?_set_ne (Ne.symm hi)]
   simp only [List.zip,List.getElem?_zipWith,List.getElem?_set_ne (Ne.symm hi)]
 rw [es]
 have p:=iR (l:=(os.zip vs).set j (y',w)) (j:=j) (List.getElem?_set_self hj)
 rw [List.eraseIdx_set_eq]at p
 exact p.symm
theorem wI {C:Nat}{ns:List Str}{xs:List O}{k:D}{y:O}{g:O→O} (e:dA (.obj C ns xs) k=some (y,g)):∃ f j y0,k = .exc C [.str f,.non]∧qe f ns=some j∧xs[j]?=some y0∧y=y0∧g=fun z=>.obj C ns (xs.set j z):=by
 cases k with
 | exc C' p =>
  match p,e with
  | [.str f,.non],e =>
   have e:(if C'=C then(match qe f ns with
    | some j=>(match xs[j]? with
     | some y=>some (y,fun z=>O.obj C ns (xs.set j z))
     | none=>none)
    | none=>none)else none)=some (y,g):=e
   by_cases hc:C'=C
   ·rw [if_pos hc]at e
    subst hc
    cases e1:qe f ns with
    | none=>simp only [e1]at e; cases e
    | some j =>
     simp only [e1]at e
     cases e2:xs[j]? with
     | none=>simp only [e2]at e; cases e
     | some y0 =>
      simp only [e2]at e
      injection e with e
      injection e with e3 e4
      exact⟨f,j,y0,rfl,e1,e2,e3.symm,e4.symm⟩
   ·rw [if_neg hc]at e; cases e
 | _=>cases e
theorem BG {f:Str}:∀ {ns:List Str}{vs:List V}{j:Nat},ns.length=vs.length→qe f ns=some j→(ns.zip vs).lookup f=vs[j]?
 | [],vs,j,_,e=>by cases e
 | n::ns,[],j,hl,e=>by simp at hl
 | n::ns,v::vs,j,hl,e=>by
  unfold qe at e
  by_cases hn:n=f
  ·rw [if_pos hn]at e
   injection e with e
   subst e hn
   simp [List.lookup]
  ·rw [if_neg hn]at e
   obtain⟨i,e1,e2⟩:=Option.map_eq_some_iff.mp e
   subst e2
   have h2:(f == n)=false:=by simpa using fun z=>hn z.symm
   rw [List.zip_cons_cons,List.lookup_cons,h2]
   rw [List.getElem?_cons_succ]
   exact BG (by simpa using hl) e1
theorem o6 {k:D}{g:O→O} (s:ae T B H hs ((o,v)::l)) (e:dA o k=some (y,g)):∃ a ad w rest,v = .ref a∧jF T (vw B.Z H) v k w∧ae T B H (ad++hs) ((y,w)::(rest++l)) ∧
  ∀ H' y' m,Stays ad H H'→ae T B H' (ad++hs) ((y',w)::(rest++m))→ae T B H' hs ((g y',v)::m):=by
 cases o with
 | tup xs =>
  cases k with
  | int i =>
   have e:(match ixN xs.length i with
    | some j=>(match xs[j]? with
     | some y=>some (y,fun z=>O.tup (xs.set j z))
     | none=>none)
    | none=>none)=some (y,g):=e
   cases e1:ixN xs.length i with
   | none=>simp only [e1]at e; cases e
   | some j =>
    simp only [e1]at e
    cases e2:xs[j]? with
    | none=>simp only [e2]at e; cases e
    | some y0 =>
     simp only [e2]at e
     injection e with e
     injection e with e3 e4
     subst e3 e4
     obtain⟨a,vs,rfl,ha,hl,s1⟩:=s.openT
     obtain⟨hj,_⟩:=List.getElem?_eq_some_iff.mp e2
     have hw:vs[j]?=some (vs[j]'(by omega)):=List.getElem?_eq_getElem (by omega)
     obtain⟨p1,p2⟩:=mQ e2 hw
     have nz:vw B.Z H a=H a:=bx fun z=>by
      obtain⟨u2,e2,mu⟩:=s.lk a z
      rw [ha]at e2
      cases e2
     refine⟨a,[],_,(xs.zip vs).eraseIdx j,rfl,⟨a,rfl,.inl ⟨vs,i,.inr (by rw [nz]; exact ha),rfl,?_⟩⟩,s1.perm (p1.append_right l),fun H' y' m hH s2=>?_⟩
     ·have e1':ixN vs.length i=some j:=by rw [← hl]; exact e1
      unfold atI
      rw [e1']
      exact hw
     ·exact(ae.perm s2 ((p2 y').append_right m)).closeT (hH.2 a vs ha) (by simpa using hl)
  | _=>cases e
 | lst xs =>
  cases k with
  | int i =>
   have e:(match ixN xs.length i with
    | some j=>(match xs[j]? with
     | some y=>some (y,fun z=>O.lst (xs.set j z))
     | none=>none)
    | none=>none)=some (y,g):=e
   cases e1:ixN xs.length i with
   | none=>simp only [e1]at e; cases e
   | some j =>
    simp only [e1]at e
    cases e2:xs[j]? with
    | none=>simp only [e2]at e; cases e
    | some y0 =>
     simp only [e2]at e
     injection e with e
     injection e with e3 e4
     subst e3 e4
     obtain⟨a,vs,rfl,ha,hl,s1⟩:=s.openL
     obtain⟨hj,_⟩:=List.getElem?_eq_some_iff.mp e2
     have hw:vs[j]?=some (vs[j]'(by omega)):=List.getElem?_eq_getElem (by omega)
     obtain⟨p1,p2⟩:=mQ e2 hw
     have nz:vw B.Z H a=H a:=by
      obtain⟨F,r,nd,c⟩:=s1.reps
      exact bx (c a List.mem_cons_self).2.2.1
     refine⟨a,[a],_,(xs.zip vs).eraseIdx j,rfl,⟨a,rfl,.inl ⟨vs,i,.inl (by rw [nz]; exact ha),rfl,?_⟩⟩,s1.perm (p1.append_right l),fun H' y' m hH s2=>?_⟩
     ·have e1':ixN vs.length i=some j:=by rw [← hl]; exact e1
      unfold atI
      rw [e1']
      exact hw
     ·exact(ae.perm (hs:=a::hs) s2 ((p2 y').append_right m)).closeL (by rw [hH.1 a List.mem_cons_self]; exact ha) (by simpa using hl)
  | _=>cases e
 | dic ks xs =>
  have e:(if aZ k ks=true then(match dM k ks with
   | some j=>(match xs[j]? with
    | some y=>some (y,fun z=>O.dic ks (xs.set j z))
    | none=>none)
   | none=>none)else none)=some (y,g):=e
  by_cases hk:aZ k ks=true
  ·rw [if_pos hk]at e
   cases e1:dM k ks with
   | none=>simp only [e1]at e; cases e
   | some j =>
    simp only [e1]at e
    cases e2:xs[j]? with
    | none=>simp only [e2]at e; cases e
    | some y0 =>
     simp only [e2]at e
     injection e with e
     injection e with e3 e4
     subst e3 e4
     obtain⟨a,vs,rfl,ha,hl,s1⟩:=s.openD
     obtain⟨hj,_⟩:=List.getElem?_eq_some_iff.mp e2
     have hw:vs[j]?=some (vs[j]'(by omega)):=List.getElem?_eq_getElem (by omega)
     obtain⟨p1,p2⟩:=mQ e2 hw
     have nz:vw B.Z H a=H a:=by
      obtain⟨F,r,nd,c⟩:=s1.reps
      exact bx (c a List.mem_cons_self).2.2.1
     refine⟨a,[a],_,(xs.zip vs).eraseIdx j,rfl,⟨a,rfl,.inr (.inl ?_)⟩,s1.perm (p1.append_right l),fun H' y' m hH s2=>?_⟩
     ·unfold aZ at hk
      rw [Bool.or_eq_true,Bool.and_eq_true,Bool.and_eq_true]at hk
      unfold DP
      rw [nz]
      rcases ha with⟨js,q1,q2,q3⟩ | ⟨js,q1,q2,q3⟩
      ·rcases hk with⟨hk,hal⟩ | ⟨hk,hal⟩
       ·obtain⟨kk,ek⟩:=Option.isSome_iff_exists.mp hk
        exact .inl ⟨_,kk,q2,ek,(y9 ek q1 q3 e1).trans hw⟩
       ·cases ks with
        | nil=>cases e1
        | cons j0 ks =>
         have h1:=jS q1 j0 List.mem_cons_self
         have h2:=List.all_eq_true.mp hal j0 List.mem_cons_self
         obtain⟨jj,ej⟩:=Option.isSome_iff_exists.mp h2
         rw [ij ej]at h1; cases h1
      ·rcases hk with⟨hk,hal⟩ | ⟨hk,hal⟩
       ·cases ks with
        | nil=>cases e1
        | cons j0 ks =>
         have h1:=eL q1 j0 List.mem_cons_self
         have h2:=List.all_eq_true.mp hal j0 List.mem_cons_self
         obtain⟨jj,ej⟩:=Option.isSome_iff_exists.mp h2
         rw [cV ej]at h1; cases h1
       ·obtain⟨kk,ek⟩:=Option.isSome_iff_exists.mp hk
        exact .inr ⟨_,kk,q2,ek,(za ek q1 q3 e1).trans hw⟩
     ·exact(ae.perm (hs:=a::hs) s2 ((p2 y').append_right m)).closeD (by rw [hH.1 a List.mem_cons_self]; exact ha) (by simpa using hl)
  ·rw [if_neg hk]at e; cases e
 | obj C ns xs =>
  obtain⟨f,j,y0,rfl,e1,e2,rfl,rfl⟩:=wI e
  obtain⟨a,dx,vs,rfl,ha,hn,hl,s1⟩:=s.openO
  obtain⟨hj,_⟩:=List.getElem?_eq_some_iff.mp e2
  have hw:vs[j]?=some (vs[j]'(by omega)):=List.getElem?_eq_getElem (by omega)
  obtain⟨p1,p2⟩:=mQ e2 hw
  have nz:vw B.Z H a=H a:=by
   obtain⟨F,r,nd,c⟩:=s1.reps
   exact bx (c a List.mem_cons_self).2.2.1
  refine⟨a,[a],_,(xs.zip vs).eraseIdx j,rfl,⟨a,rfl,.inr (.inr ⟨C,dx,_,f,by rw [nz]; exact ha,rfl,(BG hn e1).trans hw⟩)⟩,s1.perm (p1.append_right l),fun H' y' m hH s2=>?_⟩
  exact(ae.perm (hs:=a::hs) s2 ((p2 y').append_right m)).closeO (by rw [hH.1 a List.mem_cons_self]; exact ha) hn (by simpa using hl)
 | _=>cases e
theorem iH:∀ {ks:List D}{o:O}{v:V}{hs:List Addr}{l:List bf}{f:O→Option (O×O)}{r o2:O},ae T B H hs ((o,v)::l)→dZ ks o f=some (r,o2) →
  ∃ o' x ad rest o1,f6 T (vw B.Z H) v ks x∧f o'=some (r,o1)∧ae T B H (ad++hs) ((o',x)::(rest++l)) ∧
   ∀ H' m,Stays ad H H'→ae T B H' (ad++hs) ((o1,x)::(rest++m))→ae T B H' hs ((o2,v)::m)
 | [],o,v,hs,l,f,r,o2,s,e=>⟨o,v,[],[],o2,rfl,e,s,fun H' m _ s2=>s2⟩
 | k::ks,o,v,hs,l,f,r,o2,s,e=>by
  unfold dZ at e
  cases e1:dA o k with
  | none=>rw [e1]at e; cases e
  | some p =>
   obtain⟨y,g⟩:=p
   rw [e1]at e
   obtain⟨p,e2,e3⟩:=Option.map_eq_some_iff.mp e
   obtain⟨r',o3⟩:=p
   injection e3 with e3 e4
   subst e3 e4
   obtain⟨a,ad1,w,rest,rfl,st,s1,back⟩:=o6 s e1
   obtain⟨o',x,ad,rest2,o1,pa,ef,s2,back2⟩:=iH s1 e2
   refine⟨o',x,ad++ad1,rest2++rest,o1,⟨w,st,pa⟩,ef,?_,fun H' m hb s3=>?_⟩
   ·rw [List.append_assoc,List.append_assoc]; exact s2
   ·rw [List.append_assoc,List.append_assoc]at s3
    exact back H' o3 m ⟨fun b hb'=>hb.1 b (by simp [hb']),hb.2⟩ (back2 H' (rest++m) ⟨fun b hb'=>hb.1 b (by simp [hb']),hb.2⟩ s3)
theorem BH {ks:List D}:∀ {o:O}{f f':O→Option (O×O)}{r o2:O},dZ ks o f=some (r,o2)→(∀ o',(f o').isSome=true→(f' o').isSome=true)→∃ q,dZ ks o f'=some q:=by
 induction ks with
 | nil =>
  intro o f f' r o2 e h
  exact Option.isSome_iff_exists.mp (h o (by rw [show f o=some (r,o2)from e]; rfl))
 | cons k ks ih =>
  intro o f f' r o2 e h
  unfold dZ at e ⊢
  cases e1:dA o k with
  | none=>rw [e1]at e; cases e
  | some p =>
   rw [e1]at e
   obtain⟨q,e2,_⟩:=Option.map_eq_some_iff.mp e
   obtain⟨q',h'⟩:=ih (f':=f') e2 h
   exact⟨_,show(dZ ks p.1 f').map (fun p'=>(p'.1,p.2 p'.2))=some _ by rw [h']; rfl⟩
theorem wJ {ks:List D}{k:D}:∀ {o:O}{f:O→Option (O×O)}{r o2:O},dZ (ks++[k]) o f=some (r,o2)→∃ q,dZ ks o (fun o=>some (o,o))=some q:=by
 induction ks with
 | nil=>intro o f r o2 e; exact⟨_,rfl⟩
 | cons j ks ih =>
  intro o f r o2 e
  rw [List.cons_append]at e
  unfold dZ at e ⊢
  cases e1:dA o j with
  | none=>rw [e1]at e; cases e
  | some p =>
   rw [e1]at e
   obtain⟨q,e2,_⟩:=Option.map_eq_some_iff.mp e
   obtain⟨q',h'⟩:=ih e2
   exact⟨_,show(dZ ks p.1 (fun o=>some (o,o))).map (fun p'=>(p'.1,p.2 p'.2))=some _ by rw [h']; rfl⟩
end
end PV
namespace PV
open PySem PySem.Spec PyProof.Rows L2
section
variable {T:Tab}{B:Base}{Φ:cU}{W:WX}{X:Cx}{H H':Hp}{hs:List Addr}{l m:List bf}{o y:O}{v w:V}{a:Addr}{own:Addr→Prop}{h:Hp}{ρ:Env}{σ:L2.St}
theorem oB:∀ {os:List O}{vs:List V}{F:List Addr}{j:Nat}{y:O},AO T own h os vs F→os[j]?=some y→∃ w F',vs[j]?=some w∧Or T own h y w F'∧∀ a∈F',a∈F
 | [],vs,F,j,y,e,q=>by simp at q
 | x::os,vs,F,0,y,e,q=>by
  obtain⟨w,r,F1,F2,rfl,rfl,e1,e2⟩:=e
  simp at q
  subst q
  exact⟨w,F1,rfl,e1,fun a ha=>List.mem_append_left _ ha⟩
 | x::os,vs,F,j+1,y,e,q=>by
  obtain⟨w,r,F1,F2,rfl,rfl,e1,e2⟩:=e
  obtain⟨w',F',h1,h2,h3⟩:=oB (j:=j) e2 (by simpa using q)
  exact⟨w',F',by simpa using h1,h2,fun a ha=>List.mem_append_right _ (h3 a ha)⟩
theorem DQ {k:D}{g:O→O}{F:List Addr} (s:Or T own h o v F) (e:dA o k=some (y,g)):∃ w F',jF T h v k w∧Or T own h y w F'∧(∀ a∈F',a∈F)∧∀ h':Hp,Stays F h h'→jF T h' v k w:=by
 cases o with
 | tup xs =>
  cases k with
  | int i =>
   have e:(match ixN xs.length i with
    | some j=>(match xs[j]? with
     | some y=>some (y,fun z=>O.tup (xs.set j z))
     | none=>none)
    | none=>none)=some (y,g):=e
   cases e1:ixN xs.length i with
   | none=>simp only [e1]at e; cases e
   | some j =>
    simp only [e1]at e
    cases e2:xs[j]? with
    | none=>simp only [e2]at e; cases e
    | some y0 =>
     simp only [e2]at e
     injection e with e
     injection e with e3 e4
     subst e3 e4
     obtain⟨a,vs,rfl,ha,hL⟩:=s
     obtain⟨w,F',h1,h2,h3⟩:=oB hL e2
     have hl:=(aP.ofL hL).2
     have e1':atI vs i=some w:=by
      have e1':ixN vs.length i=some j:=by rw [← hl]; exact e1
      unfold atI
      rw [e1']
      exact h1
     exact⟨w,F',⟨a,rfl,.inl ⟨vs,i,.inr ha,rfl,e1'⟩⟩,h2,h3,fun h' hh=>⟨a,rfl,.inl ⟨vs,i,.inr (hh.2 a vs ha),rfl,e1'⟩⟩⟩
  | _=>cases e
 | lst xs =>
  cases k with
  | int i =>
   have e:(match ixN xs.length i with
    | some j=>(match xs[j]? with
     | some y=>some (y,fun z=>O.lst (xs.set j z))
     | none=>none)
    | none=>none)=some (y,g):=e
   cases e1:ixN xs.length i with
   | none=>simp only [e1]at e; cases e
   | some j =>
    simp only [e1]at e
    cases e2:xs[j]? with
    | none=>simp only [e2]at e; cases e
    | some y0 =>
     simp only [e2]at e
     injection e with e
     injection e with e3 e4
     subst e3 e4
     obtain⟨a,vs,G,rfl,rfl,ha,hL⟩:=s
     obtain⟨w,F',h1,h2,h3⟩:=oB hL e2
     have hl:=(aP.ofL hL).2
     have e1':atI vs i=some w:=by
      have e1':ixN vs.length i=some j:=by rw [← hl]; exact e1
      unfold atI
      rw [e1']
      exact h1
     exact⟨w,F',⟨a,rfl,.inl ⟨vs,i,.inl ha,rfl,e1'⟩⟩,h2,fun b hb=>List.mem_cons_of_mem _ (h3 b hb),fun h' hh=>⟨a,rfl,.inl ⟨vs,i,.inl (by rw [hh.1 a List.mem_cons_self]; exact ha),rfl,e1'⟩⟩⟩
  | _=>cases e
 | dic ks xs =>
  have e:(if aZ k ks=true then(match dM k ks with
   | some j=>(match xs[j]? with
    | some y=>some (y,fun z=>O.dic ks (xs.set j z))
    | none=>none)
   | none=>none)else none)=some (y,g):=e
  by_cases hk:aZ k ks=true
  ·rw [if_pos hk]at e
   cases e1:dM k ks with
   | none=>simp only [e1]at e; cases e
   | some j =>
    simp only [e1]at e
    cases e2:xs[j]? with
    | none=>simp only [e2]at e; cases e
    | some y0 =>
     simp only [e2]at e
     injection e with e
     injection e with e3 e4
     subst e3 e4
     obtain⟨a,vs,G,rfl,rfl,ha,hL⟩:=s
     obtain⟨w,F',h1,h2,h3⟩:=oB hL e2
     have key:DP h a k w∧∀ h':Hp,h' a=h a→DP h' a k w:=by
      unfold aZ at hk
      rw [Bool.or_eq_true,Bool.and_eq_true,Bool.and_eq_true]at hk
      rcases ha with⟨js,q1,q2,q3⟩ | ⟨js,q1,q2,q3⟩
      ·rcases hk with⟨hk,hal⟩ | ⟨hk,hal⟩
       ·obtain⟨kk,ek⟩:=Option.isSome_iff_exists.mp hk
        have z:=(y9 ek q1 q3 e1).trans h1
        exact⟨.inl ⟨_,kk,q2,ek,z⟩,fun h' e=>.inl ⟨_,kk,by rw [e]; exact q2,ek,z⟩⟩
       ·cases ks with
        | nil=>cases e1
        | cons j0 ks =>
         have h1:=jS q1 j0 List.mem_cons_self
         have h2:=List.all_eq_true.mp hal j0 List.mem_cons_self
         obtain⟨jj,ej⟩:=Option.isSome_iff_exists.mp h2
         rw [ij ej]at h1; cases h1
      ·rcases hk with⟨hk,hal⟩ | ⟨hk,hal⟩
       ·cases ks with
        | nil=>cases e1
        | cons j0 ks =>
         have h1:=eL q1 j0 List.mem_cons_self
         have h2:=List.all_eq_true.mp hal j0 List.mem_cons_self
         obtain⟨jj,ej⟩:=Option.isSome_iff_exists.mp h2
         rw [cV ej]at h1; cases h1
       ·obtain⟨kk,ek⟩:=Option.isSome_iff_exists.mp hk
        have z:=(za ek q1 q3 e1).trans h1
        exact⟨.inr ⟨_,kk,q2,ek,z⟩,fun h' e=>.inr ⟨_,kk,by rw [e]; exact q2,ek,z⟩⟩
     exact⟨w,F',⟨a,rfl,.inr (.inl key.1)⟩,h2,fun b hb=>List.mem_cons_of_mem _ (h3 b hb),fun h' hh=>⟨a,rfl,.inr (.inl (key.2 h' (hh.1 a List.mem_cons_self)))⟩⟩
  ·rw [if_neg hk]at e; cases e
 | obj C ns xs =>
  obtain⟨f,j,y0,rfl,e1,e2,rfl,rfl⟩:=wI e
  obtain⟨a,dx,vs,G,rfl,rfl,ha,hn,hL⟩:=s
  obtain⟨w,F',h1,h2,h3⟩:=oB hL e2
  have hw:=(BG hn e1).trans h1
  exact⟨w,F',⟨a,rfl,.inr (.inr ⟨C,dx,_,f,ha,rfl,hw⟩)⟩,h2,fun b hb=>List.mem_cons_of_mem _ (h3 b hb),fun h' hh=>⟨a,rfl,.inr (.inr ⟨C,dx,_,f,by rw [hh.1 a List.mem_cons_self]; exact ha,rfl,hw⟩)⟩⟩
 | _=>cases e
theorem zb:∀ {ks:List D}{o:O}{v:V}{F:List Addr}{f:O→Option (O×O)}{p:O×O},Or T own h o v F→dZ ks o f=some p→∃ x,f6 T h v ks x∧∀ h':Hp,Stays F h h'→f6 T h' v ks x
 | [],o,v,F,f,p,s,e=>⟨v,rfl,fun _ _=>rfl⟩
 | k::ks,o,v,F,f,p,s,e=>by
  unfold dZ at e
  cases e1:dA o k with
  | none=>rw [e1]at e; cases e
  | some q =>
   obtain⟨y,g⟩:=q
   rw [e1]at e
   obtain⟨p',e2,_⟩:=Option.map_eq_some_iff.mp e
   obtain⟨w,F',h1,h2,h3,h4⟩:=DQ s e1
   obtain⟨x,g1,g2⟩:=zb h2 e2
   exact⟨x,⟨w,h1,g1⟩,fun h' hh=>⟨w,h4 h' hh,g2 h' ⟨fun a ha=>hh.1 a (h3 a ha),hh.2⟩⟩⟩
theorem At.hold (a:At T B H ρ σ ((o,v)::l)):∃ B':Base,B'.pr=B.pr∧At T B' H ρ σ l∧(∀ (H':Hp) (ρ':Env) (σ':L2.St) (m:List bf),(∀ p∈B.pr,σ'[p.1]?=some (some p.2))→At T B' H' ρ' σ' m→At T B H' ρ' σ' ((o,v)::m) ∧
  ∀ (ks:List D) (f:O→Option (O×O)) (p:O×O) (x:V),dZ ks o f=some p→f6 T (vw B.Z H) v ks x→f6 T (vw B.Z H') v ks x):=by
 have s:Sat T B H ((ah ρ σ++l)++[(o,v)]):=a.sat.perm (List.perm_middle.trans (by
  rw [← List.singleton_append]
  exact List.perm_append_comm))
 obtain⟨B',Fl,own,hZ,hpr,htb,r,sa,back⟩:=Sat.callT s
 obtain⟨F1,F2,rfl,r1,r2⟩:=r
 refine⟨B',hpr,⟨a.ok,sa,by rw [hpr]; exact a.pr⟩,fun H' ρ' σ' m hp a'=>?_⟩
 obtain⟨s',k⟩:=back H' _ a'.sat
 refine⟨⟨a'.ok,s'.perm ?_,hp⟩,fun ks f p x e pa=>?_⟩
 ·have p1:(ah ρ' σ'++m++[(o,v)]).Perm ((o,v)::(ah ρ' σ'++m)):=by
   rw [← List.singleton_append (l:=ah ρ' σ'++m)]
   exact List.perm_append_comm
  exact p1.trans List.perm_middle.symm
 ·obtain⟨x',g1,g2⟩:=zb r1 e
  rw [pa.inj g1]
  exact g2 _ ⟨fun b hb=>k.1 b (List.mem_append_left _ hb),k.2⟩
theorem RG.held {α:Type}{r:Res α}{K K':α→Env→Prop}{B':Base} (hp:∀ p∈B.pr,σ[p.1]?=some (some p.2)) (hb:∀ (H':Hp) (ρ':Env) (m:List bf),At T B' H' ρ' σ m→At T B H' ρ' σ ((o,v)::m))
  (h:RG T B W σ ((o,v)::l) r K) (hK:∀ a ρ,K a ρ→K' a ρ):RG T B' W σ l r K':=by
 cases r with
 | ok a ρ=>exact hK a ρ h
 | bad=>exact h
 | exc C p ρ=>exact fun d H its a e=>h d H its ((hb H ρ _ a).perm List.perm_middle.symm) e
end
end PV
namespace PV
open PySem PySem.Spec PyProof.Rows L2
section
variable {T:Tab}{B:Base}{Φ:cU}{W:WX}{X:Cx}{H H':Hp}{hs:List Addr}{l m:List bf}{o y:O}{v w:V}{a:Addr}{own:Addr→Prop}{h:Hp}{ρ:Env}{σ:L2.St}
def GF (T:Tab) (k:Mu):V→List V→Hp→VK→Prop:=fun x vs H Q=>∃ (B:Base) (o':O) (os:List O) (l:List bf) (hs:List Addr) (r o1:O),os.length=vs.length∧ae T B H hs ((o',x)::(os.zip vs++l))∧Bb k o' os=some (r,o1) ∧
 ∀ u H',Stays hs H H'→ae T B H' hs ((o1,x)::(r,u)::l)→Q u H'
theorem ae.nin {p:Addr} (s:ae T B H (p::hs) l):∀ b∈hs,b≠p:=fun b hb e=>by
 obtain⟨F,r,nd,c⟩:=s.reps
 have:(p::(hs++F)).Nodup:=nd
 exact(List.nodup_cons.mp this).1 (List.mem_append_left _ (e ▸ hb))
theorem f7 {vs:List V} (e:H a=some (.lst vs)):(∀ xs,H a≠some (.tup xs))∧(∀ ob u,H a≠some (.frz ob u))∧∀ g,H a≠some (.ext g):=by
 refine⟨?_,?_,?_⟩
 ·intro xs z; rw [e]at z; cases z
 ·intro ob u z; rw [e]at z; cases z
 ·intro g z; rw [e]at z; cases z
theorem iI {ob:HO} (s:ae T B H (a::hs) l) (t:∀ xs,H a≠some (.tup xs)):Stays hs H (upd H a ob) :=
 ⟨fun b hb=>upd_ne (s.nin b hb),fun b xs e=>by rw [upd_ne (show b≠a from fun z=>t xs (by rw [← z]; exact e))]; exact e⟩
theorem x9 {os ns:List O}{vs ws:List V}{r:O}{u:V} (s:ae T B H (a::hs) (ns.zip ws++(r,u)::l)) (e:H a=some (.lst vs)) (hl:ns.length=ws.length) :
  Stays hs H (upd H a (.lst ws))∧ae T B (upd H a (.lst ws)) hs ((.lst ns,.ref a)::(r,u)::l) :=
 ⟨iI s (f7 e).1,(s.write (f7 e).1 (f7 e).2.1 (f7 e).2.2).closeL upd_same hl⟩
theorem wK:MtR X "list.append" (GF T .append):=by
 intro pins s σ H x xs v us Q I rx rxs h
 obtain⟨B,o',os,l,hs,r,o1,hl,sa,e,q⟩:=h
 cases o' with
 | lst zs =>
  match os,e with
  | [y],e =>
   have e:(if zs.length < sizeLine then some (O.d .non,O.lst (zs++[y]))else none)=some (r,o1):=e
   split at e
   ·rename_i hz
    injection e with e
    injection e with e1 e2
    subst e1 e2
    match xs,hl with
    | [w],_ =>
     obtain⟨a,vs,rfl,ha,hlv,s1⟩:=sa.openL
     have s2:ae T B H (a::hs) ((zs++[y]).zip (vs++[w])++((.d .non,.non)::l)):=by
      rw [List.zip_append hlv,List.append_assoc]
      have s3:ae T B H (a::hs) (zs.zip vs++((y,w)::l)):=s1
      exact(s3.non.perm (by
       refine List.perm_middle.symm.trans (List.Perm.append_left _ ?_)
       exact .swap _ _ _))
     obtain⟨g1,g2⟩:=x9 (os:=zs) s2 ha (by simp [hlv])
     exact mt_append pins s σ H _ _ v us Q I rx rxs ⟨a,vs,w,rfl,rfl,ha,by omega,q _ _ g1 g2⟩
   ·cases e
  | [],e=>cases e
  | _::_::_,e=>cases e
 | _=>cases os <;> cases e
theorem IQ:MtR X "list.pop" (GF T .pop):=by
 intro pins s σ H x xs v us Q I rx rxs h
 obtain⟨B,o',os,l,hs,r,o1,hl,sa,e,q⟩:=h
 cases o' with
 | lst zs =>
  match os,e with
  | [],e =>
   have e:(match zs[zs.length - 1]? with
    | some y=>some (y,O.lst zs.dropLast)
    | none=>none)=some (r,o1):=e
   cases ey:zs[zs.length - 1]? with
   | none=>rw [ey]at e; cases e
   | some y =>
    rw [ey]at e
    injection e with e
    injection e with e1 e2
    subst e1 e2
    match xs,hl with
    | [],_ =>
     obtain⟨a,vs,rfl,ha,hlv,s1⟩:=sa.openL
     obtain⟨hj,_⟩:=List.getElem?_eq_some_iff.mp ey
     have hw:vs[vs.length - 1]?=some (vs[vs.length - 1]'(by omega)):=List.getElem?_eq_getElem (by omega)
     have ey':zs[vs.length - 1]?=some y:=by rw [← hlv]; exact ey
     obtain⟨p1,_⟩:=mQ ey' hw
     have er:(zs.zip vs).eraseIdx (vs.length - 1)=zs.dropLast.zip vs.dropLast:=by
      rw [← hlv]
      have h1:(zs.zip vs).length=zs.length:=by simp [hlv]
      rw [← h1,List.eraseIdx_length_sub_one]
      rw [List.dropLast_eq_take,List.dropLast_eq_take,List.dropLast_eq_take]
      simp only [List.zip,List.take_zipWith,List.length_zipWith,hlv,Nat.min_self]
     rw [er]at p1
     have s2:ae T B H (a::hs) (zs.dropLast.zip vs.dropLast++((y,vs[vs.length - 1]'(by omega))::l)):=s1.perm ((p1.append_right l).trans List.perm_middle.symm)
     obtain⟨g1,g2⟩:=x9 (os:=zs) s2 ha (by simp [hlv])
     exact mt_pop pins s σ H _ _ v us Q I rx rxs ⟨a,vs,_,rfl,rfl,ha,hw,q _ _ g1 g2⟩
  | _::_,e=>cases e
 | _=>cases os <;> cases e
theorem DR:MtR X "list.pop" (GF T .popAt):=by
 intro pins s σ H x xs v us Q I rx rxs h
 obtain⟨B,o',os,l,hs,r,o1,hl,sa,e,q⟩:=h
 cases o' with
 | lst zs =>
  match os,e with
  | [.d (.int i)],e =>
   have e:(match ixN zs.length i with
    | some k=>(match zs[k]? with
     | some y=>some (y,O.lst (zs.eraseIdx k))
     | none=>none)
    | none=>none)=some (r,o1):=e
   cases ek:ixN zs.length i with
   | none=>simp only [ek]at e; cases e
   | some k =>
    simp only [ek]at e
    cases ey:zs[k]? with
    | none=>simp only [ey]at e; cases e
    | some y =>
     simp only [ey]at e
     injection e with e
     injection e with e1 e2
     subst e1 e2
     match xs,hl with
     | [iv],_ =>
      obtain⟨a,vs,rfl,ha,hlv,s1⟩:=sa.openL
      have ei:iv = .int i:=(ae.perm (m:=(O.d (.int i),iv)::(zs.zip vs++l)) s1 List.perm_middle).read
      subst ei
      obtain⟨hj,_⟩:=List.getElem?_eq_some_iff.mp ey
      have hw:vs[k]?=some (vs[k]'(by omega)):=List.getElem?_eq_getElem (by omega)
      obtain⟨p1,_⟩:=mQ ey hw
      have er:(zs.zip vs).eraseIdx k=(zs.eraseIdx k).zip (vs.eraseIdx k):=by
       simp only [List.zip]
       apply List.ext_getElem?
       intro n
       simp only [List.getElem?_zipWith,List.getElem?_eraseIdx]
       split <;> rfl
      rw [er]at p1
      have s2:ae T B H (a::hs) ((zs.eraseIdx k).zip (vs.eraseIdx k)++((y,vs[k]'(by omega))::l)):=(ae.drop1 (o:=.d (.int i)) (v:=.int i) (ae.perm (m:=(O.d (.int i),V.int i)::(zs.zip vs++l)) s1 List.perm_middle)).perm ((p1.append_right l).trans List.perm_middle.symm)
      have hle:(zs.eraseIdx k).length=(vs.eraseIdx k).length:=by
       rw [List.length_eraseIdx,List.length_eraseIdx,hlv]
      obtain⟨g1,g2⟩:=x9 (os:=zs) s2 ha hle
      obtain⟨b1,b2,b3,b4⟩:=ixN_seq ek
      obtain⟨z,_⟩:=I.lstM ha
      have hsl:=sizeLine_eq
      exact mt_popAt pins s σ H _ _ v us Q I rx rxs ⟨a,vs,i,k,_,rfl,rfl,ha,by omega,by omega,by rw [← hlv]; exact b1,hw,q _ _ g1 g2⟩
  | [],e=>cases e
  | .d (.int _)::_::_,e=>cases e
 | _=>cases os <;> cases e
theorem DS (hu:X.A.units+1 < cLine):IxR X (fun x y H Q=>∃ a w,x = .ref a∧((∃ vs i,(Rd H a (.lst vs)∨H a=some (.tup vs))∧y = .int i∧atI vs i=some w)∨DGet H a y (some w))∧Q w H):=by
 intro value slice pins s σ H x y v u Q I rx ry h hs
 obtain⟨a,w,rfl,h,q⟩:=h
 rcases h with⟨vs,i,ha | ha,rfl,hi⟩ | h
 ·exact ix_list value slice pins s σ H _ _ v u Q I rx ry ⟨a,vs,i,w,rfl,rfl,.inl ha,hi,q⟩ hs
 ·exact ix_tup value slice pins s σ H _ _ v u Q I rx ry ⟨a,vs,i,w,rfl,rfl,.inl (.inl ha),hi,q⟩ hs
 ·exact yZ hu value slice pins s σ H _ _ v u Q I rx ry ⟨a,w,rfl,h,q⟩ hs
theorem wL {k:D}{x w y:V}{own:Addr→Prop} (s:ae T B H hs l) (st:jF T (vw B.Z H) x k w) (d:Dr T own (vw B.Z H) k y):∃ a,x = .ref a∧((∃ vs i,(Rd H a (.lst vs)∨H a=some (.tup vs))∧y = .int i∧atI vs i=some w)∨DGet H a y (some w)):=by
 obtain⟨a,rfl,st⟩:=st
 refine⟨a,rfl,?_⟩
 rcases st with⟨vs,i,h1 | h1,rfl,h2⟩ | (⟨kvs,kk,h1,h2,h3⟩ | ⟨kvs,kk,h1,h2,h3⟩) | ⟨C,dx,fs,f,h1,rfl,h2⟩
 ·exact .inl ⟨vs,i,.inl (qM s (fun _ _ z=>nomatch z) (.inl h1)),d,h2⟩
 ·exact .inl ⟨vs,i,.inr (xR s h1),d,h2⟩
 ·exact .inr (.inl ⟨kvs,kk,Fd s h1,qr h2 d,h3.symm⟩)
 ·obtain⟨b,e1,e2⟩:=ot h2 s d
  exact .inr (.inr ⟨kvs,kk,b,Fe s h1,e1,e2,h3.symm⟩)
 ·rcases d with⟨z,_⟩ | d
  ·cases z
  obtain⟨_,_,vs,_,_,_,xd,_,_,rfl,_,_,_,rfl,_⟩:=d
  exact xd.elim
end
section
variable {T:Tab}{B:Base}{Φ:cU}{W:WX}{X:Cx}{i:Nat}{x:Str}{pos:Pos}
theorem RG.unX {σ:L2.St}{l:List bf}{α:Type}{r:Res α}{K:α→Env→Prop} (h:RG T B W σ l r.noX K):RG T B W σ l r K:=by
 cases r with
 | ok a ρ=>exact h
 | exc C p ρ=>exact h.elim
 | bad=>exact h
def Fm (T:Tab) (B:Base) (Φ:cU) (W:WX) (i:Nat) (rp:List SE):TE:=fun σ H Q=>∃ ρ l o v,At T B H ρ σ ((o,v)::l)∧σ[i]?=some (some v)∧RG T B W σ ((o,v)::l) (qh Φ rp ρ) fun ks ρ'=>(∃ p,dZ ks o (fun o=>some (o,o))=some p)∧∀ H' x,At T B H' ρ' σ ((o,v)::l)→f6 T (vw B.Z H') v ks x→Q x H'
theorem oC (hN:X.N[i]?=some x) (hv:Vis X.env.scope x) (hd:(x == ("__debug__" : Str))=false) (hc:(x == ("__classdict__" : Str))=false):PE X (.Name x pos) (Fm T B Φ W i []) :=
 (pe_var hN hv hd hc).pv fun σ H Q ⟨ρ,l,o,v,a,ev,h⟩=>by
  rw [qh]at h
  exact⟨v,ev,h.2 H v a rfl⟩
theorem Fo (hu:X.A.units+200 < cLine) {e k:Expr}{sk:SE}{rp:List SE} (he:PE X e (Fm T B Φ W i rp)) (hk:∀ B':Base,B'.pr=B.pr→PE X k (tE T B' Φ W sk)) (hs:PlainIx k):PE X (.Subscript e k pos) (Fm T B Φ W i (sk::rp)):=by
 refine⟨fun pins s σ H Q I h=>?_⟩
 obtain⟨ρ,l,o,v,a,evi,h⟩:=h
 rw [qh]at h
 refine Subscript_ (thn (he.run pins s σ H (fun x H1=>∃ (B':Base),B'.pr=B.pr∧tE T B' Φ W sk σ H1 fun y H2=>∃ a w,x = .ref a∧((∃ vs i,(Rd H2 a (.lst vs)∨H2 a=some (.tup vs))∧y = .int i∧atI vs i=some w)∨DGet H2 a y (some w))∧Q w H2) I ⟨ρ,l,o,v,a,evi,h.bind.mono fun ks ρ1 k1=>?_⟩) ?_)
 ·have k1:=k1.bind
  refine⟨?_,fun H1 x a1 pa=>?_⟩
  ·cases e1:ev Φ sk ρ1 with
   | bad=>rw [e1]at k1; exact k1.elim
   | ok ok ρ2 =>
    rw [e1]at k1
    obtain⟨⟨p,hp⟩,_⟩:=k1
    obtain⟨r,o2⟩:=p
    exact wJ hp
   | exc C p ρ2=>rw [e1]at k1; exact k1.elim
  ·obtain⟨B',hpr,a2,back⟩:=a1.hold
   refine⟨B',hpr,ρ1,l,a2,RG.rp (RG.held (K:=_) (fun p hp=>a1.pr p hp) (fun H' ρ' m a'=>(back H' ρ' σ m a1.pr a').1) k1.unX fun ok ρ2 k2=>?_)⟩
   intro y H2 a3
   obtain⟨a4,pres⟩:=back H2 ρ2 σ _ a1.pr a3
   obtain⟨⟨p,hp⟩,k3⟩:=k2
   obtain⟨r,o2⟩:=p
   have s4:Sat T B H2 ((o,v)::(ok,y)::(ah ρ2 σ++l)):=a4.sat.perm (List.perm_middle.trans (List.perm_middle.cons _))
   obtain⟨o',w,ad,rest,o1,pw,_,_,_⟩:=iH s4 hp
   obtain⟨x',p1,p2⟩:=pw.unsnoc
   obtain⟨q0,hq0⟩:=wJ hp
   have px:=pres ks _ _ x hq0 pa
   rw [px.inj p1]
   obtain⟨a',ea,hst⟩:=wL s4 p2 (ae.read2 s4)
   refine⟨a',w,ea,hst,k3 H2 w ?_ pw⟩
   exact(a4.perm (.swap _ _ _)).drop
 ·rintro u s1 ⟨x,H1,I1,r1,B',hpr,q1⟩
  refine thn ((hk B' hpr).run pins s1 σ H1 _ I1 q1) fun iv s2 ⟨y,H2,I2,r2,q2⟩=>?_
  exact DS (by omega) e k pins s2 σ H2 x y u iv Q I2 r1 r2 q2 (hs _ _)
theorem Fp {k:Mu}{i:Nat}{rp:List SE}{ses:List SE}{σ:L2.St}{H:Hp}{ρ:Env}{l:List bf}{Q:VK} (a:At T B H ρ σ l) (h:RG T B W σ l (ev Φ (.mu k i rp ses) ρ) fun o ρ=>∀ v H,At T B H ρ σ ((o,v)::l)→Q v H) (hK:X.K=T.K) :
  Fm T B Φ W i rp σ H fun x H1=>tyV X.K "list" x H1∧∃ B':Base,B'.pr=B.pr∧tL T B' Φ W ses σ H1 fun xs H2=>GF T k x xs H2 Q:=by
 rw [ev]at h
 obtain⟨o,eo,h⟩:=h.bnd
 obtain⟨v,ev⟩:=a.ok.at eo
 have a0:=a.take eo ev
 have hi:i < σ.length:=oh ev
 refine⟨ρ.set i none,l,o,v,a0,ev,RG.more1 (h.bind.mono fun ks ρ1 k1=>?_)⟩
 obtain⟨q1,hq1,k1⟩:=k1.bnd
 obtain⟨r1,o2⟩:=q1
 refine⟨BH hq1 fun _ _=>rfl,fun H1 x a1 pa=>⟨?_,?_⟩⟩
 ·have s1:Sat T B H1 ((o,v)::(ah ρ1 σ++l)):=a1.sat.perm List.perm_middle
  obtain⟨o',x',ad,rest,o1,p1,e1,s2,_⟩:=iH s1 hq1
  rw [pa.inj p1]
  obtain⟨_,em,_⟩:=Option.map_eq_some_iff.mp e1
  cases o' with
  | lst zs =>
   obtain⟨b,vs,rfl,hb,_,_⟩:=s2.openL
   exact .inl ⟨rfl,vs,SqL.of hb⟩
  | _=>cases em
 ·obtain⟨B',hpr,a2,back⟩:=a1.hold
  refine⟨B',hpr,ρ1,l,a2,RG.held (K:=_) (fun p hp=>a1.pr p hp) (fun H' ρ' m a'=>(back H' ρ' σ m a1.pr a').1) (RG.more1 k1.bind) fun os ρ2 k2 vs H2 hl a3=>?_⟩
  obtain⟨a4,pres⟩:=back H2 ρ2 σ _ a1.pr a3
  obtain⟨q2,hq2,k3⟩:=k2.bnd
  obtain⟨r,o3⟩:=q2
  have s4:Sat T B H2 ((o,v)::(os.zip vs++(ah ρ2 σ++l))):=a4.sat.perm (List.perm_middle.trans (aG.cons _))
  obtain⟨o',x',ad,rest,o1,p1,e1,s5,close⟩:=iH s4 hq2
  have px:=pres ks _ _ x hq1 pa
  have ex:x=x':=px.inj p1
  subst ex
  have k3:∀ u H,At T B H (ρ2.set i (some o3)) σ ((r,u)::l)→Q u H:=k3
  refine⟨B,o',os,rest++(ah ρ2 σ++l),ad++[],r,o1,hl,s5.perm (aG.cons _),e1,fun u H' hb s6=>k3 u H' ?_⟩
  have s7:ae T B H' [] ((o3,v)::((r,u)::(ah ρ2 σ++l))):=close H' _ ⟨fun b hb'=>hb.1 b (by simp [hb']),hb.2⟩ (s6.perm (by
   have p1:((r,u)::(rest++(ah ρ2 σ++l))).Perm (rest++(r,u)::(ah ρ2 σ++l)):=List.perm_middle.symm
   exact p1.cons _))
  have a5:At T B H' ρ2 σ ((o3,v)::(r,u)::l):=⟨a3.ok,s7.perm (by
   have p1:((o3,v)::(r,u)::(ah ρ2 σ++l)).Perm ((o3,v)::(ah ρ2 σ++(r,u)::l)):=List.perm_middle.symm.cons _
   exact p1.trans List.perm_middle.symm),a1.pr⟩
  have hi2:i < ρ2.length:=by rw [a3.ok.len]; exact hi
  have t:=(a5.clear i).fill (i:=i) (by unfold ax; rw [List.getElem?_set_self hi2]; rfl) (by simpa using hi2) ev
  rw [List.set_set]at t
  exact t
section
variable {e:Expr}{es:List Expr}{ses rp:List SE}{k:Mu}{nm:Str}{id:String}{apos cpos:Pos}
theorem IS (hK:X.K=T.K) (slot:Slot "list" nm id) (hty:typeOf (.builtin id)=pure (.type "method_descriptor")) (hm:MtR X id (GF T k)) (he:PE X e (Fm T B Φ W i rp))
  (hbase:attributeBase e nm X.env (eval e X.env)=eval e X.env) (hline:(apos.endLine == cpos.line)=true):PE X (.Call (.Attribute e nm apos) [] [] cpos) (tE T B Φ W (.mu k i rp [])) :=
 (pe_bm0 PySem.F.plainAttrs_list slot hty hm he hbase hline).pv fun σ H Q ⟨ρ,l,a,h⟩=>by
  obtain⟨ρ',l',o,v,a1,ev,h1⟩:=Fp (X:=X) a h.rg hK
  refine⟨ρ',l',o,v,a1,ev,h1.mono fun ks ρ1 ⟨p,k1⟩=>⟨p,fun H' x a2 pa=>?_⟩⟩
  obtain⟨ty,B',hpr,ρ2,l2,a3,k2⟩:=k1 H' x a2 pa
  rw [lJ]at k2
  have k2:∀ vs H',([]:List O).length=vs.length→At T B' H' ρ2 σ (([]:List O).zip vs++l2)→GF T k x vs H' Q:=k2
  exact⟨ty,k2 [] H' rfl a3⟩
theorem GG {e1:Expr} (hK:X.K=T.K) (slot:Slot "list" nm id) (hty:typeOf (.builtin id)=pure (.type "method_descriptor")) (hm:MtR X id (GF T k)) (he:PE X e (Fm T B Φ W i rp)) (ha:∀ B':Base,B'.pr=B.pr→PA X (e1::es) (tL T B' Φ W ses))
  (hbase:attributeBase e nm X.env (eval e X.env)=eval e X.env)
  (hfew:((backTo cpos (starEach (e1::es) X.env)).all (fun x=>! x.1)&&(backToKw cpos (keywordEach [] X.env)).all (fun x=>x.1.isSome)
   && decide ((e1::es).length+([]:List Keyword).length+(if([]:List Keyword).isEmpty then 0 else 1) < 30))=true)
  (hline:(apos.endLine == cpos.line)=true) (hs:starEach (e1::es) X.env=(false,eval e1 X.env)::starEach es X.env) (hplain:(backTo cpos (starEach es X.env)).any (·.1)=false) :
  PE X (.Call (.Attribute e nm apos) (e1::es) [] cpos) (tE T B Φ W (.mu k i rp ses)):=by
 have hA:PA X (e1::es) (fun σ H Q=>∃ B':Base,B'.pr=B.pr∧tL T B' Φ W ses σ H Q):=⟨fun pos pins s σ H Q I ⟨B',hpr,h⟩=>(ha B' hpr).run pos pins s σ H Q I h⟩
 exact(pe_bm PySem.F.plainAttrs_list slot hty hm he hA hbase hfew hline hs hplain).pv fun σ H Q ⟨ρ,l,a,h⟩=>Fp a h.rg hK
end
end
end PV
namespace PV
open PySem PySem.Spec PyProof.Rows L2
theorem qi (l:Addr) (items:Array Value) :
  Meets (Builtin.«enumerate.__new__» ⟨[.type "enumerate",.ref l],[]⟩) (fun _ R s=>s.heap.IsTuple l items ∧
   R (.ok (.ret (.ref (s.heap.push {cls:=.type "tuple_iterator",data:=.fields #[.ref l,.int 0 0]}).objs.size)))
    {s with heap:=(s.heap.push {cls:=.type "tuple_iterator",data:=.fields #[.ref l,.int 0 0]}).push {cls:=.type "enumerate",data:=.fields #[.none,.bool false,.ref s.heap.objs.size,rawInt 0,.none,.none]}}) :=
 .of_wp fun prog w A R s h=>by
  obtain⟨hp,g,d,tk,os⟩:=s; obtain⟨hl,h⟩:=h
  have hsub:=sub_enumerate
  wp_walk
  refine wpAny_stack_any fun st=>wpAny_pure ?_
  split
  ·rename_i c _ _ _ _ _
   cases (c == Value.type "enumerate")
   ·wp_walk using wpAny_pyIter_tuple hl
    exact⟨_,rfl,h⟩
   ·wp_walk using wpAny_pyIter_tuple hl
    exact⟨_,rfl,h⟩
  ·wp_walk using wpAny_pyIter_tuple hl
   exact⟨_,rfl,h⟩
theorem ya {prog:Program}{w:World}{A:Around}{E:Value→Shared→Prop}{s:Shared}{l:Addr}{items:Array Value}{Q:Value→Shared→Prop} (hL:s.heap.IsTuple l items)
  (h:∀ h',IsEnum h' (s.heap.objs.size+1) s.heap.objs.size 0 .none→h'.IsTupleIter s.heap.objs.size l 0→h'.objs.size=s.heap.objs.size+2 →
   (∀ b o,s.heap.get? b=some o→h'.get? b=some o)→Q (.ref (s.heap.objs.size+1)) {s with heap:=h'}) :
  wpAny (model prog w) A (call (.type "enumerate") [.ref l]) Q E s:=by
 refine callType_new F.called_enumerate (by decide) (F.typeCall_enumerate_1 _) (F.newCall_enumerate_1 _) (fun obj=>F.args_object_init_2 obj _) F.entry_enumerate_new (qi l items) ⟨hL,?_⟩
 have hz:(s.heap.push {cls:=.type "tuple_iterator",data:=.fields #[.ref l,.int 0 0]}).objs.size=s.heap.objs.size+1:=Heap.size_push ..
 show _∧_
 rw [hz]
 have he:IsEnum ((s.heap.push {cls:=.type "tuple_iterator",data:=.fields #[.ref l,.int 0 0]}).push {cls:=.type "enumerate",data:=.fields #[.none,.bool false,.ref s.heap.objs.size,rawInt 0,.none,.none]}) (s.heap.objs.size+1) s.heap.objs.size 0 .none:=by
  have:=Heap.get?_push_size (s.heap.push {cls:=.type "tuple_iterator",data:=.fields #[.ref l,.int 0 0]}) (o:={cls:=.type "enumerate",data:=.fields #[.none,.bool false,.ref s.heap.objs.size,rawInt 0,.none,.none]}) rfl
  rw [hz]at this; exact this
 exact⟨⟨_,he,rfl⟩,h _ he ⟨_,Heap.get?_push_of_some _ (Heap.get?_push_size _ rfl),rfl,rfl⟩ (by rw [Heap.size_push,hz]) fun b o x=>Heap.get?_push_of_some _ (Heap.get?_push_of_some _ x)⟩
def GH (K:PySem.W.Frag) (a:Addr):It :=
 ⟨fun i H=>∃ (xs:List V) (x:V),SqT K H a xs∧xs[i]?=some x,fun i H v H'=>∃ T x,v = .ref T∧H T=none∧H'=upd H T (.tup [.int (i:Nat),x])∧∀ xs,SqT K H a xs→xs[i]?=some x,fun i H=>∃ xs:List V,SqT K H a xs∧xs.length=i⟩
theorem yb {P:Program}{w:World}{K:PySem.W.Frag}{elts:List Expr}{kk:Nat}{tpos:Pos} (a e it:Addr) :
  Turn P w K (.Tuple elts kk tpos) (GH K a) [e,it] e (fun i h=>(∃ old,IsEnum h e it ((i:Nat):Int) old)∧h.IsTupleIter it a i∧e≠it∧a≠it∧a≠e) where
 mem:=by simp
 obj:=fun i h st b hb=>by
  obtain⟨⟨old,he⟩,⟨o,ho,hc,hd⟩,_⟩:=st
  have e':b=e∨b=it:=by simpa using hb
  rcases e' with z | z
  ·rw [z]; exact⟨_,he,fun v q=>nomatch q⟩
  ·rw [z]; exact⟨o,ho,fun v q=>by rw [hd]at q; cases q⟩
 keep:=fun i h h' st k=>let ⟨⟨old,he⟩,hi,hne⟩:=st; ⟨⟨old,k e (by simp) _ he⟩,hi.at fun o q=>k it (by simp) o q,hne⟩
 item:=by
  intro X hP hw hK hc i pins s σ H E I hf st hg
  subst hP hw hK
  obtain⟨⟨old,he⟩,hit,hne,hai,hae⟩:=st
  obtain⟨xs,x,hq,hx⟩:=hg
  obtain⟨its,rv,p,hz⟩:=I.tuple hq
  obtain⟨u,hu,ru⟩:=rv.get hx
  have hel:e < s.heap.objs.size:=Heap.lt_size he
  have hil:it < s.heap.objs.size:=by obtain⟨_,q,_⟩:=hit; exact Heap.lt_size q
  have hin:i < its.toArray.size:=by
   obtain⟨q,_⟩:=List.getElem?_eq_some_iff.mp hu
   simpa using q
  refine wpAny_pyNext_enum_itemD (Draws.tuple (prog:=X.prog) (w:=X.w) (A:=X.A.in1) (by simpa using I.ok.hd hc) it a hai its.toArray) he ⟨hit,p⟩ hin hne (by simp [hne,Ne.symm hae]) fun x' h' tk px ho hs' hT hsz hk=>?_
  have ex:x'=u:=by
   have px:its.toArray[i]?=some x':=px
   have:its[i]?=some x':=by simpa using px
   rw [hu]at this
   exact(Option.some.inj this).symm
  subst ex
  obtain⟨hit',_⟩:=hs'
  refine⟨_,rfl,wpAny_letOwnedTupleGo_enum (s:={s with heap:=h',toks:=tk+1}) ho fun h'' he' sb=>?_⟩
  have hT2:h''.get? s.heap.objs.size=some {cls:=.type "tuple",data:=.seq #[.int i tk,x']}:=(sb.2 _ (Nat.ne_of_gt hel)).trans hT
  have new:ObjOk X.prog X.w (upd H s.heap.objs.size (.tup [.int (i:Nat),x])) h'' s.heap.objs.size (.tup [.int (i:Nat),x]) :=
   ⟨by show 2≤sizeLine; decide,[.int i tk,x'],.cons ⟨_,rfl⟩ (.cons ru .nil),⟨_,hT2,rfl,_,rfl⟩⟩
  have I1:Inv X pins σ (upd H s.heap.objs.size (.tup [.int (i:Nat),x])) {s with heap:=h'',toks:=tk+1} :=
   I.turnedNew (ch:=[e,it]) (fun b ob hb q=>(sb.2 b (fun z=>hb (by simp [z]))).trans (hk b ob (fun z=>hb (by simp [z])) (fun z=>hb (by simp [z])) q)) hf (Nat.le_refl _) new
  refine⟨.ref s.heap.objs.size,_,I1,rfl,⟨_,x,rfl,I.hok.fresh (Nat.le_refl _),rfl,fun ys hy=>by rw [I.tuple_inj hy hq]; exact hx⟩,⟨⟨x',?_⟩,hit'.at fun o q=>(sb.2 it (Ne.symm hne)).trans q,hne,hai,hae⟩,fun b hb=>?_⟩
  ·have e1:((i+1:Nat):Int)=(i:Int)+1:=by omega
   rw [e1]; exact he'
  ·have hb':b < s.heap.objs.size:=by
    have e':b=e∨b=it:=by simpa using hb
    rcases e' with z | z
    ·rw [z]; exact hel
    ·rw [z]; exact hil
   rw [upd_ne (Nat.ne_of_lt hb')]
   exact(hf b hb).1
 done:=by
  intro X hP hw hK hc i pins s σ H E I hf st hg
  subst hP hw hK
  obtain⟨⟨old,he⟩,hit,hne,hai,hae⟩:=st
  obtain⟨xs,hq,hx⟩:=hg
  obtain⟨its,rv,p,hz⟩:=I.tuple hq
  obtain⟨f0,f1,f2,f3,f4,f5⟩:=hf it (by simp)
  have hl:=rv.length
  have hin:i=its.toArray.size:=by rw [← hx,hl]; simp
  subst hin
  exact wpAny_pyNext_enum_endD (Draws.tuple (prog:=X.prog) (w:=X.w) (A:=X.A.in1) (by simpa using I.ok.hd hc) it a hai its.toArray) he ⟨hit,p⟩ fun h' eb=>⟨rfl,I.turned (t':=s.toks) (fun b o hb q=>eb b o hb q) f0 f1 f3 f4 f5⟩
 self:=fun A i s Q E st h=>let ⟨⟨_,he⟩,_⟩:=st; wpAny_pyIter_enum he h
def GI (K:PySem.W.Frag) (ta:TA):TI:=fun σ H R=>ta σ H fun vs H1=>∃ a xs,vs = [.ref a]∧((SqL K H1 a xs∧R (Ite K a) H1)∨(SqT K H1 a xs∧R (GH K a) H1))
theorem BI {X:Cx}{e:Expr}{ta:TA}{p pos tpos:Pos}{elts:List Expr}{kk:Nat} (hg:Gl X "enumerate") (hm:X.mg "enumerate" = none) (ha:PA X [e] ta) (hs:starEach [e] X.env = [(false,eval e X.env)]:=by rfl) :
  PI X (.Tuple elts kk tpos) (.Call (.Name "enumerate" p) [e] [] pos) (GI X.K ta):=by
 refine⟨fun pins s σ H R I h=>?_⟩
 refine Call_ (ld_blt I hg hm boot_enumerate (PyProof.Rows.callWith_type1 (thn (ha.run pos pins s σ H _ I h) fun us s1 ⟨vs,H1,I1,r1,q1⟩=>?_) hs rfl))
 obtain⟨a,xs,ex,q⟩:=q1
 subst ex
 cases r1 with
 | cons r rr =>
  cases rr
  cases r
  have fo:∀ b∈[s1.heap.objs.size+1,s1.heap.objs.size],s1.heap.objs.size≤b:=fun b hb=>by
   have e':b=s1.heap.objs.size+1∨b=s1.heap.objs.size:=by simpa using hb
   rcases e' with z | z
   ·rw [z]; exact Nat.le_add_right _ _
   ·rw [z]; exact Nat.le_refl _
  rcases q with⟨hq,q⟩ | ⟨hq,q⟩
  ·obtain⟨its,rv,p',hz⟩:=I1.list hq
   refine call_enumerate_list p'.isList fun h' he hit hsz hk=>wpAny_pyIter_enum he ?_
   have I2:Inv X pins σ H1 {s1 with heap:=h'}:=I1.kept (t':=s1.toks) hk
   exact⟨s1.heap.objs.size+1,[s1.heap.objs.size+1,s1.heap.objs.size],_,_,H1,rfl,I2,turn_enum a (s1.heap.objs.size+1) s1.heap.objs.size,⟨⟨.none,he⟩,hit,Nat.succ_ne_self _⟩,fun b hb=>I1.fpOk (fo b hb) (I1.hok.fresh (fo b hb)),q⟩
  ·obtain⟨its,rv,p',hz⟩:=I1.tuple hq
   have hal:a < s1.heap.objs.size:=p'.lt
   refine ya (l:=a) (items:=its.toArray) p' fun h' he hit hsz hk=>wpAny_pyIter_enum he ?_
   have I2:Inv X pins σ H1 {s1 with heap:=h'}:=I1.kept (t':=s1.toks) hk
   exact⟨s1.heap.objs.size+1,[s1.heap.objs.size+1,s1.heap.objs.size],_,_,H1,rfl,I2,yb a (s1.heap.objs.size+1) s1.heap.objs.size,⟨⟨.none,he⟩,hit,Nat.succ_ne_self _,Nat.ne_of_lt hal,Nat.ne_of_lt (Nat.lt_succ_of_lt hal)⟩,fun b hb=>I1.fpOk (fo b hb) (I1.hok.fresh (fo b hb)),q⟩
end PV
namespace PV
open PySem PySem.Spec PyProof.Rows L2
structure Wk (T:Tab) (B:Base) (J:It) (ds:List D) (held:List bf):Prop where
 goes:∀ i H l,i < ds.length→Sat T B H (held++l)→J.go i H
 stops:∀ H l,Sat T B H (held++l)→J.stop ds.length H
 yields:∀ i H v H' l,i < ds.length→Sat T B H (held++l)→J.yld i H v H'→∃ d,ds[i]?=some d∧Sat T B H' ((.d d,v)::(held++l))
section
variable {T:Tab}{B:Base}{Φ:cU}{W:WX}{X:Cx}{K:PySem.W.Frag}
theorem jf {xs:List D}{vs:List V} (hl:xs.length=vs.length) {i:Nat} (hi:i < xs.length):∃ d w,xs[i]?=some d∧vs[i]?=some w:=⟨xs[i],vs[i]'(by omega),List.getElem?_eq_getElem hi,List.getElem?_eq_getElem (by omega)⟩
theorem DT {o:O}{a:Addr}{xs:List D} (e:o.frz = .lst xs):Wk T B (Itl T.K a) xs [(o.shal,.ref a)]:=by
 have e':o.shal.frz = .lst xs:=by rw [lO,e]
 have rd:∀ {H:Hp}{l:List bf},Sat T B H ((o.shal,.ref a)::l)→∃ vs,SqL T.K H a vs∧xs.length=vs.length∧ae T B H [] ((xs.map O.d).zip vs++(o.shal,.ref a)::l):=fun {H l} s=>by
  obtain⟨b,vs,eb,ha,hl,s1⟩:=Sat.kidsL s e'
  cases eb
  have:o.shal.shal=o.shal:=by
   cases o <;> simp only [O.shal,List.map_map] <;> congr 1
  rw [this]at s1
  exact⟨vs,ha,hl,s1⟩
 refine⟨fun i H l hi s=>?_,fun H l s=>?_,fun i H v H' l hi s y=>?_⟩
 ·obtain⟨vs,ha,hl,_⟩:=rd s
  obtain⟨d,w,_,hw⟩:=jf hl hi
  exact⟨vs,w,ha,hw⟩
 ·obtain⟨vs,ha,hl,_⟩:=rd s
  exact⟨vs,ha,by omega⟩
 ·obtain⟨vs,ha,hl,s1⟩:=rd s
  obtain⟨d,w,hd,hw⟩:=jf hl hi
  obtain⟨rfl,y⟩:=y
  have:=y vs ha
  rw [hw]at this
  cases this
  exact⟨d,hd,ae.pick (zip_get hd hw) s1⟩
theorem GJ {o:O}{a:Addr}{xs:List D} (e:o.frz = .tup xs):Wk T B (Itt T.K a) xs [(o.shal,.ref a)]:=by
 have e':o.shal.frz = .tup xs:=by rw [lO,e]
 have rd:∀ {H:Hp}{l:List bf},Sat T B H ((o.shal,.ref a)::l)→∃ vs,SqT T.K H a vs∧xs.length=vs.length∧ae T B H [] ((xs.map O.d).zip vs++(o.shal,.ref a)::l):=fun {H l} s=>by
  obtain⟨b,vs,eb,ha,hl,s1⟩:=Sat.kidsT s e'
  cases eb
  have:o.shal.shal=o.shal:=by
   cases o <;> simp only [O.shal,List.map_map] <;> congr 1
  rw [this]at s1
  exact⟨vs,ha,hl,s1⟩
 refine⟨fun i H l hi s=>?_,fun H l s=>?_,fun i H v H' l hi s y=>?_⟩
 ·obtain⟨vs,ha,hl,_⟩:=rd s
  obtain⟨d,w,_,hw⟩:=jf hl hi
  exact⟨vs,w,ha,hw⟩
 ·obtain⟨vs,ha,hl,_⟩:=rd s
  exact⟨vs,ha,by omega⟩
 ·obtain⟨vs,ha,hl,s1⟩:=rd s
  obtain⟨d,w,hd,hw⟩:=jf hl hi
  obtain⟨rfl,y⟩:=y
  have:=y vs ha
  rw [hw]at this
  cases this
  exact⟨d,hd,ae.pick (zip_get hd hw) s1⟩
theorem GK {z:Str}{held:List bf}:Wk T B (Its z) (z.cps.toList.map fun c=>.str ⟨#[c]⟩) held:=by
 refine⟨fun i H l hi s=>?_,fun H l s=>?_,fun i H v H' l hi s y=>?_⟩
 ·show i < z.cps.size
  simpa using hi
 ·show z.cps.size≤_
  simp
 ·obtain⟨rfl,c,hc,rfl⟩:=y
  refine⟨.str ⟨#[c]⟩,?_,s.str⟩
  rw [List.getElem?_map,Array.getElem?_toList,hc]; rfl
theorem BJ {lo:Int}{n:Nat}{held:List bf}:Wk T B (Itr lo n) (bB lo n) held:=by
 have hl:(bB lo n).length=n:=by simp [bB]
 refine⟨fun i H l hi s=>?_,fun H l s=>?_,fun i H v H' l hi s y=>?_⟩
 ·show i < n
  rw [← hl]; exact hi
 ·show n≤_
  rw [hl]
  exact Nat.le_refl _
 ·obtain⟨rfl,rfl⟩:=y
  refine⟨.int (lo+(i:Nat)),?_,s.int⟩
  rw [hl]at hi
  simp [bB,hi]
theorem ae.newPair {d1 d2:D}{x y:V}{p:Addr}{H:Hp}{l:List bf} (s:Sat T B H ((.d d1,x)::(.d d2,y)::l)) (n:H p=none):Sat T B (upd H p (.tup [x,y])) ((.d (.tup [d1,d2]),.ref p)::l) :=
 Sat.newTd (xs:=[d1,d2]) (vs:=[x,y]) s rfl n
theorem Fq (o:O):o.shal.shal=o.shal:=by
 cases o <;> simp only [O.shal,List.map_map] <;> congr 1
theorem o7:∀ {xs:List D}{n i:Nat},(fE n xs)[i]?=(xs[i]?).map fun x=>.tup [.int ((n+i:Nat):Int),x]
 | [],n,i=>by simp [fE]
 | x::xs,n,0=>by simp [fE]
 | x::xs,n,i+1=>by
  rw [fE,List.getElem?_cons_succ,o7,List.getElem?_cons_succ]
  rw [show n+1+i=n+(i+1)by omega]
theorem eO:∀ {xs:List D}{n:Nat},(fE n xs).length=xs.length
 | [],n=>rfl
 | x::xs,n=>by simp [fE,eO (xs:=xs)]
theorem DU {o:O}{a:Addr}{xs:List D} (e:o.frz = .lst xs):Wk T B (Ite T.K a) (fE 0 xs) [(o.shal,.ref a)]:=by
 have e':o.shal.frz = .lst xs:=by rw [lO,e]
 have rd:∀ {H:Hp}{l:List bf},Sat T B H ((o.shal,.ref a)::l)→∃ vs,SqL T.K H a vs∧xs.length=vs.length∧ae T B H [] ((xs.map O.d).zip vs++(o.shal,.ref a)::l):=fun {H l} s=>by
  obtain⟨b,vs,eb,ha,hl,s1⟩:=Sat.kidsL s e'
  cases eb
  rw [Fq]at s1
  exact⟨vs,ha,hl,s1⟩
 refine⟨fun i H l hi s=>?_,fun H l s=>?_,fun i H v H' l hi s y=>?_⟩
 ·obtain⟨vs,ha,hl,_⟩:=rd s
  rw [eO]at hi
  obtain⟨d,w,_,hw⟩:=jf hl hi
  exact⟨vs,w,ha,hw⟩
 ·obtain⟨vs,ha,hl,_⟩:=rd s
  rw [eO]
  exact⟨vs,ha,by omega⟩
 ·obtain⟨vs,ha,hl,s1⟩:=rd s
  rw [eO]at hi
  obtain⟨d,w,hd,hw⟩:=jf hl hi
  obtain⟨p,x,rfl,hp,rfl,y⟩:=y
  have:=y vs ha
  rw [hw]at this
  cases this
  refine⟨.tup [.int (i:Nat),d],?_,ae.newPair ?_ hp⟩
  ·rw [o7,hd]; simp
  ·exact(ae.pick (zip_get hd hw) s1).int
theorem BK {o:O}{a:Addr}{xs:List D} (e:o.frz = .tup xs):Wk T B (GH T.K a) (fE 0 xs) [(o.shal,.ref a)]:=by
 have e':o.shal.frz = .tup xs:=by rw [lO,e]
 have rd:∀ {H:Hp}{l:List bf},Sat T B H ((o.shal,.ref a)::l)→∃ vs,SqT T.K H a vs∧xs.length=vs.length∧ae T B H [] ((xs.map O.d).zip vs++(o.shal,.ref a)::l):=fun {H l} s=>by
  obtain⟨b,vs,eb,ha,hl,s1⟩:=Sat.kidsT s e'
  cases eb
  rw [Fq]at s1
  exact⟨vs,ha,hl,s1⟩
 refine⟨fun i H l hi s=>?_,fun H l s=>?_,fun i H v H' l hi s y=>?_⟩
 ·obtain⟨vs,ha,hl,_⟩:=rd s
  rw [eO]at hi
  obtain⟨d,w,_,hw⟩:=jf hl hi
  exact⟨vs,w,ha,hw⟩
 ·obtain⟨vs,ha,hl,_⟩:=rd s
  rw [eO]
  exact⟨vs,ha,hl.symm⟩
 ·obtain⟨vs,ha,hl,s1⟩:=rd s
  rw [eO]at hi
  obtain⟨d,w,hd,hw⟩:=jf hl hi
  obtain⟨p,x,rfl,hp,rfl,y⟩:=y
  have:=y vs ha
  rw [hw]at this
  cases this
  refine⟨.tup [.int (i:Nat),d],?_,ae.newPair ?_ hp⟩
  ·rw [o7,hd]; simp
  ·exact(ae.pick (zip_get hd hw) s1).int
theorem GL {tg e:Expr}{te:TE} (he:PE X e te):PI X tg e (fun σ H R=>te σ H fun x H1=>(∃ a xs,x = .ref a∧SqL X.K H1 a xs∧R (Itl X.K a) H1)∨(∃ a xs,x = .ref a∧SqT X.K H1 a xs∧R (Itt X.K a) H1)∨∃ z,x = .str z∧R (Its z) H1):=by
 refine⟨fun pins s σ H R I h=>?_⟩
 refine thn (he.run pins s σ H _ I h) fun v s1 ⟨x,H1,I1,r1,q1⟩=>?_
 rcases q1 with⟨a,xs,rfl,hq,q⟩ | ⟨a,xs,rfl,hq,q⟩ | ⟨z,rfl,q⟩
 ·cases r1
  obtain⟨its,rv,p,hz⟩:=I1.list hq
  exact wpAny_pyIter_list p.isList (pi_one (tk:=s1.toks) I1 _ (turn_list a _) ⟨_,Heap.get?_push_size _ rfl,rfl,rfl⟩ q)
 ·cases r1
  obtain⟨its,rv,p,hz⟩:=I1.tuple hq
  exact wpAny_pyIter_tuple (show s1.heap.IsTuple a its.toArray from p) (pi_one (tk:=s1.toks) I1 _ (turn_tuple a _) ⟨_,Heap.get?_push_size _ rfl,rfl,rfl⟩ q)
 ·obtain⟨t,rfl⟩:=r1
  cases ha:z.cps.all (· < 128)
  ·exact wpAny_pyIter_wide ha (pi_one (tk:=s1.toks) I1 _ (turn_str _ z t "str_iterator" (.inr rfl)) ⟨_,Heap.get?_push_size _ rfl,rfl,rfl⟩ q)
  ·exact wpAny_pyIter_ascii ha (pi_one (tk:=s1.toks) I1 _ (turn_str _ z t "str_ascii_iterator" (.inl rfl)) ⟨_,Heap.get?_push_size _ rfl,rfl,rfl⟩ q)
def KG (K:PySem.W.Frag) (H:Hp) (n:Nat):Prop:=(∃ a xs,SqL K H a xs∧n≤xs.length)∨(∃ a xs,SqT K H a xs∧n≤xs.length)∨n≤sizeLine
theorem KG.le {pins:List (Addr×Obj)}{σ:L2.St}{H:Hp}{s:Shared}{n:Nat} (I:Inv X pins σ H s) (b:KG X.K H n):n≤sizeLine:=by
 rcases b with⟨a,xs,h,hn⟩ | ⟨a,xs,h,hn⟩ | hn
 ·obtain⟨_,_,_,z⟩:=I.list h
  exact Nat.le_trans hn z
 ·obtain⟨_,_,_,z⟩:=I.tuple h
  exact Nat.le_trans hn z
 ·exact hn
theorem BL {tg e:Expr}{wi:TI} (h:PI X tg e wi):PI X tg e (fun σ H R=>wi σ H fun J H'=>∃ n,KG X.K H' n∧(n≤sizeLine→R J H')) :=
 ⟨fun pins s σ H R I q=>thn (h.run pins s σ H _ I q) fun v s1 h1=>thn h1 fun itv s2 ⟨it,fp,tn,J,H',e,I',T,st,f,n,b,k⟩=>⟨it,fp,tn,J,H',e,I',T,st,f,k (b.le I')⟩⟩
def tI (T:Tab) (B:Base) (Φ:cU) (W:WX) (ie:IE):TI:=fun σ H R=>∃ ρ l,At T B H ρ σ l∧RG T B W σ l (n9 Φ ie ρ) fun p ρ'=>∀ vs J H',p.2.1.length=vs.length→cz σ p.1 vs→At T B H' ρ' σ (p.2.1.zip vs++l)→Wk T B J p.2.2 (p.2.1.zip vs)→p.2.2.length≤sizeLine→R J H'
theorem lG {tg e:Expr}{se:SE} (hK:X.K=T.K) (he:PE X e (tA T B Φ W se)):PI X tg e (tI T B Φ W (.of se)):=by
 refine⟨fun pins s σ H R I ⟨ρ,l,at_,h⟩=>(BL (GL he)).run pins s σ H R I ⟨ρ,l,at_,?_⟩⟩
 rw [n9]at h
 refine h.bind.mono fun α ρ1 k v H1 a1 av=>?_
 cases ef:aj α ρ1 with
 | bad=>rw [ef]at k; exact k.elim
 | exc C p ρ' =>
  cases α with
  | val o=>cases ef
  | slot i =>
   have ef:bnd (ax ρ1 i) (fun o=>Res.ok o (aj.taken o i ρ1)) = .exc C p ρ':=ef
   cases q:ax ρ1 i <;> rw [q]at ef <;> cases ef
 | ok o ρ2 =>
  rw [ef]at k
  have a2:=oj a1 av ef
  have k:RG T B W σ l ((Res.of (jP o.frz) ρ2).bind fun ds ρ=>Res.ok ([α],[o.shal],ds) ρ) _:=k
  obtain⟨ds,ed,k⟩:=k.bind.of
  have s2:Sat T B H1 ((o,v)::(ah ρ2 σ++l)):=a2.sat.perm List.perm_middle
  have s3:=fc s2
  have a3:At T B H1 ρ2 σ ([o.shal].zip [v]++l):=⟨a2.ok,s3.perm List.perm_middle.symm,a2.pr⟩
  have k:∀ vs J H',[o.shal].length=vs.length→cz σ [α] vs→At T B H' ρ2 σ ([o.shal].zip vs++l)→Wk T B J ds ([o.shal].zip vs)→ds.length≤sizeLine→R J H':=k
  cases ea:o.frz with
  | lst xs =>
   rw [ea]at ed
   injection ed with ed; subst ed
   obtain⟨a,vs,rfl,ha,hl,_⟩:=Sat.kidsL s2 ea
   exact .inl ⟨a,vs,rfl,by rw [hK]; exact ha,_,.inl ⟨a,vs,by rw [hK]; exact ha,Nat.le_of_eq hl⟩,by rw [hK]; exact k [.ref a] _ H1 rfl ⟨av,trivial⟩ a3 (DT ea)⟩
  | tup xs =>
   rw [ea]at ed
   injection ed with ed; subst ed
   obtain⟨a,vs,rfl,ha,hl,_⟩:=Sat.kidsT s2 ea
   exact .inr (.inl ⟨a,vs,rfl,by rw [hK]; exact ha,_,.inr (.inl ⟨a,vs,by rw [hK]; exact ha,Nat.le_of_eq hl⟩),by rw [hK]; exact k [.ref a] _ H1 rfl ⟨av,trivial⟩ a3 (GJ ea)⟩)
  | str z =>
   have d:=s2.read
   rw [ea]at ed d
   have d:v = .str z:=d
   subst d
   have ed:(if z.length≤sizeLine then some (z.cps.toList.map fun c=>D.str ⟨#[c]⟩)else none)=some ds:=ed
   split at ed
   ·rename_i hz
    injection ed with ed; subst ed
    exact .inr (.inr ⟨z,rfl,_,.inr (.inr hz),fun hz=>k [.str z] _ H1 rfl ⟨av,trivial⟩ a3 GK (by simpa [Str.length]using hz)⟩)
   ·cases ed
  | _=>rw [ea]at ed; cases ed
theorem IT {σ:L2.St}{H:Hp}{ρ:Env}{l:List bf}{o:O}{v:V} (a:At T B H ρ σ ((o,v)::l)):At T B H ρ σ ((o.shal,v)::l):=⟨a.ok,(fc (ae.perm a.sat List.perm_middle)).perm List.perm_middle.symm,a.pr⟩
theorem GN {elts:List Expr}{kk:Nat}{tpos p pos:Pos}{e:Expr}{se:SE} (hK:X.K=T.K) (hg:Gl X "enumerate") (hm:X.mg "enumerate" = none) (he:PE X e (tA T B Φ W se)) (hs:starEach [e] X.env = [(false,eval e X.env)]) :
  PI X (.Tuple elts kk tpos) (.Call (.Name "enumerate" p) [e] [] pos) (tI T B Φ W (.enum se)):=by
 refine⟨fun pins s σ H R I ⟨ρ,l,at_,h⟩=>(BL (BI hg hm (pa_cons he pa_nil (by rw [hs]; rfl)) hs)).run pins s σ H R I ⟨ρ,l,at_,?_⟩⟩
 rw [n9]at h
 refine h.bind.mono fun α ρ1 k v H1 a1 av=>?_
 cases ef:aj α ρ1 with
 | bad=>rw [ef]at k; exact k.elim
 | exc C p ρ' =>
  cases α with
  | val o=>cases ef
  | slot i =>
   have ef:bnd (ax ρ1 i) (fun o=>Res.ok o (aj.taken o i ρ1)) = .exc C p ρ':=ef
   cases q:ax ρ1 i <;> rw [q]at ef <;> cases ef
 | ok o ρ2 =>
  rw [ef]at k
  have a2:=oj a1 av ef
  have k:RG T B W σ l ((Res.of (DC o.frz) ρ2).bind fun ds ρ=>Res.ok ([α],[o.shal],fE 0 ds) ρ) _:=k
  obtain⟨ds,ed,k⟩:=k.bind.of
  have a3:At T B H1 ρ2 σ ([o.shal].zip [v]++l):=IT a2
  have k:∀ vs J H',[o.shal].length=vs.length→cz σ [α] vs→At T B H' ρ2 σ ([o.shal].zip vs++l)→Wk T B J (fE 0 ds) ([o.shal].zip vs)→(fE 0 ds).length≤sizeLine→R J H':=k
  cases ea:o.frz with
  | lst xs =>
   rw [ea]at ed
   injection ed with ed; subst ed
   obtain⟨a,vs,rfl,ha,hl,_⟩:=Sat.kidsL (ae.perm a2.sat List.perm_middle) ea
   exact⟨a,vs,rfl,.inl ⟨by rw [hK]; exact ha,_,.inl ⟨a,vs,by rw [hK]; exact ha,Nat.le_of_eq (eO.trans hl)⟩,by rw [hK]; exact k [.ref a] _ H1 rfl ⟨av,trivial⟩ a3 (DU ea)⟩⟩
  | tup xs =>
   rw [ea]at ed
   injection ed with ed; subst ed
   obtain⟨a,vs,rfl,ha,hl,_⟩:=Sat.kidsT (ae.perm a2.sat List.perm_middle) ea
   exact⟨a,vs,rfl,.inr ⟨by rw [hK]; exact ha,_,.inr (.inl ⟨a,vs,by rw [hK]; exact ha,Nat.le_of_eq (eO.trans hl)⟩),by rw [hK]; exact k [.ref a] _ H1 rfl ⟨av,trivial⟩ a3 (BK ea)⟩⟩
  | _=>rw [ea]at ed; cases ed
theorem oD:∀ {ses:List SE}{ρ ρ':Env}{os:List O},lJ Φ ses ρ = .ok os ρ'→os.length=ses.length
 | [],ρ,ρ',os,e=>by rw [lJ]at e; injection e with e; subst e; rfl
 | se::ses,ρ,ρ',os,e=>by
  rw [lJ]at e
  obtain⟨o,ρ1,_,e⟩:=Res.bind_of e
  obtain⟨os',ρ2,e1,e⟩:=Res.bind_of e
  injection e with e
  subst e
  simp [oD e1]
theorem At.intAt {σ:L2.St}{H:Hp}{ρ:Env}{l m:List bf}{i:Int}{v:V} (a:At T B H ρ σ (m++(.d (.int i),v)::l)):v = .int i :=
 (ae.perm (m:=(O.d (.int i),v)::(ah ρ σ++(m++l))) a.sat ((List.Perm.append_left _ List.perm_middle).trans List.perm_middle)).read
theorem lU {se:SE}{e tg:Expr}{p pos:Pos} (hg:Gl X "range") (hm:X.mg "range" = none) (ha:PA X [e] (tL T B Φ W [se])) (hs:starEach [e] X.env = [(false,eval e X.env)]) :
  PI X tg (.Call (.Name "range" p) [e] [] pos) (tI T B Φ W (.range [se])):=by
 refine⟨fun pins s σ H R I ⟨ρ,l,at_,h⟩=>(pi_range1 hg hm ha hs).run pins s σ H R I ⟨ρ,l,at_,?_⟩⟩
 rw [n9]at h
 refine h.bind.eq.mono fun os ρ1 ⟨eo,k⟩ vs H1 hl a1=>?_
 obtain⟨ds,ed,k⟩:=k.bind.of
 have hlo:=oD eo
 match os,hlo,ed with
 | [.d (.int n)],_,ed =>
  have ed:(if -(2 ^ 62)≤n∧n≤sizeLine then some (bB 0 n.toNat)else none)=some ds:=ed
  split at ed
  ·rename_i hz
   injection ed with ed; subst ed
   match vs,hl with
   | [v],_ =>
    have ev:=At.intAt (m:=[]) a1
    subst ev
    have k:∀ vs J H',([]:List O).length=vs.length→cz σ [] vs→At T B H' ρ1 σ (([]:List O).zip vs++l)→Wk T B J (bB 0 n.toNat) (([]:List O).zip vs)→(bB 0 n.toNat).length≤sizeLine→R J H':=k
    have h63:=sizeLine_eq
    exact⟨n,rfl,hz.1,by omega,k [] _ H1 rfl trivial a1.drop BJ (by simp [bB]; omega)⟩
  ·cases ed
 | [.d .non],_,ed=>cases ed
 | [.d (.bl _)],_,ed=>cases ed
 | [.d (.str _)],_,ed=>cases ed
 | [.d (.tup _)],_,ed=>cases ed
 | [.d (.lst _)],_,ed=>cases ed
 | [.d (.dic _ _)],_,ed=>cases ed
 | [.d (.obj _ _ _)],_,ed=>cases ed
 | [.d (.exc _ _)],_,ed=>cases ed
 | [.tup _],_,ed=>cases ed
 | [.lst _],_,ed=>cases ed
 | [.dic _ _],_,ed=>cases ed
 | [.obj _ _ _],_,ed=>cases ed
def SameBut (is:List Nat) (σ σ':L2.St):Prop:=σ'.length=σ.length∧∀ j,j∉is→σ'[j]?=σ[j]?
theorem SameBut.refl {is:List Nat}{σ:L2.St}:SameBut is σ σ:=⟨rfl,fun _ _=>rfl⟩
theorem SameBut.trans {is js:List Nat}{σ σ' σ'':L2.St} (a:SameBut is σ σ') (b:SameBut js σ' σ''):SameBut (is++js) σ σ'' :=
 ⟨b.1.trans a.1,fun j hj=>(b.2 j fun z=>hj (List.mem_append_right _ z)).trans (a.2 j fun z=>hj (List.mem_append_left _ z))⟩
def gT (T:Tab) (B:Base) (t:Tg):TG:=fun v σ H Q=>∃ d ρ ρ' l,At T B H ρ σ ((.d d,v)::l)∧aH t d ρ=some ρ'∧∀ σ',SameBut (fq t) σ σ'→At T B H ρ' σ' l→Q σ' H
def HY (T:Tab) (B:Base) (ts:List Tg):TGs:=fun vs σ H Q=>∃ ds ρ ρ' l,ds.length=vs.length∧At T B H ρ σ ((ds.map O.d).zip vs++l)∧aH.go ts ds ρ=some ρ'∧∀ σ',SameBut (n8 ts) σ σ'→At T B H ρ' σ' l→Q σ' H
theorem _root_.L2.PG.pv {X:Cx}{tg:Expr}{t t':TG} (h:PG X tg t) (i:∀ pins s v σ H Q,Inv X pins σ H s→t' v σ H Q→t v σ H Q):PG X tg t':=⟨fun pins s σ H v u Q I r q=>h.run pins s σ H v u Q I r (i pins s v σ H Q I q)⟩
theorem _root_.L2.PGs.pv {X:Cx}{tg:List Expr}{t t':TGs} (h:PGs X tg t) (i:∀ vs σ H Q,t' vs σ H Q→t vs σ H Q):PGs X tg t':=⟨fun pins s σ H v u Q I r q=>h.run pins s σ H v u Q I r (i v σ H Q q)⟩
theorem BM {i:Nat}{x:Str}{pos:Pos} (hN:X.N.Nodup) (hi:X.N[i]?=some x) (hx:Loc X.env.scope x) (hf:X.fn x=true∨X.env.scope.names.lookup x=some .local) (hp:∀ p∈B.pr,p.1≠i):PG X (.Name x pos) (gT T B (.nm i)) :=
 (pg_name hN hi hx hf).pv fun pins s v σ H Q I ⟨d,ρ,ρ',l,a,e,q⟩=>by
  have e:some (ρ.set i (some (.d d)))=some ρ':=by rw [aH]at e; exact e
  injection e with e
  subst e
  have hl:i < ρ.length:=by
   rw [a.ok.len,I.len]
   exact(List.getElem?_eq_some_iff.mp hi).1
  exact q _ ⟨by simp,fun j hj=>List.getElem?_set_ne (fun z=>hj (by rw [fq,z]; exact List.mem_cons_self))⟩ (a.store hl hp)
theorem uX:PGs X [] (HY T B []):=pgs_nil.pv fun vs σ H Q ⟨ds,ρ,ρ',l,hl,a,e,q⟩=>by
 cases ds with
 | nil =>
  have e:some ρ=some ρ':=by rw [aH.go]at e; exact e
  injection e with e
  subst e
  cases vs with
  | nil=>exact⟨rfl,q σ .refl a⟩
  | cons _ _=>simp at hl
 | cons d ds=>rw [aH.go]at e <;> first | cases e | simp
theorem lV {e:Expr}{es:List Expr}{t:Tg}{ts:List Tg} (h1:PG X e (gT T B t)) (h2:PGs X es (HY T B ts)) (hs:(assignEach (e::es) X.env).map (·.2)=assign e X.env::(assignEach es X.env).map (·.2)):PGs X (e::es) (HY T B (t::ts)) :=
 (pgs_cons h1 h2 hs).pv fun vs σ H Q ⟨ds,ρ,ρ',l,hl,a,e,q⟩=>by
  cases ds with
  | nil=>rw [aH.go]at e <;> first | cases e | simp
  | cons d ds =>
   cases vs with
   | nil=>simp at hl
   | cons v vs =>
    rw [aH.go]at e
    cases e1:aH t d ρ with
    | none=>rw [e1]at e; cases e
    | some ρ1 =>
     rw [e1]at e
     exact⟨v,vs,rfl,d,ρ,ρ1,(ds.map O.d).zip vs++l,a,e1,fun σ' sm a'=>⟨ds,ρ1,ρ',l,by simpa using hl,a',e,fun σ'' sm' a''=>q σ'' (by rw [n8]; exact sm.trans sm') a''⟩⟩
theorem uY:∀ {ts:List Tg}{ds:List D}{ρ ρ':Env},aH.go ts ds ρ=some ρ'→ts.length=ds.length
 | [],[],_,_,_=>rfl
 | [],_::_,_,_,e=>by rw [aH.go]at e <;> first | cases e | simp
 | _::_,[],_,_,e=>by rw [aH.go]at e <;> first | cases e | simp
 | t::ts,d::ds,ρ,ρ',e=>by
  rw [aH.go]at e
  cases e1:aH t d ρ with
  | none=>rw [e1]at e; cases e
  | some ρ1 =>
   rw [e1]at e
   simp [uY e]
theorem IU {es:List Expr}{k:Nat}{ts:List Tg}{pos:Pos} (hK:X.K=T.K) (hc:X.calm=true) (h:PGs X es (HY T B ts)) (hn:(assignEach es X.env).length=ts.length) (hst:(assignEach es X.env).findIdx? (·.1)=none):PG X (.Tuple es k pos) (gT T B (.tp ts)) :=
 (pg_tup (n:=ts.length) hc h hn hst).pv fun pins s v σ H Q I ⟨d,ρ,ρ',l,a,e,q⟩=>by
  cases d with
  | tup xs =>
   rw [aH]at e
   have s1:Sat T B H ((.d (.tup xs),v)::(ah ρ σ++l)):=a.sat.perm List.perm_middle
   obtain⟨b,vs,rfl,hb,hl,s2⟩:=Sat.kidsT s1 (xs:=xs) rfl
   refine⟨b,vs,rfl,by rw [hK]; exact hb,by rw [← hl,uY e],xs,ρ,ρ',l,hl,⟨a.ok,?_,a.pr⟩,e,fun σ' sm a'=>q σ' (by rw [fq]; exact sm) a'⟩
   have s3:ae T B H [] ((O.shal (.d (.tup xs)),V.ref b)::((xs.map O.d).zip vs++(ah ρ σ++l))):=s2.perm List.perm_middle
   exact s3.drop1.perm aG
  | _=>rw [aH]at e <;> first | cases e | simp
end
end PV
namespace PV
open PySem PySem.Spec PyProof.Rows L2
def RS (T:Tab) (B:Base) (W:WX) (D:Ends) (l:List bf) (r:Res Fl):Prop:=match r with
 | .ok .nx ρ=>∀ σ H,At T B H ρ σ l→D.nx σ H
 | .ok (.rt o) ρ=>∀ σ v H,At T B H ρ σ ((o,v)::l)→D.rt v H
 | .ok .bk ρ=>∀ σ H,At T B H ρ σ l→D.bk σ H
 | .ok .ct ρ=>∀ σ H,At T B H ρ σ l→D.ct σ H
 | .exc C p ρ=>∀ σ d H its,At T B H ρ σ (its++l)→tW T H C p d its→W (.ref (T.cls C)) d σ H
 | .bad=>False
def tS (T:Tab) (B:Base) (Φ:cU) (W:WX) (s:SS):TS:=fun D σ H=>∃ ρ l,At T B H ρ σ l∧RS T B W D l (bo Φ s ρ)
def AR (T:Tab) (B:Base) (Φ:cU) (W:WX) (ss:List SS):TS:=fun D σ H=>∃ ρ l,At T B H ρ σ l∧RS T B W D l (bC Φ ss ρ)
section
variable {T:Tab}{B:Base}{Φ:cU}{W:WX}{X:Cx}{D:Ends}{l m:List bf}{σ:L2.St}{H:Hp}{ρ:Env}
theorem RS.rg {α:Type}{r:Res α}{f:α→Env→Res Fl} (h:RS T B W D l (r.bind f)):RG T B W σ l r fun a ρ=>RS T B W D l (f a ρ):=by
 cases r with
 | ok a ρ=>exact h
 | exc C p ρ=>exact fun d H its a e=>h σ d H its a e
 | bad=>exact h
theorem RS.bnd {α:Type}{o:Option α}{f:α→Res Fl} (h:RS T B W D l (bnd o f)):∃ a,o=some a∧RS T B W D l (f a):=by
 cases o with
 | none=>exact h.elim
 | some a=>exact⟨a,rfl,h⟩
theorem _root_.L2.PS.pv {st:Stmt}{t t':TS} (h:PS X st t) (i:∀ D σ H,t' D σ H→t D σ H):PS X st t':=⟨fun pins s σ H D I q=>h.run pins s σ H D I (i D σ H q)⟩
theorem _root_.L2.PSs.pv {st:List Stmt}{t t':TS} (h:PSs X st t) (i:∀ D σ H,t' D σ H→t D σ H):PSs X st t':=⟨fun pins s σ H D I q=>h.run pins s σ H D I (i D σ H q)⟩
section
variable {e c:Expr}{se sc:SE}{pos:Pos}{st:Stmt}{rest a b:List Stmt}{ss:SS}{sr sa sb:List SS}
theorem ai:PSs X [] (AR T B Φ W []):=pss_nil.pv fun D σ H ⟨ρ,l,at_,h⟩=>by
 rw [bC]at h
 exact h σ H at_
theorem aa (h1:PS X st (tS T B Φ W ss)) (h2:PSs X rest (AR T B Φ W sr)):PSs X (st::rest) (AR T B Φ W (ss::sr)) :=
 (pss_cons h1 h2).pv fun D σ H ⟨ρ,l,at_,h⟩=>by
  rw [bC]at h
  refine⟨ρ,l,at_,?_⟩
  cases e:bo Φ ss ρ with
  | bad=>rw [e]at h; exact h
  | exc C p ρ'=>rw [e]at h; exact h
  | ok f ρ' =>
   rw [e]at h
   cases f with
   | nx=>exact fun σ' H' a'=>⟨ρ',l,a',h⟩
   | rt o=>exact h
   | bk=>exact h
   | ct=>exact h
theorem yc (he:PE X e (tE T B Φ W se)) (hs:swapsWith e none pos.line X.env=pure false):PS X (.Expr e pos) (tS T B Φ W (.exp se)) :=
 (ps_expr he hs).pv fun D σ H ⟨ρ,l,at_,h⟩=>by
  rw [bo]at h
  exact⟨ρ,l,at_,RG.rp (h.rg.mono fun o ρ1 k v H1 a1=>k σ H1 a1.drop)⟩
theorem aN (he:PE X e (tE T B Φ W se)):PS X (.Return (some e) pos) (tS T B Φ W (.ret se)) :=
 (ps_ret he).pv fun D σ H ⟨ρ,l,at_,h⟩=>by
  rw [bo]at h
  exact⟨ρ,l,at_,RG.rp (h.rg.mono fun o ρ1 k v H1 a1=>k σ v H1 a1)⟩
theorem cZ (hc:PT X c (tT T B Φ W sc)) (ha:PSs X a (AR T B Φ W sa)) (hb:PSs X b (AR T B Φ W sb)):PS X (.If c a b pos) (tS T B Φ W (.ite sc sa sb)) :=
 (ps_if hc ha hb).pv fun D σ H ⟨ρ,l,at_,h⟩=>by
  rw [bo]at h
  refine⟨ρ,l,at_,h.rg.mono fun t ρ1 k H1 a1=>?_⟩
  cases t with
  | true=>rw [if_pos rfl]; exact⟨ρ1,l,a1,k⟩
  | false=>rw [if_neg Bool.false_ne_true]; exact⟨ρ1,l,a1,k⟩
def gO (T:Tab) (B:Base) (t:Tg):TG:=fun v σ H Q=>∃ o ρ ρ' l,At T B H ρ σ ((o,v)::l)∧aQ t o ρ=some ρ'∧∀ σ' H',At T B H' ρ' σ' l→Q σ' H'
def HZ (T:Tab) (B:Base) (ts:List Tg):TGs:=fun vs σ H Q=>∃ os ρ ρ' l,os.length=vs.length∧At T B H ρ σ (os.zip vs++l)∧aQ.go ts os ρ=some ρ'∧∀ σ' H',At T B H' ρ' σ' l→Q σ' H'
theorem Fs {i:Nat}{x:Str} (hN:X.N.Nodup) (hi:X.N[i]?=some x) (hx:Loc X.env.scope x) (hf:X.fn x=true∨X.env.scope.names.lookup x=some .local) (hp:∀ p∈B.pr,p.1≠i):PG X (.Name x pos) (gO T B (.nm i)) :=
 (pg_name hN hi hx hf).pv fun pins s v σ H Q I ⟨o,ρ,ρ',l,a,e,q⟩=>by
  have e:some (ρ.set i (some o))=some ρ':=by rw [aQ]at e; exact e
  injection e with e
  subst e
  have hl:i < ρ.length:=by
   rw [a.ok.len,I.len]
   exact(List.getElem?_eq_some_iff.mp hi).1
  exact q _ _ (a.store hl hp)
theorem aM {tg:Expr}{t:Tg} (he:PE X e (tE T B Φ W se)) (hg:PG X tg (gO T B t)) (hs:swapsWithSole [tg] e pos.line X.env=pure false) (hw:swappedStores [tg] e X.env=pure none)
  (h1:(assignEach [tg] X.env).map (·.2) = [assign tg X.env]):PS X (.Assign [tg] e pos) (tS T B Φ W (.asg t se)) :=
 (ps_asg he hg hs hw h1).pv fun D σ H ⟨ρ,l,at_,h⟩=>by
  rw [bo]at h
  refine⟨ρ,l,at_,RG.rp (h.rg.mono fun o ρ1 k v H1 a1=>?_)⟩
  obtain⟨ρ2,e2,k⟩:=k.bnd
  exact⟨o,ρ1,ρ2,l,a1,e2,fun σ' H' a'=>k σ' H' a'⟩
def uZ:List Arg→List V→List (Nat×V)
 | .slot i::as,v::vs=>(i,v)::uZ as vs
 | .val _::as,_::vs=>uZ as vs
 | _,_=>[]
theorem u9 {σ:L2.St}:∀ {as:List Arg}{vs:List V},cz σ as vs→∀ p∈uZ as vs,σ[p.1]?=some (some p.2)
 | [],[],_,p,hp=>by cases hp
 | .slot i::as,v::vs,h,p,hp=>by
  rcases List.mem_cons.mp hp with rfl | hp
  ·exact h.1
  ·exact u9 h.2 p hp
 | .val o::as,v::vs,h,p,hp=>u9 (as:=as) (vs:=vs) h.2 p hp
 | [],_::_,h,p,hp=>h.elim
 | .slot _::_,[],h,p,hp=>h.elim
 | .val _::_,[],h,p,hp=>h.elim
theorem o8 {σ:L2.St}:∀ {as:List Arg}{vs:List V},as.length=vs.length→(∀ p∈uZ as vs,σ[p.1]?=some (some p.2))→cz σ as vs
 | [],[],_,h=>trivial
 | .slot i::as,v::vs,hl,h=>⟨h (i,v) List.mem_cons_self,o8 (by simpa using hl) fun p hp=>h p (List.mem_cons_of_mem _ hp)⟩
 | .val o::as,v::vs,hl,h=>⟨trivial,o8 (by simpa using hl) fun p hp=>h p hp⟩
 | [],_::_,hl,h=>by simp at hl
 | .slot _::_,[],hl,h=>by simp at hl
 | .val _::_,[],hl,h=>by simp at hl
theorem rn:∀ {as:List Arg}{vs:List V}{p:Nat×V},p∈uZ as vs→Arg.slot p.1∈as
 | .slot i::as,v::vs,p,hp=>by
  rcases List.mem_cons.mp hp with rfl | hp
  ·exact List.mem_cons_self
  ·exact List.mem_cons_of_mem _ (rn hp)
 | .val o::as,v::vs,p,hp=>List.mem_cons_of_mem _ (rn (as:=as) (vs:=vs) hp)
 | [],_,p,hp=>by cases hp
 | .slot _::_,[],p,hp=>by cases hp
 | .val _::_,[],p,hp=>by cases hp
def Base.keep (B:Base) (pr:List (Nat×V)):Base:={B with pr:=pr++B.pr}
theorem lW {pr:List (Nat×V)}{hs:List Addr}:ae T (B.keep pr) H hs l↔ae T B H hs l :=
 ⟨fun s=>⟨s.lk,s.old,s.oth,s.io,s.tb,s.reps⟩,fun s=>⟨s.lk,s.old,s.oth,s.io,s.tb,s.reps⟩⟩
theorem At.toKeep {pr:List (Nat×V)} (a:At T B H ρ σ l) (h:∀ p∈pr,σ[p.1]?=some (some p.2)):At T (B.keep pr) H ρ σ l :=
 ⟨a.ok,lW.mpr a.sat,fun p hp=>(List.mem_append.mp hp).elim (h p) (a.pr p)⟩
theorem At.ofKeep {pr:List (Nat×V)} (a:At T (B.keep pr) H ρ σ l):At T B H ρ σ l:=⟨a.ok,lW.mp a.sat,fun p hp=>a.pr p (List.mem_append_right _ hp)⟩
theorem At.prKeep {pr:List (Nat×V)} (a:At T (B.keep pr) H ρ σ l):∀ p∈pr,σ[p.1]?=some (some p.2):=fun p hp=>a.pr p (List.mem_append_left _ hp)
theorem GO {tg iter:Expr}{body:List Stmt}{t:Tg}{ie:IE} (hl:List Nat) (hslots:∀ ρ p ρ',n9 Φ ie ρ = .ok p ρ'→∀ i,Arg.slot i∈p.1→i∈hl) (hlen:∀ ρ p ρ',n9 Φ ie ρ = .ok p ρ'→p.1.length=p.2.1.length)
  (hp:PassesOwn (model X.prog X.w) X.A X.env X.xe) (hc:X.calm=true) (hi:PI X tg iter (tI T B Φ W ie)) (hg:∀ B':Base,(∀ p∈B'.pr,p∈B.pr∨p.1∈hl)→PG X tg (gT T B' t))
  (hb:∀ B':Base,(∀ p∈B'.pr,p∈B.pr∨p.1∈hl)→PSs X body (AR T B' Φ W sb)) (hs:∀ x,foldedSetIterable iter X.env x=pure x):PS X (.For tg iter body [] pos) (tS T B Φ W (.for t ie sb)):=by
 have hg':PG X tg (fun v σ H Q=>∃ B':Base,(∀ p∈B'.pr,p∈B.pr∨p.1∈hl)∧gT T B' t v σ H Q):=⟨fun pins s σ H v u Q I r ⟨B',c,h⟩=>(hg B' c).run pins s σ H v u Q I r h⟩
 have hb':PSs X body (fun D σ H=>∃ B':Base,(∀ p∈B'.pr,p∈B.pr∨p.1∈hl)∧AR T B' Φ W sb D σ H):=⟨fun pins s σ H D I ⟨B',c,h⟩=>(hb B' c).run pins s σ H D I h⟩
 refine(ps_for hp hc hi hg' hb' hs).pv fun D σ H ⟨ρ,l,at_,h⟩=>?_
 rw [bo]at h
 refine⟨ρ,l,at_,h.rg.eq.mono fun q ρ1 ⟨eq_,k⟩ vs J H1 hvl av a1 wk _=>?_⟩
 obtain⟨as,os,ds⟩:=q
 have hal:as.length=os.length:=hlen _ _ _ eq_
 have hsl:=hslots _ _ _ eq_
 simp only at k hvl av a1 wk hsl
 have cond:∀ p∈(B.keep (uZ as vs)).pr,p∈B.pr∨p.1∈hl:=fun p hp=>(List.mem_append.mp hp).elim (fun z=>.inr (hsl _ (rn z))) .inl
 have back:∀ {H:Hp}{ρ:Env}{σ:L2.St}{m:List bf},At T (B.keep (uZ as vs)) H ρ σ (m++(os.zip vs++l))→At T B H (b7 as os ρ) σ (m++l):=fun {H ρ σ m} a =>
  iO (as:=as) (os:=os) (vs:=vs) hvl ((a.ofKeep).perm aG) (o8 (by omega) a.prKeep)
 have w:Walk J ds.length (fun H=>∃ l',Sat T B H (os.zip vs++l')) (fun i H v H'=>∀ l',Sat T B H (os.zip vs++l')→∃ d,ds[i]?=some d∧Sat T B H' ((.d d,v)::(os.zip vs++l'))) :=
  ⟨fun i H hi ⟨l',s⟩=>wk.goes i H l' hi s,fun H ⟨l',s⟩=>wk.stops H l' s,fun i H v H' hi _ y l' s=>wk.yields i H v H' l' hi s y⟩
 refine for_it (g:=fun v σ H Q=>∃ B':Base,(∀ p∈B'.pr,p∈B.pr∨p.1∈hl)∧gT T B' t v σ H Q) (tb:=fun D σ H=>∃ B':Base,(∀ p∈B'.pr,p∈B.pr∨p.1∈hl)∧AR T B' Φ W sb D σ H) (D:=D) w (fun i σ H=>∃ ρi,At T (B.keep (uZ as vs)) H ρi σ (os.zip vs++l)∧RS T B W D l ((forL (fun x ρ=>bnd (aH t x ρ) fun ρ=>bC Φ sb ρ) (ds.drop i) ρi).mapE (b7 as os))) ⟨ρ1,a1.toKeep (u9 av),by rw [List.drop_zero]; exact k⟩ ?_ ?_ ?_
 ·rintro i σ2 H2 _ ⟨ρi,a2,_⟩
  exact⟨_,(lW.mp a2.sat).perm aG⟩
 ·rintro i x σ2 H2 H3 hi ⟨ρi,a2,k2⟩ y
  obtain⟨d,hd,s3⟩:=y _ ((lW.mp a2.sat).perm aG)
  have ed:ds.drop i=d::ds.drop (i+1):=by
   obtain⟨hj,hv⟩:=List.getElem?_eq_some_iff.mp hd
   rw [← hv]
   exact List.drop_eq_getElem_cons hj
  rw [ed,forL]at k2
  have a3:At T (B.keep (uZ as vs)) H3 ρi σ2 ((.d d,x)::(os.zip vs++l)):=⟨a2.ok,lW.mpr (s3.perm (by
   have p1:((O.d d,x)::(os.zip vs++(ah ρi σ2++l))).Perm ((O.d d,x)::(ah ρi σ2++(os.zip vs++l))):=aG.cons _
   exact p1.trans List.perm_middle.symm)),a2.pr⟩
  cases ea:aH t d ρi with
  | none=>rw [ea]at k2; exact k2.elim
  | some ρ2 =>
   rw [ea]at k2
   refine⟨_,cond,d,ρi,ρ2,_,a3,ea,fun σ' _ a4=>⟨_,cond,ρ2,_,a4,?_⟩⟩
   have k2:RS T B W D l (((bC Φ sb ρ2).bind fun e ρ=>e.turn (forL (fun x ρ=>bnd (aH t x ρ) fun ρ=>bC Φ sb ρ) (ds.drop (i+1)) ρ) ρ).mapE (b7 as os)):=k2
   cases er:bC Φ sb ρ2 with
   | bad=>rw [er]at k2; exact k2
   | exc C p ρ3 =>
    rw [er]at k2
    intro σ4 d4 H4 its a5 e5
    exact k2 σ4 d4 H4 its (back a5) e5
   | ok f ρ3 =>
    rw [er]at k2
    cases f with
    | nx=>exact fun σ4 H4 a5=>⟨ρ3,a5,k2⟩
    | ct=>exact fun σ4 H4 a5=>⟨ρ3,a5,k2⟩
    | rt o=>exact fun σ4 v H4 a5=>k2 σ4 v H4 (back (m:=[(o,v)]) a5)
    | bk=>exact fun σ4 H4 a5=>k2 σ4 H4 (back (m:=[]) a5)
 ·rintro σ2 H2 ⟨ρi,a2,k2⟩
  rw [List.drop_of_length_le (Nat.le_refl _),forL]at k2
  exact k2 σ2 H2 (back (m:=[]) a2)
theorem qy {i j:Nat}{x y:Str}{e1 e2:Expr}{s1 s2:SE}{px py pt:Pos}{kt k2:Nat}{pt2:Pos} (hc:X.calm=true) (hN:X.N.Nodup) (hi:X.N[i]?=some x) (hj:X.N[j]?=some y) (hij:i≠j)
  (hx:X.env.scope.names.lookup x=some .local) (hy:X.env.scope.names.lookup y=some .local) (hpi:∀ p∈B.pr,p.1≠i) (hpj:∀ p∈B.pr,p.1≠j) (ha:PA X [e1,e2] (tL T B Φ W [s1,s2]))
  (hw:swappedStores [.Tuple [.Name x px,.Name y py] kt pt] (.Tuple [e1,e2] k2 pt2) X.env=pure (some [x,y]))
  (hs:swapsWithSole [.Tuple [.Name x px,.Name y py] kt pt] (.Tuple [e1,e2] k2 pt2) pos.line X.env=pure false) :
  PS X (.Assign [.Tuple [.Name x px,.Name y py] kt pt] (.Tuple [e1,e2] k2 pt2) pos) (tS T B Φ W (.asg (.tp [.nm i,.nm j]) (.tup [s1,s2]))):=by
 refine⟨fun pins s σ H D I ⟨ρ,l,at_,h⟩=>(ps_par hc hN hi hj hij hx hy ha hw hs).run pins s σ H D I ⟨ρ,l,at_,?_⟩⟩
 rw [bo,ev]at h
 have h:=h.rg (σ:=σ)
 have h:=h.bind
 refine h.eq.mono fun os ρ1 ⟨eo,k⟩ vs H1 hl a1=>?_
 have hlo:=oD eo
 match os,hlo,vs,hl with
 | [o,p],_,[v,w],_ =>
  refine⟨v,w,rfl,?_⟩
  have k:RS T B W D l (bnd (aQ (.tp [.nm i,.nm j]) (wa [o,p]) ρ1) fun ρ=>.ok .nx ρ):=k
  have ea:aQ (.tp [.nm i,.nm j]) (wa [o,p]) ρ1=some ((ρ1.set i (some o)).set j (some p)):=by
   have e1:∀ a b:O,aQ.go [.nm i,.nm j] [a,b] ρ1=some ((ρ1.set i (some a)).set j (some b)):=fun a b=>by
    rw [aQ.go,aQ]
    show aQ.go [.nm j] [b] (ρ1.set i (some a))=_
    rw [aQ.go,aQ]
    show aQ.go [] [] _=_
    rw [aQ.go]
   have e2:∀ a b:PV.D,aQ.goD [.nm i,.nm j] [a,b] ρ1=some ((ρ1.set i (some (.d a))).set j (some (.d b))):=fun a b=>by
    rw [aQ.goD,aH]
    show aQ.goD [.nm j] [b] (ρ1.set i (some (.d a)))=_
    rw [aQ.goD,aH]
    show aQ.goD [] [] _=_
    rw [aQ.goD]
   cases o with
   | d x1 =>
    cases p with
    | d x2 =>
     show aQ (.tp [.nm i,.nm j]) (.d (.tup [x1,x2])) ρ1=_
     rw [aQ]
     exact e2 x1 x2
    | tup xs=>show aQ (.tp [.nm i,.nm j]) (.tup [.d x1,.tup xs]) ρ1=_; rw [aQ]; exact e1 _ _
    | lst xs=>show aQ (.tp [.nm i,.nm j]) (.tup [.d x1,.lst xs]) ρ1=_; rw [aQ]; exact e1 _ _
    | dic ks xs=>show aQ (.tp [.nm i,.nm j]) (.tup [.d x1,.dic ks xs]) ρ1=_; rw [aQ]; exact e1 _ _
    | obj C ns xs=>show aQ (.tp [.nm i,.nm j]) (.tup [.d x1,.obj C ns xs]) ρ1=_; rw [aQ]; exact e1 _ _
   | tup xs=>show aQ (.tp [.nm i,.nm j]) (.tup [.tup xs,p]) ρ1=_; rw [aQ]; exact e1 _ _
   | lst xs=>show aQ (.tp [.nm i,.nm j]) (.tup [.lst xs,p]) ρ1=_; rw [aQ]; exact e1 _ _
   | dic ks xs=>show aQ (.tp [.nm i,.nm j]) (.tup [.dic ks xs,p]) ρ1=_; rw [aQ]; exact e1 _ _
   | obj C ns xs=>show aQ (.tp [.nm i,.nm j]) (.tup [.obj C ns xs,p]) ρ1=_; rw [aQ]; exact e1 _ _
  rw [ea]at k
  have k:∀ σ H,At T B H ((ρ1.set i (some o)).set j (some p)) σ l→D.nx σ H:=k
  have hli:i < ρ1.length:=by rw [a1.ok.len,I.len]; exact(List.getElem?_eq_some_iff.mp hi).1
  have hlj:j < ρ1.length:=by rw [a1.ok.len,I.len]; exact(List.getElem?_eq_some_iff.mp hj).1
  have a2:At T B H1 (ρ1.set i (some o)) (σ.set i (some v)) ((p,w)::l):=At.store (l:=(p,w)::l) a1 hli hpi
  exact k _ H1 (a2.store (by simpa using hlj) hpj)
theorem va:PGs X [] (HZ T B []):=pgs_nil.pv fun vs σ H Q ⟨os,ρ,ρ',l,hl,a,e,q⟩=>by
 cases os with
 | nil =>
  have e:some ρ=some ρ':=by rw [aQ.go]at e; exact e
  injection e with e
  subst e
  cases vs with
  | nil=>exact⟨rfl,q σ H a⟩
  | cons _ _=>simp at hl
 | cons d ds=>rw [aQ.go]at e <;> first | cases e | simp
theorem kF {e:Expr}{es:List Expr}{t:Tg}{ts:List Tg} (h1:PG X e (gO T B t)) (h2:PGs X es (HZ T B ts)) (hs:(assignEach (e::es) X.env).map (·.2)=assign e X.env::(assignEach es X.env).map (·.2)):PGs X (e::es) (HZ T B (t::ts)) :=
 (pgs_cons h1 h2 hs).pv fun vs σ H Q ⟨ds,ρ,ρ',l,hl,a,e,q⟩=>by
  cases ds with
  | nil=>rw [aQ.go]at e <;> first | cases e | simp
  | cons d ds =>
   cases vs with
   | nil=>simp at hl
   | cons v vs =>
    rw [aQ.go]at e
    cases e1:aQ t d ρ with
    | none=>rw [e1]at e; cases e
    | some ρ1 =>
     rw [e1]at e
     exact⟨v,vs,rfl,d,ρ,ρ1,ds.zip vs++l,a,e1,fun σ' H' a'=>⟨ds,ρ1,ρ',l,by simpa using hl,a',e,q⟩⟩
theorem rq:∀ {ts:List Tg}{ds:List O}{ρ ρ':Env},aQ.go ts ds ρ=some ρ'→ts.length=ds.length
 | [],[],_,_,_=>rfl
 | [],_::_,_,_,e=>by rw [aQ.go]at e <;> first | cases e | simp
 | _::_,[],_,_,e=>by rw [aQ.go]at e <;> first | cases e | simp
 | t::ts,d::ds,ρ,ρ',e=>by
  rw [aQ.go]at e
  cases e1:aQ t d ρ with
  | none=>rw [e1]at e; cases e
  | some ρ1 =>
   rw [e1]at e
   simp [rq e]
theorem BN:∀ {ts:List Tg}{ds:List PV.D}{ρ:Env},aQ.goD ts ds ρ=aH.go ts ds ρ
 | [],[],ρ=>by rw [aQ.goD,aH.go]
 | [],_::_,ρ=>by rw [aQ.goD,aH.go] <;> simp
 | _::_,[],ρ=>by rw [aQ.goD,aH.go] <;> simp
 | t::ts,d::ds,ρ=>by
  rw [aQ.goD,aH.go]
  cases aH t d ρ with
  | none=>rfl
  | some ρ1=>exact BN
theorem BO {es:List Expr}{k:Nat}{ts:List Tg} (hK:X.K=T.K) (hc:X.calm=true) (h:PGs X es (HZ T B ts)) (h':PGs X es (HY T B ts)) (hn:(assignEach es X.env).length=ts.length) (hst:(assignEach es X.env).findIdx? (·.1)=none):PG X (.Tuple es k pos) (gO T B (.tp ts)):=by
 have hh:PGs X es (fun vs σ H Q=>HZ T B ts vs σ H Q∨HY T B ts vs σ H Q):=⟨fun pins s σ H vs us Q I r z=>z.elim (h.run pins s σ H vs us Q I r) (h'.run pins s σ H vs us Q I r)⟩
 refine(pg_tup (n:=ts.length) hc hh hn hst).pv fun pins s v σ H Q I ⟨o,ρ,ρ',l,a,e,q⟩=>?_
 cases o with
 | d x =>
  cases x with
  | tup xs =>
   have e:aH.go ts xs ρ=some ρ':=by rw [aQ,BN]at e; exact e
   have s1:Sat T B H ((.d (.tup xs),v)::(ah ρ σ++l)):=a.sat.perm List.perm_middle
   obtain⟨b,vs,rfl,hb,hl,s2⟩:=Sat.kidsT s1 (xs:=xs) rfl
   refine⟨b,vs,rfl,by rw [hK]; exact hb,by rw [← hl,uY e],.inr ⟨xs,ρ,ρ',l,hl,⟨a.ok,?_,a.pr⟩,e,fun σ' _ a'=>q σ' H a'⟩⟩
   have s3:ae T B H [] ((O.shal (.d (.tup xs)),V.ref b)::((xs.map O.d).zip vs++(ah ρ σ++l))):=s2.perm List.perm_middle
   exact s3.drop1.perm aG
  | _=>rw [aQ]at e <;> first | cases e | simp
 | tup xs =>
  have e:aQ.go ts xs ρ=some ρ':=by rw [aQ]at e; exact e
  have s1:Sat T B H ((.tup xs,v)::(ah ρ σ++l)):=a.sat.perm List.perm_middle
  obtain⟨b,vs,rfl,hb,hl,s2⟩:=ae.openT s1
  exact⟨b,vs,rfl,SqT.of hb,by rw [← hl,rq e],.inl ⟨xs,ρ,ρ',l,hl,⟨a.ok,s2.perm aG,a.pr⟩,e,q⟩⟩
 | _=>rw [aQ]at e <;> first | cases e | simp
end
end
end PV
namespace PV
open PySem PySem.Spec PyProof.Rows L2
section
variable {T:Tab}{B:Base}{Φ:cU}{W:WX}{X:Cx}{H H':Hp}{hs:List Addr}{l m:List bf}{o y:O}{v w:V}{a:Addr}
def KH (T:Tab):TSet:=fun x y w H Q=>∃ (B:Base) (o':O) (ok v:O) (l:List bf) (hs:List Addr) (o1:O),ae T B H hs ((o',x)::(ok,y)::(v,w)::l)∧qR o' ok.frz v=some o1 ∧
 ∀ H',Stays hs H H'→ae T B H' hs ((o1,x)::l)→Q H'
theorem vb {os:List O}{vs:List V}{j:Nat}{n:O}{w:V} (hl:os.length=vs.length) (hj:j < os.length) (s:ae T B H hs (os.zip vs++(n,w)::l)):ae T B H hs ((os.set j n).zip (vs.set j w)++l):=by
 have h1:os[j]?=some os[j]:=List.getElem?_eq_getElem hj
 have h2:vs[j]?=some (vs[j]'(by omega)):=List.getElem?_eq_getElem (by omega)
 have e:(os.zip vs)[j]?=some (os[j],vs[j]'(by omega)):=by rw [List.getElem?_zip_eq_some]; exact⟨h1,h2⟩
 have p1:=iR e
 have hz:j < (os.zip vs).length:=by simp; omega
 have e2:(os.set j n).zip (vs.set j w)=(os.zip vs).set j (n,w):=by
  apply List.ext_getElem?
  intro i
  by_cases hi:i=j
  ·subst hi
   rw [List.getElem?_set_self hz,List.getElem?_zip_eq_some]
   exact⟨List.getElem?_set_self hj,List.getElem?_set_self (by omega)⟩
  ·rw [List.getElem?_set_ne (Ne.symm hi)]
   simp only [List.zip,List.getElem?_zipWith,List.getElem?_set_ne (Ne.symm hi)]
 have p2:=iR (l:=(os.zip vs).set j (n,w)) (j:=j) (List.getElem?_set_self hz)
 rw [List.eraseIdx_set_eq]at p2
 rw [e2]
 have s2:ae T B H hs ((os[j],vs[j]'(by omega))::((os.zip vs).eraseIdx j++(n,w)::l)):=s.perm (p1.append_right _)
 refine s2.drop1.perm (List.perm_middle.trans ?_)
 exact p2.symm.append_right l
theorem map_put {κ:Type} [DecidableEq κ] {kk:κ}{w:V}:∀ {js:List κ}{ws:List V}{n:Nat},js.Nodup→js[n]?=some kk→((js.zip ws).map fun kv=>if kv.1=kk then(kv.1,w)else kv)=js.zip (ws.set n w)
 | [],ws,n,nd,e=>by simp at e
 | j::js,[],n,nd,e=>by simp
 | j::js,x::ws,0,nd,e=>by
  simp at e
  subst e
  rw [List.zip_cons_cons,List.map_cons,if_pos rfl,List.set_cons_zero,List.zip_cons_cons]
  congr 1
  have hn:j∉js:=(List.nodup_cons.mp nd).1
  have:∀ kv∈js.zip ws,(if kv.1=j then(kv.1,w)else kv)=kv:=fun kv hkv=>by
   have hm:kv.1∈js:=(List.of_mem_zip (show(kv.1,kv.2)∈js.zip ws from hkv)).1
   exact if_neg fun z=>hn (by rw [← z]; exact hm)
  rw [List.map_congr_left this,List.map_id']
 | j::js,x::ws,n+1,nd,e=>by
  have e:js[n]?=some kk:=by simpa using e
  have hn:¬ j=kk:=fun z=>(List.nodup_cons.mp nd).1 (z ▸ List.mem_of_getElem? e)
  rw [List.zip_cons_cons,List.map_cons,if_neg hn,List.set_cons_succ,List.zip_cons_cons,map_put (List.nodup_cons.mp nd).2 e]
theorem zc {κ:Type} [DecidableEq κ] {kk:κ}{w x:V}{js:List κ}{ws:List V}{n:Nat} (nd:js.Nodup) (e:js[n]?=some kk) (hv:valV (js.zip ws) kk=some x):putK (js.zip ws) kk w=js.zip (ws.set n w):=by
 unfold putK
 rw [valV_any,hv]
 show(if true=true then _ else _)=_
 rw [if_pos rfl,map_put nd e]
theorem zd {k:D}{kk:Key} (ek:keyOf k=some kk):∀ {ks:List D}{js:List Key}{n:Nat},keysOf ks=some js→dM k ks=some n→js[n]?=some kk
 | [],js,n,e,p=>by cases p
 | j::ks,js,n,e,p=>by
  unfold keysOf at e
  cases e1:keyOf j with
  | none=>rw [e1]at e; cases e
  | some jj =>
   cases e2:keysOf ks with
   | none=>rw [e1,e2]at e; cases e
   | some r' =>
    rw [e1,e2]at e
    injection e with e
    subst e
    unfold dM at p
    by_cases hc:jj=kk
    ·subst hc
     rw [if_pos ⟨by rw [e1,ek],by rw [cV e1,cV ek]⟩]at p
     injection p with p
     subst p; rfl
    ·rw [if_neg (fun z=>hc (by have:=z.1; rw [e1,ek]at this; exact Option.some.inj this))]at p
     obtain⟨n',p1,p2⟩:=Option.map_eq_some_iff.mp p
     subst p2
     rw [List.getElem?_cons_succ]
     exact zd ek e2 p1
theorem wM {k:D}{kk:List Key} (ek:aA k=some kk):∀ {ks:List D}{js:List (List Key)}{n:Nat},au ks=some js→dM k ks=some n→js[n]?=some kk
 | [],js,n,e,p=>by cases p
 | j::ks,js,n,e,p=>by
  unfold au at e
  cases e1:aA j with
  | none=>rw [e1]at e; cases e
  | some jj =>
   cases e2:au ks with
   | none=>rw [e1,e2]at e; cases e
   | some r' =>
    rw [e1,e2]at e
    injection e with e
    subst e
    unfold dM at p
    by_cases hc:jj=kk
    ·subst hc
     rw [if_pos ⟨by rw [ij e1,ij ek],by rw [e1,ek]⟩]at p
     injection p with p
     subst p; rfl
    ·rw [if_neg (fun z=>hc (by have:=z.2; rw [e1,ek]at this; exact Option.some.inj this))]at p
     obtain⟨n',p1,p2⟩:=Option.map_eq_some_iff.mp p
     subst p2
     rw [List.getElem?_cons_succ]
     exact wM ek e2 p1
theorem pos_none {k:D}{kk:Key} (ek:keyOf k=some kk):∀ {ks:List D}{js:List Key}{ws:List V},keysOf ks=some js→dM k ks=none→valV (js.zip ws) kk=none
 | [],js,ws,e,p=>by
  have e:some ([]:List Key)=some js:=e
  cases e; rfl
 | j::ks,js,ws,e,p=>by
  unfold keysOf at e
  cases e1:keyOf j with
  | none=>rw [e1]at e; cases e
  | some jj =>
   cases e2:keysOf ks with
   | none=>rw [e1,e2]at e; cases e
   | some r' =>
    rw [e1,e2]at e
    injection e with e
    subst e
    unfold dM at p
    by_cases hc:jj=kk
    ·subst hc
     rw [if_pos ⟨by rw [e1,ek],by rw [cV e1,cV ek]⟩]at p
     cases p
    ·rw [if_neg (fun z=>hc (by have:=z.1; rw [e1,ek]at this; exact Option.some.inj this))]at p
     cases ws with
     | nil=>rfl
     | cons x ws =>
      rw [List.zip_cons_cons,valV_neg hc]
      exact pos_none ek e2 (Option.map_eq_none_iff.mp p)
theorem ue {k:D}{kk:List Key} (ek:aA k=some kk):∀ {ks:List D}{js:List (List Key)}{ws:List V},au ks=some js→dM k ks=none→valV (js.zip ws) kk=none
 | [],js,ws,e,p=>by
  have e:some ([]:List (List Key))=some js:=e
  cases e; rfl
 | j::ks,js,ws,e,p=>by
  unfold au at e
  cases e1:aA j with
  | none=>rw [e1]at e; cases e
  | some jj =>
   cases e2:au ks with
   | none=>rw [e1,e2]at e; cases e
   | some r' =>
    rw [e1,e2]at e
    injection e with e
    subst e
    unfold dM at p
    by_cases hc:jj=kk
    ·subst hc
     rw [if_pos ⟨by rw [ij e1,ij ek],by rw [e1,ek]⟩]at p
     cases p
    ·rw [if_neg (fun z=>hc (by have:=z.2; rw [e1,ek]at this; exact Option.some.inj this))]at p
     cases ws with
     | nil=>rfl
     | cons x ws =>
      rw [List.zip_cons_cons,valV_neg hc]
      exact ue ek e2 (Option.map_eq_none_iff.mp p)
theorem pP {k:D}{kk:Key} (ek:keyOf k=some kk):∀ {ks:List D}{js:List Key},keysOf ks=some js→keysOf (ks++[k])=some (js++[kk])
 | [],js,e=>by
  have e:some ([]:List Key)=some js:=e
  cases e
  show(match keyOf k,keysOf []with | some k,some r=>some (k::r) | _,_=>none)=_
  rw [ek]; rfl
 | j::ks,js,e=>by
  unfold keysOf at e
  cases e1:keyOf j with
  | none=>rw [e1]at e; cases e
  | some jj =>
   cases e2:keysOf ks with
   | none=>rw [e1,e2]at e; cases e
   | some r' =>
    rw [e1,e2]at e
    injection e with e
    subst e
    show(match keyOf j,keysOf (ks++[k])with | some k,some r=>some (k::r) | _,_=>none)=_
    rw [e1,pP ek e2]; rfl
theorem oE {k:D}{kk:List Key} (ek:aA k=some kk):∀ {ks:List D}{js:List (List Key)},au ks=some js→au (ks++[k])=some (js++[kk])
 | [],js,e=>by
  have e:some ([]:List (List Key))=some js:=e
  cases e
  show(match aA k,au []with | some k,some r=>some (k::r) | _,_=>none)=_
  rw [ek]; rfl
 | j::ks,js,e=>by
  unfold au at e
  cases e1:aA j with
  | none=>rw [e1]at e; cases e
  | some jj =>
   cases e2:au ks with
   | none=>rw [e1,e2]at e; cases e
   | some r' =>
    rw [e1,e2]at e
    injection e with e
    subst e
    show(match aA j,au (ks++[k])with | some k,some r=>some (k::r) | _,_=>none)=_
    rw [e1,oE ek e2]; rfl
theorem ae.drop2 {p q:bf} (s:ae T B H hs (p::q::l)):ae T B H hs (p::l):=(ae.drop1 (o:=q.1) (v:=q.2) s.swap)
theorem BP (hu:X.A.units+1 < cLine):PSet X (KH T):=by
 intro pins s σ H x y w ov iv u Q I ro ri rv h
 obtain⟨B,o',ok,v,l,hs,o1,sa,e,q⟩:=h
 have dk:Dr T (fun _=>False) (vw B.Z H) ok.frz y:=sa.read2
 have s1:ae T B H hs ((o',x)::(v,w)::l):=sa.drop2
 cases o' with
 | lst zs =>
  cases ek:ok.frz with
  | int i =>
   rw [ek]at e dk
   have dk:y = .int i:=dk
   subst dk
   have e:(ixN zs.length i).map (fun j=>O.lst (zs.set j v))=some o1:=e
   obtain⟨j,e1,e2⟩:=Option.map_eq_some_iff.mp e
   subst e2
   obtain⟨b,vs,rfl,hb,hl,s2⟩:=s1.openL
   obtain⟨_,hj,_,_⟩:=ixN_seq e1
   have s3:=vb hl hj s2
   obtain⟨g1,g2⟩:Stays hs H (upd H b (.lst (vs.set j w)))∧ae T B (upd H b (.lst (vs.set j w))) hs ((.lst (zs.set j v),.ref b)::l) :=
    ⟨iI s2 (f7 hb).1,(s3.write (f7 hb).1 (f7 hb).2.1 (f7 hb).2.2).closeL upd_same (by simp [hl])⟩
   exact set_list pins s σ H _ _ _ ov iv u Q I ro ri rv ⟨b,vs,i,j,rfl,rfl,hb,by rw [← hl]; exact e1,q _ g1 g2⟩
  | _=>rw [ek]at e; cases e
 | dic ks zs =>
  have e:(if(aZ ok.frz ks&&decide (ks.length < sizeLine))=true then some (O.dic (putD ok.frz v ks zs).1 (putD ok.frz v ks zs).2)else none)=some o1:=e
  by_cases hc:(aZ ok.frz ks&&decide (ks.length < sizeLine))=true
  ·rw [if_pos hc]at e
   injection e with e
   subst e
   rw [Bool.and_eq_true,decide_eq_true_eq]at hc
   obtain⟨hk,hz⟩:=hc
   obtain⟨b,vs,rfl,hb,hl,s2⟩:=s1.openD
   cases (show ov=Value.ref b from ro)
   have up:∀ {Hc:Hp}{ob:HO},(∀ c,c≠b→Hc c=H c)→upd Hc b ob=upd H b ob:=fun {Hc ob} h=>by
    funext c
    by_cases z:c=b
    ·subst z; rw [upd_same,upd_same]
    ·rw [upd_ne z,upd_ne z,h c z]
   have nt:(∀ xs,H b≠some (.tup xs))∧(∀ ob u,H b≠some (.frz ob u))∧∀ g,H b≠some (.ext g):=by
    rcases hb with⟨_,_,h,_⟩ | ⟨_,_,h,_⟩
    ·exact⟨(fun _ z=>by rw [h]at z; cases z),(fun _ _ z=>by rw [h]at z; cases z),fun _ z=>by rw [h]at z; cases z⟩
    ·exact⟨(fun _ z=>by rw [h]at z; cases z),(fun _ _ z=>by rw [h]at z; cases z),fun _ z=>by rw [h]at z; cases z⟩
   have goK:∀ {kk:Key}{js:List Key}{Hc:Hp},keyOf ok.frz=some kk→(∀ c,c≠b→Hc c=H c)→keysOf ks=some js→js.length=vs.length→Hc b=some (.dK (js.zip vs))→Inv X pins σ Hc s →
     wpAny (model X.prog X.w) X.A (setItem (.ref b) iv u) (fun _ s'=>∃ H',Inv X pins σ H' s'∧Q H') X.xe s:=by
    intro kk js Hc ek hHc q1 q3 hb' I'
    have ey:=qr ek dk
    subst ey
    have hlen:(js.zip vs).length < sizeLine:=by rw [List.length_zip,q3,Nat.min_self,← q3,gN q1]; exact hz
    refine d_setItem hu I' (DPut.k hb' hlen) ri rv fun s' I2=>⟨_,I2,?_⟩
    rw [up hHc]
    have nd:js.Nodup:=by
     obtain⟨_,_,vs',rel,o,es,ep,h1,h2,h3,h4,h5,h6⟩:=dk_of I'.hok hb'
     have:=rel.keys
     rw [← this,List.map_fst_zip (by omega)]at h6
     exact h6
    cases ep:dM ok.frz ks with
    | some n =>
     simp only [putD,ep]at q
     have hj:=zd ek q1 ep
     have hv:=y9 ek q1 q3 ep
     obtain⟨hn,_⟩:=List.getElem?_eq_some_iff.mp hj
     rw [List.getElem?_eq_getElem (show n < vs.length by omega)]at hv
     rw [zc nd hj hv]
     refine q _ (iI s2 nt.1) ?_
     have s3:=vb hl (show n < zs.length by omega) s2
     exact(s3.write nt.1 nt.2.1 nt.2.2).closeD (.inl ⟨js,q1,upd_same,by simp [q3]⟩) (by simp [hl])
    | none =>
     simp only [putD,ep]at q
     rw [putK_new w (pos_none ek q1 ep)]
     refine q _ (iI s2 nt.1) ?_
     have s3:ae T B H (b::hs) ((zs++[v]).zip (vs++[w])++l):=by
      rw [List.zip_append hl,List.append_assoc]; exact s2
     exact(s3.write nt.1 nt.2.1 nt.2.2).closeD (.inl ⟨js++[kk],pP ek q1,by rw [List.zip_append q3]; exact upd_same,by simp [q3]⟩) (by simp [hl])
   have goT:∀ {kk:List Key}{js:List (List Key)}{Hc:Hp},aA ok.frz=some kk→(∀ c,c≠b→Hc c=H c)→au ks=some js→js.length=vs.length→Hc b=some (.dT (js.zip vs))→Inv X pins σ Hc s →
     wpAny (model X.prog X.w) X.A (setItem (.ref b) iv u) (fun _ s'=>∃ H',Inv X pins σ H' s'∧Q H') X.xe s:=by
    intro kk js Hc ek hHc q1 q3 hb' I'
    obtain⟨t,rfl,et⟩:=ot ek sa dk
    have tb:t≠b:=fun z=>nt.1 _ (z ▸ et)
    have hlen:(js.zip vs).length < sizeLine:=by rw [List.length_zip,q3,Nat.min_self,← q3,lT q1]; exact hz
    refine d_setItem hu I' (DPut.t hb' (by rw [hHc t tb]; exact et) hlen) ri rv fun s' I2=>⟨_,I2,?_⟩
    rw [up hHc]
    have nd:js.Nodup:=by
     obtain⟨_,_,vs',rel,o,es,ep,h1,h2,h3,h4,h5,h6⟩:=dt_of I'.hok hb'
     have kk:∀ {l:List (List Key×V)}{m:List (List Key×Addr×Value)},KT Hc l m→l.map (·.1)=m.map (·.1):=by
      intro l m r
      induction r with
      | nil=>rfl
      | cons h t ih=>rw [List.map_cons,List.map_cons,ih,h.1]
     rw [← kk rel,List.map_fst_zip (by omega)]at h6
     exact h6
    cases ep:dM ok.frz ks with
    | some n =>
     simp only [putD,ep]at q
     have hj:=wM ek q1 ep
     have hv:=za ek q1 q3 ep
     obtain⟨hn,_⟩:=List.getElem?_eq_some_iff.mp hj
     rw [List.getElem?_eq_getElem (show n < vs.length by omega)]at hv
     rw [zc nd hj hv]
     refine q _ (iI s2 nt.1) ?_
     have s3:=vb hl (show n < zs.length by omega) s2
     exact(s3.write nt.1 nt.2.1 nt.2.2).closeD (.inr ⟨js,q1,upd_same,by simp [q3]⟩) (by simp [hl])
    | none =>
     simp only [putD,ep]at q
     rw [putK_new w (ue ek q1 ep)]
     refine q _ (iI s2 nt.1) ?_
     have s3:ae T B H (b::hs) ((zs++[v]).zip (vs++[w])++l):=by
      rw [List.zip_append hl,List.append_assoc]; exact s2
     exact(s3.write nt.1 nt.2.1 nt.2.2).closeD (.inr ⟨js++[kk],oE ek q1,by rw [List.zip_append q3]; exact upd_same,by simp [q3]⟩) (by simp [hl])
   unfold aZ at hk
   rw [Bool.or_eq_true,Bool.and_eq_true,Bool.and_eq_true]at hk
   rcases hk with⟨hk,ha⟩ | ⟨hk,ha⟩
   ·obtain⟨kk,ek⟩:=Option.isSome_iff_exists.mp hk
    rcases hb with⟨js,q1,q2,q3⟩ | ⟨js,q1,q2,q3⟩
    ·exact goK ek (fun _ _=>rfl) q1 q3 q2 I
    ·cases ks with
     | nil =>
      have q1:some ([]:List (List Key))=some js:=q1
      cases q1
      cases vs with
      | nil=>exact goK (js:=[]) ek (fun c hc=>upd_ne hc) rfl rfl upd_same (Inv.toK I q2)
      | cons _ _=>simp at q3
     | cons j ks =>
      have h1:=eL q1 j List.mem_cons_self
      have h2:=List.all_eq_true.mp ha j List.mem_cons_self
      obtain⟨jj,ej⟩:=Option.isSome_iff_exists.mp h2
      rw [cV ej]at h1; cases h1
   ·obtain⟨kk,ek⟩:=Option.isSome_iff_exists.mp hk
    rcases hb with⟨js,q1,q2,q3⟩ | ⟨js,q1,q2,q3⟩
    ·cases ks with
     | nil =>
      have q1:some ([]:List Key)=some js:=q1
      cases q1
      cases vs with
      | nil=>exact goT (js:=[]) ek (fun c hc=>upd_ne hc) rfl rfl upd_same (Inv.toT I q2)
      | cons _ _=>simp at q3
     | cons j ks =>
      have h1:=jS q1 j List.mem_cons_self
      have h2:=List.all_eq_true.mp ha j List.mem_cons_self
      obtain⟨jj,ej⟩:=Option.isSome_iff_exists.mp h2
      rw [ij ej]at h1; cases h1
    ·exact goT ek (fun _ _=>rfl) q1 q3 q2 I
  ·rw [if_neg hc]at e; cases e
 | _=>cases e
theorem vc {i:Nat}{rp:List SE}{se sk:SE}{e r k:Expr}{pos tpos:Pos} (hK:X.K=T.K) (hu:X.A.units+1 < cLine) (he:PE X e (tE T B Φ W se)) (hr:PE X r (Fm T B Φ W i rp)) (hk:∀ B':Base,B'.pr=B.pr→PE X k (tE T B' Φ W sk))
  (hs:swapsWithSole [.Subscript r k tpos] e pos.line X.env=pure false) (hw:swappedStores [.Subscript r k tpos] e X.env=pure none) (h1:(assignEach [.Subscript r k tpos] X.env).map (·.2) = [assign (.Subscript r k tpos) X.env])
  (ha:∀ v,assign (.Subscript r k tpos) X.env v=(do
   let ov ← holding [v] (eval r X.env)
   let iv ← holding [v,ov] (eval k X.env)
   standAt tpos
   holding [v,ov,iv] (setItem ov iv v)
   release [v,ov,iv] [])):PS X (.Assign [.Subscript r k tpos] e pos) (tS T B Φ W (.sub i (sk::rp) se)):=by
 have hk':PE X k (fun σ H Q=>∃ B':Base,B'.pr=B.pr∧tE T B' Φ W sk σ H Q):=⟨fun pins s σ H Q I ⟨B',hpr,h⟩=>(hk B' hpr).run pins s σ H Q I h⟩
 refine(ps_asg he (pg_sub hr hk' (BP (T:=T) hu) ha) hs hw h1).pv fun D σ H ⟨ρ,l,at_,h⟩=>?_
 rw [bo]at h
 refine⟨ρ,l,at_,RG.rp (h.rg.mono fun ov ρ1 k1 w H1 a1=>?_)⟩
 obtain⟨o,eo,k1⟩:=k1.bnd
 obtain⟨v,ev⟩:=a1.ok.at eo
 have a0:=a1.take eo ev
 have hi:i < σ.length:=oh ev
 have k1:=k1.rg (σ:=σ)
 rw [qh]at k1
 refine⟨ρ1.set i none,(ov,w)::l,o,v,a0,ev,RG.more1 (RG.more1 (k1.bind.mono fun ks ρ2 k2=>?_))⟩
 have k2:=k2.bind
 have key:∀ (okk:O) (ρ3:Env),RS T B W D l (PV.bnd (setPath (ks++[okk.frz]) o ov) fun o'=>.ok .nx (ρ3.set i (some o')))→∃ o1 o2,dZ ks o (fun o=>(qR o okk.frz ov).map fun o'=>(.d .non,o'))=some (o1,o2)∧∀ σ H,At T B H (ρ3.set i (some o2)) σ l→D.nx σ H:=by
  intro okk ρ3 k3
  obtain⟨o',e1,k3⟩:=RS.bnd k3
  unfold setPath at e1
  rw [List.getLast?_concat,List.dropLast_concat]at e1
  have e1:(dZ ks o fun o=>(qR o okk.frz ov).map fun o'=>(O.d .non,o')).map (·.2)=some o':=e1
  obtain⟨p,e2,e3⟩:=Option.map_eq_some_iff.mp e1
  obtain⟨p1,p2⟩:=p
  subst e3
  exact⟨p1,p2,e2,k3⟩
 refine⟨?_,fun H2 x a2 pa=>?_⟩
 ·cases e1:PV.ev Φ sk ρ2 with
  | bad=>rw [e1]at k2; exact k2.elim
  | exc C p ρ'=>rw [e1]at k2; exact k2.elim
  | ok okk ρ3 =>
   rw [e1]at k2
   obtain⟨o1,o2,e2,_⟩:=key okk ρ3 k2
   exact BH e2 fun _ _=>rfl
 ·obtain⟨B',hpr,a3,back⟩:=a2.hold
  refine⟨B',hpr,ρ2,(ov,w)::l,a3,RG.rp (RG.held (K:=_) (fun p hp=>a2.pr p hp) (fun H' ρ' m a'=>(back H' ρ' σ m a2.pr a').1) (RG.more1 (RG.more1 k2.unX)) fun okk ρ3 k3=>?_)⟩
  intro y H3 a4
  obtain⟨a5,pres⟩:=back H3 ρ3 σ _ a2.pr a4
  obtain⟨r1,o2,e2,fin⟩:=key okk ρ3 k3
  have s5:Sat T B H3 ((o,v)::((okk,y)::(ov,w)::(ah ρ3 σ++l))):=a5.sat.perm (List.perm_middle.trans ((List.perm_middle.trans (List.perm_middle.cons _)).cons _))
  obtain⟨o',x',ad,rest,o1,p1,ef,s6,close⟩:=iH s5 e2
  have px:=pres ks _ _ x e2 pa
  have ex:x=x':=px.inj p1
  subst ex
  obtain⟨o1',es,eo1⟩:=Option.map_eq_some_iff.mp ef
  injection eo1 with _ eo1
  subst eo1
  refine⟨B,o',okk,ov,rest++(ah ρ3 σ++l),ad++[],o1',s6.perm (List.Perm.cons _ ?_),es,fun H' hb s7=>fin σ H' ?_⟩
  ·exact List.perm_middle.trans (List.perm_middle.cons _)
  ·have s8:ae T B H' [] ((o2,v)::(ah ρ3 σ++l)):=close H' _ ⟨fun b hb'=>hb.1 b (by simp [hb']),hb.2⟩ s7
   have a6:At T B H' ρ3 σ ((o2,v)::l):=⟨a4.ok,s8.perm List.perm_middle.symm,a2.pr⟩
   have hi2:i < ρ3.length:=by rw [a4.ok.len]; exact hi
   have t:=(a6.clear i).fill (i:=i) (by unfold ax; rw [List.getElem?_set_self hi2]; rfl) (by simpa using hi2) ev
   rw [List.set_set]at t
   exact t
end
end PV
namespace PV
open PySem PySem.Spec PyProof.Rows L2
section
variable {T:Tab}{B:Base}{H H':Hp}{ρ ρ':Env}{σ:L2.St}{l m:List bf}{i:Nat}{s:Option V}
theorem rA:∀ {ρ:Env}{σ:L2.St}{i:Nat} (s:Option V),ax ρ i=none→bJ ρ σ→bJ ρ (σ.set i s)∧ah ρ (σ.set i s)=ah ρ σ
 | [],[],i,s,h,e=>⟨e,rfl⟩
 | none::ρ,x::σ,0,s,h,e=>⟨e,by cases s <;> cases x <;> rfl⟩
 | some o::ρ,x::σ,0,s,h,e=>by simp at h
 | none::ρ,x::σ,i+1,s,h,e=>by
  obtain⟨h1,h2⟩:=rA (ρ:=ρ) (σ:=σ) (i:=i) s h e
  exact⟨h1,by cases x <;> simpa [ah]using h2⟩
 | some o::ρ,some x::σ,i+1,s,h,e=>by
  obtain⟨h1,h2⟩:=rA (ρ:=ρ) (σ:=σ) (i:=i) s h e
  exact⟨h1,by simp [ah,h2]⟩
 | some o::ρ,none::σ,i+1,s,h,e=>e.elim
 | [],_::_,i,s,h,e=>e.elim
 | none::_,[],i,s,h,e=>e.elim
 | some _::_,[],i,s,h,e=>e.elim
theorem At.set0 (a:At T B H ρ σ l) (h:ax ρ i=none) (hp:∀ p∈B.pr,p.1≠i):At T B H ρ (σ.set i s) l:=by
 obtain⟨h1,h2⟩:=rA s h a.ok
 exact⟨h1,by rw [h2]; exact a.sat,fun p hp'=>by rw [List.getElem?_set_ne (Ne.symm (hp p hp'))]; exact a.pr p hp'⟩
theorem At.wipe {own:List Nat} (a:At T B H ρ σ l) (h:∀ i∈own,ax ρ i=none) (hp:∀ p∈B.pr,p.1∉own):At T B H ρ (L2.wipe σ own) l:=by
 induction own with
 | nil=>exact a
 | cons i r ih =>
  have:=ih (fun j hj=>h j (List.mem_cons_of_mem _ hj)) (fun p hp' z=>hp p hp' (List.mem_cons_of_mem _ z))
  exact this.set0 (h i List.mem_cons_self) fun p hp' e=>hp p hp' (e ▸ List.mem_cons_self)
theorem jU:∀ {own:List Nat}{ρ:Env}{i:Nat},i∈own∨ax ρ i=none→ax (ar own ρ) i=none
 | [],ρ,i,h=>h.elim (fun z=>by cases z) id
 | j::r,ρ,i,h=>by
  unfold ar
  refine jU ?_
  by_cases e:i=j
  ·subst e
   refine .inr ?_
   unfold ax
   by_cases hl:i < ρ.length
   ·rw [List.getElem?_set_self hl]; rfl
   ·rw [List.getElem?_eq_none (by simpa using hl)]; rfl
  ·rcases h with h | h
   ·exact .inl ((List.mem_cons.mp h).resolve_left e)
   ·refine .inr ?_
    unfold ax
    rw [List.getElem?_set_ne (Ne.symm e)]
    exact h
theorem rB:∀ {ρ:Env}{σ σ':L2.St},σ.length=σ'.length→(∀ i,ax ρ i≠none→σ[i]?=σ'[i]?)→bJ ρ σ→bJ ρ σ'∧ah ρ σ'=ah ρ σ
 | [],[],[],hl,h,e=>⟨e,rfl⟩
 | none::ρ,x::σ,y::σ',hl,h,e=>by
  obtain⟨h1,h2⟩:=rB (ρ:=ρ) (σ:=σ) (σ':=σ') (by simpa using hl) (fun i hi=>by simpa using h (i+1) hi) e
  exact⟨h1,by cases x <;> cases y <;> simpa [ah]using h2⟩
 | some o::ρ,some x::σ,y::σ',hl,h,e=>by
  have h0:=h 0 (by simp)
  simp at h0
  subst h0
  obtain⟨h1,h2⟩:=rB (ρ:=ρ) (σ:=σ) (σ':=σ') (by simpa using hl) (fun i hi=>by simpa using h (i+1) hi) e
  exact⟨h1,by simp [ah,h2]⟩
 | some o::ρ,none::σ,σ',hl,h,e=>e.elim
 | [],_::_,σ',hl,h,e=>e.elim
 | none::_,[],σ',hl,h,e=>e.elim
 | some _::_,[],σ',hl,h,e=>e.elim
 | [],[],_::_,hl,h,e=>by simp at hl
 | _::_,_::_,[],hl,h,e=>by simp at hl
theorem wipe_out {σ:L2.St}{i:Nat}:∀ {own:List Nat},i∉own→(L2.wipe σ own)[i]?=σ[i]?
 | [],h=>rfl
 | j::r,h=>by
  show((L2.wipe σ r).set j none)[i]?=σ[i]?
  have hij:j≠i:=fun z=>h (by rw [z]; exact List.mem_cons_self)
  rw [List.getElem?_set_ne hij]
  exact wipe_out fun z=>h (List.mem_cons_of_mem _ z)
theorem At.unwipe {own:List Nat} (a:At T B H ρ (L2.wipe σ own) l) (h:∀ i∈own,ax ρ i=none) (hp:∀ p∈B.pr,p.1∉own):At T B H ρ σ l:=by
 obtain⟨h1,h2⟩:=rB (σ':=σ) (by rw [wipe_length]) (fun i hi=>wipe_out fun z=>hi (h i z)) a.ok
 exact⟨h1,by rw [h2]; exact a.sat,fun p hp'=>by rw [← wipe_out (own:=own) (hp p hp')]; exact a.pr p hp'⟩
theorem slot_set {ρ:Env}{i j:Nat}{o:Option O} (h:i≠j):ax (ρ.set j o) i=ax ρ i:=by
 unfold ax
 rw [List.getElem?_set_ne (Ne.symm h)]
theorem pQ:∀ {own:List Nat}{ρ0 ρ1 ρ:Env},(∀ i∈own,ax ρ0 i=ax ρ1 i)→hI own ρ0 ρ=hI own ρ1 ρ
 | [],ρ0,ρ1,ρ,h=>rfl
 | i::r,ρ0,ρ1,ρ,h=>by
  unfold hI
  rw [h i List.mem_cons_self]
  exact pQ fun j hj=>h j (List.mem_cons_of_mem _ hj)
theorem wN {ρ:Env}{i:Nat} (h:ax ρ i=none):ρ.set i none=ρ:=by
 apply List.ext_getElem?
 intro j
 by_cases hj:j=i
 ·subst hj
  rcases Nat.lt_or_ge j ρ.length with z | z
  ·rw [List.getElem?_set_self z]
   unfold ax at h
   cases q:ρ[j]? with
   | none=>rw [List.getElem?_eq_none_iff]at q; omega
   | some w=>rw [q]at h; cases w with
    | none=>rfl
    | some w=>cases h
  ·rw [List.getElem?_eq_none (by simpa using z),List.getElem?_eq_none z]
 ·rw [List.getElem?_set_ne (Ne.symm hj)]
theorem o9:∀ {own:List Nat}{ρ:Env}{l:List bf},own.Nodup→At T B H ρ σ l→∃ outs:List bf,At T B H (ar own ρ) σ (outs++l) ∧
  ∀ (H':Hp) (ρ':Env) (m:List bf),ρ'.length=ρ.length→(∀ i∈own,ax ρ' i=none)→At T B H' ρ' σ (outs++m)→At T B H' (hI own ρ ρ') σ m
 | [],ρ,l,nd,a=>⟨[],a,fun H' ρ' m _ _ a'=>a'⟩
 | i::r,ρ,l,nd,a=>by
  obtain⟨nin,nd⟩:=List.nodup_cons.mp nd
  cases e:ax ρ i with
  | none =>
   obtain⟨outs,a1,back⟩:=o9 (own:=r) nd a
   refine⟨outs,?_,fun H' ρ' m hl hn a'=>?_⟩
   ·unfold ar
    rw [wN e]; exact a1
   ·unfold hI
    rw [e,wN (hn i List.mem_cons_self)]
    exact back H' ρ' m hl (fun j hj=>hn j (List.mem_cons_of_mem _ hj)) a'
  | some o =>
   obtain⟨v,ev⟩:=a.ok.at e
   obtain⟨outs,a1,back⟩:=o9 (own:=r) nd (a.take e ev)
   refine⟨outs++[(o,v)],?_,fun H' ρ' m hl hn a'=>?_⟩
   ·unfold ar
    rw [List.append_assoc]; exact a1
   ·unfold hI
    rw [e]
    have hi:i < ρ'.length:=by rw [hl]; exact mL e
    have a2:At T B H' ρ' σ ((o,v)::(outs++m)):=a'.perm (by rw [List.append_assoc]; exact List.perm_middle)
    have a3:At T B H' (ρ'.set i (some o)) σ (outs++m):=a2.fill (hn i List.mem_cons_self) hi ev
    rw [pQ (ρ1:=ρ.set i none) fun j hj=>(slot_set (fun z=>nin (by rw [← z]; exact hj):j≠i)).symm]
    have ne:∀ j∈r,j≠i:=fun j hj z=>nin (by rw [← z]; exact hj)
    exact back H' _ m (by simp [hl]) (fun j hj=>by rw [slot_set (ne j hj)]; exact hn j (List.mem_cons_of_mem _ hj)) a3
end
def WF:WX:=fun _ _ _ _=>False
def DV (T:Tab) (B:Base) (Φ:cU) (ses:List SE):TT:=fun σ H Q=>∃ ρ l,At T B H ρ σ l∧RG T B WF σ l (dW Φ ses ρ) fun b ρ'=>∀ H',At T B H' ρ' σ l→Q b H'
section
variable {T:Tab}{B:Base}{Φ:cU}{W:WX}{X:Cx}{H:Hp}{ρ:Env}{σ:L2.St}{l:List bf}
theorem lX:PTs X [] (DV T B Φ []):=⟨fun pins s σ H Q I ⟨ρ,l,a,h⟩=>pts_nil.run pins s σ H Q I (by rw [dW]at h; exact h H a)⟩
theorem ze {c:Expr}{sc:SE} (h:PT X c (tT T B Φ WF sc)):PTs X [c] (DV T B Φ [sc]):=⟨fun pins s σ H Q I ⟨ρ,l,a,h1⟩=>(pts_one h).run pins s σ H Q I ⟨ρ,l,a,by rw [dW]at h1; exact h1⟩⟩
theorem mR {own is:List Nat}{σ σ':L2.St} (h:SameBut is σ σ') (hs:∀ i∈is,i∈own):L2.wipe σ' own=L2.wipe σ own:=by
 have key:∀ (own:List Nat) (σ:L2.St) (j:Nat),j < σ.length→(L2.wipe σ own)[j]?=if j∈own then some none else σ[j]?:=by
  intro own
  induction own with
  | nil=>intro σ j hj; simp [L2.wipe]
  | cons i r ih =>
   intro σ j hj
   show((L2.wipe σ r).set i none)[j]?=_
   by_cases e:j=i
   ·subst e
    rw [List.getElem?_set_self (by rw [wipe_length]; exact hj),if_pos List.mem_cons_self]
   ·rw [List.getElem?_set_ne (Ne.symm e),ih σ j hj]
    by_cases m:j∈r
    ·rw [if_pos m,if_pos (List.mem_cons_of_mem _ m)]
    ·rw [if_neg m,if_neg (fun z=>(List.mem_cons.mp z).elim e m)]
 apply List.ext_getElem?
 intro j
 rcases Nat.lt_or_ge j σ.length with hj | hj
 ·rw [key own σ' j (by rw [h.1]; exact hj),key own σ j hj]
  by_cases m:j∈own
  ·rw [if_pos m,if_pos m]
  ·rw [if_neg m,if_neg m,h.2 j fun z=>m (hs j z)]
 ·rw [List.getElem?_eq_none (by rw [wipe_length,h.1]; exact hj),List.getElem?_eq_none (by rw [wipe_length]; exact hj)]
theorem zf {own:List (Str×Nat)}{t:Tg}{ie:IE}{se:SE}{sifs:List SE}{Q:VK}
  (hlen:∀ ρ p ρ',n9 Φ ie ρ = .ok p ρ'→p.1.length=p.2.1.length) (nd:(own.map (·.2)).Nodup) (hp:∀ p∈B.pr,p.1∉own.map (·.2)) (htg:∀ i∈fq t,i∈own.map (·.2)) (h0:tE T B Φ W (.comp .lst se (own.map (·.2)) t ie sifs) σ H Q) :
  tLc (tI T B Φ W ie) (gT T B t) (DV T B Φ sifs) (tE T B Φ WF se) (own.map (·.2)) σ H Q:=by
  obtain⟨ρ,l,at_,h⟩:=h0
  rw [ev]at h
  refine⟨ρ,l,at_,h.rg.bind.eq.mono fun q ρ1 ⟨eq_,k⟩ vs J H1 hvl av a1 wk hz D hD=>?_⟩
  obtain⟨as,os,ds⟩:=q
  have hal:as.length=os.length:=hlen _ _ _ eq_
  simp only at k hvl av a1 wk hz
  generalize hf:(fun(x:PV.D) (ρ:Env)=>bnd (aH t x ρ) fun ρ=>(dW Φ sifs ρ).bind fun b ρ=>jR b ((ev Φ se ρ).bind fun o ρ=>Res.ok (some o) (ar (own.map (·.2)) ρ)) (Res.ok none (ar (own.map (·.2)) ρ)))=f at k
  obtain⟨outs,a2,back⟩:=o9 nd a1
  have hn0:∀ i∈own.map (·.2),ax (ar (own.map (·.2)) ρ1) i=none:=fun i hi=>jU (.inl hi)
  have a3:=a2.wipe hn0 hp
  -- the end
  have fin:∀ (oss:List O) (ρe:Env) (v:V) (H2:Hp),RG T B W σ l ((Res.ok oss ρe).noX.bind fun os' ρ'=>Res.ok (O.lst os') (b7 as os (hI (own.map (·.2)) ρ1 ρ'))) (fun o ρ=>∀ v H,At T B H ρ σ ((o,v)::l)→Q v H)→(∀ i∈own.map (·.2),ax ρe i=none) →
    At T B H2 ρe (L2.wipe σ (own.map (·.2))) ((.lst oss,v)::(outs++(os.zip vs++l)))→Q v H2:=by
   intro oss ρe v H2 k2 hn a
   have k2:∀ v H,At T B H (b7 as os (hI (own.map (·.2)) ρ1 ρe)) σ ((.lst oss,v)::l)→Q v H:=k2
   refine k2 v H2 ?_
   have b1:=a.unwipe hn hp
   have b2:At T B H2 ρe σ (outs++((.lst oss,v)::(os.zip vs++l))):=b1.perm List.perm_middle.symm
   have hl:ρe.length=ρ1.length:=by rw [b1.ok.len,a1.ok.len]
   have b3:=back H2 ρe _ hl hn b2
   exact iO (as:=as) (os:=os) (vs:=vs) hvl (b3.perm List.perm_middle.symm) av
  have w:Walk J ds.length (fun H=>∃ l',Sat T B H (os.zip vs++l')) (fun i H v H'=>∀ l',Sat T B H (os.zip vs++l')→∃ d,ds[i]?=some d∧Sat T B H' ((.d d,v)::(os.zip vs++l'))) :=
   ⟨fun i H hi ⟨l',s⟩=>wk.goes i H l' hi s,fun H ⟨l',s⟩=>wk.stops H l' s,fun i H v H' hi _ y l' s=>wk.yields i H v H' l' hi s y⟩
  have hd:∀ {m:List bf}{H:Hp}{ρi:Env}{σ':L2.St},At T B H ρi σ' (m++(outs++(os.zip vs++l)))→Sat T B H (os.zip vs++(ah ρi σ'++(m++(outs++l)))):=fun {m H ρi σ'} a=>a.sat.perm (by
   have p1:(m++(outs++(os.zip vs++l))).Perm (os.zip vs++(m++(outs++l))):=(aG.append_left m).trans aG
   exact(p1.append_left _).trans aG)
  refine lc_it (g:=gT T B t) (tt:=DV T B Φ sifs) (te:=tE T B Φ WF se) w (fun i H=>∃ ρi oss,(∀ j∈own.map (·.2),ax ρi j=none)∧oss.length≤i∧At T B H ρi (L2.wipe σ (own.map (·.2))) ((.lst oss,.ref D)::(outs++(os.zip vs++l))) ∧
   RG T B W σ l (((bq f (ds.drop i) ρi).bind fun rest ρ=>Res.ok (oss++rest) ρ).noX.bind fun os' ρ'=>Res.ok (O.lst os') (b7 as os (hI (own.map (·.2)) ρ1 ρ'))) (fun o ρ=>∀ v H,At T B H ρ σ ((o,v)::l)→Q v H)) ?_ ?_ ?_ ?_
  ·refine⟨ar (own.map (·.2)) ρ1,[],hn0,Nat.le_refl _,⟨a3.ok,?_,a3.pr⟩,?_⟩
   ·have s1:Sat T B H1 (([]:List O).zip ([]:List V)++(ah (ar (own.map (·.2)) ρ1) (L2.wipe σ (own.map (·.2)))++(outs++(os.zip vs++l)))):=a3.sat
    exact(Sat.newL s1 rfl hD).perm List.perm_middle.symm
   ·rw [List.drop_zero]
    have:((bq f ds (ar (own.map (·.2)) ρ1)).bind fun rest ρ=>Res.ok ([]++rest) ρ)=bq f ds (ar (own.map (·.2)) ρ1):=by
     generalize bq f ds (ar (own.map (·.2)) ρ1)=r
     cases r <;> rfl
    rw [this]
    exact k
  ·rintro i H2 _ ⟨ρi,oss,_,_,a4,_⟩
   exact⟨_,hd (m:=[_]) a4⟩
  ·rintro i x H2 H3 hi2 ⟨ρi,oss,hni,hoi,a4,k4⟩ y
   obtain⟨d,hdd,s5⟩:=y _ (hd (m:=[(.lst oss,.ref D)]) a4)
   have ed:ds.drop i=d::ds.drop (i+1):=by
    obtain⟨hj,hv⟩:=List.getElem?_eq_some_iff.mp hdd
    rw [← hv]
    exact List.drop_eq_getElem_cons hj
   rw [ed,bq]at k4
   have a5:At T B H3 ρi (L2.wipe σ (own.map (·.2))) ((.d d,x)::(.lst oss,.ref D)::(outs++(os.zip vs++l))):=⟨a4.ok,s5.perm (by
    have p0:((O.lst oss,V.ref D)::(outs++(os.zip vs++l))).Perm (os.zip vs++([(O.lst oss,V.ref D)]++(outs++l))):=by
     have p1:([(O.lst oss,V.ref D)]++(outs++(os.zip vs++l))).Perm (os.zip vs++([(O.lst oss,V.ref D)]++(outs++l))):=(aG.append_left _).trans aG
     exact p1
    have p2:(os.zip vs++(ah ρi (L2.wipe σ (own.map (·.2)))++([(O.lst oss,V.ref D)]++(outs++l)))).Perm (ah ρi (L2.wipe σ (own.map (·.2)))++((O.lst oss,V.ref D)::(outs++(os.zip vs++l)))):=aG.trans (p0.symm.append_left _)
    exact(p2.cons _).trans List.perm_middle.symm),a4.pr⟩
   have ef:f d ρi=bnd (aH t d ρi) fun ρ=>(dW Φ sifs ρ).bind fun b ρ=>jR b ((ev Φ se ρ).bind fun o ρ=>Res.ok (some o) (ar (own.map (·.2)) ρ)) (Res.ok none (ar (own.map (·.2)) ρ)):=by rw [← hf]
   rw [ef]at k4
   cases ea:aH t d ρi with
   | none=>rw [ea]at k4; exact k4.elim
   | some ρ2 =>
    rw [ea]at k4
    refine⟨d,ρi,ρ2,_,a5,ea,fun σ' sm a6=>⟨(mR sm htg).trans (by
     have key:∀ (own:List Nat),L2.wipe (L2.wipe σ own) own=L2.wipe σ own:=fun own=>mR ⟨by rw [wipe_length],fun j hj=>wipe_out hj⟩ fun i hi=>hi
     exact key _),ρ2,_,a6,?_⟩⟩
    have turn:∀ {H':Hp}{ρ':Env}{m:List bf},At T B H' ρ' σ' m→At T B H' (ar (own.map (·.2)) ρ') (L2.wipe σ (own.map (·.2))) m:=fun {H' ρ' m} a=>by
     have b:=(a.kill (is:=own.map (·.2)))
     have b1:At T B H' (ar (own.map (·.2)) ρ') (L2.wipe σ' (own.map (·.2))) m:=b.wipe (fun i hi=>jU (.inl hi)) hp
     have e1:L2.wipe σ' (own.map (·.2))=L2.wipe σ (own.map (·.2)):=(mR sm htg).trans (mR ⟨by rw [wipe_length],fun j hj=>wipe_out hj⟩ fun i hi=>hi)
     rw [e1]at b1
     exact b1
    cases ec:dW Φ sifs ρ2 with
    | bad=>simp only [cX,ec]at k4; exact k4.elim
    | exc C p ρ3=>simp only [cX,ec]at k4; exact k4.elim
    | ok b ρ3 =>
     simp only [cX,ec,Res.bind_ok]at k4
     intro H4 a7
     cases b with
     | false =>
      rw [if_neg Bool.false_ne_true]
      refine⟨ar (own.map (·.2)) ρ3,oss,fun j hj=>jU (.inl hj),by omega,turn a7,?_⟩
      simp only [z6,Res.bind_ok]at k4
      have e2:(((bq f (ds.drop (i+1)) (ar (own.map (·.2)) ρ3)).bind fun os ρ=>Res.ok os ρ).bind fun rest ρ=>Res.ok (oss++rest) ρ)=(bq f (ds.drop (i+1)) (ar (own.map (·.2)) ρ3)).bind fun rest ρ=>Res.ok (oss++rest) ρ:=by
       generalize bq f (ds.drop (i+1)) (ar (own.map (·.2)) ρ3)=r
       cases r <;> rfl
      rw [e2]at k4
      exact k4
     | true =>
      rw [if_pos rfl]
      simp only [Bg]at k4
      refine⟨ρ3,_,a7,?_⟩
      cases ee:ev Φ se ρ3 with
      | bad=>simp only [ee]at k4; exact k4.elim
      | exc C p ρ4=>simp only [ee]at k4; exact k4.elim
      | ok o ρ4 =>
       simp only [ee,Res.bind_ok]at k4
       intro y H5 a8
       have s9:Sat T B H5 ((.lst oss,.ref D)::(ah ρ4 σ'++((o,y)::(outs++(os.zip vs++l))))):=a8.sat.perm (by
        have p1:((o,y)::(O.lst oss,V.ref D)::(outs++(os.zip vs++l))).Perm ((O.lst oss,V.ref D)::(o,y)::(outs++(os.zip vs++l))):=.swap _ _ _
        exact(p1.append_left _).trans List.perm_middle)
       obtain⟨D',acc,eD,hDa,hla,s10⟩:=s9.openL
       cases eD
       refine⟨acc,hDa,by omega,ar (own.map (·.2)) ρ4,oss++[o],fun j hj=>jU (.inl hj),by simp; omega,turn ⟨a8.ok,?_,a8.pr⟩,?_⟩
       ·have s11:ae T B H5 [D] ((oss++[o]).zip (acc++[y])++(ah ρ4 σ'++(outs++(os.zip vs++l)))):=by
         rw [List.zip_append hla,List.append_assoc]
         exact s10.perm (List.Perm.append_left _ List.perm_middle)
        exact((s11.write (f7 hDa).1 (f7 hDa).2.1 (f7 hDa).2.2).closeL upd_same (by simp [hla])).perm List.perm_middle.symm
       ·have e2:(((bq f (ds.drop (i+1)) (ar (own.map (·.2)) ρ4)).bind fun os ρ=>Res.ok (o::os) ρ).bind fun rest ρ=>Res.ok (oss++rest) ρ)=(bq f (ds.drop (i+1)) (ar (own.map (·.2)) ρ4)).bind fun rest ρ=>Res.ok (oss++[o]++rest) ρ:=by
         generalize bq f (ds.drop (i+1)) (ar (own.map (·.2)) ρ4)=r
         cases r <;> simp
        rw [e2]at k4
        exact k4
  ·rintro H2 ⟨ρi,oss,hni,_,a4,k4⟩
   rw [List.drop_of_length_le (Nat.le_refl _),bq]at k4
   have k4:RG T B W σ l ((Res.ok (oss++[]) ρi).noX.bind fun os' ρ'=>Res.ok (O.lst os') (b7 as os (hI (own.map (·.2)) ρ1 ρ'))) (fun o ρ=>∀ v H,At T B H ρ σ ((o,v)::l)→Q v H):=k4
   rw [List.append_nil]at k4
   exact fin oss ρi _ H2 k4 hni a4
theorem GP {elt tg iter:Expr}{ifs:List Expr}{scope:Scope}{own:List (Str×Nat)}{t:Tg}{ie:IE}{se:SE}{sifs:List SE}{pos:Pos}
  (hlen:∀ ρ p ρ',n9 Φ ie ρ = .ok p ρ'→p.1.length=p.2.1.length) (hc:X.calm=true) (hN:X.N.Nodup) (nd:(own.map (·.2)).Nodup) (hp:∀ p∈B.pr,p.1∉own.map (·.2)) (htg:∀ i∈fq t,i∈own.map (·.2))
  (hi:PI X tg iter (tI T B Φ W ie)) (ok:BlkOk X.N X.env.scope scope own)
  (hg:∀ (s:Shared) (H:Hp) (C:Addr) (cl:List (Str×Addr)) (fp:List Addr),PG (X.blk s H scope (compEnvC scope cl C X.env) fp) tg (gT T B t))
  (ht:∀ (s:Shared) (H:Hp) (C:Addr) (cl:List (Str×Addr)) (fp:List Addr),PTs (X.blk s H scope (compEnvC scope cl C X.env) fp) ifs (DV T B Φ sifs))
  (he:∀ (s:Shared) (H:Hp) (C:Addr) (cl:List (Str×Addr)) (fp:List Addr),PE (X.blk s H scope (compEnvC scope cl C X.env) fp) elt (tE T B Φ WF se)) (hs:∀ x,foldedSetIterable iter X.env x=pure x) :
  PE X (.ListComp elt [⟨tg,iter,ifs,0⟩] scope pos) (tE T B Φ W (.comp .lst se (own.map (·.2)) t ie sifs)) :=
 (pe_lc hc hN hi ok hg ht he hs).pv fun σ H Q h=>zf hlen nd hp htg h
theorem BQ {i:Nat}{y:Str}{py spos:Pos}{elt tg iter:Expr}{ifs:List Expr}{scope:Scope}{own:List (Str×Nat)}{t:Tg}{ie:IE}{se:SE}{sifs:List SE}{pos:Pos}
  (hlen:∀ ρ p ρ',n9 Φ ie ρ = .ok p ρ'→p.1.length=p.2.1.length) (hc:X.calm=true) (hN:X.N.Nodup) (hy:X.N[i]?=some y) (hyl:X.env.scope.names.lookup y=some .local) (hpi:∀ p∈B.pr,p.1≠i)
  (hsw:swapsWith (.ListComp elt [⟨tg,iter,ifs,0⟩] scope pos) (some (.Name y py)) spos.line X.env=pure true) (nd:(own.map (·.2)).Nodup) (hp:∀ p∈B.pr,p.1∉own.map (·.2)) (htg:∀ i∈fq t,i∈own.map (·.2))
  (hi:PI X tg iter (tI T B Φ W ie)) (ok:BlkOk X.N X.env.scope scope own)
  (hg:∀ (s:Shared) (H:Hp) (C:Addr) (cl:List (Str×Addr)) (fp:List Addr),PG (X.blk s H scope (compEnvC scope cl C X.env) fp) tg (gT T B t))
  (ht:∀ (s:Shared) (H:Hp) (C:Addr) (cl:List (Str×Addr)) (fp:List Addr),PTs (X.blk s H scope (compEnvC scope cl C X.env) fp) ifs (DV T B Φ sifs))
  (he:∀ (s:Shared) (H:Hp) (C:Addr) (cl:List (Str×Addr)) (fp:List Addr),PE (X.blk s H scope (compEnvC scope cl C X.env) fp) elt (tE T B Φ WF se)) (hs:∀ x,foldedSetIterable iter X.env x=pure x) :
  PS X (.Assign [.Name y py] (.ListComp elt [⟨tg,iter,ifs,0⟩] scope pos) spos) (tS T B Φ W (.asg (.nm i) (.comp .lst se (own.map (·.2)) t ie sifs))):=by
 refine⟨fun pins s σ H D I ⟨ρ,l,at_,h⟩=>(ps_setLc hc hN hy hyl hsw hi ok hg ht he hs).run pins s σ H D I ?_⟩
 rw [bo]at h
 show tLc (tI T B Φ W ie) (gT T B t) (DV T B Φ sifs) (tE T B Φ WF se) (own.map (·.2)) σ H (fun v H1=>gName i v σ H1 D.nx)
 refine zf hlen nd hp htg ⟨ρ,l,at_,RG.rp (h.rg.mono fun o ρ1 k v H1 a1=>?_)⟩
 have k:RS T B W D l (PV.bnd (aQ (.nm i) o ρ1) fun ρ=>.ok .nx ρ):=k
 rw [aQ]at k
 have k:∀ σ H,At T B H (ρ1.set i (some o)) σ l→D.nx σ H:=k
 have hl:i < ρ1.length:=by rw [a1.ok.len,I.len]; exact(List.getElem?_eq_some_iff.mp hy).1
 exact k _ _ (a1.store hl hpi)
end
end PV
namespace PV
open PySem PySem.Spec PyProof.Rows L2
def lH {α:Type} (dv:D→α) (as:List α):List (Nat ⊕ D)→Option (List α)
 | []=>some []
 | .inl i::r=>match as[i]?,lH dv as r with
  | some a,some l=>some (a::l)
  | _,_=>none
 | .inr d::r=>(lH dv as r).map (dv d :: ·)
def rC:List (Nat ⊕ D)→List Nat
 | []=>[]
 | .inl i::r=>i::rC r
 | .inr _::r=>rC r
theorem rD {α β:Type}{R:α→β→Prop}{da:D→α}{db:D→β}{as:List α}{bs:List β} (hl:as.length=bs.length) (h:∀ (i:Nat) a b,as[i]?=some a→bs[i]?=some b→R a b) :
  ∀ {g:List (Nat ⊕ D)}{xs:List α},(∀ d,.inr d∈g→R (da d) (db d))→lH da as g=some xs→∃ ys,lH db bs g=some ys∧xs.length=ys.length∧∀ (i:Nat) a b,xs[i]?=some a→ys[i]?=some b→R a b
 | [],xs,_,e=>by
  injection e with e; subst e
  exact⟨[],rfl,rfl,fun i a b h=>by simp at h⟩
 | .inl i::r,xs,hd,e=>by
  rw [lH]at e
  cases e1:as[i]? with
  | none=>rw [e1]at e; cases e
  | some a =>
   cases e2:lH da as r with
   | none=>rw [e1,e2]at e; cases e
   | some l =>
    rw [e1,e2]at e
    injection e with e; subst e
    obtain⟨ys,q1,q2,q3⟩:=rD hl h (fun d hd'=>hd d (List.mem_cons_of_mem _ hd')) e2
    have hi:i < bs.length:=by
     rw [← hl]
     exact(List.getElem?_eq_some_iff.mp e1).1
    refine⟨bs[i]::ys,by rw [lH,List.getElem?_eq_getElem hi,q1],by simp [q2],fun j a' b' h1 h2=>?_⟩
    cases j with
    | zero =>
     simp at h1 h2
     subst h1 h2
     exact h i _ _ e1 (List.getElem?_eq_getElem hi)
    | succ j=>exact q3 j a' b' (by simpa using h1) (by simpa using h2)
 | .inr d::r,xs,hd,e=>by
  rw [lH]at e
  obtain⟨l,e2,e⟩:=Option.map_eq_some_iff.mp e
  subst e
  obtain⟨ys,q1,q2,q3⟩:=rD hl h (fun d hd'=>hd d (List.mem_cons_of_mem _ hd')) e2
  refine⟨db d::ys,by rw [lH,q1]; rfl,by simp [q2],fun j a' b' h1 h2=>?_⟩
  cases j with
  | zero =>
   simp at h1 h2
   subst h1 h2
   exact hd d List.mem_cons_self
  | succ j=>exact q3 j a' b' (by simpa using h1) (by simpa using h2)
theorem pR:∀ {I L:List Nat},I.Nodup→(∀ i∈I,i∈L)→∃ R,L.Perm (I++R)
 | [],L,_,_=>⟨L,.refl _⟩
 | i::I,L,nd,h=>by
  obtain⟨n1,n2⟩:=List.nodup_cons.mp nd
  have p:=List.perm_cons_erase (h i List.mem_cons_self)
  obtain⟨R,q⟩:=pR (I:=I) (L:=L.erase i) n2 fun j hj=>(List.mem_erase_of_ne (fun e=>n1 (by rw [← e]; exact hj))).mpr (h j (List.mem_cons_of_mem _ hj))
  exact⟨R,p.trans (q.cons i)⟩
def vd (as:List Arg) (vs:List V) (i:Nat):List bf:=match as[i]?,vs[i]? with
 | some a,some v=>ak a v
 | _,_=>[]
theorem wO:∀ {as:List Arg}{vs:List V},as.length=vs.length→aD as vs=(List.range as.length).flatMap (vd as vs)
 | [],[],_=>rfl
 | a::as,v::vs,hl=>by
  show ak a v++aD as vs=_
  rw [wO (as:=as) (vs:=vs) (by simpa using hl),List.length_cons,List.range_succ_eq_map,List.flatMap_cons,List.flatMap_map]
  rfl
 | [],_::_,hl=>by simp at hl
 | _::_,[],hl=>by simp at hl
theorem ve {α β:Type}{l l':List α} (f:α→List β) (p:l.Perm l'):(l.flatMap f).Perm (l'.flatMap f):=by
 induction p with
 | nil=>exact .refl _
 | cons x _ ih=>exact ih.append_left _
 | swap x y l =>
  show(f y++(f x++l.flatMap f)).Perm (f x++(f y++l.flatMap f))
  rw [← List.append_assoc,← List.append_assoc]
  exact List.perm_append_comm.append_right _
 | trans _ _ a b=>exact a.trans b
section
variable {T:Tab}{B:Base}{Φ:cU}{W:WX}{X:Cx}{σ:L2.St}{l:List bf}{H:Hp}{ρ:Env}
theorem At.lits (a:At T B H ρ σ l) {d:D}{v:V} (h:∀ own hp,Dr T own hp d v):At T B H ρ σ ((.d d,v)::l):=⟨a.ok,(a.sat.lit h).perm List.perm_middle.symm,a.pr⟩
theorem zg:∀ {as:List Arg}{vs:List V}{i:Nat}{x:Arg} (hv:i < vs.length),cz σ as vs→as[i]?=some x→oi σ x vs[i]
 | [],vs,i,x,hv,av,e=>by simp at e
 | b::as,[],i,x,hv,av,e=>by simp at hv
 | b::as,v::vs,0,x,hv,av,e=>by simp at e; subst e; exact av.1
 | b::as,v::vs,i+1,x,hv,av,e=>zg (as:=as) (vs:=vs) (by simpa using hv) av.2 (by simpa using e)
theorem ye {as:List Arg}{vs:List V}{dv:D→V} (av:cz σ as vs):∀ {g:List (Nat ⊕ D)}{as':List Arg}{l:List bf},(∀ d,.inr d∈g→∀ own hp,Dr T own hp d (dv d))→At T B H ρ σ ((rC g).flatMap (vd as vs)++l)→arr as g=some as' →
  ∃ vs',lH dv vs g=some vs'∧At T B H ρ σ (aD as' vs'++l)∧cz σ as' vs'∧∀ i∈rC g,i < as.length
 | [],as',l,_,a,e=>by
  injection e with e; subst e
  exact⟨[],rfl,a,trivial,fun i h=>by cases h⟩
 | .inl i::r,as',l,hd,a,e=>by
  rw [arr]at e
  cases e1:as[i]? with
  | none=>rw [e1]at e; cases e
  | some x =>
   cases e2:arr as r with
   | none=>rw [e1,e2]at e; cases e
   | some t =>
    rw [e1,e2]at e
    injection e with e; subst e
    have hi:=(List.getElem?_eq_some_iff.mp e1).1
    have hv:i < vs.length:=by rw [← av.len]; exact hi
    have e3:vd as vs i=ak x vs[i]:=by unfold vd; rw [e1,List.getElem?_eq_getElem hv]
    have a1:At T B H ρ σ ((rC r).flatMap (vd as vs)++(ak x vs[i]++l)):=a.perm (by
     show((vd as vs i++(rC r).flatMap (vd as vs))++l).Perm _
     rw [e3,List.append_assoc]
     exact aG)
    obtain⟨vs',q1,q2,q3,q4⟩:=ye av (fun d hd'=>hd d (List.mem_cons_of_mem _ hd')) a1 e2
    refine⟨vs[i]::vs',by rw [lH,List.getElem?_eq_getElem hv,q1],q2.perm ?_,⟨zg hv av e1,q3⟩,fun j hj=>?_⟩
    ·show(aD t vs'++(ak x vs[i]++l)).Perm ((ak x vs[i]++aD t vs')++l)
     rw [List.append_assoc]
     exact aG
    ·rcases List.mem_cons.mp hj with e | hj
     ·rw [e]; exact hi
     ·exact q4 j hj
 | .inr d::r,as',l,hd,a,e=>by
  rw [arr]at e
  obtain⟨t,e2,e⟩:=Option.map_eq_some_iff.mp e
  subst e
  obtain⟨vs',q1,q2,q3,q4⟩:=ye av (fun d hd'=>hd d (List.mem_cons_of_mem _ hd')) a e2
  exact⟨dv d::vs',by rw [lH,q1]; rfl,q2.lits (hd d List.mem_cons_self),⟨trivial,q3⟩,q4⟩
theorem yf:∀ {as as':List Arg}{g:List (Nat ⊕ D)},arr as g=some as'→∀ i∈rC g,i < as.length
 | as,as',[],e,i,h=>by cases h
 | as,as',.inl j::r,e,i,h=>by
  rw [arr]at e
  cases e1:as[j]? with
  | none=>rw [e1]at e; cases e
  | some x =>
   cases e2:arr as r with
   | none=>rw [e1,e2]at e; cases e
   | some t =>
    rcases List.mem_cons.mp h with e | h
    ·rw [e]; exact(List.getElem?_eq_some_iff.mp e1).1
    ·exact yf e2 i h
 | as,as',.inr d::r,e,i,h=>by
  rw [arr]at e
  obtain⟨t,e2,e⟩:=Option.map_eq_some_iff.mp e
  exact yf e2 i h
theorem zh {as as':List Arg}{vs:List V}{dv:D→V}{g:List (Nat ⊕ D)} (nd:(rC g).Nodup) (hd:∀ d,.inr d∈g→∀ own hp,Dr T own hp d (dv d)) (a:At T B H ρ σ (aD as vs++l)) (av:cz σ as vs) (e:arr as g=some as') :
  ∃ vs',lH dv vs g=some vs'∧At T B H ρ σ (aD as' vs'++l)∧cz σ as' vs':=by
 obtain⟨R,p⟩:=pR (L:=List.range as.length) nd fun i hi=>List.mem_range.mpr (yf e i hi)
 have a1:At T B H ρ σ ((rC g).flatMap (vd as vs)++(R.flatMap (vd as vs)++l)):=a.perm (by
  rw [wO av.len,← List.append_assoc]
  refine List.Perm.append_right l ((ve _ p).trans ?_)
  rw [List.flatMap_append])
 obtain⟨vs',q1,q2,q3,_⟩:=ye av hd a1 e
 exact⟨vs',q1,(q2.perm aG).keepR,q3⟩
structure wQ (K:PySem.W.Frag) (fd:FuncData) (ps:List Str) (n:Nat) (ks:List Str) (g:List (Nat ⊕ D)) (dv:D→V):Prop where
 nd:(rC g).Nodup
 to:∃ du:D→Value,(∀ d,.inr d∈g→RelV (dv d) (du d))∧∀ (s:Shared) (us ws zs:List Value),K.In s.heap→us.length=n→ws.length=ks.length→lH du (us++ws) g=some zs→BindsTo s fd ⟨us,ks.zip ws⟩ (ps.zip zs)
theorem BR {vs:List V}{us:List Value}{dv:D→V}{du:D→Value}{g:List (Nat ⊕ D)}{xs:List V} (r:Vals vs us) (hd:∀ d,.inr d∈g→RelV (dv d) (du d)) (e:lH dv vs g=some xs):∃ zs,lH du us g=some zs∧Vals xs zs:=by
 obtain⟨zs,e1,e2,e3⟩:=rD (R:=RelV) r.length (fun i a b h1 h2=>by
  obtain⟨u,hu,ru⟩:=r.get h1
  rw [h2]at hu
  injection hu with hu
  subst hu
  exact ru) hd e
 refine⟨zs,e1,?_⟩
 clear e e1
 induction xs generalizing zs with
 | nil =>
  cases zs with
  | nil=>exact .nil
  | cons _ _=>simp at e2
 | cons x xs ih =>
  cases zs with
  | nil=>simp at e2
  | cons z zs=>exact .cons (e3 0 x z rfl rfl) (ih zs (by simpa using e2) fun i a b h1 h2=>e3 (i+1) a b (by simpa using h1) (by simpa using h2))
theorem zj {k:Nat}{f:Addr}{fd:FuncData}{ps ks:List Str}{sp:Sp}{E:L2.St→XK}{g:List (Nat ⊕ D)}{dv:D→V}{n:Nat}{pins:List (Addr×Obj)}{s:Shared}{Q:VK}{us ws:List Value}{vs xs:List V} (F:FnOk X.prog X.w X.K X.mg X.base (L2.CX X.prog X.w) k f fd ps sp) (hr:Room k X.A) (hb:wQ X.K fd ps n ks g dv)
  (hx:PassesAt (L2.CX X.prog X.w) X σ (E σ)) (I:Inv X pins σ H s) (r:Vals vs (us++ws)) (l1:us.length=n) (l2:ws.length=ks.length) (e:lH dv vs g=some xs) (h:sp xs H Q (E σ)):wpAny (model X.prog X.w) X.A (call (.ref f) us (ks.zip ws)) (EP X pins σ Q) X.xe s:=by
 obtain⟨du,h1,h2⟩:=hb.to
 obtain⟨zs,e1,r2⟩:=BR r h1 e
 refine wpAny_call (codeAny_mono (F.run X.A X.stack s H ⟨us,ks.zip ws⟩ zs xs Q (E σ) hr I.env0 (h2 s us ws zs I.kIn l1 l2 e1) r2 h) fun r s' hq=>?_)
 cases r with
 | error e=>exact hx pins H s e s' I hq
 | ok fl =>
  cases fl with
  | ret u=>exact I.after hq
  | next=>exact False.elim hq
  | brk=>exact False.elim hq
  | cont=>exact False.elim hq
theorem wR:∀ {a b:List SE}{ρ:Env},cj Φ (a++b) ρ=(cj Φ a ρ).bind fun x ρ=>(cj Φ b ρ).bind fun y ρ=>.ok (x++y) ρ
 | [],b,ρ=>by
  rw [List.nil_append,cj,Res.bind_ok]
  cases cj Φ b ρ <;> rfl
 | e::a,b,ρ=>by
  rw [List.cons_append,cj,cj]
  cases dJ Φ e ρ with
  | bad=>rfl
  | exc C p ρ=>rfl
  | ok x ρ1 =>
   simp only [Res.bind_ok]
   rw [wR]
   cases cj Φ a ρ1 with
   | bad=>rfl
   | exc C p ρ=>rfl
   | ok y ρ2 =>
    simp only [Res.bind_ok]
    cases cj Φ b ρ2 <;> rfl
theorem rE:∀ {a:List SE}{ρ ρ':Env}{as:List Arg},cj Φ a ρ = .ok as ρ'→as.length=a.length
 | [],ρ,ρ',as,e=>by
  rw [cj]at e
  injection e with e; subst e; rfl
 | x::a,ρ,ρ',as,e=>by
  rw [cj]at e
  obtain⟨b,ρ1,_,e⟩:=Res.bind_of e
  obtain⟨bs,ρ2,e2,e⟩:=Res.bind_of e
  injection e with e; subst e
  simp [rE e2]
theorem IV:PK X [] (sY T B Φ W []):=⟨fun pos pins s σ H Q I ⟨ρ,l,a,h⟩=>pk_nil.run pos pins s σ H Q I (by
 rw [cj]at h
 exact h [] H a trivial)⟩
theorem IW {e:Expr}{se:SE}{ses:List SE}{kws:List Keyword}{nm:Option Str}{kp:Pos} (ha:PE X e (tA T B Φ W se)) (hs:PK X kws (sY T B Φ W ses)):PK X (⟨nm,e,kp⟩::kws) (sY T B Φ W (se::ses)) :=
 ⟨fun pos pins s σ H Q I ⟨ρ,l,a,h⟩=>(pk_cons ha hs).run pos pins s σ H Q I (by
  rw [cj]at h
  refine⟨ρ,l,a,h.bind.mono fun a ρ1 k v H1 a1 av=>⟨ρ1,ak a v++l,a1,RG.more (k.bind.mono fun as ρ2 k2 vs H2 a2 avs=>k2 (v::vs) H2 ?_ ⟨av,avs⟩)⟩⟩
  refine a2.perm ?_
  show(aD as vs++(ak a v++l)).Perm ((ak a v++aD as vs)++l)
  rw [← List.append_assoc]
  exact List.perm_append_comm.append_right l)⟩
def vf (X:Cx) (es:List Expr):Prop:=match es with
 | []=>True
 | e::es=>starEach (e::es) X.env=(false,eval e X.env)::starEach es X.env
theorem wU {es:List Expr}{kws:List Keyword}{sp sk:List SE}{ks:List Str}{pos:Pos}{f:Value}{first:List Value}{pins:List (Addr×Obj)}{s:Shared}{Q:VK}{K:List Arg→Env→Prop} (hp:PA X es (sY T B Φ W sp)) (hk:PK X kws (sY T B Φ W sk)) (kf:PySem.W.keepIn X.K f=true)
  (h0:es = []→sp = []) (h1:vf X es) (hall:(backToKw pos (keywordEach kws X.env)).all (·.1.isSome)=true) (hks:(backToKw pos (keywordEach kws X.env)).filterMap (·.1)=ks)
  (hpl:((backTo pos (starEach es X.env)).any (·.1)||(backToKw pos (keywordEach kws X.env)).any (·.1.isNone))=false)
  (I:Inv X pins σ H s) (a:At T B H ρ σ l) (h:RG T B W σ l (cj Φ (sp++sk) ρ) K)
  (go:∀ as ρ' us ws s1 vs H1,K as ρ'→Inv X pins σ H1 s1→Vals vs (us++ws)→us.length=sp.length→ws.length=sk.length→At T B H1 ρ' σ (aD as vs++l)→cz σ as vs→wpAny (model X.prog X.w) X.A (call f (first++us) (ks.zip ws)) (EP X pins σ Q) X.xe s1) :
  wpAny (model X.prog X.w) X.A (callWith pos f first (backTo pos (starEach es X.env)) (backToKw pos (keywordEach kws X.env))) (EP X pins σ Q) X.xe s:=by
 rw [wR]at h
 have h:=h.bind.eq
 -- the keywords,behind the values by place
 have kw:∀ (as:List Arg) (ρ1:Env) (us:List Value) (vs:List V) (s1:Shared) (H1:Hp),cj Φ sp ρ = .ok as ρ1→RG T B W σ l ((cj Φ sk ρ1).bind fun y ρ=>.ok (as++y) ρ) K→Inv X pins σ H1 s1→Vals vs us→At T B H1 ρ1 σ (aD as vs++l)→cz σ as vs →
   wpAny (model X.prog X.w) X.A (evalAll ((backToKw pos (keywordEach kws X.env)).map (·.2))) (fun kv s₂=>X.K.In s₂.heap∧wpAny (model X.prog X.w) X.A (call f (first++us) (((backToKw pos (keywordEach kws X.env)).filterMap (·.1)).zip kv)) (EP X pins σ Q) X.xe s₂) X.xe s1:=by
  intro as ρ1 us vs s1 H1 ea h I1 r a1 av
  rw [hks]
  refine thn (hk.run pos pins s1 σ H1 (fun ws H2=>∃ bs ρ2,K (as++bs) ρ2∧At T B H2 ρ2 σ (aD bs ws++(aD as vs++l))∧cz σ bs ws∧bs.length=sk.length) I1 ⟨ρ1,aD as vs++l,a1,RG.more (h.bind.eq.mono fun bs ρ2 ⟨eb,k⟩ ws H2 a2 bv=>⟨bs,ρ2,k,a2,bv,rE eb⟩)⟩) fun ws' s2 ⟨zs,H2,I2,rz,bs,ρ2,k,a2,bv,lb⟩=>⟨I2.kIn,?_⟩
  refine go (as++bs) ρ2 us ws' s2 (vs++zs) H2 k I2 (r.append rz) ?_ ?_ (a2.perm ?_) ?_
  ·rw [← r.length,← av.len,rE ea]
  ·rw [← rz.length,← bv.len,lb]
  ·have:∀ {as:List Arg}{vs:List V}{bs:List Arg}{zs:List V},as.length=vs.length→aD (as++bs) (vs++zs)=aD as vs++aD bs zs:=by
    intro as
    induction as with
    | nil=>intro vs bs zs hl; cases vs with
     | nil=>rfl
     | cons _ _=>simp at hl
    | cons a as ih=>intro vs bs zs hl; cases vs with
     | nil=>simp at hl
     | cons v vs=>show ak a v++aD (as++bs) (vs++zs)=_; rw [ih (by simpa using hl)]; show _=(ak a v++aD as vs)++_; rw [List.append_assoc]
   rw [this av.len,List.append_assoc]
   exact aG
  ·have:∀ {as:List Arg}{vs:List V},cz σ as vs→cz σ (as++bs) (vs++zs):=by
    intro as
    induction as with
    | nil=>intro vs h; cases vs with
     | nil=>exact bv
     | cons _ _=>exact h.elim
    | cons a as ih=>intro vs h; cases vs with
     | nil=>exact h.elim
     | cons v vs=>exact⟨h.1,ih h.2⟩
   exact this av
 cases es with
 | nil =>
  have e0:=h0 rfl
  subst e0
  rw [cj]at h
  exact PySem.W.callWith_KW0 (h₀:=X.base) I.ok.mod.kin kf hall (kw [] ρ [] [] s H (by rw [cj]) h.2 I .nil a trivial) hpl
 | cons e es =>
  refine PySem.W.callWith_KW (h₀:=X.base) I.ok.mod.kin kf hall (thn (hp.run pos pins s σ H (fun vs H1=>∃ as ρ1,cj Φ sp ρ = .ok as ρ1∧RG T B W σ l ((cj Φ sk ρ1).bind fun y ρ=>Res.ok (as++y) ρ) K∧At T B H1 ρ1 σ (aD as vs++l)∧cz σ as vs) I ⟨ρ,l,a,h.mono fun as ρ1 ⟨ea,k⟩ vs H1 a1 av=>⟨as,ρ1,ea,k,a1,av⟩⟩) fun us s1 q=>?_) hpl h1
  obtain⟨vs,H1,I1,r,as,ρ1,ea,k,a1,av⟩:=q
  exact kw as ρ1 us vs s1 H1 ea k I1 r a1 av
end
end PV
namespace PV
open PySem PySem.Spec PyProof.Rows L2
section
variable {T:Tab}{B:Base}{Φ:cU}{W W':WX}{X:Cx}{σ:L2.St}{l:List bf}{H:Hp}{ρ:Env}
theorem zk {y:Arg}{v:V}{o:O} (a:At T B H ρ σ (ak y v++l)) (av:oi σ y v) (e:m8 y ρ=some o):∃ m,Sat T B H ((o,v)::m):=by
 cases y with
 | val o' =>
  have e:some o'=some o:=e
  injection e with e
  subst e
  exact⟨_,ae.perm (m:=(o',v)::(ah ρ σ++l)) a.sat List.perm_middle⟩
 | slot j =>
  have av:σ[j]?=some (some v):=av
  exact⟨_,ae.perm (a.take e av).sat List.perm_middle⟩
theorem DW {C:Nat}{f:Str}{d:D}{u:Unit} (e:DF C f d=some u):∃ ns xs,d = .obj C ns xs∧f∉ns:=by
 cases d with
 | obj C' ns xs =>
  have e:(if C'=C∧f∉ns then some ()else none)=some u:=e
  by_cases h:C'=C∧f∉ns
  ·obtain⟨h1,h2⟩:=h; subst h1; exact⟨ns,xs,rfl,h2⟩
  ·rw [if_neg h]at e; cases e
 | _=>cases e
theorem lu {f:Str}:∀ {ns:List Str}{vs:List V},f∉ns→(ns.zip vs).lookup f=none
 | [],vs,_=>by simp
 | n::ns,[],_=>by simp
 | n::ns,v::vs,h=>by
  have h1:f≠n:=fun e=>h (by rw [e]; exact List.mem_cons_self)
  have h2:(f == n)=false:=by simpa using h1
  show(List.lookup f ((n,v)::ns.zip vs))=none
  rw [List.lookup_cons,h2]
  exact lu fun z=>h (List.mem_cons_of_mem _ z)
theorem DX {y:Arg}{v:V}{o:O}{C:Nat}{ns:List Str}{xs:List D} (a:At T B H ρ σ (ak y v++l)) (av:oi σ y v) (e:m8 y ρ=some o) (eo:o.frz = .obj C ns xs):∃ a dx vs,v = .ref a∧H a=some (.ins (T.cls C) dx (ns.zip vs)):=by
 obtain⟨m,s⟩:=zk a av e
 obtain⟨b,dx,vs,h1,h2,_⟩:=Sat.kidsO s eo
 exact⟨b,dx,vs,h1,h2⟩
section
variable {k fi n:Nat}{f:Addr}{fd:FuncData}{ps ks:List Str}{run:List O→bA}{g:List (Nat ⊕ D)}{dv:D→V}{x:Str}{p pos apos:Pos}{e o:Expr}{es:List Expr}{kws:List Keyword}{sp sk:List SE}{sa sb:SE}{C:Nat}{m:Str}
theorem DY (F:FnOk X.prog X.w X.K X.mg X.base (L2.CX X.prog X.w) k f fd ps (bI T run)) (hΦ:Φ fi=⟨n,run⟩) (hr:Room k X.A) (hb:wQ X.K fd ps sp.length ks g dv) (hdv:∀ d,.inr d∈g→∀ own hp,Dr T own hp d (dv d)) (hlen:sk.length=ks.length)
  (hg:Gl X x) (hm:X.mg x=some (.ref f)) (hk:PySem.W.keepIn X.K (.ref f)=true) (tk:Takes X W) (hp:PA X es (sY T B Φ W sp)) (hkw:PK X kws (sY T B Φ W sk)) (h0:es = []→sp = []) (h1:vf X es)
  (hall:(backToKw pos (keywordEach kws X.env)).all (·.1.isSome)=true) (hks:(backToKw pos (keywordEach kws X.env)).filterMap (·.1)=ks) (hpl:((backTo pos (starEach es X.env)).any (·.1)||(backToKw pos (keywordEach kws X.env)).any (·.1.isNone))=false)
  (hdb:(x == ("__debug__" : Str))=false):PE X (.Call (.Name x p) es kws pos) (tE T B Φ W (.callp fi (sp++sk) g)):=by
 refine⟨fun pins s σ H Q I ⟨ρ,l,a,h⟩=>?_⟩
 rw [ev,hΦ]at h
 have h:=h.rg.bind
 refine wpAny_Call_Name_kw (ld_glob I hg hm ?_ hdb)
 refine wU hp hkw hk h0 h1 hall hks hpl I a h fun as ρ' us ws s1 vs H1 kk I1 r l1 l2 a1 av=>?_
 obtain⟨as',e,kk⟩:=kk.bnd
 obtain⟨xs,e1,a2,av2⟩:=zh hb.nd hdv a1 av e
 exact zj (E:=WE W) F hr hb (passAt tk σ) I1 r l1 (l2.trans hlen) e1 (call_of kk a2 av2)
theorem JT {pl:Sem Bool} (c:Cls X.K (T.cls C)) (hm:Meth X.K (T.cls C) m f) (F:FnOk X.prog X.w X.K X.mg X.base (L2.CX X.prog X.w) k f fd ps (bI T run)) (hΦ:Φ fi=⟨n,run⟩) (hr:Room k X.A) (hb:wQ X.K fd ps (sp.length+1) ks g dv) (hdv:∀ d,.inr d∈g→∀ own hp,Dr T own hp d (dv d)) (hlen:sk.length=ks.length)
  (tk:Takes X W) (he:PE X o (tA T B Φ W sa)) (hp:PA X es (sY T B Φ W sp)) (hkw:PK X kws (sY T B Φ W sk)) (h0:es = []→sp = []) (h1:vf X es)
  (hall:(backToKw pos (keywordEach kws X.env)).all (·.1.isSome)=true) (hks:(backToKw pos (keywordEach kws X.env)).filterMap (·.1)=ks) (hpl:((backTo pos (starEach es X.env)).any (·.1)||(backToKw pos (keywordEach kws X.env)).any (·.1.isNone))=false)
  (ht:eval (.Call (.Attribute o m apos) es kws pos) X.env=(do
   let ov ← eval o X.env
   standAt apos.atName
   let (f,first) ← holding [ov] (getMethod ov m pl)
   callWith pos f first (backTo pos (starEach es X.env)) (backToKw pos (keywordEach kws X.env)))):PE X (.Call (.Attribute o m apos) es kws pos) (tE T B Φ W (.meth C m fi sa (sp++sk) g)):=by
 refine⟨fun pins s σ H Q I ⟨ρ,l,a,h⟩=>?_⟩
 rw [ev,hΦ]at h
 have h:=h.rg.bind
 refine PySem.W.methodCall_KW (pl:=pl) (thn (he.run pins s σ H (fun v H1=>∃ y ρ1,RG T B W σ l (bnd (m8 y ρ1) fun o=>bnd (DF C m o.frz) fun _=>(cj Φ (sp++sk) ρ1).bind fun as ρ=>bnd (arr (y::as) g) fun as=>i9 ⟨n,run⟩ as ρ) (fun o ρ=>∀ v H,At T B H ρ σ ((o,v)::l)→Q v H)∧At T B H1 ρ1 σ (ak y v++l)∧oi σ y v) I ⟨ρ,l,a,h.mono fun y ρ1 k v H1 a1 av=>⟨y,ρ1,k,a1,av⟩⟩) fun u s1 hq=>?_) ht
 obtain⟨v,H1,I1,rx,y,ρ1,kk,a1,av⟩:=hq
 obtain⟨o',eo,kk⟩:=kk.bnd
 obtain⟨_,em,kk⟩:=kk.bnd
 obtain⟨ns,xs,ef,nf⟩:=DW em
 obtain⟨b,dx,ws,rfl,ea⟩:=DX a1 av eo ef
 obtain rfl:u=Value.ref b:=rx
 refine getmeth_ok I1 ea c hm (lu nf) ?_
 have kk:=RG.more (m:=ak y (.ref b)) kk.bind
 refine wU hp hkw hm.kp h0 h1 hall hks hpl I1 a1 kk fun as ρ' us ws s2 vs H2 kk I2 r l1 l2 a2 av2=>?_
 obtain⟨as',e,kk⟩:=kk.bnd
 have a3:At T B H2 ρ' σ (aD (y::as) (.ref b::vs)++l):=a2.perm (by
  show(aD as vs++(ak y (.ref b)++l)).Perm ((ak y (.ref b)++aD as vs)++l)
  rw [List.append_assoc]
  exact aG)
 obtain⟨xs,e1,a4,av4⟩:=zh hb.nd hdv a3 ⟨av,av2⟩ e
 refine zj (E:=WE W) (us:=.ref b::us) (vs:=.ref b::vs) F hr hb (passAt tk σ) I2 (.cons rfl r) (by simp [l1]) (l2.trans hlen) e1 (call_of (n:=n) ?_ a4 av4)
 exact kk
end
end
end PV
namespace PV
open PySem PySem.Spec PyProof.Rows L2
structure GR (K:PySem.W.Frag) (C:Addr):Prop where
 cl:Cls K C
 ha:PySem.W.findIn K (.ref C) "__class__" = some (some (.builtin "object.__class__"))
 hn:PySem.W.specialIn K (.builtin "object.__class__") "__get__" = some (some (.builtin "getset_descriptor.__get__"))
 htk:PySem.W.takesIn K (.builtin "object.__class__")=some true
 hm:PySem.W.mroIn K C (.type "object")=some true
def tyV (T:Tab):D→Value
 | .non=>.type "NoneType"
 | .bl _=>.type "bool"
 | .int _=>.type "int"
 | .str _=>.type "str"
 | .tup _=>.type "tuple"
 | .lst _=>.type "list"
 | .dic _ _=>.type "dict"
 | .obj C _ _=>.ref (T.cls C)
 | .exc C _=>.ref (T.cls C)
section
variable {T:Tab}{B:Base}{Φ:cU}{W:WX}{X:Cx}{σ:L2.St}{l m:List bf}{H:Hp}{ρ:Env}{pins:List (Addr×Obj)}{s:Shared}{o:O}{v:V}{u:Value}{hs:List Addr}
theorem GS (s:ae T B H hs l) {a:Addr}{φ:Heap→Prop} (e:vw B.Z H a=some (.ext φ)):H a=some (.ext φ):=by
 rcases i8 e with e | ⟨z,o,e⟩
 ·exact e
 ·obtain⟨u2,e2,mu⟩:=s.lk a z
  rw [e]at e2
  cases e2
  exact mu.elim
theorem Ft (s:ae T B H hs l) {a:Addr}{fs:List (Str×V)} (e:vw B.Z H a=some (.xd fs)):H a=some (.xd fs):=by
 rcases i8 e with e | ⟨z,o,e⟩
 ·exact e
 ·obtain⟨u2,e2,mu⟩:=s.lk a z
  rw [e]at e2
  cases e2
  exact mu.elim
theorem GU (I:Inv X pins σ H s) (sa:ae T B H hs l) {own:Addr→Prop}{C:Nat}{dd:Option Addr}{vs:List V} (x:zZ own (vw B.Z H) C dd vs):dd=none∨∃ dx o,dd=some dx∧s.heap.get? dx=some o:=match vs,x with
 | [],x=>by
  have x:dd=none:=x
  exact .inl x
 | [v],⟨dx,e1,n,e2⟩=>by
  subst e1
  obtain⟨mA,hn,_⟩:=(show ObjOk X.prog X.w H s.heap dx (.xd _)from I.hok dx _ (Ft sa e2))
  obtain⟨o,es,ep,h1,_⟩:=hn
  exact .inr ⟨dx,o,rfl,h1⟩
theorem GV (hK:X.K=T.K) (I:Inv X pins σ H s) (r:RelV v u) (sa:ae T B H hs ((o,v)::m)) (hC:∀ C ns xs,o.frz = .obj C ns xs→GR X.K (T.cls C)) (hX:∀ C p,o.frz = .exc C p→ExcC X.K (T.cls C)∧p.length≠3):∃ P:Heap→Prop,PySem.W.KitX X.K u (tyV T o.frz) P∧P s.heap∧u≠.builtin "__main__.__loader__#opaque" := by
 have d:=sa.read
 cases ea:o.frz with
 | non=>rw [ea]at d; cases d; cases (show u=Value.none from r); exact⟨_,PySem.W.kitx_none,True.intro,fun z=>nomatch z⟩
 | bl y=>rw [ea]at d; cases d; cases (show u=Value.bool y from r); exact⟨_,PySem.W.kitx_bool,True.intro,fun z=>nomatch z⟩
 | int i=>rw [ea]at d; cases d; obtain⟨t,q⟩:=(show ∃ t,u=Value.int i t from r); cases q; exact⟨_,PySem.W.kitx_int,True.intro,fun z=>nomatch z⟩
 | str y=>rw [ea]at d; cases d; obtain⟨t,q⟩:=(show ∃ t,u=Value.str y t from r); cases q; exact⟨_,PySem.W.kitx_str,True.intro,fun z=>nomatch z⟩
 | tup xs =>
  obtain⟨a,vs,rfl,ha,_⟩:=Sat.kidsT sa ea
  cases (show u=Value.ref a from r)
  obtain⟨its,_,⟨o1,h1,h2,_⟩,_⟩:=I.tuple (by rw [hK]; exact ha)
  exact⟨_,PySem.W.kitx_tuple,⟨o1,h1,h2⟩,fun z=>nomatch z⟩
 | lst xs =>
  obtain⟨a,vs,rfl,ha,_⟩:=Sat.kidsL sa ea
  cases (show u=Value.ref a from r)
  obtain⟨its,_,⟨o1,n,h1,h2,_⟩,_⟩:=I.list (by rw [hK]; exact ha)
  exact⟨_,PySem.W.kitx_list,⟨o1,h1,h2⟩,fun z=>nomatch z⟩
 | dic ks xs =>
  rw [ea]at d
  obtain⟨a,ws,rfl,dr,_⟩:=qY sa d
  cases (show u=Value.ref a from r)
  have:∃ o:Obj,s.heap.get? a=some o∧o.cls = .type "dict" := by
   rcases dr with⟨js,_,q,_⟩ | ⟨js,_,q,_⟩
   ·rcases q with q | ⟨ob,q⟩
    ·obtain⟨_,_,vs,_,o,es,ep,h1,h2,_⟩:=(show ObjOk X.prog X.w H s.heap a (.dK _)from I.hok a _ q)
     exact⟨o,h1,h2.1⟩
    ·obtain⟨_,_,_,vs,_,o,es,ep,h1,h2,_⟩:=(show ObjOk X.prog X.w H s.heap a (.frz ob (.dK _))from I.hok a _ q)
     exact⟨o,h1,h2.1⟩
   ·rcases q with q | ⟨ob,q⟩
    ·obtain⟨_,_,xs,_,o,es,ep,h1,h2,_⟩:=(show ObjOk X.prog X.w H s.heap a (.dT _)from I.hok a _ q)
     exact⟨o,h1,h2.1⟩
    ·obtain⟨_,_,_,xs,_,o,es,ep,h1,h2,_⟩:=(show ObjOk X.prog X.w H s.heap a (.frz ob (.dT _))from I.hok a _ q)
     exact⟨o,h1,h2.1⟩
  obtain⟨o,h1,h2⟩:=this
  exact⟨_,PySem.W.kitx_dict,⟨o,h1,h2⟩,fun z=>nomatch z⟩
 | obj C ns xs =>
  obtain⟨a,dx,vs,rfl,h,_⟩:=Sat.kidsO sa ea
  cases (show u=Value.ref a from r)
  obtain⟨mA,O,_⟩:=ins_get I.hok h
  obtain⟨od,J,_⟩:=O.look
  have c:=hC C ns xs ea
  exact⟨_,PySem.W.kitx_own (c.cl.get _) c.cl.hd c.ha c.hn c.htk c.hm,J,fun z=>nomatch z⟩
 | exc C p =>
  rw [ea]at d
  obtain⟨c,c3⟩:=hX C p ea
  rcases d with⟨z,_⟩ | ⟨a,dd,vs,rfl,_,hx,xd,_⟩
  ·exact(c3 z).elim
  cases (show u=Value.ref a from r)
  obtain⟨⟨oo,h1,h2,h3,fs,h4⟩,_,_⟩:=(show ObjOk X.prog X.w H s.heap a (vZ a (T.cls C) dd)from I.hok a _ (GS sa hx))
  have J:∃ od,PySem.W.InstAt s.heap a oo (T.cls C) od:=by
   obtain⟨oc,odi,oda,osl⟩:=oo
   dsimp only at h2 h3 h4
   subst h2 h3 h4
   rcases GU I sa xd with rfl | ⟨dx,o,rfl,hd⟩
   ·exact⟨none,h1,rfl,rfl,trivial⟩
   ·exact⟨some o,h1,rfl,rfl,hd⟩
  obtain⟨od,J⟩:=J
  have hcl:(PySem.W.clsIn X.K (T.cls C)).isSome=true:=by
   obtain⟨cd,hc,_⟩:=PySem.W.any_some c.hd
   rw [hc]; rfl
  exact⟨_,PySem.W.kitx_exc hcl c.hg c.hk c.hs c.ha c.hn c.ht c.hm,J,fun z=>nomatch z⟩
section
variable {k fi n:Nat}{f g:Addr}{fd:FuncData}{ps:List Str}{run:List O→bA}{x:Str}{p pos apos:Pos}{e e1 e2:Expr}{sa sb:SE}{C:Nat}
structure IX (T:Tab) (B:Base) (Φ:cU) (W:WX) (X:Cx) (a:Expr) (op:CmpOp) (b:Expr) (se:SE):Prop where
 ex:∃ (r:R2) (ta tb:TE),OpR X (compareOp op) r∧PE X a ta∧PE X b tb∧∀ σ H Q,tE T B Φ W se σ H Q→tOp r ta tb σ H Q
def yg (Φ:cU) (se:SE):Prop:=(∀ ρ o ρ',ev Φ se ρ = .ok o ρ'→∃ b,o = .d (.bl b))∧∀ ρ,qV Φ se ρ=(ev Φ se ρ).bind fun o ρ=>(Res.of (qQ o.frz) ρ).bind fun b ρ=>.ok b ρ
theorem DZ {se:SE} (hb:yg Φ se) {Q:Bool→Hp→Prop} (h:tT T B Φ W se σ H Q):tE T B Φ W se σ H (fun v H'=>∃ k,v = .bl k∧Q k H'):=by
 obtain⟨ρ,l,a,h⟩:=h
 rw [hb.2]at h
 refine⟨ρ,l,a,RG.rp (h.bind.eq.mono fun o ρ1 k v H1 a1=>?_)⟩
 obtain⟨e,k⟩:=k
 obtain⟨b,rfl⟩:=hb.1 _ _ _ e
 have k:∀ H',At T B H' ρ1 σ l→Q b H':=k
 exact⟨b,a1.bl1,k H1 a1.drop⟩
theorem KI {op:CmpOp}{a b:Expr}{se:SE}{pos:Pos} (hb:yg Φ se) (h:IX T B Φ W X a op b se) (hm:behindInMarks op b=false):PT X (.Compare a [op] [b] pos) (tT T B Φ W se):=by
 obtain⟨r,ta,tb,h1,h2,h3,h4⟩:=h.ex
 exact(pt_cmpR h1 h2 h3 hm).pv fun σ H Q h=>h4 σ H _ (DZ hb h)
theorem Res.bnd_of {α β:Type}{o:Option α}{f:α→Res β}{b:β}{ρ':Env} (h:bnd o f = .ok b ρ'):∃ a,o=some a∧f a = .ok b ρ':=by
 cases o with
 | none=>cases h
 | some a=>exact⟨a,rfl,h⟩
end
end
end PV
namespace PV
open PySem PySem.Spec PyProof.Rows L2
section
variable {T:Tab}{B:Base}{Φ:cU}{W:WX}{X:Cx}{σ:L2.St}{l m:List bf}{H:Hp}{ρ:Env}{pins:List (Addr×Obj)}{s:Shared}
def Fu (T:Tab):v5→Value
 | .bool=>.type "bool"
 | .int=>.type "int"
 | .str=>.type "str"
 | .list=>.type "list"
 | .tuple=>.type "tuple"
 | .dict=>.type "dict"
 | .verr=>.type "ValueError"
 | .cls C=>.ref (T.cls C)
end
end PV
namespace PV
open PySem PySem.Spec PyProof.Rows L2
structure qj (K:PySem.W.Frag) (T:Tab) (cs:List Nat):Prop where
 ci:∀ C∈cs,20≤C→GR K (T.cls C)
 cx:∀ C∈cs,C < 20→ExcC K (T.cls C)
 kb:∀ C∈cs,∀ b∈iN,PySem.W.kitOne K (.ref (T.cls C)) (.type b)=some (decide (C < 20)&&b == "ValueError")
 kc:∀ C∈cs,∀ a∈nX,PySem.W.kitOne K (.type a) (.ref (T.cls C))=some false
 cc:∀ C∈cs,∀ C'∈cs,PySem.W.kitOne K (.ref (T.cls C)) (.ref (T.cls C'))=some (DA C C')
def tyName:v5→String
 | .bool => "bool" | .int => "int" | .str => "str" | .list => "list" | .tuple => "tuple" | .dict => "dict" | .verr => "ValueError" | .cls _ => ""
def GW (T:Tab):v5→V
 | .cls C=>.ref (T.cls C)
 | t=>.ty (tyName t)
def IY (cs:List Nat):v5→Bool
 | .cls C=>decide (C∈cs)
 | _=>true
theorem D0 (T:Tab) (t:v5):ClsV (GW T t) (Fu T t):=by
 cases t <;> first | exact .own _ | exact .ty _
theorem GX:∀ a∈nX,∀ b∈iN,kitB a b=some (a == b||(a == "bool" && b == "int")):=by
 have h:(nX.all fun a=>iN.all fun b=>kitB a b == some (a == b||(a == "bool" && b == "int")))=true:=by decide +kernel
 intro a ha b hb
 exact eq_of_beq (List.all_eq_true.mp (List.all_eq_true.mp h a ha) b hb)
theorem BS {C C':Nat} (h:20≤C):DA C C'=(C' == C):=by
 have e:decide (C < 20)=false:=decide_eq_false (by omega)
 show(C == C'||(C' == 0&&decide (C < 20)))=_
 rw [e,Bool.and_false,Bool.or_false]
 by_cases q:C=C'
 ·subst q; rfl
 ·rw [beq_false_of_ne q,beq_false_of_ne (Ne.symm q)]
set_option maxHeartbeats 4000000 in
theorem D1 {K:PySem.W.Frag}{T:Tab}{cs:List Nat} (F:qj K T cs) {d:D}{t:v5} (hx:∀ C p,d = .exc C p→C∈cs∧C < 20∧p.length≠3) (ho:∀ C ns vs,d = .obj C ns vs→C∈cs∧20≤C) (ht:IY cs t=true):PySem.W.kitOne K (tyV T d) (Fu T t)=some (jC d t):=by
 have b:∀ (a b:String),a∈nX→b∈iN→PySem.W.kitOne K (.type a) (.type b)=some (a == b||(a == "bool" && b == "int")):=fun a b ha hb=>kit_ty (GX a ha b hb)
 cases d with
 | exc C p =>
  obtain⟨hc,hl,_⟩:=hx C p rfl
  have q:∀ b∈iN,PySem.W.kitOne K (.ref (T.cls C)) (.type b)=some (b == "ValueError"):=fun b hb=>(F.kb C hc b hb).trans (by rw [show decide (C < 20)=true from decide_eq_true hl,Bool.true_and])
  cases t with
  | cls C'=>exact F.cc C hc C' (of_decide_eq_true ht)
  | bool=>exact q "bool" (by decide)
  | int=>exact q "int" (by decide)
  | str=>exact q "str" (by decide)
  | list=>exact q "list" (by decide)
  | tuple=>exact q "tuple" (by decide)
  | dict=>exact q "dict" (by decide)
  | verr=>exact q "ValueError" (by decide)
 | obj C ns vs =>
  obtain⟨hc,hl⟩:=ho C ns vs rfl
  have q:∀ b∈iN,PySem.W.kitOne K (.ref (T.cls C)) (.type b)=some false:=fun b hb=>(F.kb C hc b hb).trans (by rw [show decide (C < 20)=false from decide_eq_false (by omega),Bool.false_and])
  cases t with
  | cls C' =>
   have e:=F.cc C hc C' (of_decide_eq_true ht)
   rw [BS hl]at e
   exact e
  | bool=>exact q "bool" (by decide)
  | int=>exact q "int" (by decide)
  | str=>exact q "str" (by decide)
  | list=>exact q "list" (by decide)
  | tuple=>exact q "tuple" (by decide)
  | dict=>exact q "dict" (by decide)
  | verr=>exact q "ValueError" (by decide)
 | non=>cases t <;> first | exact F.kc _ (of_decide_eq_true ht) _ (by decide) | exact b "NoneType" _ (by decide) (by decide)
 | bl _=>cases t <;> first | exact F.kc _ (of_decide_eq_true ht) _ (by decide) | exact b "bool" _ (by decide) (by decide)
 | int _=>cases t <;> first | exact F.kc _ (of_decide_eq_true ht) _ (by decide) | exact b "int" _ (by decide) (by decide)
 | str _=>cases t <;> first | exact F.kc _ (of_decide_eq_true ht) _ (by decide) | exact b "str" _ (by decide) (by decide)
 | tup _=>cases t <;> first | exact F.kc _ (of_decide_eq_true ht) _ (by decide) | exact b "tuple" _ (by decide) (by decide)
 | lst _=>cases t <;> first | exact F.kc _ (of_decide_eq_true ht) _ (by decide) | exact b "list" _ (by decide) (by decide)
 | dic _ _=>cases t <;> first | exact F.kc _ (of_decide_eq_true ht) _ (by decide) | exact b "dict" _ (by decide) (by decide)
section
variable {T:Tab}{B:Base}{Φ:cU}{W:WX}{X:Cx}{σ:L2.St}{l m:List bf}{H:Hp}{ρ:Env}{pins:List (Addr×Obj)}{s:Shared}{e c o:Expr}{es:List Expr}{p pos apos cpos:Pos}{sa sb:SE}{ses:List SE}{cs:List Nat}
theorem D2 {ts:List v5}{d:D}{r:O} (e:fQ cs ts [d]=some r):(∀ C p,d = .exc C p→C∈cs∧C < 20∧p.length≠3)∧(∀ C ns vs,d = .obj C ns vs→C∈cs∧20≤C)∧r = .d (.bl (ts.any (jC d))):=by
 cases d with
 | exc C p =>
  have e:(if C∈cs∧C < 20∧p.length≠3 then some (O.d (.bl (ts.any (jC (.exc C p)))))else none)=some r:=e
  by_cases h:C∈cs∧C < 20∧p.length≠3
  ·rw [if_pos h]at e
   injection e with e
   exact⟨fun C' p' z=>by injection z with z z'; subst z z'; exact h,(fun _ _ _ z=>nomatch z),e.symm⟩
  ·rw [if_neg h]at e; cases e
 | obj C ns vs =>
  have e:(if C∈cs∧20≤C then some (O.d (.bl (ts.any (jC (.obj C ns vs)))))else none)=some r:=e
  by_cases h:C∈cs∧20≤C
  ·rw [if_pos h]at e
   injection e with e
   exact⟨(fun _ _ z=>nomatch z),fun C' ns' vs' z=>by injection z with z; subst z; exact h,e.symm⟩
  ·rw [if_neg h]at e; cases e
 | _=>injection e with e; exact⟨(fun _ _ z=>nomatch z),(fun _ _ _ z=>nomatch z),e.symm⟩
theorem jV {t:v5} (hK:X.K=T.K) (F:qj X.K T cs) (ht:IY cs t=true) (hg:Gl X "isinstance") (hm:X.mg "isinstance" = none) (ha:PE X e (tA T B Φ W sa)) (hc:PE X c (tC (GW T t)))
  (h1:starEach [e,c] X.env=(false,eval e X.env)::starEach [c] X.env) (h2:starEach [c] X.env=(false,eval c X.env)::starEach [] X.env) (hpl:(backTo pos (starEach [c] X.env)).any (·.1)=false) :
  PE X (.Call (.Name "isinstance" p) [e,c] [] pos) (tE T B Φ W (.isa cs [t] sa)):=by
 have cr:CallR X (.builtin "isinstance") (fun xs H Q=>∃ x,xs = [x,GW T t]∧dX T B (fQ cs [t]) false [x] H Q):=by
  intro pins s σ H xs us Q I r h
  obtain⟨x,rfl,h⟩:=h
  obtain⟨o,l,r0,sa,ee,q⟩:=oq h
  obtain⟨u1,u2,rfl,r1,r2⟩:=vals2 r
  have:=(D0 T t).eq r2
  subst this
  obtain⟨g1,g2,rfl⟩:=D2 ee
  obtain⟨P,Z,pp,hx⟩:=GV hK I r1 sa (fun C ns xs z=>F.ci C (g2 C ns xs z).1 (g2 C ns xs z).2) fun C p z=>⟨F.cx C (g1 C p z).1 (g1 C p z).2.1,(g1 C p z).2.2⟩
  refine PySem.W.kia_one Z I.kIn pp (D1 F g1 g2 ht) hx fun tk=>⟨.bl (jC o.frz t),H,I.tok tk,rfl,?_⟩
  have:=q (.bl ([t].any (jC o.frz))) H sa.bl
  rw [List.any_cons,List.any_nil,Bool.or_false]at this
  exact this
 refine(pe_callB cr hg hm (by decide +kernel) (pa_cons ha (pa_cons hc pa_nil h2) h1) (by decide) (by decide) h1 hpl).pv fun σ H Q ⟨ρ,l,a,h⟩=>?_
 rw [ev]at h
 exact⟨ρ,l,a,h.rg.bind.mono fun y ρ1 k v H1 a1 av=>⟨v,rfl,fY (as:=[y]) k (a1.perm uU) ⟨av,trivial⟩⟩⟩
theorem oF {k:Mt}{Ty id:String}{nm:Str}{b1:Expr} (pa:PlainAttrs Ty) (slot:Slot Ty nm id) (hty:typeOf (.builtin id)=pure (.type "method_descriptor")) (hm:MtR X id (fun x xs H Q=>dX T B (qp k) true (x::xs) H Q))
  (ht:∀ d o v H m,o.frz=d→cy k d=some ()→Sat T B H ((o,v)::m)→L2.tyV X.K Ty v H) (ho:PE X o (tA T B Φ W sa)) (ha:PA X (b1::es) (sY T B Φ W ses))
  (hbase:attributeBase o nm X.env (eval o X.env)=eval o X.env)
  (hfew:((backTo cpos (starEach (b1::es) X.env)).all (fun x=>! x.1)&&(backToKw cpos (keywordEach [] X.env)).all (fun x=>x.1.isSome)
   && decide ((b1::es).length+([]:List Keyword).length+(if([]:List Keyword).isEmpty then 0 else 1) < 30))=true)
  (hline:(apos.endLine == cpos.line)=true) (hs:starEach (b1::es) X.env=(false,eval b1 X.env)::starEach es X.env) (hplain:(backTo cpos (starEach es X.env)).any (·.1)=false) :
  PE X (.Call (.Attribute o nm apos) (b1::es) [] cpos) (tE T B Φ W (.mt k sa ses)) :=
 (pe_bm pa slot hty hm ho ha hbase hfew hline hs hplain).pv fun σ H Q ⟨ρ,l,a,h⟩=>by
  rw [ev]at h
  refine⟨ρ,l,a,h.rg.bind.mono fun y ρ1 k1 v H1 a1 av=>?_⟩
  obtain⟨o',eo,k1⟩:=k1.bnd
  obtain⟨uu,em,k1⟩:=k1.bnd
  obtain⟨m,sm⟩:=zk a1 av eo
  refine⟨ht _ o' v H1 m rfl em sm,ρ1,ak y v++l,a1,RG.more (k1.bind.mono fun as ρ2 k2 vs H2 a2 avs=>?_)⟩
  refine fY (as:=y::as) (vs:=v::vs) k2 (a2.perm ?_) ⟨av,avs⟩
  show(aD as vs++(ak y v++l)).Perm ((ak y v++aD as vs)++l)
  rw [List.append_assoc]
  exact aG
theorem uf {own:Addr→Prop}{h:Hp}:∀ {xs:List D}{ys:List Str}{vs:List V},jQ xs=some ys→jB T own h xs vs→vs=ys.map V.str
 | [],ys,vs,e,d=>by
  injection e with e; subst e
  exact d
 | x::xs,ys,vs,e,d=>by
  cases x with
  | str z =>
   have e:(jQ xs).map (z :: ·)=some ys:=e
   obtain⟨r,e1,e2⟩:=Option.map_eq_some_iff.mp e
   subst e2
   obtain⟨v,w,rfl,d1,d2⟩:=d
   have d1:v = .str z:=d1
   rw [d1,uf e1 d2]; rfl
  | _=>cases e
theorem rF (hK:X.K=T.K):MtR X "str.join" (fun x xs H Q=>dX T B (qp .join) true (x::xs) H Q):=by
 intro pins s σ H x xs v us Q I rx rs h
 obtain⟨os,l,r,hl,sa,e,q⟩:=h
 match os,hl with
 | o::os',hl =>
  match xs,os',hl with
  | [],[],_=>cases e1:o.frz <;> simp only [List.map_cons,List.map_nil,e1]at e <;> cases e
  | [y],[p],_ =>
   have sa:Sat T B H ((o,x)::(p,y)::l):=sa
   cases e1:o.frz with
   | str a =>
    cases e2:p.frz with
    | lst zs =>
     simp only [List.map_cons,List.map_nil,e1,e2]at e
     have e:(match jQ zs with
      | some ys=>if(ys.map (·.length)).sum+ys.length * a.length≤16777216 then some (O.d (.str (Txt.join a ys)))else none
      | none=>none)=some r:=e
     cases e3:jQ zs with
     | none=>rw [e3]at e; cases e
     | some ys =>
      rw [e3]at e
      have e:(if(ys.map (·.length)).sum+ys.length * a.length≤16777216 then some (O.d (.str (Txt.join a ys)))else none)=some r:=e
      by_cases hz:(ys.map (·.length)).sum+ys.length * a.length≤16777216
      ·rw [if_pos hz]at e
       injection e with e
       subst e
       have d1:=ae.read sa
       rw [e1]at d1
       have d1:x = .str a:=d1
       subst d1
       have s2:Sat T B H ((p,y)::(o,.str a)::l):=sa.perm (.swap _ _ _)
       have d2:=ae.read s2
       obtain⟨b,vs,rfl,hb,_,_⟩:=Sat.kidsL s2 e2
       have hv:vs=ys.map V.str:=by
        rw [e2]at d2
        obtain⟨b',vs',eb,h1,h2⟩:=d2
        injection eb with eb
        subst eb
        have hv':=uf e3 h2
        have hb':SqL T.K H b vs':=by
         rcases h1 with⟨_,h1⟩ | h1
         ·exact .inl (qM s2 (fun _ _ z=>nomatch z) h1)
         ·exact .inr h1
        rw [← hv']
        rw [← hK]at hb hb'
        exact I.list_inj hb hb'
       subst hv
       refine mt_join pins s σ H _ _ v us Q I rx rs ⟨a,b,ys,rfl,rfl,.inl (by rw [hK]; exact hb),hz,q _ _ ?_⟩
       have s3:ae T B H [] ((O.shal p,V.ref b)::(o,.str a)::l):=fc s2
       have s4:ae T B H [] ((O.shal o,V.str a)::(O.shal p,V.ref b)::l):=fc (s3.perm (.swap _ _ _))
       exact s4.str
      ·rw [if_neg hz]at e; cases e
    | _=>simp only [List.map_cons,List.map_nil,e1,e2]at e; cases e
   | _=>simp only [List.map_cons,List.map_nil,e1]at e; cases e
  | _::_::_,p::_::_,_ =>
   cases e1:o.frz <;> cases e2:p.frz <;> simp only [List.map_cons,e1,e2]at e <;> cases e
  | [],_::_,hl=>simp at hl
  | _::_,[],hl=>simp at hl
  | [_],_::_::_,hl=>simp at hl
  | _::_::_,[_],hl=>simp at hl
theorem m_split (hK:X.K=T.K):MtR X "str.split" (fun x xs H Q=>dX T B (qp .split) true (x::xs) H Q):=by
 intro pins s σ H x xs v us Q I rx rs h
 obtain⟨os,l,r,hl,sa,e,q⟩:=h
 match os,hl with
 | o::os',hl =>
  match xs,os',hl with
  | [],[],_=>cases e1:o.frz <;> simp only [List.map_cons,List.map_nil,e1]at e <;> cases e
  | [y],[p],_ =>
   have sa:Sat T B H ((o,x)::(p,y)::l):=sa
   cases e1:o.frz with
   | str a =>
    cases e2:p.frz with
    | str b =>
     simp only [List.map_cons,List.map_nil,e1,e2]at e
     have e:(if(b.length == 0)=false∧a.length+2≤sizeLine then some (O.lst ((Txt.split a b).map fun x=>.d (.str x)))else none)=some r:=e
     by_cases hz:(b.length == 0)=false∧a.length+2≤sizeLine
     ·rw [if_pos hz]at e
      injection e with e
      subst e
      have d1:=ae.read sa
      rw [e1]at d1
      have d1:x = .str a:=d1
      subst d1
      have s2:Sat T B H ((p,y)::(o,.str a)::l):=sa.perm (.swap _ _ _)
      have d2:=ae.read s2
      rw [e2]at d2
      have d2:y = .str b:=d2
      subst d2
      refine mt_split pins s σ H _ _ v us Q I rx rs ⟨a,b,rfl,rfl,hz.1,hz.2,fun pp hp=>q _ _ ?_⟩
      have s3:ae T B H [] ((O.shal p,V.str b)::(o,.str a)::l):=fc s2
      have s4:ae T B H [] ((O.shal o,V.str a)::(O.shal p,V.str b)::l):=fc (s3.perm (.swap _ _ _))
      refine Sat.newL (os:=(Txt.split a b).map fun x=>.d (.str x)) ?_ (by simp) hp
      have:∀ (zs:List Str) {m:List bf},ae T B H [] m→ae T B H [] ((zs.map fun x=>O.d (.str x)).zip (zs.map V.str)++m):=by
       intro zs
       induction zs with
       | nil=>intro m h; exact h
       | cons z zs ih=>intro m h; exact(ih h).str
      exact this _ s4
     ·rw [if_neg hz]at e; cases e
    | _=>simp only [List.map_cons,List.map_nil,e1,e2]at e; cases e
   | _=>simp only [List.map_cons,List.map_nil,e1]at e; cases e
  | _::_::_,p::_::_,_ =>
   cases e1:o.frz <;> cases e2:p.frz <;> simp only [List.map_cons,e1,e2]at e <;> cases e
  | [],_::_,hl=>simp at hl
  | _::_,[],hl=>simp at hl
  | [_],_::_::_,hl=>simp at hl
  | _::_::_,[_],hl=>simp at hl
theorem jg {d:D}{o:O}{v:V}{H:Hp}{m:List bf} (k:Mt) (hk:k = .join∨k = .split) (ed:o.frz=d) (e:cy k d=some ()) (s:Sat T B H ((o,v)::m)):L2.tyV X.K "str" v H:=by
 have r:=ae.read s
 rw [ed]at r
 rcases hk with rfl | rfl
 ·cases d <;> first | (cases (r:v = .str _); exact rfl) | cases e
 ·cases d <;> first | (cases (r:v = .str _); exact rfl) | cases e
end
end PV
namespace PV
open PySem PySem.Spec PyProof.Rows L2
def ck:List (SE×SE)→List SE
 | []=>[]
 | (k,v)::r=>k::v::ck r
def flatV:List (V×V)→List V
 | []=>[]
 | (k,v)::r=>k::v::flatV r
def Mo (T:Tab) (B:Base) (Φ:cU) (W:WX) (kvs:List (SE×SE)):List (TE×TE):=kvs.map fun p=>(tE T B Φ W p.1,tE T B Φ W p.2)
section
variable {T:Tab}{B:Base}{Φ:cU}{W:WX}{X:Cx}{σ:L2.St}{l m:List bf}{H:Hp}{ρ:Env}{pins:List (Addr×Obj)}{s:Shared}{e c o:Expr}{es:List Expr}{p pos apos cpos:Pos}{sa sb:SE}{ses:List SE}
theorem pairs_of:∀ {kvs:List (SE×SE)}{ρ:Env}{l:List bf}{H:Hp}{Q:List (V×V)→Hp→Prop},At T B H ρ σ l→RG T B W σ l (lJ Φ (ck kvs) ρ) (fun os ρ'=>∀ ps H',os.length=(flatV ps).length→At T B H' ρ' σ (os.zip (flatV ps)++l)→Q ps H')→tPairs (Mo T B Φ W kvs) σ H Q
 | [],ρ,l,H,Q,a,h=>by
  have h:RG T B W σ l (lJ Φ [] ρ) (fun os ρ'=>∀ ps H',os.length=(flatV ps).length→At T B H' ρ' σ (os.zip (flatV ps)++l)→Q ps H'):=h
  rw [lJ]at h
  exact h [] H rfl a
 | (k,v)::r,ρ,l,H,Q,a,h=>by
  have h:RG T B W σ l (lJ Φ (k::v::ck r) ρ) (fun os ρ'=>∀ ps H',os.length=(flatV ps).length→At T B H' ρ' σ (os.zip (flatV ps)++l)→Q ps H'):=h
  rw [lJ]at h
  refine⟨ρ,l,a,RG.rp (h.bind.mono fun ok ρ1 h1 y H1 a1=>⟨ρ1,(ok,y)::l,a1,RG.rp (RG.more1 ?_)⟩)⟩
  rw [lJ]at h1
  refine h1.bind.bind.mono fun ov ρ2 h2 z H2 a2=>pairs_of (kvs:=r) a2 (RG.more1 (RG.more1 ?_))
  refine h2.bind.mono fun os ρ3 h3 ps H3 hl a3=>?_
  have h3:∀ ps' H',(ok::ov::os).length=(flatV ps').length→At T B H' ρ3 σ ((ok::ov::os).zip (flatV ps')++l)→Q ps' H':=h3
  refine h3 ((y,z)::ps) H3 (by simp [flatV,hl]) (a3.perm ?_)
  show(os.zip (flatV ps)++(ov,z)::(ok,y)::l).Perm ((ok,y)::(ov,z)::(os.zip (flatV ps)++l))
  exact(List.perm_middle.trans (List.perm_middle.cons _)).trans (.swap _ _ _)
theorem ug:∀ {os:List O}{ps:List (V×V)},os.length=(flatV ps).length→(os.zip (flatV ps)).Perm ((lr os).zip (ps.map (·.1))++(nD os).zip (ps.map (·.2)))∧(lr os).length=ps.length∧(nD os).length=ps.length
 | [],[],_=>⟨.refl _,rfl,rfl⟩
 | [],_::_,h=>by simp [flatV]at h
 | _::_,[],h=>by simp [flatV]at h
 | [_],_::_,h=>by simp [flatV]at h
 | a::b::os,(k,v)::ps,h=>by
  obtain⟨h1,h2,h3⟩:=ug (os:=os) (ps:=ps) (by simpa [flatV]using h)
  refine⟨?_,by simp [lr,h2],by simp [nD,h3]⟩
  show((a,k)::(b,v)::os.zip (flatV ps)).Perm ((a,k)::((lr os).zip (ps.map (·.1))++(b,v)::(nD os).zip (ps.map (·.2))))
  exact((h1.cons _).trans List.perm_middle.symm).cons _
theorem putK_new {kvs:List (Key×V)}{k:Key}{v:V} (h:∀ kv∈kvs,kv.1≠k):putK kvs k v=kvs++[(k,v)]:=by
 unfold putK
 rw [if_neg]
 intro z
 obtain⟨kv,h1,h2⟩:=List.any_eq_true.mp z
 exact h kv h1 (of_decide_eq_true h2)
theorem pS:∀ {js:List Key}{ws:List V}{acc:List (Key×V)},js.length=ws.length→js.Nodup→(∀ j∈js,∀ kv∈acc,kv.1≠j)→(js.zip ws).foldl (fun acc kv=>putK acc kv.1 kv.2) acc=acc++js.zip ws
 | [],[],acc,_,_,_=>by simp
 | [],_::_,_,h,_,_=>by simp at h
 | _::_,[],_,h,_,_=>by simp at h
 | j::js,w::ws,acc,hl,nd,h=>by
  obtain⟨n1,n2⟩:=List.nodup_cons.mp nd
  show(js.zip ws).foldl _ (putK acc j w)=_
  rw [putK_new (h j List.mem_cons_self),pS (by simpa using hl) n2 ?_]
  ·simp
  ·intro i hi kv hkv
   rcases List.mem_append.mp hkv with hkv | hkv
   ·exact h i (List.mem_cons_of_mem _ hi) kv hkv
   ·rw [List.mem_singleton]at hkv
    subst hkv
    exact fun e=>n1 (by rw [show j=i from e]; exact hi)
theorem D3 {ks vs:List O}{o:O} (e:qT ks vs=some o):∃ js,keysOf (ks.map O.frz)=some js∧js.Nodup∧js.length≤15∧o = .dic (ks.map O.frz) vs:=by
 unfold qT at e
 cases e1:keysOf (ks.map O.frz)with
 | none=>rw [e1]at e; cases e
 | some js =>
  rw [e1]at e
  have e:(if js.Nodup∧js.length≤15 then some (O.dic (ks.map O.frz) vs)else none)=some o:=e
  by_cases h:js.Nodup∧js.length≤15
  ·rw [if_pos h]at e
   injection e with e
   exact⟨js,rfl,h.1,h.2,e.symm⟩
  ·rw [if_neg h]at e; cases e
theorem freezeL:∀ {ks:List O}{vs:List V}{hs:List Addr}{m:List bf},ae T B H hs (ks.zip vs++m)→ae T B H hs (((ks.map O.frz).map O.d).zip vs++m)
 | [],vs,hs,m,s=>s
 | k::ks,[],hs,m,s=>by simpa using s
 | k::ks,v::vs,hs,m,s=>by
  have s1:ae T B H hs ((k,v)::(ks.zip vs++m)):=s
  have s2:ae T B H hs (ks.zip vs++((.d k.frz,v)::m)):=s1.freeze.perm List.perm_middle.symm
  exact(freezeL s2).perm List.perm_middle
theorem vg:PE X (.Dict [] [] pos) (tE T B Φ W (.dct [])):=pe_dnewK.pv fun σ H Q ⟨ρ,l,a,h⟩=>by
 have h:RG T B W σ l ((lJ Φ [] ρ).bind fun os ρ=>bnd (qT (lr os) (nD os)) fun o=>.ok o ρ) fun o ρ=>∀ v H,At T B H ρ σ ((o,v)::l)→Q v H:=by rw [ev]at h; exact h.rg
 rw [lJ]at h
 have h:∀ v H,At T B H ρ σ ((.dic [] [],v)::l)→Q v H:=h
 intro p hp
 exact h _ _ ⟨a.ok,((ae.alloc a.sat hp).closeD (ks:=[]) (os:=[]) (vs:=[]) (.inl ⟨[],rfl,upd_same,rfl⟩) rfl).perm List.perm_middle.symm,a.pr⟩
theorem wV:∀ {ps:List (V×V)}{js:List Key},ps.map (·.1)=js.map kV→js.length=ps.length→ps=(js.zip (ps.map (·.2))).map fun kv=>(kV kv.1,kv.2)
 | [],[],_,_=>rfl
 | [],_::_,_,h=>by simp at h
 | _::_,[],_,h=>by simp at h
 | (k,v)::ps,j::js,e,h=>by
  simp only [List.map_cons,List.cons.injEq]at e
  rw [List.map_cons,List.zip_cons_cons,List.map_cons,← wV e.2 (by simpa using h),← e.1]
theorem D4 {keys:List (Option Expr)}{values:List Expr}{trs:List (TE×TE)}{p:Addr}{Q:VK} (h:PPs X pos keys values trs) (hall:keys.all (·.isSome)=true) (hl:keys.length=values.length) (h0:keys≠[]) (h15:keys.length≤15) (I:Inv X pins σ H s) (hp:s.heap.objs.size=p)
  (q:tPairs trs σ (upd H p (.dK [])) fun ps H2=>H2 p=some (.dK [])∧∃ kvs:List (Key×V),ps=kvs.map (fun kv=>(kV kv.1,kv.2))∧kvs.length≤15∧Q (.ref p) (upd H2 p (.dK (mergeK [] kvs)))):wpAny (model X.prog X.w) X.A (eval (.Dict keys values pos) X.env) (EP X pins σ Q) X.xe s:=by
 subst hp
 have I1:=I.laid (a:=s.heap.objs.size) (o:=.dK []) (h':=s.heap.push {cls:=.type "dict",data:=.dict #[]}) (t':=s.toks) (fun _ _ q=>Heap.get?_push_of_some _ q) (Nat.le_refl _) (dk_empty s.heap I.big)
 refine wpAny_Dict_walk (knd:=mixKind X.prog X.w) hall hl h0 h15 (thn (h.run pins _ σ _ _ I1 q) fun ws s2 ⟨ps,H2,I2,rel,e,kvs,ep,lk,q2⟩=>?_)
 subst ep
 obtain⟨rs,c,rk⟩:=carries_of (P:=X.prog) (w:=X.w) rel
 obtain⟨z,hd,vs0,r0,dd⟩:=dk_of I2.hok e
 cases r0
 refine⟨rs,c,dd,fun h' dd' hs=>⟨.ref s.heap.objs.size,_,?_,rfl,q2⟩⟩
 have hz:(mergeK [] kvs).length≤sizeLine:=by
  have h1:=length_mergeK kvs []
  rw [List.length_nil]at h1
  rw [sizeLine_eq]; omega
 have he:∃ q,h'.get? s.heap.objs.size=some q:=let ⟨q,_,_,hq,_⟩:=dd'; ⟨q,hq⟩
 exact d_write I2 (by rw [e]; exact True.intro) hs he (dk_new hz hd (rk.merge .nil) dd')
theorem pT {kvs:List (SE×SE)}{keys:List (Option Expr)}{values:List Expr} (hp:∀ B':Base,B'.pr=B.pr→PPs X pos keys values (Mo T B' Φ W kvs)) (hall:keys.all (·.isSome)=true) (hl:keys.length=values.length) (h0:keys≠[]) (h15:keys.length≤15) :
  PE X (.Dict keys values pos) (tE T B Φ W (.dct (ck kvs))):=by
 refine⟨fun pins s σ H Q I h=>?_⟩
 obtain⟨ρ,l,a,h⟩:=h
 have h:RG T B W σ l ((lJ Φ (ck kvs) ρ).bind fun os ρ=>bnd (qT (lr os) (nD os)) fun o=>.ok o ρ) fun o ρ=>∀ v H,At T B H ρ σ ((o,v)::l)→Q v H:=by rw [ev]at h; exact h.rg
 generalize hsz:s.heap.objs.size=p
 have hn:H p=none:=by rw [← hsz]; exact I.hok.fresh (Nat.le_refl s.heap.objs.size)
 have s0:Sat T B (upd H p (.dK [])) ((.dic [] [],.ref p)::(ah ρ σ++l)):=(ae.alloc a.sat hn).closeD (ks:=[]) (os:=[]) (vs:=[]) (.inl ⟨[],rfl,upd_same,rfl⟩) rfl
 obtain⟨B',Fl,own,hZ,hpr,_,hr,sa,back⟩:=Sat.call (args:=ah ρ σ++l) (l:=[(.dic [] [],.ref p)]) (s0.perm (by
  rw [← List.singleton_append]
  exact List.perm_append_comm))
 have hF:p∈Fl:=by
  obtain⟨F1,F2,rfl,⟨b,vs,G,eb,e1,_⟩,_⟩:=hr
  injection eb with eb
  rw [e1,eb]; simp
 have nz:¬ B.Z p:=ae.notZ a.sat hn
 have at':At T B' (upd H p (.dK [])) ρ σ l:=⟨a.ok,sa,by rw [hpr]; exact a.pr⟩
 have back2:∀ {H':Hp}{ρ':Env}{m:List bf},At T B' H' ρ' σ m→At T B H' ρ' σ ((.dic [] [],.ref p)::m)∧H' p=some (.dK []):=fun {H' ρ' m} a'=>by
  obtain⟨s1,k⟩:=back H' _ a'.sat
  refine⟨⟨a'.ok,s1.perm ?_,a.pr⟩,?_⟩
  ·rw [List.append_assoc]
   exact(List.perm_append_comm (l₁:=m)).append_left _
  ·have:=k _ hF
   rw [bx nz,bx nz,upd_same]at this
   exact this
 have hpp:=hp B' hpr
 refine D4 hpp hall hl h0 h15 I hsz (pairs_of at' (RG.held (o:=.dic [] []) (v:=.ref p) (fun q hq=>a.pr q hq) (fun H' ρ' m a'=>(back2 a').1) (RG.more1 h.bind) fun os ρ1 k1 ps H1 hlen a1=>?_))
 obtain⟨a2,e2⟩:=back2 a1
 obtain⟨o,eo,k1⟩:=k1.bnd
 have k1:∀ v H,At T B H ρ1 σ ((o,v)::l)→Q v H:=k1
 obtain⟨js,g1,g2,g3,rfl⟩:=D3 eo
 obtain⟨f1,f2,f3⟩:=ug hlen
 have s3:Sat T B H1 ((lr os).zip (ps.map (·.1))++((nD os).zip (ps.map (·.2))++((.dic [] [],.ref p)::(ah ρ1 σ++l)))):=a2.sat.perm (by
  have p1:(ah ρ1 σ++((O.dic [] [],V.ref p)::(os.zip (flatV ps)++l))).Perm (os.zip (flatV ps)++((O.dic [] [],V.ref p)::(ah ρ1 σ++l))):=by
   refine List.perm_middle.trans ?_
   refine(List.Perm.cons _ aG).trans List.perm_middle.symm
  refine p1.trans ?_
  rw [← List.append_assoc]
  exact f1.append_right _)
 have s4:=freezeL s3
 obtain⟨F,r,_,_⟩:=s4.reps
 obtain⟨F1,F2,_,r1,_⟩:=aP.split r
 have d1:=(A0 (by rw [List.length_map,List.length_map]; exact f2) r1).2
 have ek:ps.map (·.1)=js.map kV:=mN g1 d1
 refine⟨e2,js.zip (ps.map (·.2)),?_,?_,?_⟩
 ·have hjl:js.length=ps.length:=by
   have:=congrArg List.length ek
   simpa using this.symm
  exact wV ek hjl
 ·rw [List.length_zip]; omega
 ·have hjl:js.length=(ps.map (·.2)).length:=by
   have:=congrArg List.length ek
   simp only [List.length_map]at this ⊢
   omega
  have em:mergeK [] (js.zip (ps.map (·.2)))=js.zip (ps.map (·.2)):=by
   have:=pS (acc:=[]) hjl g2 (fun _ _ kv hkv=>by cases hkv)
   simpa [mergeK]using this
  rw [em]
  refine k1 _ _ ⟨a2.ok,?_,a2.pr⟩
  have s5:Sat T B H1 ((.dic [] [],.ref p)::((nD os).zip (ps.map (·.2))++(ah ρ1 σ++l))):=(ae.dropL s3).perm List.perm_middle
  obtain⟨b,ws,eb,hb,hw,s6⟩:=ae.openD s5
  injection eb with eb
  subst eb
  have ne:(∀ xs,H1 p≠some (.tup xs))∧(∀ ob u,H1 p≠some (.frz ob u))∧∀ g,H1 p≠some (.ext g):=⟨(fun xs z=>by rw [e2]at z; cases z),(fun ob u z=>by rw [e2]at z; cases z),fun g z=>by rw [e2]at z; cases z⟩
  have s7:ae T B (upd H1 p (.dK (js.zip (ps.map (·.2))))) [p] ((nD os).zip (ps.map (·.2))++(ah ρ1 σ++l)):=by
   have s6':ae T B H1 [p] ((nD os).zip (ps.map (·.2))++(ah ρ1 σ++l)):=by
    have:ws = []:=by
     have:ws.length=0:=by simpa using hw.symm
     exact List.eq_nil_of_length_eq_zero this
    subst this
    exact s6
   exact s6'.write ne.1 ne.2.1 ne.2.2
  exact(s7.closeD (.inl ⟨js,g1,upd_same,hjl⟩) (by rw [List.length_map]; exact f3)).perm List.perm_middle.symm
end
end PV
namespace PV
open PySem PySem.Spec PyProof.Rows L2
def dy (B:Base) (L:List Nat):Prop:=∀ p∈B.pr,p.1∈L
theorem dy.ne {B:Base}{L:List Nat}{i:Nat} (h:dy B L) (hi:L.contains i=false):∀ p∈B.pr,p.1≠i:=fun p hp e=>by
 have:L.contains i=true:=List.contains_iff_mem.mpr (e ▸ h p hp)
 rw [hi]at this; cases this
theorem dy.nin {B:Base}{L own:List Nat} (h:dy B L) (hi:(L.all fun i=>! own.contains i)=true):∀ p∈B.pr,p.1∉own:=fun p hp e=>by
 have:=List.all_eq_true.mp hi _ (h p hp)
 have h2:own.contains p.1=true:=List.contains_iff_mem.mpr e
 rw [h2]at this; cases this
theorem dy.eq {B B':Base}{L:List Nat} (h:dy B L) (e:B'.pr=B.pr):dy B' L:=fun p hp=>h p (by rw [← e]; exact hp)
def eA:SE→List Nat
 | .var i=>[i]
 | _=>[]
def vh:IE→List Nat
 | .of e=>eA e
 | .enum e=>eA e
 | .zip a b=>eA a++eA b
 | .items e=>eA e
 | .vals e=>eA e
 | .rev e=>eA e
 | .range _=>[]
 | .keys _=>[]
 | .gen _ e=>eA e
 | .zipM a b=>eA a++eA b
section
variable {Φ:cU}
theorem gR {se:SE}{ρ ρ':Env}{a:Arg} (e:dJ Φ se ρ = .ok a ρ'):∀ i,Arg.slot i=a→i∈eA se:=by
 intro i hi
 subst hi
 have val:∀ {se:SE},(∀ i,se≠.var i)→dJ Φ se ρ=(ev Φ se ρ).bind fun o ρ=>Res.ok (Arg.val o) ρ:=by
  intro se h
  cases se <;> first | (exact absurd rfl (h _)) | (rw [dJ]; intro i; exact h i)
 cases se with
 | var j =>
  rw [dJ]at e
  cases q:ax ρ j with
  | none=>rw [q]at e; cases e
  | some o =>
   rw [q]at e
   injection e with e1 _
   injection e1 with e1
   subst e1
   exact List.mem_singleton.mpr rfl
 | _ =>
  rw [val (by intro i z; cases z)]at e
  obtain⟨o,ρ1,_,e⟩:=Res.bind_of e
  injection e with e1 _
  cases e1
theorem vi {ie:IE}{ρ ρ':Env}{p:List Arg×List O×List D} (e:n9 Φ ie ρ = .ok p ρ'):(∀ i,Arg.slot i∈p.1→i∈vh ie)∧p.1.length=p.2.1.length:=by
 have bnd_of:∀ {α β:Type}{o:Option α}{f:α→Res β}{b:β}{ρ':Env},bnd o f = .ok b ρ'→∃ a,o=some a∧f a = .ok b ρ':=by
  intro α β o f b ρ' h
  cases o with
  | none=>cases h
  | some a=>exact⟨a,rfl,h⟩
 cases ie with
 | of se =>
  rw [n9]at e
  obtain⟨a,ρ1,e1,e⟩:=Res.bind_of e
  obtain⟨o,ρ2,e2,e⟩:=Res.bind_of e
  obtain⟨ds,ρ3,e3,e⟩:=Res.bind_of e
  injection e with e _
  subst e
  refine⟨fun i hi=>gR e1 i (List.mem_singleton.mp hi),rfl⟩
 | range es =>
  rw [n9]at e
  obtain⟨a,ρ1,e1,e⟩:=Res.bind_of e
  obtain⟨ds,ρ3,e3,e⟩:=Res.bind_of e
  injection e with e _
  subst e
  exact⟨(fun i hi=>by cases hi),rfl⟩
 | keys i =>
  rw [n9]at e
  obtain⟨a,e1,e⟩:=bnd_of e
  obtain⟨ds,e2,e⟩:=bnd_of e
  injection e with e _
  subst e
  exact⟨(fun i hi=>by cases hi),rfl⟩
 | enum se =>
  rw [n9]at e
  obtain⟨a,ρ1,e1,e⟩:=Res.bind_of e
  obtain⟨o,ρ2,e2,e⟩:=Res.bind_of e
  obtain⟨ds,ρ3,e3,e⟩:=Res.bind_of e
  injection e with e _
  subst e
  refine⟨fun i hi=>gR e1 i (List.mem_singleton.mp hi),rfl⟩
 | gen f se =>
  rw [n9]at e
  obtain⟨a,ρ1,e1,e⟩:=Res.bind_of e
  obtain⟨o,ρ2,e2,e⟩:=Res.bind_of e
  obtain⟨ds,ρ3,e3,e⟩:=Res.bind_of e
  injection e with e _
  subst e
  refine⟨fun i hi=>gR e1 i (List.mem_singleton.mp hi),rfl⟩
 | zip sa sb =>
  rw [n9]at e
  obtain⟨a,ρ1,e1,e⟩:=Res.bind_of e
  obtain⟨b,ρ2,e2,e⟩:=Res.bind_of e
  obtain⟨o,ρ3,e3,e⟩:=Res.bind_of e
  obtain⟨o2,ρ4,e4,e⟩:=Res.bind_of e
  obtain⟨ds,ρ5,e5,e⟩:=Res.bind_of e
  injection e with e _
  subst e
  refine⟨fun i hi=>?_,rfl⟩
  rcases List.mem_cons.mp hi with h | h
  ·exact List.mem_append_left _ (gR e1 i h)
  ·exact List.mem_append_right _ (gR e2 i (List.mem_singleton.mp h))
 | zipM sa sb =>
  rw [n9]at e
  obtain⟨a,ρ1,e1,e⟩:=Res.bind_of e
  obtain⟨b,ρ2,e2,e⟩:=Res.bind_of e
  obtain⟨o,ρ3,e3,e⟩:=Res.bind_of e
  obtain⟨o2,ρ4,e4,e⟩:=Res.bind_of e
  obtain⟨ds,ρ5,e5,e⟩:=Res.bind_of e
  injection e with e _
  subst e
  refine⟨fun i hi=>?_,rfl⟩
  rcases List.mem_cons.mp hi with h | h
  ·exact List.mem_append_left _ (gR e1 i h)
  ·exact List.mem_append_right _ (gR e2 i (List.mem_singleton.mp h))
 | items se=>rw [n9]at e; cases e
 | vals se=>rw [n9]at e; cases e
 | rev se=>rw [n9]at e; cases e
end
section
variable {T:Tab}{B:Base}{Φ:cU}{W:WX}{X:Cx}{L:List Nat}
theorem gX {tg iter:Expr}{body:List Stmt}{t:Tg}{ie:IE}{sb:List SS}{pos:Pos} (pr:dy B L) (hp:PassesOwn (model X.prog X.w) X.A X.env X.xe) (hc:X.calm=true) (hi:PI X tg iter (tI T B Φ W ie)) (hg:∀ B':Base,dy B' (vh ie++L)→PG X tg (gT T B' t))
  (hb:∀ B':Base,dy B' (vh ie++L)→PSs X body (AR T B' Φ W sb)) (hs:∀ x,foldedSetIterable iter X.env x=pure x):PS X (.For tg iter body [] pos) (tS T B Φ W (.for t ie sb)) :=
 GO (vh ie) (fun ρ p ρ' e=>(vi e).1) (fun ρ p ρ' e=>(vi e).2) hp hc hi (fun B' c=>hg B' fun p hp=>List.mem_append.mpr ((c p hp).elim (fun z=>.inr (pr p z)) .inl)) (fun B' c=>hb B' fun p hp=>List.mem_append.mpr ((c p hp).elim (fun z=>.inr (pr p z)) .inl)) hs
theorem eP {elt tg iter:Expr}{ifs:List Expr}{scope:Scope}{own:List (Str×Nat)}{t:Tg}{ie:IE}{se:SE}{sifs:List SE}{pos:Pos}
  (pr:dy B L) (hc:X.calm=true) (hN:X.N.Nodup) (nd:(own.map (·.2)).Nodup) (hp:(L.all fun i=>!(own.map (·.2)).contains i)=true) (htg:∀ i∈fq t,i∈own.map (·.2))
  (hi:PI X tg iter (tI T B Φ W ie)) (ok:BlkOk X.N X.env.scope scope own)
  (hg:∀ (s:Shared) (H:Hp) (C:Addr) (cl:List (Str×Addr)) (fp:List Addr),PG (X.blk s H scope (compEnvC scope cl C X.env) fp) tg (gT T B t))
  (ht:∀ (s:Shared) (H:Hp) (C:Addr) (cl:List (Str×Addr)) (fp:List Addr),PTs (X.blk s H scope (compEnvC scope cl C X.env) fp) ifs (DV T B Φ sifs))
  (he:∀ (s:Shared) (H:Hp) (C:Addr) (cl:List (Str×Addr)) (fp:List Addr),PE (X.blk s H scope (compEnvC scope cl C X.env) fp) elt (tE T B Φ WF se)) (hs:∀ x,foldedSetIterable iter X.env x=pure x) :
  PE X (.ListComp elt [⟨tg,iter,ifs,0⟩] scope pos) (tE T B Φ W (.comp .lst se (own.map (·.2)) t ie sifs)) :=
 GP (fun ρ p ρ' e=>(vi e).2) hc hN nd (pr.nin hp) htg hi ok hg ht he hs
end
def f9 (L:List Nat):Nat→List O→Bool
 | _,[]=>true
 | i,.d _::r=>f9 L (i+1) r
 | i,_::r=>L.contains i&&f9 L (i+1) r
theorem uh {L:List Nat}:∀ {os:List O}{n i:Nat}{o:O},f9 L n os=true→os[i]?=some o→nH o=none→n+i∈L
 | [],n,i,o,_,h,_=>by simp at h
 | a::os,n,i,o,e,h,hp=>by
  have e':f9 L (n+1) os=true∧(nH a=none→n∈L):=by
   cases a with
   | d x=>exact⟨e,fun z=>by cases z⟩
   | tup xs=>have e:(L.contains n&&f9 L (n+1) os)=true:=e; rw [Bool.and_eq_true]at e; exact⟨e.2,fun _=>List.contains_iff_mem.mp e.1⟩
   | lst xs=>have e:(L.contains n&&f9 L (n+1) os)=true:=e; rw [Bool.and_eq_true]at e; exact⟨e.2,fun _=>List.contains_iff_mem.mp e.1⟩
   | dic ks xs=>have e:(L.contains n&&f9 L (n+1) os)=true:=e; rw [Bool.and_eq_true]at e; exact⟨e.2,fun _=>List.contains_iff_mem.mp e.1⟩
   | obj C ns xs=>have e:(L.contains n&&f9 L (n+1) os)=true:=e; rw [Bool.and_eq_true]at e; exact⟨e.2,fun _=>List.contains_iff_mem.mp e.1⟩
  cases i with
  | zero =>
   simp at h
   subst h
   exact e'.2 hp
  | succ i =>
   have:=uh (i:=i) e'.1 (by simpa using h) hp
   rw [show n+(i+1)=n+1+i by omega]
   exact this
noncomputable def eY (Φ:cU) (ss:List SS) (n m:Nat) (L:List Nat) (args:List O):bA :=
 if args.length=n∧f9 L 0 args=true then fR Φ ss m args else .bad
section
variable {T:Tab}{B:Base}{H:Hp}{l m:List bf}
def aT:List O→List V→List bf
 | .d x::os,v::vs=>(.d x,v)::aT os vs
 | _::os,_::vs=>aT os vs
 | _,_=>[]
theorem dupL:∀ {os:List O}{vs:List V}{m:List bf},ae T B H [] (os.zip vs++m)→ae T B H [] (os.zip vs++(aT os vs++m))
 | [],vs,m,s=>by cases vs <;> exact s
 | o::os,[],m,s=>by cases o <;> exact s
 | o::os,v::vs,m,s=>by
  have s:ae T B H [] ((o,v)::(os.zip vs++m)):=s
  have again:∀ {m':List bf},ae T B H [] (os.zip vs++m')→ae T B H [] (os.zip vs++(aT os vs++m')):=fun s=>dupL s
  cases o with
  | d x =>
   have s1:ae T B H [] (os.zip vs++((.d x,v)::(.d x,v)::m)):=s.dup.perm (by
    have p1:((O.d x,v)::(O.d x,v)::(os.zip vs++m)).Perm (os.zip vs++((O.d x,v)::(O.d x,v)::m)):=(List.Perm.cons _ List.perm_middle.symm).trans List.perm_middle.symm
    exact p1)
   have s2:=again s1
   refine s2.perm ?_
   show(os.zip vs++(aT os vs++((O.d x,v)::(O.d x,v)::m))).Perm ((O.d x,v)::(os.zip vs++((O.d x,v)::(aT os vs++m))))
   have p1:(aT os vs++((O.d x,v)::(O.d x,v)::m)).Perm ((O.d x,v)::(O.d x,v)::(aT os vs++m)):=List.perm_middle.trans (List.perm_middle.cons _)
   exact(p1.append_left _).trans List.perm_middle
  | tup xs =>
   have s2:=again (s.perm List.perm_middle.symm)
   refine s2.perm ?_
   show(os.zip vs++(aT os vs++((O.tup xs,v)::m))).Perm ((O.tup xs,v)::(os.zip vs++(aT os vs++m)))
   exact(List.perm_middle.append_left _).trans List.perm_middle
  | lst xs =>
   have s2:=again (s.perm List.perm_middle.symm)
   refine s2.perm ?_
   show(os.zip vs++(aT os vs++((O.lst xs,v)::m))).Perm ((O.lst xs,v)::(os.zip vs++(aT os vs++m)))
   exact(List.perm_middle.append_left _).trans List.perm_middle
  | dic ks xs =>
   have s2:=again (s.perm List.perm_middle.symm)
   refine s2.perm ?_
   show(os.zip vs++(aT os vs++((O.dic ks xs,v)::m))).Perm ((O.dic ks xs,v)::(os.zip vs++(aT os vs++m)))
   exact(List.perm_middle.append_left _).trans List.perm_middle
  | obj C ns xs =>
   have s2:=again (s.perm List.perm_middle.symm)
   refine s2.perm ?_
   show(os.zip vs++(aT os vs++((O.obj C ns xs,v)::m))).Perm ((O.obj C ns xs,v)::(os.zip vs++(aT os vs++m)))
   exact(List.perm_middle.append_left _).trans List.perm_middle
theorem pd:∀ {os:List O}{vs:List V}{k:Nat},os.length=vs.length→bJ (os.map some++List.replicate k none) (vs.map some++List.replicate k none)∧ah (os.map some++List.replicate k none) (vs.map some++List.replicate k none)=os.zip vs
 | [],[],0,_=>⟨trivial,rfl⟩
 | [],[],k+1,_=>by
  obtain⟨h1,h2⟩:=pd (os:=[]) (vs:=[]) (k:=k) rfl
  exact⟨h1,h2⟩
 | o::os,v::vs,k,h=>by
  obtain⟨h1,h2⟩:=pd (os:=os) (vs:=vs) (k:=k) (by simpa using h)
  refine⟨h1,?_⟩
  show(o,v)::ah (os.map some++List.replicate k none) (vs.map some++List.replicate k none)=(o,v)::os.zip vs
  rw [h2]
 | [],_::_,_,h=>by simp at h
 | _::_,[],_,h=>by simp at h
theorem vj:∀ {os:List O}{vs:List V}{ρ:Env}{σ:L2.St}{ios:List O}{m:List bf},bJ ρ σ→os.length=vs.length→bp os ρ=some ios→(∀ (i:Nat) o v,os[i]?=some o→nH o=none→vs[i]?=some v→σ[i]?=some (some v)) →
  ae T B H [] (ah ρ σ++(aT os vs++m))→ios.length=vs.length∧ae T B H [] (ios.zip vs++m)
 | [],[],ρ,σ,ios,m,_,_,e,_,s=>by
  injection e with e
  subst e
  exact⟨rfl,ae.dropL s⟩
 | [],_::_,_,_,_,_,_,h,_,_,_=>by simp at h
 | _::_,[],_,_,_,_,_,h,_,_,_=>by simp at h
 | o::os,v::vs,ρ,σ,ios,m,ek,hl,e,hp,s=>by
  have hp':∀ (i:Nat) o' v',os[i]?=some o'→nH o'=none→vs[i]?=some v'→(σ.drop 1)[i]?=some (some v'):=fun i o' v' h1 h2 h3=>by
   rw [List.getElem?_drop,Nat.add_comm]
   exact hp (i+1) o' v' (by simpa using h1) h2 (by simpa using h3)
  have own:(∀ x,o≠.d x)→∃ o' ρ' ios',ρ=some o'::ρ'∧bp os ρ'=some ios'∧ios=o'::ios'∧aT (o::os) (v::vs)=aT os vs∧nH o=none:=by
   intro hx
   cases ρ with
   | nil=>cases o <;> first | exact absurd rfl (hx _) | cases e
   | cons a ρ' =>
    cases a with
    | none=>cases o <;> first | exact absurd rfl (hx _) | cases e
    | some o' =>
     have e':(bp os ρ').map (o' :: ·)=some ios:=by cases o <;> first | exact absurd rfl (hx _) | exact e
     obtain⟨ios',e1,e2⟩:=Option.map_eq_some_iff.mp e'
     refine⟨o',ρ',ios',rfl,e1,e2.symm,?_,?_⟩ <;> cases o <;> first | exact absurd rfl (hx _) | rfl
  have go2:(∀ x,o≠.d x)→ios.length=(v::vs).length∧ae T B H [] (ios.zip (v::vs)++m):=fun hx=>by
   obtain⟨o',ρ',ios',rfl,e1,rfl,e3,e4⟩:=own hx
   have h0:=hp 0 o v rfl e4 rfl
   cases σ with
   | nil=>cases h0
   | cons a σ' =>
    simp at h0
    subst h0
    rw [e3]at s
    have s1:ae T B H [] ((o',v)::(ah ρ' σ'++(aT os vs++m))):=s
    have s2:ae T B H [] (ah ρ' σ'++(aT os vs++((o',v)::m))):=s1.perm (by
     rw [← List.append_assoc,← List.append_assoc]
     exact List.perm_middle.symm)
    obtain⟨h1,h2⟩:=vj (os:=os) (vs:=vs) (ρ:=ρ') (σ:=σ') ek (by simpa using hl) e1 hp' s2
    exact⟨by simp [h1],h2.perm List.perm_middle⟩
  cases o with
  | d x =>
   have e:(bp os (ρ.drop 1)).map (.d x :: ·)=some ios:=e
   obtain⟨ios',e1,e2⟩:=Option.map_eq_some_iff.mp e
   subst e2
   have s0:ae T B H [] (ah ρ σ++((.d x,v)::(aT os vs++m))):=s
   have ek':bJ (ρ.drop 1) (σ.drop 1)∧∃ pre,ah ρ σ=pre++ah (ρ.drop 1) (σ.drop 1):=by
    cases ρ with
    | nil=>cases σ with
     | nil=>exact⟨trivial,[],rfl⟩
     | cons _ _=>exact ek.elim
    | cons a ρ'=>cases σ with
     | nil=>cases a <;> exact ek.elim
     | cons b σ' =>
      cases a with
      | none=>exact⟨by cases b <;> exact ek,[],by cases b <;> rfl⟩
      | some o'=>cases b with
       | none=>exact ek.elim
       | some w=>exact⟨ek,[(o',w)],rfl⟩
   obtain⟨ek',pre,ep⟩:=ek'
   rw [ep]at s0
   have s1:ae T B H [] (pre++(ah (ρ.drop 1) (σ.drop 1)++(aT os vs++((.d x,v)::m)))):=s0.perm (by
    rw [List.append_assoc]
    refine List.Perm.append_left _ (List.Perm.append_left _ ?_)
    exact List.perm_middle.symm)
   obtain⟨h1,h2⟩:=vj (os:=os) (vs:=vs) ek' (by simpa using hl) e1 hp' (ae.dropL s1)
   exact⟨by simp [h1],h2.perm List.perm_middle⟩
  | tup xs=>exact go2 fun x z=>nomatch z
  | lst xs=>exact go2 fun x z=>nomatch z
  | dic ks xs=>exact go2 fun x z=>nomatch z
  | obj C ns xs=>exact go2 fun x z=>nomatch z
end
def vk (vs:List V):List Nat→List (Nat×V)
 | []=>[]
 | i::r=>match vs[i]? with
  | some v=>(i,v)::vk vs r
  | none=>vk vs r
theorem qz {vs:List V}:∀ {L:List Nat}{p:Nat×V},p∈vk vs L→p.1∈L∧vs[p.1]?=some p.2
 | [],p,h=>by cases h
 | i::r,p,h=>by
  unfold vk at h
  cases e:vs[i]? with
  | none =>
   rw [e]at h
   obtain⟨h1,h2⟩:=qz h
   exact⟨List.mem_cons_of_mem _ h1,h2⟩
  | some v =>
   rw [e]at h
   rcases List.mem_cons.mp h with rfl | h
   ·exact⟨List.mem_cons_self,e⟩
   ·obtain⟨h1,h2⟩:=qz h
    exact⟨List.mem_cons_of_mem _ h1,h2⟩
theorem vm {vs:List V}:∀ {L:List Nat}{i:Nat}{v:V},i∈L→vs[i]?=some v→(i,v)∈vk vs L
 | [],i,v,h,_=>by cases h
 | j::r,i,v,h,e=>by
  unfold vk
  rcases List.mem_cons.mp h with rfl | h
  ·rw [e]; exact List.mem_cons_self
  ·cases e2:vs[j]? with
   | none=>exact vm h e
   | some w=>exact List.mem_cons_of_mem _ (vm h e)
theorem d6 {T:Tab}{Φ:cU}{P:Program}{w:World}{K:PySem.W.Frag}{mg:Str→Option Value}{base:Heap}{x qual:Str}{params:Arguments}{body:List Stmt}{scope:Scope}{dvs:List V}{kws:List (Str×V)}{f:Addr}{fd:FuncData}{N ps:List Str}{k:Nat}{ss:List SS}{L:List Nat}
  (F:FunD K x qual params body scope dvs kws f fd) (S:FnScope N ps scope)
  (hb:∀ (cdv:Value) (A:Around) (outer:List PySem.Env) (s:Shared) (H:Hp) (E:XK) (B:Base),dy B L→Room k (A.deeper (envOfC qual scope s.heap.objs.size f cdv))→PSs (cxOf (L2.CX P w) P w K mg base N qual scope f cdv A outer s H E) body (AR T B Φ (fun cls d _ H=>E cls d H) ss)) :
  FnOk P w K mg base (L2.CX P w) (k+1) f fd ps (bI T (eY Φ ss ps.length N.length L)):=by
 have use:∀ {vs H Q E},bI T (eY Φ ss ps.length N.length L) vs H Q E→∃ (B:Base) (os:List O) (l:List bf),os.length=vs.length∧vs.length=ps.length∧Sat T B H (os.zip vs++l)∧(∀ i o,os[i]?=some o→nH o=none→i∈L)∧BC T B (fR Φ ss N.length os) vs l Q E:=by
  intro vs H Q E ⟨B,os,l,hl,s,e⟩
  unfold eY at e
  by_cases h:os.length=ps.length∧f9 L 0 os=true
  ·rw [if_pos h]at e
   exact⟨B,os,l,hl,by rw [← hl]; exact h.1,s,(fun i o h1 h2=>by have:=uh h.2 h1 h2; simpa using this),e⟩
  ·rw [if_neg h]at e; exact e.elim
 refine F.ok S (fun vs H Q E h=>?_) (fun cdv A outer s H vs Q E hr h=>?_)
 ·obtain⟨B,os,l,h1,h2,_⟩:=use h
  exact h2
 ·obtain⟨B,os,l,h1,h2,sa,hL,en⟩:=use h
  refine⟨_,hb cdv A outer s H E {B with pr:=vk vs L} (fun p hp=>(qz hp).1) hr,?_⟩
  have sa':Sat T {B with pr:=vk vs L} H (os.zip vs++(aT os vs++l)):=⟨(dupL sa).lk,(dupL sa).old,(dupL sa).oth,(dupL sa).io,(dupL sa).tb,(dupL sa).reps⟩
  obtain⟨e1,e2⟩:=pd (os:=os) (vs:=vs) (k:=N.length - vs.length) h1
  refine⟨os.map some++List.replicate (N.length - os.length) none,aT os vs++l,⟨?_,?_,?_⟩,?_⟩
  ·rw [h1]; exact e1
  ·rw [h1]
   show Sat _ _ _ (ah _ (vs.map some++List.replicate (N.length - vs.length) none)++_)
   rw [e2]
   exact sa'
  ·intro p hp
   obtain⟨_,q⟩:=qz hp
   show(vs.map some++List.replicate (N.length - vs.length) none)[p.1]?=_
   have hi:=(List.getElem?_eq_some_iff.mp q).1
   rw [List.getElem?_append_left (by simpa using hi),List.getElem?_map,q]; rfl
  ·unfold fR at en
   have back:∀ {ρ:Env}{σ:L2.St}{H':Hp}{ios:List O}{m:List bf},bp os ρ=some ios→At T {B with pr:=vk vs L} H' ρ σ (m++(aT os vs++l))→ios.length=vs.length∧Sat T B H' (m++(ios.zip vs++l)):=by
    intro ρ σ H' ios m ei a
    have s1:Sat T B H' (ah ρ σ++(m++(aT os vs++l))):=⟨a.sat.lk,a.sat.old,a.sat.oth,a.sat.io,a.sat.tb,a.sat.reps⟩
    obtain⟨g1,g2⟩:=vj (os:=os) (vs:=vs) (m:=m++l) a.ok h1 ei (fun i o v q1 q2 q3=>a.pr (i,v) (vm (hL i o q1 q2) q3)) (s1.perm (List.Perm.append_left _ aG))
    exact⟨g1,ae.perm g2 aG⟩
   generalize bC Φ ss (os.map some++List.replicate (N.length - os.length) none)=r at en
   cases r with
   | bad=>exact en.elim
   | exc C p ρ =>
    unfold Res.done at en
    cases ei:bp os ρ with
    | none=>simp only [ei]at en; exact en.elim
    | some ios =>
     simp only [ei]at en
     intro σ d H' its a e
     obtain⟨g1,g2⟩:=back ei a
     exact en d H' its g1 g2 e
   | ok fl ρ =>
    cases fl with
    | bk=>exact en.elim
    | ct=>exact en.elim
    | nx =>
     unfold Res.done at en
     cases ei:bp os ρ with
     | none=>simp only [ei]at en; exact en.elim
     | some ios =>
      simp only [ei]at en
      intro σ H' a
      obtain⟨g1,g2⟩:=back (m:=[]) ei a
      exact en .non H' g1 (ae.non g2)
    | rt o =>
     unfold Res.done at en
     cases ei:bp os ρ with
     | none=>simp only [ei]at en; exact en.elim
     | some ios =>
      simp only [ei]at en
      intro σ v H' a
      obtain⟨g1,g2⟩:=back (m:=[(o,v)]) ei a
      exact en v H' g1 g2
end PV
namespace PV
open PySem PySem.Spec PyProof.Rows L2
section
variable {T:Tab}{B:Base}{Φ:cU}{W:WX}{X:Cx}{σ:L2.St}{l m:List bf}{H H':Hp}{ρ:Env}{pins:List (Addr×Obj)}{s:Shared}{e a b:Expr}{pos:Pos}{sa sb:SE}{hs:List Addr}{o:O}{v w:V}
theorem wW {k:D}{r:O}:∀ {os:List O},(iy k r os).length=os.length
 | []=>rfl
 | o::os=>by simp [iy]
def GY (T:Tab) (B:Base) (f:List D→Option O) (kf:List D→D) (xs:List V) (H:Hp) (Q:VK):Prop:=∃ (os:List O) (l:List bf) (r:O),os.length=xs.length∧Sat T B H (os.zip xs++l)∧f (os.map O.frz)=some r ∧
 ∀ u H',Sat T B H' ((r,u)::((iy (kf (os.map O.frz)) r os).zip xs++l))→Q u H'
theorem GZ {f:List D→Option O}{kf:List D→D}{as:List Arg}{vs:List V}{W:WX}{Q:VK} (s:At T B H ρ σ (aD as vs++l)) (av:cz σ as vs) (h:RP T B W σ l (Fb f kf as ρ) Q):GY T B f kf vs H Q:=by
 unfold Fb at h
 cases e:dE as ρ with
 | exc C p ρ1=>exact(rm e).elim
 | bad=>rw [e]at h; exact h.elim
 | ok os ρ1 =>
  rw [e]at h
  obtain⟨hl,s1⟩:=mM s av e
  have h:RP T B W σ l ((Res.of (f (os.map O.frz)) ρ1).bind fun r ρ=>.ok r (b7 as (iy (kf (os.map O.frz)) r os) ρ)) Q:=h
  cases er:f (os.map O.frz)with
  | none=>rw [er]at h; exact h.elim
  | some r =>
   rw [er]at h
   refine⟨os,ah ρ1 σ++l,r,hl,s1.sat.perm aG,er,fun u H' q=>?_⟩
   have h:∀ v H,At T B H (b7 as (iy (kf (os.map O.frz)) r os) ρ1) σ ((r,v)::l)→Q v H:=h
   refine h u H' (iO (os:=iy (kf (os.map O.frz)) r os) (vs:=vs) (by rw [wW]; exact hl) ⟨s1.ok,q.perm ?_,s1.pr⟩ av)
   generalize (iy (kf (os.map O.frz)) r os).zip vs=z
   have p1:((r,u)::(z++(ah ρ1 σ++l))).Perm (z++(r,u)::(ah ρ1 σ++l)):=List.perm_middle.symm
   have p2:(z++(r,u)::(ah ρ1 σ++l)).Perm (z++(ah ρ1 σ++(r,u)::l)):=List.perm_middle.symm.append_left z
   exact p1.trans (p2.trans aG)
theorem BU {d:D}{T:Tab}{own:Addr→Prop}{h:Hp} (e:yR d=true) (x:Dr T own h d w):∀ own' h',Dr T own' h' d w:=by
 cases d <;> first | exact fun _ _=>x | cases e
theorem qA {k d:D} (s:ae T B H hs ((o,v)::m)) (full:ae T B H hs ((.d d,w)::(o.shal,v)::m)) (hst:∀ y g,dA o k=some (y,g)→jF T (vw B.Z H) v k w∧y.frz=d):ae T B H hs ((.d d,w)::(aJ o k (.d d),v)::m):=by
 unfold aJ
 by_cases hc:yS (.d d)=true
 ·rw [if_pos hc]
  exact s.lit (BU hc full.read)
 ·rw [if_neg hc]
  cases e:dA o k with
  | none=>exact full
  | some p =>
   obtain⟨y,g⟩:=p
   obtain⟨st,ey⟩:=hst y g e
   obtain⟨a,ad,w',rest,rfl,st',s1,back⟩:=o6 s e
   obtain rfl:=st.inj st'
   have s2:=s1.freeze.dup
   rw [ey]at s2
   have s3:ae T B H (ad++hs) ((.d d,w)::(rest++((.d d,w)::m))):=s2.perm ((List.perm_middle.symm).cons _)
   have s4:=back H (.d d) ((.d d,w)::m) ⟨fun _ _=>rfl,fun _ _ e=>e⟩ s3
   show ae T B H hs ((.d d,w)::(g (.d y.frz),.ref a)::m)
   rw [ey]
   exact s4.perm (.swap _ _ _)
theorem wX:∀ {xs:List O}{j:Nat}{y:O},xs[j]?=some y→(O.frzL xs)[j]?=some y.frz:=by
 intro xs j y e
 rw [bM,List.getElem?_map,e]; rfl
theorem BV {p:Addr}{y z1 z2:V} (a:DGet H p y (some z1)) (b:DGet H p y (some z2)):z1=z2:=by
 have rd:∀ {u u':HO},Rd H p u→Rd H p u'→(∀ o w,u≠.frz o w)→(∀ o w,u'≠.frz o w)→u=u':=by
  intro u u' h1 h2 n1 n2
  rcases h1 with h1 | ⟨o,h1⟩ <;> rcases h2 with h2 | ⟨o',h2⟩ <;> rw [h1]at h2 <;> injection h2 with h2
  ·exact(n1 _ _ h2).elim
  ·exact(n2 _ _ h2.symm).elim
  ·injection h2
 rcases a with⟨kvs,k,r1,e1,e2⟩ | ⟨kvs,k,c,r1,e1,c1,e2⟩ <;> rcases b with⟨kvs',k',r1',e1',e2'⟩ | ⟨kvs',k',c',r1',e1',c1',e2'⟩
 ·have:=rd r1 r1' (fun _ _ z=>nomatch z) (fun _ _ z=>nomatch z)
  injection this with this
  subst this
  rw [e1]at e1'
  rw [kV_inj e1']at e2
  rw [← e2]at e2'
  exact(Option.some.inj e2').symm
 ·have:=rd r1 r1' (fun _ _ z=>nomatch z) (fun _ _ z=>nomatch z); cases this
 ·have:=rd r1 r1' (fun _ _ z=>nomatch z) (fun _ _ z=>nomatch z); cases this
 ·have:=rd r1 r1' (fun _ _ z=>nomatch z) (fun _ _ z=>nomatch z)
  injection this with this
  subst this
  rw [e1]at e1'
  injection e1' with e1'
  subst e1'
  rw [c1]at c1'
  injection c1' with c1'
  injection c1' with c1'
  rw [kVs_inj c1']at e2
  rw [← e2]at e2'
  exact(Option.some.inj e2').symm
theorem BW {xs:List O}{k:D}{y:O}{g:O→O} (e:dA (.lst xs) k=some (y,g)):∃ i j,k = .int i∧ixN xs.length i=some j∧xs[j]?=some y:=by
 cases k with
 | int i =>
  have e:(match ixN xs.length i with
   | some j=>(match xs[j]? with
    | some y=>some (y,fun z=>O.lst (xs.set j z))
    | none=>none)
   | none=>none)=some (y,g):=e
  cases e1:ixN xs.length i with
  | none=>simp only [e1]at e; cases e
  | some j =>
   simp only [e1]at e
   cases e2:xs[j]? with
   | none=>simp only [e2]at e; cases e
   | some y0 =>
    simp only [e2]at e
    injection e with e
    injection e with e3 _
    exact⟨i,j,rfl,e1,by rw [← e3]; exact e2⟩
 | _=>cases e
theorem BX {xs:List O}{k:D}{y:O}{g:O→O} (e:dA (.tup xs) k=some (y,g)):∃ i j,k = .int i∧ixN xs.length i=some j∧xs[j]?=some y:=by
 cases k with
 | int i =>
  have e:(match ixN xs.length i with
   | some j=>(match xs[j]? with
    | some y=>some (y,fun z=>O.tup (xs.set j z))
    | none=>none)
   | none=>none)=some (y,g):=e
  cases e1:ixN xs.length i with
  | none=>simp only [e1]at e; cases e
  | some j =>
   simp only [e1]at e
   cases e2:xs[j]? with
   | none=>simp only [e2]at e; cases e
   | some y0 =>
    simp only [e2]at e
    injection e with e
    injection e with e3 _
    exact⟨i,j,rfl,e1,by rw [← e3]; exact e2⟩
 | _=>cases e
theorem ui {k:D}:∀ {ks:List D}{vs:List O}{j:Nat}{y:O},dM k ks=some j→vs[j]?=some y→aW k ks (O.frzL vs)=some y.frz
 | [],vs,j,y,e,_=>by cases e
 | a::ks,[],j,y,e,h=>by simp at h
 | a::ks,v::vs,j,y,e,h=>by
  unfold dM at e
  show(if keyOf a=keyOf k∧aA a=aA k then some (O.frz v)else aW k ks (O.frzL vs))=some y.frz
  by_cases hc:keyOf a=keyOf k∧aA a=aA k
  ·rw [if_pos hc]at e ⊢
   injection e with e
   subst e
   simp at h
   rw [h]
  ·rw [if_neg hc]at e ⊢
   obtain⟨i,e1,e2⟩:=Option.map_eq_some_iff.mp e
   subst e2
   exact ui e1 (by simpa using h)
theorem BY {ks:List D}{xs:List O}{k:D}{y:O}{g:O→O} (e:dA (.dic ks xs) k=some (y,g)):aW k ks (O.frzL xs)=some y.frz:=by
 have e:(if aZ k ks=true then(match dM k ks with
  | some j=>(match xs[j]? with
   | some y=>some (y,fun z=>O.dic ks (xs.set j z))
   | none=>none)
  | none=>none)else none)=some (y,g):=e
 by_cases hk:aZ k ks=true
 ·rw [if_pos hk]at e
  cases e1:dM k ks with
  | none=>simp only [e1]at e; cases e
  | some j =>
   simp only [e1]at e
   cases e2:xs[j]? with
   | none=>simp only [e2]at e; cases e
   | some y0 =>
    simp only [e2]at e
    injection e with e
    injection e with e3 _
    rw [← e3]
    exact ui e1 e2
 ·rw [if_neg hk]at e; cases e
theorem G0 (hK:X.K=T.K) (hu:X.A.units+200 < cLine):IxR X (fun x y H Q=>GY T B bU Bc [x,y] H Q):=by
 intro value slice pins s σ H x y v u Q I rx ry h hsl
 obtain⟨os,l,r,hl,sa,e,q⟩:=h
 match os,hl with
 | [o,p],_ =>
 have sa:Sat T B H ((o,x)::(p,y)::l):=sa
 have e:bU [o.frz,p.frz]=some r:=e
 have q:∀ u H',Sat T B H' ((r,u)::(aJ o p.frz r,x)::(p.shal,y)::l)→Q u H':=q
 have d2:=sa.read2
 have sp:Sat T B H ((o,x)::(p.shal,y)::l):=(fc (sa.swap)).swap
 cases ea:o.frz with
 | lst xs =>
  rw [ea]at e
  cases eb:p.frz with
  | int i =>
   rw [eb]at e d2 q
   have d2:y = .int i:=d2
   subst d2
   have e:(atI xs i).map O.d=some r:=e
   obtain⟨d,e1,e2⟩:=Option.map_eq_some_iff.mp e
   subst e2
   obtain⟨a,vs,rfl,ha,hl,s1⟩:=Sat.kidsL sp ea
   obtain⟨n,w,g1,g2,g3⟩:=yY hl e1
   refine ix_list value slice pins s σ H _ _ v u Q I rx ry ⟨a,vs,i,w,rfl,rfl,by rw [hK]; exact ha,g3,q _ _ (qA sp (ae.pick (zip_get g1 g2) s1) fun y0 g0 e0=>?_)⟩ hsl
   cases o with
   | lst os =>
    obtain⟨a',vs',ex,ha',hl',s2⟩:=ae.openL sp
    injection ex with ex
    subst ex
    have ev':vs'=vs:=I.list_inj (by rw [hK]; exact .inl (.inl ha')) (by rw [hK]; exact ha)
    subst ev'
    have nz:vw B.Z H a=H a:=by
     obtain⟨F,r,nd,c⟩:=s2.reps
     exact bx (c a List.mem_cons_self).2.2.1
    obtain⟨i',j,hi',hj,hy⟩:=BW e0
    injection hi' with hi'
    subst hi'
    refine⟨⟨a,rfl,.inl ⟨vs',i,.inl (by rw [nz]; exact ha'),rfl,g3⟩⟩,?_⟩
    have ea:O.frzL os=xs:=by injection ea
    rw [← ea]at e1
    have lx:(O.frzL os).length=os.length:=by rw [bM,List.length_map]
    unfold atI at e1
    rw [lx,hj]at e1
    have e1:(O.frzL os)[j]?=some d:=e1
    rw [wX hy]at e1
    exact Option.some.inj e1
   | _=>first | cases e0 | cases ea
  | _=>rw [eb]at e; cases e
 | tup xs =>
  rw [ea]at e
  cases eb:p.frz with
  | int i =>
   rw [eb]at e d2 q
   have d2:y = .int i:=d2
   subst d2
   have e:(atI xs i).map O.d=some r:=e
   obtain⟨d,e1,e2⟩:=Option.map_eq_some_iff.mp e
   subst e2
   obtain⟨a,vs,rfl,ha,hl,s1⟩:=Sat.kidsT sp ea
   obtain⟨n,w,g1,g2,g3⟩:=yY hl e1
   refine ix_tup value slice pins s σ H _ _ v u Q I rx ry ⟨a,vs,i,w,rfl,rfl,by rw [hK]; exact ha,g3,q _ _ (qA sp (ae.pick (zip_get g1 g2) s1) fun y0 g0 e0=>?_)⟩ hsl
   cases o with
   | tup os =>
    obtain⟨a',vs',ex,ha',hl',s2⟩:=ae.openT sp
    injection ex with ex
    subst ex
    have ev':vs'=vs:=I.tuple_inj (.inl (.inl ha')) (by rw [hK]; exact ha)
    subst ev'
    have nz:vw B.Z H a=H a:=bx fun z=>by
     obtain⟨u2,e2,mu⟩:=s2.lk a z
     rw [ha']at e2
     cases e2
    obtain⟨i',j,hi',hj,hy⟩:=BX e0
    injection hi' with hi'
    subst hi'
    refine⟨⟨a,rfl,.inl ⟨vs',i,.inr (by rw [nz]; exact ha'),rfl,g3⟩⟩,?_⟩
    have ea:O.frzL os=xs:=by injection ea
    rw [← ea]at e1
    have lx:(O.frzL os).length=os.length:=by rw [bM,List.length_map]
    unfold atI at e1
    rw [lx,hj]at e1
    have e1:(O.frzL os)[j]?=some d:=e1
    rw [wX hy]at e1
    exact Option.some.inj e1
   | _=>first | cases e0 | cases ea
  | _=>rw [eb]at e; cases e
 | str z =>
  have d1:=sa.read
  rw [ea]at e d1
  have d1:x = .str z:=d1
  subst d1
  cases eb:p.frz with
  | int i =>
   rw [eb]at e d2 q
   have d2:y = .int i:=d2
   subst d2
   have e:(if z.length≤sizeLine then(atI z.cps.toList i).map fun c=>O.d (.str ⟨#[c]⟩)else none)=some r:=e
   split at e
   ·rename_i hz
    obtain⟨c,e1,e2⟩:=Option.map_eq_some_iff.mp e
    subst e2
    refine ix_str value slice pins s σ H _ _ v u Q I rx ry ⟨z,i,c,rfl,rfl,hz,e1,q _ _ ?_⟩ hsl
    exact qA sp ((fc sp).str) fun y0 g0 e0=>by cases o <;> first | cases e0 | cases ea
   ·cases e
  | _=>rw [eb]at e; cases e
 | dic ks ds =>
  rw [ea]at e
  have e:(if aZ p.frz ks=true then(aW p.frz ks ds).map O.d else none)=some r:=by
   cases hp:p.frz <;> rw [hp]at e <;> exact e
  split at e
  ·rename_i hk
   obtain⟨d,e1,e2⟩:=Option.map_eq_some_iff.mp e
   subst e2
   obtain⟨a,vs,rfl,ha,hl,s1⟩:=Sat.kidsD sp ea
   rcases yV sa ha hl d2 hk with⟨n,d',w,f1,f2,f3,f4⟩ | ⟨f1,_⟩
   ·rw [e1]at f1
    injection f1 with f1
    subst f1
    refine yZ (by omega) value slice pins s σ H _ _ v u Q I rx ry ⟨a,w,rfl,f2,q _ _ (qA sp (ae.pick (zip_get f3 f4) s1) fun y0 g0 e0=>?_)⟩ hsl
    cases o with
    | dic ks' os =>
     have ek:ks'=ks∧O.frzL os=ds:=by injection ea with h1 h2; exact⟨h1,h2⟩
     obtain⟨rfl,rfl⟩:=ek
     have ey:=BY e0
     rw [e1]at ey
     injection ey with ey
     refine⟨?_,ey.symm⟩
     obtain⟨a',_,w',rest,ex,st',_,_⟩:=o6 sp e0
     injection ex with ex
     subst ex
     obtain⟨a'',ex2,h2⟩:=wL sp st' d2
     injection ex2 with ex2
     subst ex2
     rcases h2 with⟨vs2,i2,hr,hy,_⟩ | h2
     ·exfalso
      rcases ha with⟨js,_,rd,_⟩ | ⟨js,_,rd,_⟩ <;> rcases hr with(hr | ⟨_,hr⟩) | hr <;> rcases rd with rd | ⟨_,rd⟩ <;> rw [hr]at rd <;> cases rd
     ·rw [BV f2 h2]
      exact st'
    | _=>first | cases e0 | cases ea
   ·rw [e1]at f1; cases f1
  ·cases e
 | _=>rw [ea]at e; cases hp:p.frz <;> rw [hp]at e <;> cases e
theorem D5 {f:List D→Option O}{kf:List D→D}{as:List Arg}{vs:List V}{σ:L2.St}{l:List bf}{H:Hp}{ρ:Env}{Q:VK} (h:RG T B W σ l (Fb f kf as ρ) fun o ρ=>∀ v H,At T B H ρ σ ((o,v)::l)→Q v H)
  (a:At T B H ρ σ (aD as vs++l)) (av:cz σ as vs):GY T B f kf vs H Q:=GZ a av h.rp
theorem bO (hK:X.K=T.K) (hu:X.A.units+200 < cLine) (ha:PE X a (tA T B Φ W sa)) (hb:PE X b (tA T B Φ W sb)) (hs:PlainIx b):PE X (.Subscript a b pos) (tE T B Φ W (.idx sa sb)) :=
 (pe_ix (G0 (T:=T) (B:=B) hK hu) ha hb hs).pv fun σ H Q ⟨ρ,l,at_,h⟩=>by
  rw [ev]at h
  refine⟨ρ,l,at_,h.rg.bind.mono fun a ρ1 k v H1 a1 av=>⟨ρ1,ak a v++l,a1,RG.more (k.bind.mono fun b ρ2 k2 w H2 a2 aw=>?_)⟩⟩
  exact D5 (as:=[a,b]) k2 (a2.perm qx) ⟨av,aw,trivial⟩
theorem IZ (ha:PE X e (tE T B Φ W sa)):PE X e (tE T B Φ W (.frz sa)):=ha.pv fun σ H Q ⟨ρ,l,a,h⟩=>by
 rw [ev]at h
 refine⟨ρ,l,a,RG.rp (h.rg.bind.mono fun o ρ1 k v H1 a1=>?_)⟩
 have k:∀ v H,At T B H ρ1 σ ((.d o.frz,v)::l)→Q v H:=k
 exact k v H1 ⟨a1.ok,((ae.perm a1.sat List.perm_middle).freeze).perm List.perm_middle.symm,a1.pr⟩
noncomputable def BZ (B:Base) (H:Hp):Base:=⟨fun _=>False,B.Z,vw B.Z H,fun _=>False,[],B.zo⟩
theorem peek {ds:List D}{vs:List V} (s:ae T B H hs l) (hr:jB T (fun _=>False) (vw B.Z H) ds vs):Sat T (BZ B H) H ((ds.map O.d).zip vs++[]):=by
 refine⟨s.lk,fun a o e _ _=>e,fun a z=>z.elim,fun a z=>z.elim,fun p hp=>Mm (Q:=fun _=>False) s hp fun z=>z.elim,[],?_,List.nodup_nil,fun a ha=>by cases ha⟩
 show aP T (fun a=>(BZ B H).G a∨a∈([]:List Addr)) (vw B.Z H) ((ds.map O.d).zip vs++[]) []
 rw [List.append_nil]
 have q:jB T (fun a=>(BZ B H).G a∨a∈([]:List Addr)) (vw B.Z H) ds vs:=Dr.keepL fP.refl (fun a z=>.inl (z.elim id fun z=>by cases z)) ds vs hr
 exact jB.reps q
theorem Ab {res:List bf} (s:ae T B H hs l) (s2:Sat T (BZ B H) H' res):ae T B H' hs l:=by
 obtain⟨F,r,nd,c⟩:=s.reps
 have old:∀ a o,vw B.Z H a=some o→(∀ q,(a,q)∉T.tabs)→vw B.Z H' a=some o:=fun a o e nt=>s2.old a o e (fun z=>z) nt
 have nn:∀ a,H a≠none→H' a≠none:=fun a h z=>by
  by_cases ht:∃ q,(a,q)∈T.tabs
  ·obtain⟨q,hq⟩:=ht
   obtain⟨_,_,ps,e1,_⟩:=s2.tb _ hq
   rw [show H' a=_ from e1]at z
   cases z
  ·cases e:vw B.Z H a with
   | none=>exact h (cF.mp e)
   | some o =>
    have:=old a o e fun q hq=>ht ⟨q,hq⟩
    rw [cF.mpr z]at this
    cases this
 refine⟨s2.lk,fun a o e hi nt=>old a o (s.old a o e hi nt) nt,s.oth,fun a ha=>nn a (s.io a ha),fun p hp=>⟨(s.tb p hp).1,(s.tb p hp).2.1,(s2.tb p hp).2.2⟩,F,aP.keep (fun a o e _ nt=>old a o e (s.tx e nt)) (fun a z=>.inl z) l F (fun a ha=>?_) r,nd,fun a ha=>?_⟩
 ·cases e:vw B.Z H a with
  | none=>exact((c a (List.mem_append_right _ ha)).2.2.2 (cF.mp e)).elim
  | some o=>exact old a o e (s.tn (c a (List.mem_append_right _ ha)).2.1)
 ·obtain⟨c1,c2,c3,c4⟩:=c a ha
  exact⟨c1,c2,c3,nn a c4⟩
theorem G3 {k:Cm}{i:Nat}{rp:List SE}{b:SE}:yg Φ (.pkcm k i rp b):=by
 refine⟨fun ρ o ρ' e=>?_,fun ρ=>uW (by rw [qV] <;> simp) (by rw [dJ]; simp)⟩
 rw [ev]at e
 obtain⟨_,_,e⟩:=Res.bnd_of e
 obtain⟨_,_,_,e⟩:=Res.bind_of e
 obtain⟨_,_,e⟩:=Res.bnd_of e
 obtain⟨_,_,_,e⟩:=Res.bind_of e
 obtain⟨_,_,e⟩:=Res.bnd_of e
 injection e with e _
 exact⟨_,e.symm⟩
theorem G4 {k:Cm}{i:Nat}{rp:List SE}{e1 e2:Expr} (hK:X.K=T.K) (hu:X.A.units+200 < cLine) (he:PE X e1 (Fm T B Φ W i rp)) (hb:∀ B':Base,B'.pr=B.pr→PE X e2 (tE T B' Φ W sb)):IX T B Φ W X e1 (rf k) e2 (.pkcm k i rp sb):=by
 have hb':PE X e2 (fun σ H Q=>∃ B':Base,B'.pr=B.pr∧tE T B' Φ W sb σ H Q):=⟨fun pins s σ H Q I ⟨B',hpr,h⟩=>(hb B' hpr).run pins s σ H Q I h⟩
 have op:OpR X (compareOp (rf k)) (fun x y H Q=>∃ B2:Base,dX T B2 (AQ k) false [x,y] H Q):=fun pins s σ H x y v u Q I rx ry ⟨B2,h⟩=>Bv (T:=T) (B:=B2) hK hu k pins s σ H x y v u Q I rx ry h
 refine⟨_,_,_,op,he,hb',fun σ H Q ⟨ρ,l,at_,h⟩=>?_⟩
 rw [ev]at h
 obtain⟨o,eo,h⟩:=h.rg.bnd
 obtain⟨v,evi⟩:=at_.ok.at eo
 have a0:=at_.take eo evi
 have hi:i < σ.length:=oh evi
 refine⟨ρ.set i none,l,o,v,a0,evi,RG.more1 (h.bind.mono fun ks ρ1 k1=>?_)⟩
 obtain⟨p,ep,k1⟩:=k1.bnd
 refine⟨⟨p,ep⟩,fun H1 x a1 pa=>?_⟩
 obtain⟨B',hpr,a2,back⟩:=a1.hold
 refine⟨B',hpr,ρ1,l,a2,RG.rp (RG.held (o:=o) (v:=v) (fun p hp=>a1.pr p hp) (fun H' ρ' m a'=>(back H' ρ' σ m a1.pr a').1) (RG.more1 k1.bind) fun okk ρ3 k3=>?_)⟩
 intro y H3 a4
 obtain⟨a5,pres⟩:=back H3 ρ3 σ _ a1.pr a4
 obtain⟨r0,er,k4⟩:=k3.bnd
 have k4:∀ v H,At T B H (ρ3.set i (some o)) σ ((.d (.bl r0),v)::l)→Q v H:=k4
 have s5:Sat T B H3 ((o,v)::((okk,y)::(ah ρ3 σ++l))):=a5.sat.perm (List.perm_middle.trans (List.perm_middle.cons _))
 obtain⟨p1,p2⟩:=p
 obtain⟨o',x',ad,rest,o1,px1,ef,s6,close⟩:=iH s5 ep
 have px:=pres ks _ _ x ep pa
 have ex:x=x':=px.inj px1
 subst ex
 injection ef with ef
 injection ef with ef _
 subst ef
 have d1:=s6.read
 have d2:Dr T (fun _=>False) (vw B.Z H3) okk.frz y:=(ae.perm s5 (.swap _ _ _)).read
 refine⟨BZ B H3,[.d o'.frz,.d okk.frz],[],.d (.bl r0),rfl,peek (ds:=[o'.frz,okk.frz]) (vs:=[x,y]) s5 ⟨x,[y],rfl,d1,y,[],rfl,d2,rfl⟩,?_,fun u H' s7=>?_⟩
 ·show(aB k o'.frz okk.frz).map (fun b=>O.d (.bl b))=some (.d (.bl r0))
  rw [er]; rfl
 ·have eu:u = .bl r0:=ae.read s7
  subst eu
  have s8:=Ab s5 s7
  have s9:Sat T B H' ((o,v)::(ah ρ3 σ++l)):=(ae.drop1 (s8.perm (.swap _ _ _)))
  have a6:At T B H' ρ3 σ ((o,v)::l):=⟨a4.ok,s9.perm List.perm_middle.symm,a1.pr⟩
  have hi2:i < ρ3.length:=by rw [a4.ok.len]; exact hi
  have t:=(a6.clear i).fill (i:=i) (by unfold ax; rw [List.getElem?_set_self hi2]; rfl) (by simpa using hi2) evi
  rw [List.set_set]at t
  exact k4 _ H' t.blR
end
end PV
namespace PV
open PySem PySem.Spec PyProof.Rows L2
def cQ (l:List (Nat×(List O→bA))):cU:=fun n=>⟨0,(l.lookup n).getD fun _=>.bad⟩
theorem bz {k:Nat}{A:Around} (h:Room k A):A.units+200 < cLine:=by have:=h.un; omega
theorem rG {X:Cx}:Takes X WF:=takes0
section
variable {Φ:cU}
def B0:SE→Bool
 | .var _=>false
 | _=>true
theorem D6 {se:SE} (h:B0 se=true) (ρ:Env):dJ Φ se ρ=(ev Φ se ρ).bind fun o ρ=>.ok (.val o) ρ:=by
 cases se <;> first | (cases h; done) | (rw [dJ]; intro i z; cases z)
def B1:SE→Bool
 | .band _=>false
 | .bor _=>false
 | .bnot _=>false
 | _=>true
theorem D7 {se:SE} (h:B1 se=true) (ρ:Env):qV Φ se ρ=(dJ Φ se ρ).bind fun a ρ=>(aj a ρ).bind fun o ρ=>(Res.of (qQ o.frz) ρ).bind fun b ρ=>.ok b (back a o ρ):=by
 cases se <;> first | (cases h; done) | (rw [qV] <;> simp)
end
section
variable (P:Program) (w:World) (K:PySem.W.Frag) (mg:Str→Option Value) (base:Heap) (T:Tab)
structure Callee (x:Str) (ps:List Str) (k:Nat) (run:List O→bA):Prop where
 ex:∃ f fd,FnOk P w K mg base (L2.CX P w) k f fd ps (bI T run)∧mg x=some (.ref f)∧PySem.W.keepIn K (.ref f)=true∧Binds K fd ps []
end
def KJ (n:Nat):List (Nat ⊕ D):=(List.range' 0 n).map .inl
section
variable {T:Tab}{B:Base}{Φ:cU}{W:WX}{X:Cx}{k fi n:Nat}{x m:Str}{ps ks:List Str}{run:List O→bA}{e o a b:Expr}{es:List Expr}{kws:List Keyword}{pos p apos:Pos}{sa sb se:SE}{ses sp sk:List SE}{C lv:Nat}{g:List (Nat ⊕ D)}
theorem ao (h:PE X e (tE T B Φ W se)) (hs:B0 se=true):PE X e (tA T B Φ W se):=Gq h (D6 hs)
theorem uj (hK:X.K=T.K) (ha:PE X a (tA T B Φ W sa)) (he:lS a=true) (hs:B1 sa=true):PT X a (tT T B Φ W sa):=Gu hK ha he (D7 hs)
theorem mS (F:Callee X.prog X.w X.K X.mg X.base T x ps k run) (hΦ:(Φ fi).run=run) (hr:Room lv X.A) (hl:k≤lv) (hg:Gl X x) (tk:Takes X W) (ha:PA X (e::es) (sY T B Φ W ses)) (hdb:(x == ("__debug__" : Str))=false)
  (he:starEach (e::es) X.env=(false,eval e X.env)::starEach es X.env) (hpl:(backTo pos (starEach es X.env)).any (·.1)=false):PE X (.Call (.Name x p) (e::es) [] pos) (tE T B Φ W (.call fi ses)):=by
 obtain⟨f,fd,F,hm,hk,hb⟩:=F.ex
 exact s_call F (n:=(Φ fi).lvl) (by rw [← hΦ]) (hr.mono hl) hg hm hk hb tk ha hdb he hpl
end
end PV
namespace PV
open PySem PySem.Spec PyProof.Rows L2
section
variable {T:Tab}{B:Base}{Φ:cU}{W:WX}{X:Cx}{x:Str}{p1 pos:Pos}{a:Expr}
theorem B3 {i:Int} (hg:Gl X x) (hm:∃ t,X.mg x=some (.int i t)) (hdb:(x == ("__debug__" : Str))=false):PE X (.Name x pos) (tE T B Φ W (.glo x (.int i))):=by
 obtain⟨t,hm⟩:=hm
 exact Mn (v:=.int i) (pe_glob hg hm ⟨t,rfl⟩ hdb) fun _ _=>rfl
theorem B4 {z:Str} (hg:Gl X x) (hm:∃ t,X.mg x=some (.str z t)) (hdb:(x == ("__debug__" : Str))=false):PE X (.Name x pos) (tE T B Φ W (.glo x (.str z))):=by
 obtain⟨t,hm⟩:=hm
 exact Mn (v:=.str z) (pe_glob hg hm ⟨t,rfl⟩ hdb) fun _ _=>rfl
end
end PV
namespace PV
open PySem PySem.Spec PyProof.Rows L2
theorem I0 {n:Nat} (h:n≤1000):n≤sizeLine:=by rw [sizeLine_eq]; omega
section
variable {T:Tab}{B:Base}{Φ:cU}{W:WX}{X:Cx}{L:List Nat}
theorem uk {i:Nat}{y:Str}{py spos:Pos}{elt tg iter:Expr}{ifs:List Expr}{scope:Scope}{own:List (Str×Nat)}{t:Tg}{ie:IE}{se:SE}{sifs:List SE}{pos:Pos}
  (pr:dy B L) (hc:X.calm=true) (hN:X.N.Nodup) (hy:X.N[i]?=some y) (hyl:X.env.scope.names.lookup y=some .local) (hpi:L.contains i=false)
  (hsw:swapsWith (.ListComp elt [⟨tg,iter,ifs,0⟩] scope pos) (some (.Name y py)) spos.line X.env=pure true) (nd:(own.map (·.2)).Nodup) (hp:(L.all fun i=>!(own.map (·.2)).contains i)=true) (htg:∀ i∈fq t,i∈own.map (·.2))
  (hi:PI X tg iter (tI T B Φ W ie)) (ok:BlkOk X.N X.env.scope scope own)
  (hg:∀ (s:Shared) (H:Hp) (C:Addr) (cl:List (Str×Addr)) (fp:List Addr),PG (X.blk s H scope (compEnvC scope cl C X.env) fp) tg (gT T B t))
  (ht:∀ (s:Shared) (H:Hp) (C:Addr) (cl:List (Str×Addr)) (fp:List Addr),PTs (X.blk s H scope (compEnvC scope cl C X.env) fp) ifs (DV T B Φ sifs))
  (he:∀ (s:Shared) (H:Hp) (C:Addr) (cl:List (Str×Addr)) (fp:List Addr),PE (X.blk s H scope (compEnvC scope cl C X.env) fp) elt (tE T B Φ WF se)) (hs:∀ x,foldedSetIterable iter X.env x=pure x) :
  PS X (.Assign [.Name y py] (.ListComp elt [⟨tg,iter,ifs,0⟩] scope pos) spos) (tS T B Φ W (.asg (.nm i) (.comp .lst se (own.map (·.2)) t ie sifs))) :=
 BQ (fun ρ p ρ' e=>(vi e).2) hc hN hy hyl (pr.ne hpi) hsw nd (pr.nin hp) htg hi ok hg ht he hs
end
end PV
namespace PV
open PySem PySem.Spec PyProof.Rows L2
open He (ga ma fAd ba eqO eqO_ok)
theorem B5 {n:Nat}{fa:List (ku→Bool)}{fn:List DefA}{g:Addr→Option Obj}{s:Shared} (h:∀ a,g a=s.heap.get? a):AU n fa fn g=(EY n fa fn).obs s:=by
 have e:g=s.heap.get?:=funext h
 rw [e] <;> rfl
section
variable {fa:List (ku→Bool)}{fn:List DefA}{K:ku}
theorem tH.fact (c:tH fa fn K) (i:Nat) {f:ku→Bool} (h:fa[i]?=some f:=by rfl):f K=true:=by
 have c1:=(ba (show((fa.all fun f=>f K)&&fn.all fun d=>d.ok K)=true from congrArg (fun z:He.AlD=>z.1) c)).1
 exact List.all_eq_true.mp c1 f (List.mem_of_getElem? h)
theorem tH.def_ (c:tH fa fn K) (i:Nat) {d:DefA} (h:fn[i]?=some d:=by rfl):∃ fd,L2.FunD K d.name d.qual d.params d.body d.scope (d.dvs K) (d.kws K) (d.at_ K) fd:=by
 have c2:=(ba (show((fa.all fun f=>f K)&&fn.all fun d=>d.ok K)=true from congrArg (fun z:He.AlD=>z.1) c)).2
 have e:fn.map (fun d=>He5.fnA K (d.at_ K))=fn.map He5.DefA.val:=congrArg (fun z:He.AlD=>z.2) c
 have e2:(fn.map fun d=>He5.fnA K (d.at_ K))[i]?=(fn.map He5.DefA.val)[i]?:=by rw [e]
 rw [List.getElem?_map,List.getElem?_map,h]at e2
 exact He5.DefA.funD (Option.some.inj e2) (List.all_eq_true.mp c2 d (List.mem_of_getElem? h))
end
theorem B6 {K:ku}{x:Str} (h:EZ x K=true):GR K (ga K x):=by
 obtain⟨h1,h⟩:=ba h
 obtain⟨h2,h⟩:=ba h
 obtain⟨h3,h⟩:=ba h
 obtain⟨h4,h5⟩:=ba h
 exact⟨He.cls_ok h1,eqO_ok h2,eqO_ok h3,of_decide_eq_true h4,of_decide_eq_true h5⟩
abbrev D8 (nm:Nat→Str) (tbs:List (Addr×Str)) (K:ku):Tab:=⟨K,fun n=>ga K (nm n),tbs⟩
abbrev gD (nm:Nat→Str) (K:ku):Tab:=D8 nm [] K
theorem B7 {K:ku}{x:Str} (h:E8 x K=true):ExcC K (ga K x):=by
 obtain⟨h1,h⟩:=ba h
 obtain⟨h2,h⟩:=ba h
 obtain⟨h3,h⟩:=ba h
 obtain⟨h4,h⟩:=ba h
 obtain⟨h5,h⟩:=ba h
 obtain⟨h6,h⟩:=ba h
 obtain⟨h7,h8⟩:=ba h
 exact⟨eqO_ok h1,eqO_ok h2,of_decide_eq_true h3,h4,eqO_ok h5,eqO_ok h6,of_decide_eq_true h7,of_decide_eq_true h8⟩
theorem iz {tbs:List (Addr×Str)}{nm:Nat→Str}{cs:List Nat}{K:ku} (h:Ge nm cs K=true):qj K (D8 nm tbs K) cs:=by
 obtain⟨h1,h⟩:=ba h
 obtain⟨h2,h⟩:=ba h
 obtain⟨h3,h4⟩:=ba h
 refine⟨fun C hC hl=>?_,fun C hC hl=>?_,fun C hC b hb=>of_decide_eq_true (List.all_eq_true.mp (List.all_eq_true.mp h2 C hC) b hb),
  fun C hC b hb=>of_decide_eq_true (List.all_eq_true.mp (List.all_eq_true.mp h3 C hC) b hb),fun C hC b hb=>of_decide_eq_true (List.all_eq_true.mp (List.all_eq_true.mp h4 C hC) b hb)⟩
 ·have q:=List.all_eq_true.mp h1 C hC
  rw [if_neg (by omega)]at q
  exact B6 q
 ·have q:=List.all_eq_true.mp h1 C hC
  rw [if_pos hl]at q
  exact B7 q
section
variable {K:ku}{x qual:Str}{params:Arguments}{body:List Stmt}{scope:Scope}{dvs:List V}{kws:List (Str×V)}{f:Addr}{fd:FuncData}{ps:List Str}
theorem wY {n:Nat}{ks:List Str}{g:List (Nat ⊕ D)} (F:FunD K x qual params body scope [] kws f fd) (nd:(rC g).Nodup) (hg:∀ d,.inr d∉g)
  (h:∀ (kV doc pm:Value) (an:Option Addr) (cdv ct:Value) (us ws zs:List Value),us.length=n→ws.length=ks.length→lH (fun _=>.none) (us++ws) g=some zs →
   bindArgs (PySem.W.fnOf x qual params body scope .none kV doc pm an cdv ct) ⟨us,ks.zip ws⟩=pure (ps.zip zs)):wQ K fd ps n ks g (fun _=>.non):=by
 obtain⟨oc,od,dV,kV,doc,pm,an,cdv,ct,osl,rfl,lk,hcd,hD,hK⟩:=F.ex
 rcases hD with⟨_,rfl⟩ | ⟨e,_⟩
 ·exact⟨nd,fun _=>.none,fun d hd=>absurd hd (hg d),fun s us ws zs X l1 l2 e=>.of_eq (h kV doc pm an cdv ct us ws zs l1 l2 e)⟩
 ·exact absurd rfl e
end
theorem zl {T:Tab}{own:Addr→Prop}{H:Hp}:∀ ns:List Int,jB T own H (ns.map .int) (ns.map V.int)
 | []=>rfl
 | n::ns=>⟨.int n,ns.map V.int,rfl,rfl,zl ns⟩
theorem D9 {l:PySem.W.OpenLaw}{n k:Nat}{q:Program}{loose:List Str}{XP:(Str→Option Value)→Heap→Prop}{YP:World→Heap→Prop}{d:DefRec}{x:Str}
  (hn:l.most=some n) (hn2:n≤sizeLine) (hdf:d.params.defaults = []) (hr:Room k callerA)
  (F:∀ (w:World) (mg:Str→Option Value) (fa:Addr) (h:Heap),YP w h→h.Ns mainGlobals mg→mg d.name=some (.ref fa) →
   ∃ (K:ku) (fd:FuncData) (sp:Sp),K.In h∧(∀ (s:Shared) (u:Value),BindsTo s fd ⟨[u],[]⟩ [(x,u)]) ∧
    (∀ (H:Hp) (a:Addr) (ns:List Int),ns.length≤n→Only H→SqL K H a (ns.map V.int)→sp [.ref a] H (fun v _=>v = .bl true) fun _ _ _=>False) ∧
    ∀ base:Heap,K.In base→base.Ns mainGlobals mg→FnOk l.prog w K mg base (L2.CX l.prog w) k fa fd [x] sp) :
  PySem.W.WalkO q loose XP YP l.row.toRowW d [] (fun f vs=>PySem.call f vs):=by
 refine Att.attach_call hn hdf fun w s₀ s₁ mg mb fa o pm cd doc a vs ns G Y ho hd hcd hmg hobj hints hlen hg=>?_
 obtain⟨K,fd,sp,KX,hb,hsp,hF⟩:=F w mg fa _ Y G.T.g hmg
 exact law_call KX G.T.g G.T.b G.T.builtins G.T.nolimit hg hobj hints (Nat.le_trans hlen hn2) hr hF hb (fun H hO hS=>hsp H a ns hlen hO hS) fun H e s' ⟨_,_,_,_,_,_,_,_,_,_,_,_,z⟩=>z
theorem G5 {K:ku}{nm:Nat→Str}{run:List O→bA}{H:Hp}{a:Addr}{ns:List Int} (hO:Only H) (hS:SqL K H a (ns.map V.int)) (h:∃ o,run [.d (.lst (ns.map .int))] = .ok (.d (.bl true)) [o]):bI (gD nm K) run [.ref a] H (fun v _=>v = .bl true) fun _ _ _=>False:=by
 obtain⟨o,h⟩:=h
 have hv:∀ a,vw (fun _=>False) H a=H a:=fun a=>bx id
 have hD:Dr (gD nm K) (fun a=>False∨a∈([]:List Addr)++[]) (vw (fun _=>False) H) (.lst (ns.map .int)) (.ref a):=by
  refine⟨a,ns.map V.int,rfl,?_,zl ns⟩
  rcases hS with q | q
  ·exact .inl ⟨by simp,by rw [show vw (fun _=>False) H=H from funext hv]; exact q⟩
  ·exact .inr q
 refine⟨⟨fun _=>False,fun _=>False,H,fun _=>False,[],fun _=>default⟩,[.d (.lst (ns.map .int))],[],rfl,⟨fun a z=>z.elim,fun a u e _ _=>(hv a).trans e,fun a z=>z.elim,fun a z=>z.elim,fun p hp=>(by cases hp),[],⟨[],[],rfl,⟨rfl,hD⟩,rfl⟩,List.nodup_nil,fun a z=>by cases z⟩,?_⟩
 rw [h]
 intro u H' _ s
 have d:=s.read
 exact d
end PV
namespace PV
open PySem PySem.Spec PyProof.Rows L2
def Base.lock (B:Base) (d:Addr) (u:HO) (od:Obj) (i:Nat):Base :=
 ⟨B.G,fun a=>B.Z a∨a=d,fun a=>if a=d then some u else B.H0 a,fun a=>B.IO a∧a≠d,(i,.ref d)::B.pr,fun a=>if a=d then od else B.zo a⟩
def Ac (B:Base) (i:Nat):Prop:=∃ d u,(i,V.ref d)∈B.pr∧B.Z d∧B.H0 d=some u∧¬ B.IO d
section
variable {T:Tab}{B:Base}{Φ:cU}{W:WX}{X:Cx}{H H' H3:Hp}{l m:List bf}{d:Addr}{u:HO}{od:Obj}{i:Nat}
theorem zm (s:Sat T B H l) (z:B.Z d) (e:B.H0 d=some u) (n:¬ B.IO d):H d=some (.frz (B.zo d) u)∧LD u:=by
 obtain⟨u2,e2,mu⟩:=s.lk d z
 have q:=s.old d u e n (fun q hq=>by
  obtain⟨ps,h1⟩:=s.tt hq
  rw [e2]at h1
  cases h1)
 have:vw B.Z H d=some u2:=by
  unfold vw
  rw [e2]
  dsimp only
  rw [if_pos z]
 rw [q]at this
 cases this
 exact⟨e2,mu⟩
theorem wZ (s:Sat T B H l) (hv:vw (B.lock d u od i).Z H'=vw B.Z H) (hd:H' d=some (.frz od u)) (mu:LD u) (hu:vw B.Z H d=some u) (ho:∀ a,a≠d→H' a=H a) (hf:∀ F,aP T (fun a=>B.G a∨a∈([]:List Addr)++F) (vw B.Z H) l F→d∉F):Sat T (B.lock d u od i) H' l:=by
 obtain⟨F,r,nd,c⟩:=s.reps
 have nF:=hf F r
 refine⟨fun a ha=>?_,fun a o e hi nt=>?_,fun a ha=>?_,fun a ha=>?_,fun p hp=>?_,F,?_,nd,fun a ha=>?_⟩
 ·by_cases q:a=d
  ·subst q
   exact⟨u,by rw [hd]; show _=some (HO.frz (if a=a then od else B.zo a) u); rw [if_pos rfl],mu⟩
  ·have ha:B.Z a:=ha.resolve_right q
   obtain⟨u2,e2,m2⟩:=s.lk a ha
   exact⟨u2,by rw [ho a q,e2]; show _=some (HO.frz (if a=d then od else B.zo a) u2); rw [if_neg q],m2⟩
 ·rw [hv]
  have e:(if a=d then some u else B.H0 a)=some o:=e
  by_cases q:a=d
  ·rw [if_pos q]at e
   cases e
   rw [q]
   exact hu
  ·rw [if_neg q]at e
   exact s.old a o e (fun z=>hi ⟨z,q⟩) nt
 ·obtain⟨h1,h2,h3⟩:=s.oth a ha
  refine⟨fun z=>h1 z.1,?_,fun fs=>?_⟩
  ·show(if a=d then some u else B.H0 a)≠none
   split
   ·simp
   ·exact h2
  ·show(if a=d then some u else B.H0 a)≠some (.xd fs)
   split
   ·intro z; cases z; exact mu
   ·exact h3 fs
 ·rw [ho a ha.2]
  exact s.io a ha.1
 ·obtain⟨t1,t2,t3⟩:=s.tb p hp
  have k1:∀ {u2:HO},H d=some u2→¬ LD u2→(∀ o x,u2≠.frz o x)→False:=fun {u2} e nl nf=>by
   rcases i8 hu with q | ⟨z,o,q⟩
   ·rw [e]at q
    cases q
    exact nl mu
   ·rw [e]at q
    cases q
    exact nf _ _ rfl
  have hpd:p.1≠d:=fun z=>by
   obtain⟨ps,e,_⟩:=t3
   rw [z]at e
   exact k1 e id (fun _ _ z=>by cases z)
  refine⟨?_,fun z=>t2 z.1,qL t3 ho (fun ps e=>k1 e id (fun _ _ z=>by cases z)) fun g e=>k1 e id (fun _ _ z=>by cases z)⟩
  show(if p.1=d then some u else B.H0 p.1)≠none
  rw [if_neg hpd]
  exact t1
 ·rw [hv]
  exact r
 ·obtain⟨c1,c2,c3,c4⟩:=c a ha
  have q:a≠d:=fun z=>nF (by rw [← z]; simpa using ha)
  refine⟨c1,?_,fun z=>z.elim c3 q,by rw [ho a q]; exact c4⟩
  rcases c2 with z | z
  ·exact .inl ⟨z,q⟩
  ·exact .inr (by show(if a=d then some u else B.H0 a)=none; rw [if_neg q]; exact z)
theorem w0 (s:Sat T (B.lock d u od i) H' l) (hv:vw B.Z H3=vw (B.lock d u od i).Z H') (hu:vw B.Z H3 d=some u) (ho:∀ a,a≠d→H3 a=H' a) (hz:B.Z d→H3 d=H' d∧od=B.zo d) (h0:∀ o,B.H0 d=some o→¬ B.IO d→o=u) (oth:∀ a,B.G a→¬ B.IO a∧B.H0 a≠none∧∀ fs,B.H0 a≠some (.xd fs)):Sat T B H3 l:=by
 obtain⟨F,r,nd,c⟩:=s.reps
 obtain⟨ud,hfd,_⟩:=s.lk d (.inr rfl)
 refine⟨fun a ha=>?_,fun a o e hi nt=>?_,oth,fun a ha=>?_,fun p hp=>?_,F,?_,nd,fun a ha=>?_⟩
 ·obtain⟨u2,e2,m2⟩:=s.lk a (.inl ha)
  by_cases q:a=d
  ·subst q
   obtain⟨h1,h2⟩:=hz ha
   refine⟨u2,?_,m2⟩
   rw [h1,e2]
   show some (HO.frz (if a=a then od else B.zo a) u2)=_
   rw [if_pos rfl,h2]
  ·refine⟨u2,?_,m2⟩
   rw [ho a q,e2]
   show some (HO.frz (if a=d then od else B.zo a) u2)=_
   rw [if_neg q]
 ·by_cases q:a=d
  ·subst q
   rw [hu,h0 o e hi]
  ·rw [hv]
   exact s.old a o (by show(if a=d then some u else B.H0 a)=some o; rw [if_neg q]; exact e) (fun z=>hi z.1) nt
 ·by_cases q:a=d
  ·subst q
   intro z
   rw [cF.mpr z]at hu
   cases hu
  ·rw [ho a q]
   exact s.io a ⟨ha,q⟩
 ·obtain⟨t1,t2,t3⟩:=s.tb p hp
  have hpd:p.1≠d:=fun z=>by
   obtain⟨ps,e,_⟩:=t3
   rw [z,hfd]at e
   cases e
  have t1:(if p.1=d then some u else B.H0 p.1)≠none:=t1
  rw [if_neg hpd]at t1
  exact⟨t1,fun z=>t2 ⟨z,hpd⟩,qL t3 ho (fun ps=>by rw [hfd]; simp) fun g=>by rw [hfd]; simp⟩
 ·rw [hv]
  exact r
 ·obtain⟨c1,c2,c3,c4⟩:=c a ha
  have q:a≠d:=fun z=>c3 (.inr z)
  refine⟨c1,?_,fun z=>c3 (.inl z),by rw [ho a q]; exact c4⟩
  rcases c2 with z | z
  ·exact .inl z.1
  ·have z:(if a=d then some u else B.H0 a)=none:=z
   rw [if_neg q]at z
   exact .inr z
theorem rH {L L':Addr→Prop}{a:Addr} (h:L a↔L' a):vw L H a=vw L' H a:=by
 unfold vw
 split
 ·by_cases z:L a
  ·rw [if_pos z,if_pos (h.mp z)]
  ·rw [if_neg z,if_neg fun q=>z (h.mpr q)]
 ·rfl
theorem Fv {L:Addr→Prop}{a:Addr} (e:H' a=H a):vw L H' a=vw L H a:=by
 unfold vw
 rw [e]
theorem Ea (hz:¬ B.Z d) (hd:H d=some u) (hl:LD u):vw (B.lock d u od i).Z (upd H d (.frz od u))=vw B.Z H:=by
 funext a
 by_cases q:a=d
 ·subst q
  rw [bx hz,hd]
  unfold vw
  rw [upd_same]
  dsimp only
  rw [if_pos (.inr rfl)]
 ·exact(Fv (upd_ne q)).trans (rH ⟨fun z=>z.resolve_right q,.inl⟩)
theorem xb (hz:B.Z d):vw (B.lock d u od i).Z H=vw B.Z H:=by
 funext a
 exact rH ⟨fun z=>z.elim id fun q=>q ▸ hz,.inl⟩
theorem xc {o:O}{ds:List D} (h:lN o=some ds):∃ xs,o = .d (.dic ds xs):=by
 unfold lN at h
 cases o with
 | d x =>
  cases x with
  | dic ks xs =>
   dsimp only at h
   cases e:keysOf ks with
   | none =>
    rw [e]at h
    cases e2:au ks with
    | none=>rw [e2]at h; cases h
    | some js =>
     rw [e2]at h
     cases h
     exact⟨xs,rfl⟩
   | some js =>
    rw [e]at h
    cases h
    exact⟨xs,rfl⟩
  | _=>cases h
 | _=>cases h
theorem dy.lock {L:List Nat} (h:dy B L):dy (B.lock d u od i) (i::L):=fun p hp=>by
 rcases List.mem_cons.mp hp with rfl | q
 ·exact List.mem_cons_self
 ·exact List.mem_cons_of_mem _ (h p q)
theorem zr {ks xs:List D}{v:V} (s:Sat T B H ((.d (.dic ks xs),v)::l)):∃ d u,v = .ref d∧vw B.Z H d=some u∧LD u∧(∀ F,aP T (fun a=>B.G a∨a∈([]:List Addr)++F) (vw B.Z H) ((.d (.dic ks xs),v)::l) F→d∉F) ∧
  ((∃ js vs,keysOf ks=some js∧u = .dK (js.zip vs)∧js.length=vs.length)∨(∃ js vs,au ks=some js∧u = .dT (js.zip vs)∧js.length=vs.length)):=by
 obtain⟨F,⟨F1,F2,rfl,⟨rfl,d,vs,rfl,nown,alt,dl⟩,r2⟩,nd,c⟩:=s.reps
 have hf:∀ F,aP T (fun a=>B.G a∨a∈([]:List Addr)++F) (vw B.Z H) ((.d (.dic ks xs),.ref d)::l) F→d∉F:=by
  rintro F ⟨F1,F2,rfl,⟨rfl,d2,vs2,e,n2,_,_⟩,_⟩ z
  cases e
  exact n2 (.inr (by simpa using z))
 rcases alt with⟨js,q1,q2,q3⟩ | ⟨js,q1,q2,q3⟩
 ·exact⟨d,_,rfl,q2,trivial,hf,.inl ⟨js,vs,q1,rfl,q3⟩⟩
 ·exact⟨d,_,rfl,q2,trivial,hf,.inr ⟨js,vs,q1,rfl,q3⟩⟩
theorem Eb {L:List Nat}{ρ:Env}{σ:L2.St}{o:O}{ks:List D} (pr:dy B L) (a:At T B H ρ σ l) (eo:ax ρ i=some o) (ek:lN (.d o.frz)=some ks) :
  (∃ B',dy B' (i::L)∧Ac B' i∧At T B' H (ρ.set i (some (.d o.frz))) σ l∧∀ H2 ρ2 σ2 m,At T B' H2 ρ2 σ2 m→At T B H2 ρ2 σ2 m) ∨
  ∃ d u,H d=some u∧Mut (some u)∧∀ od,∃ B',dy B' (i::L)∧Ac B' i∧At T B' (upd H d (.frz od u)) (ρ.set i (some (.d o.frz))) σ l∧∀ H2 ρ2 σ2 m,At T B' H2 ρ2 σ2 m→H2 d=some (.frz od u)∧At T B (upd H2 d u) ρ2 σ2 m:=by
 obtain⟨xs,ed⟩:=xc ek
 injection ed with ed
 obtain⟨v,evi⟩:=a.ok.at eo
 have t:=a.take eo evi
 have hi:=mL eo
 have t2:At T B H (ρ.set i none) σ ((.d o.frz,v)::(.d o.frz,v)::l):=⟨t.ok,((t.sat.perm List.perm_middle).freeze.dup).perm (List.perm_middle.trans (List.perm_middle.cons _)).symm,t.pr⟩
 have t3:=t2.fill (i:=i) (by unfold ax; rw [List.getElem?_set_self hi]; rfl) (by simpa using hi) evi
 rw [List.set_set,ed]at t3
 rw [ed]
 have sd:Sat T B H ((.d (.dic ks xs),v)::(ah (ρ.set i (some (.d (.dic ks xs)))) σ++l)):=t3.sat.perm List.perm_middle
 have a1:At T B H (ρ.set i (some (.d (.dic ks xs)))) σ l:=t3.drop
 obtain⟨d,u,rfl,hu,mu,hf,_⟩:=zr sd
 have h0:∀ o,B.H0 d=some o→¬ B.IO d→o=u:=fun o e n=>by
  have:=sd.old d o e n (sd.tx hu (by cases u <;> first | trivial | exact mu))
  rw [hu]at this
  cases this
  rfl
 have lk':∀ od,Ac (B.lock d u od i) i:=fun od=>⟨d,u,List.mem_cons_self,.inr rfl,if_pos rfl,fun z=>z.2 rfl⟩
 have pr':∀ od,∀ p∈(B.lock d u od i).pr,σ[p.1]?=some (some p.2):=fun od p hp=>by
  rcases List.mem_cons.mp hp with rfl | q
  ·exact evi
  ·exact a1.pr p q
 by_cases hz:B.Z d
 ·obtain⟨u2,e2,_⟩:=sd.lk d hz
  have hh:u2=u:=by
   have q:vw B.Z H d=some u2:=by
    unfold vw
    rw [e2]
    dsimp only
    rw [if_pos hz]
   rw [hu]at q
   cases q
   rfl
  subst hh
  have S':=wZ (i:=i) sd (xb hz) e2 mu hu (fun _ _=>rfl) hf
  refine .inl ⟨_,pr.lock,lk' (B.zo d),⟨a1.ok,S'.drop1,pr' _⟩,fun H2 ρ2 σ2 m a2=>?_⟩
  obtain⟨q1,q2⟩:=zm a2.sat (d:=d) (u:=u2) (.inr rfl) (if_pos rfl) fun z=>z.2 rfl
  have hu2:vw B.Z H2 d=some u2:=by
   unfold vw
   rw [q1]
   dsimp only
   rw [if_pos hz]
  exact⟨a2.ok,w0 a2.sat (xb hz).symm hu2 (fun _ _=>rfl) (fun _=>⟨rfl,rfl⟩) h0 sd.oth,fun p hp=>a2.pr p (List.mem_cons_of_mem _ hp)⟩
 ·have hd:H d=some u:=(bx hz).symm.trans hu
  have hm:Mut (some u):=by
   cases u <;> first | exact mu.elim | trivial
  refine .inr ⟨d,u,hd,hm,fun od=>⟨_,pr.lock,lk' od,⟨a1.ok,(wZ (i:=i) sd (Ea hz hd mu) upd_same mu hu (fun _ q=>upd_ne q) hf).drop1,pr' _⟩,fun H2 ρ2 σ2 m a2=>?_⟩⟩
  obtain⟨q1,q2⟩:=zm a2.sat (d:=d) (u:=u) (.inr rfl) (if_pos rfl) fun z=>z.2 rfl
  have q1:H2 d=some (.frz od u):=by rw [q1]; show some (HO.frz (if d=d then od else B.zo d) u)=_; rw [if_pos rfl]
  refine⟨q1,⟨a2.ok,w0 a2.sat ?_ ?_ (fun _ q=>upd_ne q) (fun z=>(hz z).elim) h0 sd.oth,fun p hp=>a2.pr p (List.mem_cons_of_mem _ hp)⟩⟩
  ·funext a
   by_cases q:a=d
   ·subst q
    rw [bx hz,upd_same]
    unfold vw
    rw [q1]
    dsimp only
    rw [if_pos (.inr rfl)]
   ·exact(Fv (upd_ne q)).trans (rH ⟨.inl,fun z=>z.resolve_right q⟩)
  ·rw [bx hz,upd_same]
theorem I4 {L:List Nat}{e:Expr}{se:SE} (pr:dy B L) (h:∀ B',dy B' (i::L)→Ac B' i→PE X e (tE T B' Φ WF se)):PE X e (tE T B Φ W (.lck i se)):=by
 refine⟨fun pins s σ H Q I ⟨ρ,l,a,r⟩=>?_⟩
 have r:RG T B W σ l (bnd (ax ρ i) fun o=>bnd (lN (.d o.frz)) fun _=>(ev Φ se (ρ.set i (some (.d o.frz)))).noX) fun o ρ=>∀ v H,At T B H ρ σ ((o,v)::l)→Q v H:=by rw [ev]at r; exact r.rg
 obtain⟨o,eo,r1⟩:=r.bnd
 obtain⟨ks,ek,r2⟩:=r1.bnd
 have ht:PE X e (fun σ H Q=>∃ B',dy B' (i::L)∧Ac B' i∧tE T B' Φ WF se σ H Q):=⟨fun pins s σ H Q I ⟨B',p,k,hh⟩=>(h B' p k).run pins s σ H Q I hh⟩
 rcases Eb pr a eo ek with⟨B',p1,p2,p3,p4⟩ | ⟨d,u,hd,hm,p⟩
 ·refine ht.run pins s σ H Q I ⟨B',p1,p2,_,l,p3,RG.rp ?_⟩
  cases er:ev Φ se (ρ.set i (some (.d o.frz)))with
  | bad=>rw [er]at r2; exact r2.elim
  | exc C p ρ2=>rw [er]at r2; exact r2.elim
  | ok o2 ρ2 =>
   rw [er]at r2
   exact fun v H2 a2=>r2 v H2 (p4 _ _ _ _ a2)
 ·refine(pe_lock ht).run pins s σ H Q I ⟨d,u,hd,hm,fun od=>?_⟩
  obtain⟨B',p1,p2,p3,p4⟩:=p od
  refine⟨B',p1,p2,_,l,p3,RG.rp ?_⟩
  cases er:ev Φ se (ρ.set i (some (.d o.frz)))with
  | bad=>rw [er]at r2; exact r2.elim
  | exc C p ρ2=>rw [er]at r2; exact r2.elim
  | ok o2 ρ2 =>
   rw [er]at r2
   intro v H2 a2
   obtain⟨q1,q2⟩:=p4 _ _ _ _ a2
   exact⟨q1,r2 v _ q2⟩
theorem I5 {k:D}{j:Key} (h:keyOf k=some j) {v:V} (e:v=kV j) (s:Sat T B H l):Sat T B H ((.d k,v)::l):=by
 subst e
 cases k with
 | int n =>
  have h:some (Sum.inl n)=some j:=h
  cases h
  exact s.int
 | str z =>
  have h:some (Sum.inr z)=some j:=h
  cases h
  exact s.str
 | _=>cases h
theorem rJ:∀ {ks:List D}{js:List Key}{i:Nat}{j:Key},keysOf ks=some js→js[i]?=some j→∃ k,ks[i]?=some k∧keyOf k=some j
 | [],js,i,j,h,hj=>by
  cases h
  simp at hj
 | k::ks,js,i,j,h,hj=>by
  unfold keysOf at h
  cases e1:keyOf k with
  | none=>rw [e1]at h; cases h
  | some k0 =>
   cases e2:keysOf ks with
   | none=>rw [e1,e2]at h; cases h
   | some js0 =>
    rw [e1,e2]at h
    cases h
    cases i with
    | zero =>
     cases hj
     exact⟨k,rfl,e1⟩
    | succ n =>
     obtain⟨k2,h1,h2⟩:=rJ (i:=n) e2 (by simpa using hj)
     exact⟨k2,by simpa using h1,h2⟩
theorem rK:∀ {ks:List D}{js:List Key},keysOf ks=some js→js.length=ks.length
 | [],js,h=>by
  cases h
  rfl
 | k::ks,js,h=>by
  unfold keysOf at h
  cases e1:keyOf k with
  | none=>rw [e1]at h; cases h
  | some k0 =>
   cases e2:keysOf ks with
   | none=>rw [e1,e2]at h; cases h
   | some js0 =>
    rw [e1,e2]at h
    cases h
    rw [List.length_cons,List.length_cons,rK e2]
theorem um:∀ {ks:List D}{js:List (List Key)}{i:Nat}{j:List Key},au ks=some js→js[i]?=some j→∃ k,ks[i]?=some k∧aA k=some j
 | [],js,i,j,h,hj=>by
  cases h
  simp at hj
 | k::ks,js,i,j,h,hj=>by
  unfold au at h
  cases e1:aA k with
  | none=>rw [e1]at h; cases h
  | some k0 =>
   cases e2:au ks with
   | none=>rw [e1,e2]at h; cases h
   | some js0 =>
    rw [e1,e2]at h
    cases h
    cases i with
    | zero =>
     cases hj
     exact⟨k,rfl,e1⟩
    | succ n =>
     obtain⟨k2,h1,h2⟩:=um (i:=n) e2 (by simpa using hj)
     exact⟨k2,by simpa using h1,h2⟩
theorem pe:∀ {ks:List D}{js:List (List Key)},au ks=some js→js.length=ks.length
 | [],js,h=>by
  cases h
  rfl
 | k::ks,js,h=>by
  unfold au at h
  cases e1:aA k with
  | none=>rw [e1]at h; cases h
  | some k0 =>
   cases e2:au ks with
   | none=>rw [e1,e2]at h; cases h
   | some js0 =>
    rw [e1,e2]at h
    cases h
    rw [List.length_cons,List.length_cons,pe e2]
theorem zt {own:Addr→Prop}{h:Hp}:∀ {ds:List D}{js:List Key},keysOf ds=some js→jB T own h ds (js.map kV)
 | [],js,e=>by
  cases e
  rfl
 | k::ks,js,e=>by
  unfold keysOf at e
  cases e1:keyOf k with
  | none=>rw [e1]at e; cases e
  | some k0 =>
   cases e2:keysOf ks with
   | none=>rw [e1,e2]at e; cases e
   | some js0 =>
    rw [e1,e2]at e
    cases e
    refine⟨_,_,rfl,?_,zt e2⟩
    cases k with
    | int n=>cases e1; rfl
    | str z=>cases e1; rfl
    | _=>cases e1
theorem B9 {k:D}{j:List Key} (h:aA k=some j) {v:V}{q:Addr} (e:v = .ref q) (eq:H q=some (.tup (j.map kV))) (s:Sat T B H l):Sat T B H ((.d k,v)::l):=by
 subst e
 have:=ae.more (xs:=[k]) (vs:=[V.ref q]) s fun F _ r=>⟨_,_,rfl,?_,rfl⟩
 ·exact this
 ·cases k with
  | tup ds =>
   have h:(if ds.length=2∨ds.length=3 then keysOf ds else none)=some j:=h
   by_cases hc:ds.length=2∨ds.length=3
   ·rw [if_pos hc]at h
    exact⟨q,_,rfl,.inl (by unfold vw; rw [eq]),zt h⟩
   ·rw [if_neg hc]at h; cases h
  | _=>cases h
theorem G6 {x:Str}{pos:Pos}{tg:Expr} (lk:Ac B i) (hN:X.N[i]?=some x) (hv:Vis X.env.scope x) (hdb:(x == ("__debug__" : Str))=false) (hc:(x == ("__classdict__" : Str))=false):PI X tg (.Name x pos) (tI T B Φ W (.keys i)):=by
 refine⟨fun pins s σ H R I ⟨ρ,l,a,r⟩=>(pi_keys (pe_var hN hv hdb hc)).run pins s σ H R I ?_⟩
 rw [n9]at r
 obtain⟨o,eo,r1⟩:=r.bnd
 obtain⟨ks,ek,r2⟩:=r1.bnd
 clear r r1
 obtain⟨xs,rfl⟩:=xc ek
 obtain⟨v,evi⟩:=a.ok.at eo
 obtain⟨d,u,m1,m2,m3,m4⟩:=lk
 have q:=a.pr _ m1
 have q:σ[i]?=some (some (V.ref d)):=q
 rw [evi]at q
 cases q
 have t:=a.take eo evi
 have sd:Sat T B H ((.d (.dic ks xs),.ref d)::(ah (ρ.set i none) σ++l)):=t.sat.perm List.perm_middle
 obtain⟨d',u',e1,hu,mu,hf,alt⟩:=zr sd
 cases e1
 obtain⟨p1,p2⟩:=zm a.sat m2 m3 m4
 have p3:=a.sat.old d u m3 m4 (a.sat.tx hu (by cases u' <;> first | trivial | exact mu))
 rw [hu]at p3
 cases p3
 refine⟨.ref d,evi,d,B.zo d,rfl,?_⟩
 have go:∀ {H':Hp}{l':List bf},Sat T B H' l'→H' d=some (.frz (B.zo d) u):=fun s=>(zm s m2 m3 m4).1
 rcases alt with⟨js',vs,k1,rfl,k3⟩ | ⟨js',vs,k1,rfl,k3⟩
 ·have ej:=k1
  have hl:=rK ej
  have hzl:(js'.zip vs).length=ks.length:=by rw [List.length_zip]; omega
  have ob:ObjOk X.prog X.w H s.heap d (.frz (B.zo d) (.dK (js'.zip vs))):=I.hok d _ p1
  have hsz:(js'.zip vs).length≤sizeLine:=ob.2.1
  refine .inl ⟨_,p1,r2 [] _ H rfl trivial (by simpa using a) ⟨fun j H l hj s=>⟨go s,by rw [hzl]; exact hj⟩,fun H l s=>⟨go s,by rw [hzl]; exact Nat.le_refl _⟩,fun j H v H' l hj s y=>?_⟩ (by rw [← hzl]; exact hsz)⟩
  obtain⟨rfl,k,w,y1,y2⟩:=y
  have hjj:js'[j]?=some k:=by
   rw [List.getElem?_zip_eq_some]at y1
   exact y1.1
  obtain⟨dk,e1,e2⟩:=rJ ej hjj
  exact⟨dk,e1,I5 e2 y2 s⟩
 ·have hl:=pe k1
  have hzl:(js'.zip vs).length=ks.length:=by rw [List.length_zip]; omega
  have ob:ObjOk X.prog X.w H s.heap d (.frz (B.zo d) (.dT (js'.zip vs))):=I.hok d _ p1
  have hsz:(js'.zip vs).length≤sizeLine:=ob.2.1
  refine .inr ⟨_,p1,r2 [] _ H rfl trivial (by simpa using a) ⟨fun j H l hj s=>⟨go s,by rw [hzl]; exact hj⟩,fun H l s=>⟨go s,by rw [hzl]; exact Nat.le_refl _⟩,fun j H v H' l hj s y=>?_⟩ (by rw [← hzl]; exact hsz)⟩
  obtain⟨rfl,k,w,q,y1,y2,y3⟩:=y
  have hjj:js'[j]?=some k:=by
   rw [List.getElem?_zip_eq_some]at y1
   exact y1.1
  obtain⟨dk,e1,e2⟩:=um k1 hjj
  exact⟨dk,e1,B9 e2 y2 y3 s⟩
end
end PV
namespace PV
open PySem L2
@[simp] theorem Fw {o:O}{ρ:Env}:aj (.val o) ρ = .ok o ρ:=rfl
@[simp] theorem Ec {i:Nat}{ρ:Env}:aj (.slot i) ρ=bnd (ax ρ i) fun o=>.ok o (aj.taken o i ρ):=rfl
@[simp] theorem H7 {x:D}{i:Nat}{ρ:Env}:aj.taken (.d x) i ρ=ρ:=rfl
@[simp] theorem Fx {x:List O}{i:Nat}{ρ:Env}:aj.taken (.lst x) i ρ=ρ.set i none:=rfl
@[simp] theorem Fy {k:List D}{x:List O}{i:Nat}{ρ:Env}:aj.taken (.dic k x) i ρ=ρ.set i none:=rfl
@[simp] theorem Fz {C:Nat}{k:List Str}{x:List O}{i:Nat}{ρ:Env}:aj.taken (.obj C k x) i ρ=ρ.set i none:=rfl
@[simp] theorem Ed {ρ:Env}:dE [] ρ = .ok [] ρ:=rfl
@[simp] theorem Dy {a:Arg}{as:List Arg}{ρ:Env}:dE (a::as) ρ=(aj a ρ).bind fun o ρ=>(dE as ρ).bind fun os ρ=>.ok (o::os) ρ:=rfl
@[simp] theorem gY {x:D}:(O.d x).frz=x:=by rw [O.frz]
@[simp] theorem jW {xs:List O}:(O.lst xs).frz = .lst (xs.map O.frz):=by rw [O.frz,bM]
@[simp] theorem H8 {k:List D}{xs:List O}:(O.dic k xs).frz = .dic k (xs.map O.frz):=by rw [O.frz,bM]
@[simp] theorem H9 {C:Nat}{k:List Str}{xs:List O}:(O.obj C k xs).frz = .obj C k (xs.map O.frz):=by rw [O.frz,bM]
@[simp] theorem Ia {xs:List O}:(O.tup xs).frz = .tup (xs.map O.frz):=by rw [O.frz,bM]
@[simp] theorem I6 {x:D}:(O.d x).shal = .d x:=rfl
@[simp] theorem yh {x:List O}:(O.lst x).shal = .lst (x.map fun o=>.d o.frz):=rfl
@[simp] theorem G7 {o p:O}{ρ:Env}:back (.val o) p ρ=ρ:=rfl
@[simp] theorem FA {i:Nat}{p:O}{ρ:Env}:back (.slot i) p ρ=ρ.set i (some p):=rfl
@[simp] theorem FC {os:List O}{ρ:Env}:b7 [] os ρ=ρ:=by cases os <;> rfl
@[simp] theorem Ee {a:Arg}{as:List Arg}{o:O}{os:List O}{ρ:Env}:b7 (a::as) (o::os) ρ=b7 as os (back a o ρ):=rfl
@[simp] theorem Ib {b:Bool}:qQ (.bl b)=some b:=rfl
@[simp] theorem G8 {b:Bool}:qS (.d (.bl b))=some b:=rfl
@[simp] theorem Ic {i j:Int}:nC (.int i) (.int j)=true:=rfl
@[simp] theorem G9 {n:Nat}{i:Int}:ixN n i=ixN n i:=rfl
@[simp] theorem JU {o:O}{ρ:Env}{args:List O}:(Res.ok (.rt o) ρ).done args=match bp args ρ with
  | some ios=>.ok o ios
  | none=>.bad:=rfl
@[simp] theorem JV {ρ:Env}{args:List O}:(Res.ok .nx ρ).done args=match bp args ρ with
  | some ios=>.ok (.d .non) ios
  | none=>.bad:=rfl
@[simp] theorem JW {α β:Type}{o:Option α}{f:α→Res β}:(bnd o f).noX=bnd o fun a=>(f a).noX:=by cases o <;> rfl
section
variable {i C:Nat}{o:O}{os:List O}{ρ:Env}{ts:List Tg}{t:Tg}{d:D}{ds:List D}{f:Str}
@[simp] theorem dR:aH (.nm i) d ρ=some (ρ.set i (some (.d d))):=by rw [aH]
@[simp] theorem Ie:aH (.tp ts) (.tup ds) ρ=aH.go ts ds ρ:=by rw [aH]
@[simp] theorem KN:aH.go [] [] ρ=some ρ:=by rw [aH.go]
@[simp] theorem KO:aH.go (t::ts) (d::ds) ρ=match aH t d ρ with
  | some ρ'=>aH.go ts ds ρ'
  | none=>none:=by first | (rw [aH.go]; done) | (rw [aH.go]; rfl)
@[simp] theorem Ig:aQ (.nm i) o ρ=some (ρ.set i (some o)):=by rw [aQ]
@[simp] theorem Ha:aQ (.tp ts) (.d (.tup ds)) ρ=aQ.goD ts ds ρ:=by rw [aQ]
@[simp] theorem Hb:aQ (.tp ts) (.tup os) ρ=aQ.go ts os ρ:=by rw [aQ]
@[simp] theorem Ih:aQ (.fl i C f) o ρ=match ax ρ i with
  | some b=>match DD C f o b with
   | some b'=>some (ρ.set i (some b'))
   | none=>none
  | none=>none:=by first | (rw [aQ]; done) | (rw [aQ]; rfl)
@[simp] theorem KP:aQ.go [] [] ρ=some ρ:=by rw [aQ.go]
@[simp] theorem KQ:aQ.go (t::ts) (o::os) ρ=match aQ t o ρ with
  | some ρ'=>aQ.go ts os ρ'
  | none=>none:=by first | (rw [aQ.go]; done) | (rw [aQ.go]; rfl)
@[simp] theorem KR:aQ.goD [] [] ρ=some ρ:=by rw [aQ.goD]
@[simp] theorem KS:aQ.goD (t::ts) (d::ds) ρ=match aH t d ρ with
  | some ρ'=>aQ.goD ts ds ρ'
  | none=>none:=by first | (rw [aQ.goD]; done) | (rw [aQ.goD]; rfl)
end
theorem aI {Φ:cU}{ss:List SS}{n m:Nat}{L:List Nat}{args:List O} (h1:args.length=n) (h2:f9 L 0 args=true):eY Φ ss n m L args=fR Φ ss m args:=by
 unfold eY
 rw [if_pos ⟨h1,h2⟩]
section
variable {i j:Int}{x y z:Str}{xs ys:List D}{u v:D}{os:List O}{o:O}{ks:List D}{b:Bool}{C:Nat}{ns:List Str}
@[simp] theorem cR:i7 .add [u,v]=z5 u v:=rfl
@[simp] theorem KU:z5 (.int i) (.int j)=some (.d (.int (i+j))):=rfl
@[simp] theorem KW:z5 (.str x) (.str y)=if x.length+y.length≤sizeLine then some (.d (.str (x++y)))else none:=rfl
@[simp] theorem KY:z5 (.lst xs) (.lst ys)=if xs.length+ys.length≤sizeLine then some (.lst ((xs++ys).map .d))else none:=rfl
@[simp] theorem KZ:z5 (.tup xs) (.tup ys)=if xs.length+ys.length≤sizeLine then some (.d (.tup (xs++ys)))else none:=rfl
@[simp] theorem FD:i7 .sub [.int i,.int j]=some (.d (.int (i - j))):=rfl
@[simp] theorem Mp:i7 .mul [.int i,.int j]=if(-(2 ^ 64) < i∧i < 2 ^ 64)∨(-(2 ^ 64) < j∧j < 2 ^ 64)then some (.d (.int (i * j)))else none:=rfl
@[simp] theorem K0:i7 .fdiv [.int i,.int j]=if 0 < j∧(j < 1073741824∨j < 2 ^ 200)then some (.d (.int (i / j)))else none:=rfl
@[simp] theorem Mq:i7 .mod [.int i,.int j]=if 0 < j then some (.d (.int (i % j)))else none:=rfl
@[simp] theorem xf:i7 .pow [.int i,.int j]=if 0≤j∧j≤1000000∧i.natAbs < 2 ^ 64 then some (.d (.int (i ^ j.toNat)))else none:=rfl
@[simp] theorem Mr:Ku .neg [.int i]=some (.d (.int (-i))):=rfl
@[simp] theorem Ms {k:Cm}:AQ k [u,v]=(aB k u v).map fun b=>.d (.bl b):=rfl
@[simp] theorem bD:aB .eq u v=if nC u v then some (D.eqd u v)else if qO u v then some (D.eqn 140 u v)else(qN u v).map fun _=>false:=rfl
@[simp] theorem dY:aB .ne u v=if nC u v then some (! D.eqd u v)else if qP u v then some (! D.eqn 140 u v)else(qN u v).map fun _=>true:=rfl
@[simp] theorem M3:aB .lt (.int i) (.int j)=some (decide (i < j)):=rfl
@[simp] theorem lY:aB .le (.int i) (.int j)=some (decide (i≤j)):=rfl
@[simp] theorem Ad:aB .gt (.int i) (.int j)=some (decide (j < i)):=rfl
@[simp] theorem M4:aB .ge (.int i) (.int j)=some (decide (j≤i)):=rfl
@[simp] theorem JX:aB .is .non .non=some true:=rfl
@[simp] theorem JY:aB .is (.str x) .non=some false:=rfl
@[simp] theorem M5:aB .isin u v=aB.inD u v:=rfl
@[simp] theorem JZ:aB .notin u v=(aB.inD u v).map (!·):=rfl
@[simp] theorem Mv:aB.inD u (.lst ys)=if D.okd 150 u&&D.okdL 150 ys then some (ys.any fun y=>D.eqd y u)else tV u ys:=rfl
@[simp] theorem K2:aB.inD u (.tup ys)=if D.okd 150 u&&D.okdL 150 ys then some (ys.any fun y=>D.eqd y u)else tV u ys:=rfl
@[simp] theorem Mw {c:Nat}:aB.inD (.str ⟨#[c]⟩) (.str y)=some (decide (c∈y.cps.toList)):=rfl
@[simp] theorem I7:bU [.lst xs,.int i]=(atI xs i).map .d:=rfl
@[simp] theorem M6:bU [.tup xs,.int i]=(atI xs i).map .d:=rfl
@[simp] theorem K3:bU [.str x,.int i]=if x.length≤sizeLine then(atI x.cps.toList i).map fun c=>.d (.str ⟨#[c]⟩)else none:=rfl
@[simp] theorem M7:bU [.dic ks xs,v]=if aZ v ks then(aW v ks xs).map .d else none:=rfl
@[simp] theorem fH {l h:D}:ig [u,l,h]=(match ll l,ll h with
  | some lo,some hi=>match u with
   | .lst xs=>some (.lst ((cutD xs lo hi).map .d))
   | .tup xs=>some (.d (.tup (cutD xs lo hi)))
   | .str z=>if z.length≤sizeLine then some (.d (.str ⟨((z.cps.toList.drop (HT.sIx z.length 0 lo)).take (HT.sIx z.length z.length hi - HT.sIx z.length 0 lo)).toArray⟩))else none
   | _=>none
  | _,_=>none):=rfl
@[simp] theorem Mx {k:Fn}:yQ k [u]=iw k u:=rfl
@[simp] theorem My {k:Fn}:yQ k [u,v]=Gh k u v:=rfl
@[simp] theorem bg:iw .len (.lst xs)=some (.d (.int xs.length)):=rfl
@[simp] theorem K4:iw .len (.tup xs)=some (.d (.int xs.length)):=rfl
@[simp] theorem K5:iw .len (.str x)=if x.length≤sizeLine then some (.d (.int x.length))else none:=rfl
@[simp] theorem K6:iw .len (.dic ks xs)=some (.d (.int ks.length)):=rfl
@[simp] theorem J0:iw .list (.lst xs)=some (.lst (xs.map .d)):=rfl
@[simp] theorem J1:iw .list (.tup xs)=some (.lst (xs.map .d)):=rfl
@[simp] theorem Ef:iw .list (.dic ks xs)=if ks.all fun k=>(keyOf k).isSome then some (.lst (ks.map .d))else none:=rfl
@[simp] theorem K7:iw .tuple (.lst xs)=some (.d (.tup xs)):=rfl
@[simp] theorem K8:iw .tuple (.tup xs)=some (.d (.tup xs)):=rfl
@[simp] theorem Mz:iw .int (.int i)=some (.d (.int i)):=rfl
@[simp] theorem MA:iw .all (.lst xs)=(dU xs).map fun bs=>.d (.bl (bs.all id)):=rfl
@[simp] theorem MB:iw .any (.lst xs)=(dU xs).map fun bs=>.d (.bl (bs.any id)):=rfl
@[simp] theorem K9:iw .lenset (.lst xs)=(match jQ xs with
   | some ys=>if ys.length≤4000 then some (.d (.int (met ys).length))else none
   | none=>none):=rfl
@[simp] theorem FE:Gh .min2 (.int i) (.int j)=some (.d (.int (if j < i then j else i))):=rfl
@[simp] theorem FF:Gh .max2 (.int i) (.int j)=some (.d (.int (if j > i then j else i))):=rfl
@[simp] theorem iS:qp .join [.str x,.lst xs]=(match jQ xs with
  | some ys=>if(ys.map (·.length)).sum+ys.length * x.length≤16777216 then some (.d (.str (Txt.join x ys)))else none
  | none=>none):=rfl
@[simp] theorem J2:qp .split [.str x,.str y]=if(y.length == 0)=false∧x.length+2≤sizeLine then some (.lst ((Txt.split x y).map fun x=>.d (.str x)))else none:=rfl
@[simp] theorem Ca:Bb .append (.lst os) [o]=if os.length < sizeLine then some (.d .non,.lst (os++[o]))else none:=rfl
@[simp] theorem I8 {ps:List O}:Bb .extend (.lst os) [.lst ps]=if os.length+ps.length≤sizeLine then some (.d .non,.lst (os++ps))else none:=rfl
@[simp] theorem MC:Bb .pop (.lst os) []=(match os[os.length - 1]? with
  | some y=>some (y,.lst os.dropLast)
  | none=>none):=rfl
@[simp] theorem J5:Bb .popAt (.lst os) [.d (.int i)]=(match ixN os.length i with
  | some k=>match os[k]? with
   | some y=>some (y,.lst (os.eraseIdx k))
   | none=>none
  | none=>none):=rfl
@[simp] theorem J9:dA (.tup os) (.int i)=(match ixN os.length i with
 | some j=>(match os[j]? with
  | some y=>some (y,fun z=>.tup (os.set j z))
  | none=>none)
 | none=>none):=rfl
@[simp] theorem Eg:dA (.lst os) (.int i)=(match ixN os.length i with
   | some j=>match os[j]? with
    | some y=>some (y,fun z:O=>O.lst (os.set j z))
    | none=>none
   | none=>none):=rfl
@[simp] theorem Ka:dA (.dic ks os) v=(if aZ v ks then(match dM v ks with
   | some j=>match os[j]? with
    | some y=>some (y,fun z:O=>O.dic ks (os.set j z))
    | none=>none
   | none=>none)else none):=rfl
@[simp] theorem Kb {C':Nat}{f:Str}:dA (.obj C ns os) (.exc C' [.str f,.non])=(if C'=C then(match qe f ns with
   | some j=>match os[j]? with
    | some y=>some (y,fun z:O=>O.obj C ns (os.set j z))
    | none=>none
   | none=>none)else none):=rfl
@[simp] theorem La:qR (.dic ks os) v o=if aZ v ks&&decide (ks.length < sizeLine)then some (.dic (putD v o ks os).1 (putD v o ks os).2)else none:=rfl
@[simp] theorem Lb:qR (.lst os) (.int i) o=(ixN os.length i).map fun j=>.lst (os.set j o):=rfl
@[simp] theorem MD {k:D}{p:O}:iy k p (o::os)=aJ o k p::os.map O.shal:=rfl
@[simp] theorem I9 {k:D}:aJ o k (.d (.int i))=o:=rfl
@[simp] theorem Ja {k:D}:aJ o k (.d (.str x))=o:=rfl
@[simp] theorem Jb {k:D}:aJ o k (.d .non)=o:=rfl
@[simp] theorem Kc {k:D}:aJ o k (.d (.bl b))=o:=rfl
theorem pf {k:D} (h:yR u=false):aJ o k (.d u)=(match dA o k with
 | some (y,g)=>g (.d y.frz)
 | none=>o.shal):=by
 unfold aJ
 rw [show yS (.d u)=yR u from rfl,h]
 rfl
@[simp] theorem Jc {k:D}:aJ o k (.d (.tup xs))=(match dA o k with
 | some (y,g)=>g (.d y.frz)
 | none=>o.shal):=pf rfl
@[simp] theorem Jd {k:D}:aJ o k (.d (.lst xs))=(match dA o k with
 | some (y,g)=>g (.d y.frz)
 | none=>o.shal):=pf rfl
@[simp] theorem Je {k:D}:aJ o k (.d (.dic ks xs))=(match dA o k with
 | some (y,g)=>g (.d y.frz)
 | none=>o.shal):=pf rfl
@[simp] theorem Cb {k:D}:dA (.d u) k=none:=rfl
@[simp] theorem ME {C':Nat}{f:Str}:Iv C f [.obj C' ns xs]=if C'=C then(uQ f ns xs).map .d else none:=rfl
@[simp] theorem Lc {C:Nat}{cs:List Nat}{ts:List v5}:fQ cs ts [.lst xs]=some (.d (.bl (ts.any (jC (.lst xs))))):=rfl
@[simp] theorem Ld {cs:List Nat}{ts:List v5}:fQ cs ts [.tup xs]=some (.d (.bl (ts.any (jC (.tup xs))))):=rfl
@[simp] theorem Le {cs:List Nat}{ts:List v5}:fQ cs ts [.str x]=some (.d (.bl (ts.any (jC (.str x))))):=rfl
@[simp] theorem Lf {cs:List Nat}{ts:List v5}:fQ cs ts [.non]=some (.d (.bl (ts.any (jC .non)))):=rfl
@[simp] theorem Lg {cs:List Nat}{ts:List v5}:fQ cs ts [.int i]=some (.d (.bl (ts.any (jC (.int i))))):=rfl
@[simp] theorem Lh {cs:List Nat}{ts:List v5}:fQ cs ts [.obj C ns xs]=if C∈cs∧20≤C then some (.d (.bl (ts.any (jC (.obj C ns xs)))))else none:=rfl
@[simp] theorem M8:jP (.lst xs)=some xs:=rfl
@[simp] theorem M9:jP (.tup xs)=some xs:=rfl
@[simp] theorem Na:jP (.str x)=if x.length≤sizeLine then some (x.cps.toList.map fun c=>.str ⟨#[c]⟩)else none:=rfl
@[simp] theorem Li {C':Nat}:Bf C (.obj C' ns xs)=if C'=C then some ()else none:=rfl
@[simp] theorem Lj {C':Nat}{f:Str}:DF C f (.obj C' ns xs)=if C'=C∧f∉ns then some ()else none:=rfl
@[simp] theorem Lk {C':Nat}{f:Str}:DD C f o (.obj C' ns os)=if C'=C∧ns.length < 1000 then some (.obj C' (wq f o ns os).1 (wq f o ns os).2)else none:=rfl
@[simp] theorem lz {n:Int}:IC (.d (.int n))=if 0≤n∧n < 2 ^ 63 then some (.d (.int n))else none:=rfl
@[simp] theorem Ll {neg:Bool}:Gj neg (.d (.bl b))=some (.d (.bl (if neg then ! b else b))):=rfl
@[simp] theorem Lm {as:List Arg}:arr as []=some []:=rfl
@[simp] theorem Ln {as:List Arg}{n:Nat}{r:List (Nat ⊕ D)}:arr as (.inl n::r)=(match as[n]?,arr as r with
  | some a,some l=>some (a::l)
  | _,_=>none):=rfl
@[simp] theorem Lo {as:List Arg}{d:D}{r:List (Nat ⊕ D)}:arr as (.inr d::r)=(arr as r).map (.val (.d d) :: ·):=rfl
@[simp] theorem Lp:KJ 1 = [.inl 0]:=rfl
@[simp] theorem Lq:KJ 2 = [.inl 0,.inl 1]:=rfl
@[simp] theorem Lr:KJ 3 = [.inl 0,.inl 1,.inl 2]:=rfl
@[simp] theorem Ls:wa.allD []=some []:=rfl
@[simp] theorem Lu:wa.allD (.d u::os)=(wa.allD os).map (u :: ·):=rfl
@[simp] theorem Lv {ps:List O}:wa.allD (.lst ps::os)=none:=rfl
@[simp] theorem Lw {ps:List O}:wa.allD (.dic ks ps::os)=none:=rfl
@[simp] theorem Lx {ps:List O}:wa.allD (.obj C ns ps::os)=none:=rfl
theorem jX:D.eqd (.int i) (.int j)=(i == j):=by rw [D.eqd]
end
end PV
namespace PV
open PySem PySem.Spec PyProof.Rows L2
section
variable {X:Cx}{pins:List (Addr×Obj)}{σ:L2.St}{H:Hp}{s:Shared}
theorem _root_.L2.Inv.track {a:Addr}{oe:Obj}{o:HO} (I:Inv X pins σ H s) (hex:X.ex = []) (ha:s.heap.get? a=some oe) (hd:∃ vs,oe.data = .fields vs) (n0:X.s_0.heap.get? a=none) (na:H a=none) (np:∀ p∈X.pn++pins,p.1≠a) (nL:a≠X.env.locals)
  (new:ObjOk X.prog X.w (upd H a o) s.heap a o):Inv X pins σ (upd H a o) s:=by
 have ne0:∀ b o,X.s_0.heap.get? b=some o→b≠a:=fun b o e z=>by rw [z,n0]at e; cases e
 refine⟨I.ok,I.os,I.bare,⟨I.base.keep,I.base.slot,fun b o e n hx=>?_,I.base.there,fun b xs e=>?_,fun b o u e=>?_,fun b ps e=>?_⟩,I.loc,I.cell,?_,fun x c e=>?_,fun p hp=>?_,I.hok.laidN (fun _ _ z=>z) na new,I.len⟩
 ·rw [upd_ne (ne0 b o e)]
  exact I.base.free b o e n hx
 ·have q:=I.base.tups b xs e
  rw [upd_ne (ne_of_none q na)]
  exact q
 ·have q:=I.base.frzs b o u e
  rw [upd_ne (ne_of_none q na)]
  exact q
 ·obtain⟨m,q⟩:=I.base.tbls b ps e
  exact⟨m,by rw [upd_ne (ne_of_none q na)]; exact q⟩
 ·rw [upd_ne (Ne.symm nL)]
  exact I.free
 ·rw [upd_ne]
  ·exact I.freeC x c e
  ·rintro rfl
   obtain⟨v,o,e1,e2⟩:=I.cell x _ e
   obtain⟨vs,e3⟩:=hd
   rw [ha]at e1
   cases e1
   rw [e3]at e2
   cases e2
 ·obtain⟨q1,q2,q3⟩:=I.pin p hp
  exact⟨q1,by rw [upd_ne (np p hp)]; exact q2,q3⟩
theorem Hf {P:Program}{w:World}{h:Heap}{a C:Addr}{d:Option Addr}{oe:Obj} (e:h.get? a=some oe) (z:Zc (.ref C) d oe) (hd:∃ vs,oe.data = .fields vs):ObjOk P w H h a (vZ a C d) :=
 ⟨⟨oe,e,z.1,z.2,hd⟩,⟨oe,e⟩,fun _ _ ⟨o,q,r⟩ k=>⟨o,k o q,r⟩⟩
end
def FG (K:PySem.W.Frag) (c:Value) (i j:Nat) (Wout:WX) (D:Ends):WX:=fun cls d σ H =>
 ∃ C,cls = .ref C∧PySem.W.exmOne K cls c=some true∧∀ a,H a=none→D.nx (((σ.set i (some (.ref a))).set j (some (.ref a))).set i none) (upd H a (vZ a C d))
section
variable {X:Cx}{x n y:Str}{c:Value}{i j:Nat}{body:List Stmt}{np p1 p2 p3 pos pos':Pos}{tb:WX→TS}{Wout:WX}
theorem xg (hs:X.stack=X.env::X.outer) (hf:X.env.frame=some X.env.locals) (hex:X.ex = []) (hN:X.N.Nodup) (hi:X.N[i]?=some n) (hj:X.N[j]?=some y) (hln:X.env.kindOf n=some .local)
  (hd:(n == ("__debug__" : Str))=false) (hdc:(n == ("__classdict__" : Str))=false) (hly:Loc X.env.scope y) (hfy:X.fn y=true∨X.env.scope.names.lookup y=some .local) (hc:Names X x c) (tk:Takes X Wout)
  (hb:∀ (W:WX) (pn:List (Addr×Obj)) (xe:Value→Shared→Prop),Takes (X.tr pn xe) W→PassesOwn (model X.prog X.w) X.A X.env xe→PSs (X.tr pn xe) body (tb W))
  (hsw:swapsWithSole [.Name y p1] (.Name n p2) p3.line X.env=pure false) (hst:swappedStores [.Name y p1] (.Name n p2) X.env=pure none) (ha1:(assignEach [.Name y p1] X.env).map (·.2) = [assign (.Name y p1) X.env]) :
  PS X (.Try body [.ExceptHandler (some (.Name x np)) (some n) [.Assign [.Name y p1] (.Name n p2) p3] pos'] [] [] pos) (fun D σ H=>tb (FG X.K c i j Wout D) D σ H):=by
 refine⟨fun pins s σ H D I h=>?_⟩
 have ok:=I.ok
 have hfr:X.A.frames=some (X.env::X.outer):=by rw [ok.frames,hs]
 have hloc:Loc X.env.scope n:=.inl hln
 refine wpAny_Try_except ?_
 refine wpAny_mono ((hb (FG X.K c i j Wout D) (X.pn++pins) (fun e s₁=>wpAny (model X.prog X.w) X.A (noteFrame e X.env) (fun _ s₂=>wpAny (model X.prog X.w) X.A (setFlight e none) (fun _ s₃ =>
  wpAny (model X.prog X.w) X.A (handleBy e X.env [.ExceptHandler (some (.Name x np)) (some n) [.Assign [.Name y p1] (.Name n p2) p3] pos']) (SP X pins D) X.xe s₃) X.xe s₂) X.xe s₁) (fun u s' xx=>?_) PassesOwn.looking).run [] s σ H D (I.toTry _) h) (fun f s1 hsp=>?_) (fun e s1 he=>he)
 ·obtain⟨a,B,sI,pins',σ',H',cls,d,rfl,J',nb,up,sky,na,os,ag,C,rfl,hb1,hyes⟩:=xx
  have J:Inv X pins σ' H' sI:=J'.ofTry ok
  have sky':Sky B (X.env::X.outer) a (Zc (.ref C) d) X.env.locals s'.heap:=by rw [← hs]; exact sky
  show wpAny (model X.prog X.w) X.A (noteFrame (.ref a) X.env) _ _ _
  refine Sky.land Zc.steady hfr hf sky' fun h3 fl3 up3=>?_
  have J3:Inv X pins σ' H' {s' with heap:=h3}:=J.landed nb fl3.1 (up.trans up3) os ag
  obtain⟨oe3,vs3,he3,hz3,hd3⟩:=fl3.there
  have notFr:∀ {h:Heap}{o:Obj}{vs:Array Value},h.FunFrames B (X.env::X.outer)→h.get? a=some o→o.data = .fields vs→a∉frs (X.env::X.outer):=fun {h o vs} ff e dd hm=>by
   obtain⟨_,o',e',hnf⟩:=ff.mem hm
   rw [e]at e'; cases e'
   exact hnf _ dd
  have nfr:=notFr fl3.2.2.1 he3 hd3
  have nL:a≠X.env.locals:=fun z=>nfr (List.mem_filterMap.mpr ⟨X.env,List.mem_cons_self,by rw [hf,z]⟩)
  have nF:a∉X.fs:=fun hm=>by
   obtain⟨e,he,q⟩:=List.mem_filterMap.mp hm
   exact nfr (List.mem_filterMap.mpr ⟨e,List.mem_cons_of_mem _ he,q⟩)
  have nI:sI.heap.get? a=none:=by
   cases e:sI.heap.get? a with
   | none=>rfl
   | some o =>
    have q:=nb a o e (by rw [hs]; exact nfr)
    rw [fl3.2.1]at q
    cases q
  have n0:X.s_0.heap.get? a=none:=by
   cases e:X.s_0.heap.get? a with
   | none=>rfl
   | some o =>
    obtain⟨o',q⟩:=J.base.there a o e (by rw [hex]; exact fun z=>nomatch z)
    rw [nI]at q
    cases q
  have npn:∀ p∈X.pn++pins,p.1≠a:=fun p hp z=>by
   have q:=(J.pin p hp).1
   rw [z,nI]at q
   cases q
  have S3:=J3.suite he3 hd3 na nL nF
  refine wpAny_handleBy_cons (codeAny_handlers_test ?_) (by intro q; cases q)
  have LT:PySem.W.Looks (model X.prog X.w) h3 (typeOf (.ref a)) (.ref C):=fun A Q E s k q=>wpAny_typeOf_ref (k _ _ he3) (by rw [hz3.1]; exact q)
  have LM:=PySem.W.exm_one (M:=model X.prog X.w) (J3.kIn) LT hb1
  have test:∀ {Q:Value→Shared→Prop}{E:Value→Shared→Prop},Q c {s' with heap:=h3}→wpAny (model X.prog X.w) (X.A.mark (some (.ref a))) (eval (.Name x np) X.env) Q E {s' with heap:=h3}:=fun {Q E} q=>by
   obtain⟨hg,hdbg,hm | ⟨hm,hv,hnn⟩⟩:=hc
   ·exact ld_glob (X:=X.suite a ((a,oe3)::(X.pn++pins))) S3 hg hm q hdbg
   ·exact ld_blt (X:=X.suite a ((a,oe3)::(X.pn++pins))) S3 hg hm hv q hnn hdbg
  refine test (LM.here ?_)
  refine codeAny_handlers_suite_as ?_
  refine HandSPX.lands_againZ fl3 fun h4 fl4 up4=>?_
  have J4:Inv X pins σ' H' {s' with heap:=h4}:=J.landed nb fl4.1 ((up.trans up3).trans up4) os ag
  obtain⟨oe4,vs4,he4,hz4,hd4⟩:=fl4.there
  have S4:=J4.suite he4 hd4 na nL nF
  refine store_ok (X:=X.suite a ((a,oe4)::(X.pn++pins))) (v:=.ref a) S4 hN hi hloc rfl (fun s5 S5=>?_) (.inr hln)
  have hsu:PSs (X.suite a ((a,oe4)::(X.pn++pins))) [.Assign [.Name y p1] (.Name n p2) p3] _:=pss_one (ps_asg (pe_var hi (.inl hln) hd hdc) (pg_name hN hj hly hfy) hsw hst ha1)
  have hlen:i < σ'.length:=by
   rw [J.len]
   exact(List.getElem?_eq_some_iff.mp hi).1
  refine wpAny_mono (hsu.run [] s5 _ H' {nx:=fun σ6 H6=>σ6=(σ'.set i (some (.ref a))).set j (some (.ref a))∧H6=H',rt:=fun _ _=>False,bk:=fun _ _=>False,ct:=fun _ _=>False} S5 ⟨.ref a,List.getElem?_set_self hlen,rfl,rfl⟩) (fun f s6 hsp=>?_) (fun _ _ z=>False.elim z)
  cases f with
  | next =>
   obtain⟨σ6,H6,S6,rfl,rfl⟩:=hsp
   have J6:Inv X pins ((σ'.set i (some (.ref a))).set j (some (.ref a))) H6 s6:=S6.unsuite ok
   have he6:s6.heap.get? a=some oe4:=(S6.pin (a,oe4) (List.mem_append_left _ List.mem_cons_self)).1
   have J7:=J6.track (o:=vZ a C d) hex he6 ⟨_,hd4⟩ n0 na npn nL (Hf he6 hz4 ⟨_,hd4⟩)
   exact gone_ok J7 hN hi hln fun s7 J8=>⟨_,_,J8,hyes a na⟩
  | brk =>
   obtain⟨σ6,H6,S6,q6⟩:=hsp
   exact q6.elim
  | cont =>
   obtain⟨σ6,H6,S6,q6⟩:=hsp
   exact q6.elim
  | ret u =>
   obtain⟨v6,σ6,H6,S6,r6,q6⟩:=hsp
   exact q6.elim
 ·cases f with
  | next =>
   obtain⟨σ',H',J',q⟩:=hsp
   exact wpAny_execs_nil ⟨σ',H',J'.ofTry ok,q⟩
  | brk =>
   obtain⟨σ',H',J',q⟩:=hsp
   exact⟨σ',H',J'.ofTry ok,q⟩
  | cont =>
   obtain⟨σ',H',J',q⟩:=hsp
   exact⟨σ',H',J'.ofTry ok,q⟩
  | ret u =>
   obtain⟨v',σ',H',J',r,q⟩:=hsp
   exact⟨v',σ',H',J'.ofTry ok,r,q⟩
end
section
variable {T:Tab}{B:Base}{Φ:cU}{W:WX}{X:Cx}{σ:L2.St}{l m:List bf}{H:Hp}{ρ:Env}{pins:List (Addr×Obj)}{s:Shared}
theorem Hg {C:Nat}{p:List D}{d:Option Addr}{its:List bf}{a:Addr} (at_:At T B H ρ σ (its++l)) (e:tW T H C p d its) (na:H a=none):At T B (upd H a (vZ a (T.cls C) d)) ρ σ ((.d (.exc C p),.ref a)::l):=by
 have s0:=at_.sat
 have nG:=s0.notG na
 have nZ:=s0.notZ na
 have s1:Sat T B (upd H a (vZ a (T.cls C) d)) (ah ρ σ++(its++l)):=(s0.alloc na).letgo
 have hv:vw B.Z (upd H a (vZ a (T.cls C) d)) a=some (vZ a (T.cls C) d):=by rw [bx nZ,upd_same]
 have hF:∀ {k:List bf}{F:List Addr},aP T (fun b=>B.G b∨b∈([]:List Addr)++F) (vw B.Z (upd H a (vZ a (T.cls C) d))) k F→a∉F:=fun r z=>by
  obtain⟨o,e1,_,e2⟩:=aP.mut r a z
  rw [hv]at e1
  cases e1
  exact e2 _ rfl
 match p,e with
 | [],⟨e1,e2⟩ =>
  subst e1 e2
  refine⟨at_.ok,(ae.more (xs:=[.exc C []]) (vs:=[.ref a]) s1 fun F _ r=>⟨_,_,rfl,.inr ⟨a,none,[],rfl,fun z=>z.elim nG fun z=>hF r (by simpa using z),hv,rfl,rfl⟩,rfl⟩).perm ?_,at_.pr⟩
  show((O.d (.exc C []),V.ref a)::(ah ρ σ++l)).Perm _
  exact List.perm_middle.symm
 | [x],⟨dx,v,e1,e2,e3⟩ =>
  subst e1 e3
  have nd:dx≠a:=ne_of_none e2 na
  have e2':upd H a (vZ a (T.cls C) (some dx)) dx=some (.xd [(fx C,v)]):=by rw [upd_ne nd]; exact e2
  have hvd:vw B.Z (upd H a (vZ a (T.cls C) (some dx))) dx=some (.xd [(fx C,v)]):=by
   unfold vw
   rw [e2']
  have nGd:¬ B.G dx:=fun z=>by
   obtain⟨h1,h2,h3⟩:=s1.oth dx z
   cases q:B.H0 dx with
   | none=>exact h2 q
   | some o =>
    have:=s1.old dx o q h1 (s1.tx hvd trivial)
    rw [hvd]at this
    cases this
    exact h3 _ q
  have s2:Sat T B (upd H a (vZ a (T.cls C) (some dx))) ((.d x,v)::(ah ρ σ++l)):=s1.perm List.perm_middle
  have s3:Sat T B (upd H a (vZ a (T.cls C) (some dx))) ((.d (.exc C [x]),.ref a)::(.d x,v)::(ah ρ σ++l)):=ae.more (xs:=[.exc C [x]]) (vs:=[.ref a]) s2 fun F _ r=>by
   refine⟨_,_,rfl,.inr ⟨a,some dx,[v],rfl,fun z=>z.elim nG fun z=>hF r (by simpa using z),hv,⟨dx,rfl,fun z=>z.elim nGd fun z=>?_,hvd⟩,?_⟩,rfl⟩
   ·obtain⟨o,g1,g2,_⟩:=aP.mut r dx (by simpa using z)
    rw [hvd]at g1
    cases g1
    exact g2
   ·obtain⟨F1,F2,rfl,⟨g1,g2⟩,_⟩:=r
    exact⟨v,[],rfl,g2,rfl⟩
  refine⟨at_.ok,(s3.perm (List.Perm.swap _ _ _)).drop1.perm List.perm_middle.symm,at_.pr⟩
theorem rL:∀ {ρ:Env}{σ:L2.St}{i:Nat}{u:Option V},bJ ρ σ→bJ (ρ.set i none) (σ.set i u)∧ah (ρ.set i none) (σ.set i u)=ah (ρ.set i none) σ
 | [],[],i,u,h=>⟨h,rfl⟩
 | some p::ρ,some v::σ,0,u,h=>⟨h,by cases u <;> rfl⟩
 | some p::ρ,some v::σ,i+1,u,h=>by
  obtain⟨h1,h2⟩:=rL (ρ:=ρ) (σ:=σ) (i:=i) (u:=u) h
  exact⟨h1,congrArg (_ :: ·) h2⟩
 | none::ρ,s::σ,0,u,h=>⟨h,by cases s <;> cases u <;> rfl⟩
 | none::ρ,s::σ,i+1,u,h=>by
  obtain⟨h1,h2⟩:=rL (ρ:=ρ) (σ:=σ) (i:=i) (u:=u) h
  exact⟨h1,by cases s <;> exact h2⟩
 | [],_::_,i,u,h=>h.elim
 | some _::_,none::_,i,u,h=>h.elim
 | some _::_,[],i,u,h=>h.elim
 | none::_,[],i,u,h=>h.elim
theorem At.free {i:Nat}{u:Option V} (a:At T B H ρ σ l) (hp:∀ p∈B.pr,p.1≠i):At T B H (ρ.set i none) (σ.set i u) l:=by
 obtain⟨h1,h2⟩:=rL (i:=i) (u:=u) a.ok
 exact⟨h1,by rw [h2]; exact(a.clear i).sat,fun p hp'=>by rw [List.getElem?_set_ne (Ne.symm (hp p hp'))]; exact a.pr p hp'⟩
theorem At.storeA {i:Nat}{o:O}{v:V} (a:At T B H ρ σ ((o,v)::l)) (hp:∀ p∈B.pr,p.1≠i):At T B H (ρ.set i (some o)) (σ.set i (some v)) l:=by
 by_cases hi:i < ρ.length
 ·exact a.store hi hp
 ·rw [List.set_eq_of_length_le (by omega),List.set_eq_of_length_le (by rw [← a.ok.len]; omega)]
  exact a.drop
theorem Hh {cs:List Nat}{sb:List SS}{i j:Nat}{body:List Stmt}{n y:Str}{np p1 p2 p3 pos pos':Pos} (hK:X.K=T.K) (hs:X.stack=X.env::X.outer) (hf:X.env.frame=some X.env.locals) (hex:X.ex = []) (hN:X.N.Nodup) (hi:X.N[i]?=some n) (hj:X.N[j]?=some y) (hln:X.env.kindOf n=some .local)
  (hd:(n == ("__debug__" : Str))=false) (hdc:(n == ("__classdict__" : Str))=false) (hly:Loc X.env.scope y) (hfy:X.fn y=true∨X.env.scope.names.lookup y=some .local) (hpi:∀ p∈B.pr,p.1≠i) (hpj:∀ p∈B.pr,p.1≠j) (hij:i≠j)
  (hg:Gl X "TreeError") (hm:X.mg "TreeError" = some (.ref (T.cls 0))) (hx:∀ C∈cs,PySem.W.exmOne X.K (.ref (T.cls C)) (.ref (T.cls 0))=some true) (tk:Takes X W)
  (hb:∀ (W:WX) (pn:List (Addr×Obj)) (xe:Value→Shared→Prop),Takes (X.tr pn xe) W→PassesOwn (model X.prog X.w) X.A X.env xe→PSs (X.tr pn xe) body (AR T B Φ W sb))
  (hsw:swapsWithSole [.Name y p1] (.Name n p2) p3.line X.env=pure false) (hst:swappedStores [.Name y p1] (.Name n p2) X.env=pure none) (ha1:(assignEach [.Name y p1] X.env).map (·.2) = [assign (.Name y p1) X.env]) :
  PS X (.Try body [.ExceptHandler (some (.Name "TreeError" np)) (some n) [.Assign [.Name y p1] (.Name n p2) p3] pos'] [] [] pos) (tS T B Φ W (.try cs sb i j)):=by
 refine⟨fun pins s σ H D I ⟨ρ,l,at_,h⟩=>(xg (tb:=fun W=>AR T B Φ W sb) (c:=.ref (T.cls 0)) hs hf hex hN hi hj hln hd hdc hly hfy ⟨hg,by decide +kernel,.inl hm⟩ tk hb hsw hst ha1).run pins s σ H D I ⟨ρ,l,at_,?_⟩⟩
 rw [bo]at h
 have hl:ρ.length=X.N.length:=by rw [at_.ok.len,I.len]
 cases e:bC Φ sb ρ with
 | bad=>rw [e]at h; exact h
 | ok f ρ'=>rw [e]at h; cases f <;> exact h
 | exc C p ρ' =>
  rw [e,Res.caught_exc]at h
  by_cases hC:C∈cs
  ·rw [if_pos hC]at h
   have h:∀ σ H,At T B H ((ρ'.set i none).set j (some (.d (.exc C p)))) σ l→D.nx σ H:=h
   intro σ2 d H2 its a2 ex
   refine⟨_,rfl,hx C hC,fun a na=>h _ _ ?_⟩
   have a3:=Hg a2 ex na
   have a4:=a3.free (i:=i) (u:=none) hpi
   have a5:=a4.storeA (i:=j) hpj
   have es:((σ2.set i (some (V.ref a))).set j (some (V.ref a))).set i none=(σ2.set i none).set j (some (V.ref a)):=by
    rw [List.set_comm _ _ (Ne.symm hij),List.set_set]
   rw [es]
   exact a5
  ·rw [if_neg hC]at h
   exact h.elim
structure Hi (K:PySem.W.Frag) (mg:Str→Option Value) (x:Str) (C:Addr):Prop where
 g:mg x=some (.ref C)
 x:PySem.W.excIn K C [.type "ValueError",.type "Exception",.type "BaseException",.type "object"] "ValueError.__new__" = true
 k:PySem.W.keepIn K (.ref C)=true
 b:PySem.W.subIn K (.ref C) (.type "BaseException")=some true
 t:PySem.W.typeIn K (.ref C)=some (.type "type")
theorem Hj {x:Str}{C:Nat}{e:Expr}{es:List Expr}{ses:List SE}{p p2 pos:Pos} (hfl:xT C=false) (hc:X.calm=true) (tk:Takes X W) (E:Hi X.K X.mg x (T.cls C)) (hg:Gl X x) (hz:ses.length≤sizeLine) (ha:PA X (e::es) (tL T B Φ W ses)) (hdb:(x == ("__debug__" : Str))=false)
  (he:starEach (e::es) X.env=(false,eval e X.env)::starEach es X.env) (hpl:(backTo p2 (starEach es X.env)).any (·.1)=false) :
  PS X (.Raise (some (.Call (.Name x p) (e::es) [] p2)) none pos) (tS T B Φ W (.rse C ses)) :=
 (ps_raise hc tk (pmk_ownA PySem.F.excBase_ValueError E.x E.g E.k (raises_own E.b E.t) hg ha hdb he hpl)).pv fun D σ H ⟨ρ,l,at_,h⟩=>by
  rw [bo]at h
  refine⟨ρ,l,at_,h.rg.eq.mono fun os ρ1 ⟨eo,k⟩ vs H1 hl a1=>⟨by rw [← hl,oD eo]; exact hz,?_⟩⟩
  have k:RS T B W D l (.exc C (qX C os) ρ1):=k
  have ep:qX C os = []:=by
   unfold qX
   rw [hfl]
   rfl
  rw [ep]at k
  exact k σ none H1 [] a1.keepR ⟨rfl,rfl⟩
theorem Ae {C0:Addr}{mc:Value}{e:Expr}{es:List Expr}{ta:TA}{p1 p2 pos:Pos}{pl:Sem Bool} (hg:Gl X "TreeError") (hm:X.mg "TreeError" = some (.ref C0)) (r:ClX.CRead X.K C0 mc) (vV:PySem.W.findCls X.K (.ref C0) mc "__init__" = some (.val (.builtin "ValueError.__init__"))) (ha:PA X (e::es) ta)
  (hc:eval (.Call (.Attribute (.Name "TreeError" p1) "__init__" p2) (e::es) [] pos) X.env=(do
   let ov ← eval (.Name "TreeError" p1) X.env
   standAt p2.atName
   let (f,first) ← holding [ov] (getMethod ov "__init__" pl)
   callWith pos f first (backTo pos (starEach (e::es) X.env)) (backToKw pos (keywordEach [] X.env))):=by rfl)
  (he:starEach (e::es) X.env=(false,eval e X.env)::starEach es X.env:=by rfl) (hpl:(backTo pos (starEach es X.env)).any (·.1)=false:=by rfl) :
  PE X (.Call (.Attribute (.Name "TreeError" p1) "__init__" p2) (e::es) [] pos) (tVeI X.K ta):=by
 refine⟨fun pins s σ H Q I h=>?_⟩
 refine PySem.W.methodCall_KW (ld_glob I hg hm ?_ (by decide)) hc
 refine PySem.W.method_cls I.kIn r.ga (PySem.W.cls_value I.kIn r.rd vV (by decide +kernel) ?_)
 show wpAny _ _ (callWith pos (Value.builtin "ValueError.__init__") [] (backTo pos (starEach (e::es) X.env)) []) _ _ _
 refine PyProof.Rows.callWith_method1 (thn (ha.run pos pins _ σ H _ (I.tok _) h) fun us s1 ⟨vs,H1,I1,r1,a,C,ws,ev,hl,T,ea,q⟩=>?_) he hpl
 subst ev
 cases r1 with
 | @cons _ u0 _ ur ra rw' =>
  obtain rfl:u0=Value.ref a:=ra
  have hlen:ur.length≤sizeLine:=by
   rw [← Paired.length rw',sizeLine_eq]
   omega
  exact oinit_ok T I1 ea hlen fun s' J=>⟨.non,H1,J,rfl,q⟩
def zu (C:Addr) (f:Str):Sp:=fun vs H Q _=>∃ a v,vs = [.ref a,v]∧H a=some (exo a C none)∧∀ d,H d=none→d≠a→Q .non (upd (upd H d (exd d [(f,v)])) a (exo a C (some d)))
end
structure Eh (P:Program) (w:World) (K:PySem.W.Frag) (mg:Str→Option Value) (base:Heap) (x:Str) (C:Addr) (fld:Str):Prop where
 T:OexC K C
 g:mg x=some (.ref C)
 fn:∃ fI fd p,PySem.W.findIn K (.ref C) "__init__" = some (some (.ref fI))∧PySem.W.typeIn K (.ref fI)=some (.type "function")∧FnOk P w K mg base (L2.CX P w) 1 fI fd ["self",p] (zu C fld)∧Binds K fd ["self",p] []
section
variable {T:Tab}{B:Base}{Φ:cU}{W:WX}{X:Cx}{σ:L2.St}{l m:List bf}{H:Hp}{ρ:Env}{pins:List (Addr×Obj)}{s:Shared}
theorem vn {x:Str}{C lv:Nat}{e:Expr}{se:SE}{p p2 pos:Pos} (hfl:xT C=true) (hc:X.calm=true) (tk:Takes X W) (E:Eh X.prog X.w X.K X.mg X.base x (T.cls C) (fx C)) (hg:Gl X x) (hr:Room lv X.A) (hlv:2≤lv) (ha:PA X [e] (tL T B Φ W [se])) (hdb:(x == ("__debug__" : Str))=false)
  (he:starEach [e] X.env=(false,eval e X.env)::starEach [] X.env) (hpl:(backTo p2 (starEach [] X.env)).any (·.1)=false) :
  PS X (.Raise (some (.Call (.Name x p) [e] [] p2)) none pos) (tS T B Φ W (.rse C [se])):=by
 obtain⟨fI,fd,pn,i1,i2,i3,i4⟩:=E.fn
 refine(ps_raise hc tk (pmk_oex (dvs:=[]) (ds:=[]) E.T i1 i2 i3 (hr.mono hlv) i4 .nil (passes_call tk fun _ _ _ _ z=>z.elim) hg E.g ha hdb he hpl)).pv fun D σ H ⟨ρ,l,at_,h⟩=>?_
 rw [bo]at h
 refine⟨ρ,l,at_,h.rg.eq.mono fun os ρ1 ⟨eo,k⟩ vs H1 hl a1=>?_⟩
 have hlo:=oD eo
 match os,hlo,vs,hl with
 | [o],_,[v],_ =>
  have k:RS T B W D l (.exc C (qX C [o]) ρ1):=k
  have ep:qX C [o] = [o.frz]:=by
   unfold qX
   rw [hfl]
   rfl
  rw [ep]at k
  refine⟨by simp,fun a na=>⟨a,v,rfl,upd_same,fun d nd ne=>⟨rfl,d,[(fx C,v)],upd_same,?_,?_,?_⟩⟩⟩
  ·rw [upd_ne ne,upd_same]
  ·rw [upd_ne ne]at nd
   exact nd
  ·rw [upd_ne ne]at nd
   have eh:upd (L2.del (upd (upd (upd H1 a (exo a (T.cls C) none)) d (exd d [(fx C,v)])) a (exo a (T.cls C) (some d))) a) d (.xd [(fx C,v)])=upd H1 d (.xd [(fx C,v)]):=by
    funext b
    by_cases hb:b=d
    ·rw [hb,upd_same,upd_same]
    ·rw [upd_ne hb,upd_ne hb]
     by_cases hba:b=a
     ·rw [hba,del_same,na]
     ·rw [del_ne hba,upd_ne hba,upd_ne hb,upd_ne hba]
   rw [eh]
   have a2:At T B (upd H1 d (.xd [(fx C,v)])) ρ1 σ ([(.d o.frz,v)]++l):=by
    have s1:Sat T B H1 ((o,v)::(ah ρ1 σ++l)):=a1.sat.perm List.perm_middle
    have s2:Sat T B H1 ((.d o.frz,v)::(ah ρ1 σ++l)):=s1.freeze
    exact⟨a1.ok,((s2.alloc nd).letgo).perm List.perm_middle.symm,a1.pr⟩
   exact k σ (some d) _ [(.d o.frz,v)] a2 ⟨d,v,rfl,upd_same,rfl⟩
end
end PV
namespace PV
open PySem PySem.Spec PyProof.Rows L2
open He (ga ma ba eqO eqO_ok)
theorem Ei {K:ku}{h:Heap}{mg:Str→Option Value}{x:Str} (X:K.In h) (G:h.Ns mainGlobals mg) (c:Ik x K=true):Hi K mg x (ga K x):=by
 obtain⟨h1,c⟩:=ba c
 obtain⟨h2,c⟩:=ba c
 obtain⟨h3,c⟩:=ba c
 obtain⟨h4,h5⟩:=ba c
 exact⟨He.glo_ok X G h1,h2,h3,of_decide_eq_true h4,of_decide_eq_true h5⟩
theorem Ej {tbs:List (Addr×Str)}{nm:Nat→Str}{cs:List Nat}{K:ku} (h:Il nm cs K=true):∀ C∈cs,PySem.W.exmOne K (.ref ((D8 nm tbs K).cls C)) (.ref ((D8 nm tbs K).cls 0))=some true:=fun C hC=>of_decide_eq_true (List.all_eq_true.mp h C hC)
theorem zv {K:ku}{x:Str} (c:Im x K=true):OexC K (ga K x):=by
 obtain⟨h1,c⟩:=ba c
 obtain⟨h2,c⟩:=ba c
 obtain⟨h3,c⟩:=ba c
 obtain⟨h4,h5⟩:=ba c
 refine⟨?_,eqO_ok h2,of_decide_eq_true h3,of_decide_eq_true h4,h5⟩
 split at h1
 ·rename_i dd cd sl ho
  split at h1
  ·rename_i C' bm k0 k1 k2 k3 n k5 hm hs
   simp only [Bool.and_eq_true,beq_iff_eq,Bool.not_eq_true']at h1
   obtain⟨rfl,rfl,hdel,ht,hhd⟩:=h1
   obtain⟨nm,bs,mro,ns,qn,hd,sn,sub,ab,col,del⟩:=cd
   dsimp only at hm hdel hhd
   subst hm hdel hhd
   have hsl:sl = #[k0,k1,k2,k3,some (.builtin "ValueError.__new__"),k5]:=by
    obtain⟨l⟩:=sl
    simp only at hs
    rw [hs]
   subst hsl
   exact⟨_,_,_,_,_,_,_,_,_,_,_,_,_,_,_,ho,ht⟩
  ·cases h1
 ·cases h1
theorem xh {P:Program}{w:World}{base:Heap}{K:ku}{h:Heap}{mg:Str→Option Value}{x f p:Str}{fd:FuncData} (X:K.In h) (G:h.Ns mainGlobals mg) (c:AV x f K=true) (F:FnOk P w K mg base (L2.CX P w) 1 (ma K (ga K x) "__init__") fd ["self",p] (zu (ga K x) f)) (b:Binds K fd ["self",p] []):Eh P w K mg base x (ga K x) f:=by
 obtain⟨h1,c⟩:=ba c
 obtain⟨h2,c⟩:=ba c
 obtain⟨h3,c⟩:=ba c
 obtain⟨h4,h5⟩:=ba c
 exact⟨zv h1,He.glo_ok X G h2,_,fd,p,eqO_ok h4,of_decide_eq_true h5,F,b⟩
theorem Ek {K:ku}{x f:Str} (c:AV x f K=true):OexC K (ga K x)∧PySem.W.findIn K (.ref (ga K x)) f=some none:=by
 obtain⟨h1,c⟩:=ba c
 obtain⟨h2,c⟩:=ba c
 obtain⟨h3,c⟩:=ba c
 exact⟨zv h1,eqO_ok h3⟩
structure MF (K:PySem.W.Frag) (mg:Str→Option Value) (C0:Addr):Prop where
 g:mg "TreeError" = some (.ref C0)
 r:ClX.CRead K C0 (.type "type")
 v:PySem.W.findCls K (.ref C0) (.type "type") "__init__" = some (.val (.builtin "ValueError.__init__"))
theorem El {K:ku}{h:Heap}{mg:Str→Option Value} (X:K.In h) (G:h.Ns mainGlobals mg) (c:Io K=true):MF K mg (ga K "TreeError"):=by
 obtain⟨h1,c⟩:=ba c
 obtain⟨h2,c⟩:=ba c
 obtain⟨h3,h4⟩:=ba c
 refine⟨He.glo_ok X G h1,⟨h2,eqO_ok h3⟩,?_⟩
 split at h4
 ·rename_i n e
  rw [beq_iff_eq]at h4
  rw [e,h4]
 ·cases h4
end PV
namespace PV
open PySem L2
section
variable {i j:Int}{x y z:Str}{xs ys ks:List D}{u v:D}{b:Bool}{C:Nat}{cs:List Nat}{ts:List v5}{p:List D}{ns:List Str}
@[simp] theorem MG:Iu [.lst xs]=some (.lst (xs.reverse.map .d)):=rfl
@[simp] theorem Ly:fQ cs ts [.bl b]=some (.d (.bl (ts.any (jC (.bl b))))):=rfl
@[simp] theorem Lz:fQ cs ts [.dic ks xs]=some (.d (.bl (ts.any (jC (.dic ks xs))))):=rfl
@[simp] theorem LA:fQ cs ts [.exc C p]=if C∈cs∧C < 20∧p.length≠3 then some (.d (.bl (ts.any (jC (.exc C p)))))else none:=rfl
@[simp] theorem Kd:aB .is (.tup xs) .non=some false:=rfl
@[simp] theorem Ke:aB .is (.lst xs) .non=some false:=rfl
@[simp] theorem Kf:aB .is (.bl b) .non=some false:=rfl
@[simp] theorem Kg:aB .is (.int i) .non=some false:=rfl
@[simp] theorem Kh:aB .is (.dic ks xs) .non=some false:=rfl
@[simp] theorem Ki:aB .is (.obj C ns xs) .non=some false:=rfl
@[simp] theorem Kj:aB .is (.exc C p) .non=some false:=rfl
@[simp] theorem Jf:aB .isnot .non .non=some false:=rfl
@[simp] theorem Jg:aB .isnot (.str x) .non=some true:=rfl
@[simp] theorem Jh:aB .isnot (.tup xs) .non=some true:=rfl
@[simp] theorem Ji:aB .isnot (.lst xs) .non=some true:=rfl
@[simp] theorem Jj:aB .isnot (.bl b) .non=some true:=rfl
@[simp] theorem Jk:aB .isnot (.int i) .non=some true:=rfl
@[simp] theorem Jl:aB .isnot (.dic ks xs) .non=some true:=rfl
@[simp] theorem Jm:aB .isnot (.obj C ns xs) .non=some true:=rfl
@[simp] theorem Jn:aB .isnot (.exc C p) .non=some true:=rfl
@[simp] theorem MH:atI [u,v] 0=some u:=atI_nat (j:=0) rfl
@[simp] theorem MI:atI [u,v] 1=some v:=atI_nat (j:=1) rfl
@[simp] theorem Nb {k:D}{p:O}:aJ (.d u) k p = .d u:=by
 unfold aJ
 split
 ·rfl
 ·split
  ·rename_i e
   rw [Cb]at e
   cases e
  ·rfl
end
end PV
namespace PV
open PySem PySem.Spec PyProof.Rows L2
section
variable (P:Program) (w:World) (K:PySem.W.Frag) (mg:Str→Option Value) (base:Heap) (T:Tab)
structure vo (x:Str) (k:Nat) (run:List O→bA) (n:Nat) (ks:List Str) (g:List (Nat ⊕ D)):Prop where
 ex:∃ f fd ps dv,FnOk P w K mg base (L2.CX P w) k f fd ps (bI T run)∧mg x=some (.ref f)∧PySem.W.keepIn K (.ref f)=true∧wQ K fd ps n ks g dv∧∀ d,.inr d∈g→∀ own hp,Dr T own hp d (dv d)
end
section
variable {T:Tab}{B:Base}{Φ:cU}{W:WX}{X:Cx}{σ:L2.St}{l m:List bf}{H:Hp}{ρ:Env}{k fi n lv:Nat}{f:Addr}{fd:FuncData}{ps ks:List Str}{run:List O→bA}{g:List (Nat ⊕ D)}{dv:D→V}{x:Str}{p pos apos:Pos}{e o:Expr}{es:List Expr}{kws:List Keyword}{sp sk:List SE}{sa sb:SE}{C:Nat}
theorem zw (F:vo X.prog X.w X.K X.mg X.base T x k run sp.length ks g) (hΦ:(Φ fi).run=run) (hr:Room lv X.A) (hl:k≤lv) (hlen:sk.length=ks.length) (hg:Gl X x) (tk:Takes X W) (hp:PA X es (sY T B Φ W sp)) (hkw:PK X kws (sY T B Φ W sk)) (h0:es = []→sp = []) (h1:vf X es)
  (hall:(backToKw pos (keywordEach kws X.env)).all (·.1.isSome)=true) (hks:(backToKw pos (keywordEach kws X.env)).filterMap (·.1)=ks) (hpl:((backTo pos (starEach es X.env)).any (·.1)||(backToKw pos (keywordEach kws X.env)).any (·.1.isNone))=false)
  (hdb:(x == ("__debug__" : Str))=false):PE X (.Call (.Name x p) es kws pos) (tE T B Φ W (.callp fi (sp++sk) g)):=by
 obtain⟨f,fd,ps,dv,F,hm,hk,hb,hd⟩:=F.ex
 exact DY F (n:=(Φ fi).lvl) (by rw [← hΦ]) (hr.mono hl) hb hd hlen hg hm hk tk hp hkw h0 h1 hall hks hpl hdb
end
end PV
namespace PV
open PySem PySem.Spec PyProof.Rows L2
section
variable {T:Tab}{B:Base}{Φ:cU}{W:WX}{X:Cx}{σ:L2.St}{l m:List bf}{H:Hp}{ρ:Env}
def Nc (T:Tab) (B:Base) (i j:Nat):TG:=fun w σ H Q=>∃ (v:O) (ρ ρ':Env) (l:List bf),At T B H ρ σ ((v,w)::l)∧setAt i j v ρ=some ρ'∧i≠j∧∀ H',At T B H' ρ' σ l→Q σ H'
theorem Nd {i j:Nat}{x y:Str}{p1 p2 pos:Pos} (hu:X.A.units+1 < cLine) (hi:X.N[i]?=some x) (hvx:Vis X.env.scope x) (hdx:(x == ("__debug__" : Str))=false) (hcx:(x == ("__classdict__" : Str))=false) (hj:X.N[j]?=some y) (hvy:Vis X.env.scope y) (hdy:(y == ("__debug__" : Str))=false) (hcy:(y == ("__classdict__" : Str))=false)
  (ha:∀ v,assign (.Subscript (.Name x p1) (.Name y p2) pos) X.env v=(do
   let ov ← holding [v] (eval (.Name x p1) X.env)
   let iv ← holding [v,ov] (eval (.Name y p2) X.env)
   standAt pos
   holding [v,ov,iv] (setItem ov iv v)
   release [v,ov,iv] [])):PG X (.Subscript (.Name x p1) (.Name y p2) pos) (Nc T B i j) :=
 (pg_sub (pe_var hi hvx hdx hcx) (pe_var hj hvy hdy hcy) (BP (T:=T) hu) ha).pv fun pins s w σ H Q I ⟨v,ρ,ρ',l,a,e,hij,q⟩=>by
  unfold setAt at e
  split at e
  ·rename_i o k e1 e2
   obtain⟨o',es,er⟩:=Option.map_eq_some_iff.mp e
   subst er
   obtain⟨xv,ex⟩:=a.ok.at e1
   obtain⟨yv,ey⟩:=a.ok.at e2
   refine⟨xv,ex,yv,ey,?_⟩
   have a1:=a.take e1 ex
   have e2':ax (ρ.set i none) j=some (.d k):=by
    unfold ax at e2 ⊢
    rw [List.getElem?_set_ne hij]
    exact e2
   have a2:=a1.take e2' ey
   have hjl:=mL e2'
   have hil:=mL e1
   have s3:Sat T B H ((.d k,yv)::(.d k,yv)::(ah ((ρ.set i none).set j none) σ++((o,xv)::(v,w)::l))):=(a2.sat.perm List.perm_middle).dup
   have a3:At T B H ((ρ.set i none).set j none) σ ((.d k,yv)::(.d k,yv)::(o,xv)::(v,w)::l):=⟨a2.ok,s3.perm ((List.perm_middle.symm.cons _).trans List.perm_middle.symm),a2.pr⟩
   have a4:=a3.fill (i:=j) (by unfold ax; rw [List.getElem?_set_self hjl]; rfl) (by simpa using hjl) ey
   rw [List.set_set]at a4
   have er:(ρ.set i none).set j (some (.d k))=ρ.set i none:=by
    apply List.ext_getElem?
    intro z
    by_cases hz:z=j
    ·subst hz
     rw [List.getElem?_set_self hjl]
     unfold ax at e2'
     cases q:(ρ.set i none)[z]? with
     | none=>rw [q]at e2'; cases e2'
     | some u=>rw [q]at e2'; cases u with
      | none=>cases e2'
      | some u=>cases e2'; rfl
    ·rw [List.getElem?_set_ne (Ne.symm hz)]
   rw [er]at a4
   refine⟨B,o,.d k,v,ah (ρ.set i none) σ++l,[],o',a4.sat.perm ?_,by rw [gY]; exact es,fun H' _ s'=>?_⟩
   ·have p1:(ah (ρ.set i none) σ++((O.d k,yv)::(o,xv)::(v,w)::l)).Perm ((O.d k,yv)::(o,xv)::(v,w)::(ah (ρ.set i none) σ++l)):=List.perm_middle.trans ((List.perm_middle.trans (List.perm_middle.cons _)).cons _)
    exact p1.trans (List.Perm.swap _ _ _)
   ·have a6:At T B H' (ρ.set i none) σ ((o',xv)::l):=⟨a1.ok,s'.perm List.perm_middle.symm,a1.pr⟩
    have t:=a6.fill (i:=i) (by unfold ax; rw [List.getElem?_set_self hil]; rfl) (by simpa using hil) ex
    rw [List.set_set]at t
    exact q H' t
  ·cases e
end
end PV
namespace PV
open PySem PySem.Spec PyProof.Rows L2
def Dz (C:Nat) (f:Str) (as:List D):Option O:=match as with
 | [.exc C' [d]]=>if C'=C∧f=fx C then some (.d d)else none
 | _=>none
def LC (C:Addr) (f:Str) (te:TE):TE:=fun σ H Q=>te σ H fun x H1=>∃ (a dd:Addr) (fs:List (Str×V)) (v:V),x = .ref a∧H1 a=some (vZ a C (some dd))∧H1 dd=some (.xd fs)∧fs.lookup f=some v∧Q v H1
theorem Hk {X:Cx}{C:Addr}{e:Expr}{te:TE}{pos:Pos}{f:Str} (T:XfC X.K C) (hno:PySem.W.findIn X.K (.ref C) f=some none) (he:PE X e te) (hb:attributeBase e f X.env (eval e X.env)=eval e X.env):PE X (.Attribute e f pos) (LC C f te):=by
 constructor
 intro pins s σ H Q I h
 refine attr_of hb (thn (he.run pins s σ H _ I h) ?_)
 rintro u s1 ⟨x,H1,I1,rx,a,dd,fs,v,ex,ea,ed,lk,q⟩
 subst ex
 cases (show u=Value.ref a from rx)
 obtain⟨oe,g1,g2,g3,vs,g4⟩:=(I1.hok a _ ea).1
 obtain⟨mA,hns,hr⟩:=(show ObjOk X.prog X.w H1 s1.heap dd (.xd fs)from I1.hok dd _ ed)
 obtain⟨od,ho,hl⟩:=lookIn_ns hns
 obtain⟨y,hy,ry⟩:=RelO.some_of (v:=v) (o:=mA f) (by rw [← lk]; exact hr f)
 have nc:PySem.W.notCls oe=true:=by unfold PySem.W.notCls; rw [g4]
 have J:PySem.W.InstAt s1.heap a oe C (some od):=⟨g1,g2,nc,by rw [g3]; exact ho⟩
 exact HandSPX.exc_get I1.kIn J T.ga T.gg T.exC (PySem.W.findObj_own T.hdC hno rfl (by rw [hl,hy])) (handed_of ry) ⟨v,H1,I1.tok _,ry,q⟩
section
variable {T:Tab}{B:Base}{Φ:cU}{W:WX}{X:Cx}{σ:L2.St}{l m:List bf}{H:Hp}{hs:List Addr}
theorem Hl (s:ae T B H hs l) {a C:Addr}{d:Option Addr} (e:vw B.Z H a=some (vZ a C d)):H a=some (vZ a C d):=by
 rcases i8 e with e | ⟨z,o,e⟩
 ·exact e
 ·obtain⟨u,e2,k⟩:=s.lk a z
  rw [e2]at e
  cases e
  exact k.elim
theorem Em {C:Nat}{p:List D}:∀ {o:O},o.frz = .exc C p→o = .d (.exc C p)
 | .d x,e=>by rw [O.frz]at e; rw [e]
 | .tup _,e=>by rw [O.frz]at e; cases e
 | .lst _,e=>by rw [O.frz]at e; cases e
 | .dic _ _,e=>by rw [O.frz]at e; cases e
 | .obj _ _ _,e=>by rw [O.frz]at e; cases e
theorem Sat.kidX {C:Nat}{d:D}{v:V} (s:ae T B H hs ((.d (.exc C [d]),v)::l)):∃ (a dd:Addr) (w:V),v = .ref a∧H a=some (vZ a (T.cls C) (some dd))∧H dd=some (.xd [(fx C,w)])∧ae T B H hs ((.d d,w)::(.d (.exc C [d]),v)::l):=by
 obtain⟨F,⟨F1,F2,rfl,⟨e1,r1⟩,r2⟩,nd,c⟩:=s.reps
 have e1:F1 = []:=e1
 subst e1
 rcases id r1 with⟨z,_⟩ | ⟨a,d',vs,rfl,n,ea,xa,dl⟩
 ·cases z
 ·obtain⟨w,r,rfl,dw,dr⟩:=dl
  cases (show r = []from dr)
  obtain⟨dd,rfl,nn,ed⟩:=xa
  exact⟨a,dd,w,rfl,Hl s ea,Ft s ed,⟨s.lk,s.old,s.oth,s.io,s.tb,_,⟨[],_,rfl,⟨rfl,dw⟩,[],F2,rfl,⟨rfl,r1⟩,r2⟩,nd,c⟩⟩
theorem Cc {se:SE}{ρ:Env}:cj Φ [se] ρ=(dJ Φ se ρ).bind fun a ρ=>.ok [a] ρ:=by
 rw [cj]
 simp only [cj,Res.bind_ok]
theorem LG {sh:Bool}{f:List D→Option O}{sa:SE}{ρ:Env}{Q:VK} (h:RP T B W σ l (ev Φ (.ofn sh f [sa]) ρ) Q):RG T B W σ l (dJ Φ sa ρ) fun a ρ1=>∀ v H1,At T B H1 ρ1 σ (ak a v++l)→oi σ a v→dX T B f sh [v] H1 Q:=by
 rw [ev,Cc]at h
 refine h.rg.bind.bind.mono fun a ρ1 k v H1 a1 av=>?_
 exact fY (f:=f) (sh:=sh) (as:=[a]) (vs:=[v]) k (a1.perm uU) ⟨av,trivial⟩
theorem FH {C:Nat}{f:Str}{a:Expr}{sa:SE}{pos:Pos} (hX:XfC X.K (T.cls C)∧PySem.W.findIn X.K (.ref (T.cls C)) f=some none) (hb:attributeBase a f X.env (eval a X.env)=eval a X.env) (ha:PE X a (tA T B Φ W sa)):PE X (.Attribute a f pos) (tE T B Φ W (.ofn true (Dz C f) [sa])) :=
 (Hk hX.1 hX.2 ha hb).pv fun σ H Q ⟨ρ,l,at_,h⟩=>by
  refine⟨ρ,l,at_,(LG h).mono fun a ρ1 k v H1 a1 av=>?_⟩
  obtain⟨o,l',r,s1,e,q⟩:=oq (k v H1 a1 av)
  have e:Dz C f [o.frz]=some r:=e
  cases eo:o.frz with
  | exc C' p =>
   rw [eo]at e
   match p,eo,e with
   | [d],eo,e =>
    have e:(if C'=C∧f=fx C then some (O.d d)else none)=some r:=e
    by_cases c:C'=C∧f=fx C
    ·rw [if_pos c]at e
     injection e with e
     subst e
     obtain⟨rfl,rfl⟩:=c
     have eo:=Em eo
     subst eo
     obtain⟨a,dd,w,rfl,ha,hd,s2⟩:=Sat.kidX s1
     exact⟨a,dd,_,w,rfl,ha,hd,by simp,q w H1 s2⟩
    ·rw [if_neg c]at e; cases e
   | [],_,e=>cases e
   | _::_::_,_,e=>cases e
  | _=>rw [eo]at e; cases e
end
open He (ga ma eqO eqO_ok)
theorem zx {K:ku}{x f:Str} (c:Ip x f K=true):XfC K (ga K x)∧PySem.W.findIn K (.ref (ga K x)) f=some none:=by
 obtain⟨h1,h2⟩:=Bool.and_eq_true_iff.mp c
 exact⟨xfB_ok h1,eqO_ok h2⟩
end PV
namespace PV
open PySem PySem.Spec PyProof.Rows L2
open PySem.W (alike EachIs dataLe AllAlike Sortable)
def yi:D→D→Bool:=dataLe false D.toP
def pU (xs:List D):Bool:=(xs.all fun d=>match d with
 | .tup (_::_)=>true
 | _=>false)||xs.all fun d=>match d with
 | .non=>false
 | .tup _=>false
 | _=>true
def lI (as:List D):Option O:=match as with
 | [.lst xs]=>if D.okdL 100 xs&&((xs.all fun a=>xs.all fun b=>alike a.toP b.toP)&&pU xs)then some (.lst ((xs.mergeSort yi).map .d))else none
 | _=>none
theorem jY {n:Nat}:∀ {xs:List D},D.okdL n xs=true→∀ x∈xs,D.okd n x=true
 | [],_,x,hx=>by cases hx
 | y::ys,h,x,hx=>by
  rw [D.okdL,Bool.and_eq_true]at h
  rcases List.mem_cons.mp hx with rfl | hx
  ·exact h.1
  ·exact jY h.2 x hx
theorem oG {T:Tab}{own:Addr→Prop}{h:Hp}:∀ {l:List bf}{F:List Addr},aP T own h l F→∀ d v,(O.d d,v)∈l→Dr T own h d v
 | [],_,_,d,v,hm=>by cases hm
 | p::r,F,⟨F1,F2,_,e1,e2⟩,d,v,hm=>by
  rcases List.mem_cons.mp hm with rfl | hm
  ·exact e1.2
  ·exact oG e2 d v hm
theorem yj {T:Tab}{own:Addr→Prop}{h:Hp}:∀ {xs:List D}{vs:List V},xs.length=vs.length→(∀ p∈xs.zip vs,Dr T own h p.1 p.2)→jB T own h xs vs
 | [],[],_,_=>rfl
 | [],_::_,hl,_=>by cases hl
 | _::_,[],hl,_=>by cases hl
 | x::xs,v::vs,hl,h=>⟨v,vs,rfl,h (x,v) List.mem_cons_self,yj (by simpa using hl) fun p hp=>h p (List.mem_cons_of_mem _ hp)⟩
section
variable {T:Tab}{B:Base}{Φ:cU}{W:WX}{X:Cx}{σ:L2.St}{l m:List bf}{H:Hp}{hs:List Addr}{pins:List (Addr×Obj)}{s:Shared}
theorem ae.again {ys:List D}{ws:List V} (sa:ae T B H hs l) (hl:ys.length=ws.length) (h:∀ p∈ys.zip ws,(O.d p.1,p.2)∈l):ae T B H hs ((ys.map O.d).zip ws++l) :=
 ae.more (xs:=ys) (vs:=ws) sa fun F _ r=>yj hl fun p hp=>oG r p.1 p.2 (h p hp)
theorem ph {xs:List D}{vs:List V}:∀ {out:List Value}{ys:List D},EachIs (fun u d=>∃ v:V,RelV v u∧(d,v)∈xs.zip vs) out ys→∃ ws:List V,Vals ws out∧ys.length=ws.length∧∀ p∈ys.zip ws,p∈xs.zip vs
 | _,_,.nil=>⟨[],.nil,rfl,fun p hp=>by cases hp⟩
 | _,_,.cons ⟨v,r,hm⟩ t=>by
  obtain⟨ws,r2,hl,h2⟩:=ph t
  refine⟨v::ws,.cons r r2,by simp [hl],fun p hp=>?_⟩
  rcases List.mem_cons.mp hp with rfl | hp
  ·exact hm
  ·exact h2 p hp
theorem oH {R:Value→D→Prop}:∀ {us:List Value}{xs:List D},us.length=xs.length→(∀ j (h1:j < us.length) (h2:j < xs.length),R us[j] xs[j])→EachIs R us xs
 | [],[],_,_=>.nil
 | [],_::_,hl,_=>by cases hl
 | _::_,[],hl,_=>by cases hl
 | u::us,x::xs,hl,h=>.cons (h 0 (by simp) (by simp)) (oH (by simpa using hl) fun j h1 h2=>h (j+1) (by simpa using h1) (by simpa using h2))
theorem cr_sorted (hK:X.K=T.K) (hu:X.A.units+200 < cLine):CallR X (.builtin "sorted") (fun xs H Q=>dX T B lI true xs H Q):=by
 intro pins s σ H xs us Q I r h
 match xs,r,h with
 | [x],r,h =>
  obtain⟨o,l,r0,sa,e,q⟩:=oq h
  cases eo:o.frz with
  | lst xs =>
   rw [eo]at e
   have e:(if D.okdL 100 xs&&((xs.all fun a=>xs.all fun b=>alike a.toP b.toP)&&pU xs)then some (O.lst ((xs.mergeSort yi).map .d))else none)=some r0:=e
   split at e
   ·rename_i hc
    rw [Bool.and_eq_true,Bool.and_eq_true]at hc
    obtain⟨ok,ha,hsb⟩:=hc
    injection e with e
    subst e
    obtain⟨a,vs,rfl,hq,hl,s1⟩:=Sat.kidsL sa eo
    rw [Vals.ref1 r]
    obtain⟨its,rv,il,hz⟩:=I.list (by rw [hK]; exact hq)
    have hlen:=rv.length
    have item:∀ j (h1:j < its.length) (h2:j < xs.length),(∃ v:V,RelV v its[j]∧(xs[j],v)∈xs.zip vs)∧∃ as,Reads s.heap its[j] xs[j].toP as:=fun j h1 h2=>by
     have h3:j < vs.length:=by omega
     have hm:(xs[j],vs[j])∈xs.zip vs:=by
      have:=List.getElem_mem (l:=xs.zip vs) (n:=j) (by rw [List.length_zip]; omega)
      rwa [List.getElem_zip]at this
     have rj:=qw rv j h3 h1
     refine⟨⟨vs[j],rj,hm⟩,?_⟩
     have hm2:(O.d xs[j],vs[j])∈(xs.map O.d).zip vs++(o.shal,V.ref a)::l:=by
      refine List.mem_append_left _ ?_
      have:=List.getElem_mem (l:=(xs.map O.d).zip vs) (n:=j) (by rw [List.length_zip,List.length_map]; omega)
      rwa [List.getElem_zip,List.getElem_map]at this
     have d1:Dr T (fun _=>False) (vw B.Z H) xs[j] vs[j]:=by
      obtain⟨F,rr,_,_⟩:=s1.reps
      exact Dr.keep fP.refl (fun _ z=>z.elim) _ _ (oG rr _ _ hm2)
     have p1:=ni s1 100 _ _ (jY ok _ (List.getElem_mem h2)) d1
     rw [← hK]at p1
     exact Dp.reads I _ _ _ p1 rj
    have e1:EachIs (fun u d=>∃ v:V,RelV v u∧(d,v)∈xs.zip vs) its xs:=oH (by omega) fun j h1 h2=>(item j h1 h2).1
    have e2:EachIs (fun u d=>∃ as,Reads s.heap u (D.toP d) as) its xs:=oH (by omega) fun j h1 h2=>(item j h1 h2).2
    have al:AllAlike (xs.map D.toP):=fun d hd d' hd'=>by
     obtain⟨y,hy,rfl⟩:=List.mem_map.mp hd
     obtain⟨z,hz',rfl⟩:=List.mem_map.mp hd'
     exact List.all_eq_true.mp (List.all_eq_true.mp ha y hy) z hz'
    have so:Sortable (xs.map D.toP):=by
     unfold pU at hsb
     rw [Bool.or_eq_true]at hsb
     rcases hsb with hsb | hsb
     ·refine .inl fun d hd=>?_
      obtain⟨y,hy,rfl⟩:=List.mem_map.mp hd
      have:=List.all_eq_true.mp hsb y hy
      match y,this with
      | .tup (z::zs),_=>exact⟨z.toP,D.toPL zs,by simp only [D.toP,D.toPL]⟩
     ·refine .inr fun d hd=>?_
      obtain⟨y,hy,rfl⟩:=List.mem_map.mp hd
      have:=List.all_eq_true.mp hsb y hy
      have oky:=jY ok y hy
      cases y <;> simp at this <;> simp [D.toP] <;> simp [D.okd]at oky
    refine PySem.W.sorted_data (bs:=xs) (enc:=D.toP) il.isList e1 e2 al so (by omega) (fun b hb=>?_) fun out hlo eo2=>?_
    ·have:=(eM 100 b (jY ok b hb)).2
     omega
    ·obtain⟨ws,rw_,hlw,hmw⟩:=ph eo2
     obtain⟨ep,he'⟩:=PyProof.Rows.sortedAll_at s.heap its out.toArray
     have nf:H (s.heap.objs.size+1)=none:=I.hok.fresh (Nat.le_succ _)
     have hz2:ws.length≤sizeLine:=by rw [rw_.length,hlo]; omega
     have I2:=I.laid (a:=s.heap.objs.size+1) (o:=.lst ws) (t':=s.toks) (h':=sortedAll s.heap its out.toArray) (fun _ _=>PyProof.Rows.sortedAll_old) (Nat.le_succ _) ⟨hz2,out,ep,rw_,he'⟩
     refine⟨.ref _,upd H (s.heap.objs.size+1) (.lst ws),I2,rfl,q _ _ ?_⟩
     have s2:ae T B H [] (((xs.mergeSort yi).map O.d).zip ws++((xs.map O.d).zip vs++(o.shal,V.ref a)::l)):=ae.again s1 hlw fun p hp=>by
      have hm:=hmw p hp
      refine List.mem_append_left _ ?_
      obtain⟨j,hj,ej⟩:=List.getElem_of_mem hm
      have hj':j < ((xs.map O.d).zip vs).length:=by rw [List.length_zip,List.length_map]; rw [List.length_zip]at hj; omega
      have:=List.getElem_mem hj'
      rw [List.getElem_zip,List.getElem_map]at this
      rw [List.getElem_zip]at ej
      rw [← ej]
      exact this
     have s3:ae T B H [] (((xs.mergeSort yi).map O.d).zip ws++((o.shal,V.ref a)::l)):=by
      have pm:(((xs.mergeSort yi).map O.d).zip ws++((xs.map O.d).zip vs++(o.shal,V.ref a)::l)).Perm ((xs.map O.d).zip vs++(((xs.mergeSort yi).map O.d).zip ws++(o.shal,V.ref a)::l)):=by
       rw [← List.append_assoc,← List.append_assoc]
       exact List.perm_append_comm.append_right _
      exact(s2.perm pm).dropL
     exact Sat.newL s3 (by rw [List.length_map]; exact hlw) nf
   ·cases e
  | _=>rw [eo]at e; cases e
 | [],r,h =>
  obtain⟨os,l,r0,hl,sa,e,q⟩:=h
  match os,hl with
  | [],_=>cases e
 | _::_::_,r,h =>
  obtain⟨os,l,r0,hl,sa,e,q⟩:=h
  match os,hl with
  | _::_::_,_ =>
   unfold lI at e
   split at e
   ·rename_i heq
    simp at heq
   ·cases e
theorem xi {x:Str}{p pos:Pos}{e:Expr}{se:SE} (hK:X.K=T.K) (hu:X.A.units+200 < cLine) (hn:x = "sorted") (hg:Gl X x) (hm:X.mg x=none) (ha:PE X e (tA T B Φ W se))
  (he:starEach (e::[]) X.env=(false,eval e X.env)::starEach [] X.env) (hpl:(backTo pos (starEach [] X.env)).any (·.1)=false):PE X (.Call (.Name x p) [e] [] pos) (tE T B Φ W (.ofn true lI [se])):=by
 subst hn
 refine(pe_callB (cr_sorted (T:=T) (B:=B) hK hu) hg hm rfl (aF ha aq he) (by decide) (by decide) he hpl).pv fun σ H Q ⟨ρ,l,at_,h⟩=>?_
 rw [ev]at h
 exact⟨ρ,l,at_,h.rg.bind.mono fun as ρ1 k1 vs H1 a1 av=>fY k1 a1 av⟩
end
end PV
namespace PV
open PySem PySem.Spec PyProof.Rows L2
def ik:List D→Option (List D×List D)
 | []=>some ([],[])
 | .tup [k,v]::t=>(ik t).map fun p=>(k::p.1,v::p.2)
 | _=>none
def pj (ks:List D):Bool:=match keysOf ks with
 | some js=>decide js.Nodup
 | none=>match au ks with
  | some js=>decide js.Nodup
  | none=>false
def FI:D→Option O
 | .lst xs=>match ik xs with
  | some (ks,vs)=>if pj ks then some (.dic ks (vs.map .d))else none
  | none=>none
 | .dic ks vs=>if(keysOf ks).isSome then some (.dic ks (vs.map .d))else none
 | _=>none
def jZ:List D→Option O
 | [x]=>FI x
 | _=>none
theorem pairs_len:∀ {xs ks vs:List D},ik xs=some (ks,vs)→ks.length=xs.length∧vs.length=xs.length
 | [],ks,vs,e=>by injection e with e; injection e with e1 e2; subst e1 e2; exact⟨rfl,rfl⟩
 | x::t,ks,vs,e=>by
  unfold ik at e
  split at e
  ·rename_i h; cases h
  ·rename_i k v t' h
   injection h with h1 h2
   subst h1 h2
   cases e2:ik t with
   | none=>rw [e2]at e; cases e
   | some p =>
    obtain⟨ks',vs'⟩:=p
    rw [e2]at e
    injection e with e
    injection e with e3 e4
    subst e3 e4
    obtain⟨h1,h2⟩:=pairs_len e2
    exact⟨by simp [h1],by simp [h2]⟩
  ·cases e
section
variable {T:Tab}{B:Base}{X:Cx}{H:Hp}{l:List bf}{hs:List Addr}{own:Addr→Prop}
theorem rM (s:ae T B H hs l):∀ {xs ks vs:List D}{ws:List V},jB T own (vw B.Z H) xs ws→ik xs=some (ks,vs)→∃ (ps:List Addr) (kw us:List V),ws=ps.map V.ref∧jB T own (vw B.Z H) ks kw∧jB T own (vw B.Z H) vs us ∧
  Paired (fun(p:Addr) (kv:V×V)=>SqT T.K H p [kv.1,kv.2]) ps (kw.zip us)∧kw.length=ps.length∧us.length=ps.length
 | [],ks,vs,ws,d,e=>by
  injection e with e
  injection e with e1 e2
  subst e1 e2
  have d:ws = []:=d
  subst d
  exact⟨[],[],[],rfl,rfl,rfl,.nil,rfl,rfl⟩
 | x::t,ks,vs,ws,d,e=>by
  unfold ik at e
  split at e
  ·rename_i h; cases h
  ·rename_i k v t' h
   injection h with h1 h2
   subst h1 h2
   cases e2:ik t with
   | none=>rw [e2]at e; cases e
   | some p =>
    obtain⟨ks',vs'⟩:=p
    rw [e2]at e
    injection e with e
    injection e with e3 e4
    subst e3 e4
    obtain⟨w,r,rfl,d1,d2⟩:=d
    obtain⟨ps,kw,us,rfl,q1,q2,q3,q4,q5⟩:=rM s d2 e2
    obtain⟨a,vs2,rfl,h1,h2⟩:=d1
    obtain⟨v1,r1,rfl,g1,g2⟩:=h2
    obtain⟨v2,r2,rfl,g3,g4⟩:=g2
    have g4:r2 = []:=g4
    subst g4
    exact⟨a::ps,v1::kw,v2::us,rfl,⟨v1,kw,rfl,g1,q1⟩,⟨v2,us,rfl,g3,q2⟩,.cons (xS s h1) q3,by simp [q4],by simp [q5]⟩
  ·cases e
theorem rN (s:ae T B H hs l):∀ {ks:List D}{js:List (List Key)}{vs:List V},au ks=some js→jB T own (vw B.Z H) ks vs→Paired (fun(j:List Key) (v:V)=>∃ b,v = .ref b∧H b=some (.tup (j.map kV))) js vs
 | [],js,vs,e,d=>by
  have d:vs = []:=d
  injection e with e
  subst e d; exact .nil
 | k::ks,js,vs,e,d=>by
  obtain⟨v,r,rfl,d1,d2⟩:=d
  unfold au at e
  cases e1:aA k with
  | none=>rw [e1]at e; cases e
  | some j =>
   cases e2:au ks with
   | none=>rw [e1,e2]at e; cases e
   | some jr =>
    rw [e1,e2]at e
    injection e with e
    subst e
    exact .cons (ot e1 s d1) (rN s e2 d2)
theorem En {κ:Type} [DecidableEq κ] {acc:List (κ×V)}{k:κ}{v:V} (h:k∉acc.map (·.1)):putK acc k v=acc++[(k,v)]:=by
 unfold putK
 rw [if_neg]
 intro z
 rw [List.any_eq_true]at z
 obtain⟨p,hp,e⟩:=z
 exact h (List.mem_map.mpr ⟨p,hp,of_decide_eq_true e⟩)
theorem rO:∀ (more acc:List (Key×V)),((acc++more).map (·.1)).Nodup→mergeK acc more=acc++more
 | [],acc,_=>by simp [mergeK]
 | p::r,acc,h=>by
  show mergeK (putK acc p.1 p.2) r=_
  have hk:p.1∉acc.map (·.1):=by
   rw [List.map_append,List.nodup_append]at h
   intro z
   exact h.2.2 _ z _ (List.mem_map.mpr ⟨p,List.mem_cons_self,rfl⟩) rfl
  rw [En hk,rO r _ (by simpa using h)]
  simp
theorem storedH_new {κ:Type} [DecidableEq κ] {acc:List (κ×Addr×Value)}{k:κ}{b:Addr}{v:Value} (h:k∉acc.map (·.1)):storedH acc k b v=acc++[(k,b,v)]:=by
 unfold storedH
 rw [if_neg]
 intro z
 unfold atKey at z
 rw [Option.isSome_map,List.find?_isSome]at z
 obtain⟨p,hp,e⟩:=z
 exact h (List.mem_map.mpr ⟨p,hp,of_decide_eq_true e⟩)
theorem lZ {κ:Type} [DecidableEq κ]:∀ (more acc:List (κ×Addr×Value)),((acc++more).map (·.1)).Nodup→storedAllH acc more=acc++more
 | [],acc,_=>by simp [storedAllH]
 | p::r,acc,h=>by
  show storedAllH (storedH acc p.1 p.2.1 p.2.2) r=_
  have hk:p.1∉acc.map (·.1):=by
   rw [List.map_append,List.nodup_append]at h
   intro z
   exact h.2.2 _ z _ (List.mem_map.mpr ⟨p,List.mem_cons_self,rfl⟩) rfl
  rw [storedH_new hk,lZ r _ (by simpa using h)]
  simp
theorem uo {pins:List (Addr×Obj)}{σ:L2.St}{s:Shared} (I:Inv X pins σ H s):∀ {ps:List Addr}{js:List (List Key)}{kw us:List V},Paired (fun(p:Addr) (kv:V×V)=>SqT X.K H p [kv.1,kv.2]) ps (kw.zip us)→kw.length=ps.length→us.length=ps.length →
  Paired (fun(j:List Key) (v:V)=>∃ b,v = .ref b∧H b=some (.tup (j.map kV))) js kw →
  ∃ prs:List (List Key×Addr×Value),KT H (js.zip us) prs∧prs.length=ps.length∧prs.map (·.1)=js∧∀ (j:Nat) (q:List Key×Addr×Value),prs[j]?=some q→∃ p,ps[j]?=some p∧IsTup s.heap p #[.ref q.2.1,q.2.2]
 | [],js,kw,us,_,h1,h2,h3=>by
  cases kw with
  | nil =>
   cases h3
   exact⟨[],.nil,rfl,rfl,fun j q e=>by simp at e⟩
  | cons a b=>simp at h1
 | p::ps,js,kw,us,hp,h1,h2,h3=>by
  cases kw with
  | nil=>simp at h1
  | cons w kw =>
   cases us with
   | nil=>simp at h2
   | cons u us =>
    cases h3 with
    | cons hb ht =>
     rename_i j js'
     rw [List.zip_cons_cons]at hp
     cases hp with
     | cons hq hr =>
      obtain⟨prs,r1,r2,r3,r4⟩:=uo I hr (by simpa using h1) (by simpa using h2) ht
      obtain⟨b,rfl,eb⟩:=hb
      obtain⟨its,rv,ht2,_⟩:=I.tuple hq
      obtain⟨x,y,ei,rx,ry⟩:=vals2 rv
      subst ei
      obtain rfl:x=Value.ref b:=rx
      refine⟨(j,b,y)::prs,?_,by simp [r2],by simp [r3],fun i q e=>?_⟩
      ·rw [List.zip_cons_cons]
       exact .cons ⟨rfl,eb,ry⟩ r1
      ·cases i with
       | zero =>
        have e':(j,b,y)=q:=Option.some.inj e
        subst e'
        exact⟨p,rfl,ht2⟩
       | succ i =>
        obtain⟨p',e1,e2⟩:=r4 i q (by simpa using e)
        exact⟨p',by simpa using e1,e2⟩
theorem yk (hcalm:X.calm=true) (hu:X.A.units+4 < cLine):CallR X (.type "dict") (fun xs H Q=>∃ (a:Addr) (ps:List Addr) (js:List (List Key)) (kw us:List V),xs = [.ref a]∧SqL X.K H a (ps.map V.ref) ∧
  Paired (fun(p:Addr) (kv:V×V)=>SqT X.K H p [kv.1,kv.2]) ps (kw.zip us)∧kw.length=ps.length∧us.length=ps.length∧Paired (fun(j:List Key) (v:V)=>∃ b,v = .ref b∧H b=some (.tup (j.map kV))) js kw∧js.Nodup ∧
  ∀ p,H p=none→Q (.ref p) (upd H p (.dT (js.zip us)))):=by
 intro pins s σ H xs us0 Q I r q
 obtain⟨a,ps,js,kw,us,ex,hq,hp,hl1,hl2,hk,nd,q⟩:=q
 subst ex
 obtain⟨u,eu,rx⟩:=vals1 r
 subst eu
 cases rx
 obtain⟨its,rv,pl,hz⟩:=I.list hq
 have ei:=refs_at rv
 subst ei
 rw [List.length_map]at hz
 obtain⟨prs,rel,hl,hks,hpr⟩:=uo I hp hl1 hl2 hk
 obtain⟨o,n,ho,hc,hd,hdat⟩:=pl
 have isk:∀ x∈prs,(tupleKind (mixKind X.prog X.w)).is s.heap x.1 x.2.1:=by
  have all:∀ {l:List (List Key×V)}{m:List (List Key×Addr×Value)},KT H l m→∀ x∈m,(tupleKind (mixKind X.prog X.w)).is s.heap x.1 x.2.1:=by
   intro l m q
   induction q with
   | nil=>intro x hx; exact nomatch hx
   | @cons p q ps qs hq t ih =>
    intro x hx
    rcases List.mem_cons.mp hx with e | hx
    ·subst e
     exact key_of I.hok (by rw [← hq.1]; exact hq.2.1)
    ·exact ih x hx
  exact all rel
 let Ts:Nat→Addr:=fun j=>(ps[j]?).getD 0
 let vps:List (Value×Value):=prs.map fun q=>(Value.ref q.2.1,q.2.2)
 have hvl:vps.length=ps.length:=by show(prs.map _).length=_; rw [List.length_map,hl]
 have PA:=PairArg.list (prog:=X.prog) (w:=X.w) a ((ps.map Value.ref).toArray) Ts vps
 refine PySem.call_dict_pairsH (knd:=tupleKind (mixKind X.prog X.w)) (ps:=prs) PA (I.ok.hd hcalm) ?room ⟨⟨o,n,ho,hc,hd,hdat⟩,?items,fun j k v e=>?pair⟩ ⟨by rw [hvl,hl],fun i key v e=>?keys⟩ (fun h' hkp x hx=>?stay) (by rw [hvl]; exact hz) fun h' tk hd' hk'=>?fin
 case room=>show _ < _; exact Nat.lt_of_le_of_lt (by first | (simp [Around.in1,Around.units]; done) | (simp [Around.in1,Around.units]; omega)) hu
 case items=>simp [hvl]
 case pair =>
  have e:(prs.map fun q=>(Value.ref q.2.1,q.2.2))[j]?=some (k,v):=e
  rw [List.getElem?_map]at e
  cases e1:prs[j]? with
  | none=>rw [e1]at e; cases e
  | some q =>
   rw [e1]at e
   injection e with e
   injection e with e2 e3
   subst e2 e3
   obtain⟨p,e4,e5⟩:=hpr j q e1
   have et:Ts j=p:=by show(ps[j]?).getD 0=p; rw [e4]; rfl
   refine⟨by simp [et,e4],.inl ?_⟩
   rw [et]
   obtain⟨o2,g1,g2,g3⟩:=e5
   exact⟨o2,g1,g2,g3⟩
 case keys =>
  have e:(prs.map fun q=>(Value.ref q.2.1,q.2.2))[i]?=some (key,v):=e
  rw [List.getElem?_map]at e
  cases e1:prs[i]? with
  | none=>rw [e1]at e; cases e
  | some q =>
   rw [e1]at e
   injection e with e
   injection e with e2 e3
   subst e2 e3
   exact⟨q.1,q.2.1,rfl,rfl⟩
 case stay =>
  obtain⟨o2,its2,n2,g1,g2⟩:=isk x hx
  exact⟨o2,its2,n2,hkp _ _ (Nat.ne_of_lt (Heap.lt_size g1)) (by simp) g1,g2⟩
 case fin =>
  have hm:(s.heap.objs.size == sysModules)=false:=beq_eq_false_iff_ne.mpr (Nat.ne_of_gt I.big)
  rw [lZ prs [] (by simpa [hks]using nd),List.nil_append]at hd'
  obtain⟨o3,es,ep,q1,q2,q3,q4,q5,q6⟩:=hd'
  have hf:H s.heap.objs.size=none:=I.hok.fresh (Nat.le_refl _)
  refine⟨.ref s.heap.objs.size,upd H s.heap.objs.size (.dT (js.zip us)),I.laid (t':=tk) (fun b o e=>hk' b o (by simp) e) (Nat.le_refl _)
   (show ObjOk X.prog X.w _ _ _ (.dT (js.zip us))from⟨?_,hm,prs,KT.keeps rel (fun b ys e=>by rw [upd_ne (fun z=>by rw [z,hf]at e; cases e)]; exact e),o3,es,ep,q1,q2,q3,q4,q6⟩),rfl,q _ hf⟩
  rw [rel.length,hl]
  exact hz
theorem Cd (hK:X.K=T.K) (hc:X.calm=true) (hu:X.A.units+4 < cLine):CallR X (.type "dict") (fun xs H Q=>dX T B jZ true xs H Q):=by
 intro pins s σ H xs us Q I r h
 match xs,r,h with
 | [x],r,h =>
  obtain⟨o,l,r0,sa,e,q⟩:=oq h
  have e:FI o.frz=some r0:=e
  cases eo:o.frz with
  | lst xs =>
   rw [eo]at e
   have e:(match ik xs with | some (ks,vs)=>if pj ks then some (O.dic ks (vs.map .d))else none | none=>none)=some r0:=e
   ·skip
    split at e
    ·rename_i ks vs epr
     split at e
     ·rename_i hok
      injection e with e
      subst e
      obtain⟨a,ws,rfl,hq,hl,s1⟩:=Sat.kidsL sa eo
      obtain⟨F,rr,nd,c⟩:=id s1.reps
      have dw:jB T (fun a=>B.G a∨a∈([]:List Addr)++F) (vw B.Z H) xs ws:=yj hl fun p hp=>oG rr p.1 p.2 (List.mem_append_left _ (by
       obtain⟨j,hj,ej⟩:=List.getElem_of_mem hp
       have:=List.getElem_mem (l:=(xs.map O.d).zip ws) (n:=j) (by rw [List.length_zip,List.length_map]; rw [List.length_zip]at hj; omega)
       rw [List.getElem_zip,List.getElem_map]at this
       rw [List.getElem_zip]at ej
       rw [← ej]
       exact this))
      obtain⟨ps,kw,us',ews,dk,dv,pp,l1,l2⟩:=rM s1 dw epr
      obtain⟨pl1,pl2⟩:=pairs_len epr
      have hxs:xs.length=ps.length:=by rw [hl,ews,List.length_map]
      have s2:ae T B H [] ((vs.map O.d).zip us'++((xs.map O.d).zip ws++(o.shal,V.ref a)::l)):=⟨s1.lk,s1.old,s1.oth,s1.io,s1.tb,F,by simpa using aP.append (jB.reps dv) rr,nd,c⟩
      have s3:ae T B H [] ((vs.map O.d).zip us'++((o.shal,V.ref a)::l)):=by
       have pm:((vs.map O.d).zip us'++((xs.map O.d).zip ws++(o.shal,V.ref a)::l)).Perm ((xs.map O.d).zip ws++((vs.map O.d).zip us'++(o.shal,V.ref a)::l)):=by
        rw [← List.append_assoc,← List.append_assoc]
        exact List.perm_append_comm.append_right _
       exact(s2.perm pm).dropL
      have fin:∀ p,H p=none→∀ ob,((∃ js,keysOf ks=some js∧ob = .dK (js.zip us')∧js.length=us'.length)∨(∃ js,au ks=some js∧ob = .dT (js.zip us')∧js.length=us'.length))→Q (.ref p) (upd H p ob):=fun p hp ob alt=>q _ _ ((ae.alloc (ob:=ob) s3 hp).closeD (by
       rcases alt with⟨js,a1,rfl,a3⟩ | ⟨js,a1,rfl,a3⟩
       ·exact .inl ⟨js,a1,upd_same,a3⟩
       ·exact .inr ⟨js,a1,upd_same,a3⟩) (by rw [List.length_map,pl2,l2,hxs]))
      unfold pj at hok
      cases ek:keysOf ks with
      | some js =>
       rw [ek]at hok
       have hnd:js.Nodup:=of_decide_eq_true hok
       have ekw:=mN ek dk
       have hjl:js.length=us'.length:=by rw [l2,← l1,ekw,List.length_map]
       refine call_dictP hc pins s σ H _ us _ I r ⟨a,ps,js.zip us',rfl,by rw [hK,← ews]; exact hq,?_,fun p hp=>?_⟩
       ·rw [hK]
        subst ekw
        clear fin s3 s2 dv dk hok ek l1 hnd
        revert pp hjl
        have go:∀ {ps:List Addr}{js:List Key}{us:List V},js.length=us.length→Paired (fun(p:Addr) (kv:V×V)=>SqT T.K H p [kv.1,kv.2]) ps ((js.map kV).zip us)→Paired (fun(p:Addr) (kv:Key×V)=>SqT T.K H p [kV kv.1,kv.2]) ps (js.zip us):=by
         intro ps js
         induction js generalizing ps with
         | nil=>intro us _ h; cases us <;> (cases h; exact .nil)
         | cons j js ih =>
          intro us hl h
          cases us with
          | nil=>simp at hl
          | cons u us =>
           rw [List.map_cons,List.zip_cons_cons]at h
           rw [List.zip_cons_cons]
           cases h with
           | cons h1 h2=>exact .cons h1 (ih (by simpa using hl) h2)
        exact go
       ·rw [rO _ _ (by rw [List.nil_append,List.map_fst_zip (by omega)]; exact hnd),List.nil_append]
        exact fin p hp _ (.inl ⟨js,ek,rfl,hjl⟩)
      | none =>
       rw [ek]at hok
       cases et:au ks with
       | none=>rw [et]at hok; cases hok
       | some js =>
        rw [et]at hok
        have hnd:js.Nodup:=of_decide_eq_true hok
        have pk:=rN s1 et dk
        have hjl:js.length=us'.length:=by rw [pk.length,l1,l2]
        refine yk hc hu pins s σ H _ us _ I r ⟨a,ps,js,kw,us',rfl,by rw [hK,← ews]; exact hq,by rw [hK]; exact pp,l1,l2,pk,hnd,fun p hp=>fin p hp _ (.inr ⟨js,et,rfl,hjl⟩)⟩
     ·cases e
    ·cases e
  | dic ks vs =>
   rw [eo]at e
   have e:(if(keysOf ks).isSome then some (O.dic ks (vs.map .d))else none)=some r0:=e
   ·skip
    split at e
    ·rename_i hk
     injection e with e
     subst e
     obtain⟨a,ws,rfl,hd,hl,s1⟩:=Sat.kidsD sa eo
     obtain⟨js,ej⟩:=Option.isSome_iff_exists.mp hk
     rcases hd with⟨js2,e1,rd,hj⟩ | ⟨js2,e1,rd,hj⟩
     ·refine call_dictD pins s σ H _ us _ I r ⟨a,js2.zip ws,rfl,rd,fun p hp=>q _ _ ((ae.alloc s1 hp).closeD (.inl ⟨js2,e1,upd_same,hj⟩) (by rw [List.length_map]; exact hl))⟩
     ·cases ks with
      | nil =>
       injection e1 with e1
       subst e1
       have rd:Rd H a (.dT []):=rd
       have hw:ws = []:=List.eq_nil_of_length_eq_zero (by simpa using hj.symm)
       have hv:vs = []:=List.eq_nil_of_length_eq_zero (by rw [hl,hw]; rfl)
       subst hv hw
       obtain⟨u,eu,rx⟩:=vals1 r
       subst eu
       cases rx
       obtain⟨z,lo,xs0,rel,dd⟩:=dt_rd I.hok rd
       cases rel
       obtain⟨o3,es,ep,q1,q2,q3,q4,q5,q6⟩:=dd
       have dd:s.heap.DictOf (mixKind X.prog X.w) a []:=xU ⟨o3,es,ep,q1,q2,q3,q4,q5,q6⟩
       refine kt_call_dict lo dd (by simp) fun h' d' hs=>?_
       have hm:(s.heap.objs.size == sysModules)=false:=beq_eq_false_iff_ne.mpr (Nat.ne_of_gt I.big)
       have hf:H s.heap.objs.size=none:=I.hok.fresh (Nat.le_refl _)
       exact⟨.ref s.heap.objs.size,upd H s.heap.objs.size (.dK []),I.laid (t':=s.toks) (fun b u e=>(hs.2 b (Nat.ne_of_lt (Heap.lt_size e))).trans (Heap.get?_push_of_some _ e)) (Nat.le_refl _)
        (show ObjOk X.prog X.w _ _ _ (.dK [])from⟨Nat.zero_le _,hm,[],.nil,d'⟩),rfl,q _ _ ((ae.alloc s1 hf).closeD (.inl ⟨[],rfl,upd_same,rfl⟩) rfl)⟩
      | cons k ks =>
       exfalso
       unfold keysOf at ej
       unfold au at e1
       cases k with
       | tup z=>simp [keyOf]at ej
       | _=>simp [aA]at e1
    ·cases e
  | _=>rw [eo]at e; cases e
 | [],r,h =>
  obtain⟨os,l,r0,hl,sa,e,q⟩:=h
  match os,hl with
  | [],_=>cases e
 | _::_::_,r,h =>
  obtain⟨os,l,r0,hl,sa,e,q⟩:=h
  match os,hl with
  | _::_::_,_ =>
   unfold jZ at e
   split at e
   ·rename_i heq
    simp at heq
   ·cases e
theorem zy {x:Str}{p pos:Pos}{e:Expr}{se:SE}{Φ:cU}{W:WX} (hK:X.K=T.K) (hc:X.calm=true) (hu:X.A.units+4 < cLine) (hn:x = "dict") (hg:Gl X x) (hm:X.mg x=none) (ha:PE X e (tA T B Φ W se))
  (he:starEach (e::[]) X.env=(false,eval e X.env)::starEach [] X.env) (hpl:(backTo pos (starEach [] X.env)).any (·.1)=false):PE X (.Call (.Name x p) [e] [] pos) (tE T B Φ W (.ofn true jZ [se])):=by
 subst hn
 refine(pe_callTy (Cd (T:=T) (B:=B) hK hc hu) hg hm rfl (aF ha aq he) (by decide) (by decide) he hpl).pv fun σ H Q ⟨ρ,l,at_,h⟩=>?_
 rw [ev]at h
 exact⟨ρ,l,at_,h.rg.bind.mono fun as ρ1 k1 vs H1 a1 av=>fY k1 a1 av⟩
end
end PV
namespace PV
open PySem PySem.Spec PyProof.Rows L2
def h9 (a b:Str):Bool:=decide (a.cps.toList≤b.cps.toList)
theorem Af (a b:Str):(h9 a b||h9 b a)=true:=by
 unfold h9
 rw [Bool.or_eq_true,decide_eq_true_eq,decide_eq_true_eq]
 exact List.le_total _ _
theorem Ag (a b c:Str) (h1:h9 a b=true) (h2:h9 b c=true):h9 a c=true:=by
 unfold h9 at *
 rw [decide_eq_true_eq]at *
 exact List.le_trans h1 h2
end PV
namespace PV
open PySem PySem.Spec PyProof.Rows L2
open PySem.W (alike EachIs dataLe AllAlike Sortable)
def Ii:Key→D
 | .inl i=>.int i
 | .inr x=>.str x
def Hm (k:sZ):D:=.tup (k.map Ii)
instance memU (k:sZ) (xs:List sZ):Decidable (k∈xs):=@List.instDecidableMemOfLawfulBEq sZ instBEqOfDecidableEq inferInstance k xs
section
variable {P:Program}{w:World}{A:Around}{E:Value→Shared→Prop}{s:Shared}{a:Addr}
theorem Eo {h:Heap}{k:sZ}{b:Addr} (x:Kr P w h k b):Reads h (.ref b) (Hm k).toP []:=by
 obtain⟨o,its,n,ho,hc,hd,hi⟩:=x
 unfold Hm
 rw [D.toP]
 refine .tuple ho hc hd ?_
 generalize its.toList=us at hi
 induction hi with
 | nil=>exact .nil
 | @cons k0 v ks vs q _ ih =>
  rw [List.map_cons,D.toPL]
  have:Reads h v (Ii k0).toP []:=by
   rcases keyIs_shape q with⟨i,t,rfl,rfl⟩ | ⟨x,t,rfl,rfl⟩
   ·simp only [Ii,D.toP]; exact .int i t
   ·simp only [Ii,D.toP]; exact .str x t
  exact .cons this ih
end
end PV
namespace PV
open PySem PySem.Spec PyProof.Rows L2
open PySem.W (alike EachIs dataLe AllAlike Sortable)
theorem Ce {d:D}{k:Key} (h:keyOf d=some k):d=Ii k:=by
 cases d <;> simp [keyOf]at h <;> subst h <;> rfl
theorem uq:∀ {ds:List D}{ks:List Key},keysOf ds=some ks→ds=ks.map Ii
 | [],ks,h=>by
  simp [keysOf]at h
  subst h
  rfl
 | d::ds,ks,h=>by
  rw [keysOf]at h
  cases e1:keyOf d with
  | none=>rw [e1]at h; cases h
  | some k =>
   cases e2:keysOf ds with
   | none=>rw [e1,e2]at h; cases h
   | some r =>
    rw [e1,e2]at h
    injection h with h
    subst h
    rw [List.map_cons,← uq e2,← Ce e1]
theorem Ah {d:D}{k:sZ} (h:aA d=some k):d=Hm k∧(k.length=2∨k.length=3):=by
 cases d <;> simp [aA]at h
 obtain⟨h1,h2⟩:=h
 have e:=uq h2
 subst e
 exact⟨rfl,by simpa using h1⟩
end PV
namespace PV
open PySem PySem.Spec PyProof.Rows L2
noncomputable def Jo (Φ:cU) (g:Int→Int→Int) (i:Nat) (se:SE) (ρ:Env):Option Env:=match ax ρ i with
 | some (.d (.int a))=>(match ev Φ se ρ with
  | .ok (.d (.int b)) ρ'=>some (ρ'.set i (some (.d (.int (g a b)))))
  | _=>none)
 | _=>none
end PV
namespace PV
open PySem PySem.Spec PyProof.Rows L2
section
variable {T:Tab}{B:Base}{Φ:cU}{W:WX}{X:Cx}{σ:L2.St}{l m:List bf}{H:Hp}{ρ:Env}{pins:List (Addr×Obj)}{s:Shared}
theorem Cf {α:Type}{f:List Arg→Env→Res α}{sa sb:SE}{ρ:Env}:((cj Φ [sa,sb] ρ).bind fun as ρ=>f as ρ)=(dJ Φ sa ρ).bind fun x ρ=>(dJ Φ sb ρ).bind fun y ρ=>f [x,y] ρ:=by
 rw [cj]
 cases dJ Φ sa ρ with
 | bad=>rfl
 | exc C p ρ'=>rfl
 | ok a ρ1 =>
  simp only [Res.bind_ok]
  rw [cj]
  cases dJ Φ sb ρ1 with
  | bad=>rfl
  | exc C p ρ'=>rfl
  | ok b ρ2 =>
   simp only [Res.bind_ok]
   rw [cj]
   rfl
end
end PV
namespace PV
open PySem PySem.Spec PyProof.Rows L2
open He (ga ma fAd ba eqO eqO_ok)
theorem aY {k:Nat}{A:Around} (h:Room k A):A.units+1 < cLine:=by have:=h.un; omega
end PV
namespace PV
open PySem PySem.Spec PyProof.Rows L2
noncomputable def yl (Φ:cU) (ts:List Tg) (se:SE) (ρ:Env):Option Env:=match ev Φ se ρ with
 | .ok (.lst os) ρ'=>aQ.go ts os ρ'
 | _=>none
def MJ (T:Tab) (B:Base) (ts:List Tg):TG:=fun v σ H Q=>∃ os ρ ρ' l,At T B H ρ σ ((.lst os,v)::l)∧aQ.go ts os ρ=some ρ'∧∀ σ' H',At T B H' ρ' σ' l→Q σ' H'
section
variable {T:Tab}{B:Base}{Φ:cU}{W:WX}{X:Cx}{e:Expr}{se:SE}{pos tpos:Pos}
theorem Jp {es:List Expr}{k:Nat}{ts:List Tg} (hK:X.K=T.K) (hc:X.calm=true) (h:PGs X es (HZ T B ts)) (hn:(assignEach es X.env).length=ts.length) (hst:(assignEach es X.env).findIdx? (·.1)=none):PG X (.Tuple es k tpos) (MJ T B ts):=by
 refine(pg_unl (n:=ts.length) hc h hn hst).pv fun pins s v σ H Q I ⟨os,ρ,ρ',l,a,e,q⟩=>?_
 have s1:Sat T B H ((.lst os,v)::(ah ρ σ++l)):=a.sat.perm List.perm_middle
 obtain⟨b,vs,rfl,hb,hl,s2⟩:=ae.openL s1
 exact⟨b,vs,rfl,.inl (.inl hb),by rw [← hl,rq e],os,ρ,ρ',l,hl,⟨a.ok,s2.letgo.perm aG,a.pr⟩,e,q⟩
theorem Hn {es:List Expr}{k:Nat}{ts:List Tg} (he:PE X e (tE T B Φ W se)) (hg:PG X (.Tuple es k tpos) (MJ T B ts)) (hs:swapsWithSole [.Tuple es k tpos] e pos.line X.env=pure false) (hw:swappedStores [.Tuple es k tpos] e X.env=pure none)
  (h1:(assignEach [.Tuple es k tpos] X.env).map (·.2) = [assign (.Tuple es k tpos) X.env]):PS X (.Assign [.Tuple es k tpos] e pos) (tS T B Φ W (.osl (yl Φ ts se))) :=
 (ps_asg he hg hs hw h1).pv fun D σ H ⟨ρ,l,at_,h⟩=>by
  rw [bo]at h
  obtain⟨ρ2,e2,h⟩:=h.bnd
  unfold yl at e2
  split at e2
  ·rename_i os ρ1 e3
   refine⟨ρ,l,at_,?_⟩
   rw [e3]
   intro v H1 a1
   exact⟨os,ρ1,ρ2,l,a1,e2,fun σ' H' a'=>h σ' H' a'⟩
  ·cases e2
end
end PV
namespace PV
open PySem PySem.Spec PyProof.Rows L2
open PySem.W (alike EachIs dataLe AllAlike Sortable KdlSrc kdl_hint_dict)
def iT (as:List D):Option O:=match as with
 | [.dic ks _]=>if(keysOf ks).isSome||(au ks).isSome then lI [.lst ks]else none
 | _=>lI as
section
variable {prog:Program}{w:World}{d:Addr}{es:Array DictEntry}{ep:Nat}
theorem kdl_raw (lo:(d == sysModules)=false):KdlSrc prog w "dict" d d es.size (fun i v=>∃ hi:i < es.size,v=es[i].key) (fun h=>h.DictRaw d es ep) where
 type:=fun _ hm=>hm.typeIs
 there:=fun _ hm=>by obtain⟨o,ho,_⟩:=hm; exact⟨Heap.lt_size ho,Heap.lt_size ho⟩
 keep:=fun _ _ hm hk=>hm.at fun o e=>hk d (.inl rfl) o e
 notList:=by decide
 notTuple:=by decide
 hint:=fun _ _ _ _ hm hq=>kdl_hint_dict hm.typeIs hq
 iter:=fun _ _ hh hm=>⟨_,_,(fun _ _ hq=>wpAny_pyIter_dict_raw lo hm hq),Walks.rawKeys hh _ d (Nat.ne_of_lt (by obtain⟨o,ho,_⟩:=hm; exact Heap.lt_size ho)) es ep,⟨⟨_,Heap.get?_push_size _ rfl,rfl,rfl⟩,hm.at fun o e=>Heap.get?_push_of_some _ e⟩⟩
end
section
variable {T:Tab}{B:Base}{Φ:cU}{W:WX}{X:Cx}{σ:L2.St}{l m:List bf}{H H':Hp}{pins:List (Addr×Obj)}{s:Shared}
theorem uv:∀ {ks:List D}{js:List (List Key)}{ws:List V}{xs:List (List Key×Addr×Value)},au ks=some js→js.length=ws.length→KT H (js.zip ws) xs→Sat T B H m →
  Sat T B H ((ks.map O.d).zip (xs.map fun y=>V.ref y.2.1)++m)∧xs.length=ks.length∧∀ i (h1:i < xs.length) (h2:i < ks.length),∃ j,aA ks[i]=some j∧H xs[i].2.1=some (.tup (j.map kV))
 | [],js,ws,xs,e,hl,r,s=>by
  rw [au]at e
  cases e
  have r:Paired _ ([]:List (List Key×V)) xs:=r
  cases r
  exact⟨s,rfl,fun i h=>by simp at h⟩
 | k::ks,js,ws,xs,e,hl,r,s=>by
  unfold au at e
  cases e1:aA k with
  | none=>rw [e1]at e; cases e
  | some j =>
   cases e2:au ks with
   | none=>rw [e1,e2]at e; cases e
   | some js' =>
    rw [e1,e2]at e
    injection e with e
    subst e
    cases ws with
    | nil=>cases hl
    | cons w ws =>
     have r:Paired _ ((j,w)::js'.zip ws) xs:=r
     cases r with
     | cons q t =>
      rename_i y ys
      obtain⟨s1,h1,h2⟩:=uv e2 (by simpa using hl) t s
      refine⟨?_,by simp [h1],fun i i1 i2=>?_⟩
      ·rw [List.map_cons,List.map_cons,List.zip_cons_cons]
       exact B9 e1 rfl q.2.1 s1
      ·cases i with
       | zero=>exact⟨j,e1,q.2.1⟩
       | succ i=>exact h2 i (by simpa using i1) (by simpa using i2)
theorem Ai (I:Inv X pins σ H s) {a:Addr}{ks:List D}{ws:List V} (hr:Bp H a ks ws) (s2:Sat T B H m) :
  ∃ (es:Array DictEntry) (ep:Nat) (kvs:List V),(a == sysModules)=false∧s.heap.DictRaw a es ep∧es.size=ks.length∧kvs.length=ks.length∧es.size≤sizeLine∧(∀ i (h1:i < es.size) (h2:i < kvs.length),RelV kvs[i] es[i].key) ∧
   (∀ i (h1:i < es.size) (h2:i < ks.length),∀ h':Heap,(∀ b u,s.heap.get? b=some u→h'.get? b=some u)→Reads h' es[i].key ks[i].toP [])∧Sat T B H ((ks.map O.d).zip kvs++m):=by
 rcases hr with⟨js,q1,rd,q3⟩ | ⟨js,q1,rd,q3⟩
 ·obtain⟨hz,hsm,vs,kv,dd⟩:=dk_rd I.hok rd
  obtain⟨g1,g2⟩:=kv_get kv q3
  obtain⟨es,ep,raw,hes,hk⟩:=dd.raw
  have hl:=rK q1
  have hvl:vs.length=js.length:=by rw [← g1,List.length_map]
  have key:∀ i (h1:i < es.size) (h2:i < js.length),keyIs js[i] es[i].key=true:=fun i h1 h2=>by
   have h3:i < vs.length:=by omega
   have:=(hk i h1 vs[i].1 vs[i].2 (List.getElem?_eq_getElem h3)).1
   have e:vs[i].1=js[i]:=by
    have h4:i < (vs.map (·.1)).length:=by rw [List.length_map]; exact h3
    have:(vs.map (·.1))[i]=vs[i].1:=List.getElem_map _
    rw [← this]
    simp only [g1]
   rw [e]at this
   exact this
  refine⟨es,ep,js.map kV,hsm,raw,by omega,by rw [List.length_map]; omega,by rw [List.length_zip]at hz; omega,fun i h1 h2=>?_,fun i h1 h2 h' _=>?_,mP q1 s2⟩
  ·rw [List.length_map]at h2
   rw [List.getElem_map]
   rcases keyIs_shape (key i h1 h2)with⟨n,t,e1,e2⟩ | ⟨n,t,e1,e2⟩
   ·rw [e1,e2]
    exact⟨t,rfl⟩
   ·rw [e1,e2]
    exact⟨t,rfl⟩
  ·have h3:i < js.length:=by omega
   obtain⟨dk,d1,d2⟩:=rJ q1 (List.getElem?_eq_getElem h3)
   rw [List.getElem?_eq_getElem h2]at d1
   cases d1
   rcases keyIs_shape (key i h1 h3)with⟨n,t,e1,e2⟩ | ⟨n,t,e1,e2⟩
   ·rw [e1]at d2
    rw [e2]
    generalize ks[i]=z at d2
    cases z <;> simp [keyOf]at d2
    subst d2
    rw [D.toP]
    exact .int _ _
   ·rw [e1]at d2
    rw [e2]
    generalize ks[i]=z at d2
    cases z <;> simp [keyOf]at d2
    subst d2
    rw [D.toP]
    exact .str _ _
 ·obtain⟨hz,hsm,xs,rel,dd⟩:=dt_rd I.hok rd
  obtain⟨es,ep,raw,hes,hk⟩:=dd.raw
  obtain⟨s3,hxl,hx⟩:=uv q1 q3 rel s2
  have hl:=pe q1
  refine⟨es,ep,xs.map fun y=>V.ref y.2.1,hsm,raw,by omega,by rw [List.length_map]; exact hxl,by rw [List.length_zip]at hz; omega,fun i h1 h2=>?_,fun i h1 h2 h' hk'=>?_,s3⟩
  ·rw [List.length_map]at h2
   rw [List.getElem_map]
   obtain⟨y,e1,e2,_⟩:=hk i h1
   rw [List.getElem?_eq_getElem h2]at e1
   cases e1
   exact e2
  ·have h3:i < xs.length:=by omega
   obtain⟨y,e1,e2,_⟩:=hk i h1
   rw [List.getElem?_eq_getElem h3]at e1
   cases e1
   obtain⟨j,t1,t2⟩:=hx i h3 h2
   obtain⟨e3,_⟩:=Ah t1
   rw [e2,e3]
   exact Eo (P:=X.prog) (w:=X.w) (AW (key_of I.hok t2) hk')
theorem Cg (hK:X.K=T.K) (hcalm:X.calm=true) (hu:X.A.units+200 < cLine):CallR X (.builtin "sorted") (fun xs H Q=>dX T B iT true xs H Q):=by
 intro pins s σ H xs us Q I r h
 have old:(∃ (os:List O) (l:List bf) (r0:O),os.length=xs.length∧Sat T B H (os.zip xs++l)∧lI (os.map O.frz)=some r0∧∀ u H',Sat T B H' ((r0,u)::((if true=true then os.map O.shal else os).zip xs++l))→Q u H')→wpAny (model X.prog X.w) X.A (call (.builtin "sorted") us) (EP X pins σ Q) X.xe s:=fun h=>cr_sorted (T:=T) (B:=B) hK hu pins s σ H xs us Q I r h
 obtain⟨os,l,r0,hl,sa,e,q⟩:=h
 by_cases hd:∃ ks ds,os.map O.frz = [.dic ks ds]
 ·obtain⟨ks,ds,ed⟩:=hd
  have hlo:os.length=1:=by
   have:=congrArg List.length ed
   simpa using this
  match os,hlo,xs,hl with
  | [o],_,[x],_ =>
   injection ed with eo _
   have sa:Sat T B H ((o,x)::l):=sa
   have e:iT [o.frz]=some r0:=e
   rw [eo]at e
   have e:(if((keysOf ks).isSome||(au ks).isSome)=true then lI [.lst ks]else none)=some r0:=e
   split at e
   ·obtain⟨a,ws,rfl,hr,hl2,s1⟩:=Sat.kidsD sa eo
    have s2:Sat T B H ((o.shal,V.ref a)::l):=ae.dropL s1
    have e:(if D.okdL 100 ks&&((ks.all fun a=>ks.all fun b=>alike a.toP b.toP)&&pU ks)then some (O.lst ((ks.mergeSort yi).map .d))else none)=some r0:=e
    split at e
    ·rename_i hc
     rw [Bool.and_eq_true,Bool.and_eq_true]at hc
     obtain⟨ok,hal,hsb⟩:=hc
     injection e with e
     subst e
     obtain⟨es,ep,kvs,hsm,raw,hes,hkl,hz,hrel,hread,s3⟩:=Ai I hr s2
     rw [Vals.ref1 r]
     refine Calls.call_function_entry PyProof.Rows.kind_sorted PyProof.Rows.plain_sorted PyProof.Rows.entry_sorted (PyProof.Rows.args_sorted1 _) ?_
     unfold Builtin.«sorted»
     refine wpAny_bind (m:=checkCount "sorted" 1 1 _) (wpAny_pure ?_)
     refine wpAny_bind (PySem.W.kdu_collect (A:=X.A.in1) (kdl_raw hsm) (I.ok.hd hcalm) raw hz fun h' tk acc hk hacc=>?_)
     have hal2:acc.toList.length=ks.length:=by rw [Array.length_toList,hacc.1,hes]
     have hit:∀ j (h1:j < acc.toList.length) (h2:j < es.size),acc.toList[j]=es[j].key:=fun j h1 h2=>by
      obtain⟨_,e2⟩:=hacc.2 j acc.toList[j] (by rw [← Array.getElem?_toList]; exact List.getElem?_eq_getElem h1)
      exact e2
     have I1:Inv X pins σ H {s with heap:=h',toks:=tk}:=I.kept hk
     refine wpAny_bind (wpAny_newList ?_ (by rw [hal2,← hes]; exact hz))
     have hoL:(h'.push (seqObj "list" acc.toList.toArray 0)).get? h'.objs.size=some (seqObj "list" acc.toList.toArray 0):=Heap.get?_push_size _ rfl
     show wpAny _ _ _ _ _ {s with heap:=h'.push (seqObj "list" acc.toList.toArray 0),toks:=tk}
     have e1:EachIs (fun u d=>∃ v:V,RelV v u∧(d,v)∈ks.zip kvs) acc.toList ks:=oH hal2 fun j h1 h2=>by
      have h3:j < es.size:=by omega
      have h4:j < kvs.length:=by omega
      refine⟨kvs[j],?_,?_⟩
      ·rw [hit j h1 h3]
       exact hrel j h3 h4
      ·have:=List.getElem_mem (l:=ks.zip kvs) (n:=j) (by rw [List.length_zip]; omega)
       rwa [List.getElem_zip]at this
     have er:EachIs (fun u d=>∃ as,Reads (h'.push (seqObj "list" acc.toList.toArray 0)) u (D.toP d) as∧h'.objs.size∉as) acc.toList ks:=oH hal2 fun j h1 h2=>by
      have h3:j < es.size:=by omega
      refine⟨[],?_,by simp⟩
      rw [hit j h1 h3]
      exact hread j h3 h2 _ fun b u eb=>Heap.get?_push_of_some _ (hk b u eb)
     have al:AllAlike (ks.map D.toP):=fun d hd d' hd'=>by
      obtain⟨y,hy,rfl⟩:=List.mem_map.mp hd
      obtain⟨z,hz',rfl⟩:=List.mem_map.mp hd'
      exact List.all_eq_true.mp (List.all_eq_true.mp hal y hy) z hz'
     have so:Sortable (ks.map D.toP):=by
      unfold pU at hsb
      rw [Bool.or_eq_true]at hsb
      rcases hsb with hsb | hsb
      ·refine .inl fun d hd=>?_
       obtain⟨y,hy,rfl⟩:=List.mem_map.mp hd
       have:=List.all_eq_true.mp hsb y hy
       match y,this with
       | .tup (z::zs),_=>exact⟨z.toP,D.toPL zs,by simp only [D.toP,D.toPL]⟩
      ·refine .inr fun d hd=>?_
       obtain⟨y,hy,rfl⟩:=List.mem_map.mp hd
       have:=List.all_eq_true.mp hsb y hy
       have oky:=jY ok y hy
       cases y <;> simp at this <;> simp [D.toP] <;> simp [D.okd]at oky
     refine wpAny_bind (wpAny_holding (PySem.W.list_sort_data (s:={s with heap:=h'.push (seqObj "list" acc.toList.toArray 0),toks:=tk}) (enc:=D.toP) (bs:=ks) hoL e1 er al so (by rw [← hes]; exact hz) (fun b hb=>?_) fun out hlo eo2=>?_))
     ·have:=(eM 100 b (jY ok b hb)).2
      show X.A.units+1+1+_ < _
      omega
     ·obtain⟨vs2,rv,hlw,hmw⟩:=ph eo2
      obtain⟨c,hc⟩:=PyProof.Rows.sortedHeap_at (vs:=acc.toList) (out:=out.toArray) hoL
      have nf:H h'.objs.size=none:=I1.hok.fresh (Nat.le_refl _)
      have hz2:vs2.length≤sizeLine:=by rw [rv.length,hlo,← hes]; exact hz
      refine wpAny_pure ⟨_,rfl,.ref h'.objs.size,upd H h'.objs.size (.lst vs2),I1.laid (t':=tk) (fun b u eb=>?_) (Nat.le_refl _) (show ObjOk X.prog X.w _ _ _ (.lst vs2)from⟨hz2,out,c,rv,hc⟩),rfl,q _ _ ?_⟩
      ·have hb:b < h'.objs.size:=Heap.lt_size eb
       rw [PyProof.Rows.sortedHeap_old (Nat.ne_of_lt hb) (by rw [size_push']; exact Nat.lt_succ_of_lt hb)]
       exact Heap.get?_push_of_some _ eb
      ·have s4:ae T B H [] (((ks.mergeSort yi).map O.d).zip vs2++((ks.map O.d).zip kvs++(o.shal,V.ref a)::l)):=ae.again s3 hlw fun p hp=>by
        have hm:=hmw p hp
        refine List.mem_append_left _ ?_
        obtain⟨j,hj,ej⟩:=List.getElem_of_mem hm
        have hj':j < ((ks.map O.d).zip kvs).length:=by rw [List.length_zip,List.length_map]; rw [List.length_zip]at hj; omega
        have:=List.getElem_mem hj'
        rw [List.getElem_zip,List.getElem_map]at this
        rw [List.getElem_zip]at ej
        rw [← ej]
        exact this
       have s5:ae T B H [] (((ks.mergeSort yi).map O.d).zip vs2++((o.shal,V.ref a)::l)):=by
        have pm:(((ks.mergeSort yi).map O.d).zip vs2++((ks.map O.d).zip kvs++(o.shal,V.ref a)::l)).Perm ((ks.map O.d).zip kvs++(((ks.mergeSort yi).map O.d).zip vs2++(o.shal,V.ref a)::l)):=by
         rw [← List.append_assoc,← List.append_assoc]
         exact List.perm_append_comm.append_right _
        exact(s4.perm pm).dropL
       exact Sat.newL s5 (by rw [List.length_map]; exact hlw) nf
    ·cases e
   ·cases e
 ·refine old ⟨os,l,r0,hl,sa,?_,q⟩
  have:iT (os.map O.frz)=lI (os.map O.frz):=by
   unfold iT
   split
   ·rename_i ks ds heq
    exact absurd ⟨ks,ds,heq⟩ hd
   ·rfl
  rw [← this]
  exact e
theorem Aj {x:Str}{p pos:Pos}{e:Expr}{se:SE} (hK:X.K=T.K) (hc:X.calm=true) (hu:X.A.units+200 < cLine) (hn:x = "sorted") (hg:Gl X x) (hm:X.mg x=none) (ha:PE X e (tA T B Φ W se))
  (he:starEach (e::[]) X.env=(false,eval e X.env)::starEach [] X.env) (hpl:(backTo pos (starEach [] X.env)).any (·.1)=false):PE X (.Call (.Name x p) [e] [] pos) (tE T B Φ W (.ofn true iT [se])):=by
 subst hn
 refine(pe_callB (Cg (T:=T) (B:=B) hK hc hu) hg hm rfl (aF ha aq he) (by decide) (by decide) he hpl).pv fun σ H Q ⟨ρ,l,at_,h⟩=>?_
 rw [ev]at h
 exact⟨ρ,l,at_,h.rg.bind.mono fun as ρ1 k1 vs H1 a1 av=>fY k1 a1 av⟩
end
end PV
namespace PV
open PySem PySem.Spec PyProof.Rows L2
section
variable {T:Tab}{B:Base}{Φ:cU}{W:WX}{X:Cx}{x:Str}{pos:Pos}{e:Expr}{es:List Expr}{ses:List SE}{k fi lv:Nat}{ps:List Str}{run:List O→bA}{p:Pos}
theorem vA (i:Nat) (hN:X.N[i]?=some x:=by rfl) (hv:Vis X.env.scope x:=by exact .inl rfl) (hd:(x == ("__debug__" : Str))=false:=by rfl) (hc:(x == ("__classdict__" : Str))=false:=by rfl):PE X (.Name x pos) (tA T B Φ W (.var i)):=dF hN hv hd hc
theorem vE (i:Nat) (hN:X.N[i]?=some x:=by rfl) (hv:Vis X.env.scope x:=by exact .inl rfl) (hd:(x == ("__debug__" : Str))=false:=by rfl) (hc:(x == ("__classdict__" : Str))=false:=by rfl):PE X (.Name x pos) (tE T B Φ W (.var i)):=IL hN hv hd hc
theorem aV (i:Nat) (hs:PA X es (sY T B Φ W ses)) (hN:X.N[i]?=some x:=by rfl) (hv:Vis X.env.scope x:=by exact .inl rfl) (hd:(x == ("__debug__" : Str))=false:=by rfl) (hc:(x == ("__classdict__" : Str))=false:=by rfl)
  (hst:starEach (.Name x pos::es) X.env=(false,eval (.Name x pos) X.env)::starEach es X.env:=by rfl):PA X (.Name x pos::es) (sY T B Φ W (.var i::ses)):=aF (dF hN hv hd hc) hs hst
theorem cInt {i:Int}{j:Nat}:PE X (.Constant (.int i) j pos) (tE T B Φ W (.lit (.int i))):=JS pe_int (fun _ _=>rfl)
theorem cS {i:Str}{j:Nat}:PE X (.Constant (.str i) j pos) (tE T B Φ W (.lit (.str i))):=JS pe_str (fun _ _=>rfl)
theorem cB {i:Bool}{j:Nat}:PE X (.Constant (.bool i) j pos) (tE T B Φ W (.lit (.bl i))):=JS pe_bl (fun _ _=>rfl)
theorem cN {j:Nat}:PE X (.Constant .none j pos) (tE T B Φ W (.lit .non)):=JS pe_non (fun _ _=>rfl)
theorem tO (i:Nat) (hN:X.N.Nodup) (hp:∀ p∈B.pr,p.1≠i) (hi:X.N[i]?=some x:=by rfl) (hx:Loc X.env.scope x:=by exact .inl rfl) (hf:X.fn x=true∨X.env.scope.names.lookup x=some .local:=by exact .inl rfl):PG X (.Name x pos) (gO T B (.nm i)):=Fs hN hi hx hf hp
theorem LH (i:Nat) (hN:X.N.Nodup) (hp:∀ p∈B.pr,p.1≠i) (hi:X.N[i]?=some x:=by rfl) (hx:Loc X.env.scope x:=by exact .inr rfl) (hf:X.fn x=true∨X.env.scope.names.lookup x=some .local:=by exact .inl rfl):PG X (.Name x pos) (gO T B (.nm i)):=Fs hN hi hx hf hp
theorem tG (i:Nat) (hN:X.N.Nodup) (hp:∀ p∈B.pr,p.1≠i) (hi:X.N[i]?=some x:=by rfl) (hx:Loc X.env.scope x:=by exact .inl rfl) (hf:X.fn x=true∨X.env.scope.names.lookup x=some .local:=by exact .inl rfl):PG X (.Name x pos) (gT T B (.nm i)):=BM hN hi hx hf hp
theorem ym (i:Nat) (hN:X.N.Nodup) (hp:∀ p∈B.pr,p.1≠i) (hi:X.N[i]?=some x:=by rfl) (hx:Loc X.env.scope x:=by exact .inl rfl) (hf:X.fn x=true∨X.env.scope.names.lookup x=some .local:=by exact .inr rfl):PG X (.Name x pos) (gT T B (.nm i)):=BM hN hi hx hf hp
theorem cC (F:Callee X.prog X.w X.K X.mg X.base T x ps k run) (hr:Room lv X.A) (tk:Takes X W) (ha:PA X (e::es) (sY T B Φ W ses)) (hΦ:(Φ fi).run=run:=by rfl) (hl:k≤lv:=by first | exact Nat.le_refl _ | omega) (hg:Gl X x:=by rfl) (hdb:(x == ("__debug__" : Str))=false:=by rfl)
  (he:starEach (e::es) X.env=(false,eval e X.env)::starEach es X.env:=by rfl) (hpl:(backTo pos (starEach es X.env)).any (·.1)=false:=by rfl):PE X (.Call (.Name x p) (e::es) [] pos) (tE T B Φ W (.call fi ses)):=mS F hΦ hr hl hg tk ha hdb he hpl
theorem hZ {n:Nat} (h:n≤1000:=by decide):n≤sizeLine:=I0 h
end
theorem FL {u n:Nat} (h:u+200 < cLine) (hn:n≤200:=by decide):u+n < cLine:=by omega
theorem qk {N P:List Str}{sc:Scope} (h1:sc.kind = .function:=by rfl) (h2:sc.isCoroutine=false:=by rfl) (h3:sc.isGenerator=false:=by rfl) (h4:N.Nodup:=by decide +kernel) (h5:N.take P.length=P:=by rfl) (h6:∀ x∈P,sc.names.lookup x=some .local∨sc.names.lookup x=some .cell:=by decide +kernel) (h7:∀ y∈sc.names,y.2≠.free:=by decide +kernel):FnScope N P sc:=⟨h1,h2,h3,h4,h5,h6,h7⟩
theorem ip {P:Program}{w:World}{K:PySem.W.Frag}{mg:Str→Option Value}{base:Heap}{N:List Str}{q:Str}{sc:Scope}{f:Addr}{c:Value}{A:Around}{o:List PySem.Env}{s:Shared}{H:Hp}{E:XK}:Takes (cxOf (L2.CX P w) P w K mg base N q sc f c A o s H E) (fun cls d _ H=>E cls d H):=takes_of rfl rfl rfl rfl
end PV
namespace PV
open PySem PySem.Spec PyProof.Rows L2
def rP (x:Str) (n:Nat):Str:=⟨((List.replicate n x.cps.toList).flatten).toArray⟩
def fe (as:List D):Option O:=match as with
 | [.str x,.int k]=>if 0≤k∧k≤100000∧x.length≤10000000∧x.length * k.toNat≤10000000 then some (.d (.str (rP x k.toNat)))else none
 | _=>none
theorem uw (x:Array Nat):∀ (n:Nat) (a:Array Nat),(List.replicate n x).foldl (· ++ ·) a=a++((List.replicate n x.toList).flatten).toArray
 | 0,a=>by simp
 | n+1,a=>by
  rw [List.replicate_succ,List.foldl_cons,uw x n,List.replicate_succ,List.flatten_cons,Array.append_assoc]
  refine congrArg (a ++ ·) ?_
  apply Array.toList_inj.mp
  simp
section
variable {T:Tab}{B:Base}{Φ:cU}{W:WX}{X:Cx}{σ:L2.St}{l m:List bf}{H:Hp}{ρ:Env}{pins:List (Addr×Obj)}{s:Shared}
theorem Ci (hK:X.K=T.K):OpR X (binaryOp .Mult) (fun x y H Q=>dX T B fe true [x,y] H Q):=by
 intro pins s σ H x y v u Q I rx ry h
 obtain⟨o,p,l,r,sa,e,q⟩:=Bj h
 have d1:=sa.read
 have d2:=sa.read2
 cases ea:o.frz with
 | str a =>
  rw [ea]at e d1
  cases eb:p.frz with
  | int k =>
   rw [eb]at d2 e
   have d1:x = .str a:=d1
   have d2:y = .int k:=d2
   subst d1 d2
   have e:(if 0≤k∧k≤100000∧a.length≤10000000∧a.length * k.toNat≤10000000 then some (O.d (.str (rP a k.toNat)))else none)=some r:=e
   by_cases hc:0≤k∧k≤100000∧a.length≤10000000∧a.length * k.toNat≤10000000
   ·rw [if_pos hc]at e
    injection e with e
    subst e
    have pa:o.shal=o:=by cases o <;> first | rfl | cases ea
    have pb:p.shal=p:=by cases p <;> first | rfl | cases eb
    rw [if_pos rfl,if_pos rfl,pa,pb]at q
    obtain⟨t1,rfl⟩:=rx
    obtain⟨t2,rfl⟩:=ry
    have hm:a.length * k.toNat≤10000000:=hc.2.2.2
    have hc3:=hc.2.2.1
    have hlen:(rP a k.toNat).length=k.toNat * a.length:=by
     show((List.replicate k.toNat a.cps.toList).flatten).toArray.size=_
     rw [List.size_toArray]
     simp
     rfl
    have hfin:=q (.str (rP a k.toNat)) H sa.str
    have hr:(decide (k < -(2 ^ 63:Int))||decide (k ≥ 2 ^ 63))=false:=by
     rw [decide_eq_false (by omega),decide_eq_false (by omega)]
     rfl
    have hb:¬ k < 1→(k == 1||a.length == 0)=false→¬ ((a.length:Int) > (2 ^ 63 - 1) / k):=fun h1 h2=>by
     have h4:(a.length:Int)≤10000000:=by omega
     have h3:(92233720368547:Int)≤(2 ^ 63 - 1) / k:=Int.le_ediv_of_mul_le (by omega) (by omega)
     generalize (2 ^ 63 - 1) / k=g at h3 ⊢
     omega
    have hl:¬ k < 1→(k == 1||a.length == 0)=false→Builtin.Str.tooLong (a.length * k.toNat)=false:=fun h1 h2=>by
     unfold Builtin.Str.tooLong
     exact decide_eq_false (by rw [sizeLine_eq]; omega)
    refine P.mul_str hr hb hl ?_
    by_cases h1:k < 1
    ·rw [if_pos h1]
     have h0:k=0:=by omega
     subst h0
     exact⟨by decide,.str Str.empty,H,I.tok _,⟨_,rfl⟩,hfin⟩
    ·rw [if_neg h1]
     by_cases h2:(k == 1||a.length == 0)=true
     ·rw [if_pos h2]
      have h3:rP a k.toNat=a:=by
       rcases(Bool.or_eq_true _ _).mp h2 with h | h
       ·have h:k=1:=by simpa using h
        subst h
        unfold rP
        simp
       ·have h:a.length=0:=by simpa using h
        have h:a.cps.size=0:=h
        have:a.cps = #[]:=Array.eq_empty_of_size_eq_zero h
        cases a
        subst this
        unfold rP
        simp
      rw [h3]at hfin
      exact⟨.str a,H,I,⟨_,rfl⟩,hfin⟩
     ·rw [if_neg h2,uw]
      have h3:(⟨#[]++((List.replicate k.toNat a.cps.toList).flatten).toArray⟩:Str)=rP a k.toNat:=by
       unfold rP
       simp
      rw [h3]
      exact⟨by rw [hlen,sizeLine_eq,Nat.mul_comm]; omega,.str (rP a k.toNat),H,I.tok _,⟨_,rfl⟩,hfin⟩
   ·rw [if_neg hc]at e; cases e
  | _=>rw [eb]at e; cases e
 | _=>rw [ea]at e; cases e
theorem rQ (hK:X.K=T.K) {a b:Expr}{sa sb:SE}{pos:Pos} (ha:PE X a (tA T B Φ W sa)) (hb:PE X b (tA T B Φ W sb)):PE X (.BinOp a .Mult b pos) (tE T B Φ W (.ofn true fe [sa,sb])) :=
 (pe_op (Ci (T:=T) (B:=B) hK) ha hb).pv fun σ H Q ⟨ρ,l,at_,h⟩=>wF at_ (by
  have h:RP T B W σ l ((cj Φ [sa,sb] ρ).bind fun as ρ=>pM fe true as ρ) Q:=by rwa [ev]at h
  rw [Cf]at h
  exact h.rg)
end
end PV
namespace PV
open PySem PySem.Spec PyProof.Rows L2
def l0 (as:List D):Option O:=match as with
 | [.int i]=>if i.natAbs.log2 < 1920 then some (.d (.str (Str.ofString (toString i))))else none
 | _=>none
def fg (as:List D):Option O:=match as with
 | [.str a]=>if a.length≤640 then(PySem.intText? a).map fun n=>.d (.int n)else none
 | _=>none
def j5 (as:List D):Option O:=match as with
 | [.str a,.str y]=>if(a++y).length≤sizeLine∧y.length≤sizeLine then some (.d (.str (a++y)))else none
 | [.str a,.int i]=>if i.natAbs.log2 < 1920∧(a++Str.ofString (toString i)).length≤sizeLine then some (.d (.str (a++Str.ofString (toString i))))else none
 | _=>none
section
variable {T:Tab}{B:Base}{Φ:cU}{W:WX}{X:Cx}
theorem Ho {as:List D}{r:O} (e:l0 as=some r):as.length=1:=by
 unfold l0 at e
 split at e
 ·rfl
 ·cases e
theorem Hq {as:List D}{r:O} (e:fg as=some r):as.length=1:=by
 unfold fg at e
 split at e
 ·rfl
 ·cases e
theorem Ep:CallR X (.type "str") (fun xs H Q=>dX T B l0 false xs H Q):=by
 intro pins s σ H xs us Q I r h
 obtain⟨y,rfl⟩:=kB h fun as r e=>Ho e
 obtain⟨o,l,r0,sa,e,q⟩:=oq h
 have hv:=sa.read
 generalize o.frz=d at e hv
 match d,e,hv with
 | .int i,e,hv =>
  have e:(if i.natAbs.log2 < 1920 then some (O.d (.str (Str.ofString (toString i))))else none)=some r0:=e
  split at e
  ·rename_i hc
   injection e with e
   subst e
   have hv:y = .int i:=hv
   subst hv
   exact call_str_int pins s σ H _ us Q I r ⟨i,rfl,hc,q _ _ sa.str⟩
  ·cases e
theorem Er:CallR X (.type "int") (fun xs H Q=>dX T B fg false xs H Q):=by
 intro pins s σ H xs us Q I r h
 obtain⟨y,rfl⟩:=kB h fun as r e=>Hq e
 obtain⟨o,l,r0,sa,e,q⟩:=oq h
 have hv:=sa.read
 generalize o.frz=d at e hv
 match d,e,hv with
 | .str a,e,hv =>
  have e:(if a.length≤640 then(PySem.intText? a).map fun n=>O.d (.int n)else none)=some r0:=e
  split at e
  ·rename_i hc
   obtain⟨n,hn,e⟩:=Option.map_eq_some_iff.mp e
   subst e
   have hv:y = .str a:=hv
   subst hv
   exact call_int_str pins s σ H _ us Q I r ⟨a,n,rfl,hn,hc,q _ _ sa.int⟩
  ·cases e
variable {x:Str}{p pos:Pos}{e:Expr}{se:SE}
theorem Cj (hn:x = "str") (hg:Gl X x) (hm:X.mg x=none) (ha:PE X e (tA T B Φ W se))
  (he:starEach (e::[]) X.env=(false,eval e X.env)::starEach [] X.env) (hpl:(backTo pos (starEach [] X.env)).any (·.1)=false):PE X (.Call (.Name x p) [e] [] pos) (tE T B Φ W (.ofn false l0 [se])):=by
 subst hn
 refine(pe_callTy (Ep (T:=T) (B:=B)) hg hm rfl (aF ha aq he) (by decide) (by decide) he hpl).pv fun σ H Q ⟨ρ,l,at_,h⟩=>?_
 rw [ev]at h
 exact⟨ρ,l,at_,h.rg.bind.mono fun as ρ1 k1 vs H1 a1 av=>fY k1 a1 av⟩
theorem vp (hn:x = "int") (hg:Gl X x) (hm:X.mg x=none) (ha:PE X e (tA T B Φ W se))
  (he:starEach (e::[]) X.env=(false,eval e X.env)::starEach [] X.env) (hpl:(backTo pos (starEach [] X.env)).any (·.1)=false):PE X (.Call (.Name x p) [e] [] pos) (tE T B Φ W (.ofn false fg [se])):=by
 subst hn
 refine(pe_callTy (Er (T:=T) (B:=B)) hg hm rfl (aF ha aq he) (by decide) (by decide) he hpl).pv fun σ H Q ⟨ρ,l,at_,h⟩=>?_
 rw [ev]at h
 exact⟨ρ,l,at_,h.rg.bind.mono fun as ρ1 k1 vs H1 a1 av=>fY k1 a1 av⟩
inductive FJ (T:Tab) (B:Base) (Φ:cU) (W:WX) (X:Cx):List Expr→List SE→Prop
 | nil:FJ T B Φ W X [] []
 | lit {z:Str}{e:Expr}{es:List Expr}{ses:List SE} (h:PE X e (tA T B Φ W (.lit (.str z)))) (r:FJ T B Φ W X es ses):FJ T B Φ W X (e::es) (.lit (.str z)::ses)
 | fmt {e:Expr}{se:SE}{es:List Expr}{ses:List SE}{pos:Pos} (h:PE X e (tA T B Φ W se)) (r:FJ T B Φ W X es ses):FJ T B Φ W X (.FormattedValue e (-1) none pos::es) (se::ses)
def yn (acc:SE):List SE→SE
 | []=>acc
 | s::ss=>yn (.ofn false j5 [acc,s]) ss
structure Cn (Φ:cU) (se:SE):Prop where
 a:∀ ρ,dJ Φ se ρ=(ev Φ se ρ).bind fun o ρ=>.ok (.val o) ρ
 t:∀ ρ o ρ',ev Φ se ρ = .ok o ρ'→∃ z,o = .d (.str z)
theorem mT {σ:L2.St}{H:Hp}{Q Q':VK} (h:tA T B Φ W se σ H Q) (k:∀ v H,Q v H→Q' v H):tA T B Φ W se σ H Q':=by
 obtain⟨ρ,l,at_,h⟩:=h
 exact⟨ρ,l,at_,h.mono fun a ρ1 q v H1 a1 av=>k _ _ (q v H1 a1 av)⟩
theorem vq {z:Str}:Cn Φ (.lit (.str z)):=⟨fun ρ=>by rw [dJ]; simp,fun ρ o ρ' e=>by
 rw [ev]at e
 injection e with e1 e2
 exact⟨z,e1.symm⟩⟩
theorem Es {as:List D}{r:O} (e:j5 as=some r):∃ z,r = .d (.str z):=by
 unfold j5 at e
 split at e
 ·split at e
  ·injection e with e
   exact⟨_,e.symm⟩
  ·cases e
 ·split at e
  ·injection e with e
   exact⟨_,e.symm⟩
  ·cases e
 ·cases e
theorem Hr {sa sb:SE}{ρ:Env}:ev Φ (.ofn false j5 [sa,sb]) ρ=(dJ Φ sa ρ).bind fun x ρ=>(dJ Φ sb ρ).bind fun y ρ=>pM j5 false [x,y] ρ:=by
 rw [ev]
 simp only [cj]
 cases dJ Φ sa ρ with
 | ok x ρ1 =>
  simp only [Res.bind_ok]
  cases dJ Φ sb ρ1 <;> rfl
 | _=>rfl
theorem vr {sa sb:SE}:Cn Φ (.ofn false j5 [sa,sb]):=⟨fun ρ=>by rw [dJ]; simp,fun ρ o ρ' e=>by
 rw [ev]at e
 obtain⟨as,ρ2,_,e⟩:=Res.bind_of e
 unfold pM at e
 obtain⟨os,ρ5,_,e⟩:=Res.bind_of e
 obtain⟨r,ρ6,e8,e⟩:=Res.bind_of e
 injection e with e
 subst e
 cases q:j5 (os.map O.frz)with
 | none=>rw [q]at e8; cases e8
 | some z =>
  rw [q]at e8
  injection e8 with e8
  subst e8
  exact Es q⟩
theorem Co {σ:L2.St}{H:Hp}{ρ:Env}{l:List bf}{v:V}{z:Str} (a:At T B H ρ σ ((.d (.str z),v)::l)):v = .str z:=by
 have s1:Sat T B H ((.d (.str z),v)::(ah ρ σ++l)):=a.sat.perm List.perm_middle
 exact s1.read
theorem yo {σ:L2.St}{H:Hp}{Q:VK} (t:Cn Φ se) (h:tA T B Φ W se σ H Q):tA T B Φ W se σ H (fun x H1=>∃ y,x = .str y∧Q (.str y) H1):=by
 obtain⟨ρ,l,at_,h⟩:=h
 refine⟨ρ,l,at_,?_⟩
 rw [t.a ρ]at h ⊢
 cases e:ev Φ se ρ with
 | ok o ρ1 =>
  rw [e]at h
  obtain⟨z,rfl⟩:=t.t ρ o ρ1 e
  intro v H1 a1 av
  have hv:v = .str z:=Co a1
  subst hv
  exact⟨z,rfl,h _ H1 a1 av⟩
 | exc C p ρ1 =>
  rw [e]at h
  exact h
 | bad =>
  rw [e]at h
  exact h
theorem xj {sa sb:SE}{σ:L2.St}{H:Hp}{K:VK} (t:Cn Φ sa) (h:tA T B Φ W (.ofn false j5 [sa,sb]) σ H K):tA T B Φ W sa σ H fun x H1=>∃ y,x = .str y∧tA T B Φ W sb σ H1 fun w H2=>(∃ y2,w = .str y2∧y2.length≤sizeLine∧(y++y2).length≤sizeLine∧K (.str (y++y2)) H2)∨∃ i:Int,w = .int i∧i.natAbs.log2 < 1920∧(y++Str.ofString (toString i)).length≤sizeLine∧K (.str (y++Str.ofString (toString i))) H2:=by
 obtain⟨ρ,l,at_,h⟩:=h
 rw [(vr (Φ:=Φ) (sa:=sa) (sb:=sb)).a ρ]at h
 have h1:=h.bind
 rw [Hr]at h1
 have h2:=wF (Q:=K) at_ (h1.mono fun o ρ1 q v H1 a1=>q v H1 a1 trivial)
 refine mT (yo t h2) fun x H1 ⟨y,e,q⟩=>⟨y,e,mT q fun w H2 r=>?_⟩
 obtain⟨o,p,l2,r0,sa2,e2,q2⟩:=Bj r
 have d1:=sa2.read
 have d2:=sa2.read2
 generalize o.frz=a at e2 d1
 generalize p.frz=b at e2 d2
 match a,b,e2,d1,d2 with
 | .str a,.str b,e2,d1,d2 =>
  have d1:V.str y = .str a:=d1
  have d2:w = .str b:=d2
  injection d1 with d1
  subst d1 d2
  have e2:(if(y++b).length≤sizeLine∧b.length≤sizeLine then some (O.d (.str (y++b)))else none)=some r0:=e2
  split at e2
  ·rename_i hc
   injection e2 with e2
   subst e2
   exact .inl ⟨b,rfl,hc.2,hc.1,q2 _ _ sa2.str⟩
  ·cases e2
 | .str a,.int i,e2,d1,d2 =>
  have d1:V.str y = .str a:=d1
  have d2:w = .int i:=d2
  injection d1 with d1
  subst d1 d2
  have e2:(if i.natAbs.log2 < 1920∧(y++Str.ofString (toString i)).length≤sizeLine then some (O.d (.str (y++Str.ofString (toString i))))else none)=some r0:=e2
  split at e2
  ·rename_i hc
   injection e2 with e2
   subst e2
   exact .inr ⟨i,rfl,hc.1,hc.2,q2 _ _ sa2.str⟩
  ·cases e2
theorem Et {es:List Expr}{ses:List SE} (h:FJ T B Φ W X es ses):∃ ts,PJ X es ts∧∀ (acc:SE) (σ:L2.St) (H:Hp) (Q:VK),Cn Φ acc→tE T B Φ W (yn acc ses) σ H Q→tA T B Φ W acc σ H (fun x H1=>∃ y,x = .str y∧tJs ts y σ H1 (fun out H2=>Q (.str out) H2)):=by
 induction h with
 | nil =>
  refine⟨[],.nil,fun acc σ H Q t q=>?_⟩
  have q:tE T B Φ W acc σ H Q:=q
  obtain⟨ρ,l,at_,q⟩:=q
  refine yo t ⟨ρ,l,at_,?_⟩
  rw [t.a ρ]
  cases e:ev Φ acc ρ with
  | ok o ρ1 =>
   rw [e]at q
   exact fun v H1 a1 _=>by
    obtain⟨z,rfl⟩:=t.t ρ o ρ1 e
    have hv:v = .str z:=Co a1
    subst hv
    exact q _ H1 a1
  | exc C p ρ1 =>
   rw [e]at q
   exact q
  | bad =>
   rw [e]at q
   exact q
 | @lit z e es ses h r ih =>
  obtain⟨ts,j,ih⟩:=ih
  refine⟨_::ts,.cons h j,fun acc σ H Q t q=>?_⟩
  refine mT (xj t (ih _ σ H Q vr q)) fun x H1 ⟨y,e,q⟩=>⟨y,e,?_⟩
  refine mT (yo vq q) fun w H2 ⟨y2,e2,q2⟩=>?_
  rcases q2 with⟨y3,e3,h1,h2,y4,e4,q4⟩ | ⟨i,e3,_⟩
  ·injection e3 with e3
   injection e4 with e4
   subst e3 e4
   exact⟨y2,e2,h2,q4⟩
  ·cases e3
 | @fmt e se es ses pos h r ih =>
  obtain⟨ts,j,ih⟩:=ih
  refine⟨_::ts,.cons (pe_fmt h) j,fun acc σ H Q t q=>?_⟩
  refine mT (xj t (ih _ σ H Q vr q)) fun x H1 ⟨y,e,q⟩=>⟨y,e,?_⟩
  refine mT q fun w H2 q2=>?_
  rcases q2 with⟨y3,e3,h1,h2,y4,e4,q4⟩ | ⟨i,e3,h1,h2,y4,e4,q4⟩
  ·injection e4 with e4
   subst e4
   exact .inl ⟨y3,e3,h1,y3,rfl,h2,q4⟩
  ·injection e4 with e4
   subst e4
   exact .inr ⟨i,e3,h1,_,rfl,h2,q4⟩
theorem Jq {v1 v2:Expr}{rest:List Expr}{ses:List SE}{pos:Pos} (h:FJ T B Φ W X (v1::v2::rest) ses):PE X (.JoinedStr (v1::v2::rest) pos) (tE T B Φ W (yn (.lit (.str Str.empty)) ses)):=by
 obtain⟨ts,j,k⟩:=Et h
 refine(pe_joined j).pv fun σ H Q q=>?_
 obtain⟨ρ,l,at_,q⟩:=k _ σ H Q vq q
 have e:dJ Φ (.lit (.str Str.empty)) ρ = .ok (.val (.d (.str Str.empty))) ρ:=by
  rw [vq.a,ev]
  rfl
 rw [e]at q
 obtain⟨y,e,q⟩:=q (.str Str.empty) H ⟨at_.ok,at_.sat.str.perm List.perm_middle.symm,at_.pr⟩ trivial
 injection e with e
 subst e
 exact q
end
end PV
namespace PL
open PySem PySem.Spec PyProof.Rows L2 PV
def gS:List SS:=[.ite (.bor [.bnot (.isa [20] [.str] (.var 0)),.bnot (.cm2 .le .le (.lit (.int 1)) (.fn .len [.var 0]) (.glo "MOST_LETTERS" (.int 8)))]) [.ret (.lit (.bl false))] [],.ret (.fn .all [.comp .lst (.cm .isin (.var 1) (.glo "LETTERS" (.str "abcdefghijklmnopqrstuvwxyz"))) [1] (.nm 1) (.of (.var 0)) []])]
noncomputable def a9:List O→bA:=eY (cQ []) gS 1 2 [0]
def mU:List SS:=[.asg (.nm 1) (.comp .lst (.bi .sub (.var 2) (.bi .pow (.lit (.int 10)) (.lit (.int 18)))) [2] (.nm 2) (.of (.var 0)) [.cm .ge (.var 2) (.bi .pow (.lit (.int 10)) (.lit (.int 18)))]),.ret (.dct (ck [(.lit (.str "large"),.mv 1),(.lit (.str "cells"),.frz (.fn .list [.var 0])),(.lit (.str "rest"),.lit (.int 0)),(.lit (.str "turn"),.lit (.int 0))]))]
noncomputable def gU:List O→bA:=eY (cQ []) mU 1 3 [0]
def mV:List SS:=[.sub 0 [.lit (.str "turn")] (.bi .add (.idx (.var 0) (.lit (.str "turn"))) (.lit (.int 1))),.asg (.nm 1) (.lit (.int 0)),.for (.nm 2) (.of (.lst [.lit (.int 2147483629),.lit (.int 2147483587),.lit (.int 2147483579),.lit (.int 2147483563),.lit (.int 2147483549),.lit (.int 2147483543)])) [.asg (.nm 3) (.bi .add (.bi .mul (.lit (.int 104729)) (.idx (.var 0) (.lit (.str "turn")))) (.bi .fdiv (.var 2) (.lit (.int 7)))),.for (.nm 4) (.of (.idx (.var 0) (.lit (.str "cells")))) [.asg (.nm 3) (.bi .mod (.fn .int [.bi .add (.bi .mul (.var 3) (.lit (.int 48271))) (.var 4)]) (.var 2))],.asg (.nm 1) (.bi .add (.bi .mul (.var 1) (.lit (.int 2147483647))) (.bi .mod (.fn .int [.bi .pow (.var 3) (.lit (.int 5))]) (.var 2)))],.ret (.mv 1)]
noncomputable def iJ:List O→bA:=eY (cQ []) mV 1 5 [0]
def gb:List SS:=[.ite (.cm .eq (.idx (.var 0) (.lit (.str "rest"))) (.lit (.int 0))) [.sub 0 [.lit (.str "rest")] (.ite (.pkcm .ne 0 [.lit (.str "large")] (.lst [])) (.mu .popAt 0 [.lit (.str "large")] [.lit (.int 0)]) (.call 21 [.var 0]))] [],.asg (.nm 2) (.bi .mod (.fn .int [.idx (.var 0) (.lit (.str "rest"))]) (.var 1)),.sub 0 [.lit (.str "rest")] (.bi .fdiv (.idx (.var 0) (.lit (.str "rest"))) (.var 1)),.ret (.mv 2)]
noncomputable def aU:List O→bA:=eY (cQ [(21,iJ)]) gb 2 3 [0,1]
def l4:List SS:=[.ret (.idx (.var 1) (.call 22 [.var 0,.fn .len [.var 1]]))]
noncomputable def b8:List O→bA:=eY (cQ [(22,aU)]) l4 2 2 [0,1]
def oI:List SS:=[.asg (.nm 1) (.lit (.str "tree drop undo lasting ring room range periods fewest trees none ok no row")),.asg (.nm 1) (.mt .split (.bi .add (.var 1) (.lit (.str " more refused enough top end pair a b c"))) [.lit (.str " ")]),.asg (.nm 2) (.call 22 [.var 0,.lit (.int 40)]),.ite (.cm .lt (.var 2) (.fn .len [.var 1])) [.ret (.idx (.var 1) (.var 2))] [],.asg (.nm 3) (.lit (.str "abcdefghijklmnopqrstuvwxyz")),.ret (.mt .join (.lit (.str "")) [.comp .lst (.idx (.var 3) (.call 22 [.var 0,.lit (.int 26)])) [4] (.nm 4) (.range [.bi .add (.lit (.int 1)) (.call 22 [.var 0,.lit (.int 8)])]) []])]
noncomputable def j6:List O→bA:=eY (cQ [(22,aU)]) oI 1 5 [0]
def mW:List SS:=[.asg (.tp [.nm 2,.nm 3]) (.tup [.lst [],.comp .lst (.bi .add (.lit (.str "z")) (.var 6)) [6] (.nm 6) (.of (.lit (.str "abcdefghijklmnopqrstuvwxyz"))) []]),.for (.nm 4) (.range [.var 1]) [.asg (.nm 5) (.call 24 [.var 0]),.ite (.cm .isin (.var 5) (.var 2)) [.asg (.nm 5) (.idx (.comp .lst (.var 7) [7] (.nm 7) (.of (.var 3)) [.cm .notin (.var 7) (.var 2)]) (.lit (.int 0)))] [],.exp (.mu .append 2 [] [.var 5])],.ret (.mv 2)]
noncomputable def iK:List O→bA:=eY (cQ [(24,j6)]) mW 2 8 [0,1]
def yp:List SS:=[.asg (.tp [.nm 1,.nm 2]) (.tup [.lst [],.lst [.var 0]]),.whl (.cm .ne (.var 2) (.lst [])) [.asg (.nm 3) (.mu .pop 2 [] []),.ite (.bnot (.isa [20] [.tuple] (.var 3))) [.ret (.lit (.bl false))] [],.for (.nm 4) (.of (.var 3)) [.ite (.bor [.bnot (.isa [20] [.tuple] (.var 4)),.cm .ne (.fn .len [.var 4]) (.lit (.int 2)),.bnot (.call 2 [.idx (.var 4) (.lit (.int 0))])]) [.ret (.lit (.bl false))] [],.exp (.mu .append 1 [] [.idx (.var 4) (.lit (.int 0))]),.ite (.cm .gt (.fn .len [.var 1]) (.glo "MOST_NAMES" (.int 12))) [.ret (.lit (.bl false))] [],.exp (.mu .append 2 [] [.idx (.var 4) (.lit (.int 1))])]],.ret (.cm .eq (.fn .lenset [.var 1]) (.fn .len [.var 1]))]
noncomputable def yq:List O→bA:=eY (cQ [(2,a9)]) yp 1 5 [0]
def Ak:List SS:=[.asg (.nm 1) (.lst []),.for (.tp [.nm 2,.nm 3]) (.of (.var 0)) [.exp (.mu .append 1 [] [.tup [.var 2,.lit (.int 0)]]),.exp (.mu .extend 1 [] [.call 4 [.var 3]]),.exp (.mu .append 1 [] [.tup [.var 2,.lit (.int 1)]])],.ret (.mv 1)]
noncomputable def rR:Nat→List O→bA
 | 0=>fun _=>.bad
 | n+1=>eY (cQ [(4,rR n)]) Ak 1 4 [0]
noncomputable def Am:List O→bA:=rR 40
end PL
namespace PM
open PySem PySem.Spec PyProof.Rows L2 PV PL
def fJ:List SS:=[.ite (.bor [.bnot (.isa [20] [.str] (.var 0)),.bnot (.cm2 .le .le (.lit (.int 1)) (.fn .len [.var 0]) (.lit (.int 8)))]) [.ret (.lit (.bl false))] [],.ret (.cm .eq (.comp .lst (.var 1) [1] (.nm 1) (.of (.var 0)) [.cm .notin (.var 1) (.lit (.str "abcdefghijklmnopqrstuvwxyz"))]) (.lst []))]
end PM
namespace K72
open PySem PySem.Spec PyProof.Rows L2 PV PL PM PN K61 K09
noncomputable section
def An:List SS:=[.asg (.nm 2) (.var 1),.whl (.band [.cm .lt (.var 2) (.fn .len [.var 0]),.cm .notin (.idx (.var 0) (.var 2)) (.glo "MARKS" (.str "(),"))]) [.osl (Jo (cQ []) (fun i j=>i+j) 2 (.lit (.int 1)))],.ret (.slc (.var 0) (.var 1) (.var 2))]
noncomputable def ux:List O→bA:=eY (cQ []) An 2 3 [0,1]
end
end K72
namespace K74
open PySem PySem.Spec PyProof.Rows L2 PV PL PM PN K61 K09 K72 K71
noncomputable section
def iA:List SS:=[.ret (.band [.isa [] [.int] (.var 0),.bnot (.isa [] [.bool] (.var 0))])]
noncomputable def gd:List O→bA:=eY (cQ []) iA 1 1 [0]
def gS:List SS:=[.ite (.bor [.bnot (.isa [] [.str] (.var 0)),.bnot (.cm2 .le .le (.lit (.int 1)) (.fn .len [.var 0]) (.glo "MOST_LETTERS" (.int 8)))]) [.ret (.lit (.bl false))] [],.ret (.fn .all [.comp .lst (.cm .isin (.var 1) (.glo "LETTERS" (.str "abcdefghijklmnopqrstuvwxyz"))) [1] (.nm 1) (.of (.var 0)) []])]
noncomputable def a9:List O→bA:=eY (cQ []) gS 1 2 [0]
def mX:List SS:=[.ret (.band [.isa [] [.tuple] (.var 0),.cm .eq (.fn .len [.var 0]) (.lit (.int 2)),.call 210 [.idx (.var 0) (.lit (.int 0))],.call 210 [.idx (.var 0) (.lit (.int 1))]])]
noncomputable def bW:List O→bA:=eY (cQ [(210,gd)]) mX 1 1 [0]
def kG:List SS:=[.ite (.bnot (.isa [] [.dict] (.var 0))) [.ret (.lit (.bl false))] [],.ret (.fn .all [.lck 0 (.comp .lst (.band [.call 2 [.var 1],.call 220 [.idx (.var 0) (.var 1)]]) [1] (.nm 1) (.keys 0) [])])]
noncomputable def aX:List O→bA:=eY (cQ [(2,a9),(220,bW)]) kG 1 2 [0]
def l5:List SS:=[.ret (.band [.isa [] [.int] (.var 0),.bnot (.isa [] [.bool] (.var 0))])]
noncomputable def l6:List O→bA:=eY (cQ []) l5 1 1 [0]
def fJ:List SS:=[.ite (.bor [.bnot (.isa [] [.str] (.var 0)),.bnot (.cm2 .le .le (.lit (.int 1)) (.fn .len [.var 0]) (.lit (.int 8)))]) [.ret (.lit (.bl false))] [],.ret (.cm .eq (.comp .lst (.var 1) [1] (.nm 1) (.of (.var 0)) [.cm .notin (.var 1) (.lit (.str "abcdefghijklmnopqrstuvwxyz"))]) (.lst []))]
noncomputable def cb:List O→bA:=eY (cQ []) fJ 1 2 [0]
def gh:List SS:=[.ite (.bnot (.call 221 [.var 0])) [.rse 3 [.lit (.str "not a table")]] [],.ret (.mt .join (.lit (.str "")) [.comp .lst (yn (.lit (.str Str.empty)) [.var 1,.lit (.str " "),.idx (.idx (.var 0) (.var 1)) (.lit (.int 0)),.lit (.str " "),.idx (.idx (.var 0) (.var 1)) (.lit (.int 1)),.lit (.str "\n")]) [1] (.nm 1) (.of (.ofn true iT [.var 0])) []])]
noncomputable def aR:List O→bA:=eY (cQ [(221,aX)]) gh 1 2 [0]
def kH:List SS:=[.ite (.bnot (.isa [] [.str] (.var 0))) [.rse 14 [.lit (.int 0)]] [],.asg (.nm 1) (.mt .split (.var 0) [.lit (.str "\n")]),.ite (.cm .eq (.idx (.var 1) (.un .neg (.lit (.int 1)))) (.lit (.str ""))) [.exp (.mu .pop 1 [] []),.ret (.tup [.var 1,.lit (.bl true)])] [],.ret (.tup [.var 1,.lit (.bl false)])]
noncomputable def b5:List O→bA:=eY (cQ []) kH 1 2 [0]
def jh:List SS:=[.asg (.nm 1) (.ite (.cm .eq (.slc (.var 0) (.lit .non) (.lit (.int 1))) (.lit (.str "-"))) (.slc (.var 0) (.lit (.int 1)) (.lit .non)) (.var 0)),.ite (.bor [.bnot (.cm2 .le .le (.lit (.int 1)) (.fn .len [.var 1]) (.glo "MOST_DIGITS" (.int 40))),.bnot (.fn .all [.comp .lst (.cm .isin (.var 2) (.glo "DIGITS" (.str "0123456789"))) [2] (.nm 2) (.of (.var 1)) []])]) [.ret (.lit (.bl false))] [],.ret (.bor [.cm .eq (.var 0) (.lit (.str "0")),.cm .ne (.idx (.var 1) (.lit (.int 0))) (.lit (.str "0"))])]
noncomputable def cG:List O→bA:=eY (cQ []) jh 1 3 [0]
def oJ:List SS:=[.asg (.nm 2) (.mt .split (.var 0) [.lit (.str " ")]),.ite (.bor [.cm .ne (.fn .len [.var 2]) (.lit (.int 3)),.bnot (.call 2 [.idx (.var 2) (.lit (.int 0))]),.bnot (.call 486 [.idx (.var 2) (.lit (.int 1))]),.bnot (.call 486 [.idx (.var 2) (.lit (.int 2))])]) [.ret (.lit (.bl false))] [],.ret (.bor [.cm .is (.var 1) (.lit .non),.cm .lt (.var 1) (.idx (.var 2) (.lit (.int 0)))])]
noncomputable def eB:List O→bA:=eY (cQ [(2,a9),(486,cG)]) oJ 2 3 [0,1]
def gi:List SS:=[.asg (.tp [.nm 1,.nm 2]) (.call 482 [.var 0]),.asg (.tp [.nm 3,.nm 4]) (.tup [.dct [],.lit .non]),.for (.tp [.nm 5,.nm 6]) (.enum (.var 1)) [.ite (.bnot (.call 487 [.var 6,.var 4])) [.rse 14 [.var 5]] [],.osl (yl (cQ [(482,b5),(487,eB)]) [.nm 4,.nm 7,.nm 8] (.mt .split (.var 6) [.lit (.str " ")])),.sub 3 [.var 4] (.tup [.ofn false fg [.var 7],.ofn false fg [.var 8]])],.ite (.bnot (.var 2)) [.rse 14 [.bi .sub (.fn .len [.var 1]) (.lit (.int 1))]] [],.ret (.mv 3)]
noncomputable def aS:List O→bA:=eY (cQ [(482,b5),(487,eB)]) gi 1 9 [0]
def j7:List SS:=[.asg (.nm 2) (.lit .non),.try [0,3,14] [.asg (.nm 2) (.ite (.cm .eq (.var 0) (.lit (.int 0))) (.call 485 [.var 1]) (.call 488 [.var 1]))] 3 2,.ret (.mv 2)]
noncomputable def bP:List O→bA:=eY (cQ [(485,aR),(488,aS)]) j7 2 4 [0,1]
def kI:List SS:=[.asg (.nm 1) (.lst [.call 22 [.var 0,.lit (.int 12)],.bi .pow (.lit (.int 10)) (.lit (.int 5)),.bi .add (.bi .pow (.lit (.int 10)) (.lit (.int 17))) (.lit (.int 3)),.bi .pow (.lit (.int 10)) (.lit (.int 38)),.bi .pow (.lit (.int 10)) (.lit (.int 39))]),.asg (.nm 1) (.bi .add (.var 1) (.lst [.bi .sub (.bi .sub (.bi .pow (.lit (.int 10)) (.lit (.int 40))) (.lit (.int 1))) (.call 22 [.var 0,.lit (.int 3)])])),.asg (.nm 2) (.call 23 [.var 0,.var 1]),.ret (.ite (.cm .eq (.call 22 [.var 0,.lit (.int 2)]) (.lit (.int 0))) (.var 2) (.un .neg (.var 2)))]
noncomputable def eC:List O→bA:=eY (cQ [(22,aU),(23,b8)]) kI 1 3 [0]
def gZ:List SS:=[.asg (.nm 1) (.ite (.cm .eq (.slc (.var 0) (.lit .non) (.lit (.int 1))) (.lit (.str "-"))) (.slc (.var 0) (.lit (.int 1)) (.lit .non)) (.var 0)),.ite (.bor [.cm .eq (.var 1) (.lit (.str "")),.cm .gt (.fn .len [.var 1]) (.lit (.int 40))]) [.ret (.lit (.bl false))] [],.ite (.cm .ne (.comp .lst (.var 2) [2] (.nm 2) (.of (.var 1)) [.cm .notin (.var 2) (.lit (.str "0123456789"))]) (.lst [])) [.ret (.lit (.bl false))] [],.ret (.bor [.cm .eq (.var 0) (.lit (.str "0")),.cm .ne (.idx (.var 1) (.lit (.int 0))) (.lit (.str "0"))])]
noncomputable def bS:List O→bA:=eY (cQ []) gZ 1 3 [0]
def gj:List SS:=[.asg (.tp [.nm 1,.nm 2]) (.tup [.mt .split (.var 0) [.lit (.str "\n")],.lit (.str "")]),.asg (.nm 3) (.cm .eq (.idx (.var 1) (.un .neg (.lit (.int 1)))) (.lit (.str ""))),.asg (.nm 1) (.ite (.var 3) (.slc (.var 1) (.lit .non) (.un .neg (.lit (.int 1)))) (.var 1)),.for (.nm 4) (.range [.fn .len [.var 1]]) [.asg (.nm 5) (.mt .split (.idx (.var 1) (.var 4)) [.lit (.str " ")]),.ite (.bor [.cm .ne (.fn .len [.var 5]) (.lit (.int 3)),.bnot (.call 201 [.idx (.var 5) (.lit (.int 0))]),.cm .le (.idx (.var 5) (.lit (.int 0))) (.var 2)]) [.ret (.mv 4)] [],.ite (.bor [.bnot (.call 490 [.idx (.var 5) (.lit (.int 1))]),.bnot (.call 490 [.idx (.var 5) (.lit (.int 2))])]) [.ret (.mv 4)] [],.asg (.nm 2) (.idx (.var 5) (.lit (.int 0)))],.ret (.ite (.var 3) (.lit .non) (.bi .sub (.fn .len [.var 1]) (.lit (.int 1))))]
noncomputable def bV:List O→bA:=eY (cQ [(201,cb),(490,bS)]) gj 1 6 [0]
def mY:List SS:=[.asg (.tp [.nm 1,.nm 2]) (.tup [.call 491 [.var 0],.call 272 [.lit (.int 1),.var 0]]),.ite (.cm .isnot (.var 1) (.lit .non)) [.ret (.band [.isa [0,3,14] [.cls 14] (.var 2),.cm .eq (.ofn true (Dz 14 "line") [.var 2]) (.var 1)])] [],.asg (.nm 3) (.comp .lst (.mt .split (.var 5) [.lit (.str " ")]) [5] (.nm 5) (.of (.slc (.mt .split (.var 0) [.lit (.str "\n")]) (.lit .non) (.un .neg (.lit (.int 1))))) []),.asg (.nm 4) (.ofn true jZ [.comp .lst (.tup [.idx (.var 5) (.lit (.int 0)),.tup [.ofn false fg [.idx (.var 5) (.lit (.int 1))],.ofn false fg [.idx (.var 5) (.lit (.int 2))]]]) [5] (.nm 5) (.of (.var 3)) []]),.ret (.band [.isa [0,3,14] [.dict] (.var 2),.cm .eq (.var 2) (.var 4),.cm .eq (.call 272 [.lit (.int 0),.var 2]) (.var 0)])]
noncomputable def dS:List O→bA:=eY (cQ [(272,bP),(491,bV)]) mY 1 6 [0]
def oK:List SS:=[.ite (.cm .eq (.var 1) (.lst [])) [.ret (.lst [.call 23 [.var 0,.lst [.lit (.str ""),.lit (.str "a"),.lit (.str "a 1"),.lit (.str "a 1 2"),.lit (.str "a 1 2 "),.lit (.str " a 1 2"),.lit (.str "A 1 2")]]])] [],.asg (.tp [.nm 2,.nm 3]) (.tup [.call 22 [.var 0,.fn .len [.var 1]],.call 22 [.var 0,.fn .len [.var 1]]]),.asg (.nm 4) (.call 22 [.var 0,.lit (.int 5)]),.ite (.cm .eq (.var 4) (.lit (.int 0))) [.ret (.bi .add (.bi .add (.slc (.var 1) (.lit .non) (.var 2)) (.lst [.idx (.var 1) (.var 3)])) (.slc (.var 1) (.var 2) (.lit .non)))] [],.ite (.cm .eq (.var 4) (.lit (.int 1))) [.ret (.bi .add (.bi .add (.slc (.var 1) (.lit .non) (.var 2)) (.lst [.call 23 [.var 0,.lst [.lit (.str ""),.lit (.str " "),.lit (.str "a"),.lit (.str "zz 1 2"),.lit (.str "a 1 2")]]])) (.slc (.var 1) (.var 2) (.lit .non)))] [],.asg (.nm 5) (.mt .split (.idx (.var 1) (.var 2)) [.lit (.str " ")]),.asg (.nm 6) (.call 22 [.var 0,.fn .len [.var 5]]),.asg (.nm 7) (.lst [.lit (.str ""),.lit (.str "0"),.lit (.str "-0"),.lit (.str "00"),.lit (.str "01"),.lit (.str "-1"),.lit (.str "+1"),.ofn true fe [.lit (.str "1"),.lit (.int 40)],.ofn true fe [.lit (.str "1"),.lit (.int 41)],.bi .add (.lit (.str "-")) (.ofn true fe [.lit (.str "9"),.lit (.int 40)])]),.asg (.nm 7) (.bi .add (.var 7) (.lst [.bi .add (.lit (.str "-")) (.ofn true fe [.lit (.str "9"),.lit (.int 41)]),.ofn true fe [.lit (.str "2"),.lit (.int 5000)],.lit (.str "-"),.lit (.str "--1"),.lit (.str "1.0"),.lit (.str "x"),.lit (.str "X")])),.asg (.nm 7) (.bi .add (.var 7) (.lst [.lit (.str "abcdefgh"),.lit (.str "abcdefghi"),.lit (.str "1 2"),.lit (.str "1_0")])),.ite (.cm .eq (.var 4) (.lit (.int 2))) [.asg (.nm 5) (.bi .add (.slc (.var 5) (.lit .non) (.var 6)) (.slc (.var 5) (.bi .add (.var 6) (.lit (.int 1))) (.lit .non)))] [.asg (.nm 5) (.bi .add (.bi .add (.slc (.var 5) (.lit .non) (.var 6)) (.lst [.call 23 [.var 0,.var 7]])) (.slc (.var 5) (.bi .add (.var 6) (.fn .int [.cm .eq (.var 4) (.lit (.int 3))])) (.lit .non)))],.ret (.bi .add (.bi .add (.slc (.var 1) (.lit .non) (.var 2)) (.lst [.mt .join (.lit (.str " ")) [.var 5]])) (.slc (.var 1) (.bi .add (.var 2) (.lit (.int 1))) (.lit .non)))]
noncomputable def hJ:List O→bA:=eY (cQ [(22,aU),(23,b8)]) oK 2 8 [0,1]
def Cp:List SS:=[.for (.nm 1) (.range [.fn .max2 [.lit (.int 1),.fn .min2 [.lit (.int 8),.fn .len [.var 0]]]]) [.asg (.nm 2) (.call 20 [.bi .add (.slc (.var 0) (.var 1) (.lit .non)) (.slc (.var 0) (.lit .non) (.var 1))]),.asg (.nm 3) (.call 25 [.var 2,.call 22 [.var 2,.lit (.int 16)]]),.asg (.nm 4) (.ofn true jZ [.comp .lst (.tup [.var 6,.tup [.call 489 [.var 2],.call 489 [.var 2]]]) [6] (.nm 6) (.of (.var 3)) []]),.asg (.nm 5) (.lst []),.for (.nm 6) (.of (.ofn true lI [.var 3])) [.asg (.tp [.nm 7,.nm 8]) (.idx (.var 4) (.var 6)),.exp (.mu .append 5 [] [.bi .add (.bi .add (.bi .add (.bi .add (.var 6) (.lit (.str " "))) (.ofn false l0 [.var 7])) (.lit (.str " "))) (.ofn false l0 [.var 8])])],.asg (.nm 9) (.mt .join (.lit (.str "")) [.comp .lst (.bi .add (.var 14) (.lit (.str "\n"))) [14] (.nm 14) (.of (.var 5)) []]),.ite (.bor [.cm .ne (.callp 485 ([]++[.var 4]) [.inl 0]) (.var 9),.cm .ne (.callp 488 ([]++[.var 9]) [.inl 0]) (.var 4)]) [.ret (.lit (.bl false))] [],.ite (.cm .ne (.fn .list [.call 488 [.var 9]]) (.ofn true lI [.var 3])) [.ret (.lit (.bl false))] [],.for (.nm 10) (.range [.lit (.int 3)]) [.asg (.nm 5) (.call 215 [.var 2,.var 5]),.asg (.nm 9) (.mt .join (.lit (.str "")) [.comp .lst (.bi .add (.var 14) (.lit (.str "\n"))) [14] (.nm 14) (.of (.var 5)) []]),.ite (.bor [.bnot (.call 209 [.var 9]),.bnot (.call 209 [.slc (.var 9) (.lit .non) (.un .neg (.lit (.int 1)))])]) [.ret (.lit (.bl false))] []],.for (.nm 11) (.of (.lst [.lit .non,.lit (.int 0),.lit (.bl true),.lst [],.tup [.lit (.str "a"),.lit (.int 1),.lit (.int 2)],.dct [],.lst [.lit (.str "a 1 2")]])) [.asg (.nm 12) (.call 272 [.lit (.int 1),.var 11]),.ite (.bor [.bnot (.isa [0,3,14] [.cls 14] (.var 12)),.cm .ne (.ofn true (Dz 14 "line") [.var 12]) (.lit (.int 0))]) [.ret (.lit (.bl false))] []],.asg (.nm 13) (.lst [.lit .non,.lit (.int 0),.lit (.str "a 1 2"),.lst [],.dct (ck [(.lit (.str "A"),.tup [.lit (.int 1),.lit (.int 2)])]),.dct (ck [(.lit (.str "a"),.lst [.lit (.int 1),.lit (.int 2)])]),.dct (ck [(.lit (.str "a"),.tup [.lit (.int 1),.lit (.bl true)])]),.dct (ck [(.lit (.str "a"),.tup [.lit (.int 1)])]),.dct (ck [(.lit (.int 5),.tup [.lit (.int 1),.lit (.int 2)])])]),.for (.nm 11) (.of (.bi .add (.var 13) (.lst [.dct (ck [(.lit (.str "a"),.tup [.lit (.int 1),.lit (.str "2")])]),.dct (ck [(.lit (.str "a"),.lit .non)])]))) [.ite (.bnot (.isa [0,3,14] [.cls 3] (.call 272 [.lit (.int 0),.var 11]))) [.ret (.lit (.bl false))] []]],.ret (.band [.cm .eq (.call 485 [.dct []]) (.lit (.str "")),.cm .eq (.call 488 [.lit (.str "")]) (.dct [])])]
noncomputable def zz:List O→bA:=eY (cQ [(20,gU),(22,aU),(25,iK),(209,dS),(215,hJ),(272,bP),(485,aR),(488,aS),(489,eC)]) Cp 1 15 [0]
end
end K74
namespace K74
open PySem PySem.Spec PyProof.Rows L2 PV PL PM PN K61 K09 K72 K71
variable {P:Program}{w:World}{K:PySem.W.Frag}{mg:Str→Option Value}{base:Heap}{cls:Nat→Addr}{tbs:List (Addr×Str)}{dvs:List V}{kws:List (Str×V)}{f:Addr}{fd:FuncData}
theorem nq:FnScope ["value"] ["value"] (defScope cL):=qk
theorem vt (F:FunD K "is_integer" "is_integer" (defArgs cL) (defBody cL) (defScope cL) dvs kws f fd) (fz:qj K ⟨K,cls,tbs⟩ []) (cW:mg "int" = none) (ay:mg "isinstance" = none) (rS:mg "bool" = none):FnOk P w K mg base (L2.CX P w) 1 f fd ["value"] (bI ⟨K,cls,tbs⟩ gd) :=
 d6 F nq fun cdv A outer s H E B pr hr=>by
  have hu:=bz hr
  have hu1:=aY hr
  have nd:=nq.nd
  exact(aa (aN (nN (nk (jV (t:=.int) rfl fz rfl rfl ay (vA 0) (pe_bltn rfl cW (by decide +kernel) rfl) rfl rfl rfl) (nM (Fi rfl (ao (jV (t:=.bool) rfl fz rfl rfl ay (vA 0) (pe_bltn rfl rS (by decide +kernel) rfl) rfl rfl rfl) rfl)))))) ai)
theorem rT:FnScope ["value", "sign"] ["value"] (defScope d8):=qk
theorem Ao (F:FunD K "is_name" "is_name" (defArgs d8) (defBody d8) (defScope d8) dvs kws f fd) (fz:qj K ⟨K,cls,tbs⟩ []) (ji:mg "str" = none) (ay:mg "isinstance" = none) (bh:mg "len" = none) (pq:∃ t,mg "MOST_LETTERS" = some (.int 8 t)) (xk:∃ t,mg "LETTERS" = some (.str "abcdefghijklmnopqrstuvwxyz" t)) (oL:mg "all" = none):FnOk P w K mg base (L2.CX P w) 1 f fd ["value"] (bI ⟨K,cls,tbs⟩ a9) :=
 d6 F rT fun cdv A outer s H E B pr hr=>by
  have hu:=bz hr
  have hu1:=aY hr
  have nd:=rT.nd
  exact(aa (cZ (jE (jT (cO (uj rfl (ao (jV (t:=.str) rfl fz rfl rfl ay (vA 0) (pe_bltn rfl ji (by decide +kernel) rfl) rfl rfl rfl) rfl) rfl rfl)) (jD (cO (xY rfl (by exact hu) (k:=.le) (j:=.le) (ao cInt rfl) (ao (gQ (k:=.len) rfl rfl rfl rfl rfl bh (aV 0 aq) rfl rfl) rfl) (ao (B3 rfl pq rfl) rfl) (by with_unfolding_all rfl)))))) (aa (aN cB) ai) ai) (aa (aN (gQ (k:=.all) rfl rfl rfl rfl rfl oL (aF (ao (eP pr rfl nd (own:=[("sign",1)]) (se:=.cm .isin (.var 1) (.glo "LETTERS" (.str "abcdefghijklmnopqrstuvwxyz"))) (t:=.nm 1) (ie:=.of (.var 0)) (sifs:=[]) (by decide) rfl (by decide) (lG rfl (vA 0)) (blkOk_by (N:=["value", "sign"]) (sc:=defScope d8) (by decide +kernel)) (fun s H C cl fp=>(ym 1 nd (pr.ne rfl))) (fun s H C cl fp=>lX) (fun s H C cl fp=>(lR rfl (by exact hu) (k:=.isin) (vA 1) (ao (B4 rfl xk rfl) rfl) rfl)) (fun _=>rfl)) rfl) aq rfl) rfl rfl)) ai))
theorem rW:FnScope ["value"] ["value"] (defScope fu):=qk
theorem Ap (F:FunD K "is_pair" "is_pair" (defArgs fu) (defBody fu) (defScope fu) dvs kws f fd) (fz:qj K ⟨K,cls,tbs⟩ []) (Aq:mg "tuple" = none) (ay:mg "isinstance" = none) (bh:mg "len" = none) (l7:Callee P w K mg base ⟨K,cls,tbs⟩ "is_integer" ["value"] 1 gd):FnOk P w K mg base (L2.CX P w) 2 f fd ["value"] (bI ⟨K,cls,tbs⟩ bW) :=
 d6 F rW fun cdv A outer s H E B pr hr=>by
  have hu:=bz hr
  have hu1:=aY hr
  have nd:=rW.nd
  exact(aa (aN (nN (nk (jV (t:=.tuple) rfl fz rfl rfl ay (vA 0) (pe_bltn rfl Aq (by decide +kernel) rfl) rfl rfl rfl) (nk (lR rfl (by exact hu) (k:=.eq) (ao (gQ (k:=.len) rfl rfl rfl rfl rfl bh (aV 0 aq) rfl rfl) rfl) (ao cInt rfl) rfl) (nk (cC l7 (by exact hr) ip (aF (ao (bO rfl (by exact hu) (vA 0) (ao cInt rfl) (fun _ _=>rfl)) rfl) aq rfl)) (nM (cC l7 (by exact hr) ip (aF (ao (bO rfl (by exact hu) (vA 0) (ao cInt rfl) (fun _ _=>rfl)) rfl) aq rfl)))))))) ai)
theorem pV:FnScope ["value", "name"] ["value"] (defScope dz):=qk
theorem yr (F:FunD K "is_table" "is_table" (defArgs dz) (defBody dz) (defScope dz) dvs kws f fd) (fz:qj K ⟨K,cls,tbs⟩ []) (j8:mg "dict" = none) (ay:mg "isinstance" = none) (l8:Callee P w K mg base ⟨K,cls,tbs⟩ "is_name" ["value"] 1 a9) (xl:Callee P w K mg base ⟨K,cls,tbs⟩ "is_pair" ["value"] 2 bW) (oL:mg "all" = none):FnOk P w K mg base (L2.CX P w) 3 f fd ["value"] (bI ⟨K,cls,tbs⟩ aX) :=
 d6 F pV fun cdv A outer s H E B pr hr=>by
  have hu:=bz hr
  have hu1:=aY hr
  have nd:=pV.nd
  exact(aa (cZ (cO (uj rfl (ao (jV (t:=.dict) rfl fz rfl rfl ay (dF (i:=0) rfl (.inr (.inl rfl)) rfl rfl) (pe_bltn rfl j8 (by decide +kernel) rfl) rfl rfl rfl) rfl) rfl rfl)) (aa (aN cB) ai) ai) (aa (aN (gQ (k:=.all) rfl rfl rfl rfl rfl oL (aF (ao (I4 (i:=0) pr (fun B pr lk=>(eP pr rfl nd (own:=[("name",1)]) (se:=.band [.call 2 [.var 1],.call 220 [.idx (.var 0) (.var 1)]]) (t:=.nm 1) (ie:=.keys 0) (sifs:=[]) (by decide) rfl (by decide) (G6 (i:=0) lk rfl (.inr (.inl rfl)) rfl rfl) (blkOk_by (N:=["value", "name"]) (sc:=defScope dz) (by decide +kernel)) (fun s H C cl fp=>(ym 1 nd (pr.ne rfl))) (fun s H C cl fp=>lX) (fun s H C cl fp=>(nN (nk (mS l8 rfl (by exact hr) (by first | exact Nat.le_refl _ | omega) rfl rG (aV 1 aq) rfl rfl rfl) (nM (mS xl rfl (by exact hr) (by first | exact Nat.le_refl _ | omega) rfl rG (aF (ao (bO rfl (by exact hu) (dF (i:=0) rfl (.inr (.inl rfl)) rfl rfl) (vA 1) (fun _ _=>rfl)) rfl) aq rfl) rfl rfl rfl))))) (fun _=>rfl)))) rfl) aq rfl) rfl rfl)) ai))
theorem oM:FnScope ["self", "line"] ["self", "line"] (defScope bF):=qk
theorem pz {P:Program}{w:World}{K:PySem.W.Frag}{mg:Str→Option Value}{base:Heap}{cls:Nat→Addr}{dvs:List V}{kws:List (Str×V)}{f:Addr}{fd:FuncData} (F:FunD K "__init__" "BadText.__init__" (defArgs bF) (defBody bF) (defScope bF) dvs kws f fd) (h0:MF K mg (cls 0)) (hC:OexC K (cls 14)∧PySem.W.findIn K (.ref (cls 14)) "line" = some none):FnOk P w K mg base (L2.CX P w) 1 f fd ["self", "line"] (zu (cls 14) "line") :=
 F.ok oM (fun vs H Q E ⟨a,v,e,_⟩=>by rw [e]; rfl) fun cdv A outer s H vs Q E hr h=>by
  obtain⟨a,v,rfl,ha,qq⟩:=h
  refine⟨_,pss_cons (ps_expr (Ae rfl h0.g h0.r h0.v (pa_cons (pe_var (i:=0) rfl (.inl rfl)) (pa_cons pe_str pa_nil)))) (pss_one (ps_ost (pe_var (i:=0) rfl (.inl rfl)) (pe_var (i:=1) rfl (.inl rfl)))),?_⟩
  exact⟨.ref a,rfl,a,_,[.str _],rfl,by simp,hC.1,ha,v,rfl,.ref a,rfl,a,_,rfl,hC.1,hC.2,.inl ⟨ha,qq⟩⟩
theorem rX:FnScope ["_law_script", "_law_large", "_law_cell"] ["_law_script"] (defScope d9):=qk
theorem Ar (F:FunD K "_law_begun" "_law_begun" (defArgs d9) (defBody d9) (defScope d9) dvs kws f fd) (rY:mg "list" = none):FnOk P w K mg base (L2.CX P w) 1 f fd ["_law_script"] (bI ⟨K,cls,tbs⟩ gU) :=
 d6 F rX fun cdv A outer s H E B pr hr=>by
  have hu:=bz hr
  have hu1:=aY hr
  have nd:=rX.nd
  exact(aa (uk pr (i:=1) (own:=[("_law_cell",2)]) (se:=.bi .sub (.var 2) (.bi .pow (.lit (.int 10)) (.lit (.int 18)))) (t:=.nm 2) (ie:=.of (.var 0)) (sifs:=[.cm .ge (.var 2) (.bi .pow (.lit (.int 10)) (.lit (.int 18)))]) rfl nd rfl rfl rfl (sw_true rfl rfl rfl (by decide +kernel)) (by decide) rfl (by decide) (lG rfl (vA 0)) (blkOk_by (N:=["_law_script", "_law_large", "_law_cell"]) (sc:=defScope d9) (by decide +kernel)) (fun s H C cl fp=>(ym 2 nd (pr.ne rfl))) (fun s H C cl fp=>(ze (cY rfl (by exact hu) (k:=.ge) (vA 2) (ao (bR rfl (k:=.pow) (ao cInt rfl) (ao cInt rfl)) rfl) rfl))) (fun s H C cl fp=>(bR rfl (k:=.sub) (vA 2) (ao (bR rfl (k:=.pow) (ao cInt rfl) (ao cInt rfl)) rfl))) (fun _=>rfl)) (aa (aN (pT (kvs:=[(.lit (.str "large"),.mv 1),(.lit (.str "cells"),.frz (.fn .list [.var 0])),(.lit (.str "rest"),.lit (.int 0)),(.lit (.str "turn"),.lit (.int 0))]) (fun B e=>by have pr:=dy.eq pr e; exact(pps_cons cS (wD (i:=1) rfl (.inl rfl) rfl rfl) (pps_cons cS (IZ (gQ (k:=.list) rfl rfl rfl rfl rfl rY (aV 0 aq) rfl rfl)) (pps_cons cS cInt (pps_cons cS cInt pps_nil))))) rfl rfl (by simp) (by decide))) ai))
theorem rZ:FnScope ["_law_state", "_law_found", "_law_prime", "_law_blend", "_law_cell"] ["_law_state"] (defScope fv):=qk
theorem As (F:FunD K "_law_mixed" "_law_mixed" (defArgs fv) (defBody fv) (defScope fv) dvs kws f fd) (cW:mg "int" = none):FnOk P w K mg base (L2.CX P w) 1 f fd ["_law_state"] (bI ⟨K,cls,tbs⟩ iJ) :=
 d6 F rZ fun cdv A outer s H E B pr hr=>by
  have hu:=bz hr
  have hu1:=aY hr
  have nd:=rZ.nd
  exact(aa (vc rfl (by exact hu1) (bR rfl (k:=.add) (ao (bO rfl (by exact hu) (vA 0) (ao cS rfl) (fun _ _=>rfl)) rfl) (ao cInt rfl)) (oC rfl (.inl rfl) rfl rfl) (fun B e=>by have pr:=dy.eq pr e; exact cS) rfl rfl rfl (fun _=>rfl)) (aa (aM cInt (tO 1 nd (pr.ne rfl)) rfl rfl rfl) (aa (gX pr (passes_of rfl) rfl (lG rfl (ao (dB hZ (aC cInt (aC cInt (aC cInt (aC cInt (aC cInt (aC cInt bN rfl) rfl) rfl) rfl) rfl) rfl)) rfl)) (fun B pr=>(tG 2 nd (pr.ne rfl))) (fun B pr=>(aa (aM (bR rfl (k:=.add) (ao (bR rfl (k:=.mul) (ao cInt rfl) (ao (bO rfl (by exact hu) (vA 0) (ao cS rfl) (fun _ _=>rfl)) rfl)) rfl) (ao (bR rfl (k:=.fdiv) (vA 2) (ao cInt rfl)) rfl)) (tO 3 nd (pr.ne rfl)) rfl rfl rfl) (aa (gX pr (passes_of rfl) rfl (lG rfl (ao (bO rfl (by exact hu) (vA 0) (ao cS rfl) (fun _ _=>rfl)) rfl)) (fun B pr=>(tG 4 nd (pr.ne rfl))) (fun B pr=>(aa (aM (bR rfl (k:=.mod) (ao (gQ (k:=.int) rfl rfl rfl rfl rfl cW (aF (ao (bR rfl (k:=.add) (ao (bR rfl (k:=.mul) (vA 3) (ao cInt rfl)) rfl) (vA 4)) rfl) aq rfl) rfl rfl) rfl) (vA 2)) (tO 3 nd (pr.ne rfl)) rfl rfl rfl) ai)) (fun _=>rfl)) (aa (aM (bR rfl (k:=.add) (ao (bR rfl (k:=.mul) (vA 1) (ao cInt rfl)) rfl) (ao (bR rfl (k:=.mod) (ao (gQ (k:=.int) rfl rfl rfl rfl rfl cW (aF (ao (bR rfl (k:=.pow) (vA 3) (ao cInt rfl)) rfl) aq rfl) rfl rfl) rfl) (vA 2)) rfl)) (tO 1 nd (pr.ne rfl)) rfl rfl rfl) ai)))) (fun _=>rfl)) (aa (aN (wD (i:=1) rfl (.inl rfl) rfl rfl)) ai))))
theorem uy:FnScope ["_law_state", "_law_size", "_law_found"] ["_law_state", "_law_size"] (defScope gJ):=qk
theorem Cq (F:FunD K "_law_take" "_law_take" (defArgs gJ) (defBody gJ) (defScope gJ) dvs kws f fd) (r7:Callee P w K mg base ⟨K,cls,tbs⟩ "_law_mixed" ["_law_state"] 1 iJ) (cW:mg "int" = none):FnOk P w K mg base (L2.CX P w) 2 f fd ["_law_state", "_law_size"] (bI ⟨K,cls,tbs⟩ aU) :=
 d6 F uy fun cdv A outer s H E B pr hr=>by
  have hu:=bz hr
  have hu1:=aY hr
  have nd:=uy.nd
  exact(aa (cZ (cY rfl (by exact hu) (k:=.eq) (ao (bO rfl (by exact hu) (vA 0) (ao cS rfl) (fun _ _=>rfl)) rfl) (ao cInt rfl) rfl) (aa (vc rfl (by exact hu1) (rh (KI G3 (G4 (k:=.ne) rfl (by exact hu) (Fo (by exact hu) (oC rfl (.inl rfl) rfl rfl) (fun B e=>by have pr:=dy.eq pr e; exact cS) (fun _ _=>rfl)) (fun B e=>by have pr:=dy.eq pr e; exact(dB hZ bN))) rfl) (GG rfl PySem.F.slot_list_pop PySem.F.type_list_pop DR (Fo (by exact hu) (oC rfl (.inl rfl) rfl rfl) (fun B e=>by have pr:=dy.eq pr e; exact cS) (fun _ _=>rfl)) (fun B e=>by have pr:=dy.eq pr e; exact(aC cInt bN rfl)) rfl rfl rfl rfl rfl) (cC r7 (by exact hr) ip (aV 0 aq))) (oC rfl (.inl rfl) rfl rfl) (fun B e=>by have pr:=dy.eq pr e; exact cS) rfl rfl rfl (fun _=>rfl)) ai) ai) (aa (aM (bR rfl (k:=.mod) (ao (gQ (k:=.int) rfl rfl rfl rfl rfl cW (aF (ao (bO rfl (by exact hu) (vA 0) (ao cS rfl) (fun _ _=>rfl)) rfl) aq rfl) rfl rfl) rfl) (vA 1)) (tO 2 nd (pr.ne rfl)) rfl rfl rfl) (aa (vc rfl (by exact hu1) (bR rfl (k:=.fdiv) (ao (bO rfl (by exact hu) (vA 0) (ao cS rfl) (fun _ _=>rfl)) rfl) (vA 1)) (oC rfl (.inl rfl) rfl rfl) (fun B e=>by have pr:=dy.eq pr e; exact cS) rfl rfl rfl (fun _=>rfl)) (aa (aN (wD (i:=2) rfl (.inl rfl) rfl rfl)) ai))))
theorem uz:FnScope ["_law_state", "_law_some"] ["_law_state", "_law_some"] (defScope gK):=qk
theorem Cr (F:FunD K "_law_pick" "_law_pick" (defArgs gK) (defBody gK) (defScope gK) dvs kws f fd) (aK:Callee P w K mg base ⟨K,cls,tbs⟩ "_law_take" ["_law_state", "_law_size"] 2 aU) (bh:mg "len" = none):FnOk P w K mg base (L2.CX P w) 3 f fd ["_law_state", "_law_some"] (bI ⟨K,cls,tbs⟩ b8) :=
 d6 F uz fun cdv A outer s H E B pr hr=>by
  have hu:=bz hr
  have hu1:=aY hr
  have nd:=uz.nd
  exact(aa (aN (bO rfl (by exact hu) (vA 1) (ao (cC aK (by exact hr) ip (aV 0 (aF (ao (gQ (k:=.len) rfl rfl rfl rfl rfl bh (aV 1 aq) rfl rfl) rfl) aq rfl))) rfl) (fun _ _=>rfl))) ai)
theorem uA:FnScope ["_law_state", "_law_words", "_law_way", "_law_letters", "_law_k"] ["_law_state"] (defScope fD):=qk
theorem Cs (F:FunD K "_law_name" "_law_name" (defArgs fD) (defBody fD) (defScope fD) dvs kws f fd) (aK:Callee P w K mg base ⟨K,cls,tbs⟩ "_law_take" ["_law_state", "_law_size"] 2 aU) (bh:mg "len" = none) (fK:mg "range" = none):FnOk P w K mg base (L2.CX P w) 3 f fd ["_law_state"] (bI ⟨K,cls,tbs⟩ j6) :=
 d6 F uA fun cdv A outer s H E B pr hr=>by
  have hu:=bz hr
  have hu1:=aY hr
  have nd:=uA.nd
  exact(aa (aM cS (tO 1 nd (pr.ne rfl)) rfl rfl rfl) (aa (aM (oF (k:=.split) PySem.F.plainAttrs_str PySem.F.slot_str_split PySem.F.type_str_split (m_split rfl) (fun d o v H m e1 e2 s=>jg .split (.inr rfl) e1 e2 s) (ao (bR rfl (k:=.add) (vA 1) (ao cS rfl)) rfl) (aF (ao cS rfl) aq rfl) rfl rfl rfl rfl rfl) (tO 1 nd (pr.ne rfl)) rfl rfl rfl) (aa (aM (cC aK (by exact hr) ip (aF (dF (i:=0) rfl (.inr (.inl rfl)) rfl rfl) (aF (ao cInt rfl) aq rfl) rfl)) (tO 2 nd (pr.ne rfl)) rfl rfl rfl) (aa (cZ (cY rfl (by exact hu) (k:=.lt) (vA 2) (ao (gQ (k:=.len) rfl rfl rfl rfl rfl bh (aV 1 aq) rfl rfl) rfl) rfl) (aa (aN (bO rfl (by exact hu) (vA 1) (vA 2) (fun _ _=>rfl))) ai) ai) (aa (aM cS (LH 3 nd (pr.ne rfl)) rfl rfl rfl) (aa (aN (oF (k:=.join) PySem.F.plainAttrs_str PySem.F.slot_str_join PySem.F.type_str_join (rF rfl) (fun d o v H m e1 e2 s=>jg .join (.inl rfl) e1 e2 s) (ao cS rfl) (aF (ao (eP pr rfl nd (own:=[("_law_k",4)]) (se:=.idx (.var 3) (.call 22 [.var 0,.lit (.int 26)])) (t:=.nm 4) (ie:=.range [.bi .add (.lit (.int 1)) (.call 22 [.var 0,.lit (.int 8)])]) (sifs:=[]) (by decide) rfl (by decide) (lU rfl fK (aC (bR rfl (k:=.add) (ao cInt rfl) (ao (cC aK (by exact hr) ip (aF (dF (i:=0) rfl (.inr (.inl rfl)) rfl rfl) (aF (ao cInt rfl) aq rfl) rfl)) rfl)) bN rfl) rfl) (blkOk_by (N:=["_law_state", "_law_words", "_law_way", "_law_letters", "_law_k"]) (sc:=defScope fD) (by decide +kernel)) (fun s H C cl fp=>(ym 4 nd (pr.ne rfl))) (fun s H C cl fp=>lX) (fun s H C cl fp=>(bO rfl (by exact hu) (dF (i:=3) rfl (.inr (.inl rfl)) rfl rfl) (ao (mS aK rfl (by exact hr) (by first | exact Nat.le_refl _ | omega) rfl rG (aF (dF (i:=0) rfl (.inr (.inl rfl)) rfl rfl) (aF (ao cInt rfl) aq rfl) rfl) rfl rfl rfl) rfl) (fun _ _=>rfl))) (fun _=>rfl)) rfl) aq rfl) rfl rfl rfl rfl rfl)) ai))))))
theorem r8:FnScope ["_law_state", "_law_many", "_law_found", "_law_spare", "_law_k", "_law_name_here", "_law_sign", "_law_one"] ["_law_state", "_law_many"] (defScope dC):=qk
theorem Au (F:FunD K "_law_names" "_law_names" (defArgs dC) (defBody dC) (defScope dC) dvs kws f fd) (fK:mg "range" = none) (td:Callee P w K mg base ⟨K,cls,tbs⟩ "_law_name" ["_law_state"] 3 j6):FnOk P w K mg base (L2.CX P w) 4 f fd ["_law_state", "_law_many"] (bI ⟨K,cls,tbs⟩ iK) :=
 d6 F r8 fun cdv A outer s H E B pr hr=>by
  have hu:=bz hr
  have hu1:=aY hr
  have nd:=r8.nd
  exact(aa (aM (je hZ (aC (dB hZ bN) (aC (eP pr rfl nd (own:=[("_law_sign",6)]) (se:=.bi .add (.lit (.str "z")) (.var 6)) (t:=.nm 6) (ie:=.of (.lit (.str "abcdefghijklmnopqrstuvwxyz"))) (sifs:=[]) (by decide) rfl (by decide) (lG rfl (ao cS rfl)) (blkOk_by (N:=["_law_state", "_law_many", "_law_found", "_law_spare", "_law_k", "_law_name_here", "_law_sign", "_law_one"]) (sc:=defScope dC) (by decide +kernel)) (fun s H C cl fp=>(ym 6 nd (pr.ne rfl))) (fun s H C cl fp=>lX) (fun s H C cl fp=>(bR rfl (k:=.add) (ao cS rfl) (vA 6))) (fun _=>rfl)) bN rfl) rfl)) (BO rfl rfl (kF (LH 2 nd (pr.ne rfl)) (kF (tO 3 nd (pr.ne rfl)) va rfl) rfl) (lV (BM (i:=2) nd rfl (.inr rfl) (.inl rfl) (pr.ne rfl)) (lV (tG 3 nd (pr.ne rfl)) uX rfl) rfl) rfl rfl) rfl rfl rfl) (aa (gX pr (passes_of rfl) rfl (lU rfl fK (aC (vE 1) bN rfl) rfl) (fun B pr=>(tG 4 nd (pr.ne rfl))) (fun B pr=>(aa (aM (cC td (by exact hr) ip (aV 0 aq)) (tO 5 nd (pr.ne rfl)) rfl rfl rfl) (aa (cZ (cY rfl (by exact hu) (k:=.isin) (vA 5) (dF (i:=2) rfl (.inr (.inl rfl)) rfl rfl) rfl) (aa (aM (bO rfl (by exact hu) (ao (eP pr rfl nd (own:=[("_law_one",7)]) (se:=.var 7) (t:=.nm 7) (ie:=.of (.var 3)) (sifs:=[.cm .notin (.var 7) (.var 2)]) (by decide) rfl (by decide) (lG rfl (vA 3)) (blkOk_by (N:=["_law_state", "_law_many", "_law_found", "_law_spare", "_law_k", "_law_name_here", "_law_sign", "_law_one"]) (sc:=defScope dC) (by decide +kernel)) (fun s H C cl fp=>(ym 7 nd (pr.ne rfl))) (fun s H C cl fp=>(ze (cY rfl (by exact hu) (k:=.notin) (vA 7) (dF (i:=2) rfl (.inr (.inl rfl)) rfl rfl) rfl))) (fun s H C cl fp=>(vE 7)) (fun _=>rfl)) rfl) (ao cInt rfl) (fun _ _=>rfl)) (tO 5 nd (pr.ne rfl)) rfl rfl rfl) ai) ai) (aa (yc (GG rfl PySem.F.slot_list_append PySem.F.type_list_append wK (oC rfl (.inr (.inl rfl)) rfl rfl) (fun B e=>by have pr:=dy.eq pr e; exact(aC (vE 5) bN rfl)) rfl rfl rfl rfl rfl) rfl) ai)))) (fun _=>rfl)) (aa (aN (wD (i:=2) rfl (.inr (.inl rfl)) rfl rfl)) ai)))
theorem lA:FnScope ["_law_value"] ["_law_value"] (defScope bY):=qk
theorem r9 (F:FunD K "_law_is_integer" "_law_is_integer" (defArgs bY) (defBody bY) (defScope bY) dvs kws f fd) (fz:qj K ⟨K,cls,tbs⟩ []) (cW:mg "int" = none) (ay:mg "isinstance" = none) (rS:mg "bool" = none):FnOk P w K mg base (L2.CX P w) 1 f fd ["_law_value"] (bI ⟨K,cls,tbs⟩ l6) :=
 d6 F lA fun cdv A outer s H E B pr hr=>by
  have hu:=bz hr
  have hu1:=aY hr
  have nd:=lA.nd
  exact(aa (aN (nN (nk (jV (t:=.int) rfl fz rfl rfl ay (vA 0) (pe_bltn rfl cW (by decide +kernel) rfl) rfl rfl rfl) (nM (Fi rfl (ao (jV (t:=.bool) rfl fz rfl rfl ay (vA 0) (pe_bltn rfl rS (by decide +kernel) rfl) rfl rfl rfl) rfl)))))) ai)
theorem oN:FnScope ["_law_value", "_law_sign"] ["_law_value"] (defScope cD):=qk
theorem xm (F:FunD K "_law_is_name" "_law_is_name" (defArgs cD) (defBody cD) (defScope cD) dvs kws f fd) (fz:qj K ⟨K,cls,tbs⟩ []) (ji:mg "str" = none) (ay:mg "isinstance" = none) (bh:mg "len" = none):FnOk P w K mg base (L2.CX P w) 1 f fd ["_law_value"] (bI ⟨K,cls,tbs⟩ cb) :=
 d6 F oN fun cdv A outer s H E B pr hr=>by
  have hu:=bz hr
  have hu1:=aY hr
  have nd:=oN.nd
  exact(aa (cZ (jE (jT (cO (uj rfl (ao (jV (t:=.str) rfl fz rfl rfl ay (vA 0) (pe_bltn rfl ji (by decide +kernel) rfl) rfl rfl rfl) rfl) rfl rfl)) (jD (cO (xY rfl (by exact hu) (k:=.le) (j:=.le) (ao cInt rfl) (ao (gQ (k:=.len) rfl rfl rfl rfl rfl bh (aV 0 aq) rfl rfl) rfl) (ao cInt rfl) (by with_unfolding_all rfl)))))) (aa (aN cB) ai) ai) (aa (aN (lR rfl (by exact hu) (k:=.eq) (ao (eP pr rfl nd (own:=[("_law_sign",1)]) (se:=.var 1) (t:=.nm 1) (ie:=.of (.var 0)) (sifs:=[.cm .notin (.var 1) (.lit (.str "abcdefghijklmnopqrstuvwxyz"))]) (by decide) rfl (by decide) (lG rfl (vA 0)) (blkOk_by (N:=["_law_value", "_law_sign"]) (sc:=defScope cD) (by decide +kernel)) (fun s H C cl fp=>(ym 1 nd (pr.ne rfl))) (fun s H C cl fp=>(ze (cY rfl (by exact hu) (k:=.notin) (vA 1) (ao cS rfl) rfl))) (fun s H C cl fp=>(vE 1)) (fun _=>rfl)) rfl) (ao (dB hZ bN) rfl) rfl)) ai))
theorem nr:FnScope ["table", "name"] ["table"] (defScope b9):=qk
theorem vv (F:FunD K "table_text" "table_text" (defArgs b9) (defBody b9) (defScope b9) dvs kws f fd) (vx:Callee P w K mg base ⟨K,cls,tbs⟩ "is_table" ["value"] 3 aX) (sf:Hi K mg "BadTable" (cls 3)) (kJ:mg "sorted" = none):FnOk P w K mg base (L2.CX P w) 4 f fd ["table"] (bI ⟨K,cls,tbs⟩ aR) :=
 d6 F nr fun cdv A outer s H E B pr hr=>by
  have hu:=bz hr
  have hu1:=aY hr
  have nd:=nr.nd
  exact(aa (cZ (cO (uj rfl (ao (cC vx (by exact hr) ip (aF (dF (i:=0) rfl (.inr (.inl rfl)) rfl rfl) aq rfl)) rfl) rfl rfl)) (aa (Hj rfl rfl ip sf rfl hZ (aC cS bN rfl) rfl rfl rfl) ai) ai) (aa (aN (oF (k:=.join) PySem.F.plainAttrs_str PySem.F.slot_str_join PySem.F.type_str_join (rF rfl) (fun d o v H m e1 e2 s=>jg .join (.inl rfl) e1 e2 s) (ao cS rfl) (aF (ao (eP pr rfl nd (own:=[("name",1)]) (se:=yn (.lit (.str Str.empty)) [.var 1,.lit (.str " "),.idx (.idx (.var 0) (.var 1)) (.lit (.int 0)),.lit (.str " "),.idx (.idx (.var 0) (.var 1)) (.lit (.int 1)),.lit (.str "\n")]) (t:=.nm 1) (ie:=.of (.ofn true iT [.var 0])) (sifs:=[]) (by decide) rfl (by decide) (lG rfl (ao (Aj rfl rfl (by exact hu) rfl rfl kJ (dF (i:=0) rfl (.inr (.inl rfl)) rfl rfl) rfl rfl) rfl)) (blkOk_by (N:=["table", "name"]) (sc:=defScope b9) (by decide +kernel)) (fun s H C cl fp=>(ym 1 nd (pr.ne rfl))) (fun s H C cl fp=>lX) (fun s H C cl fp=>(Jq (FJ.fmt (vA 1) (FJ.lit (ao cS rfl) (FJ.fmt (ao (bO rfl (by exact hu) (ao (bO rfl (by exact hu) (dF (i:=0) rfl (.inr (.inl rfl)) rfl rfl) (vA 1) (fun _ _=>rfl)) rfl) (ao cInt rfl) (fun _ _=>rfl)) rfl) (FJ.lit (ao cS rfl) (FJ.fmt (ao (bO rfl (by exact hu) (ao (bO rfl (by exact hu) (dF (i:=0) rfl (.inr (.inl rfl)) rfl rfl) (vA 1) (fun _ _=>rfl)) rfl) (ao cInt rfl) (fun _ _=>rfl)) rfl) (FJ.lit (ao cS rfl) FJ.nil)))))))) (fun _=>rfl)) rfl) aq rfl) rfl rfl rfl rfl rfl)) ai))
theorem pW:FnScope ["text", "lines"] ["text"] (defScope eg):=qk
theorem yt (F:FunD K "lines_of" "lines_of" (defArgs eg) (defBody eg) (defScope eg) dvs kws f fd) (fz:qj K ⟨K,cls,tbs⟩ []) (ji:mg "str" = none) (ay:mg "isinstance" = none) (gk:Eh P w K mg base "BadText" (cls 14) "line"):FnOk P w K mg base (L2.CX P w) 3 f fd ["text"] (bI ⟨K,cls,tbs⟩ b5) :=
 d6 F pW fun cdv A outer s H E B pr hr=>by
  have hu:=bz hr
  have hu1:=aY hr
  have nd:=pW.nd
  exact(aa (cZ (cO (uj rfl (ao (jV (t:=.str) rfl fz rfl rfl ay (vA 0) (pe_bltn rfl ji (by decide +kernel) rfl) rfl rfl rfl) rfl) rfl rfl)) (aa (vn rfl rfl ip gk rfl (by exact hr) (by first | exact Nat.le_refl _ | omega) (aC cInt bN rfl) rfl rfl rfl) ai) ai) (aa (aM (oF (k:=.split) PySem.F.plainAttrs_str PySem.F.slot_str_split PySem.F.type_str_split (m_split rfl) (fun d o v H m e1 e2 s=>jg .split (.inr rfl) e1 e2 s) (vA 0) (aF (ao cS rfl) aq rfl) rfl rfl rfl rfl rfl) (tO 1 nd (pr.ne rfl)) rfl rfl rfl) (aa (cZ (cY rfl (by exact hu) (k:=.eq) (ao (bO rfl (by exact hu) (vA 1) (ao (uc (ao cInt rfl)) rfl) (fun _ _=>rfl)) rfl) (ao cS rfl) rfl) (aa (yc (IS rfl PySem.F.slot_list_pop PySem.F.type_list_pop IQ (oC rfl (.inl rfl) rfl rfl) rfl rfl) rfl) (aa (aN (je hZ (aC (vE 1) (aC cB bN rfl) rfl))) ai)) ai) (aa (aN (je hZ (aC (vE 1) (aC cB bN rfl) rfl))) ai))))
theorem oO:FnScope ["word", "digits", "sign"] ["word"] (defScope cE):=qk
theorem xn (F:FunD K "is_number" "is_number" (defArgs cE) (defBody cE) (defScope cE) dvs kws f fd) (bh:mg "len" = none) (ql:∃ t,mg "MOST_DIGITS" = some (.int 40 t)) (yu:∃ t,mg "DIGITS" = some (.str "0123456789" t)) (oL:mg "all" = none):FnOk P w K mg base (L2.CX P w) 1 f fd ["word"] (bI ⟨K,cls,tbs⟩ cG) :=
 d6 F oO fun cdv A outer s H E B pr hr=>by
  have hu:=bz hr
  have hu1:=aY hr
  have nd:=oO.nd
  exact(aa (aM (rh (cY rfl (by exact hu) (k:=.eq) (ao (fZ rfl (vA 0) bG (dG rfl (ao cInt rfl))) rfl) (ao cS rfl) rfl) (fZ rfl (vA 0) (dG rfl (ao cInt rfl)) bG) (vE 0)) (tO 1 nd (pr.ne rfl)) rfl rfl rfl) (aa (cZ (jE (jT (cO (xY rfl (by exact hu) (k:=.le) (j:=.le) (ao cInt rfl) (ao (gQ (k:=.len) rfl rfl rfl rfl rfl bh (aV 1 aq) rfl rfl) rfl) (ao (B3 rfl ql rfl) rfl) (by with_unfolding_all rfl))) (jD (cO (uj rfl (ao (gQ (k:=.all) rfl rfl rfl rfl rfl oL (aF (ao (eP pr rfl nd (own:=[("sign",2)]) (se:=.cm .isin (.var 2) (.glo "DIGITS" (.str "0123456789"))) (t:=.nm 2) (ie:=.of (.var 1)) (sifs:=[]) (by decide) rfl (by decide) (lG rfl (vA 1)) (blkOk_by (N:=["word", "digits", "sign"]) (sc:=defScope cE) (by decide +kernel)) (fun s H C cl fp=>(ym 2 nd (pr.ne rfl))) (fun s H C cl fp=>lX) (fun s H C cl fp=>(lR rfl (by exact hu) (k:=.isin) (vA 2) (ao (B4 rfl yu rfl) rfl) rfl)) (fun _=>rfl)) rfl) aq rfl) rfl rfl) rfl) rfl rfl))))) (aa (aN cB) ai) ai) (aa (aN (BB (Gx (lR rfl (by exact hu) (k:=.eq) (vA 0) (ao cS rfl) rfl) (BA (lR rfl (by exact hu) (k:=.ne) (ao (bO rfl (by exact hu) (vA 1) (ao cInt rfl) (fun _ _=>rfl)) rfl) (ao cS rfl) rfl))))) ai)))
theorem uB:FnScope ["line", "before", "words"] ["line", "before"] (defScope gL):=qk
theorem Ct (F:FunD K "is_row" "is_row" (defArgs gL) (defBody gL) (defScope gL) dvs kws f fd) (bh:mg "len" = none) (l8:Callee P w K mg base ⟨K,cls,tbs⟩ "is_name" ["value"] 1 a9) (nu:Callee P w K mg base ⟨K,cls,tbs⟩ "is_number" ["word"] 1 cG):FnOk P w K mg base (L2.CX P w) 2 f fd ["line", "before"] (bI ⟨K,cls,tbs⟩ eB) :=
 d6 F uB fun cdv A outer s H E B pr hr=>by
  have hu:=bz hr
  have hu1:=aY hr
  have nd:=uB.nd
  exact(aa (aM (oF (k:=.split) PySem.F.plainAttrs_str PySem.F.slot_str_split PySem.F.type_str_split (m_split rfl) (fun d o v H m e1 e2 s=>jg .split (.inr rfl) e1 e2 s) (vA 0) (aF (ao cS rfl) aq rfl) rfl rfl rfl rfl rfl) (tO 2 nd (pr.ne rfl)) rfl rfl rfl) (aa (cZ (jE (jT (cY rfl (by exact hu) (k:=.ne) (ao (gQ (k:=.len) rfl rfl rfl rfl rfl bh (aV 2 aq) rfl rfl) rfl) (ao cInt rfl) rfl) (jT (cO (uj rfl (ao (cC l8 (by exact hr) ip (aF (ao (bO rfl (by exact hu) (vA 2) (ao cInt rfl) (fun _ _=>rfl)) rfl) aq rfl)) rfl) rfl rfl)) (jT (cO (uj rfl (ao (cC nu (by exact hr) ip (aF (ao (bO rfl (by exact hu) (vA 2) (ao cInt rfl) (fun _ _=>rfl)) rfl) aq rfl)) rfl) rfl rfl)) (jD (cO (uj rfl (ao (cC nu (by exact hr) ip (aF (ao (bO rfl (by exact hu) (vA 2) (ao cInt rfl) (fun _ _=>rfl)) rfl) aq rfl)) rfl) rfl rfl))))))) (aa (aN cB) ai) ai) (aa (aN (BB (Gx (lR rfl (by exact hu) (k:=.is) (vA 1) (ao cN rfl) rfl) (BA (lR rfl (by exact hu) (k:=.lt) (vA 1) (ao (bO rfl (by exact hu) (vA 2) (ao cInt rfl) (fun _ _=>rfl)) rfl) rfl))))) ai)))
theorem nv:FnScope ["text", "lines", "is_ended", "found", "before", "at", "line", "left", "right"] ["text"] (defScope cM):=qk
theorem vy (F:FunD K "read_table" "read_table" (defArgs cM) (defBody cM) (defScope cM) dvs kws f fd) (vz:Callee P w K mg base ⟨K,cls,tbs⟩ "lines_of" ["text"] 3 b5) (tf:mg "enumerate" = none) (yw:Callee P w K mg base ⟨K,cls,tbs⟩ "is_row" ["line", "before"] 2 eB) (gk:Eh P w K mg base "BadText" (cls 14) "line") (cW:mg "int" = none) (bh:mg "len" = none):FnOk P w K mg base (L2.CX P w) 4 f fd ["text"] (bI ⟨K,cls,tbs⟩ aS) :=
 d6 F nv fun cdv A outer s H E B pr hr=>by
  have hu:=bz hr
  have hu1:=aY hr
  have nd:=nv.nd
  exact(aa (aM (cC vz (by exact hr) ip (aV 0 aq)) (BO rfl rfl (kF (tO 1 nd (pr.ne rfl)) (kF (tO 2 nd (pr.ne rfl)) va rfl) rfl) (lV (tG 1 nd (pr.ne rfl)) (lV (tG 2 nd (pr.ne rfl)) uX rfl) rfl) rfl rfl) rfl rfl rfl) (aa (qy (i:=3) (j:=4) rfl nd rfl rfl (by decide) rfl rfl (pr.ne rfl) (pr.ne rfl) (aC vg (aC cN bN rfl) rfl) rfl rfl) (aa (gX pr (passes_of rfl) rfl (GN rfl rfl tf (vA 1) rfl) (fun B pr=>(IU rfl rfl (lV (tG 5 nd (pr.ne rfl)) (lV (tG 6 nd (pr.ne rfl)) uX rfl) rfl) rfl rfl)) (fun B pr=>(aa (cZ (cO (uj rfl (ao (cC yw (by exact hr) ip (aV 6 (aV 4 aq))) rfl) rfl rfl)) (aa (vn rfl rfl ip gk rfl (by exact hr) (by first | exact Nat.le_refl _ | omega) (aC (vE 5) bN rfl) rfl rfl rfl) ai) ai) (aa (Hn (oF (k:=.split) PySem.F.plainAttrs_str PySem.F.slot_str_split PySem.F.type_str_split (m_split rfl) (fun d o v H m e1 e2 s=>jg .split (.inr rfl) e1 e2 s) (vA 6) (aF (ao cS rfl) aq rfl) rfl rfl rfl rfl rfl) (Jp rfl rfl (kF (tO 4 nd (pr.ne rfl)) (kF (tO 7 nd (pr.ne rfl)) (kF (tO 8 nd (pr.ne rfl)) va rfl) rfl) rfl) rfl rfl) rfl rfl rfl) (aa (vc rfl (by exact hu1) (je hZ (aC (vp rfl rfl cW (vA 7) rfl rfl) (aC (vp rfl rfl cW (vA 8) rfl rfl) bN rfl) rfl)) (oC rfl (.inl rfl) rfl rfl) (fun B e=>by have pr:=dy.eq pr e; exact(vE 4)) rfl rfl rfl (fun _=>rfl)) ai)))) (fun _=>rfl)) (aa (cZ (cO (uj rfl (vA 2) rfl rfl)) (aa (vn rfl rfl ip gk rfl (by exact hr) (by first | exact Nat.le_refl _ | omega) (aC (bR rfl (k:=.sub) (ao (gQ (k:=.len) rfl rfl rfl rfl rfl bh (aV 1 aq) rfl rfl) rfl) (ao cInt rfl)) bN rfl) rfl rfl rfl) ai) ai) (aa (aN (wD (i:=3) rfl (.inl rfl) rfl rfl)) ai)))))
theorem sg:FnScope ["_law_way", "_law_value", "_law_found", "e"] ["_law_way", "_law_value"] (defScope fw):=qk
theorem Av (F:FunD K "_law_tried" "_law_tried" (defArgs fw) (defBody fw) (defScope fw) dvs kws f fd) (h_exm:∀ C∈[0,3,14],PySem.W.exmOne K (.ref (cls C)) (.ref (cls 0))=some true) (ti:mg "TreeError" = some (.ref (cls 0))) (iU:Callee P w K mg base ⟨K,cls,tbs⟩ "table_text" ["table"] 4 aR) (gm:Callee P w K mg base ⟨K,cls,tbs⟩ "read_table" ["text"] 4 aS):FnOk P w K mg base (L2.CX P w) 5 f fd ["_law_way", "_law_value"] (bI ⟨K,cls,tbs⟩ bP) :=
 d6 F sg fun cdv A outer s H E B pr hr=>by
  have hu:=bz hr
  have hu1:=aY hr
  have nd:=sg.nd
  exact(aa (aM cN (tO 2 nd (pr.ne rfl)) rfl rfl rfl) (aa (Hh (cs:=[0,3,14]) (i:=3) (j:=2) rfl rfl rfl rfl nd rfl rfl rfl rfl rfl (.inl rfl) (.inl rfl) (pr.ne rfl) (pr.ne rfl) (by decide) rfl ti h_exm ip (fun W pn xe ip po=>(aa (aM (rh (cY rfl (by exact hu) (k:=.eq) (vA 0) (ao cInt rfl) rfl) (cC iU (by exact hr) ip (aV 1 aq)) (cC gm (by exact hr) ip (aV 1 aq))) (tO 2 nd (pr.ne rfl)) rfl rfl rfl) ai)) rfl rfl rfl) (aa (aN (wD (i:=2) rfl (.inl rfl) rfl rfl)) ai)))
theorem pX:FnScope ["_law_state", "_law_some", "_law_number_here"] ["_law_state"] (defScope ew):=qk
theorem yx (F:FunD K "_law_number" "_law_number" (defArgs ew) (defBody ew) (defScope ew) dvs kws f fd) (aK:Callee P w K mg base ⟨K,cls,tbs⟩ "_law_take" ["_law_state", "_law_size"] 2 aU) (fh:Callee P w K mg base ⟨K,cls,tbs⟩ "_law_pick" ["_law_state", "_law_some"] 3 b8):FnOk P w K mg base (L2.CX P w) 4 f fd ["_law_state"] (bI ⟨K,cls,tbs⟩ eC) :=
 d6 F pX fun cdv A outer s H E B pr hr=>by
  have hu:=bz hr
  have hu1:=aY hr
  have nd:=pX.nd
  exact(aa (aM (dB hZ (aC (cC aK (by exact hr) ip (aV 0 (aF (ao cInt rfl) aq rfl))) (aC (bR rfl (k:=.pow) (ao cInt rfl) (ao cInt rfl)) (aC (bR rfl (k:=.add) (ao (bR rfl (k:=.pow) (ao cInt rfl) (ao cInt rfl)) rfl) (ao cInt rfl)) (aC (bR rfl (k:=.pow) (ao cInt rfl) (ao cInt rfl)) (aC (bR rfl (k:=.pow) (ao cInt rfl) (ao cInt rfl)) bN rfl) rfl) rfl) rfl) rfl)) (tO 1 nd (pr.ne rfl)) rfl rfl rfl) (aa (aM (bR rfl (k:=.add) (vA 1) (ao (dB hZ (aC (bR rfl (k:=.sub) (ao (bR rfl (k:=.sub) (ao (bR rfl (k:=.pow) (ao cInt rfl) (ao cInt rfl)) rfl) (ao cInt rfl)) rfl) (ao (cC aK (by exact hr) ip (aV 0 (aF (ao cInt rfl) aq rfl))) rfl)) bN rfl)) rfl)) (tO 1 nd (pr.ne rfl)) rfl rfl rfl) (aa (aM (cC fh (by exact hr) ip (aV 0 (aV 1 aq))) (tO 2 nd (pr.ne rfl)) rfl rfl rfl) (aa (aN (rh (cY rfl (by exact hu) (k:=.eq) (ao (cC aK (by exact hr) ip (aV 0 (aF (ao cInt rfl) aq rfl))) rfl) (ao cInt rfl) rfl) (vE 2) (uc (vA 2)))) ai))))
theorem l9:FnScope ["_law_word", "_law_digits", "_law_sign"] ["_law_word"] (defScope bT):=qk
theorem tj (F:FunD K "_law_is_number" "_law_is_number" (defArgs bT) (defBody bT) (defScope bT) dvs kws f fd) (bh:mg "len" = none):FnOk P w K mg base (L2.CX P w) 1 f fd ["_law_word"] (bI ⟨K,cls,tbs⟩ bS) :=
 d6 F l9 fun cdv A outer s H E B pr hr=>by
  have hu:=bz hr
  have hu1:=aY hr
  have nd:=l9.nd
  exact(aa (aM (rh (cY rfl (by exact hu) (k:=.eq) (ao (fZ rfl (vA 0) bG (dG rfl (ao cInt rfl))) rfl) (ao cS rfl) rfl) (fZ rfl (vA 0) (dG rfl (ao cInt rfl)) bG) (vE 0)) (tO 1 nd (pr.ne rfl)) rfl rfl rfl) (aa (cZ (jE (jT (cY rfl (by exact hu) (k:=.eq) (vA 1) (ao cS rfl) rfl) (jD (cY rfl (by exact hu) (k:=.gt) (ao (gQ (k:=.len) rfl rfl rfl rfl rfl bh (aV 1 aq) rfl rfl) rfl) (ao cInt rfl) rfl)))) (aa (aN cB) ai) ai) (aa (cZ (cY rfl (by exact hu) (k:=.ne) (ao (eP pr rfl nd (own:=[("_law_sign",2)]) (se:=.var 2) (t:=.nm 2) (ie:=.of (.var 1)) (sifs:=[.cm .notin (.var 2) (.lit (.str "0123456789"))]) (by decide) rfl (by decide) (lG rfl (vA 1)) (blkOk_by (N:=["_law_word", "_law_digits", "_law_sign"]) (sc:=defScope bT) (by decide +kernel)) (fun s H C cl fp=>(ym 2 nd (pr.ne rfl))) (fun s H C cl fp=>(ze (cY rfl (by exact hu) (k:=.notin) (vA 2) (ao cS rfl) rfl))) (fun s H C cl fp=>(vE 2)) (fun _=>rfl)) rfl) (ao (dB hZ bN) rfl) rfl) (aa (aN cB) ai) ai) (aa (aN (BB (Gx (lR rfl (by exact hu) (k:=.eq) (vA 0) (ao cS rfl) rfl) (BA (lR rfl (by exact hu) (k:=.ne) (ao (bO rfl (by exact hu) (vA 1) (ao cInt rfl) (fun _ _=>rfl)) rfl) (ao cS rfl) rfl))))) ai))))
theorem lB:FnScope ["_law_page", "_law_lines", "_law_before", "_law_is_ended", "_law_at", "_law_words"] ["_law_page"] (defScope bZ):=qk
theorem si (F:FunD K "_law_wrong_line" "_law_wrong_line" (defArgs bZ) (defBody bZ) (defScope bZ) dvs kws f fd) (fK:mg "range" = none) (bh:mg "len" = none) (pA:Callee P w K mg base ⟨K,cls,tbs⟩ "_law_is_name" ["_law_value"] 1 cb) (iV:Callee P w K mg base ⟨K,cls,tbs⟩ "_law_is_number" ["_law_word"] 1 bS):FnOk P w K mg base (L2.CX P w) 2 f fd ["_law_page"] (bI ⟨K,cls,tbs⟩ bV) :=
 d6 F lB fun cdv A outer s H E B pr hr=>by
  have hu:=bz hr
  have hu1:=aY hr
  have nd:=lB.nd
  exact(aa (qy (i:=1) (j:=2) rfl nd rfl rfl (by decide) rfl rfl (pr.ne rfl) (pr.ne rfl) (aC (oF (k:=.split) PySem.F.plainAttrs_str PySem.F.slot_str_split PySem.F.type_str_split (m_split rfl) (fun d o v H m e1 e2 s=>jg .split (.inr rfl) e1 e2 s) (vA 0) (aF (ao cS rfl) aq rfl) rfl rfl rfl rfl rfl) (aC cS bN rfl) rfl) rfl rfl) (aa (aM (lR rfl (by exact hu) (k:=.eq) (ao (bO rfl (by exact hu) (vA 1) (ao (uc (ao cInt rfl)) rfl) (fun _ _=>rfl)) rfl) (ao cS rfl) rfl) (tO 3 nd (pr.ne rfl)) rfl rfl rfl) (aa (aM (rh (uj rfl (vA 3) rfl rfl) (fZ rfl (vA 1) bG (dG rfl (ao (uc (ao cInt rfl)) rfl))) (vE 1)) (tO 1 nd (pr.ne rfl)) rfl rfl rfl) (aa (gX pr (passes_of rfl) rfl (lU rfl fK (aC (gQ (k:=.len) rfl rfl rfl rfl rfl bh (aV 1 aq) rfl rfl) bN rfl) rfl) (fun B pr=>(tG 4 nd (pr.ne rfl))) (fun B pr=>(aa (aM (oF (k:=.split) PySem.F.plainAttrs_str PySem.F.slot_str_split PySem.F.type_str_split (m_split rfl) (fun d o v H m e1 e2 s=>jg .split (.inr rfl) e1 e2 s) (ao (bO rfl (by exact hu) (vA 1) (vA 4) (fun _ _=>rfl)) rfl) (aF (ao cS rfl) aq rfl) rfl rfl rfl rfl rfl) (tO 5 nd (pr.ne rfl)) rfl rfl rfl) (aa (cZ (jE (jT (cY rfl (by exact hu) (k:=.ne) (ao (gQ (k:=.len) rfl rfl rfl rfl rfl bh (aV 5 aq) rfl rfl) rfl) (ao cInt rfl) rfl) (jT (cO (uj rfl (ao (cC pA (by exact hr) ip (aF (ao (bO rfl (by exact hu) (vA 5) (ao cInt rfl) (fun _ _=>rfl)) rfl) aq rfl)) rfl) rfl rfl)) (jD (cY rfl (by exact hu) (k:=.le) (ao (bO rfl (by exact hu) (vA 5) (ao cInt rfl) (fun _ _=>rfl)) rfl) (vA 2) rfl))))) (aa (aN (wD (i:=4) rfl (.inl rfl) rfl rfl)) ai) ai) (aa (cZ (jE (jT (cO (uj rfl (ao (cC iV (by exact hr) ip (aF (ao (bO rfl (by exact hu) (vA 5) (ao cInt rfl) (fun _ _=>rfl)) rfl) aq rfl)) rfl) rfl rfl)) (jD (cO (uj rfl (ao (cC iV (by exact hr) ip (aF (ao (bO rfl (by exact hu) (vA 5) (ao cInt rfl) (fun _ _=>rfl)) rfl) aq rfl)) rfl) rfl rfl))))) (aa (aN (wD (i:=4) rfl (.inl rfl) rfl rfl)) ai) ai) (aa (aM (bO rfl (by exact hu) (vA 5) (ao cInt rfl) (fun _ _=>rfl)) (tO 2 nd (pr.ne rfl)) rfl rfl rfl) ai))))) (fun _=>rfl)) (aa (aN (rh (uj rfl (vA 3) rfl rfl) cN (bR rfl (k:=.sub) (ao (gQ (k:=.len) rfl rfl rfl rfl rfl bh (aV 1 aq) rfl rfl) rfl) (ao cInt rfl)))) ai)))))
theorem sj:FnScope ["_law_page", "_law_line", "_law_found", "_law_rows", "_law_due", "_law_row"] ["_law_page"] (defScope dD):=qk
theorem Aw (F:FunD K "_law_right" "_law_right" (defArgs dD) (defBody dD) (defScope dD) dvs kws f fd) (m9:Callee P w K mg base ⟨K,cls,tbs⟩ "_law_wrong_line" ["_law_page"] 2 bV) (eE:Callee P w K mg base ⟨K,cls,tbs⟩ "_law_tried" ["_law_way", "_law_value"] 5 bP) (gn:qj K ⟨K,cls,tbs⟩ [0,3,14]) (mf:mg "BadText" = some (.ref (cls 14))) (ay:mg "isinstance" = none) (fA:XfC K (cls 14)∧PySem.W.findIn K (.ref (cls 14)) "line" = some none) (cW:mg "int" = none) (j8:mg "dict" = none):FnOk P w K mg base (L2.CX P w) 6 f fd ["_law_page"] (bI ⟨K,cls,tbs⟩ dS) :=
 d6 F sj fun cdv A outer s H E B pr hr=>by
  have hu:=bz hr
  have hu1:=aY hr
  have nd:=sj.nd
  exact(aa (qy (i:=1) (j:=2) rfl nd rfl rfl (by decide) rfl rfl (pr.ne rfl) (pr.ne rfl) (aC (cC m9 (by exact hr) ip (aV 0 aq)) (aC (cC eE (by exact hr) ip (aF (ao cInt rfl) (aV 0 aq) rfl)) bN rfl) rfl) rfl rfl) (aa (cZ (cY rfl (by exact hu) (k:=.isnot) (vA 1) (ao cN rfl) rfl) (aa (aN (nN (nk (jV (t:=.cls 14) rfl gn rfl rfl ay (vA 2) (pe_glob rfl mf rfl) rfl rfl rfl) (nM (lR rfl (by exact hu) (k:=.eq) (ao (FH fA rfl (vA 2)) rfl) (vA 1) rfl))))) ai) ai) (aa (uk pr (i:=3) (own:=[("_law_row",5)]) (se:=.mt .split (.var 5) [.lit (.str " ")]) (t:=.nm 5) (ie:=.of (.slc (.mt .split (.var 0) [.lit (.str "\n")]) (.lit .non) (.un .neg (.lit (.int 1))))) (sifs:=[]) rfl nd rfl rfl rfl (sw_true rfl rfl rfl (by decide +kernel)) (by decide) rfl (by decide) (lG rfl (ao (fZ rfl (ao (oF (k:=.split) PySem.F.plainAttrs_str PySem.F.slot_str_split PySem.F.type_str_split (m_split rfl) (fun d o v H m e1 e2 s=>jg .split (.inr rfl) e1 e2 s) (vA 0) (aF (ao cS rfl) aq rfl) rfl rfl rfl rfl rfl) rfl) bG (dG rfl (ao (uc (ao cInt rfl)) rfl))) rfl)) (blkOk_by (N:=["_law_page", "_law_line", "_law_found", "_law_rows", "_law_due", "_law_row"]) (sc:=defScope dD) (by decide +kernel)) (fun s H C cl fp=>(ym 5 nd (pr.ne rfl))) (fun s H C cl fp=>lX) (fun s H C cl fp=>(oF (k:=.split) PySem.F.plainAttrs_str PySem.F.slot_str_split PySem.F.type_str_split (m_split rfl) (fun d o v H m e1 e2 s=>jg .split (.inr rfl) e1 e2 s) (vA 5) (aF (ao cS rfl) aq rfl) rfl rfl rfl rfl rfl)) (fun _=>rfl)) (aa (aM (zy rfl rfl (by exact FL hu) rfl rfl j8 (ao (eP pr rfl nd (own:=[("_law_row",5)]) (se:=.tup [.idx (.var 5) (.lit (.int 0)),.tup [.ofn false fg [.idx (.var 5) (.lit (.int 1))],.ofn false fg [.idx (.var 5) (.lit (.int 2))]]]) (t:=.nm 5) (ie:=.of (.var 3)) (sifs:=[]) (by decide) rfl (by decide) (lG rfl (vA 3)) (blkOk_by (N:=["_law_page", "_law_line", "_law_found", "_law_rows", "_law_due", "_law_row"]) (sc:=defScope dD) (by decide +kernel)) (fun s H C cl fp=>(ym 5 nd (pr.ne rfl))) (fun s H C cl fp=>lX) (fun s H C cl fp=>(je hZ (aC (bO rfl (by exact hu) (vA 5) (ao cInt rfl) (fun _ _=>rfl)) (aC (je hZ (aC (vp rfl rfl cW (ao (bO rfl (by exact hu) (vA 5) (ao cInt rfl) (fun _ _=>rfl)) rfl) rfl rfl) (aC (vp rfl rfl cW (ao (bO rfl (by exact hu) (vA 5) (ao cInt rfl) (fun _ _=>rfl)) rfl) rfl rfl) bN rfl) rfl)) bN rfl) rfl))) (fun _=>rfl)) rfl) rfl rfl) (tO 4 nd (pr.ne rfl)) rfl rfl rfl) (aa (aN (nN (nk (jV (t:=.dict) rfl gn rfl rfl ay (vA 2) (pe_bltn rfl j8 (by decide +kernel) rfl) rfl rfl rfl) (nk (lR rfl (by exact hu) (k:=.eq) (vA 2) (vA 4) rfl) (nM (lR rfl (by exact hu) (k:=.eq) (ao (cC eE (by exact hr) ip (aF (ao cInt rfl) (aV 2 aq) rfl)) rfl) (vA 0) rfl)))))) ai)))))
theorem uC:FnScope ["_law_state", "_law_lines", "_law_at", "_law_other", "_law_way", "_law_words", "_law_spot", "_law_more"] ["_law_state", "_law_lines"] (defScope gM):=qk
theorem Cu (F:FunD K "_law_bent" "_law_bent" (defArgs gM) (defBody gM) (defScope gM) dvs kws f fd) (fh:Callee P w K mg base ⟨K,cls,tbs⟩ "_law_pick" ["_law_state", "_law_some"] 3 b8) (aK:Callee P w K mg base ⟨K,cls,tbs⟩ "_law_take" ["_law_state", "_law_size"] 2 aU) (bh:mg "len" = none) (cW:mg "int" = none):FnOk P w K mg base (L2.CX P w) 4 f fd ["_law_state", "_law_lines"] (bI ⟨K,cls,tbs⟩ hJ) :=
 d6 F uC fun cdv A outer s H E B pr hr=>by
  have hu:=bz hr
  have hu1:=aY hr
  have nd:=uC.nd
  exact(aa (cZ (cY rfl (by exact hu) (k:=.eq) (vA 1) (ao (dB hZ bN) rfl) rfl) (aa (aN (dB hZ (aC (cC fh (by exact hr) ip (aV 0 (aF (ao (dB hZ (aC cS (aC cS (aC cS (aC cS (aC cS (aC cS (aC cS bN rfl) rfl) rfl) rfl) rfl) rfl) rfl)) rfl) aq rfl))) bN rfl))) ai) ai) (aa (qy (i:=2) (j:=3) rfl nd rfl rfl (by decide) rfl rfl (pr.ne rfl) (pr.ne rfl) (aC (cC aK (by exact hr) ip (aV 0 (aF (ao (gQ (k:=.len) rfl rfl rfl rfl rfl bh (aV 1 aq) rfl rfl) rfl) aq rfl))) (aC (cC aK (by exact hr) ip (aV 0 (aF (ao (gQ (k:=.len) rfl rfl rfl rfl rfl bh (aV 1 aq) rfl rfl) rfl) aq rfl))) bN rfl) rfl) rfl rfl) (aa (aM (cC aK (by exact hr) ip (aV 0 (aF (ao cInt rfl) aq rfl))) (tO 4 nd (pr.ne rfl)) rfl rfl rfl) (aa (cZ (cY rfl (by exact hu) (k:=.eq) (vA 4) (ao cInt rfl) rfl) (aa (aN (bR rfl (k:=.add) (ao (bR rfl (k:=.add) (ao (fZ rfl (vA 1) bG (dG rfl (vA 2))) rfl) (ao (dB hZ (aC (bO rfl (by exact hu) (vA 1) (vA 3) (fun _ _=>rfl)) bN rfl)) rfl)) rfl) (ao (fZ rfl (vA 1) (dG rfl (vA 2)) bG) rfl))) ai) ai) (aa (cZ (cY rfl (by exact hu) (k:=.eq) (vA 4) (ao cInt rfl) rfl) (aa (aN (bR rfl (k:=.add) (ao (bR rfl (k:=.add) (ao (fZ rfl (vA 1) bG (dG rfl (vA 2))) rfl) (ao (dB hZ (aC (cC fh (by exact hr) ip (aV 0 (aF (ao (dB hZ (aC cS (aC cS (aC cS (aC cS (aC cS bN rfl) rfl) rfl) rfl) rfl)) rfl) aq rfl))) bN rfl)) rfl)) rfl) (ao (fZ rfl (vA 1) (dG rfl (vA 2)) bG) rfl))) ai) ai) (aa (aM (oF (k:=.split) PySem.F.plainAttrs_str PySem.F.slot_str_split PySem.F.type_str_split (m_split rfl) (fun d o v H m e1 e2 s=>jg .split (.inr rfl) e1 e2 s) (ao (bO rfl (by exact hu) (vA 1) (vA 2) (fun _ _=>rfl)) rfl) (aF (ao cS rfl) aq rfl) rfl rfl rfl rfl rfl) (tO 5 nd (pr.ne rfl)) rfl rfl rfl) (aa (aM (cC aK (by exact hr) ip (aV 0 (aF (ao (gQ (k:=.len) rfl rfl rfl rfl rfl bh (aV 5 aq) rfl rfl) rfl) aq rfl))) (tO 6 nd (pr.ne rfl)) rfl rfl rfl) (aa (aM (dB hZ (aC cS (aC cS (aC cS (aC cS (aC cS (aC cS (aC cS (aC (rQ rfl (ao cS rfl) (ao cInt rfl)) (aC (rQ rfl (ao cS rfl) (ao cInt rfl)) (aC (bR rfl (k:=.add) (ao cS rfl) (ao (rQ rfl (ao cS rfl) (ao cInt rfl)) rfl)) bN rfl) rfl) rfl) rfl) rfl) rfl) rfl) rfl) rfl) rfl)) (tO 7 nd (pr.ne rfl)) rfl rfl rfl) (aa (aM (bR rfl (k:=.add) (vA 7) (ao (dB hZ (aC (bR rfl (k:=.add) (ao cS rfl) (ao (rQ rfl (ao cS rfl) (ao cInt rfl)) rfl)) (aC (rQ rfl (ao cS rfl) (ao cInt rfl)) (aC cS (aC cS (aC cS (aC cS (aC cS bN rfl) rfl) rfl) rfl) rfl) rfl) rfl)) rfl)) (tO 7 nd (pr.ne rfl)) rfl rfl rfl) (aa (aM (bR rfl (k:=.add) (vA 7) (ao (dB hZ (aC cS (aC cS (aC cS (aC cS bN rfl) rfl) rfl) rfl)) rfl)) (tO 7 nd (pr.ne rfl)) rfl rfl rfl) (aa (cZ (cY rfl (by exact hu) (k:=.eq) (vA 4) (ao cInt rfl) rfl) (aa (aM (bR rfl (k:=.add) (ao (fZ rfl (vA 5) bG (dG rfl (vA 6))) rfl) (ao (fZ rfl (vA 5) (dG rfl (ao (bR rfl (k:=.add) (vA 6) (ao cInt rfl)) rfl)) bG) rfl)) (tO 5 nd (pr.ne rfl)) rfl rfl rfl) ai) (aa (aM (bR rfl (k:=.add) (ao (bR rfl (k:=.add) (ao (fZ rfl (vA 5) bG (dG rfl (vA 6))) rfl) (ao (dB hZ (aC (cC fh (by exact hr) ip (aV 0 (aV 7 aq))) bN rfl)) rfl)) rfl) (ao (fZ rfl (vA 5) (dG rfl (ao (bR rfl (k:=.add) (vA 6) (ao (gQ (k:=.int) rfl rfl rfl rfl rfl cW (aF (ao (lR rfl (by exact hu) (k:=.eq) (vA 4) (ao cInt rfl) rfl) rfl) aq rfl) rfl rfl) rfl)) rfl)) bG) rfl)) (tO 5 nd (pr.ne rfl)) rfl rfl rfl) ai)) (aa (aN (bR rfl (k:=.add) (ao (bR rfl (k:=.add) (ao (fZ rfl (vA 1) bG (dG rfl (vA 2))) rfl) (ao (dB hZ (aC (oF (k:=.join) PySem.F.plainAttrs_str PySem.F.slot_str_join PySem.F.type_str_join (rF rfl) (fun d o v H m e1 e2 s=>jg .join (.inl rfl) e1 e2 s) (ao cS rfl) (aV 5 aq) rfl rfl rfl rfl rfl) bN rfl)) rfl)) rfl) (ao (fZ rfl (vA 1) (dG rfl (ao (bR rfl (k:=.add) (vA 2) (ao cInt rfl)) rfl)) bG) rfl))) ai))))))))))))
theorem Cv:FnScope ["_law_script", "_law_k", "_law_state", "_law_names_here", "_law_sheet", "_law_lines", "_law_name_here", "_law_left", "_law_right_here", "_law_page", "_law_turn", "_law_odd", "_law_found", "_law_bad", "_law_line"] ["_law_script"] (defScope jA):=qk
theorem Jr (F:FunD K "law" "law" (defArgs jA) (defBody jA) (defScope jA) dvs kws f fd) (fK:mg "range" = none) (bh:mg "len" = none) (Eu:mg "min" = none) (Ew:mg "max" = none) (su:Callee P w K mg base ⟨K,cls,tbs⟩ "_law_begun" ["_law_script"] 1 gU) (sv:Callee P w K mg base ⟨K,cls,tbs⟩ "_law_names" ["_law_state", "_law_many"] 4 iK) (aK:Callee P w K mg base ⟨K,cls,tbs⟩ "_law_take" ["_law_state", "_law_size"] 2 aU) (lC:Callee P w K mg base ⟨K,cls,tbs⟩ "_law_number" ["_law_state"] 4 eC) (j8:mg "dict" = none) (kJ:mg "sorted" = none) (ji:mg "str" = none) (j9:vo P w K mg base ⟨K,cls,tbs⟩ "table_text" 4 aR 0 ["table"] [.inl 0]) (kK:vo P w K mg base ⟨K,cls,tbs⟩ "read_table" 4 aS 0 ["text"] [.inl 0]) (gm:Callee P w K mg base ⟨K,cls,tbs⟩ "read_table" ["text"] 4 aS) (rY:mg "list" = none) (tm:Callee P w K mg base ⟨K,cls,tbs⟩ "_law_bent" ["_law_state", "_law_lines"] 4 hJ) (mh:Callee P w K mg base ⟨K,cls,tbs⟩ "_law_right" ["_law_page"] 6 dS) (eE:Callee P w K mg base ⟨K,cls,tbs⟩ "_law_tried" ["_law_way", "_law_value"] 5 bP) (gn:qj K ⟨K,cls,tbs⟩ [0,3,14]) (mf:mg "BadText" = some (.ref (cls 14))) (ay:mg "isinstance" = none) (fA:XfC K (cls 14)∧PySem.W.findIn K (.ref (cls 14)) "line" = some none) (vC:mg "BadTable" = some (.ref (cls 3))) (iU:Callee P w K mg base ⟨K,cls,tbs⟩ "table_text" ["table"] 4 aR):FnOk P w K mg base (L2.CX P w) 7 f fd ["_law_script"] (bI ⟨K,cls,tbs⟩ zz) :=
 d6 F Cv fun cdv A outer s H E B pr hr=>by
  have hu:=bz hr
  have hu1:=aY hr
  have nd:=Cv.nd
  exact(aa (gX pr (passes_of rfl) rfl (lU rfl fK (aC (gQ (k:=.max2) rfl rfl rfl rfl rfl Ew (aF (ao cInt rfl) (aF (ao (gQ (k:=.min2) rfl rfl rfl rfl rfl Eu (aF (ao cInt rfl) (aF (ao (gQ (k:=.len) rfl rfl rfl rfl rfl bh (aV 0 aq) rfl rfl) rfl) aq rfl) rfl) rfl rfl) rfl) aq rfl) rfl) rfl rfl) bN rfl) rfl) (fun B pr=>(tG 1 nd (pr.ne rfl))) (fun B pr=>(aa (aM (cC su (by exact hr) ip (aF (ao (bR rfl (k:=.add) (ao (fZ rfl (vA 0) (dG rfl (vA 1)) bG) rfl) (ao (fZ rfl (vA 0) bG (dG rfl (vA 1))) rfl)) rfl) aq rfl)) (LH 2 nd (pr.ne rfl)) rfl rfl rfl) (aa (aM (cC sv (by exact hr) ip (aF (dF (i:=2) rfl (.inr (.inl rfl)) rfl rfl) (aF (ao (cC aK (by exact hr) ip (aF (dF (i:=2) rfl (.inr (.inl rfl)) rfl rfl) (aF (ao cInt rfl) aq rfl) rfl)) rfl) aq rfl) rfl)) (tO 3 nd (pr.ne rfl)) rfl rfl rfl) (aa (aM (zy rfl rfl (by exact FL hu) rfl rfl j8 (ao (eP pr rfl nd (own:=[("_law_name_here",6)]) (se:=.tup [.var 6,.tup [.call 489 [.var 2],.call 489 [.var 2]]]) (t:=.nm 6) (ie:=.of (.var 3)) (sifs:=[]) (by decide) rfl (by decide) (lG rfl (vA 3)) (blkOk_by (N:=["_law_script", "_law_k", "_law_state", "_law_names_here", "_law_sheet", "_law_lines", "_law_name_here", "_law_left", "_law_right_here", "_law_page", "_law_turn", "_law_odd", "_law_found", "_law_bad", "_law_line"]) (sc:=defScope jA) (by decide +kernel)) (fun s H C cl fp=>(ym 6 nd (pr.ne rfl))) (fun s H C cl fp=>lX) (fun s H C cl fp=>(je hZ (aC (vE 6) (aC (je hZ (aC (mS lC rfl (by exact hr) (by first | exact Nat.le_refl _ | omega) rfl rG (aF (dF (i:=2) rfl (.inr (.inl rfl)) rfl rfl) aq rfl) rfl rfl rfl) (aC (mS lC rfl (by exact hr) (by first | exact Nat.le_refl _ | omega) rfl rG (aF (dF (i:=2) rfl (.inr (.inl rfl)) rfl rfl) aq rfl) rfl rfl rfl) bN rfl) rfl)) bN rfl) rfl))) (fun _=>rfl)) rfl) rfl rfl) (tO 4 nd (pr.ne rfl)) rfl rfl rfl) (aa (aM (dB hZ bN) (tO 5 nd (pr.ne rfl)) rfl rfl rfl) (aa (gX pr (passes_of rfl) rfl (lG rfl (ao (xi rfl (by exact hu) rfl rfl kJ (vA 3) rfl rfl) rfl)) (fun B pr=>(tG 6 nd (pr.ne rfl))) (fun B pr=>(aa (aM (bO rfl (by exact hu) (vA 4) (vA 6) (fun _ _=>rfl)) (BO rfl rfl (kF (tO 7 nd (pr.ne rfl)) (kF (tO 8 nd (pr.ne rfl)) va rfl) rfl) (lV (tG 7 nd (pr.ne rfl)) (lV (tG 8 nd (pr.ne rfl)) uX rfl) rfl) rfl rfl) rfl rfl rfl) (aa (yc (GG rfl PySem.F.slot_list_append PySem.F.type_list_append wK (oC rfl (.inl rfl) rfl rfl) (fun B e=>by have pr:=dy.eq pr e; exact(aC (bR rfl (k:=.add) (ao (bR rfl (k:=.add) (ao (bR rfl (k:=.add) (ao (bR rfl (k:=.add) (vA 6) (ao cS rfl)) rfl) (ao (Cj rfl rfl ji (vA 7) rfl rfl) rfl)) rfl) (ao cS rfl)) rfl) (ao (Cj rfl rfl ji (vA 8) rfl rfl) rfl)) bN rfl)) rfl rfl rfl rfl rfl) rfl) ai))) (fun _=>rfl)) (aa (aM (oF (k:=.join) PySem.F.plainAttrs_str PySem.F.slot_str_join PySem.F.type_str_join (rF rfl) (fun d o v H m e1 e2 s=>jg .join (.inl rfl) e1 e2 s) (ao cS rfl) (aF (ao (eP pr rfl nd (own:=[("_law_line",14)]) (se:=.bi .add (.var 14) (.lit (.str "\n"))) (t:=.nm 14) (ie:=.of (.var 5)) (sifs:=[]) (by decide) rfl (by decide) (lG rfl (vA 5)) (blkOk_by (N:=["_law_script", "_law_k", "_law_state", "_law_names_here", "_law_sheet", "_law_lines", "_law_name_here", "_law_left", "_law_right_here", "_law_page", "_law_turn", "_law_odd", "_law_found", "_law_bad", "_law_line"]) (sc:=defScope jA) (by decide +kernel)) (fun s H C cl fp=>(ym 14 nd (pr.ne rfl))) (fun s H C cl fp=>lX) (fun s H C cl fp=>(bR rfl (k:=.add) (vA 14) (ao cS rfl))) (fun _=>rfl)) rfl) aq rfl) rfl rfl rfl rfl rfl) (tO 9 nd (pr.ne rfl)) rfl rfl rfl) (aa (cZ (jE (jT (cY rfl (by exact hu) (k:=.ne) (ao (zw (sp:=[]) (sk:=[.var 4]) (g:=[.inl 0]) j9 rfl (by exact hr) (by first | exact Nat.le_refl _ | omega) rfl rfl ip aq (IW (vA 4) IV) (fun _=>rfl) trivial rfl rfl rfl rfl) rfl) (vA 9) rfl) (jD (cY rfl (by exact hu) (k:=.ne) (ao (zw (sp:=[]) (sk:=[.var 9]) (g:=[.inl 0]) kK rfl (by exact hr) (by first | exact Nat.le_refl _ | omega) rfl rfl ip aq (IW (vA 9) IV) (fun _=>rfl) trivial rfl rfl rfl rfl) rfl) (vA 4) rfl)))) (aa (aN cB) ai) ai) (aa (cZ (cY rfl (by exact hu) (k:=.ne) (ao (gQ (k:=.list) rfl rfl rfl rfl rfl rY (aF (ao (cC gm (by exact hr) ip (aV 9 aq)) rfl) aq rfl) rfl rfl) rfl) (ao (xi rfl (by exact hu) rfl rfl kJ (vA 3) rfl rfl) rfl) rfl) (aa (aN cB) ai) ai) (aa (gX pr (passes_of rfl) rfl (lU rfl fK (aC cInt bN rfl) rfl) (fun B pr=>(tG 10 nd (pr.ne rfl))) (fun B pr=>(aa (aM (cC tm (by exact hr) ip (aF (dF (i:=2) rfl (.inr (.inl rfl)) rfl rfl) (aV 5 aq) rfl)) (tO 5 nd (pr.ne rfl)) rfl rfl rfl) (aa (aM (oF (k:=.join) PySem.F.plainAttrs_str PySem.F.slot_str_join PySem.F.type_str_join (rF rfl) (fun d o v H m e1 e2 s=>jg .join (.inl rfl) e1 e2 s) (ao cS rfl) (aF (ao (eP pr rfl nd (own:=[("_law_line",14)]) (se:=.bi .add (.var 14) (.lit (.str "\n"))) (t:=.nm 14) (ie:=.of (.var 5)) (sifs:=[]) (by decide) rfl (by decide) (lG rfl (vA 5)) (blkOk_by (N:=["_law_script", "_law_k", "_law_state", "_law_names_here", "_law_sheet", "_law_lines", "_law_name_here", "_law_left", "_law_right_here", "_law_page", "_law_turn", "_law_odd", "_law_found", "_law_bad", "_law_line"]) (sc:=defScope jA) (by decide +kernel)) (fun s H C cl fp=>(ym 14 nd (pr.ne rfl))) (fun s H C cl fp=>lX) (fun s H C cl fp=>(bR rfl (k:=.add) (vA 14) (ao cS rfl))) (fun _=>rfl)) rfl) aq rfl) rfl rfl rfl rfl rfl) (tO 9 nd (pr.ne rfl)) rfl rfl rfl) (aa (cZ (jE (jT (cO (uj rfl (ao (cC mh (by exact hr) ip (aV 9 aq)) rfl) rfl rfl)) (jD (cO (uj rfl (ao (cC mh (by exact hr) ip (aF (ao (fZ rfl (vA 9) bG (dG rfl (ao (uc (ao cInt rfl)) rfl))) rfl) aq rfl)) rfl) rfl rfl))))) (aa (aN cB) ai) ai) ai)))) (fun _=>rfl)) (aa (gX pr (passes_of rfl) rfl (lG rfl (ao (dB hZ (aC cN (aC cInt (aC cB (aC (dB hZ bN) (aC (je hZ (aC cS (aC cInt (aC cInt bN rfl) rfl) rfl)) (aC vg (aC (dB hZ (aC cS bN rfl)) bN rfl) rfl) rfl) rfl) rfl) rfl) rfl)) rfl)) (fun B pr=>(tG 11 nd (pr.ne rfl))) (fun B pr=>(aa (aM (cC eE (by exact hr) ip (aF (ao cInt rfl) (aV 11 aq) rfl)) (tO 12 nd (pr.ne rfl)) rfl rfl rfl) (aa (cZ (jE (jT (cO (uj rfl (ao (jV (t:=.cls 14) rfl gn rfl rfl ay (vA 12) (pe_glob rfl mf rfl) rfl rfl rfl) rfl) rfl rfl)) (jD (cY rfl (by exact hu) (k:=.ne) (ao (FH fA rfl (vA 12)) rfl) (ao cInt rfl) rfl)))) (aa (aN cB) ai) ai) ai))) (fun _=>rfl)) (aa (aM (dB hZ (aC cN (aC cInt (aC cS (aC (dB hZ bN) (aC (pT (kvs:=[(.lit (.str "A"),.tup [.lit (.int 1),.lit (.int 2)])]) (fun B e=>by have pr:=dy.eq pr e; exact(pps_cons cS (je hZ (aC cInt (aC cInt bN rfl) rfl)) pps_nil)) rfl rfl (by simp) (by decide)) (aC (pT (kvs:=[(.lit (.str "a"),.lst [.lit (.int 1),.lit (.int 2)])]) (fun B e=>by have pr:=dy.eq pr e; exact(pps_cons cS (dB hZ (aC cInt (aC cInt bN rfl) rfl)) pps_nil)) rfl rfl (by simp) (by decide)) (aC (pT (kvs:=[(.lit (.str "a"),.tup [.lit (.int 1),.lit (.bl true)])]) (fun B e=>by have pr:=dy.eq pr e; exact(pps_cons cS (je hZ (aC cInt (aC cB bN rfl) rfl)) pps_nil)) rfl rfl (by simp) (by decide)) (aC (pT (kvs:=[(.lit (.str "a"),.tup [.lit (.int 1)])]) (fun B e=>by have pr:=dy.eq pr e; exact(pps_cons cS (je hZ (aC cInt bN rfl)) pps_nil)) rfl rfl (by simp) (by decide)) (aC (pT (kvs:=[(.lit (.int 5),.tup [.lit (.int 1),.lit (.int 2)])]) (fun B e=>by have pr:=dy.eq pr e; exact(pps_cons cInt (je hZ (aC cInt (aC cInt bN rfl) rfl)) pps_nil)) rfl rfl (by simp) (by decide)) bN rfl) rfl) rfl) rfl) rfl) rfl) rfl) rfl) rfl)) (tO 13 nd (pr.ne rfl)) rfl rfl rfl) (aa (gX pr (passes_of rfl) rfl (lG rfl (ao (bR rfl (k:=.add) (vA 13) (ao (dB hZ (aC (pT (kvs:=[(.lit (.str "a"),.tup [.lit (.int 1),.lit (.str "2")])]) (fun B e=>by have pr:=dy.eq pr e; exact(pps_cons cS (je hZ (aC cInt (aC cS bN rfl) rfl)) pps_nil)) rfl rfl (by simp) (by decide)) (aC (pT (kvs:=[(.lit (.str "a"),.lit .non)]) (fun B e=>by have pr:=dy.eq pr e; exact(pps_cons cS cN pps_nil)) rfl rfl (by simp) (by decide)) bN rfl) rfl)) rfl)) rfl)) (fun B pr=>(tG 11 nd (pr.ne rfl))) (fun B pr=>(aa (cZ (cO (uj rfl (ao (jV (t:=.cls 3) rfl gn rfl rfl ay (ao (cC eE (by exact hr) ip (aF (ao cInt rfl) (aV 11 aq) rfl)) rfl) (pe_glob rfl vC rfl) rfl rfl rfl) rfl) rfl rfl)) (aa (aN cB) ai) ai) ai)) (fun _=>rfl)) ai))))))))))))) (fun _=>rfl)) (aa (aN (nN (nk (lR rfl (by exact hu) (k:=.eq) (ao (cC iU (by exact hr) ip (aF (ao vg rfl) aq rfl)) rfl) (ao cS rfl) rfl) (nM (lR rfl (by exact hu) (k:=.eq) (ao (cC gm (by exact hr) ip (aF (ao cS rfl) aq rfl)) rfl) (ao vg rfl) rfl))))) ai))
end K74
noncomputable section
namespace K74
open PySem PySem.Spec PyProof.Rows L2 PV PL PM PN K61 K09 K72 K71
open He (ga ma)
theorem Js (s:PySem.W.SharedT):ob s=hk.obs s.abs:=B5 (HandSHeadRun.getT_eq s)
end K74
namespace K72
open PySem PySem.Spec PyProof.Rows L2 PV PL PM PN K61 K09
noncomputable section
def tq:List SS:=[.ite (.cm .eq (.var 2) (.lst [])) [.ret (.lit .non)] [],.asg (.nm 6) (.fn .tuple [.mu .pop 1 [] []]),.exp (.mu .append 1 [.un .neg (.lit (.int 1))] [.tup [.mu .pop 2 [] [],.var 6]]),.osl (Jo (cQ [(2,a9),(475,ux)]) (fun i j=>i+j) 3 (.lit (.int 1))),.asg (.nm 5) (.slc (.var 0) (.var 3) (.bi .add (.var 3) (.lit (.int 1)))),.ite (.cm .notin (.var 5) (.tup [.lit (.str ")"),.lit (.str ","),.lit (.str "")])) [.ret (.lit .non)] []]
end
end K72
namespace PL
open PySem PySem.Spec PyProof.Rows L2 PV
def kL:SE:=(.bi .sub (.var 2) (.bi .pow (.lit (.int 10)) (.lit (.int 18))))
def kM:List SE:=[.cm .ge (.var 2) (.bi .pow (.lit (.int 10)) (.lit (.int 18)))]
theorem yy:mU = [.asg (.nm 1) (.comp .lst kL [2] (.nm 2) (.of (.var 0)) kM),.ret (.dct (ck [(.lit (.str "large"),.mv 1),(.lit (.str "cells"),.frz (.fn .list [.var 0])),(.lit (.str "rest"),.lit (.int 0)),(.lit (.str "turn"),.lit (.int 0))]))]:=rfl
def kN:List SS:=[.asg (.nm 3) (.bi .mod (.fn .int [.bi .add (.bi .mul (.var 3) (.lit (.int 48271))) (.var 4)]) (.var 2))]
def iB:List SS:=[.asg (.nm 3) (.bi .add (.bi .mul (.lit (.int 104729)) (.idx (.var 0) (.lit (.str "turn")))) (.bi .fdiv (.var 2) (.lit (.int 7)))),.for (.nm 4) (.of (.idx (.var 0) (.lit (.str "cells")))) kN,.asg (.nm 1) (.bi .add (.bi .mul (.var 1) (.lit (.int 2147483647))) (.bi .mod (.fn .int [.bi .pow (.var 3) (.lit (.int 5))]) (.var 2)))]
theorem yz:mV = [.sub 0 [.lit (.str "turn")] (.bi .add (.idx (.var 0) (.lit (.str "turn"))) (.lit (.int 1))),.asg (.nm 1) (.lit (.int 0)),.for (.nm 2) (.of (.lst [.lit (.int 2147483629),.lit (.int 2147483587),.lit (.int 2147483579),.lit (.int 2147483563),.lit (.int 2147483549),.lit (.int 2147483543)])) iB,.ret (.mv 1)]:=rfl
theorem Ax:gb = [.ite (.cm .eq (.idx (.var 0) (.lit (.str "rest"))) (.lit (.int 0))) [.sub 0 [.lit (.str "rest")] (.ite (.pkcm .ne 0 [.lit (.str "large")] (.lst [])) (.mu .popAt 0 [.lit (.str "large")] [.lit (.int 0)]) (.call 21 [.var 0]))] [],.asg (.nm 2) (.bi .mod (.fn .int [.idx (.var 0) (.lit (.str "rest"))]) (.var 1)),.sub 0 [.lit (.str "rest")] (.bi .fdiv (.idx (.var 0) (.lit (.str "rest"))) (.var 1)),.ret (.mv 2)]:=rfl
theorem uD:l4 = [.ret (.idx (.var 1) (.call 22 [.var 0,.fn .len [.var 1]]))]:=rfl
def mi:SE:=(.idx (.var 3) (.call 22 [.var 0,.lit (.int 26)]))
theorem uE:oI = [.asg (.nm 1) (.lit (.str "tree drop undo lasting ring room range periods fewest trees none ok no row")),.asg (.nm 1) (.mt .split (.bi .add (.var 1) (.lit (.str " more refused enough top end pair a b c"))) [.lit (.str " ")]),.asg (.nm 2) (.call 22 [.var 0,.lit (.int 40)]),.ite (.cm .lt (.var 2) (.fn .len [.var 1])) [.ret (.idx (.var 1) (.var 2))] [],.asg (.nm 3) (.lit (.str "abcdefghijklmnopqrstuvwxyz")),.ret (.mt .join (.lit (.str "")) [.comp .lst mi [4] (.nm 4) (.range [.bi .add (.lit (.int 1)) (.call 22 [.var 0,.lit (.int 8)])]) []])]:=rfl
def kO:SE:=(.bi .add (.lit (.str "z")) (.var 6))
def kP:SE:=(.var 7)
def kQ:List SE:=[.cm .notin (.var 7) (.var 2)]
def gp:List SS:=[.asg (.nm 5) (.call 24 [.var 0]),.ite (.cm .isin (.var 5) (.var 2)) [.asg (.nm 5) (.idx (.comp .lst kP [7] (.nm 7) (.of (.var 3)) kQ) (.lit (.int 0)))] [],.exp (.mu .append 2 [] [.var 5])]
theorem yA:mW = [.asg (.tp [.nm 2,.nm 3]) (.tup [.lst [],.comp .lst kO [6] (.nm 6) (.of (.lit (.str "abcdefghijklmnopqrstuvwxyz"))) []]),.for (.nm 4) (.range [.var 1]) gp,.ret (.mv 2)]:=rfl
end PL
local macro_rules | `(tactic| simp_arith $c:optConfig [$xs,*] $[$l:location]?) => `(tactic| simp $c:optConfig [PV.fR, PV.bC, PV.bo, PV.n9, PV.dJ, PV.lJ, PV.cj, PV.qV, PV.dW, PV.nh, PV.qW, PV.pN, PV.wu, PV.qh, PV.ev, PV.ar, PV.hI, PV.pM, PV.Fb, PV.kx, PV.ll, PV.m8, PV.qU, PV.Ba, PV.jC, PV.cy, PV.qg, PV.dZ, PV.setPath, PV.Bc, PV.DG, PV.i9, PV.wt, PV.wa, PV.bp, PV.lr, PV.nD, PV.ck, PV.Res.noX, PV.nE, PV.Fl.whl, PV.cQ, List.lookup, PV.putD, PySem.sizeLine_eq, $xs,*] $[$l:location]?)
local macro_rules | `(tactic| simp_arith! $c:optConfig [$xs,*] $[$l:location]?) => `(tactic| simp $c:optConfig [PV.fR, PV.bC, PV.bo, PV.n9, PV.dJ, PV.lJ, PV.cj, PV.qV, PV.dW, PV.nh, PV.qW, PV.pN, PV.wu, PV.qh, PV.ev, PV.ar, PV.hI, PV.pM, PV.Fb, PV.kx, PV.ll, PV.m8, PV.qU, PV.Ba, PV.jC, PV.cy, PV.qg, PV.dZ, PV.setPath, PV.Bc, PV.DG, PV.i9, PV.wt, PV.wa, PV.bp, PV.lr, PV.nD, PV.ck, PV.Res.noX, PV.Fl.whl, PV.cQ, List.lookup, PV.putD, PySem.sizeLine_eq, $xs,*] $[$l:location]?)
local macro_rules | `(tactic| simp! $c:optConfig [$xs,*] $[$l:location]?) => `(tactic| simp $c:optConfig [PV.fR, PV.bC, PV.bo, PV.n9, PV.dJ, PV.lJ, PV.cj, PV.qV, PV.dW, PV.nh, PV.qW, PV.pN, PV.wu, PV.qh, PV.ev, PV.ar, PV.hI, PV.pM, PV.Fb, PV.kx, PV.ll, PV.m8, PV.qU, PV.Ba, PV.jC, PV.cy, PV.qg, PV.dZ, PV.setPath, PV.Bc, PV.wq, PV.qe, PV.uQ, PV.DG, PV.i9, PV.wt, PV.wa, PV.bp, PV.lr, PV.nD, PV.ck, PV.Res.noX, PV.nE, PV.Fl.whl, PV.cQ, List.lookup, PV.putD, PySem.sizeLine_eq, $xs,*] $[$l:location]?)
namespace PV.K1
open PySem L2 PL
abbrev stK:List D:=[.str "large",.str "cells",.str "rest",.str "turn"]
def qB (ls cs:List Int) (r t:Int):O:=.dic stK [.lst (ls.map fun i=>.d (.int i)),.d (.lst (cs.map .int)),.d (.int r),.d (.int t)]
theorem dH:aZ (.str "large") stK=true:=rfl
theorem dI:aZ (.str "cells") stK=true:=rfl
theorem eQ:aZ (.str "rest") stK=true:=rfl
theorem eR:aZ (.str "turn") stK=true:=rfl
theorem eS:dM (.str "large") stK=some 0:=by decide +kernel
theorem eT:dM (.str "cells") stK=some 1:=by decide +kernel
theorem gq:dM (.str "rest") stK=some 2:=by decide +kernel
theorem gr:dM (.str "turn") stK=some 3:=by decide +kernel
theorem fj:∀ {ks vs:List D}{k:D},aW k ks vs=(dM k ks).bind fun n=>vs[n]?
 | [],vs,k=>by cases vs <;> rfl
 | j::ks,[],k=>by
  show none=_
  unfold dM
  split
  ·rfl
  ·cases dM k ks <;> rfl
 | j::ks,v::vs,k=>by
  show(if keyOf j=keyOf k∧aA j=aA k then some v else aW k ks vs)=_
  unfold dM
  split
  ·rfl
  ·rw [fj]
   cases dM k ks <;> rfl
theorem pY {f:D→Env→Res (Option O)}{p:Int→Bool}{g:Int→O}{ρ:Env}:∀ {xs:List Int},(∀ x,f (.int x) ρ = .ok (if p x then some (g x)else none) ρ)→bq f (xs.map .int) ρ = .ok ((xs.filter p).map g) ρ
 | [],_=>rfl
 | x::xs,h=>by
  rw [List.map_cons,bq,h x]
  simp only [Res.bind_ok]
  rw [pY h,List.filter_cons]
  cases p x <;> rfl
theorem Ex:keysOf stK=some [.inr "large",.inr "cells",.inr "rest",.inr "turn"]:=rfl
def Gd (n:Nat) (o:O):Prop:=∃ ls cs r t,o=qB ls cs r t∧0≤t∧t≤(n:Int)
theorem Gd.mono {n m:Nat}{o:O} (h:Gd n o) (l:n≤m):Gd m o:=by
 obtain⟨ls,cs,r,t,e,h1,h2⟩:=h
 exact⟨ls,cs,r,t,e,h1,by omega⟩
theorem sx {f:D→Env→Res Fl}{st found prime:Option O}{p:Int} (hp:0 < p) (hp2:p < 2 ^ 40)
  (h:∀ c b x:Int,∀ y,f (.int c) [st,found,prime,some (.d (.int b)),y] = .ok .nx [st,found,prime,some (.d (.int ((b * 48271+c) % p))),some (.d (.int c))]) :
  ∀ (cs:List Int) (b:Int) (y:Option O),b.natAbs < 2 ^ 60→∃ b' y',forL f (cs.map .int) [st,found,prime,some (.d (.int b)),y] = .ok .nx [st,found,prime,some (.d (.int b')),y']∧b'.natAbs < 2 ^ 60
 | [],b,y,hb=>⟨b,y,rfl,hb⟩
 | c::cs,b,y,hb=>by
  have l1:0≤(b * 48271+c) % p:=Int.emod_nonneg _ (by omega)
  have l2:(b * 48271+c) % p < p:=Int.emod_lt_of_pos _ hp
  obtain⟨b',y',e,hb'⟩:=sx hp hp2 h cs ((b * 48271+c) % p) (some (.d (.int c))) (by omega)
  exact⟨b',y',by rw [List.map_cons,forL,h c b 0]; simpa using e,hb'⟩
theorem Cw {Φ:cU}{ls cs:List Int}{r t:Int} (h0:0≤t) (h1:t < 2 ^ 40) {p fo:Int} (hp:0 < p) (hp2:p < 2 ^ 32) {y b c:Option O} :
  ∃ fo' b' c',(bnd (aH (.nm 2) (.int p) [some (qB ls cs r t),some (.d (.int fo)),y,b,c]) fun ρ=>bC Φ iB ρ) = .ok .nx [some (qB ls cs r t),some (.d (.int fo')),some (.d (.int p)),b',c']:=by
 obtain⟨b',c',e,hb⟩:=sx (f:=fun x ρ=>bnd (aH (.nm 4) x ρ) fun ρ=>bC Φ kN ρ) (st:=some (qB ls cs r t)) (found:=some (.d (.int fo))) (prime:=some (.d (.int p))) (p:=p) hp (by omega)
  (fun c b x y=>by simp! [kN,hp]) cs (104729 * t+p / 7) c (by omega)
 refine⟨fo * 2147483647+b' ^ 5 % p,some (.d (.int b')),c',?_⟩
 have hd:(0:Int) < p∧p < 18446744073709551616:=by omega
 have hb':b'.natAbs < 18446744073709551616:=by omega
 simp! [iB,qB,fj,dH,dI,eQ,eR,eS,eT,gq,gr]at e ⊢
 simp! [e,fj,dH,dI,eQ,eR,eS,eT,gq,gr,hd.1,hb']
theorem xo {Φ:cU}{ls cs:List Int}{r t:Int} (h0:0≤t) (h1:t < 2 ^ 40):∀ (ps:List Int),(∀ p∈ps,0 < p∧p < 2 ^ 32)→∀ (fo:Int) (y b c:Option O), 
  ∃ fo' y' b' c',forL (fun x ρ=>bnd (aH (.nm 2) x ρ) fun ρ=>bC Φ iB ρ) (ps.map .int) [some (qB ls cs r t),some (.d (.int fo)),y,b,c] = .ok .nx [some (qB ls cs r t),some (.d (.int fo')),y',b',c']
 | [],_,fo,y,b,c=>⟨fo,y,b,c,rfl⟩
 | p::ps,hp,fo,y,b,c=>by
  obtain⟨f1,b1,c1,e1⟩:=Cw (Φ:=Φ) (ls:=ls) (cs:=cs) (r:=r) h0 h1 (hp p List.mem_cons_self).1 (hp p List.mem_cons_self).2 (fo:=fo) (y:=y) (b:=b) (c:=c)
  obtain⟨f2,y2,b2,c2,e2⟩:=xo h0 h1 ps (fun q hq=>hp q (List.mem_cons_of_mem _ hq)) f1 (some (.d (.int p))) b1 c1
  exact⟨f2,y2,b2,c2,by rw [List.map_cons,forL,e1]; exact e2⟩
theorem mixed {ls cs:List Int}{r t:Int} (h0:0≤t) (h1:t < 2 ^ 32):∃ v:Int,iJ [qB ls cs r t] = .ok (.d (.int v)) [qB ls cs r (t+1)]:=by
 obtain⟨v,y,b,c,e⟩:=xo (Φ:=cQ []) (ls:=ls) (cs:=cs) (r:=r) (t:=t+1) (by omega) (by omega) [2147483629,2147483587,2147483579,2147483563,2147483549,2147483543] (by decide) 0 none none none
 refine⟨v,(aI (by rfl) (by rfl)).trans ?_⟩
 rw [yz]
 simp! [qB,fj,dH,dI,eQ,eR,eS,eT,gq,gr]at e ⊢
 simp! [e]
theorem xp (n:Nat):∀ xs:List Int,D.okdL n (xs.map .int)=true
 | []=>by rw [List.map_nil,D.okdL]
 | x::xs=>by
  rw [List.map_cons,D.okdL,xp n xs]
  cases n <;> simp [D.okd]
theorem take {n:Nat}{o:O}{s:Int} (g:Gd n o) (hn:n < 2 ^ 31) (h0:0 < s) (h1:s < 1073741824):∃ (v:Int) (o':O),aU [o,.d (.int s)] = .ok (.d (.int v)) [o',.d (.int s)]∧0≤v∧v < s∧Gd (n+1) o':=by
 obtain⟨ls,cs,r,t,rfl,t0,t1⟩:=g
 have key:∃ (v:Int) (o':O),fR (cQ [(21,iJ)]) gb 3 [qB ls cs r t,.d (.int s)] = .ok (.d (.int v)) [o',.d (.int s)]∧0≤v∧v < s∧Gd (n+1) o':=by
  rw [Ax]
  by_cases hr:r=0
  ·cases ls with
   | nil =>
    obtain⟨v,e⟩:=mixed (ls:=[]) (cs:=cs) (r:=r) t0 (by omega)
    refine⟨v % s,qB [] cs (v / s) (t+1),?_,Int.emod_nonneg _ (by omega),Int.emod_lt_of_pos _ h0,_,_,_,_,rfl,by omega,by omega⟩
    simp! [qB,fj,dH,dI,eQ,eR,eS,eT,gq,gr,hr,jX]at e ⊢
    simp! [e,fj,dH,dI,eQ,eR,eS,eT,gq,gr,h0,h1,nC,D.okd,D.okdL,D.eqd,D.eqdL]
   | cons l ls =>
    refine⟨l % s,qB ls cs (l / s) t,?_,Int.emod_nonneg _ (by omega),Int.emod_lt_of_pos _ h0,_,_,_,_,rfl,by omega,by omega⟩
    have ho:D.okdL 149 (ls.map D.int)=true:=xp _ _
    simp! [qB,fj,dH,dI,eQ,eR,eS,eT,gq,gr,hr,jX]
    simp! [fj,dH,dI,eQ,eR,eS,eT,gq,gr,h0,h1,nC,D.okd,D.okdL,D.eqd,D.eqdL,ho,Function.comp_def,ixN]
  ·refine⟨r % s,qB ls cs (r / s) t,?_,Int.emod_nonneg _ (by omega),Int.emod_lt_of_pos _ h0,_,_,_,_,rfl,by omega,by omega⟩
   have hr':(r == 0)=false:=by simpa using hr
   simp! [qB,fj,dH,dI,eQ,eR,eS,eT,gq,gr,hr',jX]
   simp! [fj,dH,dI,eQ,eR,eS,eT,gq,gr,h0,h1]
 obtain⟨v,o',e,q⟩:=key
 exact⟨v,o',(aI (by rfl) (by rfl)).trans e,q⟩
end PV.K1
namespace PV.K1
open PySem L2 PL
@[simp] theorem Cy {ls cs:List Int}{r t:Int}{i:Nat}{ρ:Env}:aj.taken (qB ls cs r t) i ρ=ρ.set i none:=rfl
@[simp] theorem LJ {ls cs:List Int}{r t:Int}{os:List O}{o:O}{ρ:Env}:bp (qB ls cs r t::os) (some o::ρ)=(bp os ρ).map (o :: ·):=rfl
@[simp] theorem Kk {xs:List O}{os:List O}{o:O}{ρ:Env}:bp (.lst xs::os) (some o::ρ)=(bp os ρ).map (o :: ·):=rfl
theorem Gd.st {n:Nat}{o:O} (g:Gd n o):∃ ls cs r t,o=qB ls cs r t:=by
 obtain⟨ls,cs,r,t,e,_⟩:=g
 exact⟨ls,cs,r,t,e⟩
abbrev Jt (e:Int):O:=.d (.int e)
theorem qC {α:Type}{xs:List α}{v:Int} (h0:0≤v) (h1:v < xs.length):∃ x∈xs,atI xs v=some x:=by
 have hl:v.toNat < xs.length:=by omega
 refine⟨xs[v.toNat],List.getElem_mem _,?_⟩
 have:=atI_nat (xs:=xs) (j:=v.toNat) (v:=xs[v.toNat]) (List.getElem?_eq_getElem hl)
 rwa [show((v.toNat:Nat):Int)=v by omega]at this
theorem oP {α β:Type}{f:α→β}{xs:List α}{v:Int}:atI (xs.map f) v=(atI xs v).map f:=by
 unfold atI
 rw [List.length_map]
 cases ixN xs.length v <;> simp
abbrev xq:Str := "abcdefghijklmnopqrstuvwxyz"
structure bt (s:Str):Prop where
 lo:1≤s.length
 hi:s.length≤8
 ab:∀ c∈s.cps.toList,c∈xq.cps.toList
def dc (s:Str):Bool:=decide (1≤s.length)&&(decide (s.length≤8)&&s.cps.toList.all fun c=>decide (c∈xq.cps.toList))
theorem ke {s:Str} (h:dc s=true):bt s:=by
 unfold dc at h
 simp only [Bool.and_eq_true,decide_eq_true_eq,List.all_eq_true]at h
 exact⟨h.1,h.2.1,h.2.2⟩
def words:List Str:=["tree", "drop", "undo", "lasting", "ring", "room", "range", "periods", "fewest", "trees", "none", "ok", "no", "row", "more", "refused", "enough", "top", "end", "pair", "a", "b", "c"]
theorem Cz:∀ s∈words,bt s:=by
 have h:(words.all dc)=true:=by decide +kernel
 exact fun s hs=>ke (List.all_eq_true.mp h s hs)
abbrev w1:Str := "tree drop undo lasting ring room range periods fewest trees none ok no row"
abbrev w2:Str := " more refused enough top end pair a b c"
theorem zA:Txt.split (w1++w2) " " = words:=by decide +kernel
theorem CA:w1.length=74:=by decide +kernel
theorem CB:w2.length=39:=by decide +kernel
theorem zB:(w1++w2).length=113:=by decide +kernel
theorem kg:words.length=23:=by decide +kernel
theorem Ey:xq.cps.toList.length=26:=by decide +kernel
theorem xr:xq.length=26:=by decide +kernel
abbrev ch (c:Nat):Str:=⟨#[c]⟩
abbrev bL (s:Str):O:=.d (.str s)
theorem strs_map:∀ xs:List Str,jQ (xs.map .str)=some xs
 | []=>rfl
 | x::xs=>by rw [List.map_cons,jQ,strs_map xs]; rfl
theorem CC:∀ cs:List Nat,Txt.join "" (cs.map ch)=⟨cs.toArray⟩:=by
 have key:∀ cs:List Nat,PySem.Str.join "" (cs.map ch)=⟨cs.toArray⟩:=by
  intro cs
  induction cs with
  | nil=>rfl
  | cons c cs ih =>
   cases cs with
   | nil=>rfl
   | cons d cs =>
    show(ch c++Str.ofString "")++PySem.Str.join "" ((d::cs).map ch)=_
    rw [ih]
    show(⟨(#[c]++(Str.ofString "").cps)++(d::cs).toArray⟩:Str)=_
    rw [show(Str.ofString "").cps = #[]from rfl]
    simp
 intro cs
 unfold Txt.join
 rw [StrLaws.glued_eq_join]
 exact key cs
theorem zC:∀ cs:List Nat,((cs.map ch).map (·.length)).sum=cs.length
 | []=>rfl
 | c::cs=>by
  rw [List.map_cons,List.map_cons,List.sum_cons,zC cs]
  show 1+cs.length=cs.length+1
  omega
theorem oQ {f:D→Env→Res (Option O)}{w y z:Option O}
  (h:∀ n o x,Gd n o→n < 2 ^ 31→∃ (c:Nat) (o':O),f x [some o,w,y,z,none] = .ok (some (bL (ch c))) [some o',w,y,z,none]∧c∈xq.cps.toList∧Gd (n+1) o') :
  ∀ (xs:List D) (n:Nat) (o:O),Gd n o→n+xs.length < 2 ^ 31→∃ (cs:List Nat) (o':O),bq f xs [some o,w,y,z,none] = .ok (cs.map fun c=>bL (ch c)) [some o',w,y,z,none]∧cs.length=xs.length∧(∀ c∈cs,c∈xq.cps.toList)∧Gd (n+xs.length) o'
 | [],n,o,g,_=>⟨[],o,rfl,rfl,(fun c hc=>by cases hc),g⟩
 | x::xs,n,o,g,hn=>by
  rw [List.length_cons]at hn
  obtain⟨c,o1,e1,hc,g1⟩:=h n o x g (by omega)
  obtain⟨cs,o2,e2,hl,hcs,g2⟩:=oQ h xs (n+1) o1 g1 (by omega)
  refine⟨c::cs,o2,?_,by simp [hl],fun d hd=>?_,g2.mono (by simp; omega)⟩
  ·rw [bq,e1]
   simp only [Res.bind_ok]
   rw [e2]
   rfl
  ·rcases List.mem_cons.mp hd with q | q
   ·rw [q]; exact hc
   ·exact hcs d q
theorem name {n:Nat}{o:O} (g:Gd n o) (hn:n < 2 ^ 30):∃ (s:Str) (o':O),j6 [o] = .ok (.d (.str s)) [o']∧bt s∧Gd (n+10) o':=by
 obtain⟨v,o1,e1,v0,v1,g1⟩:=take (s:=40) g (by omega) (by omega) (by omega)
 obtain⟨ls,cs,r,t,rfl⟩:=g.st
 by_cases hv:v < 23
 ·obtain⟨x,hx,e2⟩:=qC (xs:=words) v0 (by rw [kg]; omega)
  refine⟨x,o1,(aI (by rfl) (by rfl)).trans ?_,Cz x hx,g1.mono (by omega)⟩
  rw [uE]
  have hsp:((Str.ofString " ").length == 0)=false:=by decide +kernel
  simp! [CA,CB,zB,zA,hsp,Function.comp_def]
  simp! [e1,Function.comp_def,kg,hv,oP,e2]
 ·obtain⟨v2,o2,e2,v20,v21,g2⟩:=take (s:=8) g1 (by omega) (by omega) (by omega)
  obtain⟨ls1,cs1,r1,t1,rfl⟩:=g1.st
  have hn2:v2.toNat < 8:=by omega
  obtain⟨cs2,o3,e3,l3,hc3,g3⟩:=oQ (w:=some (.lst (words.map bL))) (y:=some (.d (.int v))) (z:=some (.d (.str xq)))
   (f:=fun x ρ=>bnd (aH (.nm 4) x ρ) fun ρ=>(dW (cQ [(22,aU)]) [] ρ).bind fun b ρ=>jR b ((ev (cQ [(22,aU)]) mi ρ).bind fun o ρ=>.ok (some o) (ar [4] ρ)) (.ok none (ar [4] ρ)))
   (fun n o x g hn=>by
    obtain⟨u,o1,e1,u0,u1,g1⟩:=take (s:=26) g hn (by omega) (by omega)
    obtain⟨ls,cs,r,t,rfl⟩:=g.st
    obtain⟨c,hc,e2⟩:=qC (xs:=xq.cps.toList) u0 (by rw [Ey]; omega)
    refine⟨c,o1,?_,hc,g1⟩
    simp! [mi]
    simp! [e1,xr,e2]) (bB 0 (1+v2).toNat) (n+1+1) o2 g2 (by simp [bB]; omega)
  have l3':cs2.length=(1+v2).toNat:=by rw [l3]; simp [bB]
  refine⟨⟨cs2.toArray⟩,o3,(aI (by rfl) (by rfl)).trans ?_,⟨?_,?_,?_⟩,g3.mono (by simp [bB]; omega)⟩
  ·rw [uE]
   have hsp:((Str.ofString " ").length == 0)=false:=by decide +kernel
   have h0:(Str.ofString "").length=0:=rfl
   have hs:cs2.length≤16777216:=by omega
   obtain⟨ls2,cs2',r2,t2,rfl⟩:=g2.st
   have hm:cs2.map (fun c=>D.str (ch c))=(cs2.map ch).map D.str:=by simp
   have hr:-4611686018427387904≤1+v2∧1+v2≤16777216:=by omega
   simp! [fR]at e3
   simp! [CA,CB,zB,zA,hsp,Function.comp_def]
   simp! [e1,Function.comp_def,kg,hv]
   simp! [e2,e3,hr]
   have hm2:List.map (O.frz∘fun c=>bL (ch c)) cs2=(cs2.map ch).map D.str:=by simp [Function.comp_def]
   simp only [hm2,strs_map,zC,CC,h0,Nat.mul_zero,Nat.add_zero,if_pos hs]
   simp! [fR]
  ·show 1≤cs2.toArray.size
   simp [l3']; omega
  ·show cs2.toArray.size≤8
   simp [l3']; omega
  ·intro c hc
   exact hc3 c (by simpa using hc)
end PV.K1
namespace PV.K1
open PySem L2 PL
theorem mj {α:Type}{f:D→Env→Res (Option O)}{a:α→D}{p:α→Bool}{g:α→O}{ρ:Env}:∀ {xs:List α},(∀ x∈xs,f (a x) ρ = .ok (if p x then some (g x)else none) ρ)→bq f (xs.map a) ρ = .ok ((xs.filter p).map g) ρ
 | [],_=>rfl
 | x::xs,h=>by
  rw [List.map_cons,bq,h x List.mem_cons_self]
  simp only [Res.bind_ok]
  rw [mj fun y hy=>h y (List.mem_cons_of_mem _ hy),List.filter_cons]
  cases p x <;> rfl
theorem comp_map {α:Type}{f:D→Env→Res (Option O)}{a:α→D}{g:α→O}{ρ:Env}{xs:List α} (h:∀ x∈xs,f (a x) ρ = .ok (some (g x)) ρ):bq f (xs.map a) ρ = .ok (xs.map g) ρ:=by
 have:=mj (f:=f) (a:=a) (p:=fun _=>true) (g:=g) (ρ:=ρ) (xs:=xs) (by simpa using h)
 rwa [List.filter_eq_self.mpr (by simp)]at this
@[simp] theorem Ju {α:Type}{x:α}{xs:List α}:atI (x::xs) 0=some x:=atI_nat (j:=0) rfl
theorem gu {n:Nat}{s:Str}:D.okd n (.str s)=true:=by cases n <;> rw [D.okd]
theorem iW {n:Nat}:∀ xs:List Str,D.okdL n (xs.map .str)=true
 | []=>by rw [List.map_nil,D.okdL]
 | x::xs=>by rw [List.map_cons,D.okdL,iW xs,gu]; rfl
theorem vD {s t:Str}:D.eqd (.str s) (.str t)=decide (s=t):=by
 rw [D.eqd]
 rfl
theorem vF {s:Str}{fs:List Str}:(fs.any fun x=>D.eqd (.str x) (.str s))=decide (s∈fs):=by
 induction fs with
 | nil=>rfl
 | cons x fs ih =>
  rw [List.any_cons,ih,vD]
  by_cases h:x=s
  ·subst h; simp
  ·have h':¬ s=x:=fun z=>h z.symm
   simp [h,h']
def eZ:List Str:=xq.cps.toList.map fun c=>(Str.ofString "z")++ch c
theorem yB:eZ.length=26:=by decide +kernel
theorem Ay:eZ.Nodup:=by decide +kernel
theorem Az:∀ s∈eZ,bt s:=by
 have h:(eZ.all dc)=true:=by decide +kernel
 exact fun s hs=>ke (List.all_eq_true.mp h s hs)
theorem yC {fs:List Str} (h:fs.length < 26):∃ x r,eZ.filter (fun s=>decide (s∉fs))=x::r∧x∈eZ∧x∉fs:=by
 cases e:eZ.filter (fun s=>decide (s∉fs))with
 | nil =>
  have hs:eZ ⊆ fs:=fun x hx=>by
   have:=List.filter_eq_nil_iff.mp e x hx
   simpa using this
  have:=Ay.length_le_of_subset hs
  rw [yB]at this
  omega
 | cons x r =>
  have hm:x∈eZ.filter (fun s=>decide (s∉fs)):=by rw [e]; exact List.mem_cons_self
  have:=List.mem_filter.mp hm
  exact⟨x,r,rfl,this.1,by simpa using this.2⟩
noncomputable abbrev ΦN:cU:=cQ [(24,j6)]
theorem yD {n:Nat}{o:O}{fs:List Str}{k nm many:Option O}{x:D} (g:Gd n o) (hn:n < 2 ^ 29) (hf:fs.length < 26):∃ (s:Str) (o':O) (k' nm':Option O), 
  (bnd (aH (.nm 4) x [some o,many,some (.lst (fs.map bL)),some (.lst (eZ.map bL)),k,nm,none,none]) fun ρ=>bC ΦN gp ρ) = .ok .nx [some o',many,some (.lst ((fs++[s]).map bL)),some (.lst (eZ.map bL)),k',nm',none,none]∧bt s∧s∉fs∧Gd (n+10) o':=by
 obtain⟨s,o1,e1,hs,g1⟩:=name g (by omega)
 obtain⟨ls,cs,r,t,rfl⟩:=g.st
 have hfl:fs.length < 16777216:=by omega
 by_cases h:s∈fs
 ·obtain⟨z,r2,ez,z1,z2⟩:=yC hf
  refine⟨z,o1,some (.d x),some (bL z),?_,Az z z1,z2,g1⟩
  have ec:bq (fun x ρ=>bnd (aH (.nm 7) x ρ) fun ρ=>(dW ΦN kQ ρ).bind fun b ρ=>jR b ((ev ΦN kP ρ).bind fun o ρ=>.ok (some o) (ar [7] ρ)) (.ok none (ar [7] ρ))) (eZ.map .str) [some o1,many,some (.lst (fs.map bL)),none,some (.d x),some (.d (.str s)),none,none] = .ok ((z::r2).map bL) [some o1,many,some (.lst (fs.map bL)),none,some (.d x),some (.d (.str s)),none,none]:=by
   rw [mj (p:=fun s=>decide (s∉fs)) (g:=bL),ez]
   intro y hy
   simp! [kQ,kP,Function.comp_def,gu,iW,vF]
   by_cases hy:y∈fs <;> simp! [hy,Function.comp_def]
  simp! [gp]
  simp! [e1,Function.comp_def,gu,iW,vF,h]
  simp! [fR]at ec
  simp! [ec,Function.comp_def]
  simp! [hfl]
 ·refine⟨s,o1,some (.d x),some (bL s),?_,hs,h,g1⟩
  simp! [gp]
  simp! [e1,Function.comp_def,gu,iW,vF,h,hfl]
theorem sy {many:Option O}:∀ (xs:List D) (n:Nat) (o:O) (fs:List Str) (k nm:Option O),Gd n o→n+10 * xs.length < 2 ^ 29→fs.length+xs.length≤26→fs.Nodup→(∀ s∈fs,bt s) →
  ∃ (gs:List Str) (o':O) (k' nm':Option O),forL (fun x ρ=>bnd (aH (.nm 4) x ρ) fun ρ=>bC ΦN gp ρ) xs [some o,many,some (.lst (fs.map bL)),some (.lst (eZ.map bL)),k,nm,none,none] = .ok .nx [some o',many,some (.lst (gs.map bL)),some (.lst (eZ.map bL)),k',nm',none,none] ∧
   gs.length=fs.length+xs.length∧gs.Nodup∧(∀ s∈gs,bt s)∧Gd (n+10 * xs.length) o'
 | [],n,o,fs,k,nm,g,_,_,nd,hk=>⟨fs,o,k,nm,rfl,rfl,nd,hk,g⟩
 | x::xs,n,o,fs,k,nm,g,hn,hl,nd,hk=>by
  rw [List.length_cons]at hn hl
  obtain⟨s,o1,k1,nm1,e1,h1,h2,g1⟩:=yD (k:=k) (nm:=nm) (many:=many) (x:=x) (fs:=fs) g (by omega) (by omega)
  obtain⟨gs,o2,k2,nm2,e2,h3,h4,h5,g2⟩:=sy xs (n+10) o1 (fs++[s]) k1 nm1 g1 (by omega) (by simp; omega) (by
   rw [List.nodup_append]
   exact⟨nd,by simp,fun a ha b hb=>by
    rw [List.mem_singleton.mp hb]
    exact fun z=>h2 (z ▸ ha)⟩) (fun a ha=>by
   rcases List.mem_append.mp ha with q | q
   ·exact hk a q
   ·rw [List.mem_singleton.mp q]; exact h1)
  refine⟨gs,o2,k2,nm2,?_,by simp at h3; simp; omega,h4,h5,g2.mono (by simp; omega)⟩
  rw [forL,e1]
  exact e2
theorem names {n:Nat}{o:O}{m:Int} (g:Gd n o) (hn:n < 2 ^ 28) (h0:0≤m) (h1:m≤26):∃ (gs:List Str) (o':O),iK [o,.d (.int m)] = .ok (.lst (gs.map bL)) [o',.d (.int m)]∧gs.length=m.toNat∧gs.Nodup∧(∀ s∈gs,bt s)∧Gd (n+260) o':=by
 obtain⟨gs,o2,k2,nm2,e2,h3,h4,h5,g2⟩:=sy (many:=some (.d (.int m))) (bB 0 m.toNat) n o [] none none g (by simp [bB]; omega) (by simp [bB]; omega) List.nodup_nil (fun s hs=>by cases hs)
 obtain⟨ls,cs,r,t,rfl⟩:=g.st
 have hl:gs.length=m.toNat:=by rw [h3]; simp [bB]
 refine⟨gs,o2,(aI (by rfl) (by rfl)).trans ?_,hl,h4,h5,g2.mono (by simp [bB]; omega)⟩
 rw [yA]
 have ec:bq (fun x ρ=>bnd (aH (.nm 6) x ρ) fun ρ=>(dW ΦN [] ρ).bind fun b ρ=>jR b ((ev ΦN kO ρ).bind fun o ρ=>.ok (some o) (ar [6] ρ)) (.ok none (ar [6] ρ))) (xq.cps.toList.map fun c=>.str ⟨#[c]⟩) [some (qB ls cs r t),some (.d (.int m)),none,none,none,none,none,none] = .ok (eZ.map bL) [some (qB ls cs r t),some (.d (.int m)),none,none,none,none,none,none]:=by
  rw [comp_map (g:=fun c=>bL ((Str.ofString "z")++ch c))]
  ·unfold eZ
   rw [List.map_map]
   rfl
  ·intro c _
   have h1:(Str.ofString "z").length=1:=rfl
   have h2:(ch c).length=1:=rfl
   simp! [kO,h1,h2]
 have hr:-4611686018427387904≤m∧m≤16777216:=by omega
 simp! [fR]at ec e2
 simp! [ec,xr,Function.comp_def]
 simp! [e2,hr]
end PV.K1
namespace PV.K1
open PySem L2 PL
abbrev Ent:Type:=Str×Bool
def Jv (e:Ent):D:=.tup [.str e.1,.int (if e.2 then 1 else 0)]
def FN (w:List Ent):O:=.lst (w.map fun e=>.d (Jv e))
def dl (e:Ent):Int:=if e.2 then -1 else 1
def opens (w:List Ent):List Str:=(w.filter fun e=>! e.2).map (·.1)
theorem xt {α:Type}{f:α→D}{w:List α}{k:D}{r:O}:aJ (.lst (w.map fun e=>.d (f e))) k r = .lst (w.map fun e=>.d (f e)):=by
 have hs:O.shal (.lst (w.map fun e=>.d (f e))) = .lst (w.map fun e=>.d (f e)):=by
  show O.lst _=_
  rw [List.map_map]
  refine congrArg O.lst (List.map_congr_left fun e _=>?_)
  exact congrArg O.d gY
 unfold aJ
 split
 ·rfl
 ·cases k with
  | int i =>
   rw [Eg]
   cases q:ixN (w.map fun e=>O.d (f e)).length i with
   | none=>exact hs
   | some j =>
    cases q2:(w.map fun e=>O.d (f e))[j]? with
    | none=>simp only [q2]; exact hs
    | some y =>
     simp only [q2]
     have hm:=List.mem_of_getElem? q2
     obtain⟨e,_,rfl⟩:=List.mem_map.mp hm
     refine congrArg O.lst ?_
     rw [gY]
     obtain⟨hl,he⟩:=List.getElem?_eq_some_iff.mp q2
     rw [← he]
     exact List.set_getElem_self hl
  | _=>exact hs
theorem pZ {lo:Int}{n:Nat}:bB lo (n+1) = .int lo::bB (lo+1) n:=by
 unfold bB
 rw [List.range_succ_eq_map,List.map_cons,List.map_map]
 refine congr (congrArg List.cons (by simp)) (List.map_congr_left fun i _=>?_)
 show D.int (lo+((i+1:Nat):Int))=D.int (lo+1+(i:Int))
 congr 1
 omega
end PV.K1
namespace PV.K1
open PySem L2 PL
@[simp] theorem Kl {w:List Ent}{i:Nat}{ρ:Env}:aj.taken (FN w) i ρ=ρ.set i none:=rfl
@[simp] theorem MK {w:List Ent}{os:List O}{o:O}{ρ:Env}:bp (FN w::os) (some o::ρ)=(bp os ρ).map (o :: ·):=rfl
end PV.K1
namespace PV.K1
open PySem L2 PL
inductive F where
 | nil
 | node (x:Str) (a b:F)
def F.walk:F→List Ent
 | .nil=>[]
 | .node x a b=>(x,false)::(a.walk++(x,true)::b.walk)
def F.shape:F→List D
 | .nil=>[]
 | .node x a b=>.tup [.str x,.tup a.shape]::b.shape
def F.names:F→List Str
 | .nil=>[]
 | .node x a b=>x::(a.names++b.names)
def F.size:F→Nat
 | .nil=>0
 | .node _ a b=>1+a.size+b.size
def F.pars (p:D):F→List D
 | .nil=>[]
 | .node x a b=>p::(a.pars (.str x)++b.pars p)
theorem F.opens_walk:∀ f:F,opens f.walk=f.names
 | .nil=>rfl
 | .node x a b=>by
  show opens ((x,false)::(a.walk++(x,true)::b.walk))=x::(a.names++b.names)
  rw [← F.opens_walk a,← F.opens_walk b]
  unfold opens
  simp
theorem F.names_len:∀ f:F,f.names.length=f.size
 | .nil=>rfl
 | .node x a b=>by
  show(x::(a.names++b.names)).length=1+a.size+b.size
  rw [List.length_cons,List.length_append,F.names_len a,F.names_len b]
  omega
theorem F.pars_len {p:D}:∀ f:F,(f.pars p).length=f.size
 | .nil=>rfl
 | .node x a b=>by
  show(p::(a.pars (.str x)++b.pars p)).length=1+a.size+b.size
  rw [List.length_cons,List.length_append,F.pars_len a,F.pars_len b]
  omega
@[simp] theorem AA {xs:List D}:xs.map (O.frz∘O.d)=xs:=by
 rw [show O.frz∘O.d=id from funext fun x=>gY,List.map_id]
end PV.K1
namespace PV.K1
open PySem L2 PL
theorem kh {x:Str}:∀ {ns:List Str},aZ (.str x) (ns.map .str)=true:=by
 intro ns
 have h:((ns.map D.str).all fun j=>(keyOf j).isSome)=true:=by
  rw [List.all_eq_true]
  intro j hj
  obtain⟨s,_,rfl⟩:=List.mem_map.mp hj
  rfl
 show(((keyOf (.str x)).isSome&&(ns.map D.str).all fun j=>(keyOf j).isSome)||_)=true
 rw [h]
 rfl
theorem kR {x y:Str}:(keyOf (.str x)=keyOf (.str y)∧aA (.str x)=aA (.str y))↔x=y:=by
 constructor
 ·intro h
  have h1:(some (Sum.inr x):Option Key)=some (Sum.inr y):=h.1
  injection h1 with h1
  injection h1
 ·rintro rfl
  exact⟨rfl,rfl⟩
abbrev F.dicD (f:F):D:=.dic (f.names.map .str) (f.pars .non)
theorem p6 {α:Type}:∀ xs:List α,dU (xs.map fun _=>D.bl true)=some (xs.map fun _=>true)
 | []=>rfl
 | x::xs=>by rw [List.map_cons,dU,p6 xs]; rfl
end PV.K1
namespace PV.K1
open PySem L2 PL
theorem Ez {n:Nat}{i:Int}:D.okd n (.int i)=true:=by cases n <;> rw [D.okd]
structure Nf (f:F):Prop where
 nd:f.names.Nodup
 ok:∀ s∈f.names,bt s
 sz:f.size≤12
end PV.K1
namespace PV.K1
open PySem L2 PL
abbrev LK:List Str:=["own_shape", "own_walk", "own_names", "above"]
abbrev F.nmD (f:F):D:=.tup (f.names.map .str)
abbrev F.wkD (f:F):D:=.tup (f.walk.map Jv)
abbrev F.shD (f:F):D:=.tup f.shape
abbrev F.tr (f:F) (a:O):O:=.obj 20 LK [.d f.shD,.d f.wkD,.d f.nmD,a]
theorem Ng:qe "own_walk" LK=some 1:=by decide +kernel
theorem Nh:qe "own_names" LK=some 2:=by decide +kernel
noncomputable abbrev ΦI:cU:=cQ [(3,yq),(4,Am)]
end PV.K1
namespace PV.K1
open PySem L2 PL
@[simp] theorem LL {f:F}{a:O}{os:List O}{o:O}{ρ:Env}:bp (f.tr a::os) (some o::ρ)=(bp os ρ).map (o :: ·):=rfl
def F.par (f:F) (x:Str):D:=(aW (.str x) (f.names.map .str) (f.pars .non)).getD .non
theorem uF {x:Str}:∀ {ns:List Str}{vs:List D},ns.length=vs.length→x∈ns→∃ d∈vs,aW (.str x) (ns.map .str) vs=some d
 | y::ns,v::vs,hl,hx=>by
  show ∃ d∈v::vs,(if keyOf (.str y)=keyOf (.str x)∧aA (.str y)=aA (.str x)then some v else aW (.str x) (ns.map .str) vs)=some d
  by_cases h:y=x
  ·rw [if_pos (kR.mpr h)]
   exact⟨v,List.mem_cons_self,rfl⟩
  ·rw [if_neg fun z=>h (kR.mp z)]
   obtain⟨d,h1,h2⟩:=uF (ns:=ns) (vs:=vs) (by simpa using hl) ((List.mem_cons.mp hx).resolve_left fun z=>h z.symm)
   exact⟨d,List.mem_cons_of_mem _ h1,h2⟩
theorem F.pars_str {p:D}:∀ (f:F),∀ d∈f.pars p,d=p∨∃ x∈f.names,d = .str x
 | .nil,d,h=>by cases h
 | .node x a b,d,h=>by
  have hm:∀ y,y∈(F.node x a b).names↔y∈x::(a.names++b.names):=fun _=>Iff.rfl
  have h:d∈p::(a.pars (.str x)++b.pars p):=h
  rcases List.mem_cons.mp h with q | q
  ·exact .inl q
  ·rcases List.mem_append.mp q with q | q
   ·rcases F.pars_str a d q with e | ⟨y,hy,e⟩
    ·exact .inr ⟨x,List.mem_cons_self,e⟩
    ·exact .inr ⟨y,List.mem_cons_of_mem _ (List.mem_append_left _ hy),e⟩
   ·rcases F.pars_str b d q with e | ⟨y,hy,e⟩
    ·exact .inl e
    ·exact .inr ⟨y,List.mem_cons_of_mem _ (List.mem_append_right _ hy),e⟩
theorem F.par_at {f:F}{x:Str} (h:x∈f.names):aW (.str x) (f.names.map .str) (f.pars .non)=some (f.par x)∧(f.par x = .non∨∃ y∈f.names,f.par x = .str y):=by
 obtain⟨d,h1,h2⟩:=uF (x:=x) (ns:=f.names) (vs:=f.pars .non) (by rw [F.names_len,F.pars_len]) h
 have e:f.par x=d:=by unfold F.par; rw [h2]; rfl
 rw [e]
 exact⟨h2,F.pars_str f d h1⟩
theorem LN {f:F}{x:Str} (h:x∈f.names) {o:O}{k:D}:aJ o k (.d (f.par x))=o:=by
 rcases(F.par_at h).2 with e | ⟨y,_,e⟩ <;> rw [e] <;> rfl
end PV.K1
namespace PV.K1
open PySem L2 PL
def TI (f:F) (rest:List (Option O)) (ρ:Env):Prop:=∃ a:O,a.frz=f.dicD∧ρ=some (f.tr a)::rest
end PV.K1
namespace PM
open PySem PySem.Spec PyProof.Rows L2 PV
def de:SE:=(.var 1)
def df:List SE:=[.cm .notin (.var 1) (.lit (.str "abcdefghijklmnopqrstuvwxyz"))]
theorem oR:fJ = [.ite (.bor [.bnot (.isa [20] [.str] (.var 0)),.bnot (.cm2 .le .le (.lit (.int 1)) (.fn .len [.var 0]) (.lit (.int 8)))]) [.ret (.lit (.bl false))] [],.ret (.cm .eq (.comp .lst de [1] (.nm 1) (.of (.var 0)) df) (.lst []))]:=rfl
end PM
namespace PV.M1
open PySem L2 PL PM K1
def isNm:D→Bool
 | .str s=>dc s
 | _=>false
def xu (c:Nat):Bool:=decide (c∉xq.cps.toList)
def AB (s:Str):List Nat:=s.cps.toList.filter xu
theorem CD {s:Str}:(AB s).isEmpty=s.cps.toList.all fun c=>decide (c∈xq.cps.toList):=by
 unfold AB
 generalize s.cps.toList=l
 induction l with
 | nil=>rfl
 | cons c l ih =>
  rw [List.filter_cons,List.all_cons,← ih]
  by_cases hc:c∈xq.cps.toList
  ·have e:xu c=false:=by simp only [xu,hc,not_true_eq_false,decide_false]
   rw [e,decide_eq_true hc]; rfl
  ·have e:xu c=true:=by simp only [xu,hc,not_false_eq_true,decide_true]
   rw [e,decide_eq_false hc]; rfl
theorem qD:∀ xs:List D,D.eqd (.lst xs) (.lst [])=xs.isEmpty
 | []=>by rw [D.eqd,D.eqdL]; rfl
 | x::xs=>by rw [D.eqd,D.eqdL] <;> simp
theorem EA:D.okd 150 (.lst [])=true:=by rw [D.okd,D.okdL]
theorem nP {α:Type}{p:α→Bool}:∀ xs:List α,dU (xs.map fun x=>D.bl (p x))=some (xs.map p)
 | []=>rfl
 | x::xs=>by rw [List.map_cons,dU,nP xs]; rfl
def xw (c:Nat):Bool:=decide (c∈xq.cps.toList)
@[simp] theorem Jw {C:Nat}{p:List D}{ρ:Env}{args:List O}:(Res.exc C p ρ:Res Fl).done args=match bp args ρ with
  | some ios=>.exc C p ios
  | none=>.bad:=rfl
theorem xy:∀ (n:Nat) (x:D),D.okd n x=true→D.eqd x x=true
 | n,.non,_=>by rw [D.eqd]
 | n,.bl b,_=>by rw [D.eqd]; simp
 | n,.int i,_=>by rw [D.eqd]; simp
 | n,.str s,_=>by rw [D.eqd]; simp
 | 0,.tup xs,h=>by simp [D.okd]at h
 | 0,.lst xs,h=>by simp [D.okd]at h
 | n+1,.tup xs,h=>by
  rw [D.okd]at h
  rw [D.eqd]
  exact go n xs h
 | n+1,.lst xs,h=>by
  rw [D.okd]at h
  rw [D.eqd]
  exact go n xs h
 | 0,.dic _ _,h=>by simp [D.okd]at h
 | n+1,.dic _ _,h=>by simp [D.okd]at h
 | 0,.obj _ _ _,h=>by simp [D.okd]at h
 | n+1,.obj _ _ _,h=>by simp [D.okd]at h
 | 0,.exc _ _,h=>by simp [D.okd]at h
 | n+1,.exc _ _,h=>by simp [D.okd]at h
where go:∀ (n:Nat) (xs:List D),D.okdL n xs=true→D.eqdL xs xs=true
 | n,[],_=>by rw [D.eqdL]
 | n,x::xs,h=>by
  rw [D.okdL,Bool.and_eq_true]at h
  rw [D.eqdL,xy n x h.1,go n xs h.2]
  rfl
theorem af {Φ:cU}{s:SS}{ss:List SS}{ρ ρ':Env}{r:Res Fl} (h:bo Φ s ρ = .ok .nx ρ') (h2:bC Φ ss ρ'=r):bC Φ (s::ss) ρ=r:=by
 rw [bC,h]
 exact h2
theorem aL {Φ:cU}{s:SS}{ss:List SS}{ρ ρ':Env}{o:O} (h:bo Φ s ρ = .ok (.rt o) ρ'):bC Φ (s::ss) ρ = .ok (.rt o) ρ':=by
 rw [bC,h]
 rfl
theorem FO {n:Nat}{o:O}{es:List Str} (g:Gd n o) (hn:n < 2 ^ 31) (he:es≠[]) (hl:es.length < 1000):∃ (e:Str) (o':O),b8 [o,.lst (es.map bL)] = .ok (bL e) [o',.lst (es.map bL)]∧e∈es∧Gd (n+1) o':=by
 have hp:0 < es.length:=List.length_pos_iff.mpr he
 obtain⟨v,o',e,v0,v1,g'⟩:=take (s:=(es.length:Int)) g hn (by omega) (by omega)
 obtain⟨ls,cs,r,t,rfl⟩:=g.st
 obtain⟨x,hx,e2⟩:=qC (xs:=es) v0 v1
 refine⟨x,o',(aI (by rfl) (by rfl)).trans ?_,hx,g'⟩
 rw [uD]
 simp! [Function.comp_def]
 simp! [e,oP,e2]
theorem eq_str {x y:Str}:aB .eq (.str x) (.str y)=some (decide (x=y)):=by
 rw [bD,show nC (.str x) (.str y)=true by unfold nC; rw [gu,gu]; rfl,if_pos rfl,vD]
end PV.M1
namespace PV.M1
open PySem L2 PL PM K1
def isIn:D→Bool
 | .int _=>true
 | _=>false
end PV.M1
namespace PV.M1
open PySem L2 PL PM K1
theorem frzL {xs:List D}:(O.lst (xs.map .d)).frz = .lst xs:=by
 rw [jW,List.map_map,AA]
theorem ML {xs:List D}:(O.lst (xs.map .d)).shal = .lst (xs.map .d):=by
 rw [yh,List.map_map]
 refine congrArg O.lst (List.map_congr_left fun e _=>?_)
 exact congrArg O.d gY
@[simp] theorem Hs {xs:List D}:xs.map ((fun o=>O.d o.frz)∘O.d)=xs.map O.d:=List.map_congr_left fun e _=>congrArg O.d gY
end PV.M1
namespace PV.M1
open PySem L2 PL PM K1
abbrev Ni:O:=.d (IA 20)
theorem LO:IB 20 Ni=some ():=rfl
end PV.M1
namespace PV.N1
open PySem L2 PL PM PN K1 M1
theorem ki:∀ ns:List Str,keysOf (ns.map .str)=some (ns.map .inr)
 | []=>rfl
 | x::ns=>by
  rw [List.map_cons,keysOf,ki ns]
  rfl
theorem all_keys:∀ ns:List Str,((ns.map D.str).all fun k=>(keyOf k).isSome)=true
 | []=>rfl
 | x::ns=>by
  rw [List.map_cons,List.all_cons,all_keys ns]
  rfl
end PV.N1
namespace PV.N1
open PySem L2 PL PM PN K1 M1
theorem bQ {Φ:cU}{b ss:List SS}{m:Nat}{args ios:List O}{o:O}{ρ ρ':Env} (hb:b=ss) (e0:args.map some++List.replicate (m - args.length) none=ρ) (h:bC Φ ss ρ = .ok (.rt o) ρ') (hi:bp args ρ'=some ios):fR Φ b m args = .ok o ios:=by
 unfold fR
 rw [hb,e0,h]
 show(match bp args ρ' with
  | some ios=>bA.ok o ios
  | none=>.bad)=_
 rw [hi]
theorem yE {Φ:cU}{b ss:List SS}{m C:Nat}{p:List D}{args ios:List O}{ρ ρ':Env} (hb:b=ss) (e0:args.map some++List.replicate (m - args.length) none=ρ) (h:bC Φ ss ρ = .exc C p ρ') (hi:bp args ρ'=some ios):fR Φ b m args = .exc C p ios:=by
 unfold fR
 rw [hb,e0,h]
 show(match bp args ρ' with
  | some ios=>bA.exc C p ios
  | none=>.bad)=_
 rw [hi]
end PV.N1
namespace PV.K61
open PySem L2 PL PM _root_.K61 K1 M1 N1
def pairD (p:Int×Int):D:=.tup [.int p.1,.int p.2]
def br (ks:List Str) (h:Str→Int×Int):D:=.dic (ks.map .str) (ks.map fun k=>pairD (h k))
def cA (ks:List Str) (h:Str→Int×Int):O:=.dic (ks.map .str) (ks.map fun k=>.d (pairD (h k)))
inductive hR (ks:List Str) (h:Str→Int×Int):O→Prop
 | o:hR ks h (cA ks h)
 | d:hR ks h (.d (br ks h))
theorem iC {ks:List Str}{h:Str→Int×Int}:(cA ks h).frz=br ks h:=by
 unfold cA br
 rw [O.frz,bM,List.map_map]
 rfl
theorem sA {ks:List Str}{h:Str→Int×Int}{i:Nat}{ρ:Env}:aj.taken (cA ks h) i ρ=ρ.set i none:=rfl
theorem CF {x:D}{i:Nat}{ρ:Env}:aj.taken (.d x) i ρ=ρ:=rfl
theorem cn {α:Type}{x:Str}{g:Str→D}:∀ {ks:List Str},x∈ks→aW (.str x) (ks.map .str) (ks.map g)=some (g x)
 | [],h=>by cases h
 | y::ks,h=>by
  rw [List.map_cons,List.map_cons]
  show(if keyOf (.str y)=keyOf (.str x)∧aA (.str y)=aA (.str x)then some (g y)else aW (.str x) (ks.map .str) (ks.map g))=_
  by_cases e:y=x
  ·subst e
   rw [if_pos (kR.mpr rfl)]
  ·rw [if_neg fun z=>e (kR.mp z)]
   exact cn (α:=α) ((List.mem_cons.mp h).resolve_left fun z=>e z.symm)
theorem zD {x:Str}:∀ {ks:List Str},x∈ks→∃ n,dM (.str x) (ks.map .str)=some n∧ks[n]?=some x
 | [],h=>by cases h
 | y::ks,h=>by
  rw [List.map_cons]
  by_cases e:y=x
  ·subst e
   exact⟨0,by show(if _ then _ else _)=_; rw [if_pos (kR.mpr rfl)],rfl⟩
  ·obtain⟨n,h1,h2⟩:=zD ((List.mem_cons.mp h).resolve_left fun z=>e z.symm)
   refine⟨n+1,?_,by simpa using h2⟩
   show(if _ then _ else _)=_
   rw [if_neg fun z=>e (kR.mp z),h1]
   rfl
theorem CG {ks:List Str}{h:Str→Int×Int}{x:Str} (hx:x∈ks):∃ g,dA (cA ks h) (.str x)=some (.d (pairD (h x)),g)∧g (.d (pairD (h x)))=cA ks h:=by
 obtain⟨n,h1,h2⟩:=zD hx
 have e:(ks.map fun k=>O.d (pairD (h k)))[n]?=some (.d (pairD (h x))):=by rw [List.getElem?_map,h2]; rfl
 have hl:(ks.map fun k=>O.d (pairD (h k))).set n (.d (pairD (h x)))=ks.map fun k=>O.d (pairD (h k)):=by
  refine List.ext_getElem? fun i=>?_
  rw [List.getElem?_set]
  split
  ·rename_i q
   subst q
   split
   ·exact e.symm
   ·rename_i q2
    rw [List.getElem?_eq_none (by omega)]
  ·rfl
 refine⟨fun z=>.dic (ks.map .str) ((ks.map fun k=>O.d (pairD (h k))).set n z),?_,by show O.dic _ _=_; rw [hl]; rfl⟩
 unfold cA
 simp only [dA,kh,h1]
 simp [e]
theorem CH {x:Str}{y:D}:dA (.d y) (.str x)=none:=rfl
theorem qE {p:Int×Int}:yS (.d (pairD p))=false:=rfl
end PV.K61
namespace PV.K72
open PySem L2 PL PM PN _root_.K72 PV.K1 PV.M1 PV.N1
variable {T:Str}{l r:List Nat}{a e:Nat}
abbrev sT (l:List Nat):Str:=⟨l.toArray⟩
def mk (c:Nat):Bool:=decide (c∈[40,41,44])
def wd (l:List Nat):List Nat:=l.takeWhile fun c=>! mk c
theorem cq:(sT l).length=l.length:=by
 show l.toArray.size=_
 simp
theorem p7:sT T.cps.toList=T:=by
 cases T
 simp
theorem MM {c:Nat} (hz:l.length≤1000000) (h:l[e]?=some c):bU [.str (sT l),.int (e:Int)]=some (.d (.str (sT [c]))):=by
 show(if(sT l).length≤sizeLine then(atI (sT l).cps.toList (e:Int)).map fun c=>O.d (.str ⟨#[c]⟩)else none)=_
 rw [cq,if_pos (by rw [PySem.sizeLine_eq]; omega)]
 have hi:=(List.getElem?_eq_some_iff.mp h).1
 have:atI l (e:Int)=some c:=by
  unfold L2.atI L2.ixN
  rw [if_pos (by omega),if_pos (by omega)]
  show l[(e:Int).toNat]?=_
  rw [Int.toNat_natCast,h]
 show(atI l.toArray.toList (e:Int)).map _=_
 rw [List.toList_toArray,this]
 rfl
theorem FP (hz:l.length≤1000000):iw .len (.str (sT l))=some (.d (.int (l.length:Int))):=by
 show(if(sT l).length≤sizeLine then some (O.d (.int ((sT l).length:Int)))else none)=_
 rw [cq,if_pos (by rw [PySem.sizeLine_eq]; omega)]
end PV.K72
namespace PV.K72
open PySem L2 PL PM PN _root_.K72 PV.K1 PV.M1 PV.N1
variable {l r:List Nat}{a e:Nat}
theorem Ht:∀ xs:List D,aB .ne (.lst xs) (.lst [])=some (! xs.isEmpty)
 | []=>by rw [dY,show nC (.lst []) (.lst [])=true from rfl,if_pos rfl,qD]
 | x::xs=>by
  rw [dY]
  by_cases h1:nC (.lst (x::xs)) (.lst [])=true
  ·rw [if_pos h1,qD]
  ·rw [if_neg h1]
   by_cases h2:qP (.lst (x::xs)) (.lst [])=true
   ·rw [if_pos h2]
    have:D.eqn 140 (.lst (x::xs)) (.lst [])=false:=by
     rw [D.eqn]
     rfl
    rw [this]
    rfl
   ·rw [if_neg h2]
    rfl
end PV.K72
namespace PV.K72
open PySem L2 PL PM PN _root_.K72 PV.K1 PV.M1 PV.N1
def snoc:F→Str→F→F
 | .nil,w,g=>.node w g .nil
 | .node x a b,w,g=>.node x a (snoc b w g)
abbrev FQ:=List (Str×F)
def MN (l:List Nat):List Nat:=l.drop (wd l).length
def Hu:Nat→FQ→F→Bool→List Nat→Option F
 | 0,_,_,_,_=>none
 | n+1,st,cur,true,l=>match l with
  | []=>if st.isEmpty then some cur else none
  | c::r=>if c=41 then(match st with
    | []=>none
    | (w,p)::st'=>Hu n st' (snoc p w cur) true r)
   else if c=44 then Hu n st cur false r else none
 | n+1,st,cur,false,l=>if dc (sT (wd l))then(match MN l with
   | []=>if st.isEmpty then some (snoc cur (sT (wd l)) .nil)else none
   | c::r=>if c=40 then Hu n ((sT (wd l),cur)::st) .nil false r
    else if c=41 then(match st with
     | []=>none
     | (w,p)::st'=>Hu n st' (snoc p w (snoc cur (sT (wd l)) .nil)) true r)
    else Hu n st (snoc cur (sT (wd l)) .nil) false r)
  else none
end PV.K72
namespace PV.K72
open PySem L2 PL PM PN _root_.K72 PV.K1 PV.M1 PV.N1
variable {l r:List Nat}{a e:Nat}{st:FQ}{cur:F}{w:Str}
theorem vG {x y:List Nat} (h:sT x=sT y):x=y:=by
 have:(sT x).cps.toList=(sT y).cps.toList:=by rw [h]
 simpa using this
theorem Jx {x y:List Nat}:aB .eq (.str (sT x)) (.str (sT y))=some (decide (x=y)):=by
 rw [bD,if_pos (show nC (.str (sT x)) (.str (sT y))=true by unfold nC; rw [gu,gu]; rfl),vD]
 exact congrArg some (decide_eq_decide.mpr ⟨vG,fun h=>by rw [h]⟩)
end PV.K72
namespace PV.K72
open PySem L2 PL PM PN _root_.K72 PV.K1 PV.M1 PV.N1
variable {l r:List Nat}{a e:Nat}{st:FQ}{cur p:F}{w:Str}{TD W S LD OD:D}{A N:Int}{LV LV2 OP OP2:O}{B:Bool}
variable {s0 s1 s2 s3 s4 s5 s6:Option O}
noncomputable abbrev ΦI:cU:=cQ [(2,a9),(475,ux)]
end PV.K72
namespace PV.K72
open PySem L2 PL PM PN _root_.K72 PV.K1 PV.M1 PV.N1
variable {L l r:List Nat}{a e:Nat}{st:FQ}{cur p:F}{w:Str}{TD S:D}
variable {s0 s1 s2 s3 s4 s5 s6:Option O}
noncomputable abbrev fI:Env→Res (Option Fl):=fun ρ=>(qV ΦI (.cm .eq (.var 5) (.lit (.str ")"))) ρ).bind fun t ρ=>jR t ((bC ΦI tq ρ).bind fun f ρ=>.ok f.whl ρ) (.ok (some .nx) ρ)
end PV.K72
namespace PV.K72
open PySem L2 PL PM PN _root_.K72 PV.K1 PV.M1 PV.N1
variable {L l r:List Nat}{a e:Nat}{w:Str}{TD S C W W2 PD ND:D}{P P2:O}{ps A:List (List Nat)}{x y:List Nat}
abbrev tD (w:List Nat):D:=.str (sT w)
def bE (ps:List (List Nat)):O:=.lst (ps.map fun w=>.d (tD w))
theorem aE:(bE ps).frz = .lst (ps.map tD):=by
 unfold bE
 show D.lst (O.frzL _)=_
 rw [bM,List.map_map]
 exact congrArg D.lst (List.map_congr_left fun a _=>gY)
theorem eX:(bE ps).shal=bE ps:=by
 unfold bE
 show O.lst _=_
 rw [List.map_map]
 refine congrArg O.lst (List.map_congr_left fun a _=>?_)
 show O.d (O.d _).frz=_
 rw [gY]
theorem gI {i:Nat}{ρ:Env}:aj.taken (bE ps) i ρ=ρ.set i none:=rfl
theorem fL {k:D}{r:O}:aJ (bE ps) k r=bE ps:=xt
theorem iX {qs:List (List Nat)} (h:ps.length+qs.length≤100000):i7 .add [.lst (ps.map tD),.lst (qs.map tD)]=some (bE (ps++qs)):=by
 rw [cR]
 show(if(ps.map tD).length+(qs.map tD).length≤sizeLine then some (O.lst ((ps.map tD++qs.map tD).map .d))else none)=_
 rw [if_pos (by rw [PySem.sizeLine_eq,List.length_map,List.length_map]; omega),← List.map_append,List.map_map]
 rfl
theorem sC (h:x.length+y.length≤1000000):i7 .add [tD x,tD y]=some (.d (tD (x++y))):=by
 rw [cR]
 show(if(sT x).length+(sT y).length≤sizeLine then some (O.d (.str (sT x++sT y)))else none)=_
 rw [cq,cq,if_pos (by rw [PySem.sizeLine_eq]; omega)]
 refine congrArg (fun z=>some (O.d (D.str z))) ?_
 show(⟨x.toArray++y.toArray⟩:Str)=⟨(x++y).toArray⟩
 simp
theorem vH:bU [.lst ((A++[x]).map tD),.int (-1)]=some (.d (tD x)):=by
 show(atI ((A++[x]).map tD) (-1)).map O.d=_
 have:atI ((A++[x]).map tD) (-1)=some (tD x):=by
  unfold L2.atI L2.ixN
  rw [if_neg (by omega),if_pos (by rw [List.length_map,List.length_append,List.length_singleton]; omega)]
  show((A++[x]).map tD)[((-1:Int)+(((A++[x]).map tD).length:Int)).toNat]?=_
  have:((-1:Int)+(((A++[x]).map tD).length:Int)).toNat=A.length:=by
   rw [List.length_map,List.length_append,List.length_singleton]
   omega
  rw [this,List.map_append,List.getElem?_append_right (by rw [List.length_map]; exact Nat.le_refl _),List.length_map,Nat.sub_self]
  rfl
 rw [this]
 rfl
end PV.K72
namespace PV.K72
open PySem L2 PL PM PN _root_.K72 PV.K1 PV.M1 PV.N1
variable {L l r:List Nat}{a e:Nat}{TD S C W M B PD PD2 ND:D}{P P2:O}{ps A:List (List Nat)}{x y:List Nat}{I d d2:Int}{b1 b2 b3:Bool}{NM NM2:O}
variable {s0 s1 s2 s3 s4 s5 s6 s7 s8:Option O}
theorem Jy {x y:List Nat}:aB .ne (tD x) (tD y)=some (! decide (x=y)):=by
 rw [dY,if_pos (show nC (tD x) (tD y)=true by unfold nC; rw [gu,gu]; rfl),vD]
 refine congrArg (fun b=>some (! b)) (decide_eq_decide.mpr ⟨vG,fun h=>by rw [h]⟩)
end PV.K72
namespace PV.Q1
open PySem L2 PL PM PN K1 M1 N1
theorem zE {α:Type}{g:α→D}{xs:List α}{lo hi:Option Int}:∃ ys:List α,cutD (xs.map g) lo hi=ys.map g∧(∀ y∈ys,y∈xs)∧ys.length≤xs.length:=by
 refine⟨(xs.drop (HT.sIx xs.length 0 lo)).take (HT.sIx xs.length xs.length hi - HT.sIx xs.length 0 lo),?_,fun y hy=>List.mem_of_mem_drop (List.mem_of_mem_take hy),?_⟩
 ·unfold cutD
  rw [List.length_map,List.map_take,List.map_drop]
 ·rw [List.length_take,List.length_drop]
  omega
abbrev vI (ns:List Int):Option O:=some (.d (.lst (ns.map .int)))
theorem Hv (ns:List Int):∃ ls,gU [.lst (ns.map Jt)] = .ok (qB ls ns 0 0) [.lst (ns.map Jt)]:=by
 refine⟨(ns.filter fun x=>decide (10 ^ 18≤x)).map fun x=>x - 10 ^ 18,?_⟩
 refine(aI (by rfl) (by rfl)).trans ?_
 rw [yy]
 have e:∀ o2,bq (fun x ρ=>bnd (aH (.nm 2) x ρ) fun ρ=>(dW (cQ []) kM ρ).bind fun b ρ=>jR b ((ev (cQ []) kL ρ).bind fun o ρ=>.ok (some o) (ar [2] ρ)) (.ok none (ar [2] ρ))) (ns.map .int) [none,o2,none] = .ok (((ns.filter fun x=>decide (10 ^ 18≤x)).map fun x=>.d (.int (x - 10 ^ 18)))) [none,o2,none]:=by
  intro o2
  rw [pY (p:=fun x=>decide (10 ^ 18≤x)) (g:=fun x=>.d (.int (x - 10 ^ 18)))]
  intro x
  simp! [kL,kM]
  by_cases h:(10 ^ 18:Int)≤x
  ·have h':(1000000000000000000:Int)≤x:=h
   simp [h',ar]
  ·have h':¬ (1000000000000000000:Int)≤x:=h
   simp [h',ar]
 simp! [fR]at e
 simp! [Function.comp_def]
 simp! [e]
 simp! (decide:=true) [qB,Ex,Function.comp_def,qT]
theorem EB {Φ:cU}{ns:List Int} (hΦ:(Φ 20).run=gU) (hn:ns.length≤63) {k:Int}{s2:Option O}{ρ:Env}:∃ o,Gd 0 o∧bo Φ (.asg (.nm 2) (.call 20 [.bi .add (.slc (.var 0) (.var 1) (.lit .non)) (.slc (.var 0) (.lit .non) (.var 1))])) (vI ns::some (.d (.int k))::s2::ρ) = .ok .nx (vI ns::some (.d (.int k))::some o::ρ):=by
 obtain⟨m1,c1,_,l1⟩:=zE (g:=D.int) (xs:=ns) (lo:=some k) (hi:=none)
 obtain⟨m2,c2,_,l2⟩:=zE (g:=D.int) (xs:=ns) (lo:=none) (hi:=some k)
 obtain⟨ls,e⟩:=Hv (m1++m2)
 refine⟨_,⟨ls,m1++m2,0,0,rfl,by omega,by omega⟩,?_⟩
 have hl:m1.length+m2.length≤16777216:=by omega
 rw [List.map_append]at e
 simp! [fR]
 simp! [c1,c2,hl,Function.comp_def,hΦ,e]
theorem oS {Φ:cU}{ρ:Env}:bC Φ [] ρ = .ok .nx ρ:=by rw [bC]
theorem uG {Φ:cU}{b:List SS}{s:Option O}{m:Nat} (h:∀ (k:Int) (ρ:Env),ρ.length=m→∃ ρ',ρ'.length=m∧(bnd (aH (.nm 1) (.int k) (s::ρ)) fun ρ=>bC Φ b ρ) = .ok .nx (s::ρ')):∀ (n:Nat) (lo:Int) (ρ:Env),ρ.length=m→∃ ρ',ρ'.length=m∧forL (fun x ρ=>bnd (aH (.nm 1) x ρ) fun ρ=>bC Φ b ρ) (bB lo n) (s::ρ) = .ok .nx (s::ρ')
 | 0,lo,ρ,hm=>⟨ρ,hm,rfl⟩
 | n+1,lo,ρ,hm=>by
  obtain⟨ρ1,h1,e1⟩:=h lo ρ hm
  obtain⟨ρ2,h2,e2⟩:=uG h n (lo+1) ρ1 h1
  exact⟨ρ2,h2,by rw [pZ,forL,e1]; exact e2⟩
theorem EC {Φ:cU}{b:List SS}{ns:List Int}{m:Nat}{top:Int} (ht:1≤top∧top≤100) (h:∀ (k:Int) (ρ:Env),ρ.length=m→∃ ρ',ρ'.length=m∧(bnd (aH (.nm 1) (.int k) (vI ns::ρ)) fun ρ=>bC Φ b ρ) = .ok .nx (vI ns::ρ')) (ρ:Env) (hm:ρ.length=m) :
  ∃ ρ',bo Φ (.for (.nm 1) (.range [.fn .max2 [.lit (.int 1),.fn .min2 [.lit (.int top),.fn .len [.var 0]]]]) b) (vI ns::ρ) = .ok .nx (vI ns::ρ'):=by
 obtain⟨m,hm1⟩:∃ m:Int,Gh .min2 (.int top) (.int (ns.length:Int))=some (.d (.int m))∧m≤top:=by
  rw [FE]
  by_cases h:(ns.length:Int) < top
  ·exact⟨_,rfl,by rw [if_pos h]; omega⟩
  ·exact⟨_,rfl,by rw [if_neg h]; omega⟩
 obtain⟨j,hj⟩:∃ j:Int,Gh .max2 (.int 1) (.int m)=some (.d (.int j))∧1≤j∧j≤100:=by
  rw [FF]
  by_cases h:m > 1
  ·exact⟨_,rfl,by rw [if_pos h]; omega⟩
  ·exact⟨_,rfl,by rw [if_neg h]; omega⟩
 obtain⟨ρ',_,e⟩:=uG h j.toNat 0 ρ hm
 refine⟨ρ',?_⟩
 have hr:-4611686018427387904≤j∧j≤16777216:=by omega
 simp! [fR]at e
 simp! [hm1.1,hj.1,-FE,-FF]
 simp! [hr,e]
theorem vJ {α β:Type} [DecidableEq α] [Inhabited β]:∀ {w:List α}{ns:List β},w.Nodup→ns.length=w.length→∃ g:α→β,w.map g=ns
 | [],[],_,_=>⟨fun _=>default,rfl⟩
 | [],_::_,_,h=>by simp at h
 | _::_,[],_,h=>by simp at h
 | x::w,n::ns,nd,h=>by
  obtain⟨h1,h2⟩:=List.nodup_cons.mp nd
  obtain⟨g,hg⟩:=vJ (ns:=ns) h2 (by simpa using h)
  refine⟨fun y=>if y=x then n else g y,?_⟩
  rw [List.map_cons,if_pos rfl,← hg]
  congr 1
  refine List.map_congr_left fun y hy=>?_
  exact if_neg fun z:y=x=>h1 (z ▸ hy)
end PV.Q1
namespace PV.K71
open PySem L2 PL PM PN PV.K1 PV.M1 PV.N1 PV.K72
variable {L l r:List Nat}
abbrev ss (x:Str):List Nat:=x.cps.toList
def CI:F→Bool
 | .nil=>false
 | _=>true
def Km:F→List Nat
 | .nil=>[]
 | .node x a b=>ss x++(if CI a then 40::(Km a++[41])else [])++(if CI b then 44::Km b else [])
def tc (p:F):List Nat:=match p with | .nil=>[] | p=>Km p++[44]
def ctx:FQ→List Nat
 | []=>[]
 | (w,p)::st=>ctx st++tc p++ss w++[40]
def pre (st:FQ) (cur:F) (b:Bool):List Nat:=ctx st++(if b then Km cur else tc cur)
def Nj (n:Nat) (st:FQ) (c2:F) (r:List Nat):Option F:=match st with
 | []=>none
 | (w,p)::st'=>Hu n st' (snoc p w c2) true r
def fin (n:Nat) (st:FQ) (cur:F) (l:List Nat):Option F:=match l with
 | []=>if st.isEmpty then some cur else none
 | c::r=>if c=41 then Nj n st cur r
  else if c=44 then Hu n st cur false r else none
end PV.K71
namespace PV.K72
open PySem L2 PL PM PN _root_.K72 PV.K1 PV.M1 PV.N1
variable {L l r:List Nat}{a e:Nat}{x y:List Nat}{TD PD R:D}{P NM:O}{N:Int}
variable {s0 s1:Option O}
theorem Hw {A:List (List Nat)}:Bb .pop (bE (A++[x])) []=some (.d (tD x),bE A):=by
 unfold bE
 simp [Bb]
end PV.K72
namespace PV.K72
open PySem L2 PL PM PN _root_.K72 PV.K1 PV.M1 PV.N1
variable {L l r:List Nat}{a e:Nat}{x y:List Nat}
def jc (c:Nat):List (List Nat)→List Nat
 | []=>[]
 | [x]=>x
 | x::y::r=>x++c::jc c (y::r)
theorem zF (c:Nat):∀ ps:List (List Nat),PySem.Str.join (sT [c]) (ps.map sT)=sT (jc c ps)
 | []=>rfl
 | [x]=>rfl
 | x::y::r=>by
  have h:=zF c (y::r)
  show sT x++sT [c]++PySem.Str.join (sT [c]) ((y::r).map sT)=_
  rw [h]
  show(⟨(x.toArray ++ #[c])++(jc c (y::r)).toArray⟩:Str)=_
  congr 1
  show _=(x++c::jc c (y::r)).toArray
  simp
theorem vK:∀ ps:List (List Nat),jQ (ps.map tD)=some (ps.map sT)
 | []=>rfl
 | x::ps=>by
  show(jQ (ps.map tD)).map (sT x :: ·)=_
  rw [vK ps]
  rfl
theorem Hx {x:List Nat}{k:Nat} (hk:k≤100000) (hx:x.length≤10000000) (h:x.length * k≤10000000):fe [tD x,.int (k:Int)]=some (.d (tD (List.replicate k x).flatten)):=by
 show(if 0≤(k:Int)∧(k:Int)≤100000∧(sT x).length≤10000000∧(sT x).length * (k:Int).toNat≤10000000 then some (O.d (.str (rP (sT x) (k:Int).toNat)))else none)=_
 rw [cq,Int.toNat_natCast,if_pos ⟨by omega,by omega,hx,h⟩]
 rfl
theorem Hy {x:List Nat}{k:Nat} (hk:k≤100000) (hx:x.length≤100):fe [tD x,.int (k:Int)]=some (.d (tD (List.replicate k x).flatten)):=by
 have:=Nat.mul_le_mul hx hk
 exact Hx hk (by omega) (by omega)
theorem CJ (hz:l.length≤1000000):ig [tD l,.int (a:Int),.non]=some (.d (tD (l.drop a))):=by
 show(if(sT l).length≤sizeLine then some (O.d (.str ⟨(((sT l).cps.toList.drop (HT.sIx (sT l).length 0 (some (a:Int)))).take (HT.sIx (sT l).length (sT l).length none - HT.sIx (sT l).length 0 (some (a:Int)))).toArray⟩))else none)=_
 rw [cq,if_pos (by rw [PySem.sizeLine_eq]; omega),HT.sIx_nat,HT.sIx_none]
 have:((sT l).cps.toList.drop (min a l.length)).take (l.length - min a l.length)=l.drop a:=by
  show(l.drop (min a l.length)).take (l.length - min a l.length)=l.drop a
  rw [List.take_of_length_le (by rw [List.length_drop]; exact Nat.le_refl _)]
  by_cases h:a≤l.length
  ·rw [Nat.min_eq_left h]
  ·rw [Nat.min_eq_right (by omega),List.drop_of_length_le (Nat.le_refl _),List.drop_of_length_le (by omega)]
 rw [this]
end PV.K72
namespace PV.K71
open PySem L2 PL PM PN _root_.K71 PV.K1 PV.M1 PV.N1 PV.K72
variable {L l r:List Nat}{TD AD RD E1 E2 E3 E4:D}
theorem FR {x:Str}:D.str x=tD (ss x):=congrArg D.str (p7 (T:=x)).symm
variable {s0 s1 s2 s3:Option O}
theorem Hz {ps:List (List Nat)}{w:List Nat} (h:ps.length≤100000):Bb .append (bE ps) [.d (tD w)]=some (.d .non,bE (ps++[w])):=by
 unfold bE
 rw [Ca,List.length_map,if_pos (by rw [PySem.sizeLine_eq]; omega),List.map_append]
 rfl
end PV.K71
namespace PV.K72
open PySem L2 PL PM PN _root_.K72 PV.K1 PV.M1 PV.N1 PV.Q1
variable {L l r:List Nat}{a e:Nat}{x y:List Nat}{o o1 o2:O}{TD UD W J R X E1 E2 E3 E4 E5:D}{I A N M:Int}
variable {s0 s1 s2 s3 s4 s5 s6 s7:Option O}
theorem xA {m:Nat}{o:O} (g:Gd m o) {i:Nat}{ρ:Env}:aj.taken o i ρ=ρ.set i none:=by
 obtain⟨ls,cs,r,t,rfl⟩:=g.st
 exact Cy
theorem tu {i j:Int}:aB .eq (.int i) (.int j)=some (decide (i=j)):=by
 simp [nC,Ez,jX]
 exact Bool.eq_iff_iff.mpr (by simp)
theorem Jz {i:Int}:Dz 14 "line" [.exc 14 [.int i]]=some (.d (.int i)):=by
 simp [Dz,fx]
end PV.K72
namespace PV.K71
open PySem L2 PL PM PN _root_.K71 PV.K1 PV.M1 PV.N1 PV.K72 PV.Q1
variable {s0 s1 s2 s3 s4 s5 s6 s7 s8 s9:Option O}
theorem yF {gs:List Str}:(O.lst (gs.map bL)).frz = .lst (gs.map .str):=by
 rw [jW,List.map_map]
 rfl
theorem vL {gs:List Str}:(O.lst (gs.map bL)).shal = .lst (gs.map bL):=by
 show O.lst _=_
 rw [List.map_map]
 rfl
end PV.K71
namespace PV.K74
open PySem PV.K72 PV.K71 PySem.NumText PySem.W PySem.W.KIN PyProof.Rows
def lK (x:List Nat):List Nat:=if x.take 1 = [45]then x.drop 1 else x
def CK (cs:List Nat):Bool:=(decide (1≤cs.length)&&decide (cs.length≤40))&&cs.all fun c=>decide (48≤c∧c≤57)
def d7 (x:List Nat):Bool:=CK (lK x)&&(decide (x = [48])||! decide ((lK x)[0]?=some 48))
def valN (x:List Nat):Int:=if x.take 1 = [45]then -((digitsVal (x.drop 1):Nat):Int)else((digitsVal x:Nat):Int)
def nT (i:Int):List Nat:=(Str.ofString (toString i)).cps.toList
theorem zG:∀ {cs:List Nat},AllDigits cs→(cs.map Char.ofNat).map Char.toNat=cs
 | [],_=>rfl
 | c::cs,h=>by
  rw [List.map_cons,List.map_cons,zG h.tail]
  have h1:=h.head
  have:(Char.ofNat c).toNat=c:=by
   have:∀ d:Nat,d < 58→(Char.ofNat d).toNat=d:=by decide
   exact this c (by omega)
  rw [this]
theorem sD {cs:List Nat} (h:CK cs=true):AllDigits cs∧1≤cs.length∧cs.length≤40:=by
 unfold CK at h
 rw [Bool.and_eq_true,Bool.and_eq_true,decide_eq_true_eq,decide_eq_true_eq,List.all_eq_true]at h
 exact⟨fun c hc=>of_decide_eq_true (h.2 c hc),h.1.1,h.1.2⟩
theorem zH {cs:List Nat} (h:AllDigits cs) (h1:1≤cs.length) (h2:cs = [48]∨¬ cs[0]?=some 48):nT ((digitsVal cs:Nat):Int)=cs:=by
 unfold nT
 rw [signs_num,toDigits_digitsVal (cs.length - 1) cs (by omega) h,zG h]
 cases cs with
 | nil=>simp at h1
 | cons c r =>
  rcases h2 with h2 | h2
  ·left
   rw [h2]
   rfl
  ·right
   refine⟨c,r,rfl,?_⟩
   have h3:=h.head
   have h4:c≠48:=fun q=>h2 (by rw [q]; rfl)
   omega
theorem xB {m:Nat} (h:0 < m):nT (-(m:Int))=45::nT (m:Int):=by
 obtain⟨k,rfl⟩:∃ k,m=k+1:=⟨m - 1,by omega⟩
 unfold nT
 rw [signs_num]
 have:toString (-((k+1:Nat):Int)) = "-" ++ Nat.repr (k+1):=rfl
 rw [this,signs_ofString,String.toList_append,List.map_append,Nat.toList_repr]
 rfl
theorem vM {x:List Nat} (h:x.take 1 = [45]):∃ cs,x=45::cs:=by
 cases x with
 | nil=>cases h
 | cons c cs =>
  have:[c] = [45]:=h
  injection this with this
  exact⟨cs,by rw [this]⟩
theorem xC {x:List Nat} (h:d7 x=true):nT (valN x)=x:=by
 unfold d7 at h
 rw [Bool.and_eq_true]at h
 obtain⟨h1,h2⟩:=h
 obtain⟨ha,hl,hu⟩:=sD h1
 by_cases q:x.take 1 = [45]
 ·obtain⟨cs,rfl⟩:=vM q
  have hd:lK (45::cs)=cs:=if_pos q
  rw [hd]at ha hl h2
  have h3:¬ cs[0]?=some 48:=by
   rw [decide_eq_false (by simp),Bool.false_or,Bool.not_eq_true',decide_eq_false_iff_not]at h2
   exact h2
  have hv:valN (45::cs) = -((digitsVal cs:Nat):Int):=if_pos q
  have hp:0 < digitsVal cs:=by
   cases cs with
   | nil=>simp at hl
   | cons c r =>
    have h4:=ha.head
    have h5:c≠48:=fun q=>h3 (by rw [q]; rfl)
    exact digitsVal_pos (by omega)
  rw [hv,xB hp,zH ha hl (.inr h3)]
 ·have hd:lK x=x:=if_neg q
  rw [hd]at ha hl h2
  have hv:valN x=((digitsVal x:Nat):Int):=if_neg q
  rw [hv,zH ha hl]
  rw [Bool.or_eq_true,decide_eq_true_eq,Bool.not_eq_true',decide_eq_false_iff_not]at h2
  exact h2
theorem zI {x:List Nat} (h:d7 x=true):PySem.intText? (sT x)=some (valN x)∧x.length≤41:=by
 unfold d7 at h
 rw [Bool.and_eq_true]at h
 obtain⟨h1,h2⟩:=h
 obtain⟨ha,hl,hu⟩:=sD h1
 by_cases q:x.take 1 = [45]
 ·obtain⟨cs,rfl⟩:=vM q
  have hd:lK (45::cs)=cs:=if_pos q
  rw [hd]at ha hl hu
  have hv:valN (45::cs) = -((digitsVal cs:Nat):Int):=if_pos q
  have hl2:(45::cs).length≤41:=by rw [List.length_cons]; omega
  refine⟨?_,hl2⟩
  rw [hv]
  exact intText_neg (x:=sT (45::cs)) (cs:=cs) rfl ha (fun z=>by rw [z]at hl; simp at hl) (by rw [cq]; omega)
 ·have hd:lK x=x:=if_neg q
  rw [hd]at ha hl hu
  have hv:valN x=((digitsVal x:Nat):Int):=if_neg q
  refine⟨?_,by omega⟩
  rw [hv]
  exact intText_digits (x:=sT x) ha (fun z=>by rw [show x = []from z]at hl; simp at hl) (by rw [cq]; omega)
theorem FT (m:Nat):AllDigits ((Nat.toDigits 10 m).map Char.toNat):=by
 intro c hc
 obtain⟨ch,hch,e⟩:=List.mem_map.mp hc
 have r:=digit_range (Nat.isDigit_of_mem_toDigits (by decide) (by decide) hch)
 rw [← e]
 exact r
theorem zJ {m:Nat} (h:¬ m < 10):Nat.toDigits 10 m=Nat.toDigits 10 (m / 10)++Nat.toDigits 10 (m % 10):=by
 have t:Nat.toDigits 10 (m / 10)++Nat.toDigits 10 (m % 10)=Nat.toDigits 10 (10 * (m / 10)+m % 10):=Nat.toDigits_append_toDigits (by decide) (by omega) (Nat.mod_lt m (by decide))
 rw [Nat.div_add_mod]at t
 exact t.symm
theorem yG {m:Nat} (h:m < 10):(Nat.toDigits 10 m).length=1:=by rw [Nat.toDigits_of_lt_base h]; rfl
theorem yH:∀ (k m:Nat),m < 10 ^ (k+1)→(Nat.toDigits 10 m).length≤k+1
 | 0,m,h=>by rw [yG (by omega)]; omega
 | k+1,m,h=>by
  by_cases q:m < 10
  ·rw [yG q]
   omega
  ·rw [zJ q,List.length_append,yG (Nat.mod_lt m (by decide))]
   have:=yH k (m / 10) (by
    rw [Nat.div_lt_iff_lt_mul (by decide)]
    rw [Nat.pow_succ]at h
    exact h)
   omega
theorem zK (m:Nat):0 < m→¬ ((Nat.toDigits 10 m).map Char.toNat)[0]?=some 48:=by
 induction m using Nat.strongRecOn with
 | _ m ih =>
  intro hm
  by_cases q:m < 10
  ·rw [Nat.toDigits_of_lt_base q]
   have:∀ d:Nat,d < 10→0 < d→¬ (List.map Char.toNat [Nat.digitChar d])[0]?=some 48:=by decide
   exact this m q hm
  ·rw [zJ q,List.map_append]
   have h1:=ih (m / 10) (by omega) (by omega)
   have h2:=toDigits_len_ge 10 (m / 10)
   rw [List.getElem?_append_left (by rw [List.length_map]; omega)]
   exact h1
theorem CL (m:Nat):nT (m:Int)=(Nat.toDigits 10 m).map Char.toNat:=signs_num m
theorem ED {cs:List Nat} (h:AllDigits cs):¬ cs.take 1 = [45]:=fun q=>by
 cases cs with
 | nil=>cases q
 | cons c r =>
  injection q with q
  have:=h.head
  omega
theorem pB {i:Int} (h:i.natAbs < 10 ^ 40):d7 (nT i)=true∧valN (nT i)=i:=by
 by_cases q:0≤i
 ·obtain⟨m,rfl⟩:=Int.eq_ofNat_of_zero_le q
  have hm:m < 10 ^ (39+1):=h
  have ha:=FT m
  have hl:=yH 39 m hm
  have h1:=toDigits_len_ge 10 m
  have ht:=ED ha
  rw [CL]
  have hd:lK ((Nat.toDigits 10 m).map Char.toNat)=(Nat.toDigits 10 m).map Char.toNat:=if_neg ht
  refine⟨?_,(if_neg ht).trans (congrArg _ (val_back m))⟩
  unfold d7
  rw [hd]
  have hb:CK ((Nat.toDigits 10 m).map Char.toNat)=true:=by
   unfold CK
   rw [List.length_map,decide_eq_true h1,decide_eq_true (by omega),Bool.true_and,Bool.true_and,List.all_eq_true]
   exact fun c hc=>decide_eq_true (ha c hc)
  rw [hb,Bool.true_and]
  by_cases hz:m=0
  ·subst hz
   decide
  ·rw [decide_eq_false (zK m (by omega)),Bool.not_false,Bool.or_true]
 ·obtain⟨m,rfl⟩:∃ m:Nat,i = -(m:Int):=⟨i.natAbs,by omega⟩
  have hp:0 < m:=by omega
  have hm:m < 10 ^ (39+1):=by
   have:(-(m:Int)).natAbs=m:=by omega
   rw [this]at h
   exact h
  have ha:=FT m
  have hl:=yH 39 m hm
  have h1:=toDigits_len_ge 10 m
  rw [xB hp,CL]
  have hd:lK (45::(Nat.toDigits 10 m).map Char.toNat)=(Nat.toDigits 10 m).map Char.toNat:=if_pos rfl
  refine⟨?_,(if_pos rfl).trans (congrArg (fun k:Nat=>-(k:Int)) (val_back m))⟩
  unfold d7
  rw [hd]
  have hb:CK ((Nat.toDigits 10 m).map Char.toNat)=true:=by
   unfold CK
   rw [List.length_map,decide_eq_true h1,decide_eq_true (by omega),Bool.true_and,Bool.true_and,List.all_eq_true]
   exact fun c hc=>decide_eq_true (ha c hc)
  rw [hb,Bool.true_and,decide_eq_false (zK m hp),Bool.not_false,Bool.or_true]
theorem ml {i:Int} (h:i.natAbs < 10 ^ 40):(nT i).length≤41:=(zI (pB h).1).2
end PV.K74
namespace K74
open PySem PySem.Spec PyProof.Rows L2 PV PL PM PN K61 K09 K72 K71
noncomputable section
theorem tv:iA = [.ret (.band [.isa [] [.int] (.var 0),.bnot (.isa [] [.bool] (.var 0))])]:=rfl
def kS:SE:=(.cm .isin (.var 1) (.glo "LETTERS" (.str "abcdefghijklmnopqrstuvwxyz")))
theorem yI:gS = [.ite (.bor [.bnot (.isa [] [.str] (.var 0)),.bnot (.cm2 .le .le (.lit (.int 1)) (.fn .len [.var 0]) (.glo "MOST_LETTERS" (.int 8)))]) [.ret (.lit (.bl false))] [],.ret (.fn .all [.comp .lst kS [1] (.nm 1) (.of (.var 0)) []])]:=rfl
theorem iY:mX = [.ret (.band [.isa [] [.tuple] (.var 0),.cm .eq (.fn .len [.var 0]) (.lit (.int 2)),.call 210 [.idx (.var 0) (.lit (.int 0))],.call 210 [.idx (.var 0) (.lit (.int 1))]])]:=rfl
def cP:SE:=(.band [.call 2 [.var 1],.call 220 [.idx (.var 0) (.var 1)]])
theorem mm:kG = [.ite (.bnot (.isa [] [.dict] (.var 0))) [.ret (.lit (.bl false))] [],.ret (.fn .all [.lck 0 (.comp .lst cP [1] (.nm 1) (.keys 0) [])])]:=rfl
def de:SE:=(.var 1)
def df:List SE:=[.cm .notin (.var 1) (.lit (.str "abcdefghijklmnopqrstuvwxyz"))]
theorem oR:fJ = [.ite (.bor [.bnot (.isa [] [.str] (.var 0)),.bnot (.cm2 .le .le (.lit (.int 1)) (.fn .len [.var 0]) (.lit (.int 8)))]) [.ret (.lit (.bl false))] [],.ret (.cm .eq (.comp .lst de [1] (.nm 1) (.of (.var 0)) df) (.lst []))]:=rfl
def b6:SE:=(yn (.lit (.str Str.empty)) [.var 1,.lit (.str " "),.idx (.idx (.var 0) (.var 1)) (.lit (.int 0)),.lit (.str " "),.idx (.idx (.var 0) (.var 1)) (.lit (.int 1)),.lit (.str "\n")])
theorem jG:gh = [.ite (.bnot (.call 221 [.var 0])) [.rse 3 [.lit (.str "not a table")]] [],.ret (.mt .join (.lit (.str "")) [.comp .lst b6 [1] (.nm 1) (.of (.ofn true iT [.var 0])) []])]:=rfl
def g9:SS:=.ite (.bnot (.isa [] [.str] (.var 0))) [.rse 14 [.lit (.int 0)]] []
def jH:SS:=.asg (.nm 1) (.mt .split (.var 0) [.lit (.str "\n")])
def fk:SS:=.ite (.cm .eq (.idx (.var 1) (.un .neg (.lit (.int 1)))) (.lit (.str ""))) [.exp (.mu .pop 1 [] []),.ret (.tup [.var 1,.lit (.bl true)])] []
def jI:SS:=.ret (.tup [.var 1,.lit (.bl false)])
theorem mn:kH = [g9,jH,fk,jI]:=rfl
def gv:SE:=(.cm .isin (.var 2) (.glo "DIGITS" (.str "0123456789")))
def dg:SS:=.asg (.nm 1) (.ite (.cm .eq (.slc (.var 0) (.lit .non) (.lit (.int 1))) (.lit (.str "-"))) (.slc (.var 0) (.lit (.int 1)) (.lit .non)) (.var 0))
def bH:SS:=.ite (.bor [.bnot (.cm2 .le .le (.lit (.int 1)) (.fn .len [.var 1]) (.glo "MOST_DIGITS" (.int 40))),.bnot (.fn .all [.comp .lst gv [2] (.nm 2) (.of (.var 1)) []])]) [.ret (.lit (.bl false))] []
def eF:SS:=.ret (.bor [.cm .eq (.var 0) (.lit (.str "0")),.cm .ne (.idx (.var 1) (.lit (.int 0))) (.lit (.str "0"))])
theorem kT:jh = [dg,bH,eF]:=rfl
def mq:SS:=.asg (.nm 2) (.mt .split (.var 0) [.lit (.str " ")])
def cf:SS:=.ite (.bor [.cm .ne (.fn .len [.var 2]) (.lit (.int 3)),.bnot (.call 2 [.idx (.var 2) (.lit (.int 0))]),.bnot (.call 486 [.idx (.var 2) (.lit (.int 1))]),.bnot (.call 486 [.idx (.var 2) (.lit (.int 2))])]) [.ret (.lit (.bl false))] []
def hU:SS:=.ret (.bor [.cm .is (.var 1) (.lit .non),.cm .lt (.var 1) (.idx (.var 2) (.lit (.int 0)))])
theorem iL:oJ = [mq,cf,hU]:=rfl
def bK:List SS:=[.ite (.bnot (.call 487 [.var 6,.var 4])) [.rse 14 [.var 5]] [],.osl (yl (cQ [(482,b5),(487,eB)]) [.nm 4,.nm 7,.nm 8] (.mt .split (.var 6) [.lit (.str " ")])),.sub 3 [.var 4] (.tup [.ofn false fg [.var 7],.ofn false fg [.var 8]])]
def cu:SS:=.ite (.bnot (.call 487 [.var 6,.var 4])) [.rse 14 [.var 5]] []
def fB:SS:=.osl (yl (cQ [(482,b5),(487,eB)]) [.nm 4,.nm 7,.nm 8] (.mt .split (.var 6) [.lit (.str " ")]))
def fC:SS:=.sub 3 [.var 4] (.tup [.ofn false fg [.var 7],.ofn false fg [.var 8]])
theorem kl:bK = [cu,fB,fC]:=rfl
def dN:SS:=.asg (.tp [.nm 1,.nm 2]) (.call 482 [.var 0])
def iq:SS:=.asg (.tp [.nm 3,.nm 4]) (.tup [.dct [],.lit .non])
def dO:SS:=.for (.tp [.nm 5,.nm 6]) (.enum (.var 1)) bK
def dP:SS:=.ite (.bnot (.var 2)) [.rse 14 [.bi .sub (.fn .len [.var 1]) (.lit (.int 1))]] []
def ir:SS:=.ret (.mv 3)
theorem hG:gi = [dN,iq,dO,dP,ir]:=rfl
theorem kU:j7 = [.asg (.nm 2) (.lit .non),.try [0,3,14] [.asg (.nm 2) (.ite (.cm .eq (.var 0) (.lit (.int 0))) (.call 485 [.var 1]) (.call 488 [.var 1]))] 3 2,.ret (.mv 2)]:=rfl
def jJ:SS:=.asg (.nm 1) (.lst [.call 22 [.var 0,.lit (.int 12)],.bi .pow (.lit (.int 10)) (.lit (.int 5)),.bi .add (.bi .pow (.lit (.int 10)) (.lit (.int 17))) (.lit (.int 3)),.bi .pow (.lit (.int 10)) (.lit (.int 38)),.bi .pow (.lit (.int 10)) (.lit (.int 39))])
def jK:SS:=.asg (.nm 1) (.bi .add (.var 1) (.lst [.bi .sub (.bi .sub (.bi .pow (.lit (.int 10)) (.lit (.int 40))) (.lit (.int 1))) (.call 22 [.var 0,.lit (.int 3)])]))
def jL:SS:=.asg (.nm 2) (.call 23 [.var 0,.var 1])
def fm:SS:=.ret (.ite (.cm .eq (.call 22 [.var 0,.lit (.int 2)]) (.lit (.int 0))) (.var 2) (.un .neg (.var 2)))
theorem p8:kI = [jJ,jK,jL,fm]:=rfl
def dh:SE:=(.var 2)
def di:List SE:=[.cm .notin (.var 2) (.lit (.str "0123456789"))]
def kn:SS:=.asg (.nm 1) (.ite (.cm .eq (.slc (.var 0) (.lit .non) (.lit (.int 1))) (.lit (.str "-"))) (.slc (.var 0) (.lit (.int 1)) (.lit .non)) (.var 0))
def cg:SS:=.ite (.bor [.cm .eq (.var 1) (.lit (.str "")),.cm .gt (.fn .len [.var 1]) (.lit (.int 40))]) [.ret (.lit (.bl false))] []
def dj:SS:=.ite (.cm .ne (.comp .lst dh [2] (.nm 2) (.of (.var 1)) di) (.lst [])) [.ret (.lit (.bl false))] []
def gV:SS:=.ret (.bor [.cm .eq (.var 0) (.lit (.str "0")),.cm .ne (.idx (.var 1) (.lit (.int 0))) (.lit (.str "0"))])
theorem eG:gZ = [kn,cg,dj,gV]:=rfl
def bX:List SS:=[.asg (.nm 5) (.mt .split (.idx (.var 1) (.var 4)) [.lit (.str " ")]),.ite (.bor [.cm .ne (.fn .len [.var 5]) (.lit (.int 3)),.bnot (.call 201 [.idx (.var 5) (.lit (.int 0))]),.cm .le (.idx (.var 5) (.lit (.int 0))) (.var 2)]) [.ret (.mv 4)] [],.ite (.bor [.bnot (.call 490 [.idx (.var 5) (.lit (.int 1))]),.bnot (.call 490 [.idx (.var 5) (.lit (.int 2))])]) [.ret (.mv 4)] [],.asg (.nm 2) (.idx (.var 5) (.lit (.int 0)))]
def bu:SS:=.asg (.nm 5) (.mt .split (.idx (.var 1) (.var 4)) [.lit (.str " ")])
def aO:SS:=.ite (.bor [.cm .ne (.fn .len [.var 5]) (.lit (.int 3)),.bnot (.call 201 [.idx (.var 5) (.lit (.int 0))]),.cm .le (.idx (.var 5) (.lit (.int 0))) (.var 2)]) [.ret (.mv 4)] []
def bw:SS:=.ite (.bor [.bnot (.call 490 [.idx (.var 5) (.lit (.int 1))]),.bnot (.call 490 [.idx (.var 5) (.lit (.int 2))])]) [.ret (.mv 4)] []
def eH:SS:=.asg (.nm 2) (.idx (.var 5) (.lit (.int 0)))
theorem nQ:bX = [bu,aO,bw,eH]:=rfl
def gx:SS:=.asg (.tp [.nm 1,.nm 2]) (.tup [.mt .split (.var 0) [.lit (.str "\n")],.lit (.str "")])
def gy:SS:=.asg (.nm 3) (.cm .eq (.idx (.var 1) (.un .neg (.lit (.int 1)))) (.lit (.str "")))
def cH:SS:=.asg (.nm 1) (.ite (.var 3) (.slc (.var 1) (.lit .non) (.un .neg (.lit (.int 1)))) (.var 1))
def cI:SS:=.for (.nm 4) (.range [.fn .len [.var 1]]) bX
def cJ:SS:=.ret (.ite (.var 3) (.lit .non) (.bi .sub (.fn .len [.var 1]) (.lit (.int 1))))
theorem ft:gj = [gx,gy,cH,cI,cJ]:=rfl
def iD:SE:=(.mt .split (.var 5) [.lit (.str " ")])
def iE:SE:=(.tup [.idx (.var 5) (.lit (.int 0)),.tup [.ofn false fg [.idx (.var 5) (.lit (.int 1))],.ofn false fg [.idx (.var 5) (.lit (.int 2))]]])
def gz:SS:=.asg (.tp [.nm 1,.nm 2]) (.tup [.call 491 [.var 0],.call 272 [.lit (.int 1),.var 0]])
def gA:SS:=.ite (.cm .isnot (.var 1) (.lit .non)) [.ret (.band [.isa [0,3,14] [.cls 14] (.var 2),.cm .eq (.ofn true (Dz 14 "line") [.var 2]) (.var 1)])] []
def kW:SS:=.asg (.nm 3) (.comp .lst iD [5] (.nm 5) (.of (.slc (.mt .split (.var 0) [.lit (.str "\n")]) (.lit .non) (.un .neg (.lit (.int 1))))) [])
def kX:SS:=.asg (.nm 4) (.ofn true jZ [.comp .lst iE [5] (.nm 5) (.of (.var 3)) []])
def kY:SS:=.ret (.band [.isa [0,3,14] [.dict] (.var 2),.cm .eq (.var 2) (.var 4),.cm .eq (.call 272 [.lit (.int 0),.var 2]) (.var 0)])
theorem sE:mY = [gz,gA,kW,kX,kY]:=rfl
def fM:SS:=.ite (.cm .eq (.var 1) (.lst [])) [.ret (.lst [.call 23 [.var 0,.lst [.lit (.str ""),.lit (.str "a"),.lit (.str "a 1"),.lit (.str "a 1 2"),.lit (.str "a 1 2 "),.lit (.str " a 1 2"),.lit (.str "A 1 2")]]])] []
def jk:SS:=.asg (.tp [.nm 2,.nm 3]) (.tup [.call 22 [.var 0,.fn .len [.var 1]],.call 22 [.var 0,.fn .len [.var 1]]])
def jl:SS:=.asg (.nm 4) (.call 22 [.var 0,.lit (.int 5)])
def fN:SS:=.ite (.cm .eq (.var 4) (.lit (.int 0))) [.ret (.bi .add (.bi .add (.slc (.var 1) (.lit .non) (.var 2)) (.lst [.idx (.var 1) (.var 3)])) (.slc (.var 1) (.var 2) (.lit .non)))] []
def fO:SS:=.ite (.cm .eq (.var 4) (.lit (.int 1))) [.ret (.bi .add (.bi .add (.slc (.var 1) (.lit .non) (.var 2)) (.lst [.call 23 [.var 0,.lst [.lit (.str ""),.lit (.str " "),.lit (.str "a"),.lit (.str "zz 1 2"),.lit (.str "a 1 2")]]])) (.slc (.var 1) (.var 2) (.lit .non)))] []
def jm:SS:=.asg (.nm 5) (.mt .split (.idx (.var 1) (.var 2)) [.lit (.str " ")])
def jn:SS:=.asg (.nm 6) (.call 22 [.var 0,.fn .len [.var 5]])
def hV:SS:=.asg (.nm 7) (.lst [.lit (.str ""),.lit (.str "0"),.lit (.str "-0"),.lit (.str "00"),.lit (.str "01"),.lit (.str "-1"),.lit (.str "+1"),.ofn true fe [.lit (.str "1"),.lit (.int 40)],.ofn true fe [.lit (.str "1"),.lit (.int 41)],.bi .add (.lit (.str "-")) (.ofn true fe [.lit (.str "9"),.lit (.int 40)])])
def hW:SS:=.asg (.nm 7) (.bi .add (.var 7) (.lst [.bi .add (.lit (.str "-")) (.ofn true fe [.lit (.str "9"),.lit (.int 41)]),.ofn true fe [.lit (.str "2"),.lit (.int 5000)],.lit (.str "-"),.lit (.str "--1"),.lit (.str "1.0"),.lit (.str "x"),.lit (.str "X")]))
def gB:SS:=.asg (.nm 7) (.bi .add (.var 7) (.lst [.lit (.str "abcdefgh"),.lit (.str "abcdefghi"),.lit (.str "1 2"),.lit (.str "1_0")]))
def eU:SS:=.ite (.cm .eq (.var 4) (.lit (.int 2))) [.asg (.nm 5) (.bi .add (.slc (.var 5) (.lit .non) (.var 6)) (.slc (.var 5) (.bi .add (.var 6) (.lit (.int 1))) (.lit .non)))] [.asg (.nm 5) (.bi .add (.bi .add (.slc (.var 5) (.lit .non) (.var 6)) (.lst [.call 23 [.var 0,.var 7]])) (.slc (.var 5) (.bi .add (.var 6) (.fn .int [.cm .eq (.var 4) (.lit (.int 3))])) (.lit .non)))]
def gC:SS:=.ret (.bi .add (.bi .add (.slc (.var 1) (.lit .non) (.var 2)) (.lst [.mt .join (.lit (.str " ")) [.var 5]])) (.slc (.var 1) (.bi .add (.var 2) (.lit (.int 1))) (.lit .non)))
theorem AE:oK = [fM,jk,jl,fN,fO,jm,jn,hV,hW,gB,eU,gC]:=rfl
def ko:SE:=(.tup [.var 6,.tup [.call 489 [.var 2],.call 489 [.var 2]]])
def iZ:List SS:=[.asg (.tp [.nm 7,.nm 8]) (.idx (.var 4) (.var 6)),.exp (.mu .append 5 [] [.bi .add (.bi .add (.bi .add (.bi .add (.var 6) (.lit (.str " "))) (.ofn false l0 [.var 7])) (.lit (.str " "))) (.ofn false l0 [.var 8])])]
def mr:SE:=(.bi .add (.var 14) (.lit (.str "\n")))
def xD:SE:=(.bi .add (.var 14) (.lit (.str "\n")))
def mw:List SS:=[.asg (.nm 5) (.call 215 [.var 2,.var 5]),.asg (.nm 9) (.mt .join (.lit (.str "")) [.comp .lst xD [14] (.nm 14) (.of (.var 5)) []]),.ite (.bor [.bnot (.call 209 [.var 9]),.bnot (.call 209 [.slc (.var 9) (.lit .non) (.un .neg (.lit (.int 1)))])]) [.ret (.lit (.bl false))] []]
def mx:SS:=.asg (.nm 5) (.call 215 [.var 2,.var 5])
def p9:SS:=.asg (.nm 9) (.mt .join (.lit (.str "")) [.comp .lst xD [14] (.nm 14) (.of (.var 5)) []])
def my:SS:=.ite (.bor [.bnot (.call 209 [.var 9]),.bnot (.call 209 [.slc (.var 9) (.lit .non) (.un .neg (.lit (.int 1)))])]) [.ret (.lit (.bl false))] []
theorem AF:mw = [mx,p9,my]:=rfl
def mB:List SS:=[.asg (.nm 12) (.call 272 [.lit (.int 1),.var 11]),.ite (.bor [.bnot (.isa [0,3,14] [.cls 14] (.var 12)),.cm .ne (.ofn true (Dz 14 "line") [.var 12]) (.lit (.int 0))]) [.ret (.lit (.bl false))] []]
def mC:List SS:=[.ite (.bnot (.isa [0,3,14] [.cls 3] (.call 272 [.lit (.int 0),.var 11]))) [.ret (.lit (.bl false))] []]
def oT:List SS:=[.asg (.nm 2) (.call 20 [.bi .add (.slc (.var 0) (.var 1) (.lit .non)) (.slc (.var 0) (.lit .non) (.var 1))]),.asg (.nm 3) (.call 25 [.var 2,.call 22 [.var 2,.lit (.int 16)]]),.asg (.nm 4) (.ofn true jZ [.comp .lst ko [6] (.nm 6) (.of (.var 3)) []]),.asg (.nm 5) (.lst []),.for (.nm 6) (.of (.ofn true lI [.var 3])) iZ,.asg (.nm 9) (.mt .join (.lit (.str "")) [.comp .lst mr [14] (.nm 14) (.of (.var 5)) []]),.ite (.bor [.cm .ne (.callp 485 ([]++[.var 4]) [.inl 0]) (.var 9),.cm .ne (.callp 488 ([]++[.var 9]) [.inl 0]) (.var 4)]) [.ret (.lit (.bl false))] [],.ite (.cm .ne (.fn .list [.call 488 [.var 9]]) (.ofn true lI [.var 3])) [.ret (.lit (.bl false))] [],.for (.nm 10) (.range [.lit (.int 3)]) mw,.for (.nm 11) (.of (.lst [.lit .non,.lit (.int 0),.lit (.bl true),.lst [],.tup [.lit (.str "a"),.lit (.int 1),.lit (.int 2)],.dct [],.lst [.lit (.str "a 1 2")]])) mB,.asg (.nm 13) (.lst [.lit .non,.lit (.int 0),.lit (.str "a 1 2"),.lst [],.dct (ck [(.lit (.str "A"),.tup [.lit (.int 1),.lit (.int 2)])]),.dct (ck [(.lit (.str "a"),.lst [.lit (.int 1),.lit (.int 2)])]),.dct (ck [(.lit (.str "a"),.tup [.lit (.int 1),.lit (.bl true)])]),.dct (ck [(.lit (.str "a"),.tup [.lit (.int 1)])]),.dct (ck [(.lit (.int 5),.tup [.lit (.int 1),.lit (.int 2)])])]),.for (.nm 11) (.of (.bi .add (.var 13) (.lst [.dct (ck [(.lit (.str "a"),.tup [.lit (.int 1),.lit (.str "2")])]),.dct (ck [(.lit (.str "a"),.lit .non)])]))) mC]
def xE:SS:=.asg (.nm 2) (.call 20 [.bi .add (.slc (.var 0) (.var 1) (.lit .non)) (.slc (.var 0) (.lit .non) (.var 1))])
def mD:SS:=.asg (.nm 3) (.call 25 [.var 2,.call 22 [.var 2,.lit (.int 16)]])
def jo:SS:=.asg (.nm 4) (.ofn true jZ [.comp .lst ko [6] (.nm 6) (.of (.var 3)) []])
def mE:SS:=.asg (.nm 5) (.lst [])
def jq:SS:=.for (.nm 6) (.of (.ofn true lI [.var 3])) iZ
def jt:SS:=.asg (.nm 9) (.mt .join (.lit (.str "")) [.comp .lst mr [14] (.nm 14) (.of (.var 5)) []])
def ju:SS:=.ite (.bor [.cm .ne (.callp 485 ([]++[.var 4]) [.inl 0]) (.var 9),.cm .ne (.callp 488 ([]++[.var 9]) [.inl 0]) (.var 4)]) [.ret (.lit (.bl false))] []
def jv:SS:=.ite (.cm .ne (.fn .list [.call 488 [.var 9]]) (.ofn true lI [.var 3])) [.ret (.lit (.bl false))] []
def mF:SS:=.for (.nm 10) (.range [.lit (.int 3)]) mw
def kZ:SS:=.for (.nm 11) (.of (.lst [.lit .non,.lit (.int 0),.lit (.bl true),.lst [],.tup [.lit (.str "a"),.lit (.int 1),.lit (.int 2)],.dct [],.lst [.lit (.str "a 1 2")]])) mB
def k8:SS:=.asg (.nm 13) (.lst [.lit .non,.lit (.int 0),.lit (.str "a 1 2"),.lst [],.dct (ck [(.lit (.str "A"),.tup [.lit (.int 1),.lit (.int 2)])]),.dct (ck [(.lit (.str "a"),.lst [.lit (.int 1),.lit (.int 2)])]),.dct (ck [(.lit (.str "a"),.tup [.lit (.int 1),.lit (.bl true)])]),.dct (ck [(.lit (.str "a"),.tup [.lit (.int 1)])]),.dct (ck [(.lit (.int 5),.tup [.lit (.int 1),.lit (.int 2)])])])
def k9:SS:=.for (.nm 11) (.of (.bi .add (.var 13) (.lst [.dct (ck [(.lit (.str "a"),.tup [.lit (.int 1),.lit (.str "2")])]),.dct (ck [(.lit (.str "a"),.lit .non)])]))) mC
theorem AG:oT = [xE,mD,jo,mE,jq,jt,ju,jv,mF,kZ,k8,k9]:=rfl
theorem HA:Cp = [.for (.nm 1) (.range [.fn .max2 [.lit (.int 1),.fn .min2 [.lit (.int 8),.fn .len [.var 0]]]]) oT,.ret (.band [.cm .eq (.call 485 [.dct []]) (.lit (.str "")),.cm .eq (.call 488 [.lit (.str "")]) (.dct [])])]:=rfl
end
end K74
namespace PV.K74
open PySem L2 _root_.K74 PV.K1 PV.M1 PV.N1 PV.K72 PV.K71
open PV.K61 (pairD br cA hR iC sA CF cn qE CH)
def big:D→Bool
 | .str x=>decide (x.length≤100000)
 | .obj _ _ _=>false
 | .exc _ _=>false
 | _=>true
theorem AH {v:D} (h:big v=true):cb [.d v] = .ok (.d (.bl (isNm v))) [.d v]:=by
 refine(aI (by rfl) (by rfl)).trans ?_
 rw [oR]
 cases v with
 | str s =>
  have hl:s.length≤100000:=by simpa [big]using h
  have hl2:s.length≤16777216:=by omega
  have ec:bq (fun x ρ=>bnd (aH (.nm 1) x ρ) fun ρ=>(dW (cQ []) df ρ).bind fun b ρ=>jR b ((ev (cQ []) de ρ).bind fun o ρ=>.ok (some o) (ar [1] ρ)) (.ok none (ar [1] ρ))) (s.cps.toList.map fun c=>.str ⟨#[c]⟩) [some (.d (.str s)),none] = .ok ((AB s).map fun c=>bL (ch c)) [some (.d (.str s)),none]:=by
   rw [mj (p:=xu) (g:=fun c=>bL (ch c))]
   ·rfl
   intro c _
   by_cases hc:c∈xq.cps.toList
   ·have hc':c∈xq.cps:=by simpa using hc
    simp! [df,de,xu,hc']
   ·have hc':c∉xq.cps:=by simpa using hc
    simp! [df,de,xu,hc']
  have ho:D.okd 150 (.lst ((AB s).map fun c=>D.str (ch c)))=true:=by
   have:=iW (n:=149) ((AB s).map ch)
   rw [List.map_map]at this
   rw [D.okd]
   exact this
  have hi:isNm (.str s)=(decide (1≤s.length)&&(decide (s.length≤8)&&(AB s).isEmpty)):=by
   rw [CD]; rfl
  by_cases h1:(1:Int)≤s.length
  ·by_cases h2:(s.length:Int)≤8
   ·have k1:1≤s.length:=by omega
    have k2:s.length≤8:=by omega
    rw [decide_eq_true k1,decide_eq_true k2]at hi
    simp! [fR]at ec
    simp! [hl2,h1,h2]
    simp! [ec,hl2,h1,h2,Function.comp_def,nC,ho,EA,qD,hi]
   ·have k2:¬ s.length≤8:=by omega
    rw [decide_eq_false k2]at hi
    simp! [hl2,h1,h2,hi]
  ·have k1:¬ 1≤s.length:=by omega
   rw [decide_eq_false k1]at hi
   simp! [hl2,h1,hi]
 | obj C ns vs=>simp [big]at h
 | exc C p=>simp [big]at h
 | _=>simp! [isNm]
theorem iM {v:D} (h:big v=true):a9 [.d v] = .ok (.d (.bl (isNm v))) [.d v]:=by
 refine(aI (by rfl) (by rfl)).trans ?_
 rw [yI]
 cases v with
 | str s =>
  have hl:s.length≤100000:=by simpa [big]using h
  have hl2:s.length≤16777216:=by omega
  have e:bq (fun x ρ=>bnd (aH (.nm 1) x ρ) fun ρ=>(dW (cQ []) [] ρ).bind fun b ρ=>jR b ((ev (cQ []) kS ρ).bind fun o ρ=>.ok (some o) (ar [1] ρ)) (.ok none (ar [1] ρ))) (s.cps.toList.map fun c=>.str ⟨#[c]⟩) [some (.d (.str s)),none] = .ok (s.cps.toList.map fun c=>.d (.bl (xw c))) [some (.d (.str s)),none]:=by
   refine comp_map fun c hc=>?_
   simp! [kS,xw]
  have hi:isNm (.str s)=(decide (1≤s.length)&&(decide (s.length≤8)&&s.cps.toList.all xw)):=rfl
  by_cases h1:(1:Int)≤s.length
  ·by_cases h2:(s.length:Int)≤8
   ·have k1:1≤s.length:=by omega
    have k2:s.length≤8:=by omega
    rw [decide_eq_true k1,decide_eq_true k2]at hi
    simp! [fR]at e
    simp! [hl2,h1,h2]
    have hb:dU (s.cps.toList.map fun c=>D.bl (xw c))=some (s.cps.toList.map xw):=nP _
    simp! [e,hl2,h1,h2,Function.comp_def,hb,hi]
   ·have k2:¬ s.length≤8:=by omega
    rw [decide_eq_false k2]at hi
    simp! [hl2,h1,h2,hi]
  ·have k1:¬ 1≤s.length:=by omega
   rw [decide_eq_false k1]at hi
   simp! [hl2,h1,hi]
 | obj C ns vs=>simp [big]at h
 | exc C p=>simp [big]at h
 | _=>simp! [isNm]
theorem iF {v:D} (h:big v=true):gd [.d v] = .ok (.d (.bl (isIn v))) [.d v]:=by
 refine(aI (by rfl) (by rfl)).trans ?_
 rw [tv]
 cases v with
 | obj C ns vs=>simp [big]at h
 | exc C p=>simp [big]at h
 | _=>simp! [isIn]
theorem CM {x:Str} (h:dc x=true):big (.str x)=true:=by
 have:=(ke h).hi
 exact decide_eq_true (by omega)
theorem vN {p:Int×Int}:bW [.d (pairD p)] = .ok (.d (.bl true)) [.d (pairD p)]:=by
 refine(aI (by rfl) (by rfl)).trans ?_
 rw [iY]
 have e1:=iF (v:=.int p.1) rfl
 have e2:=iF (v:=.int p.2) rfl
 simp_arith [pairD]
 simp_arith [e1,e2,atI,ixN,jX,isIn]
theorem CN {ks:List Str}{h:Str→Int×Int}{v:O} (t:hR ks h v) (hk:∀ k∈ks,dc k=true):aX [v] = .ok (.d (.bl true)) [.d (br ks h)]:=by
 refine(aI (by cases t <;> rfl) (by cases t <;> rfl)).trans ?_
 rw [mm]
 have kd:lN (.d (br ks h))=some (ks.map .str):=yT (ki _)
 have hi:fQ [] [.dict] [br ks h]=some (.d (.bl true)):=rfl
 have ec:bq (fun x ρ=>(ev (cQ [(2,a9),(220,bW)]) cP (ρ.set 1 (some (.d x)))).bind fun o ρ=>Res.ok (some o) (ρ.set 1 none)) (ks.map .str) [some (.d (br ks h)),none] = .ok (ks.map fun _=>.d (.bl true)) [some (.d (br ks h)),none]:=by
  refine comp_map fun x hx=>?_
  have e1:=iM (v:=.str x) (CM (hk x hx))
  rw [show isNm (.str x)=true from hk x hx]at e1
  have e2:=vN (p:=h x)
  have hl:=cn (α:=Unit) (g:=fun k=>pairD (h k)) hx
  simp_arith [cP]
  simp_arith [e1]
  simp_arith [br,kh,hl,aJ,qE,CH]
  simp_arith [e2]
 have hb:dU (ks.map fun _=>D.bl true)=some (ks.map fun _=>true):=p6 ks
 have hc:(ks.all fun _=>true)=true:=List.all_eq_true.mpr fun _ _=>rfl
 cases t <;> simp_arith [iC,sA,CF,kd,hi] <;> simp_arith [iC,sA,CF,kd,hi,ec,Function.comp_def,hb,hc] <;> first | done | rfl | trace_state
theorem vO {x:D} (hi:fQ [] [.dict] [x]=some (.d (.bl false))):aX [.d x] = .ok (.d (.bl false)) [.d x]:=by
 refine(aI (by rfl) (by rfl)).trans ?_
 rw [mm]
 simp_arith [hi]
theorem qF {k v:D}{js:Key}{b c:Bool} (hj:keyOf k=some js) (hk:aZ k [k]=true) (hlk:aW k [k] [v]=some v) (h1:a9 [.d k] = .ok (.d (.bl b)) [.d k]) (h2:bW [.d v] = .ok (.d (.bl c)) [.d v]) (hbc:(b&&c)=false):aX [.d (.dic [k] [v])] = .ok (.d (.bl false)) [.d (.dic [k] [v])]:=by
 refine(aI (by rfl) (by rfl)).trans ?_
 rw [mm]
 have kd:lN (.d (.dic [k] [v]))=some [k]:=yT (js:=[js]) (by rw [keysOf,hj]; rfl)
 have hi:fQ [] [.dict] [.dic [k] [v]]=some (.d (.bl true)):=rfl
 have hix:bU [.dic [k] [v],k]=some (.d v):=by
  show(if aZ k [k]then(aW k [k] [v]).map O.d else none)=_
  rw [hk,hlk]
  rfl
 have e:∀ ρ0:Option O,ev (cQ [(2,a9),(220,bW)]) cP [some (.d (.dic [k] [v])),some (.d k)] = .ok (.d (.bl false)) [some (.d (.dic [k] [v])),some (.d k)]:=by
  intro _
  generalize D.dic [k] [v]=T at hix ⊢
  simp_arith [cP]
  cases b with
  | false=>simp_arith [h1]
  | true =>
   have hc:c=false:=by simpa using hbc
   subst hc
   simp_arith [h1,hix]
   simp_arith [h2,hix]
 have e:=e none
 have ec:bq (fun x ρ=>(ev (cQ [(2,a9),(220,bW)]) cP (ρ.set 1 (some (.d x)))).bind fun o ρ=>Res.ok (some o) (ρ.set 1 none)) [k] [some (.d (.dic [k] [v])),none] = .ok [.d (.bl false)] [some (.d (.dic [k] [v])),none]:=by
  rw [bq]
  show(((ev _ cP [some (.d (.dic [k] [v])),some (.d k)]).bind _).bind _)=_
  rw [e]
  rfl
 generalize D.dic [k] [v]=T at kd hi ec ⊢
 simp_arith [kd,hi]
 simp_arith [kd,hi,ec,dU]
theorem LP:aX [.d (.dic [.str "A"] [.tup [.int 1,.int 2]])] = .ok (.d (.bl false)) [.d (.dic [.str "A"] [.tup [.int 1,.int 2]])]:=by
 have h1:=iM (v:=.str "A") (by decide +kernel)
 rw [show isNm (.str "A")=false by decide +kernel]at h1
 exact qF (js:=.inr "A") rfl (by decide +kernel) (cn (α:=Unit) (ks:=["A"]) (g:=fun _=>.tup [.int 1,.int 2]) (by simp)) h1 (vN (p:=(1,2))) rfl
theorem HB {xs:List D}:bW [.d (.lst xs)] = .ok (.d (.bl false)) [.d (.lst xs)]:=by
 refine(aI (by rfl) (by rfl)).trans ?_
 rw [iY]
 have hi:fQ [] [.tuple] [.lst xs]=some (.d (.bl false)):=rfl
 simp_arith [hi]
theorem LQ:aX [.d (.dic [.str "a"] [.lst [.int 1,.int 2]])] = .ok (.d (.bl false)) [.d (.dic [.str "a"] [.lst [.int 1,.int 2]])]:=by
 have h1:=iM (v:=.str "a") (by decide +kernel)
 rw [show isNm (.str "a")=true by decide +kernel]at h1
 exact qF (js:=.inr "a") rfl (by decide +kernel) (cn (α:=Unit) (ks:=["a"]) (g:=fun _=>.lst [.int 1,.int 2]) (by simp)) h1 HB rfl
end PV.K74
namespace PV.K74
open PySem L2 _root_.K74 PV.K1 PV.M1 PV.N1 PV.K72 PV.K71
variable {x cs:List Nat}{TD E E1 E2:D}{N:Int}
def AI (c:Nat):Bool:=decide (c∈(Str.ofString "0123456789").cps.toList)
theorem CO {c:Nat}:AI c=decide (48≤c∧c≤57):=by
 have h:(Str.ofString "0123456789").cps.toList = [48,49,50,51,52,53,54,55,56,57]:=by decide +kernel
 unfold AI
 rw [h]
 refine decide_eq_decide.mpr ?_
 simp
 omega
theorem CP {l:List Nat}{a:Nat} (hz:l.length≤1000000):ig [tD l,.non,.int (a:Int)]=some (.d (tD (l.take a))):=by
 show(if(sT l).length≤sizeLine then some (O.d (.str ⟨(((sT l).cps.toList.drop (HT.sIx (sT l).length 0 none)).take (HT.sIx (sT l).length (sT l).length (some (a:Int)) - HT.sIx (sT l).length 0 none)).toArray⟩))else none)=_
 rw [cq,if_pos (by rw [PySem.sizeLine_eq]; omega),HT.sIx_nat,HT.sIx_none,Nat.sub_zero,List.drop_zero]
 have:(sT l).cps.toList.take (min a l.length)=l.take a:=by
  show l.take (min a l.length)=l.take a
  rw [List.take_eq_take_iff]
  omega
 rw [this]
theorem tF {w:Str}{cs:List Nat} (h:sT cs=w):aB .eq (tD x) (.str w)=some (decide (x=cs)):=by
 rw [← h]
 exact Jx
theorem JA {w:Str}{cs:List Nat} (h:sT cs=w):aB .ne (tD x) (.str w)=some (! decide (x=cs)):=by
 rw [← h]
 exact Jy
theorem CQ:sT [45]=(Str.ofString "-"):=by decide +kernel
theorem pC:sT [48]=(Str.ofString "0"):=by decide +kernel
theorem xF:sT []=(Str.ofString ""):=by decide +kernel
theorem JB {c:Nat} (h:(c::cs).length≤100000):bU [tD (c::cs),.int 0]=some (.d (tD [c])):=by
 rw [K3,if_pos (by rw [PySem.sizeLine_eq,cq]; omega)]
 have:atI (sT (c::cs)).cps.toList 0=some c:=atI_nat (j:=0) rfl
 rw [this]
 rfl
variable {s0 s1 s2:Option O}
theorem Nk (h1:ig [TD,.non,.int 1]=some (.d E1)) (h2:aB .eq E1 (.str "-")=some true) (h3:ig [TD,.int 1,.non]=some (.d E2)):bo (cQ []) dg [some (.d TD),s1,s2] = .ok .nx [some (.d TD),some (.d E2),s2]:=by
 simp_arith [dg,-bD,-fH]
 try simp_arith [h1,h2,h3,-bD,-fH]
theorem Nl (h1:ig [TD,.non,.int 1]=some (.d E1)) (h2:aB .eq E1 (.str "-")=some false):bo (cQ []) dg [some (.d TD),s1,s2] = .ok .nx [some (.d TD),some (.d TD),s2]:=by
 simp_arith [dg,-bD,-fH]
 try simp_arith [h1,h2,-bD,-fH]
theorem a1 (hz:x.length≤100000):bo (cQ []) dg [some (.d (tD x)),s1,s2] = .ok .nx [some (.d (tD x)),some (.d (tD (lK x))),s2]:=by
 have h1:=CP (l:=x) (a:=1) (by omega)
 have h3:=CJ (l:=x) (a:=1) (by omega)
 unfold lK
 by_cases q:x.take 1 = [45]
 ·rw [if_pos q]
  exact Nk h1 (by rw [tF CQ,decide_eq_true q]) h3
 ·rw [if_neg q]
  exact Nl h1 (by rw [tF CQ,decide_eq_false q])
theorem Nm (h1:iw .len E=some (.d (.int N))) (h2:aB .le (.int 1) (.int N)=some false):bo (cQ []) bH [s0,some (.d E),s2] = .ok (.rt (.d (.bl false))) [s0,some (.d E),s2]:=by
 simp_arith [bH,-lY,-lz]
 try simp_arith [h1,h2,-lY,-lz]
theorem Nn (h1:iw .len E=some (.d (.int N))) (h2:aB .le (.int 1) (.int N)=some true) (h3:aB .le (.int N) (.int 40)=some false):bo (cQ []) bH [s0,some (.d E),s2] = .ok (.rt (.d (.bl false))) [s0,some (.d E),s2]:=by
 simp_arith [bH,-lY,-lz]
 try simp_arith [h1,h2,h3,-lY,-lz]
theorem Np {os:List O}{XS:List D}{b:Bool} (h1:iw .len E=some (.d (.int N))) (h2:aB .le (.int 1) (.int N)=some true) (h3:aB .le (.int N) (.int 40)=some true) (hw:jP E=some XS)
  (he:bq (fun x ρ=>bnd (aH (.nm 2) x ρ) fun ρ=>(dW (cQ []) [] ρ).bind fun b ρ=>jR b ((ev (cQ []) gv ρ).bind fun o ρ=>.ok (some o) (ar [2] ρ)) (.ok none (ar [2] ρ))) XS [s0,some (.d E),none] = .ok os [s0,some (.d E),none]) (hf:D.lst (os.map O.frz)=E2) (ha:iw .all E2=some (.d (.bl b))):bo (cQ []) bH [s0,some (.d E),none] = .ok (if b then .nx else .rt (.d (.bl false))) [s0,some (.d E),none]:=by
 simp_arith [fR]at he
 cases b with
 | true =>
  simp_arith [bH,-lY,-lz]
  try simp_arith [h1,h2,h3,hw,he,hf,ha,-lY,-lz]
 | false =>
  simp_arith [bH,-lY,-lz]
  try simp_arith [h1,h2,h3,hw,he,hf,ha,-lY,-lz]
theorem a2 (hz:cs.length≤100000):bo (cQ []) bH [s0,some (.d (tD cs)),none] = .ok (if CK cs then .nx else .rt (.d (.bl false))) [s0,some (.d (tD cs)),none]:=by
 have e:bq (fun x ρ=>bnd (aH (.nm 2) x ρ) fun ρ=>(dW (cQ []) [] ρ).bind fun b ρ=>jR b ((ev (cQ []) gv ρ).bind fun o ρ=>.ok (some o) (ar [2] ρ)) (.ok none (ar [2] ρ))) (cs.map fun c=>.str ⟨#[c]⟩) [s0,some (.d (tD cs)),none] = .ok (cs.map fun c=>.d (.bl (AI c))) [s0,some (.d (tD cs)),none]:=by
  refine comp_map fun c hc=>?_
  simp! [gv,AI]
 have hw:jP (tD cs)=some (cs.map fun c=>.str ⟨#[c]⟩):=by
  show(if(sT cs).length≤sizeLine then some ((sT cs).cps.toList.map fun c=>D.str ⟨#[c]⟩)else none)=_
  rw [cq,if_pos (by rw [PySem.sizeLine_eq]; omega)]
 have hln:iw .len (tD cs)=some (.d (.int (cs.length:Int))):=FP (by omega)
 have hb:dU (cs.map fun c=>D.bl (AI c))=some (cs.map AI):=nP _
 have hall:(cs.map AI).all id=cs.all fun c=>decide (48≤c∧c≤57):=by
  rw [List.all_map]
  exact congrArg _ (funext fun c=>CO)
 have hu:CK cs=((decide (1≤cs.length)&&decide (cs.length≤40))&&cs.all fun c=>decide (48≤c∧c≤57)):=rfl
 rw [hu]
 by_cases q1:1≤cs.length
 ·by_cases q2:cs.length≤40
  ·rw [decide_eq_true q1,decide_eq_true q2]
   refine(Np hln (by rw [lY,decide_eq_true (by omega)]) (by rw [lY,decide_eq_true (by omega)]) hw e rfl (b:=cs.all fun c=>decide (48≤c∧c≤57)) ?_)
   rw [List.map_map]
   show(dU (cs.map fun c=>D.bl (AI c))).map (fun bs=>O.d (.bl (bs.all id)))=_
   rw [hb,← hall]
   rfl
  ·rw [decide_eq_false q2,Bool.and_false,Bool.false_and]
   exact Nn hln (by rw [lY,decide_eq_true (by omega)]) (by rw [lY,decide_eq_false (by omega)])
 ·rw [decide_eq_false q1,Bool.false_and,Bool.false_and]
  exact Nm hln (by rw [lY,decide_eq_false (by omega)])
theorem MO (h1:aB .eq TD (.str "0")=some true):bo (cQ []) eF [some (.d TD),s1,s2] = .ok (.rt (.d (.bl true))) [some (.d TD),s1,s2]:=by
 simp_arith [eF,-bD,-dY]
 try simp_arith [h1,-bD,-dY]
theorem MP {b:Bool} (h1:aB .eq TD (.str "0")=some false) (h2:bU [E,.int 0]=some (.d E1)) (h3:aB .ne E1 (.str "0")=some b):bo (cQ []) eF [some (.d TD),some (.d E),s2] = .ok (.rt (.d (.bl b))) [some (.d TD),some (.d E),s2]:=by
 simp_arith [eF,-bD,-dY]
 try simp_arith [h1,h2,h3,-bD,-dY]
theorem uH (hz:x.length≤100000):cG [.d (tD x)] = .ok (.d (.bl (d7 x))) [.d (tD x)]:=by
 have hd:(lK x).length≤100000:=by
  unfold lK
  split
  ·rw [List.length_drop]; omega
  ·exact hz
 have c1:=a1 (s1:=none) (s2:=none) hz
 have c2:=a2 (s0:=some (.d (tD x))) hd
 have hio:∀ {y z:Option O},bp [.d (tD x)] [some (.d (tD x)),y,z]=some [.d (tD x)]:=fun {y z}=>rfl
 refine(aI (by rfl) (by rfl)).trans ?_
 unfold d7
 cases hb:CK (lK x)with
 | false =>
  rw [hb]at c2
  exact bQ kT rfl (af c1 (aL c2)) hio
 | true =>
  rw [hb]at c2
  rw [Bool.true_and]
  obtain⟨_,hl,_⟩:=sD hb
  by_cases q:x = [48]
  ·rw [decide_eq_true q,Bool.true_or]
   exact bQ kT rfl (af c1 (af c2 (aL (MO (by rw [tF pC,decide_eq_true q]))))) hio
  ·rw [decide_eq_false q,Bool.false_or]
   cases hc:lK x with
   | nil=>rw [hc]at hl; simp at hl
   | cons c r =>
    rw [hc]at hd c1 c2
    have h3:aB .ne (tD [c]) (.str "0")=some (! decide ((c::r)[0]?=some 48)):=by
     rw [JA pC]
     refine congrArg some (congrArg _ (decide_eq_decide.mpr ?_))
     simp
    exact bQ kT rfl (af c1 (af c2 (aL (MP (by rw [tF pC,decide_eq_false q]) (JB hd) h3)))) hio
end PV.K74
namespace PV.K74
open PySem L2 _root_.K74 PV.K1 PV.M1 PV.N1 PV.K72 PV.K71
variable {x y z cs:List Nat}{TD E E1 E2:D}{N:Int}
def sF (d:Nat):List (List Nat)→List Nat
 | []=>[]
 | [x]=>x
 | x::y::r=>x++d::sF d (y::r)
def bj (d:Nat):List Nat→List (List Nat)
 | []=>[[]]
 | c::l=>if c=d then []::bj d l else match bj d l with
  | []=>[[c]]
  | p::ps=>(c::p)::ps
theorem mZ {d:Nat}:∀ {x:List Nat},d∉x→bj d x = [x]
 | [],h=>rfl
 | c::x,h=>by
  have h1:c≠d:=fun q=>h (by rw [q]; exact List.mem_cons_self)
  have h2:=mZ (x:=x) fun q=>h (List.mem_cons_of_mem _ q)
  unfold bj
  rw [if_neg h1,h2]
theorem mG {d:Nat}:∀ {x:List Nat}{l:List Nat},d∉x→bj d (x++d::l)=x::bj d l
 | [],l,h=>by
  show bj d (d::l)=_
  rw [bj,if_pos rfl]
 | c::x,l,h=>by
  have h1:c≠d:=fun q=>h (by rw [q]; exact List.mem_cons_self)
  have h2:=mG (x:=x) (l:=l) fun q=>h (List.mem_cons_of_mem _ q)
  show bj d (c::(x++d::l))=_
  rw [bj,if_neg h1,h2]
theorem zL {d:Nat}:∀ {ps:List (List Nat)},ps≠[]→(∀ p∈ps,d∉p)→bj d (sF d ps)=ps
 | [],h,_=>absurd rfl h
 | [x],_,h=>mZ (h x List.mem_cons_self)
 | x::y::r,_,h=>by
  show bj d (x++d::sF d (y::r))=_
  rw [mG (h x List.mem_cons_self),zL (by simp) fun p hp=>h p (List.mem_cons_of_mem _ hp)]
theorem xG {d:Nat}:∀ ps:List Str,(Str.join (sT [d]) ps).cps.toList=sF d (ps.map fun p=>p.cps.toList)
 | []=>rfl
 | [x]=>rfl
 | x::y::r=>by
  have h:=xG (d:=d) (y::r)
  show(x++sT [d]++Str.join (sT [d]) (y::r)).cps.toList=x.cps.toList++d::sF d ((y::r).map fun p=>p.cps.toList)
  rw [← h]
  show((x.cps ++ #[d])++(Str.join (sT [d]) (y::r)).cps).toList=_
  simp
theorem EE {d:Nat} (L:List Nat):Txt.split (sT L) (sT [d])=(bj d L).map sT:=by
 have h1:=StrLaws.join_split (sT L) (sT [d])
 have h2:=StrLaws.split_free (sT L) d
 have h3:=PyProof.Rows.split_pos (sT L) (sT [d])
 have h2:∀ p∈Txt.split (sT L) (sT [d]),d∉p.cps.toList:=h2
 generalize Txt.split (sT L) (sT [d])=ps at h1 h2 h3
 have h4:sF d (ps.map fun p=>p.cps.toList)=L:=by
  rw [← xG,h1]
 have h5:ps.map (fun p=>p.cps.toList)≠[]:=by
  intro q
  have:=congrArg List.length q
  rw [List.length_map]at this
  simp at this
  rw [this]at h3
  simp at h3
 have h6:=zL h5 fun p hp=>by
  obtain⟨q,hq,rfl⟩:=List.mem_map.mp hp
  exact h2 q hq
 rw [h4]at h6
 rw [h6,List.map_map]
 exact(List.map_id ps).symm.trans (List.map_congr_left fun p _=>(p7 (T:=p)).symm)
theorem vP {d:Nat}:∀ {l:List Nat},bj d l≠[]
 | []=>by simp [bj]
 | c::l=>by
  unfold bj
  split
  ·simp
  ·split <;> simp
theorem lg {d:Nat}:∀ {l:List Nat},∀ p∈bj d l,d∉p∧p.length≤l.length∧∀ c∈p,c∈l
 | [],p,h=>by
  have:p = []:=by simpa [bj]using h
  subst this
  simp
 | c::l,p,h=>by
  unfold bj at h
  have ih:=fun p hp=>lg (d:=d) (l:=l) p hp
  split at h
  ·rcases List.mem_cons.mp h with rfl | h
   ·simp
   ·obtain⟨h1,h2,h3⟩:=ih p h
    exact⟨h1,by rw [List.length_cons]; omega,fun a ha=>List.mem_cons_of_mem _ (h3 a ha)⟩
  ·rename_i hc
   cases e:bj d l with
   | nil=>exact absurd e vP
   | cons q qs =>
    rw [e]at h ih
    rcases List.mem_cons.mp h with rfl | h
    ·obtain⟨h1,h2,h3⟩:=ih q List.mem_cons_self
     refine⟨fun m=>?_,by rw [List.length_cons,List.length_cons]; omega,fun a ha=>?_⟩
     ·rcases List.mem_cons.mp m with m | m
      ·exact hc m.symm
      ·exact h1 m
     ·rcases List.mem_cons.mp ha with rfl | ha
      ·exact List.mem_cons_self
      ·exact List.mem_cons_of_mem _ (h3 a ha)
    ·obtain⟨h1,h2,h3⟩:=ih p (List.mem_cons_of_mem _ h)
     exact⟨h1,by rw [List.length_cons]; omega,fun a ha=>List.mem_cons_of_mem _ (h3 a ha)⟩
theorem AJ {d:Nat}{w:Str} (h:sT [d]=w) (hz:x.length≤1000000):qp .split [tD x,.str w]=some (bE (bj d x)):=by
 rw [← h]
 show(if((sT [d]).length == 0)=false∧(sT x).length+2≤sizeLine then some (O.lst ((Txt.split (sT x) (sT [d])).map fun x=>.d (.str x)))else none)=_
 rw [if_pos ⟨rfl,by rw [cq,PySem.sizeLine_eq]; omega⟩,EE,List.map_map]
 rfl
variable {s0 s1 s2:Option O}
theorem Nq (h1:aB .eq E (.str "")=some true):bo (cQ []) cg [s0,some (.d E),s2] = .ok (.rt (.d (.bl false))) [s0,some (.d E),s2]:=by
 simp_arith [cg,-bD]
 try simp_arith [h1,-bD]
theorem MQ {b:Bool} (h1:aB .eq E (.str "")=some false) (h2:iw .len E=some (.d (.int N))) (h3:aB .gt (.int N) (.int 40)=some b):bo (cQ []) cg [s0,some (.d E),s2] = .ok (if b then .rt (.d (.bl false))else .nx) [s0,some (.d E),s2]:=by
 cases b with
 | true =>
  simp_arith [cg,-bD,-Ad,-lz]
  try simp_arith [h1,h2,h3,-bD,-Ad,-lz]
 | false =>
  simp_arith [cg,-bD,-Ad,-lz]
  try simp_arith [h1,h2,h3,-bD,-Ad,-lz]
theorem Nr {os:List O}{XS:List D}{b:Bool} (hw:jP E=some XS)
  (he:bq (fun x ρ=>bnd (aH (.nm 2) x ρ) fun ρ=>(dW (cQ []) di ρ).bind fun b ρ=>jR b ((ev (cQ []) dh ρ).bind fun o ρ=>.ok (some o) (ar [2] ρ)) (.ok none (ar [2] ρ))) XS [s0,some (.d E),none] = .ok os [s0,some (.d E),none]) (hf:D.lst (os.map O.frz)=E2) (ha:aB .ne E2 (.lst [])=some b):bo (cQ []) dj [s0,some (.d E),none] = .ok (if b then .rt (.d (.bl false))else .nx) [s0,some (.d E),none]:=by
 simp_arith [fR]at he
 cases b with
 | true =>
  simp_arith [dj,-dY]
  try simp_arith [hw,he,hf,ha,-dY]
 | false =>
  simp_arith [dj,-dY]
  try simp_arith [hw,he,hf,ha,-dY]
theorem b3 (hz:cs.length≤100000):bo (cQ []) dj [s0,some (.d (tD cs)),none] = .ok (if cs.all (fun c=>decide (48≤c∧c≤57))then .nx else .rt (.d (.bl false))) [s0,some (.d (tD cs)),none]:=by
 have e:bq (fun x ρ=>bnd (aH (.nm 2) x ρ) fun ρ=>(dW (cQ []) di ρ).bind fun b ρ=>jR b ((ev (cQ []) dh ρ).bind fun o ρ=>.ok (some o) (ar [2] ρ)) (.ok none (ar [2] ρ))) (cs.map fun c=>.str ⟨#[c]⟩) [s0,some (.d (tD cs)),none] = .ok ((cs.filter fun c=>! AI c).map fun c=>bL (ch c)) [s0,some (.d (tD cs)),none]:=by
  refine mj (a:=fun c=>D.str ⟨#[c]⟩) fun c hc=>?_
  cases hd:AI c with
  | true =>
   unfold AI at hd
   simp at hd
   simp! [dh,di,hd]
  | false =>
   unfold AI at hd
   simp at hd
   simp! [dh,di,hd]
 have hw:jP (tD cs)=some (cs.map fun c=>.str ⟨#[c]⟩):=by
  show(if(sT cs).length≤sizeLine then some ((sT cs).cps.toList.map fun c=>D.str ⟨#[c]⟩)else none)=_
  rw [cq,if_pos (by rw [PySem.sizeLine_eq]; omega)]
 have h2:=Nr (s0:=s0) hw e rfl (Ht _)
 have hall:((List.map O.frz ((cs.filter fun c=>! AI c).map fun c=>bL (ch c))).isEmpty)=cs.all (fun c=>decide (48≤c∧c≤57)):=by
  rw [List.isEmpty_map,List.isEmpty_map]
  rw [Bool.eq_iff_iff,List.isEmpty_iff,List.filter_eq_nil_iff,List.all_eq_true]
  refine forall_congr' fun c=>forall_congr' fun _=>?_
  rw [CO]
  simp
 rw [h2,hall]
 cases cs.all (fun c=>decide (48≤c∧c≤57)) <;> rfl
theorem qa (hz:x.length≤100000):bS [.d (tD x)] = .ok (.d (.bl (d7 x))) [.d (tD x)]:=by
 have hd:(lK x).length≤100000:=by
  unfold lK
  split
  ·rw [List.length_drop]; omega
  ·exact hz
 have c1:bo (cQ []) kn [some (.d (tD x)),none,none] = .ok .nx [some (.d (tD x)),some (.d (tD (lK x))),none]:=a1 (s1:=none) (s2:=none) hz
 have c3:=b3 (s0:=some (.d (tD x))) hd
 have hio:∀ {y z:Option O},bp [.d (tD x)] [some (.d (tD x)),y,z]=some [.d (tD x)]:=fun {y z}=>rfl
 have hln:iw .len (tD (lK x))=some (.d (.int ((lK x).length:Int))):=FP (by omega)
 have hb:CK (lK x)=((decide (1≤(lK x).length)&&decide ((lK x).length≤40))&&(lK x).all fun c=>decide (48≤c∧c≤57)):=rfl
 refine(aI (by rfl) (by rfl)).trans ?_
 unfold d7
 rw [hb]
 by_cases q1:lK x = []
 ·rw [q1,decide_eq_false (by simp),Bool.false_and,Bool.false_and,Bool.false_and]
  rw [q1]at c1
  exact bQ eG rfl (af c1 (aL (Nq (by rw [tF xF,decide_eq_true rfl])))) hio
 ·have hl:1≤(lK x).length:=List.length_pos_iff.mpr q1
  have he:aB .eq (tD (lK x)) (.str "")=some false:=by rw [tF xF,decide_eq_false q1]
  rw [decide_eq_true hl,Bool.true_and]
  by_cases q2:(lK x).length≤40
  ·have c2:=MQ (s0:=some (.d (tD x))) (s2:=none) he hln (by rw [Ad,decide_eq_false (by omega)])
   rw [decide_eq_true q2,Bool.true_and]
   cases hall:(lK x).all fun c=>decide (48≤c∧c≤57)with
   | false =>
    rw [hall]at c3
    exact bQ eG rfl (af c1 (af c2 (aL c3))) hio
   | true =>
    rw [hall]at c3
    rw [Bool.true_and]
    by_cases q:x = [48]
    ·rw [decide_eq_true q,Bool.true_or]
     have c4:bo (cQ []) gV _=_:=MO (s1:=some (.d (tD (lK x)))) (s2:=none) (TD:=tD x) (by rw [tF pC,decide_eq_true q])
     exact bQ eG rfl (af c1 (af c2 (af c3 (aL c4)))) hio
    ·rw [decide_eq_false q,Bool.false_or]
     cases hc:lK x with
     | nil=>exact absurd hc q1
     | cons c r =>
      rw [hc]at hd c1 c2 c3
      have h3:aB .ne (tD [c]) (.str "0")=some (! decide ((c::r)[0]?=some 48)):=by
       rw [JA pC]
       refine congrArg some (congrArg _ (decide_eq_decide.mpr ?_))
       simp
      have c4:bo (cQ []) gV _=_:=MP (s2:=none) (TD:=tD x) (by rw [tF pC,decide_eq_false q]) (JB hd) h3
      exact bQ eG rfl (af c1 (af c2 (af c3 (aL c4)))) hio
  ·have c2:=MQ (s0:=some (.d (tD x))) (s2:=none) he hln (by rw [Ad,decide_eq_true (by omega)])
   rw [decide_eq_false q2,Bool.false_and,Bool.false_and]
   exact bQ eG rfl (af c1 (aL c2)) hio
end PV.K74
namespace PV.K74
open PySem L2 _root_.K74 PV.K1 PV.M1 PV.N1 PV.K72 PV.K71
variable {x y z w a b cs:List Nat}{TD PD BD E E1 E2 E3:D}{P:O}{N:Int}{ps:List (List Nat)}
theorem FU {i j:Int}:aB .ne (.int i) (.int j)=some (! decide (i=j)):=by
 have h:aB .ne (.int i) (.int j)=some (! D.eqd (.int i) (.int j)):=rfl
 rw [h,jX]
 rfl
def qm (ps:List (List Nat)):Bool:=match ps with
 | [w,a,b]=>dc (sT w)&&(d7 a&&d7 b)
 | _=>false
def JC (ps:List (List Nat)):List Nat:=ps.headD []
def kq:Option (List Nat)→D
 | none=>.non
 | some y=>tD y
def sG:Option (List Nat)→List Nat→Bool
 | none,_=>true
 | some y,w=>decide (y < w)
noncomputable abbrev ΦR:cU:=cQ [(2,a9),(486,cG)]
variable {s0 s1 s2:Option O}
theorem c1 (h1:qp .split [TD,.str " "]=some P) (h2:cy .split TD=some ()):bo ΦR mq [some (.d TD),s1,s2] = .ok .nx [some (.d TD),s1,some (P)]:=by
 simp_arith [mq,-cy]
 try simp_arith [h1,h2,-cy]
theorem Nt (hf:P.frz=PD) (hs:P.shal=P) (tk:∀ {i ρ},aj.taken P i ρ=ρ.set i none) (h1:iw .len PD=some (.d (.int N))) (h2:aB .ne (.int N) (.int 3)=some true):bo ΦR cf [s0,s1,some (P)] = .ok (.rt (.d (.bl false))) [s0,s1,some (P)]:=by
 simp_arith [cf,hf,hs,tk,-dY,-bg]
 try simp_arith [hf,hs,tk,h1,h2,-dY,-bg]
theorem Nu (hf:P.frz=PD) (hs:P.shal=P) (tk:∀ {i ρ},aj.taken P i ρ=ρ.set i none) (h1:iw .len PD=some (.d (.int 3))) (h2:aB .ne (.int 3) (.int 3)=some false) (x0:bU [PD,.int 0]=some (.d E1)) (i0:aJ P (.int 0) (.d E1)=P) (k0:a9 [.d E1] = .ok (.d (.bl false)) [.d E1]):bo ΦR cf [s0,s1,some (P)] = .ok (.rt (.d (.bl false))) [s0,s1,some (P)]:=by
 simp_arith [cf,hf,hs,tk,-dY,-bg]
 try simp_arith [hf,hs,tk,h1,h2,x0,i0,k0,-dY,-bg]
theorem Nv (hf:P.frz=PD) (hs:P.shal=P) (tk:∀ {i ρ},aj.taken P i ρ=ρ.set i none) (h1:iw .len PD=some (.d (.int 3))) (h2:aB .ne (.int 3) (.int 3)=some false) (x0:bU [PD,.int 0]=some (.d E1)) (i0:aJ P (.int 0) (.d E1)=P) (k0:a9 [.d E1] = .ok (.d (.bl true)) [.d E1])
  (x1:bU [PD,.int 1]=some (.d E2)) (i1:aJ P (.int 1) (.d E2)=P) (k1:cG [.d E2] = .ok (.d (.bl false)) [.d E2]):bo ΦR cf [s0,s1,some (P)] = .ok (.rt (.d (.bl false))) [s0,s1,some (P)]:=by
 simp_arith [cf,hf,hs,tk,-dY,-bg]
 try simp_arith [hf,hs,tk,h1,h2,x0,i0,k0,x1,i1,k1,-dY,-bg]
theorem Nw {b:Bool} (hf:P.frz=PD) (hs:P.shal=P) (tk:∀ {i ρ},aj.taken P i ρ=ρ.set i none) (h1:iw .len PD=some (.d (.int 3))) (h2:aB .ne (.int 3) (.int 3)=some false) (x0:bU [PD,.int 0]=some (.d E1)) (i0:aJ P (.int 0) (.d E1)=P) (k0:a9 [.d E1] = .ok (.d (.bl true)) [.d E1])
  (x1:bU [PD,.int 1]=some (.d E2)) (i1:aJ P (.int 1) (.d E2)=P) (k1:cG [.d E2] = .ok (.d (.bl true)) [.d E2])
  (x2:bU [PD,.int 2]=some (.d E3)) (i2:aJ P (.int 2) (.d E3)=P) (k2:cG [.d E3] = .ok (.d (.bl b)) [.d E3]):bo ΦR cf [s0,s1,some (P)] = .ok (if b then .nx else .rt (.d (.bl false))) [s0,s1,some (P)]:=by
 cases b with
 | true =>
  simp_arith [cf,hf,hs,tk,-dY,-bg]
  try simp_arith [hf,hs,tk,h1,h2,x0,i0,k0,x1,i1,k1,x2,i2,k2,-dY,-bg]
 | false =>
  simp_arith [cf,hf,hs,tk,-dY,-bg]
  try simp_arith [hf,hs,tk,h1,h2,x0,i0,k0,x1,i1,k1,x2,i2,k2,-dY,-bg]
theorem Nx:bo ΦR hU [s0,some (.d .non),s2] = .ok (.rt (.d (.bl true))) [s0,some (.d .non),s2]:=by
 have h:aB .is .non .non=some true:=rfl
 simp_arith [hU]
 try simp_arith [h]
theorem Ny {b:Bool} (hi:aB .is BD .non=some false) (hf:P.frz=PD) (hs:P.shal=P) (tk:∀ {i ρ},aj.taken P i ρ=ρ.set i none) (x0:bU [PD,.int 0]=some (.d E1)) (i0:aJ P (.int 0) (.d E1)=P) (h:aB .lt BD E1=some b):bo ΦR hU [s0,some (.d BD),some (P)] = .ok (.rt (.d (.bl b))) [s0,some (.d BD),some (P)]:=by
 simp_arith [hU,hf,tk]
 try simp_arith [hi,hf,hs,tk,x0,i0,h]
theorem LR (hz:w.length≤100000):a9 [.d (tD w)] = .ok (.d (.bl (dc (sT w)))) [.d (tD w)]:=iM (v:=tD w) (decide_eq_true (by rw [cq]; exact hz))
theorem JD (hz:w.length≤100000):cb [.d (tD w)] = .ok (.d (.bl (dc (sT w)))) [.d (tD w)]:=AH (v:=tD w) (decide_eq_true (by rw [cq]; exact hz))
theorem CS {o:Option (List Nat)} (hz:x.length≤100000):eB [.d (tD x),.d (kq o)] = .ok (.d (.bl (qm (bj 32 x)&&sG o (JC (bj 32 x))))) [.d (tD x),.d (kq o)]:=by
 have hno:=lg (d:=32) (l:=x)
 have hsp:=AJ (x:=x) (d:=32) (w:=Str.ofString " ") (by decide +kernel) (by omega)
 have d1:=c1 (s1:=some (.d (kq o))) (s2:=none) hsp rfl
 have hio:∀ {y:Option O},bp [.d (tD x),.d (kq o)] [some (.d (tD x)),some (.d (kq o)),y]=some [.d (tD x),.d (kq o)]:=fun {y}=>rfl
 have hlen:iw .len (.lst ((bj 32 x).map tD))=some (.d (.int ((bj 32 x).length:Int))):=by rw [bg,List.length_map]
 have tk:∀ {i ρ},aj.taken (bE (bj 32 x)) i ρ=ρ.set i none:=fun {i ρ}=>gI
 refine(aI (by rfl) (by rfl)).trans ?_
 generalize bj 32 x=ps at hno d1 hlen tk ⊢
 by_cases q:ps.length=3
 ·match ps,q with
  | [w,a,b],_ =>
   have hw:=(hno w (by simp)).2.1
   have ha:=(hno a (by simp)).2.1
   have hb:=(hno b (by simp)).2.1
   have x0:bU [.lst ([w,a,b].map tD),.int 0]=some (.d (tD w)):=rfl
   have x1:bU [.lst ([w,a,b].map tD),.int 1]=some (.d (tD a)):=rfl
   have x2:bU [.lst ([w,a,b].map tD),.int 2]=some (.d (tD b)):=rfl
   have n3:aB .ne (.int 3) (.int 3)=some false:=rfl
   have k0:=LR (w:=w) (by omega)
   have k1:=uH (x:=a) (by omega)
   have k2:=uH (x:=b) (by omega)
   have hr:qm [w,a,b]=(dc (sT w)&&(d7 a&&d7 b)):=rfl
   rw [hr]
   cases h0:dc (sT w)with
   | false =>
    rw [h0]at k0
    exact bQ iL rfl (af d1 (aL (Nu aE eX tk hlen n3 x0 fL k0))) hio
   | true =>
    rw [h0]at k0
    cases h1:d7 a with
    | false =>
     rw [h1]at k1
     exact bQ iL rfl (af d1 (aL (Nv aE eX tk hlen n3 x0 fL k0 x1 fL k1))) hio
    | true =>
     rw [h1]at k1
     have d2:=Nw (s0:=some (.d (tD x))) (s1:=some (.d (kq o))) aE eX tk hlen n3 x0 fL k0 x1 fL k1 x2 fL k2
     cases h2:d7 b with
     | false =>
      rw [h2]at d2
      exact bQ iL rfl (af d1 (aL d2)) hio
     | true =>
      rw [h2]at d2
      cases o with
      | none=>exact bQ iL rfl (af d1 (af d2 (aL Nx))) hio
      | some y =>
       have hlt:aB .lt (tD y) (tD w)=some (decide (y < w)):=rfl
       exact bQ iL rfl (af d1 (af d2 (aL (Ny rfl aE eX tk x0 fL hlt)))) hio
 ·have hr:qm ps=false:=by
   unfold qm
   split
   ·simp at q
   ·rfl
  rw [hr,Bool.false_and]
  exact bQ iL rfl (af d1 (aL (Nt aE eX tk hlen (by rw [FU,decide_eq_false (by omega)]; rfl)))) hio
end PV.K74
namespace PV.RN
section
variable {α:Type} [DecidableEq α]
def LU (P:List (α×α)) (L:List α) (x:α):Bool:=!(P.any fun p=>decide (x=p.1)&&decide (p.2∈L))
def Nz (P:List (α×α)) (L:List α):List α:=L.filter (LU P L)
def MN (P:List (α×α)) (L:List α):List α:=L.filter fun x=>! decide (x∈Nz P L)
def at_ (L:List α) (lv:α→Nat) (k:Nat):List α:=L.filter fun x=>decide (lv x=k)
end
end PV.RN
namespace PV.RN
section
variable {α:Type} [DecidableEq α]
structure St (α:Type) where
 ks:List α
 a:α→List α
 ln:List α
end
end PV.RN
namespace PV.RN
open PySem L2 PL PM _root_.K61 _root_.K62 K1 M1 N1 Q1
section
variable {α:Type} [DecidableEq α] {enc:α→D}
def nR (enc:α→D) (L:List α):O:=.lst (L.map fun x=>.d (enc x))
theorem gW {L:List α}:(nR enc L).frz = .lst (L.map enc):=by
 unfold nR
 rw [O.frz,bM,List.map_map]
 exact congrArg D.lst (List.map_congr_left fun x _=>gY)
theorem jw {L:List α}:(nR enc L).shal=nR enc L:=by
 unfold nR
 rw [O.shal,List.map_map]
 exact congrArg O.lst (List.map_congr_left fun x _=>congrArg O.d gY)
end
end PV.RN
namespace PV.K61
open PySem L2 PL PM _root_.K61 K1 M1 N1
def MR (l:List (Str×(Int×Int))):Prop:=l.length≤2∧(l.map (·.1)).Nodup∧∀ p∈l,dc p.1=true
end PV.K61
namespace PV.K61
open PySem L2 PL PM _root_.K61 K1 M1 N1 Q1
structure World (m:Nat) (f:F) (od nw:Ent→Int) (l1 l2:List (Str×(Int×Int))):Prop where
 ok:Nf f
 sz:f.size≤m
 od:(f.walk.map od).Pairwise (· < ·)
 nw:(f.walk.map nw).Pairwise (· < ·)
 e1:MR l1
 e2:MR l2
end PV.K61
namespace PV.K61
open PySem L2 PL PM _root_.K61 K1 M1 N1 Q1
theorem ne_self {v:D} (h:D.okd 150 v=true):aB .ne v v=some false:=by
 rw [dY,show nC v v=true by unfold nC; rw [h]; rfl,if_pos rfl,xy 150 v h]
 rfl
theorem zM {n:Nat}{ks vs:List D}:D.okd n (.dic ks vs)=false:=by cases n <;> simp [D.okd]
theorem CT {n:Nat}{p:Int×Int}:D.okn (n+1) (pairD p)=true:=by
 cases n <;> simp [pairD,D.okn]
theorem vQ {n:Nat}{ks:List Str}{h:Str→Int×Int} (nd:ks.Nodup):D.okn (n+2) (br ks h)=true:=by
 unfold br
 rw [D.okn,ki]
 dsimp only
 rw [show decide ((ks.map Sum.inr:List Key).Nodup)=true from decide_eq_true (List.Pairwise.map _ (fun a b h z=>h (Sum.inr.inj z)) nd)]
 rw [show decide ((ks.map D.str).length=(ks.map fun k=>pairD (h k)).length)=true from decide_eq_true (by rw [List.length_map,List.length_map])]
 simp only [Bool.true_and]
 refine List.all_eq_true.mpr fun x hx=>?_
 obtain⟨k,_,rfl⟩:=List.mem_map.mp hx
 exact CT
end PV.K61
namespace PV.RN
open PySem L2 PL PM K1 M1 N1 Q1 K61 K62
structure FV {α:Type} (enc:α→D):Prop where
 kind:∀ (a:α) (L:List α),aZ (enc a) (L.map enc)=true
 key:∀ a b:α,(keyOf (enc a)=keyOf (enc b)∧aA (enc a)=aA (enc b))↔a=b
 okk:∀ L:List α,L.Nodup→pj (L.map enc)=true
theorem HC:FV D.str:=⟨fun _ _=>kh,fun _ _=>kR,fun L nd=>by
 unfold pj
 rw [ki]
 exact decide_eq_true (List.Pairwise.map _ (fun a b h z=>h (Sum.inr.inj z)) nd)⟩
section
variable {α:Type}{enc:α→D}
def xP (enc:α→D) (w:List α) (g:α→D):O:=.dic (w.map enc) (w.map fun a=>.d (g a))
theorem EF (K:FV enc) {g:α→D}{e:α}:∀ {w:List α},e∈w→aW (enc e) (w.map enc) (w.map g)=some (g e)
 | [],h=>by cases h
 | y::ks,h=>by
  classical
  rw [List.map_cons,List.map_cons]
  show(if keyOf (enc y)=keyOf (enc e)∧aA (enc y)=aA (enc e)then some (g y)else aW (enc e) (ks.map enc) (ks.map g))=_
  by_cases c:y=e
  ·subst c
   rw [if_pos ((K.key _ _).mpr rfl)]
  ·rw [if_neg fun z=>c ((K.key _ _).mp z)]
   exact EF K ((List.mem_cons.mp h).resolve_left fun z=>c z.symm)
theorem yJ (K:FV enc) {g:α→D}{e:α}:∀ {w:List α},e∉w→aW (enc e) (w.map enc) (w.map g)=none
 | [],_=>rfl
 | y::ks,h=>by
  rw [List.map_cons,List.map_cons]
  show(if keyOf (enc y)=keyOf (enc e)∧aA (enc y)=aA (enc e)then some (g y)else aW (enc e) (ks.map enc) (ks.map g))=_
  rw [if_neg fun z=>h (by rw [(K.key _ _).mp z]; exact List.mem_cons_self)]
  exact yJ K fun z=>h (List.mem_cons_of_mem _ z)
theorem CU (K:FV enc) {e:α}:∀ {w:List α},e∈w→∃ n,dM (enc e) (w.map enc)=some n∧w[n]?=some e
 | [],h=>by cases h
 | y::ks,h=>by
  classical
  rw [List.map_cons]
  by_cases c:y=e
  ·subst c
   exact⟨0,by show(if _ then _ else _)=_; rw [if_pos ((K.key _ _).mpr rfl)],rfl⟩
  ·obtain⟨n,h1,h2⟩:=CU K ((List.mem_cons.mp h).resolve_left fun z=>c z.symm)
   refine⟨n+1,?_,by simpa using h2⟩
   show(if _ then _ else _)=_
   rw [if_neg fun z=>c ((K.key _ _).mp z),h1]
   rfl
theorem uI (K:FV enc) {e:α}:∀ {w:List α},e∉w→dM (enc e) (w.map enc)=none
 | [],_=>rfl
 | y::ks,h=>by
  rw [List.map_cons]
  show(if _ then _ else _)=_
  rw [if_neg fun z=>h (by rw [(K.key _ _).mp z]; exact List.mem_cons_self),uI K fun z=>h (List.mem_cons_of_mem _ z)]
  rfl
theorem LW [DecidableEq α] (K:FV enc) {w:List α}{g:α→D}{e:α}{v:D} (he:e∈w) (nd:w.Nodup) (hl:w.length < 10000):qR (xP enc w g) (enc e) (.d v)=some (xP enc w fun y=>if y=e then v else g y):=by
 have k1:decide ((w.map enc).length < sizeLine)=true:=decide_eq_true (by rw [List.length_map,PySem.sizeLine_eq]; omega)
 unfold xP
 show(if(aZ (enc e) (w.map enc)&&decide ((w.map enc).length < sizeLine))=true then some (O.dic (putD (enc e) (.d v) (w.map enc) (w.map fun e=>.d (g e))).1 (putD (enc e) (.d v) (w.map enc) (w.map fun e=>.d (g e))).2)else none)=_
 rw [K.kind,k1]
 rw [if_pos (by rfl)]
 congr 1
 unfold putD
 obtain⟨n,e1,e2⟩:=CU K he
 rw [e1]
 dsimp only
 congr 1
 have hn:n < w.length:=(List.getElem?_eq_some_iff.mp e2).1
 refine List.ext_getElem? fun i=>?_
 rw [List.getElem?_set,List.getElem?_map,List.getElem?_map]
 by_cases q:n=i
 ·subst q
  rw [if_pos rfl,if_pos (by rw [List.length_map]; exact hn),e2]
  simp
 ·rw [if_neg q]
  cases e3:w[i]? with
  | none=>rfl
  | some y =>
   have:y≠e:=fun z=>q (by
    subst z
    exact(List.getElem?_inj hn nd).mp (e2.trans e3.symm))
   simp [this]
theorem HD [DecidableEq α] (K:FV enc) {w:List α}{g:α→D}{e:α}{v:D} (he:e∉w) (hl:w.length < 10000):qR (xP enc w g) (enc e) (.d v)=some (xP enc (w++[e]) fun y=>if y=e then v else g y):=by
 have k1:decide ((w.map enc).length < sizeLine)=true:=decide_eq_true (by rw [List.length_map,PySem.sizeLine_eq]; omega)
 unfold xP
 show(if(aZ (enc e) (w.map enc)&&decide ((w.map enc).length < sizeLine))=true then some (O.dic (putD (enc e) (.d v) (w.map enc) (w.map fun e=>.d (g e))).1 (putD (enc e) (.d v) (w.map enc) (w.map fun e=>.d (g e))).2)else none)=_
 rw [K.kind,k1]
 rw [if_pos (by rfl)]
 congr 1
 unfold putD
 rw [uI K he]
 dsimp only
 rw [List.map_append,List.map_append]
 congr 2
 ·refine List.map_congr_left fun y hy=>?_
  rw [if_neg fun z=>he (by rw [← z]; exact hy)]
 ·simp
theorem CV {w:List α}{g:α→D}:ik (w.map fun e=>.tup [enc e,g e])=some (w.map enc,w.map g):=by
 induction w with
 | nil=>rfl
 | cons e t ih =>
  rw [List.map_cons,ik,ih]
  rfl
theorem FW (K:FV enc) {w:List α}{g:α→D} (nd:w.Nodup):jZ [.lst (w.map fun e=>.tup [enc e,g e])]=some (xP enc w g):=by
 show(match ik (w.map fun e=>.tup [enc e,g e])with | some (ks,vs)=>if pj ks then some (O.dic ks (vs.map .d))else none | none=>none)=_
 rw [CV]
 dsimp only
 rw [K.okk _ nd,if_pos rfl,List.map_map]
 rfl
end
end PV.RN
namespace PV.K68
open PySem L2 PL PM _root_.K68 K1 M1 N1 Q1 RN K61 K62
abbrev SP:Type:=Str×Str
end PV.K68
namespace PV.K68
open PySem L2 PL PM _root_.K68 K1 M1 N1 Q1 RN K61 K62
abbrev P1:cU:=cQ []
end PV.K68
namespace PV.K09
open PySem L2 PL PM PN _root_.K09 _root_.K61 K1 M1 N1 Q1 RN K61 K62 K68
abbrev NA:List Str:=["own_trees", "all_names", "all_ends"]
theorem NB:qe "own_trees" NA=some 0:=by decide +kernel
end PV.K09
namespace PV.K73
open PySem L2 PL PM PN _root_.K61 _root_.K09 PV.K1 PV.M1 PV.N1 PV.Q1 PV.RN PV.K61 PV.K62 PV.K68 PV.K09
theorem qG {Φ:cU}{s:SS}{ss:List SS}{ρ ρ':Env}{C:Nat}{q:List D} (h:bo Φ s ρ = .exc C q ρ'):bC Φ (s::ss) ρ = .exc C q ρ':=by
 rw [bC,h]
 rfl
end PV.K73
namespace PV.K73
open PySem L2 PL PM PN PV.K1 PV.M1 PV.N1 PV.K72 PV.K71
variable {L l r:List Nat}{a e:Nat}{x y z:List Nat}{TD PD R S:D}{P NM:O}{N:Int}
def bc (A:List (List Nat)) (z:List Nat):List (List Nat):=if z = []then A else A++[z]
end PV.K73
namespace PV.K74
open PySem L2 _root_.K74 PV.K1 PV.M1 PV.N1 PV.K72 PV.K71
open PV.K73 (bc)
variable {x y z w a b cs L:List Nat}{TD PD BD E E1 E2 E3 W LD:D}{P P2 F F2:O}{N M:Int}{ps:List (List Nat)}
variable {s0 s1:Option O}
noncomputable abbrev Φ0:cU:=cQ []
theorem NC (h:fQ [] [.str] [TD]=some (.d (.bl true))):bo Φ0 g9 [some (.d TD),s1] = .ok .nx [some (.d TD),s1]:=by
 simp_arith [g9,h]
theorem NF (h:qp .split [TD,.str "\n"]=some P) (h2:cy .split TD=some ()):bo Φ0 jH [some (.d TD),s1] = .ok .nx [some (.d TD),some (P)]:=by
 simp_arith [jH,-cy]
 try simp_arith [h,h2,-cy]
theorem NG (hf:P.frz=PD) (tk:∀ {i ρ},aj.taken P i ρ=ρ.set i none) (h1:bU [PD,.int (-1)]=some (.d W)) (hix:aJ P (.int (-1)) (.d W)=P) (h2:aB .eq W (.str "")=some true) (h3:Bb .pop P []=some (.d W,P2)) (h4:qg .pop P=some ()) (tk2:∀ {i ρ},aj.taken P2 i ρ=ρ.set i none):bo Φ0 fk [s0,some (P)] = .ok (.rt (.d (.tup [P2.frz,.bl true]))) [s0,some (.d P2.frz)]:=by
 simp_arith [fk,hf,tk,-bD,-qg]
 try simp_arith [hf,tk,h1,hix,h2,h3,h4,tk2,-bD,-qg]
theorem LX (hf:P.frz=PD) (tk:∀ {i ρ},aj.taken P i ρ=ρ.set i none) (h1:bU [PD,.int (-1)]=some (.d W)) (hix:aJ P (.int (-1)) (.d W)=P) (h2:aB .eq W (.str "")=some false):bo Φ0 fk [s0,some (P)] = .ok .nx [s0,some (P)]:=by
 simp_arith [fk,hf,tk,-bD,-qg]
 try simp_arith [hf,tk,h1,hix,h2,-bD,-qg]
theorem NH (hf:P.frz=PD):bo Φ0 jI [s0,some (P)] = .ok (.rt (.d (.tup [PD,.bl false]))) [s0,some (.d PD)]:=by
 simp_arith [jI,hf]
theorem CW (hz:L.length≤100000):qp .split [tD L,.str "\n"]=some (bE (bj 10 L)):=AJ (x:=L) (d:=10) (w:=Str.ofString "\n") (by decide +kernel) (by omega)
theorem CY {A:List (List Nat)} (hz:L.length≤100000) (hc:bj 10 L=A++[z]):b5 [.d (tD L)] = .ok (.d (.tup [.lst ((bc A z).map tD),.bl (decide (z = []))])) [.d (tD L)]:=by
 have hio:∀ {x1:Option O},bp [.d (tD L)] [some (.d (tD L)),x1]=some [.d (tD L)]:=fun {_}=>rfl
 have h4:fQ [] [.str] [tD L]=some (.d (.bl true)):=rfl
 have h5:=CW hz
 rw [hc]at h5
 have d1:=NC (s1:=none) h4
 have d2:=NF (s1:=none) h5 rfl
 have he:=tF (x:=z) xF
 refine(aI (by rfl) (by rfl)).trans ?_
 unfold bc
 by_cases q:z = []
 ·rw [if_pos q]
  rw [decide_eq_true q]at he ⊢
  have d3:=NG (s0:=some (.d (tD L))) (P:=bE (A++[z])) (P2:=bE A) aE (fun {i ρ}=>gI) (vH (A:=A) (x:=z)) fL he Hw rfl (fun {i ρ}=>gI)
  rw [aE]at d3
  exact bQ mn rfl (af d1 (af d2 (aL d3))) hio
 ·rw [if_neg q]
  rw [decide_eq_false q]at he ⊢
  have d3:=LX (s0:=some (.d (tD L))) (P:=bE (A++[z])) aE (fun {i ρ}=>gI) (vH (A:=A) (x:=z)) fL he
  have d4:=NH (s0:=some (.d (tD L))) (P:=bE (A++[z])) aE
  exact bQ mn rfl (af d1 (af d2 (af d3 (aL d4)))) hio
theorem AK (h:fQ [] [.str] [TD]=some (.d (.bl false))):b5 [.d TD] = .exc 14 [.int 0] [.d TD]:=by
 refine(aI (by rfl) (by rfl)).trans ?_
 rw [mn]
 simp_arith [g9]
 try simp_arith [h,qX,xT]
variable {s2 s3 s4 s5 s6 s7 s8:Option O}
noncomputable abbrev ΦT:cU:=cQ [(482,b5),(487,eB)]
theorem NI (h:eB [.d TD,.d BD] = .ok (.d (.bl true)) [.d TD,.d BD]):bo ΦT cu [s0,s1,s2,s3,some (.d BD),s5,some (.d TD),s7,s8] = .ok .nx [s0,s1,s2,s3,some (.d BD),s5,some (.d TD),s7,s8]:=by
 simp_arith [cu]
 try simp_arith [h]
theorem NJ (h:eB [.d TD,.d BD] = .ok (.d (.bl false)) [.d TD,.d BD]):bo ΦT cu [s0,s1,s2,s3,some (.d BD),some (.d (.int N)),some (.d TD),s7,s8] = .exc 14 [.int N] [s0,s1,s2,s3,some (.d BD),some (.d (.int N)),some (.d TD),s7,s8]:=by
 simp_arith [cu]
 try simp_arith [h,qX,xT]
theorem e2 (h1:qp .split [TD,.str " "]=some (.lst [.d E1,.d E2,.d E3])) (h2:cy .split TD=some ()):bo ΦT fB [s0,s1,s2,s3,s4,s5,some (.d TD),s7,s8] = .ok .nx [s0,s1,s2,s3,some (.d E1),s5,some (.d TD),some (.d E2),some (.d E3)]:=by
 have e:ev ΦT (.mt .split (.var 6) [.lit (.str " ")]) [s0,s1,s2,s3,s4,s5,some (.d TD),s7,s8] = .ok (.lst [.d E1,.d E2,.d E3]) [s0,s1,s2,s3,s4,s5,some (.d TD),s7,s8]:=by
  simp_arith [-cy]
  try simp_arith [h1,h2,-cy]
 have u:yl ΦT [.nm 4,.nm 7,.nm 8] (.mt .split (.var 6) [.lit (.str " ")]) [s0,s1,s2,s3,s4,s5,some (.d TD),s7,s8]=some [s0,s1,s2,s3,some (.d E1),s5,some (.d TD),some (.d E2),some (.d E3)]:=by
  unfold yl
  rw [e]
  rfl
 unfold fB
 rw [bo,u]
 rfl
theorem e3 (h1:fg [E1]=some (.d (.int N))) (h2:fg [E2]=some (.d (.int M))) (hs:qR F W (.d (.tup [.int N,.int M]))=some F2):bo ΦT fC [s0,s1,s2,some (F),some (.d W),s5,s6,some (.d E1),some (.d E2)] = .ok .nx [s0,s1,s2,some (F2),some (.d W),s5,s6,some (.d E1),some (.d E2)]:=by
 simp_arith [fC]
 try simp_arith [h1,h2,hs]
end PV.K74
namespace PV.K74
open PySem L2 _root_.K74 PV.K1 PV.M1 PV.N1 PV.K72 PV.K71
open PV.K73 (bc)
open PV.RN (xP)
variable {x y z w a b cs L:List Nat}{TD PD BD E E1 E2 E3 W LD:D}{P P2 F F2:O}{N M:Int}{ps rs xs:List (List Nat)}{o:Option (List Nat)}
def lh (x:List Nat):List Nat:=JC (bj 32 x)
def hY (x:List Nat):Str:=sT (lh x)
def LY (ps:List (List Nat)):D:=match ps with
 | [w,a,b]=>.tup [.int (valN a),.int (valN b)]
 | _=>.non
def rV (x:List Nat):D:=LY (bj 32 x)
def AS (o:Option (List Nat)) (x:List Nat):Bool:=qm (bj 32 x)&&sG o (lh x)
def cK (o:Option (List Nat)):List (List Nat)→Option Nat
 | []=>none
 | x::xs=>if AS o x then(cK (some (lh x)) xs).map (· + 1)else some 0
def zN (o:Option (List Nat)):List (List Nat)→Option (List Nat)
 | []=>o
 | x::xs=>zN (some (lh x)) xs
def FX (rs:List (List Nat)):List D:=rs.map fun x=>.str (hY x)
def lD (rs:List (List Nat)):O:=.dic (FX rs) (rs.map fun x=>.d (rV x))
def JE (rs:List (List Nat)):D:=.dic (FX rs) (rs.map rV)
theorem FY (nd:(rs.map hY).Nodup):∃ g:Str→D,(∀ x∈rs,g (hY x)=rV x)∧lD rs=xP D.str (rs.map hY) g:=by
 haveI:Inhabited D:=⟨.non⟩
 obtain⟨g,hg⟩:=PV.Q1.vJ (β:=D) (ns:=rs.map rV) nd (by rw [List.length_map,List.length_map])
 have h1:∀ x∈rs,g (hY x)=rV x:=by
  intro x hx
  rw [List.map_map]at hg
  exact List.map_inj_left.mp hg x hx
 refine⟨g,h1,?_⟩
 unfold lD xP FX
 rw [List.map_map,List.map_map]
 congr 1
 refine List.map_congr_left fun x hx=>?_
 show O.d (rV x)=O.d (g (hY x))
 rw [h1 x hx]
theorem HE (nd:(rs.map hY).Nodup) (hx:hY x∉rs.map hY) (hl:rs.length < 10000):qR (lD rs) (.str (hY x)) (.d (rV x))=some (lD (rs++[x])):=by
 obtain⟨g,h1,h2⟩:=FY nd
 rw [h2,PV.RN.HD PV.RN.HC hx (by rw [List.length_map]; exact hl)]
 unfold lD xP FX
 rw [List.map_append,List.map_append,List.map_map,List.map_map,List.map_append]
 congr 2
 rw [List.map_append]
 congr 1
 ·refine List.map_congr_left fun y hy=>?_
  show O.d (if hY y=hY x then rV x else g (hY y))=O.d (rV y)
  rw [if_neg fun q=>hx (by rw [← q]; exact List.mem_map.mpr ⟨y,hy,rfl⟩),h1 y hy]
 ·show [O.d (if hY x=hY x then rV x else g (hY x))] = [O.d (rV x)]
  rw [if_pos rfl]
def Kn (o:Option (List Nat)) (rs:List (List Nat)):Prop:=(rs.map hY).Nodup∧match o with
 | none=>rs = []
 | some y=>∀ r∈rs,lh r=y∨lh r < y
theorem zO (h:Kn o rs) (hb:sG o (lh x)=true):hY x∉rs.map hY∧Kn (some (lh x)) (rs++[x]):=by
 have key:∀ r∈rs,lh r < lh x:=by
  cases o with
  | none =>
   intro r hr
   rw [h.2]at hr
   cases hr
  | some y =>
   intro r hr
   have h1:y < lh x:=of_decide_eq_true hb
   rcases h.2 r hr with q | q
   ·rw [q]
    exact h1
   ·exact List.lt_trans q h1
 have hn:hY x∉rs.map hY:=fun m=>by
  obtain⟨r,hr,e⟩:=List.mem_map.mp m
  have:=key r hr
  rw [vG e]at this
  exact List.lt_irrefl _ this
 refine⟨hn,?_,?_⟩
 ·rw [List.map_append,List.nodup_append]
  refine⟨h.1,by simp,fun a ha b hb=>?_⟩
  have hb:b=hY x:=by simpa using hb
  rw [hb]
  exact fun q=>hn (by rw [← q]; exact ha)
 ·intro r hr
  rcases List.mem_append.mp hr with hr | hr
  ·exact .inr (key r hr)
  ·exact .inl (by rw [List.mem_singleton.mp hr])
theorem sH (h:AS o x=true):∃ w a b,bj 32 x = [w,a,b]∧dc (sT w)=true∧d7 a=true∧d7 b=true∧lh x=w∧sG o w=true:=by
 unfold AS at h
 rw [Bool.and_eq_true]at h
 obtain⟨h1,h2⟩:=h
 unfold lh at h2 ⊢
 generalize bj 32 x=ps at h1 h2 ⊢
 unfold qm at h1
 split at h1
 ·rename_i w a b
  rw [Bool.and_eq_true,Bool.and_eq_true]at h1
  exact⟨w,a,b,rfl,h1.1,h1.2.1,h1.2.2,rfl,h2⟩
 ·cases h1
theorem zP (h:d7 a=true):fg [tD a]=some (.d (.int (valN a))):=by
 obtain⟨h1,h2⟩:=zI h
 show(if(sT a).length≤640 then(PySem.intText? (sT a)).map fun n=>O.d (.int n)else none)=_
 rw [cq,if_pos (by omega),h1]
 rfl
variable {s0 s1 s2 s3 s4 s5 s6 s7 s8:Option O}
theorem EG (hz:x.length≤100000) (ha:Kn o rs) (hl:rs.length < 10000) (h:AS o x=true) {j:Nat}:∃ t7 t8:Option O,(bnd (aH (.tp [.nm 5,.nm 6]) (.tup [.int (j:Int),tD x]) [s0,s1,s2,some (lD rs),some (.d (kq o)),s5,s6,s7,s8]) fun ρ=>bC ΦT bK ρ) = .ok .nx [s0,s1,s2,some (lD (rs++[x])),some (.d (kq (some (lh x)))),some (.d (.int (j:Int))),some (.d (tD x)),t7,t8]:=by
 obtain⟨w,a,b,e,_,na,nb,hw,hb⟩:=sH h
 have hrow:=CS (o:=o) hz
 rw [show(qm (bj 32 x)&&sG o (JC (bj 32 x)))=true from h]at hrow
 obtain⟨hn,_⟩:=zO ha (x:=x) (by rw [hw]; exact hb)
 have hs:=HE ha.1 hn hl
 have hsp:=AJ (x:=x) (d:=32) (w:=Str.ofString " ") (by decide +kernel) (by omega)
 rw [e]at hsp
 have hr:rV x = .tup [.int (valN a),.int (valN b)]:=by
  unfold rV
  rw [e]
  rfl
 have hk:D.str (hY x)=tD w:=by
  unfold hY
  rw [hw]
 rw [hr,hk]at hs
 have d1:=NI (s0:=s0) (s1:=s1) (s2:=s2) (s3:=some (lD rs)) (s5:=some (.d (.int (j:Int)))) (s7:=s7) (s8:=s8) hrow
 have d2:=e2 (s0:=s0) (s1:=s1) (s2:=s2) (s3:=some (lD rs)) (s4:=some (.d (kq o))) (s5:=some (.d (.int (j:Int)))) (s7:=s7) (s8:=s8) hsp rfl
 have d3:=e3 (s0:=s0) (s1:=s1) (s2:=s2) (s5:=some (.d (.int (j:Int)))) (s6:=some (.d (tD x))) (zP na) (zP nb) hs
 refine⟨some (.d (tD a)),some (.d (tD b)),?_⟩
 rw [kl,hw]
 exact af d1 (af d2 (af d3 (PV.Q1.oS (Φ:=ΦT))))
theorem HF (hz:x.length≤100000) (h:AS o x=false) {j:Nat}:(bnd (aH (.tp [.nm 5,.nm 6]) (.tup [.int (j:Int),tD x]) [s0,s1,s2,some (lD rs),some (.d (kq o)),s5,s6,s7,s8]) fun ρ=>bC ΦT bK ρ) = .exc 14 [.int (j:Int)] [s0,s1,s2,some (lD rs),some (.d (kq o)),some (.d (.int (j:Int))),some (.d (tD x)),s7,s8]:=by
 have hrow:=CS (o:=o) hz
 rw [show(qm (bj 32 x)&&sG o (JC (bj 32 x)))=false from h]at hrow
 have d1:=NJ (s0:=s0) (s1:=s1) (s2:=s2) (s3:=some (lD rs)) (s7:=s7) (s8:=s8) (N:=(j:Int)) hrow
 rw [kl]
 exact PV.K73.qG d1
theorem zQ:∀ (xs rs:List (List Nat)) (o:Option (List Nat)) (j:Nat) (s5 s6 s7 s8:Option O),(∀ x∈xs,x.length≤100000)→Kn o rs→rs.length+xs.length < 10000 →
  match cK o xs with
  | none=>∃ t5 t6 t7 t8:Option O,forL (fun x ρ=>bnd (aH (.tp [.nm 5,.nm 6]) x ρ) fun ρ=>bC ΦT bK ρ) (fE j (xs.map tD)) [s0,s1,s2,some (lD rs),some (.d (kq o)),s5,s6,s7,s8] = .ok .nx [s0,s1,s2,some (lD (rs++xs)),some (.d (kq (zN o xs))),t5,t6,t7,t8]
  | some k=>∃ t3 t4 t5 t6 t7 t8:Option O,forL (fun x ρ=>bnd (aH (.tp [.nm 5,.nm 6]) x ρ) fun ρ=>bC ΦT bK ρ) (fE j (xs.map tD)) [s0,s1,s2,some (lD rs),some (.d (kq o)),s5,s6,s7,s8] = .exc 14 [.int ((j+k:Nat):Int)] [s0,s1,s2,t3,t4,t5,t6,t7,t8]
 | [],rs,o,j,s5,s6,s7,s8,_,_,_=>by
  refine⟨s5,s6,s7,s8,?_⟩
  rw [List.append_nil]
  rfl
 | x::xs,rs,o,j,s5,s6,s7,s8,hz,ha,hl=>by
  rw [List.length_cons]at hl
  have hzx:=hz x List.mem_cons_self
  cases q:AS o x with
  | false =>
   have hb:cK o (x::xs)=some 0:=by
    unfold cK
    rw [q]
    rfl
   rw [hb]
   refine⟨some (lD rs),some (.d (kq o)),some (.d (.int (j:Int))),some (.d (tD x)),s7,s8,?_⟩
   rw [List.map_cons,fE,forL,HF hzx q]
   rfl
  | true =>
   have hb:cK o (x::xs)=(cK (some (lh x)) xs).map (· + 1):=by
    rw [cK,q]
    rfl
   obtain⟨w,a,b,e,_,na,nb,hw,hbf⟩:=sH q
   obtain⟨_,ha2⟩:=zO ha (x:=x) (by rw [hw]; exact hbf)
   obtain⟨t7,t8,e1⟩:=EG (s0:=s0) (s1:=s1) (s2:=s2) (s5:=s5) (s6:=s6) (s7:=s7) (s8:=s8) hzx ha (by omega) q (j:=j)
   have ih:=zQ xs (rs++[x]) (some (lh x)) (j+1) (some (.d (.int (j:Int)))) (some (.d (tD x))) t7 t8 (fun y hy=>hz y (List.mem_cons_of_mem _ hy)) ha2 (by rw [List.length_append]; simp; omega)
   rw [hb]
   cases hk:cK (some (lh x)) xs with
   | none =>
    rw [hk]at ih
    obtain⟨u5,u6,u7,u8,e2⟩:=ih
    refine⟨u5,u6,u7,u8,?_⟩
    rw [List.map_cons,fE,forL,e1]
    rw [List.append_assoc]at e2
    exact e2
   | some k =>
    rw [hk]at ih
    obtain⟨u3,u4,u5,u6,u7,u8,e2⟩:=ih
    refine⟨u3,u4,u5,u6,u7,u8,?_⟩
    rw [List.map_cons,fE,forL,e1]
    rw [show j+1+k=j+(k+1)by omega]at e2
    exact e2
end PV.K74
namespace PV.K74
open PySem L2 _root_.K74 PV.K1 PV.M1 PV.N1 PV.K72 PV.K71
open PV.K73 (bc)
variable {x y z w a b cs L:List Nat}{TD PD BD E E1 E2 E3 W LD:D}{P P2 F F2 o1:O}{N M:Int}{ps rs xs A:List (List Nat)}{o:Option (List Nat)}{XS:List D}
variable {s0 s1 s2 s3 s4 s5 s6 s7 s8:Option O}
theorem f1 {b:Bool} (h:b5 [.d TD] = .ok (.d (.tup [PD,.bl b])) [.d TD]):bo ΦT dN [some (.d TD),s1,s2,s3,s4,s5,s6,s7,s8] = .ok .nx [some (.d TD),some (.d PD),some (.d (.bl b)),s3,s4,s5,s6,s7,s8]:=by
 simp_arith [dN,h]
theorem NK (h:b5 [.d TD] = .exc 14 [.int N] [.d TD]):bo ΦT dN [some (.d TD),s1,s2,s3,s4,s5,s6,s7,s8] = .exc 14 [.int N] [some (.d TD),s1,s2,s3,s4,s5,s6,s7,s8]:=by
 simp_arith [dN,h]
theorem f2:bo ΦT iq [s0,s1,s2,s3,s4,s5,s6,s7,s8] = .ok .nx [s0,s1,s2,some (lD []),some (.d (kq none)),s5,s6,s7,s8]:=by
 have h:lD [] = .dic [] []:=rfl
 have h2:kq none = .non:=rfl
 rw [h,h2]
 simp_arith [iq,PV.qT,keysOf]
theorem f3 {t3 t4 t5 t6 t7 t8:Option O} (he:forL (fun x ρ=>bnd (aH (.tp [.nm 5,.nm 6]) x ρ) fun ρ=>bC ΦT bK ρ) (fE 0 XS) [s0,some (.d (.lst XS)),s2,s3,s4,s5,s6,s7,s8] = .ok .nx [s0,some (.d (.lst XS)),s2,t3,t4,t5,t6,t7,t8]):bo ΦT dO [s0,some (.d (.lst XS)),s2,s3,s4,s5,s6,s7,s8] = .ok .nx [s0,some (.d (.lst XS)),s2,t3,t4,t5,t6,t7,t8]:=by
 have hw:DC (.lst XS)=some XS:=rfl
 simp_arith [dO]
 try simp_arith [hw,he]
theorem NL {t3 t4 t5 t6 t7 t8:Option O} (he:forL (fun x ρ=>bnd (aH (.tp [.nm 5,.nm 6]) x ρ) fun ρ=>bC ΦT bK ρ) (fE 0 XS) [s0,some (.d (.lst XS)),s2,s3,s4,s5,s6,s7,s8] = .exc 14 [.int N] [s0,some (.d (.lst XS)),s2,t3,t4,t5,t6,t7,t8]):bo ΦT dO [s0,some (.d (.lst XS)),s2,s3,s4,s5,s6,s7,s8] = .exc 14 [.int N] [s0,some (.d (.lst XS)),s2,t3,t4,t5,t6,t7,t8]:=by
 have hw:DC (.lst XS)=some XS:=rfl
 simp_arith [dO]
 try simp_arith [hw,he]
theorem NN:bo ΦT dP [s0,s1,some (.d (.bl true)),s3,s4,s5,s6,s7,s8] = .ok .nx [s0,s1,some (.d (.bl true)),s3,s4,s5,s6,s7,s8]:=by
 simp_arith [dP]
theorem NO (h1:iw .len PD=some (.d (.int N))):bo ΦT dP [s0,some (.d PD),some (.d (.bl false)),s3,s4,s5,s6,s7,s8] = .exc 14 [.int (N - 1)] [s0,some (.d PD),some (.d (.bl false)),s3,s4,s5,s6,s7,s8]:=by
 simp_arith [dP]
 try simp_arith [h1,qX,xT]
theorem f5 (hk:∀ {ρ:Env},aj.taken o1 3 ρ=ρ.set 3 none):∃ t3,bo ΦT ir [s0,s1,s2,some (o1),s4,s5,s6,s7,s8] = .ok (.rt o1) [s0,s1,s2,t3,s4,s5,s6,s7,s8]:=by
 refine⟨none,?_⟩
 simp_arith [ir,hk]
def FZ (A:List (List Nat)) (z:List Nat):O ⊕ Int:=match cK none (bc A z)with
 | some k=>.inr (k:Int)
 | none=>if z = []then .inl (lD (bc A z))else .inr (((bc A z).length:Int) - 1)
theorem sJ (hz:L.length≤100000) (hn:(bc A z).length≤9000) (hc:bj 10 L=A++[z]):aS [.d (tD L)]=match FZ A z with
  | .inl o=>.ok o [.d (tD L)]
  | .inr k=>.exc 14 [.int k] [.d (tD L)]:=by
 have hno:=lg (d:=10) (l:=L)
 rw [hc]at hno
 have hmem:∀ x∈bc A z,x∈A++[z]:=fun x hx=>by
  unfold bc at hx
  split at hx
  ·exact List.mem_append_left _ hx
  ·exact hx
 have hl:=CY (by omega) hc
 have hio:∀ {x1 x2 x3 x4 x5 x6 x7 x8:Option O},bp [.d (tD L)] [some (.d (tD L)),x1,x2,x3,x4,x5,x6,x7,x8]=some [.d (tD L)]:=fun {_ _ _ _ _ _ _ _}=>rfl
 have d1:=f1 (s1:=none) (s2:=none) (s3:=none) (s4:=none) (s5:=none) (s6:=none) (s7:=none) (s8:=none) hl
 have d2:=f2 (s0:=some (.d (tD L))) (s1:=some (.d (.lst ((bc A z).map tD)))) (s2:=some (.d (.bl (decide (z = []))))) (s3:=none) (s4:=none) (s5:=none) (s6:=none) (s7:=none) (s8:=none)
 have hlp:=zQ (s0:=some (.d (tD L))) (s1:=some (.d (.lst ((bc A z).map tD)))) (s2:=some (.d (.bl (decide (z = []))))) (bc A z) [] none 0 none none none none (fun x hx=>Nat.le_trans (hno x (hmem x hx)).2.1 (by omega)) ⟨List.nodup_nil,rfl⟩ (by simp; omega)
 refine(aI (by rfl) (by rfl)).trans ?_
 unfold FZ
 cases hb:cK none (bc A z)with
 | some k =>
  rw [hb]at hlp
  obtain⟨t3,t4,t5,t6,t7,t8,e⟩:=hlp
  rw [Nat.zero_add]at e
  exact yE hG rfl (af d1 (af d2 (PV.K73.qG (NL e)))) hio
 | none =>
  rw [hb]at hlp
  obtain⟨t5,t6,t7,t8,e⟩:=hlp
  rw [List.nil_append]at e
  have d3:=f3 e
  by_cases q:z = []
  ·dsimp only
   rw [if_pos q]
   rw [decide_eq_true q]at d1 d2 d3
   obtain⟨t3,d5⟩:=f5 (o1:=lD (bc A z)) (s0:=some (.d (tD L))) (s1:=some (.d (.lst ((bc A z).map tD)))) (s2:=some (.d (.bl true))) (s4:=some (.d (kq (zN none (bc A z))))) (s5:=t5) (s6:=t6) (s7:=t7) (s8:=t8) (fun {ρ}=>rfl)
   exact bQ hG rfl (af d1 (af d2 (af d3 (af NN (aL d5))))) hio
  ·dsimp only
   rw [if_neg q]
   rw [decide_eq_false q]at d1 d2 d3
   have d4:=NO (s0:=some (.d (tD L))) (s3:=some (lD (bc A z))) (s4:=some (.d (kq (zN none (bc A z))))) (s5:=t5) (s6:=t6) (s7:=t7) (s8:=t8) (PD:=.lst ((bc A z).map tD)) (N:=((bc A z).length:Int)) (by rw [bg,List.length_map])
   exact yE hG rfl (af d1 (af d2 (af d3 (PV.K73.qG d4)))) hio
theorem CZ (h:fQ [] [.str] [TD]=some (.d (.bl false))):aS [.d TD] = .exc 14 [.int 0] [.d TD]:=by
 have d1:=NK (s1:=none) (s2:=none) (s3:=none) (s4:=none) (s5:=none) (s6:=none) (s7:=none) (s8:=none) (AK h)
 exact(aI (by rfl) (by rfl)).trans (yE hG rfl (PV.K73.qG d1) (by rfl))
end PV.K74
namespace PV.K74
open PySem L2 _root_.K74 PV.K1 PV.M1 PV.N1 PV.K72 PV.K71
open PV.K73 (bc)
variable {x y z w a b cs L:List Nat}{TD PD BD E E1 E2 E3 W LD:D}{P P2 Q F F2 o1:O}{N M:Int}{ps rs xs A:List (List Nat)}{o:Option (List Nat)}{XS:List D}
noncomputable abbrev ΦG:cU:=cQ [(201,cb),(490,bS)]
def qo:Option (List Nat)→List Nat
 | none=>[]
 | some y=>y
theorem HG (h:dc (sT w)=true):aB .le (tD w) (tD (qo o))=some (! sG o w):=by
 have e:aB .le (tD w) (tD (qo o))=some (! decide (qo o < w)):=rfl
 rw [e]
 cases o with
 | none =>
  have h1:=(ke h).lo
  rw [cq]at h1
  have:([]:List Nat) < w:=by
   cases w with
   | nil=>simp at h1
   | cons c r=>exact List.nil_lt_cons ..
  show some (! decide (([]:List Nat) < w))=_
  rw [decide_eq_true this]
  rfl
 | some y=>rfl
variable {s0 s1 s2 s3 s4 s5:Option O}
theorem g1 (hf:P.frz=PD) (hs:P.shal=P) (tk:∀ {i ρ},aj.taken P i ρ=ρ.set i none) (x0:bU [PD,.int N]=some (.d TD)) (i0:aJ P (.int N) (.d TD)=P) (h1:qp .split [TD,.str " "]=some Q) (h2:cy .split TD=some ()):bo ΦG bu [s0,some (P),s2,s3,some (.d (.int N)),s5] = .ok .nx [s0,some (P),s2,s3,some (.d (.int N)),some (Q)]:=by
 simp_arith [bu,hf,hs,tk,-cy]
 try simp_arith [hf,hs,tk,x0,i0,h1,h2,-cy]
theorem NP (hf:P.frz=PD) (hs:P.shal=P) (tk:∀ {i ρ},aj.taken P i ρ=ρ.set i none) (h1:iw .len PD=some (.d (.int M))) (h2:aB .ne (.int M) (.int 3)=some true):bo ΦG aO [s0,s1,s2,s3,some (.d (.int N)),some (P)] = .ok (.rt (.d (.int N))) [s0,s1,s2,s3,none,some (P)]:=by
 simp_arith [aO,hf,hs,tk,-dY,-bg]
 try simp_arith [hf,hs,tk,h1,h2,-dY,-bg]
theorem NQ (hf:P.frz=PD) (hs:P.shal=P) (tk:∀ {i ρ},aj.taken P i ρ=ρ.set i none) (h1:iw .len PD=some (.d (.int 3))) (h2:aB .ne (.int 3) (.int 3)=some false) (x0:bU [PD,.int 0]=some (.d E1)) (i0:aJ P (.int 0) (.d E1)=P) (k0:cb [.d E1] = .ok (.d (.bl false)) [.d E1]):bo ΦG aO [s0,s1,s2,s3,some (.d (.int N)),some (P)] = .ok (.rt (.d (.int N))) [s0,s1,s2,s3,none,some (P)]:=by
 simp_arith [aO,hf,hs,tk,-dY,-bg]
 try simp_arith [hf,hs,tk,h1,h2,x0,i0,k0,-dY,-bg]
theorem NR (hf:P.frz=PD) (hs:P.shal=P) (tk:∀ {i ρ},aj.taken P i ρ=ρ.set i none) (h1:iw .len PD=some (.d (.int 3))) (h2:aB .ne (.int 3) (.int 3)=some false) (x0:bU [PD,.int 0]=some (.d E1)) (i0:aJ P (.int 0) (.d E1)=P) (k0:cb [.d E1] = .ok (.d (.bl true)) [.d E1]) (hle:aB .le E1 BD=some true):bo ΦG aO [s0,s1,some (.d BD),s3,some (.d (.int N)),some (P)] = .ok (.rt (.d (.int N))) [s0,s1,some (.d BD),s3,none,some (P)]:=by
 simp_arith [aO,hf,hs,tk,-dY,-bg,-lY]
 try simp_arith [hf,hs,tk,h1,h2,x0,i0,k0,hle,-dY,-bg,-lY]
theorem NS (hf:P.frz=PD) (hs:P.shal=P) (tk:∀ {i ρ},aj.taken P i ρ=ρ.set i none) (h1:iw .len PD=some (.d (.int 3))) (h2:aB .ne (.int 3) (.int 3)=some false) (x0:bU [PD,.int 0]=some (.d E1)) (i0:aJ P (.int 0) (.d E1)=P) (k0:cb [.d E1] = .ok (.d (.bl true)) [.d E1]) (hle:aB .le E1 BD=some false):bo ΦG aO [s0,s1,some (.d BD),s3,some (.d (.int N)),some (P)] = .ok .nx [s0,s1,some (.d BD),s3,some (.d (.int N)),some (P)]:=by
 simp_arith [aO,hf,hs,tk,-dY,-bg,-lY]
 try simp_arith [hf,hs,tk,h1,h2,x0,i0,k0,hle,-dY,-bg,-lY]
theorem NT (hf:P.frz=PD) (hs:P.shal=P) (tk:∀ {i ρ},aj.taken P i ρ=ρ.set i none) (x1:bU [PD,.int 1]=some (.d E2)) (i1:aJ P (.int 1) (.d E2)=P) (k1:bS [.d E2] = .ok (.d (.bl false)) [.d E2]):bo ΦG bw [s0,s1,s2,s3,some (.d (.int N)),some (P)] = .ok (.rt (.d (.int N))) [s0,s1,s2,s3,none,some (P)]:=by
 simp_arith [bw,hf,hs,tk]
 try simp_arith [hf,hs,tk,x1,i1,k1]
theorem NU {b:Bool} (hf:P.frz=PD) (hs:P.shal=P) (tk:∀ {i ρ},aj.taken P i ρ=ρ.set i none) (x1:bU [PD,.int 1]=some (.d E2)) (i1:aJ P (.int 1) (.d E2)=P) (k1:bS [.d E2] = .ok (.d (.bl true)) [.d E2]) (x2:bU [PD,.int 2]=some (.d E3)) (i2:aJ P (.int 2) (.d E3)=P) (k2:bS [.d E3] = .ok (.d (.bl b)) [.d E3]):bo ΦG bw [s0,s1,s2,s3,some (.d (.int N)),some (P)]=(if b then .ok .nx [s0,s1,s2,s3,some (.d (.int N)),some (P)]else .ok (.rt (.d (.int N))) [s0,s1,s2,s3,none,some (P)]):=by
 cases b with
 | true =>
  simp_arith [bw,hf,hs,tk]
  try simp_arith [hf,hs,tk,x1,i1,k1,x2,i2,k2]
 | false =>
  simp_arith [bw,hf,hs,tk]
  try simp_arith [hf,hs,tk,x1,i1,k1,x2,i2,k2]
theorem g4 (hf:P.frz=PD) (tk:∀ {i ρ},aj.taken P i ρ=ρ.set i none) (x0:bU [PD,.int 0]=some (.d E1)) (i0:aJ P (.int 0) (.d E1)=P):bo ΦG eH [s0,s1,s2,s3,s4,some (P)] = .ok .nx [s0,s1,some (.d E1),s3,s4,some (P)]:=by
 simp_arith [eH,hf,tk]
 try simp_arith [hf,tk,x0,i0]
end PV.K74
namespace PV.K73
open PySem L2 PL PM PN _root_.K73 PV.K1 PV.M1 PV.N1 PV.K72 PV.K71
variable {L l r:List Nat}{a e:Nat}{x y z:List Nat}{TD PD R S W:D}{P P2 Q NM:O}{N M:Int}{LD TL XS:List D}
theorem C1 {A:List (List Nat)}:ig [.lst ((A++[z]).map tD),.non,.int (-1)]=some (bE A):=by
 have h:cutD ((A++[z]).map tD) none (some (-1))=A.map tD:=by
  unfold cutD
  have h1:HT.sIx ((A++[z]).map tD).length ((A++[z]).map tD).length (some (-1))=A.length:=by
   rw [List.length_map,List.length_append]
   show(if(-1:Int) < 0 then((-1:Int)+((A.length+1:Nat):Int)).toNat else min (-1:Int).toNat (A.length+1))=_
   rw [if_pos (by omega)]
   omega
  rw [h1,HT.sIx_none,Nat.sub_zero,List.drop_zero,List.map_append]
  rw [List.take_left' (by rw [List.length_map])]
 show some (O.lst ((cutD ((A++[z]).map tD) none (some (-1))).map .d))=_
 rw [h]
 unfold bE
 rw [List.map_map]
 rfl
theorem zR {n:Nat}:∀ {xs:List D},(∀ x∈xs,D.okd n x=true)→D.okdL n xs=true
 | [],_=>by rw [D.okdL]
 | x::xs,h=>by
  rw [D.okdL,h x List.mem_cons_self,zR fun y hy=>h y (List.mem_cons_of_mem _ hy)]
  rfl
end PV.K73
namespace PV.K74
open PySem L2 _root_.K74 PV.K1 PV.M1 PV.N1 PV.K72 PV.K71
open PV.K73 (bc)
variable {x y z w a b cs L:List Nat}{TD PD BD E E1 E2 E3 W LD:D}{P P2 Q F F2 o1:O}{N M:Int}{ps rs xs A LS:List (List Nat)}{o:Option (List Nat)}{XS:List D}
variable {s0 s1 s2 s3 s4 s5:Option O}
inductive LF (LS:List (List Nat)):O→Prop
 | o:LF LS (bE LS)
 | d:LF LS (.d (.lst (LS.map tD)))
theorem NV (x0:bU [PD,.int N]=some (.d TD)) (i0:aJ (.d PD) (.int N) (.d TD) = .d PD) (h1:qp .split [TD,.str " "]=some Q) (h2:cy .split TD=some ()):bo ΦG bu [s0,some (.d PD),s2,s3,some (.d (.int N)),s5] = .ok .nx [s0,some (.d PD),s2,s3,some (.d (.int N)),some (Q)]:=by
 simp_arith [bu,-cy]
 try simp_arith [x0,i0,h1,h2,-cy]
theorem NW (hP:LF LS P) {j:Nat} (hx:LS[j]?=some x) (hz:x.length≤100000):bo ΦG bu [s0,some (P),s2,s3,some (.d (.int (j:Int))),s5] = .ok .nx [s0,some (P),s2,s3,some (.d (.int (j:Int))),some (bE (bj 32 x))]:=by
 have hix:bU [.lst (LS.map tD),.int (j:Int)]=some (.d (tD x)):=by
  rw [I7,oP,atI_nat (j:=j) (v:=x) hx]
  rfl
 have hsp:=AJ (x:=x) (d:=32) (w:=Str.ofString " ") (by decide +kernel) (by omega)
 cases hP with
 | o=>exact g1 aE eX (fun {i ρ}=>gI) hix fL hsp rfl
 | d=>exact NV hix rfl hsp rfl
theorem EH (hP:LF LS P) {j:Nat} (hx:LS[j]?=some x) (hz:x.length≤100000):∃ t2 t5:Option O,(bnd (aH (.nm 4) (.int (j:Int)) [s0,some (P),some (.d (tD (qo o))),s3,s4,s5]) fun ρ=>bC ΦG bX ρ) =
  if AS o x then .ok .nx [s0,some (P),some (.d (tD (qo (some (lh x))))),s3,some (.d (.int (j:Int))),t5]else .ok (.rt (.d (.int (j:Int)))) [s0,some (P),t2,s3,none,t5]:=by
 have hno:=lg (d:=32) (l:=x)
 have d1:=NW (s0:=s0) (s2:=some (.d (tD (qo o)))) (s3:=s3) (s5:=s5) hP hx hz
 have hlen:iw .len (.lst ((bj 32 x).map tD))=some (.d (.int ((bj 32 x).length:Int))):=by rw [bg,List.length_map]
 have tk:∀ {i ρ},aj.taken (bE (bj 32 x)) i ρ=ρ.set i none:=fun {i ρ}=>gI
 unfold AS lh
 rw [dR,cX,nQ]
 generalize bj 32 x=ps at hno d1 hlen tk ⊢
 by_cases q:ps.length=3
 ·match ps,q with
  | [w,a,b],_ =>
   have hw:=(hno w (by simp)).2.1
   have ha:=(hno a (by simp)).2.1
   have hb:=(hno b (by simp)).2.1
   have x0:bU [.lst ([w,a,b].map tD),.int 0]=some (.d (tD w)):=rfl
   have x1:bU [.lst ([w,a,b].map tD),.int 1]=some (.d (tD a)):=rfl
   have x2:bU [.lst ([w,a,b].map tD),.int 2]=some (.d (tD b)):=rfl
   have n3:aB .ne (.int 3) (.int 3)=some false:=rfl
   have k0:=JD (w:=w) (by omega)
   have k1:=qa (x:=a) (by omega)
   have k2:=qa (x:=b) (by omega)
   have hr:qm [w,a,b]=(dc (sT w)&&(d7 a&&d7 b)):=rfl
   have hh:JC [w,a,b]=w:=rfl
   rw [hr,hh]
   refine⟨some (.d (tD (qo o))),some (bE [w,a,b]),?_⟩
   cases h0:dc (sT w)with
   | false =>
    rw [h0]at k0
    exact af d1 (aL (NQ aE eX tk hlen n3 x0 fL k0))
   | true =>
    rw [h0]at k0
    have hle:=HG (o:=o) h0
    cases hbf:sG o w with
    | false =>
     rw [hbf]at hle
     rw [Bool.and_false]
     exact af d1 (aL (NR aE eX tk hlen n3 x0 fL k0 hle))
    | true =>
     rw [hbf]at hle
     rw [Bool.and_true,Bool.true_and]
     have d2:=NS (s0:=s0) (s1:=some P) (s3:=s3) (N:=(j:Int)) aE eX tk hlen n3 x0 fL k0 hle
     cases h1:d7 a with
     | false =>
      rw [h1]at k1
      exact af d1 (af d2 (aL (NT aE eX tk x1 fL k1)))
     | true =>
      rw [h1]at k1
      have d3:=NU (s0:=s0) (s1:=some P) (s2:=some (.d (tD (qo o)))) (s3:=s3) (N:=(j:Int)) aE eX tk x1 fL k1 x2 fL k2
      cases h2:d7 b with
      | false =>
       rw [h2]at d3
       exact af d1 (af d2 (aL d3))
      | true =>
       rw [h2]at d3
       have d4:=g4 (s0:=s0) (s1:=some P) (s2:=some (.d (tD (qo o)))) (s3:=s3) (s4:=some (.d (.int (j:Int)))) aE tk x0 fL
       exact af d1 (af d2 (af d3 (af d4 (PV.Q1.oS (Φ:=ΦG)))))
 ·have hr:qm ps=false:=by
   unfold qm
   split
   ·simp at q
   ·rfl
  rw [hr,Bool.false_and]
  refine⟨some (.d (tD (qo o))),some (bE ps),?_⟩
  exact af d1 (aL (NP aE eX tk hlen (by rw [FU,decide_eq_false (by omega)]; rfl)))
theorem vR (hP:LF LS P) (hz:∀ x∈LS,x.length≤100000):∀ (xs A:List (List Nat)) (o:Option (List Nat)) (s4 s5:Option O),LS=A++xs →
  ∃ t2 t4 t5:Option O,forL (fun x ρ=>bnd (aH (.nm 4) x ρ) fun ρ=>bC ΦG bX ρ) (bB (A.length:Int) xs.length) [s0,some (P),some (.d (tD (qo o))),s3,s4,s5]=(match cK o xs with
   | none=>.ok .nx [s0,some (P),t2,s3,t4,t5]
   | some k=>.ok (.rt (.d (.int ((A.length+k:Nat):Int)))) [s0,some (P),t2,s3,t4,t5])
 | [],A,o,s4,s5,h=>⟨_,s4,s5,rfl⟩
 | x::xs,A,o,s4,s5,h=>by
  have hx:LS[A.length]?=some x:=by rw [h]; simp
  have hxm:x∈LS:=by rw [h]; simp
  obtain⟨t2,t5,e⟩:=EH (s0:=s0) (s3:=s3) (s4:=s4) (s5:=s5) (o:=o) hP hx (hz x hxm)
  rw [List.length_cons,pZ,forL]
  cases q:AS o x with
  | false =>
   rw [q]at e
   have hb:cK o (x::xs)=some 0:=by
    unfold cK
    rw [q]
    rfl
   rw [hb]
   refine⟨t2,none,t5,?_⟩
   rw [e]
   rfl
  | true =>
   rw [q]at e
   have hb:cK o (x::xs)=(cK (some (lh x)) xs).map (· + 1):=by
    rw [cK,q]
    rfl
   obtain⟨u2,u4,u5,e2⟩:=vR hP hz xs (A++[x]) (some (lh x)) (some (.d (.int (A.length:Int)))) t5 (by rw [h,List.append_assoc]; rfl)
   refine⟨u2,u4,u5,?_⟩
   rw [hb,e]
   rw [List.length_append]at e2
   cases hk:cK (some (lh x)) xs with
   | none =>
    rw [hk]at e2
    exact e2
   | some k =>
    rw [hk]at e2
    dsimp only at e2
    rw [show A.length+[x].length+k=A.length+(k+1)by simp; omega]at e2
    exact e2
theorem NX {os:List O} (h1:qp .split [TD,.str "\n"]=some (.lst os)) (h2:cy .split TD=some ()):bo ΦG gx [some (.d TD),s1,s2,s3,s4,s5] = .ok .nx [some (.d TD),some (.lst os),some (.d (.str "")),s3,s4,s5]:=by
 simp_arith [gx,-cy]
 try simp_arith [h1,h2,-cy]
theorem Kt {b:Bool} (hf:P.frz=PD) (tk:∀ {i ρ},aj.taken P i ρ=ρ.set i none) (h1:bU [PD,.int (-1)]=some (.d W)) (hix:aJ P (.int (-1)) (.d W)=P) (h2:aB .eq W (.str "")=some b):bo ΦG gy [s0,some (P),s2,s3,s4,s5] = .ok .nx [s0,some (P),s2,some (.d (.bl b)),s4,s5]:=by
 simp_arith [gy,hf,tk,-bD]
 try simp_arith [hf,tk,h1,hix,h2,-bD]
theorem NY (hf:P.frz=PD) (tk:∀ {i ρ},aj.taken P i ρ=ρ.set i none) (h1:ig [PD,.non,.int (-1)]=some P2):bo ΦG cH [s0,some (P),s2,some (.d (.bl true)),s4,s5] = .ok .nx [s0,some (P2),s2,some (.d (.bl true)),s4,s5]:=by
 simp_arith [cH,hf,tk,-fH]
 try simp_arith [hf,tk,h1,-fH]
theorem NZ (hf:P.frz=PD):bo ΦG cH [s0,some (P),s2,some (.d (.bl false)),s4,s5] = .ok .nx [s0,some (.d PD),s2,some (.d (.bl false)),s4,s5]:=by
 simp_arith [cH,hf]
theorem N0 {n:Nat}{r:Res Fl} (hf:P.frz=PD) (hs:P.shal=P) (tk:∀ {i ρ},aj.taken P i ρ=ρ.set i none) (h1:iw .len PD=some (.d (.int (n:Int)))) (hr:nE [.d (.int (n:Int))]=some (bB 0 n)) (hrr:r.mapE id=r) (he:forL (fun x ρ=>bnd (aH (.nm 4) x ρ) fun ρ=>bC ΦG bX ρ) (bB 0 n) [s0,some (P),s2,s3,s4,s5]=r):bo ΦG cI [s0,some (P),s2,s3,s4,s5]=r:=by
 simp only [dR,cX]at he
 simp_arith! [cI,hf,tk,-bg]
 try simp_arith! [hf,hs,tk,h1,hr,he,b7,-bg]
 try exact hrr
theorem N5 {n:Nat}{r:Res Fl} (h1:iw .len PD=some (.d (.int (n:Int)))) (hr:nE [.d (.int (n:Int))]=some (bB 0 n)) (hrr:r.mapE id=r) (he:forL (fun x ρ=>bnd (aH (.nm 4) x ρ) fun ρ=>bC ΦG bX ρ) (bB 0 n) [s0,some (.d PD),s2,s3,s4,s5]=r):bo ΦG cI [s0,some (.d PD),s2,s3,s4,s5]=r:=by
 simp only [dR,cX]at he
 simp_arith! [cI,-bg]
 try simp_arith! [h1,hr,he,b7,-bg]
 try exact hrr
theorem N6:bo ΦG cJ [s0,s1,s2,some (.d (.bl true)),s4,s5] = .ok (.rt (.d .non)) [s0,s1,s2,some (.d (.bl true)),s4,s5]:=by
 simp_arith [cJ]
theorem N7 (h1:iw .len PD=some (.d (.int N))):bo ΦG cJ [s0,some (.d PD),s2,some (.d (.bl false)),s4,s5] = .ok (.rt (.d (.int (N - 1)))) [s0,some (.d PD),s2,some (.d (.bl false)),s4,s5]:=by
 simp_arith [cJ,-bg]
 try simp_arith [h1,-bg]
def LZ (A:List (List Nat)) (z:List Nat):D:=match FZ A z with
 | .inl _=>.non
 | .inr k=>.int k
theorem HH:∃ os,bE LS = .lst os:=⟨_,rfl⟩
theorem yK (hz:L.length≤100000) (hn:(bc A z).length≤9000) (hc:bj 10 L=A++[z]):bV [.d (tD L)] = .ok (.d (LZ A z)) [.d (tD L)]:=by
 have hno:=lg (d:=10) (l:=L)
 rw [hc]at hno
 have hmem:∀ x∈bc A z,x∈A++[z]:=fun x hx=>by
  unfold bc at hx
  split at hx
  ·exact List.mem_append_left _ hx
  ·exact hx
 have hio:∀ {x1 x2 x3 x4 x5:Option O},bp [.d (tD L)] [some (.d (tD L)),x1,x2,x3,x4,x5]=some [.d (tD L)]:=fun {_ _ _ _ _}=>rfl
 have hsp:=CW hz
 rw [hc]at hsp
 obtain⟨os,ho⟩:=HH (LS:=A++[z])
 have d1:=NX (s1:=none) (s2:=none) (s3:=none) (s4:=none) (s5:=none) (TD:=tD L) (os:=os) (by rw [← ho]; exact hsp) rfl
 rw [← ho]at d1
 have d2:=Kt (s0:=some (.d (tD L))) (s2:=some (.d (.str ""))) (s3:=none) (s4:=none) (s5:=none) (P:=bE (A++[z])) aE (fun {i ρ}=>gI) (vH (A:=A) (x:=z)) fL (tF (x:=z) xF)
 have hb0:D.str "" = tD (qo none):=congrArg D.str xF.symm
 have hr:nE [.d (.int ((bc A z).length:Int))]=some (bB 0 (bc A z).length):=by
  show(if _ then some (bB 0 ((bc A z).length:Int).toNat)else none)=_
  rw [if_pos (by rw [PySem.sizeLine_eq]; omega)]
  rfl
 have hlen:iw .len (.lst ((bc A z).map tD))=some (.d (.int ((bc A z).length:Int))):=by rw [bg,List.length_map]
 have hzz:∀ x∈bc A z,x.length≤100000:=fun x hx=>Nat.le_trans (hno x (hmem x hx)).2.1 (by omega)
 refine(aI (by rfl) (by rfl)).trans ?_
 unfold LZ FZ
 by_cases q:z = []
 ·rw [decide_eq_true q]at d2
  have hls:bc A z=A:=if_pos q
  rw [hls]at hr hlen hzz ⊢
  have d3:=NY (s0:=some (.d (tD L))) (s2:=some (.d (.str ""))) (s4:=none) (s5:=none) (P:=bE (A++[z])) (P2:=bE A) aE (fun {i ρ}=>gI) PV.K73.C1
  obtain⟨t2,t4,t5,e⟩:=vR (s0:=some (.d (tD L))) (s3:=some (.d (.bl true))) (LS:=A) (P:=bE A) .o hzz A [] none none none rfl
  rw [← hb0]at e
  have d4:=N0 (s0:=some (.d (tD L))) (s2:=some (.d (.str ""))) (s3:=some (.d (.bl true))) (s4:=none) (s5:=none) (P:=bE A) aE eX (fun {i ρ}=>gI) hlen hr (by cases cK none A <;> rfl) e
  cases hb:cK none A with
  | some k =>
   rw [hb]at d4
   dsimp only at d4
   rw [List.length_nil,Nat.zero_add]at d4
   exact bQ ft rfl (af d1 (af d2 (af d3 (aL d4)))) hio
  | none =>
   rw [hb]at d4
   dsimp only at d4 ⊢
   rw [if_pos q]
   exact bQ ft rfl (af d1 (af d2 (af d3 (af d4 (aL N6))))) hio
 ·rw [decide_eq_false q]at d2
  have hls:bc A z=A++[z]:=if_neg q
  rw [hls]at hr hlen hzz ⊢
  have d3:=NZ (s0:=some (.d (tD L))) (s2:=some (.d (.str ""))) (s4:=none) (s5:=none) (P:=bE (A++[z])) aE
  obtain⟨t2,t4,t5,e⟩:=vR (s0:=some (.d (tD L))) (s3:=some (.d (.bl false))) (LS:=A++[z]) (P:=.d (.lst ((A++[z]).map tD))) .d hzz (A++[z]) [] none none none rfl
  rw [← hb0]at e
  have d4:=N5 (s0:=some (.d (tD L))) (s2:=some (.d (.str ""))) (s3:=some (.d (.bl false))) (s4:=none) (s5:=none) (PD:=.lst ((A++[z]).map tD)) hlen hr (by cases cK none (A++[z]) <;> rfl) e
  cases hb:cK none (A++[z])with
  | some k =>
   rw [hb]at d4
   dsimp only at d4
   rw [List.length_nil,Nat.zero_add]at d4
   exact bQ ft rfl (af d1 (af d2 (af d3 (aL d4)))) hio
  | none =>
   rw [hb]at d4
   dsimp only at d4 ⊢
   rw [if_neg q]
   exact bQ ft rfl (af d1 (af d2 (af d3 (af d4 (aL (N7 hlen)))))) hio
end PV.K74
namespace PV.K74
open PySem L2 _root_.K74 PV.K1 PV.M1 PV.N1 PV.K72 PV.K71
open PV.RN (nR gW jw)
open PV.K61 (pairD br cA hR iC sA CF cn)
variable {x y z w a b cs L:List Nat}{TD PD BD KD E E1 E2 E3 E4 E5 E6 W LD:D}{P P2 Q F F2 o1 v:O}{N M:Int}{XS:List D}{ks:List Str}{h:Str→Int×Int}
theorem EI (a b:Str):yi (.str a) (.str b)=h9 a b:=by
 have:=congrFun (congrFun (PySem.W.dataLe_str fun x:Str=>x) a) b
 exact this
theorem vS (ks:List Str):lI [.lst (ks.map .str)]=some (nR D.str (ks.mergeSort h9)):=by
 have hm:(ks.map D.str).mergeSort yi=(ks.mergeSort h9).map .str:=(PySem.W.sort_maps (r:=h9) (s:=yi) D.str (l:=ks) fun a _ b _=>(EI a b).symm).symm
 show(if D.okdL 100 (ks.map .str)&&(((ks.map D.str).all fun a=>(ks.map D.str).all fun b=>PySem.W.alike a.toP b.toP)&&pU (ks.map .str))then some (O.lst (((ks.map D.str).mergeSort yi).map .d))else none)=_
 have h1:((ks.map D.str).all fun a=>(ks.map D.str).all fun b=>PySem.W.alike a.toP b.toP)=true:=List.all_eq_true.mpr fun a ha=>List.all_eq_true.mpr fun b hb=>by
  obtain⟨x,_,rfl⟩:=List.mem_map.mp ha
  obtain⟨y,_,rfl⟩:=List.mem_map.mp hb
  rfl
 have h2:pU (ks.map .str)=true:=by
  unfold pU
  rw [Bool.or_eq_true]
  right
  refine List.all_eq_true.mpr fun a ha=>?_
  obtain⟨x,_,rfl⟩:=List.mem_map.mp ha
  rfl
 rw [iW,h1,h2]
 rw [if_pos (by rfl),hm]
 unfold nR
 rw [List.map_map]
 rfl
theorem xH (hz:(a++y).length≤100000):j5 [tD a,tD y]=some (.d (tD (a++y))):=by
 rw [List.length_append]at hz
 have e:sT a++sT y=sT (a++y):=by
  show(⟨a.toArray++y.toArray⟩:Str)=⟨(a++y).toArray⟩
  simp
 show(if(sT a++sT y).length≤sizeLine∧(sT y).length≤sizeLine then some (O.d (.str (sT a++sT y)))else none)=_
 rw [e,cq,cq,List.length_append,PySem.sizeLine_eq,if_pos ⟨by omega,by omega⟩]
theorem C2 {i:Int}:Str.ofString (toString i)=sT (nT i):=by
 show _=(⟨(Str.ofString (toString i)).cps.toList.toArray⟩:Str)
 simp
theorem C3 {n:Nat} (h:n < 10 ^ 40):n.log2 < 1920:=by
 by_cases q:n=0
 ·subst q
  decide
 ·rw [Nat.log2_lt q]
  exact Nat.lt_trans h (by decide +kernel)
theorem F0 {i:Int} (hi:i.natAbs < 10 ^ 40) (hz:(a++nT i).length≤100000):j5 [tD a,.int i]=some (.d (tD (a++nT i))):=by
 have h:=xH hz
 have h1:(if(sT a++sT (nT i)).length≤sizeLine∧(sT (nT i)).length≤sizeLine then some (O.d (.str (sT a++sT (nT i))))else none)=some (.d (tD (a++nT i))):=h
 show(if i.natAbs.log2 < 1920∧(sT a++Str.ofString (toString i)).length≤sizeLine then some (O.d (.str (sT a++Str.ofString (toString i))))else none)=_
 rw [C2]
 split at h1
 ·rename_i hc
  rw [if_pos ⟨C3 hi,hc.1⟩]
  exact h1
 ·cases h1
def zS (k:Str) (p:Int×Int):List Nat:=k.cps.toList++[32]++nT p.1++[32]++nT p.2++[10]
variable {s0 s1:Option O}
noncomputable abbrev ΦX:cU:=cQ [(221,aX)]
theorem L0 (h1:j5 [.str Str.empty,KD]=some (.d E1)) (h2:j5 [E1,.str " "]=some (.d E2)) (x0:bU [TD,KD]=some (.d PD)) (y0:bU [PD,.int 0]=some (.d (.int N))) (h3:j5 [E2,.int N]=some (.d E3)) (h4:j5 [E3,.str " "]=some (.d E4)) (y1:bU [PD,.int 1]=some (.d (.int M))) (h5:j5 [E4,.int M]=some (.d E5)) (h6:j5 [E5,.str "\n"]=some (.d E6)) :
  (bnd (aH (.nm 1) KD [some (.d TD),s1]) fun ρ=>(dW ΦX [] ρ).bind fun b ρ=>jR b ((ev ΦX b6 ρ).bind fun o ρ=>.ok (some o) (ar [1] ρ)) (.ok none (ar [1] ρ))) = .ok (some (.d E6)) [some (.d TD),none]:=by
 simp_arith [b6,yn]
 try simp_arith [h1,h2,x0,y0,h3,h4,y1,h5,h6]
theorem L4 {os:List O}{SO:O} (hk:f9 [0] 0 [v]=true) (tk:∀ {i ρ},aj.taken v i ρ=ρ.set i none) (hio:bp [v] [some (.d TD),none]=some [.d TD]) (hv:aX [v] = .ok (.d (.bl true)) [.d TD]) (hsr:iT [TD]=some SO) (hf:SO.frz = .lst XS) (hw:jP (.lst XS)=some XS)
  (he:bq (fun x ρ=>bnd (aH (.nm 1) x ρ) fun ρ=>(dW ΦX [] ρ).bind fun b ρ=>jR b ((ev ΦX b6 ρ).bind fun o ρ=>.ok (some o) (ar [1] ρ)) (.ok none (ar [1] ρ))) XS [some (.d TD),none] = .ok os [some (.d TD),none]) (hf2:D.lst (os.map O.frz)=E1) (hj:cy .join (.str "")=some ()) (h2:qp .join [.str "",E1]=some (.d E2)):aR [v] = .ok (.d E2) [.d TD]:=by
 refine(aI (by rfl) (by exact hk)).trans ?_
 rw [jG]
 simp_arith [fR]at he
 simp_arith [tk,-iS,-cy]
 try simp_arith [tk,hv,hsr,hf,he,hf2,hj,h2,hio,-iS,-cy]
theorem L5 {os:List O}{SO:O} (hv:aX [.d TD] = .ok (.d (.bl true)) [.d TD]) (hsr:iT [TD]=some SO) (hf:SO.frz = .lst XS) (hw:jP (.lst XS)=some XS)
  (he:bq (fun x ρ=>bnd (aH (.nm 1) x ρ) fun ρ=>(dW ΦX [] ρ).bind fun b ρ=>jR b ((ev ΦX b6 ρ).bind fun o ρ=>.ok (some o) (ar [1] ρ)) (.ok none (ar [1] ρ))) XS [some (.d TD),none] = .ok os [some (.d TD),none]) (hf2:D.lst (os.map O.frz)=E1) (hj:cy .join (.str "")=some ()) (h2:qp .join [.str "",E1]=some (.d E2)):aR [.d TD] = .ok (.d E2) [.d TD]:=by
 refine(aI (by rfl) (by rfl)).trans ?_
 rw [jG]
 simp_arith [fR]at he
 simp_arith [-iS,-cy]
 try simp_arith [hv,hsr,hf,he,hf2,hj,h2,-iS,-cy]
theorem L6 (hv:aX [.d TD] = .ok (.d (.bl false)) [.d TD]):aR [.d TD] = .exc 3 [] [.d TD]:=by
 refine(aI (by rfl) (by rfl)).trans ?_
 rw [jG]
 simp_arith [fR]
 try simp_arith [hv,qX,xT]
end PV.K74
namespace PV.K73
open PySem L2 PL PM PN _root_.K73 PV.K1 PV.M1 PV.N1 PV.K72 PV.K71
variable {L l r:List Nat}{a e:Nat}{x y z:List Nat}{TD PD R S W X E1 E2:D}{P P2 Q NM o:O}{N M:Int}{LD TL XS:List D}
theorem yL:∀ ps:List (List Nat),PySem.Str.join (Str.ofString "") (ps.map sT)=sT ps.flatten
 | []=>rfl
 | [x]=>by
  show sT x=sT (x++[])
  rw [List.append_nil]
 | x::y::r=>by
  have h:=yL (y::r)
  show sT x++Str.ofString "" ++ PySem.Str.join (Str.ofString "") ((y::r).map sT)=_
  rw [h]
  show(⟨(x.toArray ++ #[])++((y::r).flatten).toArray⟩:Str)=_
  congr 1
  rw [List.flatten_cons]
  simp
theorem C4 {k:Nat}:∀ {ps:List (List Nat)},(∀ p∈ps,p.length≤k)→((ps.map sT).map (·.length)).sum≤ps.length * k
 | [],_=>by simp
 | p::ps,h=>by
  have h1:=h p List.mem_cons_self
  have h2:=C4 (ps:=ps) fun q hq=>h q (List.mem_cons_of_mem _ hq)
  rw [List.map_cons,List.map_cons,List.sum_cons,cq,List.length_cons,Nat.add_mul]
  omega
theorem C5 {ps:List (List Nat)} (h1:ps.length≤400) (h2:∀ p∈ps,p.length≤10000):qp .join [.str "",.lst (ps.map tD)]=some (.d (tD ps.flatten)):=by
 rw [iS,vK]
 dsimp only
 have h3:=C4 h2
 have h4:ps.length * 10000≤400 * 10000:=Nat.mul_le_mul_right _ h1
 rw [show(Str.ofString "").length=0 from rfl,Nat.mul_zero,if_pos (by omega)]
 unfold Txt.join
 rw [StrLaws.glued_eq_join,yL]
end PV.K73
namespace PV.K74
open PySem L2 _root_.K74 PV.K1 PV.M1 PV.N1 PV.K72 PV.K71
open PV.RN (nR gW jw)
open PV.K61 (pairD br cA hR iC sA CF cn)
variable {v:O}{ks:List Str}{h:Str→Int×Int}
theorem L7:D.str Str.empty=tD []:=rfl
theorem EJ {k:Str}{p:Int×Int} (hk:dc k=true) (h1:p.1.natAbs < 10 ^ 40) (h2:p.2.natAbs < 10 ^ 40):(zS k p).length≤100:=by
 have a:=ml h1
 have b:=ml h2
 have c:k.cps.toList.length≤8:=(ke hk).hi
 unfold zS
 simp only [List.length_append,List.length_cons,List.length_nil]
 omega
theorem JF {k:Str} (hk:dc k=true) (h1:(h k).1.natAbs < 10 ^ 40) (h2:(h k).2.natAbs < 10 ^ 40) (hm:k∈ks) :
  (bnd (aH (.nm 1) (.str k) [some (.d (br ks h)),none]) fun ρ=>(dW ΦX [] ρ).bind fun b ρ=>jR b ((ev ΦX b6 ρ).bind fun o ρ=>.ok (some o) (ar [1] ρ)) (.ok none (ar [1] ρ))) = .ok (some (.d (tD (zS k (h k))))) [some (.d (br ks h)),none]:=by
 have a:=ml h1
 have b:=ml h2
 have c:k.cps.toList.length≤8:=(ke hk).hi
 have hkk:D.str k=tD k.cps.toList:=congrArg D.str p7
 have hsp:D.str " " = tD [32]:=congrArg D.str (show Str.ofString " " = sT [32]by decide +kernel)
 have hnl:D.str "\n" = tD [10]:=congrArg D.str (show Str.ofString "\n" = sT [10]by decide +kernel)
 have hx:bU [br ks h,.str k]=some (.d (pairD (h k))):=by
  show(if aZ (.str k) (ks.map .str)then(aW (.str k) (ks.map .str) (ks.map fun k=>pairD (h k))).map O.d else none)=_
  rw [kh,if_pos rfl,cn (α:=Unit) (g:=fun k=>pairD (h k)) hm]
  rfl
 have e1:j5 [.str Str.empty,.str k]=some (.d (tD k.cps.toList)):=by
  rw [L7,hkk,xH (by simp only [List.length_append,List.length_nil]; omega)]
  rfl
 have e2:j5 [tD k.cps.toList,.str " "]=some (.d (tD (k.cps.toList++[32]))):=by
  rw [hsp,xH (by simp only [List.length_append,List.length_cons,List.length_nil]; omega)]
 have e3:=F0 (a:=k.cps.toList++[32]) h1 (by simp only [List.length_append,List.length_cons,List.length_nil]; omega)
 have e4:j5 [tD (k.cps.toList++[32]++nT (h k).1),.str " "]=some (.d (tD (k.cps.toList++[32]++nT (h k).1++[32]))):=by
  rw [hsp,xH (by simp only [List.length_append,List.length_cons,List.length_nil]; omega)]
 have e5:=F0 (a:=k.cps.toList++[32]++nT (h k).1++[32]) h2 (by simp only [List.length_append,List.length_cons,List.length_nil]; omega)
 have e6:j5 [tD (k.cps.toList++[32]++nT (h k).1++[32]++nT (h k).2),.str "\n"]=some (.d (tD (zS k (h k)))):=by
  rw [hnl,xH (by simp only [List.length_append,List.length_cons,List.length_nil]; omega)]
  rfl
 exact L0 e1 e2 hx rfl e3 e4 rfl e5 e6
theorem nS (t:hR ks h v) (hk:∀ k∈ks,dc k=true) (hi:∀ k∈ks,(h k).1.natAbs < 10 ^ 40∧(h k).2.natAbs < 10 ^ 40) (hl:ks.length≤400):aR [v] = .ok (.d (tD ((ks.mergeSort h9).map fun k=>zS k (h k)).flatten)) [.d (br ks h)]:=by
 have hv:=CN t hk
 have hmem:∀ k∈ks.mergeSort h9,k∈ks:=fun k hk=>List.mem_mergeSort.mp hk
 have hsr:iT [br ks h]=some (nR D.str (ks.mergeSort h9)):=by
  show(if(keysOf (ks.map .str)).isSome||(au (ks.map .str)).isSome then lI [.lst (ks.map .str)]else none)=_
  rw [ki,vS]
  rfl
 have he:=comp_map (f:=fun x ρ=>bnd (aH (.nm 1) x ρ) fun ρ=>(dW ΦX [] ρ).bind fun b ρ=>jR b ((ev ΦX b6 ρ).bind fun o ρ=>.ok (some o) (ar [1] ρ)) (.ok none (ar [1] ρ))) (a:=D.str) (xs:=ks.mergeSort h9) (g:=fun k=>.d (tD (zS k (h k)))) (ρ:=[some (.d (br ks h)),none]) fun k hm=>JF (hk k (hmem k hm)) (hi k (hmem k hm)).1 (hi k (hmem k hm)).2 (hmem k hm)
 have hj:=PV.K73.C5 (ps:=(ks.mergeSort h9).map fun k=>zS k (h k)) (by rw [List.length_map,List.length_mergeSort]; exact hl) fun p hp=>by
  obtain⟨k,hm,rfl⟩:=List.mem_map.mp hp
  have:=EJ (hk k (hmem k hm)) (hi k (hmem k hm)).1 (hi k (hmem k hm)).2
  omega
 have hf2:D.lst (((ks.mergeSort h9).map fun k=>O.d (tD (zS k (h k)))).map O.frz) = .lst (((ks.mergeSort h9).map fun k=>zS k (h k)).map tD):=by
  rw [List.map_map,List.map_map]
  rfl
 cases t with
 | o=>exact L4 rfl (fun {i ρ}=>rfl) rfl hv hsr gW rfl he hf2 rfl hj
 | d=>exact L5 hv hsr gW rfl he hf2 rfl hj
end PV.K74
namespace PV.K74
open PySem L2 _root_.K74 PV.K1 PV.M1 PV.N1 PV.K72 PV.K71
variable {TD E1 E2 W:D}{v v' o F:O}{C:Nat}{q:List D}
theorem JG (hk:f9 [0,1] 0 [.d (.int 0),v]=true) (tk:∀ {i ρ},aj.taken v i ρ=ρ.set i none) (hio:∀ {x y:Option O},bp [v] [some (.d TD),x,y]=some [.d TD]) (h:aR [v] = .ok o [.d TD]):bP [.d (.int 0),v] = .ok o [.d (.int 0),.d TD]:=by
 have h0:aB .eq (.int 0) (.int 0)=some true:=rfl
 refine(aI (by rfl) (by exact hk)).trans ?_
 rw [kU]
 simp_arith [tk,-bD]
 try simp_arith [tk,h,h0,hio,-bD]
theorem JH (h:aR [.d TD] = .exc 3 [] [.d TD]):bP [.d (.int 0),.d TD] = .ok (.d (.exc 3 [])) [.d (.int 0),.d TD]:=by
 have h0:aB .eq (.int 0) (.int 0)=some true:=rfl
 refine(aI (by rfl) (by rfl)).trans ?_
 rw [kU]
 simp_arith [-bD]
 try simp_arith [h,h0,-bD]
theorem L8 (h:aS [.d TD] = .ok o [.d TD]) (tk:∀ {i ρ},aj.taken o i ρ=ρ.set i none):bP [.d (.int 1),.d TD] = .ok o [.d (.int 1),.d TD]:=by
 have h0:aB .eq (.int 1) (.int 0)=some false:=rfl
 refine(aI (by rfl) (by rfl)).trans ?_
 rw [kU]
 simp_arith [-bD]
 try simp_arith [h,h0,tk,-bD]
theorem F5 (h:aS [.d TD] = .exc 14 q [.d TD]):bP [.d (.int 1),.d TD] = .ok (.d (.exc 14 q)) [.d (.int 1),.d TD]:=by
 have h0:aB .eq (.int 1) (.int 0)=some false:=rfl
 refine(aI (by rfl) (by rfl)).trans ?_
 rw [kU]
 simp_arith [-bD]
 try simp_arith [h,h0,-bD]
open PV.RN (xP)
open PV.K61 (pairD br cA hR)
variable {PD BD XD:D}{P P2 Q:O}{N:Int}{os:List O}{XS:List D}
noncomputable abbrev ΦQ:cU:=cQ [(272,bP),(491,bV)]
variable {s0 s1 s2 s3 s4 s5:Option O}
theorem N8 (h1:bV [.d TD] = .ok (.d W) [.d TD]) (h2:bP [.d (.int 1),.d TD] = .ok (.d XD) [.d (.int 1),.d TD]):bo ΦQ gz [some (.d TD),s1,s2,s3,s4,s5] = .ok .nx [some (.d TD),some (.d W),some (.d XD),s3,s4,s5]:=by
 simp_arith [gz]
 try simp_arith [h1,h2]
theorem N9 {ks:List D}{vs:List O} (h1:bV [.d TD] = .ok (.d W) [.d TD]) (h2:bP [.d (.int 1),.d TD] = .ok (.dic ks vs) [.d (.int 1),.d TD]):bo ΦQ gz [some (.d TD),s1,s2,s3,s4,s5] = .ok .nx [some (.d TD),some (.d W),some (.dic ks vs),s3,s4,s5]:=by
 simp_arith [gz]
 try simp_arith [h1,h2]
theorem Oa (h0:fQ [0,3,14] [.cls 14] [XD]=some (.d (.bl true))) (h1:Dz 14 "line" [XD]=some (.d (.int N))) (h2:aB .eq (.int N) (.int N)=some true) (h3:aB .isnot (.int N) .non=some true):bo ΦQ gA [s0,some (.d (.int N)),some (.d XD),s3,s4,s5] = .ok (.rt (.d (.bl true))) [s0,some (.d (.int N)),some (.d XD),s3,s4,s5]:=by
 simp_arith [gA,-bD]
 try simp_arith [h0,h1,h2,h3,-bD]
theorem Ob (h3:aB .isnot .non .non=some false):bo ΦQ gA [s0,some (.d .non),s2,s3,s4,s5] = .ok .nx [s0,some (.d .non),s2,s3,s4,s5]:=by
 simp_arith [gA]
 try simp_arith [h3]
theorem Oc (h1:qp .split [XD,.str " "]=some Q) (h2:cy .split XD=some ()):(bnd (aH (.nm 5) XD [s0,s1,s2,s3,s4,s5]) fun ρ=>(dW ΦQ [] ρ).bind fun b ρ=>jR b ((ev ΦQ iD ρ).bind fun o ρ=>.ok (some o) (ar [5] ρ)) (.ok none (ar [5] ρ))) = .ok (some Q) [s0,s1,s2,s3,s4,none]:=by
 simp_arith [iD,-cy]
 try simp_arith [h1,h2,-cy]
theorem r3 (h1:qp .split [TD,.str "\n"]=some P) (h2:cy .split TD=some ()) (hf:P.frz=PD) (h3:ig [PD,.non,.int (-1)]=some P2) (hf2:P2.frz = .lst XS) (he:bq (fun x ρ=>bnd (aH (.nm 5) x ρ) fun ρ=>(dW ΦQ [] ρ).bind fun b ρ=>jR b ((ev ΦQ iD ρ).bind fun o ρ=>.ok (some o) (ar [5] ρ)) (.ok none (ar [5] ρ))) XS [some (.d TD),s1,s2,s3,s4,none] = .ok os [some (.d TD),s1,s2,s3,s4,none]):bo ΦQ kW [some (.d TD),s1,s2,s3,s4,none] = .ok .nx [some (.d TD),s1,s2,some (.lst os),s4,none]:=by
 simp_arith [-cy]at he
 simp_arith [kW,-cy,-fH]
 try simp_arith [h1,h2,hf,h3,hf2,he,-cy,-fH]
theorem Od {M:Int} (x0:bU [XD,.int 0]=some (.d E1)) (x1:bU [XD,.int 1]=some (.d E2)) (x2:bU [XD,.int 2]=some (.d W)) (h1:fg [E2]=some (.d (.int N))) (h2:fg [W]=some (.d (.int M))):(bnd (aH (.nm 5) XD [s0,s1,s2,s3,s4,s5]) fun ρ=>(dW ΦQ [] ρ).bind fun b ρ=>jR b ((ev ΦQ iE ρ).bind fun o ρ=>.ok (some o) (ar [5] ρ)) (.ok none (ar [5] ρ))) = .ok (some (.d (.tup [E1,.tup [.int N,.int M]]))) [s0,s1,s2,s3,s4,none]:=by
 simp_arith [iE]
 try simp_arith [x0,x1,x2,h1,h2]
theorem r4 (hf:P.frz = .lst XS) (hs:P.shal=P2) (tk:∀ {i ρ},aj.taken P i ρ=ρ.set i none) (he:bq (fun x ρ=>bnd (aH (.nm 5) x ρ) fun ρ=>(dW ΦQ [] ρ).bind fun b ρ=>jR b ((ev ΦQ iE ρ).bind fun o ρ=>.ok (some o) (ar [5] ρ)) (.ok none (ar [5] ρ))) XS [s0,s1,s2,none,s4,none] = .ok os [s0,s1,s2,none,s4,none]) (hf2:D.lst (os.map O.frz)=E1) (hd:jZ [E1]=some F):bo ΦQ kX [s0,s1,s2,some (P),s4,none] = .ok .nx [s0,s1,s2,some (P2),some (F),none]:=by
 simp_arith [fR]at he
 simp_arith [kX,hf,hs,tk]
 try simp_arith [hf,hs,tk,he,hf2,hd]
theorem r5 (hf:P.frz=PD) (hs:P.shal=P) (tk:∀ {i ρ},aj.taken P i ρ=ρ.set i none) (hf2:F.frz=PD) (hs2:F.shal=F) (tk2:∀ {i ρ},aj.taken F i ρ=ρ.set i none) (h0:fQ [0,3,14] [.dict] [PD]=some (.d (.bl true))) (h1:aB .eq PD PD=some true) (h2:bP [.d (.int 0),P] = .ok (.d TD) [.d (.int 0),.d PD]) (h3:aB .eq TD TD=some true):bo ΦQ kY [some (.d TD),s1,some (P),s3,some (F),s5] = .ok (.rt (.d (.bl true))) [some (.d TD),s1,some (.d PD),s3,some (F),s5]:=by
 simp_arith [kY,hf,hs,tk,hf2,hs2,tk2,-bD]
 try simp_arith [hf,hs,tk,hf2,hs2,tk2,h0,h1,h2,h3,-bD]
end PV.K74
namespace PV.K73
open PySem L2 PL PM PN _root_.K73 PV.K1 PV.M1 PV.N1 PV.K72 PV.K71
variable {L l r:List Nat}{a e:Nat}{x y z:List Nat}{TD PD R S W X Y E E1 E2 E3 E4:D}{P P1 P2 P3 P4 Q o o1 o2:O}{N M A B:Int}{LS:List (List Nat)}
theorem qH (ha:a≤LS.length):ig [.lst (LS.map tD),.non,.int (a:Int)]=some (bE (LS.take a)):=by
 have h:cutD (LS.map tD) none (some (a:Int))=(LS.take a).map tD:=by
  unfold cutD
  rw [List.length_map,HT.sIx_nat,HT.sIx_none,Nat.min_eq_left ha,Nat.sub_zero,List.drop_zero,List.map_take]
 show some (O.lst ((cutD (LS.map tD) none (some (a:Int))).map .d))=_
 rw [h]
 unfold bE
 rw [List.map_map]
 rfl
theorem m5:ig [.lst (LS.map tD),.int (a:Int),.non]=some (bE (LS.drop a)):=by
 have h:cutD (LS.map tD) (some (a:Int)) none=(LS.drop a).map tD:=by
  unfold cutD
  rw [List.length_map,HT.sIx_nat,HT.sIx_none]
  rw [List.take_of_length_le (by rw [List.length_drop,List.length_map]; exact Nat.le_refl _),← List.map_drop]
  by_cases q:a≤LS.length
  ·rw [Nat.min_eq_left q]
  ·rw [Nat.min_eq_right (by omega),List.drop_of_length_le (Nat.le_refl _),List.drop_of_length_le (by omega)]
 show some (O.lst ((cutD (LS.map tD) (some (a:Int)) none).map .d))=_
 rw [h]
 unfold bE
 rw [List.map_map]
 rfl
theorem C6:aB .eq (.lst (LS.map tD)) (.lst [])=some LS.isEmpty:=by
 have h1:nC (.lst (LS.map tD)) (.lst [])=true:=by
  unfold nC
  have:D.okd 150 (.lst (LS.map tD))=true:=by
   rw [D.okd]
   exact zR fun x hx=>by
    obtain⟨y,_,rfl⟩:=List.mem_map.mp hx
    exact gu
  rw [this]
  rfl
 rw [bD,h1,if_pos rfl,qD]
 cases LS <;> rfl
end PV.K73
namespace PV.K09
open PySem L2 PL PM PN _root_.K09 K1 M1 N1 Q1 RN K61 K62 K68
theorem F6 {α:Type} [DecidableEq α] {enc:α→D}{n:Nat}{o:O}{L:List α} (g:Gd n o) (hn:n < 2 ^ 31) (he:L≠[]) (hl:L.length < 1000):∃ (e:α) (o':O),b8 [o,nR enc L] = .ok (.d (enc e)) [o',nR enc L]∧e∈L∧Gd (n+1) o':=by
 have hp:0 < L.length:=List.length_pos_iff.mpr he
 obtain⟨v,o',e,v0,v1,g'⟩:=take (s:=(L.length:Int)) g hn (by omega) (by omega)
 obtain⟨ls,cs,r,t,rfl⟩:=g.st
 obtain⟨x,hx,e2⟩:=qC (xs:=L) v0 v1
 have hlen:iw .len (.lst (L.map enc))=some (.d (.int L.length)):=by rw [bg,List.length_map]
 have hat:atI (L.map enc) v=some (enc x):=by
  rw [oP,e2]
  rfl
 have hix:aJ (nR enc L) (.int v) (.d (enc x))=nR enc L:=xt
 have hf:=gW (enc:=enc) (L:=L)
 have hs:=jw (enc:=enc) (L:=L)
 have tk:∀ {i ρ},aj.taken (nR enc L) i ρ=ρ.set i none:=fun {i ρ}=>rfl
 have hio:∀ {os:List O}{ρ:Env},bp (nR enc L::os) (some (nR enc L)::ρ)=(bp os ρ).map (nR enc L :: ·):=fun {os ρ}=>rfl
 refine⟨x,o',(aI (by rfl) (by rfl)).trans ?_,hx,g'⟩
 rw [uD]
 generalize nR enc L=A at hix hf hs tk hio ⊢
 generalize L.map enc=M at hlen hat hf
 generalize (L.length:Int)=N at hlen e
 generalize enc x=X at hat hix ⊢
 simp_arith [hf,hs,tk,-bg]
 simp_arith [hf,hs,tk,hlen,e,-bg]
 simp_arith [hf,hs,tk,hat,hix,hio,-bg]
end PV.K09
namespace PV.K73
open PySem L2 PL PM PN _root_.K73 PV.K1 PV.M1 PV.N1 PV.K72 PV.K71 PV.Q1
variable {L l r:List Nat}{a e:Nat}{x y z:List Nat}{TD PD R S W X Y E E1 E2 E3 E4:D}{P P1 P2 P3 P4 Q o o1 o2:O}{N M A B:Int}{LS:List (List Nat)}{gs:List Str}{fs:List F}
variable {s0 s1 s2 s3 s4 s5 s6 s7 s8 s9 s10 s11 s12 s13 s14:Option O}
def fb (LS:List (List Nat)):List Nat:=(LS.map fun x=>x++[10]).flatten
end PV.K73
namespace PV.K73
open PySem L2 PL PM PN _root_.K73 PV.K1 PV.M1 PV.N1 PV.K72 PV.K71 PV.Q1
variable {L l r:List Nat}{a e:Nat}{x y z:List Nat}{TD PD R S W X Y E E1 E2 E3 E4:D}{P P1 P2 P3 P4 Q o o1 o2 HO:O}{N M A B:Int}{LS:List (List Nat)}{gs:List Str}{fs:List F}
theorem eI:fb (x::LS)=x++10::fb LS:=by
 unfold fb
 rw [List.map_cons,List.flatten_cons,List.append_assoc]
 rfl
theorem C7 {K:Nat}:∀ {LS:List (List Nat)},(∀ x∈LS,x.length≤K)→(fb LS).length≤LS.length * (K+1)
 | [],_=>by simp [fb]
 | x::LS,h=>by
  have h1:=C7 fun y hy=>h y (List.mem_cons_of_mem _ hy)
  have h2:=h x List.mem_cons_self
  rw [eI,List.length_append,List.length_cons,List.length_cons,Nat.succ_mul]
  omega
theorem C9 (hz:l.length≤1000000):ig [tD l,.non,.int (-1)]=some (.d (tD l.dropLast)):=by
 show(if(sT l).length≤sizeLine then some (O.d (.str ⟨(((sT l).cps.toList.drop (HT.sIx (sT l).length 0 none)).take (HT.sIx (sT l).length (sT l).length (some (-1)) - HT.sIx (sT l).length 0 none)).toArray⟩))else none)=_
 have h1:HT.sIx l.length l.length (some (-1))=l.length - 1:=by
  show(if(-1:Int) < 0 then((-1:Int)+((l.length:Nat):Int)).toNat else min (-1:Int).toNat l.length)=_
  rw [if_pos (by omega)]
  omega
 rw [cq,if_pos (by rw [PySem.sizeLine_eq]; omega),h1,HT.sIx_none,Nat.sub_zero,List.drop_zero,List.dropLast_eq_take]
end PV.K73
namespace PV.K74
open PySem L2 _root_.K74 PV.K1 PV.M1 PV.N1 PV.K72 PV.K71
open PV.K73 (bc fb)
open PV.K61 (pairD br cA hR)
variable {x y z w a b L:List Nat}{xs rs LS:List (List Nat)}{o:Option (List Nat)}
theorem oU {d:Nat}{p:List Nat}{ps:List (List Nat)} (h:ps≠[]):sF d (p::ps)=p++d::sF d ps:=by
 cases ps with
 | nil=>exact absurd rfl h
 | cons q ps=>rfl
theorem vT {d:Nat}:∀ l:List Nat,sF d (bj d l)=l
 | []=>rfl
 | c::l=>by
  have ih:=vT (d:=d) l
  have hn:=vP (d:=d) (l:=l)
  unfold bj
  by_cases q:c=d
  ·rw [if_pos q,oU hn,ih,q]
   rfl
  ·rw [if_neg q]
   cases hc:bj d l with
   | nil=>exact absurd hc hn
   | cons p ps =>
    rw [hc]at ih
    dsimp only
    cases ps with
    | nil =>
     show c::p=_
     rw [show p=l from ih]
    | cons p2 ps =>
     have ih:p++d::sF d (p2::ps)=l:=ih
     show(c::p)++d::sF d (p2::ps)=_
     rw [← ih]
     rfl
theorem Dc:∀ A:List (List Nat),sF 10 (A++[[]])=fb A
 | []=>rfl
 | x::A=>by
  rw [List.cons_append,oU (by simp),Dc A,PV.K73.eI]
theorem EK {A:List (List Nat)} (hc:bj 10 L=A++[[]]):L=fb A:=by
 have:=vT (d:=10) L
 rw [hc,Dc]at this
 exact this.symm
theorem xI:∀ (xs:List (List Nat)) (o:Option (List Nat)),cK o xs=none→(∀ x∈xs,∃ w a b,bj 32 x = [w,a,b]∧dc (sT w)=true∧d7 a=true∧d7 b=true∧lh x=w)∧(xs.map lh).Pairwise (· < ·)∧∀ x∈xs,sG o (lh x)=true
 | [],o,_=>⟨(fun x hx=>by cases hx),List.Pairwise.nil,(fun x hx=>by cases hx)⟩
 | x::xs,o,h=>by
  cases q:AS o x with
  | false =>
   rw [cK,q]at h
   cases h
  | true =>
   rw [cK,q]at h
   have h:(cK (some (lh x)) xs).map (· + 1)=none:=h
   obtain⟨h1,h2,h3⟩:=xI xs (some (lh x)) (Option.map_eq_none_iff.mp h)
   obtain⟨w,a,b,e,n1,n2,n3,n4,n5⟩:=sH q
   have hb:sG o (lh x)=true:=by rw [n4]; exact n5
   refine⟨fun y hy=>?_,?_,fun y hy=>?_⟩
   ·rcases List.mem_cons.mp hy with rfl | hy
    ·exact⟨w,a,b,e,n1,n2,n3,n4⟩
    ·exact h1 y hy
   ·rw [List.map_cons,List.pairwise_cons]
    refine⟨fun m hm=>?_,h2⟩
    obtain⟨y,hy,rfl⟩:=List.mem_map.mp hm
    exact of_decide_eq_true (h3 y hy)
   ·rcases List.mem_cons.mp hy with rfl | hy
    ·exact hb
    ·cases o with
     | none=>rfl
     | some u =>
      have u1:u < lh x:=of_decide_eq_true hb
      have u2:lh x < lh y:=of_decide_eq_true (h3 y hy)
      exact decide_eq_true (List.lt_trans u1 u2)
theorem Dd (h:(LS.map lh).Pairwise (· < ·)):(LS.map hY).Nodup:=by
 have e:LS.map hY=(LS.map lh).map sT:=by
  rw [List.map_map]
  rfl
 rw [e]
 exact List.Pairwise.map sT (fun a b hab q=>by
  rw [vG q]at hab
  exact List.lt_irrefl _ hab) h
theorem De {p:Int×Int} (e:bj 32 x = [w,a,b]) (na:d7 a=true) (nb:d7 b=true) (hp:p=(valN a,valN b)):zS (sT w) p=x++[10]:=by
 have hj:=vT (d:=32) x
 rw [e]at hj
 have hj:w++32::(a++32::b)=x:=hj
 subst hp
 unfold zS
 dsimp only
 rw [xC na,xC nb,← hj]
 simp
theorem AL {ks:List Str} (h:ks.Pairwise fun a b=>h9 a b=true):ks.mergeSort h9=ks:=List.mergeSort_of_pairwise h
open PySem.NumText in
theorem zT:∀ (cs:List Nat) (acc:Nat),AllDigits cs→cs.foldl (fun acc c=>acc * 10+(c - 48)) acc < (acc+1) * 10 ^ cs.length
 | [],acc,_=>by simp
 | c::cs,acc,h=>by
  have h1:=h.head
  have ih:=zT cs (acc * 10+(c - 48)) h.tail
  have h2:(acc * 10+(c - 48)+1) * 10 ^ cs.length≤((acc+1) * 10) * 10 ^ cs.length:=Nat.mul_le_mul_right _ (by omega)
  have h3:((acc+1) * 10) * 10 ^ cs.length=(acc+1) * 10 ^ (c::cs).length:=by
   rw [List.length_cons,Nat.pow_succ,Nat.mul_assoc,Nat.mul_comm 10]
  rw [List.foldl_cons]
  omega
open PySem.NumText in
theorem Df (h:d7 a=true):(valN a).natAbs < 10 ^ 40:=by
 unfold d7 at h
 rw [Bool.and_eq_true]at h
 obtain⟨ha,hl,hu⟩:=sD h.1
 have hb:digitsVal (lK a) < 10 ^ 40:=by
  have h1:=zT (lK a) 0 ha
  have h2:10 ^ (lK a).length≤10 ^ 40:=Nat.pow_le_pow_right (by decide) hu
  unfold digitsVal
  omega
 unfold lK at hb
 unfold valN
 split
 ·rename_i q
  rw [if_pos q]at hb
  omega
 ·rename_i q
  rw [if_neg q]at hb
  omega
def Ko (x:List Nat):Int×Int:=match bj 32 x with
 | [_,a,b]=>(valN a,valN b)
 | _=>(0,0)
theorem EL (h1:∀ x∈LS,∃ w a b,bj 32 x = [w,a,b]∧dc (sT w)=true∧d7 a=true∧d7 b=true∧lh x=w) (nd:(LS.map hY).Nodup):∃ h:Str→Int×Int,lD LS=cA (LS.map hY) h∧JE LS=br (LS.map hY) h∧∀ x∈LS,zS (hY x) (h (hY x))=x++[10]∧dc (hY x)=true∧(h (hY x)).1.natAbs < 10 ^ 40∧(h (hY x)).2.natAbs < 10 ^ 40:=by
 obtain⟨g,hg⟩:=PV.Q1.vJ (β:=Int×Int) (ns:=LS.map Ko) nd (by rw [List.length_map,List.length_map])
 have h2:∀ x∈LS,g (hY x)=Ko x:=by
  intro x hx
  rw [List.map_map]at hg
  exact List.map_inj_left.mp hg x hx
 have h3:∀ x∈LS,rV x=pairD (g (hY x)):=fun x hx=>by
  obtain⟨w,a,b,e,_⟩:=h1 x hx
  rw [h2 x hx]
  unfold rV Ko
  rw [e]
  rfl
 refine⟨g,?_,?_,fun x hx=>?_⟩
 ·unfold lD cA FX
  rw [List.map_map,List.map_map]
  congr 1
  exact List.map_congr_left fun x hx=>congrArg O.d (h3 x hx)
 ·unfold JE br FX
  rw [List.map_map,List.map_map]
  congr 1
  exact List.map_congr_left fun x hx=>h3 x hx
 ·obtain⟨w,a,b,e,n1,n2,n3,n4⟩:=h1 x hx
  have hp:g (hY x)=(valN a,valN b):=by
   rw [h2 x hx]
   unfold Ko
   rw [e]
  have hs:hY x=sT w:=congrArg sT n4
  rw [hp,hs]
  exact⟨De e n2 n3 rfl,n1,Df n2,Df n3⟩
end PV.K74
namespace PV.K74
open PySem L2 _root_.K74 PV.K1 PV.M1 PV.N1 PV.K72 PV.K71
open PV.K73 (bc fb)
open PV.K61 (pairD br cA hR)
variable {x y z w a b L:List Nat}{xs rs LS A:List (List Nat)}{o:Option (List Nat)}
theorem Dg {ks:List Str}{h:Str→Int×Int} (nd:ks.Nodup):aB .eq (br ks h) (br ks h)=some true:=by
 have ho:=PV.K61.vQ (n:=138) (h:=h) nd
 rw [bD,show nC (br ks h) (br ks h)=false by unfold nC br; rw [PV.K61.zM]; rfl]
 rw [if_neg (by simp),show qO (br ks h) (br ks h)=true by unfold qO; unfold br at ho ⊢; dsimp only; rw [ho]; rfl,if_pos rfl,ow 140 _ ho]
def Kq (A:List (List Nat)):O:=.lst (A.map fun x=>bE (bj 32 x))
def Ma (A:List (List Nat)):O:=.lst (A.map fun x=>.d (.lst ((bj 32 x).map tD)))
theorem EM:(Kq A).frz = .lst (A.map fun x=>.lst ((bj 32 x).map tD)):=by
 unfold Kq
 rw [jW,List.map_map]
 exact congrArg D.lst (List.map_congr_left fun f _=>aE)
theorem HI:(Kq A).shal=Ma A:=by
 show O.lst ((A.map fun x=>bE (bj 32 x)).map fun o=>O.d o.frz)=_
 rw [List.map_map]
 exact congrArg O.lst (List.map_congr_left fun f _=>congrArg O.d aE)
theorem Dh:(lD LS).frz=JE LS:=by
 unfold lD JE
 rw [O.frz,bM,List.map_map]
 rfl
theorem F7:(lD LS).shal=lD LS:=by
 unfold lD
 rw [O.shal,List.map_map]
 rfl
theorem HJ (nd:(LS.map hY).Nodup):jZ [.lst (LS.map fun x=>.tup [.str (hY x),rV x])]=some (lD LS):=by
 obtain⟨g,h1,h2⟩:=FY nd
 rw [h2,← PV.RN.FW PV.RN.HC nd,List.map_map]
 refine congrArg (fun l=>jZ [.lst l]) (List.map_congr_left fun x hx=>?_)
 show D.tup [.str (hY x),rV x]=D.tup [.str (hY x),g (hY x)]
 rw [h1 x hx]
theorem Di (h:(LS.map lh).Pairwise (· < ·)):(LS.map hY).mergeSort h9=LS.map hY:=by
 refine AL ?_
 have e:LS.map hY=(LS.map lh).map sT:=by
  rw [List.map_map]
  rfl
 rw [e]
 exact List.Pairwise.map sT (fun a b hab=>by
  unfold h9
  exact decide_eq_true (List.le_of_lt hab)) h
theorem right (hz:L.length≤100000) (hc:bj 10 L=A++[z]) (hn:(bc A z).length≤400):dS [.d (tD L)] = .ok (.d (.bl true)) [.d (tD L)]:=by
 have hio:∀ {x1 x2 x3 x4 x5:Option O},bp [.d (tD L)] [some (.d (tD L)),x1,x2,x3,x4,x5]=some [.d (tD L)]:=fun {_ _ _ _ _}=>rfl
 have hw:=yK hz (by omega) hc
 have hr:=sJ hz (by omega) hc
 refine(aI (by rfl) (by rfl)).trans ?_
 unfold LZ at hw
 cases hd:FZ A z with
 | inr k =>
  rw [hd]at hw hr
  dsimp only at hw hr
  have d1:=N8 (s1:=none) (s2:=none) (s3:=none) (s4:=none) (s5:=none) hw (F5 hr)
  have d2:=Oa (s0:=some (.d (tD L))) (s3:=none) (s4:=none) (s5:=none) (N:=k) (XD:=.exc 14 [.int k]) rfl Jz (by rw [tu,decide_eq_true rfl]) rfl
  exact bQ sE rfl (af d1 (aL d2)) hio
 | inl o =>
  have hh:z = []∧cK none A=none∧o=lD A:=by
   unfold FZ at hd
   split at hd
   ·cases hd
   ·rename_i hb
    split at hd
    ·rename_i q
     have hls:bc A z=A:=if_pos q
     rw [hls]at hb hd
     injection hd with hd
     exact⟨q,hb,hd.symm⟩
    ·cases hd
  obtain⟨rfl,hb,rfl⟩:=hh
  rw [hd]at hw hr
  dsimp only at hw hr
  have hls:bc A ([]:List Nat)=A:=if_pos rfl
  rw [hls]at hn
  have hno:=lg (d:=10) (l:=L)
  rw [hc]at hno
  have hA:∀ x∈A,x.length≤100000:=fun x hx=>Nat.le_trans (hno x (List.mem_append_left _ hx)).2.1 hz
  obtain⟨g1,g2,_⟩:=xI A none hb
  have nd:=Dd g2
  obtain⟨h,t1,t2,t3⟩:=EL g1 nd
  have hL:=EK hc
  have d1:=N9 (s1:=none) (s2:=none) (s3:=none) (s4:=none) (s5:=none) (ks:=FX A) (vs:=A.map fun x=>.d (rV x)) hw (L8 hr (fun {i ρ}=>rfl))
  have d2:=Ob (s0:=some (.d (tD L))) (s2:=some (lD A)) (s3:=none) (s4:=none) (s5:=none) rfl
  have hsp:=CW hz
  rw [hc]at hsp
  have d3:=r3 (s1:=some (.d .non)) (s2:=some (lD A)) (s3:=none) (s4:=none) (P:=bE (A++[[]])) (P2:=bE A) (XS:=A.map tD) (os:=A.map fun x=>bE (bj 32 x)) hsp rfl aE PV.K73.C1 aE (comp_map fun x hx=>Oc (AJ (x:=x) (d:=32) (w:=Str.ofString " ") (by decide +kernel) (by have:=hA x hx; omega)) rfl)
  have d4:=r4 (s0:=some (.d (tD L))) (s1:=some (.d .non)) (s2:=some (lD A)) (s4:=none) (P:=Kq A) (P2:=Ma A) (F:=lD A) (E1:=.lst (A.map fun x=>.tup [.str (hY x),rV x])) (XS:=A.map fun x=>.lst ((bj 32 x).map tD)) (os:=A.map fun x=>.d (.tup [.str (hY x),rV x])) EM HI (fun {i ρ}=>rfl) (comp_map fun x hx=>by
   obtain⟨w,a,b,e,n1,n2,n3,n4⟩:=g1 x hx
   have hk:D.str (hY x)=tD w:=congrArg D.str (congrArg sT n4)
   have hv:rV x = .tup [.int (valN a),.int (valN b)]:=by
    unfold rV
    rw [e]
    rfl
   rw [e,hk,hv]
   exact Od rfl rfl rfl (zP n2) (zP n3)) (by
    rw [List.map_map]
    rfl) (HJ nd)
  have ht:=nS (v:=cA (A.map hY) h) .o (fun k hk=>by
   obtain⟨x,hx,rfl⟩:=List.mem_map.mp hk
   exact(t3 x hx).2.1) (fun k hk=>by
   obtain⟨x,hx,rfl⟩:=List.mem_map.mp hk
   exact(t3 x hx).2.2) (by rw [List.length_map]; exact hn)
  have hpg:((A.map hY).map fun k=>zS k (h k)).flatten=L:=by
   rw [hL,List.map_map]
   unfold fb
   exact congrArg List.flatten (List.map_congr_left fun x hx=>(t3 x hx).1)
  rw [Di g2,hpg,← t1,← t2]at ht
  have d5:=r5 (s1:=some (.d .non)) (s3:=some (Ma A)) (s5:=none) (P:=lD A) (F:=lD A) (PD:=JE A) (TD:=tD L) Dh F7 (fun {i ρ}=>rfl) Dh F7 (fun {i ρ}=>rfl) rfl (by rw [t2]; exact Dg nd) (JG rfl (fun {i ρ}=>rfl) (fun {x y}=>rfl) ht) (by
   have:=Jx (x:=L) (y:=L)
   rw [decide_eq_true rfl]at this
   exact this)
  exact bQ sE rfl (af d1 (af d2 (af d3 (af d4 (aL d5))))) hio
end PV.K74
namespace PV.K74
open PySem L2 PL _root_.K74 PV.K1 PV.M1 PV.N1 PV.K72 PV.K71
open PV.RN (nR gW jw)
variable {o o1 o2:O}{N M:Int}{A1 A2 A3 A4 A5 A6 A7 A8:Int}
noncomputable abbrev ΦN:cU:=cQ [(22,aU),(23,b8)]
variable {s0 s1 s2:Option O}
theorem u1 (tk:∀ {i ρ},aj.taken o i ρ=ρ.set i none) (h:aU [o,.d (.int 12)] = .ok (.d (.int N)) [o1,.d (.int 12)]) (p5:i7 .pow [.int 10,.int 5]=some (.d (.int A1))) (p17:i7 .pow [.int 10,.int 17]=some (.d (.int A2))) (q17:i7 .add [.int A2,.int 3]=some (.d (.int A3))) (p38:i7 .pow [.int 10,.int 38]=some (.d (.int A4))) (p39:i7 .pow [.int 10,.int 39]=some (.d (.int A5))):bo ΦN jJ [some (o),s1,s2] = .ok .nx [some (o1),some (.lst [.d (.int N),.d (.int A1),.d (.int A3),.d (.int A4),.d (.int A5)]),s2]:=by
 simp_arith [jJ,tk,-xf,-cR]
 try simp_arith [tk,h,p5,p17,q17,p38,p39,-xf,-cR]
theorem u2 {os2:O}{os:List O}{XD:D} (tk:∀ {i ρ},aj.taken o i ρ=ρ.set i none) (h:aU [o,.d (.int 3)] = .ok (.d (.int M)) [o1,.d (.int 3)]) (hf:(O.lst os).frz=XD) (p40:i7 .pow [.int 10,.int 40]=some (.d (.int A6))) (q40:i7 .sub [.int A6,.int 1]=some (.d (.int A7))) (q41:i7 .sub [.int A7,.int M]=some (.d (.int A8))) (ha:i7 .add [XD,.lst [.int A8]]=some os2):bo ΦN jK [some (o),some (.lst os),s2] = .ok .nx [some (o1),some (os2),s2]:=by
 have tkl:∀ {i ρ},aj.taken (O.lst os) i ρ=ρ.set i none:=fun {i ρ}=>rfl
 generalize O.lst os=OL at *
 simp_arith [jK,tk,tkl,-xf,-cR,-FD]
 try simp_arith [tk,tkl,h,hf,p40,q40,q41,ha,-xf,-cR,-FD]
theorem u3 {P:O} (tk:∀ {i ρ},aj.taken o i ρ=ρ.set i none) (tkp:∀ {i ρ},aj.taken P i ρ=ρ.set i none) (h:b8 [o,P] = .ok (.d (.int N)) [o1,P]):bo ΦN jL [some (o),some (P),s2] = .ok .nx [some (o1),some (P),some (.d (.int N))]:=by
 simp_arith [jL,tk,tkp]
 try simp_arith [tk,tkp,h]
theorem Oe (tk:∀ {i ρ},aj.taken o i ρ=ρ.set i none) (h:aU [o,.d (.int 2)] = .ok (.d (.int M)) [o1,.d (.int 2)]) (h0:aB .eq (.int M) (.int 0)=some true):bo ΦN fm [some (o),s1,some (.d (.int N))] = .ok (.rt (.d (.int N))) [some (o1),s1,some (.d (.int N))]:=by
 simp_arith [fm,tk,-bD]
 try simp_arith [tk,h,h0,-bD]
theorem Of (tk:∀ {i ρ},aj.taken o i ρ=ρ.set i none) (h:aU [o,.d (.int 2)] = .ok (.d (.int M)) [o1,.d (.int 2)]) (h0:aB .eq (.int M) (.int 0)=some false):bo ΦN fm [some (o),s1,some (.d (.int N))] = .ok (.rt (.d (.int (-N)))) [some (o1),s1,some (.d (.int N))]:=by
 simp_arith [fm,tk,-bD]
 try simp_arith [tk,h,h0,-bD]
theorem pw {j:Nat} (h:j≤1000):i7 .pow [.int 10,.int (j:Int)]=some (.d (.int (10 ^ j))):=by
 rw [xf,if_pos ⟨by omega,by omega,by decide⟩]
 rfl
theorem number {n:Nat} (g:Gd n o) (hn:n < 2 ^ 29):∃ (i:Int) (o':O),Gd (n+5) o'∧i.natAbs < 10 ^ 40∧eC [o] = .ok (.d (.int i)) [o']:=by
 obtain⟨a,o1,e1,a0,a1,g1⟩:=take (s:=12) g (by omega) (by omega) (by omega)
 obtain⟨b,o2,e2,b0,b1,g2⟩:=take (s:=3) g1 (by omega) (by omega) (by omega)
 obtain⟨i,o3,e3,hi,g3⟩:=PV.K09.F6 (enc:=D.int) (L:=[a,10 ^ 5,10 ^ 17+3,10 ^ 38,10 ^ 39,10 ^ 40 - 1 - b]) g2 (by omega) (by simp) (by simp)
 obtain⟨c,o4,e4,c0,c1,g4⟩:=take (s:=2) g3 (by omega) (by omega) (by omega)
 have hb:i.natAbs < 10 ^ 40:=by
  simp only [List.mem_cons,List.not_mem_nil,or_false]at hi
  rcases hi with rfl | rfl | rfl | rfl | rfl | rfl
  ·omega
  ·decide +kernel
  ·decide +kernel
  ·decide +kernel
  ·decide +kernel
  ·omega
 have hio:∀ {o':O}{x y:Option O},bp [o] [some o',x,y]=some [o']:=fun {_ _ _}=>by
  obtain⟨ls,cs,r,t,rfl⟩:=g.st
  rfl
 have hk:f9 [0] 0 [o]=true:=by
  obtain⟨ls,cs,r,t,rfl⟩:=g.st
  rfl
 have d1:=u1 (s1:=none) (s2:=none) (xA g) e1 (pw (j:=5) (by omega)) (pw (j:=17) (by omega)) rfl (pw (j:=38) (by omega)) (pw (j:=39) (by omega))
 have d2:=u2 (s2:=none) (os2:=nR D.int [a,10 ^ 5,10 ^ 17+3,10 ^ 38,10 ^ 39,10 ^ 40 - 1 - b]) (os:=[.d (.int a),.d (.int (10 ^ 5)),.d (.int (10 ^ 17+3)),.d (.int (10 ^ 38)),.d (.int (10 ^ 39))]) (XD:=.lst [.int a,.int (10 ^ 5),.int (10 ^ 17+3),.int (10 ^ 38),.int (10 ^ 39)]) (xA g1) e2 (by rw [jW]; rfl) (pw (j:=40) (by omega)) rfl rfl rfl
 have d3:=u3 (s2:=none) (xA g2) (fun {i ρ}=>rfl) e3
 refine⟨if c=0 then i else -i,o4,g4.mono (by omega),by split <;> omega,(aI (by rfl) (by exact hk)).trans ?_⟩
 by_cases q:c=0
 ·rw [if_pos q]
  have d4:=Oe (s1:=some (nR D.int [a,10 ^ 5,10 ^ 17+3,10 ^ 38,10 ^ 39,10 ^ 40 - 1 - b])) (N:=i) (xA g3) e4 (by rw [tu,decide_eq_true q])
  exact bQ p8 rfl (af d1 (af d2 (af d3 (aL d4)))) hio
 ·rw [if_neg q]
  have d4:=Of (s1:=some (nR D.int [a,10 ^ 5,10 ^ 17+3,10 ^ 38,10 ^ 39,10 ^ 40 - 1 - b])) (N:=i) (xA g3) e4 (by rw [tu,decide_eq_false q])
  exact bQ p8 rfl (af d1 (af d2 (af d3 (aL d4)))) hio
end PV.K74
namespace PV.K74
open PySem L2 PL _root_.K74 PV.K1 PV.M1 PV.N1 PV.K72 PV.K71
variable {o o1 o2 P P1 P2 P3 P4 Q Q2:O}{N M A B:Int}{PD E E1 E2 E3 E4 QD W X:D}{os:List O}
noncomputable abbrev ΦV:cU:=cQ [(22,aU),(23,b8)]
abbrev vA:List Str:=["", "a", "a 1", "a 1 2", "a 1 2 ", " a 1 2", "A 1 2"]
abbrev vB:List Str:=["", " ", "a", "zz 1 2", "a 1 2"]
variable {s0 s1 s2 s3 s4 s5 s6 s7:Option O}
theorem Og (hf:P.frz=PD) (tk:∀ {i ρ},aj.taken P i ρ=ρ.set i none) (h0:aB .eq PD (.lst [])=some true) (tko:∀ {i ρ},aj.taken o i ρ=ρ.set i none) (h1:b8 [o,.lst (vA.map bL)] = .ok (.d E) [o1,.lst (vA.map bL)]):bo ΦV fM [some (o),some (P),s2,s3,s4,s5,s6,s7] = .ok (.rt (.lst [.d E])) [some (o1),some (P),s2,s3,s4,s5,s6,s7]:=by
 simp [vA]at h1
 simp_arith [fM,hf,tk,-bD]
 try simp_arith [hf,tk,tko,h0,h1,-bD]
theorem Oh (hf:P.frz=PD) (tk:∀ {i ρ},aj.taken P i ρ=ρ.set i none) (h0:aB .eq PD (.lst [])=some false):bo ΦV fM [s0,some (P),s2,s3,s4,s5,s6,s7] = .ok .nx [s0,some (P),s2,s3,s4,s5,s6,s7]:=by
 simp_arith [fM,hf,tk,-bD]
 try simp_arith [hf,tk,h0,-bD]
theorem v2 (hf:P.frz=PD) (tk:∀ {i ρ},aj.taken P i ρ=ρ.set i none) (tko:∀ {i ρ},aj.taken o i ρ=ρ.set i none) (tko1:∀ {i ρ},aj.taken o1 i ρ=ρ.set i none) (h0:iw .len PD=some (.d (.int N))) (h1:aU [o,.d (.int N)] = .ok (.d (.int A)) [o1,.d (.int N)]) (h2:aU [o1,.d (.int N)] = .ok (.d (.int B)) [o2,.d (.int N)]):bo ΦV jk [some (o),some (P),s2,s3,s4,s5,s6,s7] = .ok .nx [some (o2),some (P),some (.d (.int A)),some (.d (.int B)),s4,s5,s6,s7]:=by
 simp_arith [jk,hf,tk,tko]
 try simp_arith [hf,tk,tko,tko1,h0,h1,h2]
theorem v3 (tko:∀ {i ρ},aj.taken o i ρ=ρ.set i none) (h1:aU [o,.d (.int 5)] = .ok (.d (.int A)) [o1,.d (.int 5)]):bo ΦV jl [some (o),s1,s2,s3,s4,s5,s6,s7] = .ok .nx [some (o1),s1,s2,s3,some (.d (.int A)),s5,s6,s7]:=by
 simp_arith [jl,tko]
 try simp_arith [tko,h1]
theorem Oi (hf:P.frz=PD) (hs:P.shal=P) (tk:∀ {i ρ},aj.taken P i ρ=ρ.set i none) (h0:aB .eq (.int M) (.int 0)=some true) (h1:ig [PD,.non,.int A]=some P1) (f1:P1.frz=E1) (x0:bU [PD,.int B]=some (.d E)) (i0:aJ P (.int B) (.d E)=P) (h2:i7 .add [E1,.lst [E]]=some P2) (f2:P2.frz=E2) (h3:ig [PD,.int A,.non]=some P3) (f3:P3.frz=E3) (h4:i7 .add [E2,E3]=some P4):bo ΦV fN [s0,some (P),some (.d (.int A)),some (.d (.int B)),some (.d (.int M)),s5,s6,s7] = .ok (.rt P4) [s0,some (P),some (.d (.int A)),some (.d (.int B)),some (.d (.int M)),s5,s6,s7]:=by
 simp_arith [fN,hf,hs,tk,-bD,-cR,-fH]
 try simp_arith [hf,hs,tk,h0,h1,x0,i0,h2,h3,f1,f2,f3,h4,-bD,-cR,-fH]
theorem Oj (h0:aB .eq (.int M) (.int 0)=some false):bo ΦV fN [s0,s1,s2,s3,some (.d (.int M)),s5,s6,s7] = .ok .nx [s0,s1,s2,s3,some (.d (.int M)),s5,s6,s7]:=by
 simp_arith [fN,-bD]
 try simp_arith [h0,-bD]
theorem Ol (hf:P.frz=PD) (hs:P.shal=P) (tk:∀ {i ρ},aj.taken P i ρ=ρ.set i none) (tko:∀ {i ρ},aj.taken o i ρ=ρ.set i none) (h0:aB .eq (.int M) (.int 1)=some true) (h1:ig [PD,.non,.int A]=some P1) (f1:P1.frz=E1) (hp:b8 [o,.lst (vB.map bL)] = .ok (.d E) [o1,.lst (vB.map bL)]) (h2:i7 .add [E1,.lst [E]]=some P2) (f2:P2.frz=E2) (h3:ig [PD,.int A,.non]=some P3) (f3:P3.frz=E3) (h4:i7 .add [E2,E3]=some P4):bo ΦV fO [some (o),some (P),some (.d (.int A)),s3,some (.d (.int M)),s5,s6,s7] = .ok (.rt P4) [some (o1),some (P),some (.d (.int A)),s3,some (.d (.int M)),s5,s6,s7]:=by
 simp [vB]at hp
 simp_arith [fO,hf,hs,tk,tko,-bD,-cR,-fH]
 try simp_arith [hf,hs,tk,tko,h0,h1,hp,h2,h3,f1,f2,f3,h4,-bD,-cR,-fH]
theorem Om (h0:aB .eq (.int M) (.int 1)=some false):bo ΦV fO [s0,s1,s2,s3,some (.d (.int M)),s5,s6,s7] = .ok .nx [s0,s1,s2,s3,some (.d (.int M)),s5,s6,s7]:=by
 simp_arith [fO,-bD]
 try simp_arith [h0,-bD]
theorem v6 (hf:P.frz=PD) (tk:∀ {i ρ},aj.taken P i ρ=ρ.set i none) (h1:bU [PD,.int A]=some (.d E)) (hix:aJ P (.int A) (.d E)=P) (h2:qp .split [E,.str " "]=some Q) (h3:cy .split E=some ()):bo ΦV jm [s0,some (P),some (.d (.int A)),s3,s4,s5,s6,s7] = .ok .nx [s0,some (P),some (.d (.int A)),s3,s4,some (Q),s6,s7]:=by
 simp_arith [jm,hf,tk,-cy]
 try simp_arith [hf,tk,h1,hix,h2,h3,-cy]
theorem v7 (hf:Q.frz=QD) (hs:Q.shal=Q) (tk:∀ {i ρ},aj.taken Q i ρ=ρ.set i none) (tko:∀ {i ρ},aj.taken o i ρ=ρ.set i none) (h0:iw .len QD=some (.d (.int N))) (h1:aU [o,.d (.int N)] = .ok (.d (.int A)) [o1,.d (.int N)]):bo ΦV jn [some (o),s1,s2,s3,s4,some (Q),s6,s7] = .ok .nx [some (o1),s1,s2,s3,s4,some (Q),some (.d (.int A)),s7]:=by
 simp_arith [jn,hf,tk,tko]
 try simp_arith [hf,hs,tk,tko,h0,h1]
theorem Mb (hf:Q.frz=QD) (hs:Q.shal=Q) (tk:∀ {i ρ},aj.taken Q i ρ=ρ.set i none) (h0:aB .eq (.int M) (.int 2)=some true) (h1:ig [QD,.non,.int A]=some P1) (f1:P1.frz=E1) (h5:i7 .add [.int A,.int 1]=some (.d (.int N))) (h3:ig [QD,.int N,.non]=some P3) (f3:P3.frz=E3) (h4:i7 .add [E1,E3]=some P4):bo ΦV eU [s0,s1,s2,s3,some (.d (.int M)),some (Q),some (.d (.int A)),s7] = .ok .nx [s0,s1,s2,s3,some (.d (.int M)),some (P4),some (.d (.int A)),s7]:=by
 simp_arith [eU,hf,hs,tk,-bD,-cR,-fH]
 try simp_arith [hf,hs,tk,h0,h1,h3,h5,f1,f3,h4,-bD,-cR,-fH]
theorem Mc {b:Bool} (hf:Q.frz=QD) (hs:Q.shal=Q) (tk:∀ {i ρ},aj.taken Q i ρ=ρ.set i none) (tko:∀ {i ρ},aj.taken o i ρ=ρ.set i none) (tkp:∀ {i ρ},aj.taken P i ρ=ρ.set i none) (h0:aB .eq (.int M) (.int 2)=some false) (h1:ig [QD,.non,.int A]=some P1) (f1:P1.frz=E1) (hp:b8 [o,P] = .ok (.d E) [o1,P]) (h2:i7 .add [E1,.lst [E]]=some P2) (f2:P2.frz=E2) (hb:aB .eq (.int M) (.int 3)=some b) (h5:i7 .add [.int A,.int (if b then 1 else 0)]=some (.d (.int N))) (h3:ig [QD,.int N,.non]=some P3) (f3:P3.frz=E3) (h4:i7 .add [E2,E3]=some P4):bo ΦV eU [some (o),s1,s2,s3,some (.d (.int M)),some (Q),some (.d (.int A)),some (P)] = .ok .nx [some (o1),s1,s2,s3,some (.d (.int M)),some (P4),some (.d (.int A)),some (P)]:=by
 have hi:iw .int (.bl b)=some (.d (.int (if b then 1 else 0))):=rfl
 simp_arith [eU,hf,hs,tk,tko,tkp,-bD,-cR,-fH]
 try simp_arith [hf,hs,tk,tko,tkp,h0,hb,hi,h1,hp,h2,h3,h5,f1,f2,f3,h4,-bD,-cR,-fH]
theorem Oo (hf:P.frz=PD) (hs:P.shal=P) (tk:∀ {i ρ},aj.taken P i ρ=ρ.set i none) (qf:Q.frz=QD) (qs:Q.shal=Q) (tkq:∀ {i ρ},aj.taken Q i ρ=ρ.set i none) (h1:ig [PD,.non,.int A]=some P1) (f1:P1.frz=E1) (hj:cy .join (.str " ")=some ()) (hjn:qp .join [.str " ",QD]=some (.d E)) (h2:i7 .add [E1,.lst [E]]=some P2) (f2:P2.frz=E2) (h5:i7 .add [.int A,.int 1]=some (.d (.int N))) (h3:ig [PD,.int N,.non]=some P3) (f3:P3.frz=E3) (h4:i7 .add [E2,E3]=some P4):bo ΦV gC [s0,some (P),some (.d (.int A)),s3,s4,some (Q),s6,s7] = .ok (.rt P4) [s0,some (P),some (.d (.int A)),s3,s4,some (Q),s6,s7]:=by
 simp_arith [gC,hf,hs,tk,qf,qs,tkq,-cR,-fH,-iS,-cy]
 try simp_arith [hf,hs,tk,qf,qs,tkq,h1,hj,hjn,h2,h3,h5,f1,f2,f3,h4,-cR,-fH,-iS,-cy]
end PV.K74
namespace PV.K74
open PySem L2 PL _root_.K74 PV.K1 PV.M1 PV.N1 PV.K72 PV.K71
variable {o:O}{E1 E2 E3 E4 E5 E6 E7 XD YD:D}{os os2:List O}{P2:O}
variable {s0 s1 s2 s3 s4 s5 s6 s7:Option O}
theorem v8 (m1:fe [.str "1",.int 40]=some (.d E1)) (m2:fe [.str "1",.int 41]=some (.d E2)) (m3:fe [.str "9",.int 40]=some (.d E3)) (a3:i7 .add [.str "-",E3]=some (.d E4)):bo ΦV hV [s0,s1,s2,s3,s4,s5,s6,s7] = .ok .nx [s0,s1,s2,s3,s4,s5,s6,some (.lst [.d (.str ""),.d (.str "0"),.d (.str "-0"),.d (.str "00"),.d (.str "01"),.d (.str "-1"),.d (.str "+1"),.d E1,.d E2,.d E4])]:=by
 simp_arith [hV,-cR]
 try simp_arith [m1,m2,m3,a3,-cR]
theorem v9 (hf:(O.lst os).frz=XD) (m1:fe [.str "9",.int 41]=some (.d E1)) (a1:i7 .add [.str "-",E1]=some (.d E2)) (m2:fe [.str "2",.int 5000]=some (.d E3)) (h:i7 .add [XD,.lst [E2,E3,.str "-",.str "--1",.str "1.0",.str "x",.str "X"]]=some P2):bo ΦV hW [s0,s1,s2,s3,s4,s5,s6,some (.lst os)] = .ok .nx [s0,s1,s2,s3,s4,s5,s6,some (P2)]:=by
 have tkl:∀ {i ρ},aj.taken (O.lst os) i ρ=ρ.set i none:=fun {i ρ}=>rfl
 generalize O.lst os=OL at *
 simp_arith [hW,tkl,-cR]
 try simp_arith [tkl,hf,m1,a1,m2,h,-cR]
theorem v10 (hf:(O.lst os).frz=XD) (h:i7 .add [XD,.lst [.str "abcdefgh",.str "abcdefghi",.str "1 2",.str "1_0"]]=some P2):bo ΦV gB [s0,s1,s2,s3,s4,s5,s6,some (.lst os)] = .ok .nx [s0,s1,s2,s3,s4,s5,s6,some (P2)]:=by
 have tkl:∀ {i ρ},aj.taken (O.lst os) i ρ=ρ.set i none:=fun {i ρ}=>rfl
 generalize O.lst os=OL at *
 simp_arith [gB,tkl,-cR]
 try simp_arith [tkl,hf,h,-cR]
def iu:List (List Nat):=[[],[48],[45,48],[48,48],[48,49],[45,49],[43,49],List.replicate 40 49,List.replicate 41 49,45::List.replicate 40 57,45::List.replicate 41 57,List.replicate 5000 50,[45],[45,45,49],[49,46,48],[120],[88],[97,98,99,100,101,102,103,104],[97,98,99,100,101,102,103,104,105],[49,32,50],[49,95,48]]
theorem EN:∀ w∈iu,w.length≤5000∧10∉w:=by
 intro w hw
 simp only [iu,List.mem_cons,List.not_mem_nil,or_false]at hw
 rcases hw with rfl | rfl | rfl | rfl | rfl | rfl | rfl | rfl | rfl | rfl | rfl | rfl | rfl | rfl | rfl | rfl | rfl | rfl | rfl | rfl | rfl <;> simp [List.mem_replicate]
theorem sL {c k:Nat}{u:Str} (h:sT [c]=u) (hk:k≤100000):fe [.str u,.int (k:Int)]=some (.d (tD (List.replicate k c))):=by
 rw [← h]
 have e:=Hy (x:=[c]) (k:=k) hk (by simp)
 rw [List.flatten_replicate_singleton]at e
 exact e
theorem tw {cs:List Nat}{u:Str} (h:sT cs=u):D.str u=tD cs:=congrArg D.str h.symm
theorem mk8 {a b c:List Nat}:O.lst [.d (.str ""),.d (.str "0"),.d (.str "-0"),.d (.str "00"),.d (.str "01"),.d (.str "-1"),.d (.str "+1"),.d (tD a),.d (tD b),.d (tD c)]=bE [[],[48],[45,48],[48,48],[48,49],[45,49],[43,49],a,b,c]:=by
 rw [tw (cs:=[]) (u:=Str.ofString "") (by decide +kernel),tw (cs:=[48]) (u:=Str.ofString "0") (by decide +kernel),tw (cs:=[45,48]) (u:=Str.ofString "-0") (by decide +kernel),tw (cs:=[48,48]) (u:=Str.ofString "00") (by decide +kernel),tw (cs:=[48,49]) (u:=Str.ofString "01") (by decide +kernel),tw (cs:=[45,49]) (u:=Str.ofString "-1") (by decide +kernel),tw (cs:=[43,49]) (u:=Str.ofString "+1") (by decide +kernel)]
 rfl
theorem Oq {a b:List Nat}:D.lst [tD a,tD b,.str "-",.str "--1",.str "1.0",.str "x",.str "X"] = .lst ([a,b,[45],[45,45,49],[49,46,48],[120],[88]].map tD):=by
 rw [tw (cs:=[45]) (u:=Str.ofString "-") (by decide +kernel),tw (cs:=[45,45,49]) (u:=Str.ofString "--1") (by decide +kernel),tw (cs:=[49,46,48]) (u:=Str.ofString "1.0") (by decide +kernel),tw (cs:=[120]) (u:=Str.ofString "x") (by decide +kernel),tw (cs:=[88]) (u:=Str.ofString "X") (by decide +kernel)]
 rfl
theorem Md:D.lst [.str "abcdefgh",.str "abcdefghi",.str "1 2",.str "1_0"] = .lst ([[97,98,99,100,101,102,103,104],[97,98,99,100,101,102,103,104,105],[49,32,50],[49,95,48]].map tD):=by
 rw [tw (cs:=[97,98,99,100,101,102,103,104]) (u:=Str.ofString "abcdefgh") (by decide +kernel),tw (cs:=[97,98,99,100,101,102,103,104,105]) (u:=Str.ofString "abcdefghi") (by decide +kernel),tw (cs:=[49,32,50]) (u:=Str.ofString "1 2") (by decide +kernel),tw (cs:=[49,95,48]) (u:=Str.ofString "1_0") (by decide +kernel)]
 rfl
theorem xJ {x:List Nat} (h:x.length≤1000):i7 .add [.str "-",tD x]=some (.d (tD (45::x))):=by
 rw [tw (cs:=[45]) (u:=Str.ofString "-") (by decide +kernel),sC (by simp; omega)]
 rfl
theorem Ot:bo ΦV hV [s0,s1,s2,s3,s4,s5,s6,s7] = .ok .nx [s0,s1,s2,s3,s4,s5,s6,some (bE (iu.take 10))]:=by
 have e:=v8 (s0:=s0) (s1:=s1) (s2:=s2) (s3:=s3) (s4:=s4) (s5:=s5) (s6:=s6) (s7:=s7) (sL (c:=49) (k:=40) (u:=Str.ofString "1") (by decide +kernel) (by omega)) (sL (c:=49) (k:=41) (u:=Str.ofString "1") (by decide +kernel) (by omega)) (sL (c:=57) (k:=40) (u:=Str.ofString "9") (by decide +kernel) (by omega)) (xJ (by simp))
 rw [mk8]at e
 exact e
theorem Ou:bo ΦV hW [s0,s1,s2,s3,s4,s5,s6,some (bE (iu.take 10))] = .ok .nx [s0,s1,s2,s3,s4,s5,s6,some (bE (iu.take 17))]:=v9 (s0:=s0) (s1:=s1) (s2:=s2) (s3:=s3) (s4:=s4) (s5:=s5) (s6:=s6) aE (sL (c:=57) (k:=41) (u:=Str.ofString "9") (by decide +kernel) (by omega)) (xJ (by simp)) (sL (c:=50) (k:=5000) (u:=Str.ofString "2") (by decide +kernel) (by omega)) (by
 rw [Oq,iX (by simp [iu])]
 rfl)
theorem Me:bo ΦV gB [s0,s1,s2,s3,s4,s5,s6,some (bE (iu.take 17))] = .ok .nx [s0,s1,s2,s3,s4,s5,s6,some (bE iu)]:=v10 (s0:=s0) (s1:=s1) (s2:=s2) (s3:=s3) (s4:=s4) (s5:=s5) (s6:=s6) aE (by
 rw [Md,iX (by simp [iu])]
 rfl)
end PV.K74
namespace PV.K74
open PySem L2 PL _root_.K74 PV.K1 PV.M1 PV.N1 PV.K72 PV.K71
open PV.K73 (fb eI qH m5 C6)
variable {o o1 o2:O}{LS:List (List Nat)}{x y w:List Nat}{a b:Nat}
theorem jM:∀ {A B:List (List Nat)},(fb (A++B)).length=(fb A).length+(fb B).length
 | [],B=>by simp [fb]
 | x::A,B=>by
  rw [List.cons_append,eI,eI,List.length_append,List.length_append,List.length_cons,List.length_cons,jM (A:=A) (B:=B)]
  omega
theorem sM:(fb [x]).length=x.length+1:=by simp [fb]
theorem F8 (h:LS[a]?=some x):(fb LS).length=(fb (LS.take a)).length+(x.length+1)+(fb (LS.drop (a+1))).length:=by
 have e:LS=LS.take a++[x]++LS.drop (a+1):=by
  obtain⟨h1,h2⟩:=List.getElem?_eq_some_iff.mp h
  rw [List.append_assoc,List.singleton_append,← h2,← List.drop_eq_getElem_cons h1,List.take_append_drop]
 have h3:(fb LS).length=(fb (LS.take a++[x]++LS.drop (a+1))).length:=congrArg (fun l=>(fb l).length) e
 rw [h3,jM,jM,sM]
theorem HK:(fb LS).length=(fb (LS.take a)).length+(fb (LS.drop a)).length:=by
 rw [← jM,List.take_append_drop]
theorem vU {d:Nat}:∀ {ps:List (List Nat)},ps≠[]→(sF d ps).length+1=(ps.map fun p=>p.length+1).sum
 | [],h=>absurd rfl h
 | [x],_=>by simp [sF]
 | x::y::r,_=>by
  have ih:=vU (d:=d) (ps:=y::r) (by simp)
  rw [oU (by simp),List.length_append,List.length_cons,List.map_cons,List.sum_cons]
  omega
theorem Dj {d c:Nat}:∀ {ps:List (List Nat)},c∈sF d ps→c=d∨∃ p∈ps,c∈p
 | [],h=>by cases h
 | [x],h=>.inr ⟨x,by simp,h⟩
 | x::y::r,h=>by
  rw [oU (by simp)]at h
  rcases List.mem_append.mp h with h | h
  ·exact .inr ⟨x,by simp,h⟩
  ·rcases List.mem_cons.mp h with h | h
   ·exact .inl h
   ·rcases Dj h with h | ⟨p,hp,h⟩
    ·exact .inl h
    ·exact .inr ⟨p,List.mem_cons_of_mem _ hp,h⟩
structure LB (T M:Nat) (LS:List (List Nat)):Prop where
 n:LS.length≤M
 t:(fb LS).length≤T
 k:∀ x∈LS,10∉x
theorem kg {ps qs:List (List Nat)}{d:Nat} (hp:ps≠[]) (h:(qs.map fun p=>p.length+1).sum≤(ps.map fun p=>p.length+1).sum+5001):(sF d qs).length≤(sF d ps).length+5001:=by
 have h1:=vU (d:=d) hp
 by_cases q:qs = []
 ·subst q
  simp [sF]
 ·have h2:=vU (d:=d) q
  omega
theorem sum_take {f:List Nat→Nat}{ps:List (List Nat)}{k:Nat}:(ps.map f).sum=((ps.take k).map f).sum+((ps.drop k).map f).sum:=by
 rw [← List.sum_append,← List.map_append,List.take_append_drop]
theorem Dk {f:List Nat→Nat}{ps:List (List Nat)}{k:Nat}:((ps.drop (k+1)).map f).sum≤((ps.drop k).map f).sum:=by
 cases h:ps.drop k with
 | nil =>
  have:ps.drop (k+1) = []:=by
   rw [List.drop_eq_nil_iff]at h ⊢
   omega
  rw [this]
  exact Nat.le_refl _
 | cons p r =>
  have:ps.drop (k+1)=r:=by
   rw [← List.tail_drop,h]
   rfl
  rw [this,List.map_cons,List.sum_cons]
  omega
end PV.K74
namespace PV.K74
open PySem L2 PL _root_.K74 PV.K1 PV.M1 PV.N1 PV.K72 PV.K71
open PV.K73 (fb eI qH m5 C6)
theorem F9 {c:Nat}:∀ ps:List (List Nat),jc c ps=sF c ps
 | []=>rfl
 | [x]=>rfl
 | x::y::r=>by
  show x++c::jc c (y::r)=x++c::sF c (y::r)
  rw [F9 (y::r)]
theorem HL {ps:List (List Nat)} (h1:ps.length≤1000000) (h2:((ps.map sT).map (·.length)).sum≤1000000):qp .join [.str " ",.lst (ps.map tD)]=some (.d (tD (sF 32 ps))):=by
 rw [iS,vK]
 dsimp only
 have h3:(Str.ofString " ").length=1:=by decide +kernel
 rw [h3,List.length_map,if_pos (by omega)]
 unfold Txt.join
 rw [StrLaws.glued_eq_join,show Str.ofString " " = sT [32]by decide +kernel,zF,F9]
theorem HM (ps:List (List Nat)):((ps.map sT).map (·.length)).sum≤(ps.map fun p=>p.length+1).sum:=by
 induction ps with
 | nil=>simp
 | cons p ps ih =>
  rw [List.map_cons,List.map_cons,List.sum_cons,List.map_cons,List.sum_cons,cq]
  omega
theorem zU (ps:List (List Nat)):ps.length≤(ps.map fun p=>p.length+1).sum:=by
 induction ps with
 | nil=>simp
 | cons p ps ih =>
  rw [List.map_cons,List.sum_cons,List.length_cons]
  omega
variable {o:O}{LS:List (List Nat)}
theorem JI:∀ e∈vA,e.cps.toList.length≤10∧10∉e.cps.toList:=by decide +kernel
theorem JJ:∀ e∈vB,e.cps.toList.length≤10∧10∉e.cps.toList:=by decide +kernel
theorem Mf {n T M:Nat} (g:Gd n o) (hn:n < 2 ^ 29) (h:LB T M LS) (hT:T≤40000) (hM:M≤100):∃ (LS':List (List Nat)) (o':O),LB (2 * T+6000) (M+1) LS'∧Gd (n+6) o'∧hJ [o,bE LS] = .ok (bE LS') [o',bE LS]:=by
 have hN:=h.n
 have hTT:=h.t
 have tkP:∀ {i ρ},aj.taken (bE LS) i ρ=ρ.set i none:=fun {i ρ}=>gI
 have hio:∀ {o':O}{x2 x3 x4 x5 x6 x7:Option O},bp [o,bE LS] [some o',some (bE LS),x2,x3,x4,x5,x6,x7]=some [o',bE LS]:=fun {_ _ _ _ _ _ _}=>by
  obtain⟨ls,cs,r,t,rfl⟩:=g.st
  rfl
 have hrun:∀ {v:O}{o':O}{x2 x3 x4 x5 x6 x7:Option O},bC ΦV [fM,jk,jl,fN,fO,jm,jn,hV,hW,gB,eU,gC] [some o,some (bE LS),none,none,none,none,none,none] = .ok (.rt v) [some o',some (bE LS),x2,x3,x4,x5,x6,x7]→hJ [o,bE LS] = .ok v [o',bE LS]:=fun {v o' x2 x3 x4 x5 x6 x7} q=>by
  refine(aI (by rfl) (by
   obtain⟨ls,cs,r,t,rfl⟩:=g.st
   rfl)).trans ?_
  exact bQ AE rfl q hio
 have heq:=C6 (LS:=LS)
 by_cases hE:LS = []
 ·rw [hE]at heq
  obtain⟨e,o1,e1,he,gd1⟩:=FO (es:=vA) g (by omega) (by simp) (by simp)
  obtain⟨k1,k2⟩:=JI e he
  have k1:(ss e).length≤10:=k1
  have e1:b8 [o,.lst (vA.map bL)] = .ok (.d (tD (ss e))) [o1,.lst (vA.map bL)]:=by
   rw [← PV.K71.FR]
   exact e1
  have c1:=Og (s2:=none) (s3:=none) (s4:=none) (s5:=none) (s6:=none) (s7:=none) (P:=bE LS) aE tkP (by rw [hE]; exact heq) (xA g) e1
  refine⟨[ss e],o1,⟨by simp,by rw [sM]; omega,fun x hx=>?_⟩,gd1.mono (by omega),hrun (aL c1)⟩
  rw [List.mem_singleton.mp hx]
  exact k2
 ·have heq:aB .eq (.lst (LS.map tD)) (.lst [])=some false:=by
   rw [heq]
   cases LS with
   | nil=>exact absurd rfl hE
   | cons x xs=>rfl
  have hpos:0 < LS.length:=List.length_pos_iff.mpr hE
  have c1:=Oh (s0:=some o) (s2:=none) (s3:=none) (s4:=none) (s5:=none) (s6:=none) (s7:=none) (P:=bE LS) aE tkP heq
  obtain⟨A,o1,e1,a0,a1,gd1⟩:=take (s:=(LS.length:Int)) g (by omega) (by omega) (by omega)
  obtain⟨B,o2,e2,b0,b1,gd2⟩:=take (s:=(LS.length:Int)) gd1 (by omega) (by omega) (by omega)
  obtain⟨C,o3,e3,z0,z1,gd3⟩:=take (s:=5) gd2 (by omega) (by omega) (by omega)
  obtain⟨a,rfl⟩:∃ a:Nat,A=(a:Int):=⟨A.toNat,by omega⟩
  obtain⟨b,rfl⟩:∃ b:Nat,B=(b:Int):=⟨B.toNat,by omega⟩
  have hlen:iw .len (.lst (LS.map tD))=some (.d (.int (LS.length:Int))):=by rw [bg,List.length_map]
  have c2:=v2 (s2:=none) (s3:=none) (s4:=none) (s5:=none) (s6:=none) (s7:=none) (P:=bE LS) aE tkP (xA g) (xA gd1) hlen e1 e2
  have c3:=v3 (s1:=some (bE LS)) (s2:=some (.d (.int (a:Int)))) (s3:=some (.d (.int (b:Int)))) (s4:=none) (s5:=none) (s6:=none) (s7:=none) (xA gd2) e3
  have hto:=qH (LS:=LS) (a:=a) (by omega)
  have hfr:=m5 (LS:=LS) (a:=a)
  have hf1:=m5 (LS:=LS) (a:=a+1)
  have lt:(LS.take a).length=a:=by rw [List.length_take]; omega
  have ld:(LS.drop a).length=LS.length - a:=List.length_drop ..
  have ld1:(LS.drop (a+1)).length=LS.length - (a+1):=List.length_drop ..
  have mt:∀ x∈LS.take a,10∉x:=fun x hx=>h.k x (List.mem_of_mem_take hx)
  have md:∀ {b:Nat},∀ x∈LS.drop b,10∉x:=fun {b} x hx=>h.k x (List.mem_of_mem_drop hx)
  have hcut:=HK (LS:=LS) (a:=a)
  have hat:∀ {i:Nat},i < LS.length→∃ x,LS[i]?=some x∧x∈LS∧bU [.lst (LS.map tD),.int (i:Int)]=some (.d (tD x)):=fun {i} hi=>by
   refine⟨LS[i],List.getElem?_eq_getElem hi,List.getElem_mem hi,?_⟩
   rw [I7,oP,atI_nat (j:=i) (v:=LS[i]) (List.getElem?_eq_getElem hi)]
   rfl
  have fin:∀ {e:List Nat}{R:List (List Nat)},10∉e→(∀ x∈R,10∉x)→∀ x∈LS.take a++[e]++R,10∉x:=fun {e R} h1 h2 x hx=>by
   rcases List.mem_append.mp hx with hx | hx
   ·rcases List.mem_append.mp hx with hx | hx
    ·exact mt x hx
    ·rw [List.mem_singleton.mp hx]
     exact h1
   ·exact h2 x hx
  by_cases q0:C=0
  ·obtain⟨y,hy,hym,hyx⟩:=hat (i:=b) (by omega)
   have hyl:=F8 hy
   have c4:=Oi (s0:=some o3) (s5:=none) (s6:=none) (s7:=none) (P:=bE LS) (M:=C) aE eX tkP (by rw [tu,decide_eq_true q0]) hto aE hyx fL (iX (qs:=[y]) (by simp; omega)) aE hfr aE (iX (by rw [List.length_append]; simp; omega))
   refine⟨_,o3,⟨by rw [List.length_append,List.length_append]; simp; omega,by rw [jM,jM,sM]; omega,fin (h.k y hym) md⟩,gd3.mono (by omega),hrun (af c1 (af c2 (af c3 (aL c4))))⟩
  have c4:=Oj (s0:=some o3) (s1:=some (bE LS)) (s2:=some (.d (.int (a:Int)))) (s3:=some (.d (.int (b:Int)))) (s5:=none) (s6:=none) (s7:=none) (M:=C) (by rw [tu,decide_eq_false q0])
  by_cases q1:C=1
  ·obtain⟨e,o4,e4,he,gd4⟩:=FO (es:=vB) gd3 (by omega) (by simp) (by simp)
   obtain⟨k1,k2⟩:=JJ e he
   have k1:(ss e).length≤10:=k1
   have e4:b8 [o3,.lst (vB.map bL)] = .ok (.d (tD (ss e))) [o4,.lst (vB.map bL)]:=by
    rw [← PV.K71.FR]
    exact e4
   have c5:=Ol (s3:=some (.d (.int (b:Int)))) (s5:=none) (s6:=none) (s7:=none) (P:=bE LS) (A:=(a:Int)) (M:=C) aE eX tkP (xA gd3) (by rw [tu,decide_eq_true q1]) hto aE e4 (iX (qs:=[ss e]) (by simp; omega)) aE hfr aE (iX (by rw [List.length_append]; simp; omega))
   refine⟨_,o4,⟨by rw [List.length_append,List.length_append]; simp; omega,by rw [jM,jM,sM]; omega,fin k2 md⟩,gd4.mono (by omega),hrun (af c1 (af c2 (af c3 (af c4 (aL c5)))))⟩
  have c5:=Om (s0:=some o3) (s1:=some (bE LS)) (s2:=some (.d (.int (a:Int)))) (s3:=some (.d (.int (b:Int)))) (s5:=none) (s6:=none) (s7:=none) (M:=C) (by rw [tu,decide_eq_false q1])
  obtain⟨x,hx,hxm,hxx⟩:=hat (i:=a) (by omega)
  have hxl:=F8 hx
  have hsp:=AJ (x:=x) (d:=32) (w:=Str.ofString " ") (by decide +kernel) (by omega)
  have hpn:=vP (d:=32) (l:=x)
  have hpm:∀ p∈bj 32 x,10∉p:=fun p hp hc=>h.k x hxm ((lg p hp).2.2 10 hc)
  have hjn:=vT (d:=32) x
  have hsum:=vU (d:=32) hpn
  rw [hjn]at hsum
  have hps:=zU (bj 32 x)
  have c6:=v6 (s0:=some o3) (s3:=some (.d (.int (b:Int)))) (s4:=some (.d (.int C))) (s5:=none) (s6:=none) (s7:=none) (P:=bE LS) (A:=(a:Int)) aE tkP hxx fL hsp rfl
  generalize bj 32 x=ps at *
  have hpp:0 < ps.length:=List.length_pos_iff.mpr hpn
  obtain⟨D,o4,e4,d0,d1,gd4⟩:=take (s:=(ps.length:Int)) gd3 (by omega) (by omega) (by omega)
  obtain⟨d,rfl⟩:∃ d:Nat,D=(d:Int):=⟨D.toNat,by omega⟩
  have hplen:iw .len (.lst (ps.map tD))=some (.d (.int (ps.length:Int))):=by rw [bg,List.length_map]
  have c7:=v7 (s1:=some (bE LS)) (s2:=some (.d (.int (a:Int)))) (s3:=some (.d (.int (b:Int)))) (s4:=some (.d (.int C))) (s6:=none) (s7:=none) (Q:=bE ps) aE eX (fun {i ρ}=>gI) (xA gd3) hplen e4
  have c8:=Ot (s0:=some o4) (s1:=some (bE LS)) (s2:=some (.d (.int (a:Int)))) (s3:=some (.d (.int (b:Int)))) (s4:=some (.d (.int C))) (s5:=some (bE ps)) (s6:=some (.d (.int (d:Int)))) (s7:=none)
  have c9:=Ou (s0:=some o4) (s1:=some (bE LS)) (s2:=some (.d (.int (a:Int)))) (s3:=some (.d (.int (b:Int)))) (s4:=some (.d (.int C))) (s5:=some (bE ps)) (s6:=some (.d (.int (d:Int))))
  have c10:=Me (s0:=some o4) (s1:=some (bE LS)) (s2:=some (.d (.int (a:Int)))) (s3:=some (.d (.int (b:Int)))) (s4:=some (.d (.int C))) (s5:=some (bE ps)) (s6:=some (.d (.int (d:Int))))
  have pto:=qH (LS:=ps) (a:=d) (by omega)
  have hst:=sum_take (f:=fun p=>p.length+1) (ps:=ps) (k:=d)
  have hsd:=Dk (f:=fun p=>p.length+1) (ps:=ps) (k:=d)
  have last:∀ (o5:O) (qs:List (List Nat)),(qs.map fun p=>p.length+1).sum≤(ps.map fun p=>p.length+1).sum+5001→(∀ p∈qs,10∉p)→∃ LS':List (List Nat),LB (2 * T+6000) (M+1) LS'∧bo ΦV gC [some o5,some (bE LS),some (.d (.int (a:Int))),some (.d (.int (b:Int))),some (.d (.int C)),some (bE qs),some (.d (.int (d:Int))),some (bE iu)] = .ok (.rt (bE LS')) [some o5,some (bE LS),some (.d (.int (a:Int))),some (.d (.int (b:Int))),some (.d (.int C)),some (bE qs),some (.d (.int (d:Int))),some (bE iu)]:=by
   intro o5 qs hq hqn
   have hwl:=kg (d:=32) hpn hq
   rw [hjn]at hwl
   have h1:=HM qs
   have h2:=zU qs
   refine⟨_,⟨by rw [List.length_append,List.length_append]; simp; omega,by rw [jM,jM,sM]; omega,fin (e:=sF 32 qs) (R:=LS.drop (a+1)) (fun m=>?_) md⟩,Oo (P:=bE LS) (Q:=bE qs) (A:=(a:Int)) (N:=((a+1:Nat):Int)) aE eX tkP aE eX (fun {i ρ}=>gI) hto aE rfl (HL (by omega) (by omega)) (iX (qs:=[sF 32 qs]) (by simp; omega)) aE rfl hf1 aE (iX (by rw [List.length_append]; simp; omega))⟩
   rcases Dj m with m | ⟨p,hp,m⟩
   ·omega
   ·exact hqn p hp m
  by_cases q2:C=2
  ·have pf1:=m5 (LS:=ps) (a:=d+1)
   have c11:=Mb (s0:=some o4) (s1:=some (bE LS)) (s2:=some (.d (.int (a:Int)))) (s3:=some (.d (.int (b:Int)))) (s7:=some (bE iu)) (Q:=bE ps) (M:=C) (A:=(d:Int)) (N:=((d+1:Nat):Int)) aE eX (fun {i ρ}=>gI) (by rw [tu,decide_eq_true q2]) pto aE rfl pf1 aE (iX (by rw [List.length_take,List.length_drop]; omega))
   obtain⟨LS',hb,c12⟩:=last o4 (ps.take d++ps.drop (d+1)) (by rw [List.map_append,List.sum_append]; omega) (fun p hp=>by
    rcases List.mem_append.mp hp with hp | hp
    ·exact hpm p (List.mem_of_mem_take hp)
    ·exact hpm p (List.mem_of_mem_drop hp))
   exact⟨LS',o4,hb,gd4.mono (by omega),hrun (af c1 (af c2 (af c3 (af c4 (af c5 (af c6 (af c7 (af c8 (af c9 (af c10 (af c11 (aL c12))))))))))))⟩
  ·obtain⟨e,o5,e5,he,gd5⟩:=PV.K09.F6 (enc:=tD) (L:=iu) gd4 (by omega) (by simp [iu]) (by simp [iu])
   obtain⟨m1,m2⟩:=EN e he
   obtain⟨bb,hb3⟩:∃ bb:Bool,decide (C=3)=bb:=⟨_,rfl⟩
   have hj:i7 .add [.int (d:Int),.int (if bb then 1 else 0)]=some (.d (.int ((d+(if bb then 1 else 0):Nat):Int))):=by
    cases bb <;> rfl
   have pf1:=m5 (LS:=ps) (a:=d+(if bb then 1 else 0))
   have hsd2:((ps.drop (d+(if bb then 1 else 0))).map fun p=>p.length+1).sum≤((ps.drop d).map fun p=>p.length+1).sum:=by
    cases bb
    ·exact Nat.le_refl _
    ·exact hsd
   have c11:=Mc (s1:=some (bE LS)) (s2:=some (.d (.int (a:Int)))) (s3:=some (.d (.int (b:Int)))) (Q:=bE ps) (P:=bE iu) (M:=C) (A:=(d:Int)) aE eX (fun {i ρ}=>gI) (xA gd4) (fun {i ρ}=>gI) (by rw [tu,decide_eq_false q2]) pto aE e5 (iX (qs:=[e]) (by rw [List.length_take]; simp; omega)) aE (by rw [tu,hb3]) hj pf1 aE (iX (by rw [List.length_append,List.length_take,List.length_drop]; simp; omega))
   obtain⟨LS',hb,c12⟩:=last o5 (ps.take d++[e]++ps.drop (d+(if bb then 1 else 0))) (by rw [List.map_append,List.sum_append,List.map_append,List.sum_append]; simp only [List.map_cons,List.map_nil,List.sum_cons,List.sum_nil]; omega) (fun p hp=>by
    rcases List.mem_append.mp hp with hp | hp
    ·rcases List.mem_append.mp hp with hp | hp
     ·exact hpm p (List.mem_of_mem_take hp)
     ·rw [List.mem_singleton.mp hp]
      exact m2
    ·exact hpm p (List.mem_of_mem_drop hp))
   exact⟨LS',o5,hb,gd5.mono (by omega),hrun (af c1 (af c2 (af c3 (af c4 (af c5 (af c6 (af c7 (af c8 (af c9 (af c10 (af c11 (aL c12))))))))))))⟩
end PV.K74
namespace PV.K74
open PySem L2 PL _root_.K74 PV.K1 PV.M1 PV.N1 PV.K72 PV.K71
open PV.K73 (fb)
open PV.RN (nR gW jw xP)
open PV.K61 (pairD br cA hR)
variable {o o1 o2:O}{gs:List Str}
noncomputable abbrev ΦL:cU:=cQ [(20,gU),(22,aU),(25,iK),(209,dS),(215,hJ),(272,bP),(485,aR),(488,aS),(489,eC)]
variable {s0 s1 s2 s3 s4 s5 s6 s7 s8 s9 s10 s11 s12 s13 s14:Option O}
theorem w2 {n:Nat} (g:Gd n o) (hn:n < 2 ^ 26):∃ (gs:List Str) (o':O),Gd (n+300) o'∧gs.length≤15∧gs.Nodup∧(∀ s∈gs,bt s)∧bo ΦL mD [s0,s1,some (o),s3,s4,s5,s6,s7,s8,s9,s10,s11,s12,s13,s14] = .ok .nx [s0,s1,some (o'),some (.lst (gs.map bL)),s4,s5,s6,s7,s8,s9,s10,s11,s12,s13,s14]:=by
 obtain⟨a,o1,e1,a0,a1,g1⟩:=take (s:=16) g (by omega) (by omega) (by omega)
 obtain⟨gs,o2,e2,l2,nd2,ok2,g2⟩:=names (m:=a) g1 (by omega) a0 (by omega)
 refine⟨gs,o2,g2.mono (by omega),by omega,nd2,ok2,?_⟩
 have tk:=fun {i:Nat}{ρ:Env}=>xA g (i:=i) (ρ:=ρ)
 have tk1:=fun {i:Nat}{ρ:Env}=>xA g1 (i:=i) (ρ:=ρ)
 simp_arith [mD,tk]
 try simp_arith [e1,tk1]
 try simp_arith [e2,tk1]
theorem Ov {x:Str}{a b:Int} (tk:∀ {i ρ},aj.taken o i ρ=ρ.set i none) (tk1:∀ {i ρ},aj.taken o1 i ρ=ρ.set i none) (h1:eC [o] = .ok (.d (.int a)) [o1]) (h2:eC [o1] = .ok (.d (.int b)) [o2]):(bnd (aH (.nm 6) (.str x) [s0,s1,some (o),s3,s4,s5,s6,s7,s8,s9,s10,s11,s12,s13,s14]) fun ρ=>(dW ΦL [] ρ).bind fun b ρ=>jR b ((ev ΦL ko ρ).bind fun o ρ=>.ok (some o) (ar [6] ρ)) (.ok none (ar [6] ρ))) = .ok (some (.d (.tup [.str x,.tup [.int a,.int b]]))) [s0,s1,some (o2),s3,s4,s5,none,s7,s8,s9,s10,s11,s12,s13,s14]:=by
 simp_arith [ko,tk]
 try simp_arith [h1,h2,tk,tk1]
theorem MS:∀ (xs:List Str) (n:Nat) (o:O) (s6:Option O),Gd n o→n+10 * xs.length < 2 ^ 28→∃ (zs:List (Str×(Int×Int))) (o':O),zs.map Prod.fst=xs∧(∀ z∈zs,z.2.1.natAbs < 10 ^ 40∧z.2.2.natAbs < 10 ^ 40)∧Gd (n+10 * xs.length) o' ∧
  bq (fun x ρ=>bnd (aH (.nm 6) x ρ) fun ρ=>(dW ΦL [] ρ).bind fun b ρ=>jR b ((ev ΦL ko ρ).bind fun o ρ=>.ok (some o) (ar [6] ρ)) (.ok none (ar [6] ρ))) (xs.map .str) [s0,s1,some (o),s3,s4,s5,none,s7,s8,s9,s10,s11,s12,s13,s14] = .ok (zs.map fun z=>.d (.tup [.str z.1,pairD z.2])) [s0,s1,some (o'),s3,s4,s5,none,s7,s8,s9,s10,s11,s12,s13,s14]
 | [],n,o,s6,g,hn=>⟨[],o,rfl,(fun z hz=>by cases hz),g,rfl⟩
 | x::xs,n,o,s6,g,hn=>by
  rw [List.length_cons]at hn
  obtain⟨a,o1,g1,b1,e1⟩:=number g (by omega)
  obtain⟨b,o2,g2,b2,e2⟩:=number g1 (by omega)
  obtain⟨zs,o3,h1,h2,g3,e3⟩:=MS xs (n+5+5) o2 none g2 (by omega)
  have ei:=Ov (s0:=s0) (s1:=s1) (s3:=s3) (s4:=s4) (s5:=s5) (s6:=none) (s7:=s7) (s8:=s8) (s9:=s9) (s10:=s10) (s11:=s11) (s12:=s12) (s13:=s13) (s14:=s14) (x:=x) (xA g) (xA g1) e1 e2
  refine⟨(x,(a,b))::zs,o3,by rw [List.map_cons,h1],fun z hz=>?_,g3.mono (by rw [List.length_cons]; omega),?_⟩
  ·rcases List.mem_cons.mp hz with rfl | hz
   ·exact⟨b1,b2⟩
   ·exact h2 z hz
  ·rw [List.map_cons,bq,ei]
   simp only [Res.bind_ok]
   rw [e3]
   rfl
end PV.K74
namespace PV.K74
open PySem L2 PL _root_.K74 PV.K1 PV.M1 PV.N1 PV.K72 PV.K71
open PV.K73 (fb)
open PV.RN (nR gW jw xP)
open PV.K61 (pairD br cA hR)
variable {o o1 o2 P P2 F:O}{gs:List Str}{XS:List D}{os:List O}{E1 E2 TD PD:D}{N M:Int}
variable {s0 s1 s2 s3 s4 s5 s6 s7 s8 s9 s10 s11 s12 s13 s14:Option O}
theorem w3 (hf:P.frz = .lst XS) (hs:P.shal=P) (tk:∀ {i ρ},aj.taken P i ρ=ρ.set i none) (he:bq (fun x ρ=>bnd (aH (.nm 6) x ρ) fun ρ=>(dW ΦL [] ρ).bind fun b ρ=>jR b ((ev ΦL ko ρ).bind fun o ρ=>.ok (some o) (ar [6] ρ)) (.ok none (ar [6] ρ))) XS [s0,s1,some (o),none,s4,s5,none,s7,s8,s9,s10,s11,s12,s13,s14] = .ok os [s0,s1,some (o1),none,s4,s5,none,s7,s8,s9,s10,s11,s12,s13,s14]) (hf2:D.lst (os.map O.frz)=E1) (hd:jZ [E1]=some F):bo ΦL jo [s0,s1,some (o),some (P),s4,s5,s6,s7,s8,s9,s10,s11,s12,s13,s14] = .ok .nx [s0,s1,some (o1),some (P),some (F),s5,s6,s7,s8,s9,s10,s11,s12,s13,s14]:=by
 simp_arith [fR]at he
 simp_arith [jo,hf,hs,tk]
 try simp_arith [hf,hs,tk,he,hf2,hd]
theorem w4:bo ΦL mE [s0,s1,s2,s3,s4,s5,s6,s7,s8,s9,s10,s11,s12,s13,s14] = .ok .nx [s0,s1,s2,s3,s4,some (bE []),s6,s7,s8,s9,s10,s11,s12,s13,s14]:=by
 have h:bE [] = .lst []:=rfl
 rw [h]
 simp_arith [mE]
theorem Ga {i:Int} (h:i.natAbs < 10 ^ 40):l0 [.int i]=some (.d (tD (nT i))):=by
 show(if i.natAbs.log2 < 1920 then some (O.d (.str (Str.ofString (toString i))))else none)=_
 rw [if_pos (C3 h),C2]
theorem Ow {x:Str}{N1 N2 N3 N4:D}{X1 X2:D} (hf:F.frz=PD) (tk:∀ {i ρ},aj.taken F i ρ=ρ.set i none) (hx:bU [PD,.str x]=some (.d (.tup [.int N,.int M]))) (hix:aJ F (.str x) (.d (.tup [.int N,.int M]))=F) (h1:l0 [.int N]=some (.d X1)) (h2:l0 [.int M]=some (.d X2)) (a1:i7 .add [.str x,.str " "]=some (.d N1)) (a2:i7 .add [N1,X1]=some (.d N2)) (a3:i7 .add [N2,.str " "]=some (.d N3)) (a4:i7 .add [N3,X2]=some (.d N4)) (hm:Bb .append P [.d N4]=some (.d .non,P2)) (ht:qg .append P=some ()) :
  (bnd (aH (.nm 6) (.str x) [s0,s1,s2,s3,some (F),some (P),s6,s7,s8,s9,s10,s11,s12,s13,s14]) fun ρ=>bC ΦL iZ ρ) = .ok .nx [s0,s1,s2,s3,some (F),some (P2),some (.d (.str x)),some (.d (.int N)),some (.d (.int M)),s9,s10,s11,s12,s13,s14]:=by
 simp_arith [iZ,hf,tk,-cR,-qg]
 try simp_arith [hf,tk,hx,hix,h1,h2,a1,a2,a3,a4,hm,ht,-cR,-qg]
theorem w5 {t6 t7 t8:Option O}{ds:List D}{SO:O} (hf:P.frz=PD) (hs:P.shal=P) (tk:∀ {i ρ},aj.taken P i ρ=ρ.set i none) (hsr:lI [PD]=some SO) (hso:SO.frz = .lst ds) (he:forL (fun x ρ=>bnd (aH (.nm 6) x ρ) fun ρ=>bC ΦL iZ ρ) ds [s0,s1,s2,some (P),some (F),some (bE []),s6,s7,s8,s9,s10,s11,s12,s13,s14] = .ok .nx [s0,s1,s2,some (P),some (F),some (P2),t6,t7,t8,s9,s10,s11,s12,s13,s14]):bo ΦL jq [s0,s1,s2,some (P),some (F),some (bE []),s6,s7,s8,s9,s10,s11,s12,s13,s14] = .ok .nx [s0,s1,s2,some (P),some (F),some (P2),t6,t7,t8,s9,s10,s11,s12,s13,s14]:=by
 have hw:jP (.lst ds)=some ds:=rfl
 generalize bE []=R at *
 simp only [dR,cX]at he
 simp_arith [jq,hf,tk]
 try simp_arith [hf,hs,tk,hsr,hso,hw,he]
theorem MT (h2:i7 .add [TD,.str "\n"]=some (.d E2)):(bnd (aH (.nm 14) TD [s0,s1,s2,s3,s4,s5,s6,s7,s8,s9,s10,s11,s12,s13,s14]) fun ρ=>(dW ΦL [] ρ).bind fun b ρ=>jR b ((ev ΦL mr ρ).bind fun o ρ=>.ok (some o) (ar [14] ρ)) (.ok none (ar [14] ρ))) = .ok (some (.d E2)) [s0,s1,s2,s3,s4,s5,s6,s7,s8,s9,s10,s11,s12,s13,none]:=by
 simp_arith [mr,-cR]
 try simp_arith [h2,-cR]
theorem MU (hf:P.frz = .lst XS) (hs:P.shal=P) (tk:∀ {i ρ},aj.taken P i ρ=ρ.set i none) (he:bq (fun x ρ=>bnd (aH (.nm 14) x ρ) fun ρ=>(dW ΦL [] ρ).bind fun b ρ=>jR b ((ev ΦL mr ρ).bind fun o ρ=>.ok (some o) (ar [14] ρ)) (.ok none (ar [14] ρ))) XS [s0,s1,s2,s3,s4,none,s6,s7,s8,s9,s10,s11,s12,s13,none] = .ok os [s0,s1,s2,s3,s4,none,s6,s7,s8,s9,s10,s11,s12,s13,none]) (hf2:D.lst (os.map O.frz)=E1) (hj:cy .join (.str "")=some ()) (h2:qp .join [.str "",E1]=some (.d E2)):bo ΦL jt [s0,s1,s2,s3,s4,some (P),s6,s7,s8,s9,s10,s11,s12,s13,s14] = .ok .nx [s0,s1,s2,s3,s4,some (P),s6,s7,s8,some (.d E2),s10,s11,s12,s13,s14]:=by
 simp_arith [fR]at he
 simp_arith [jt,hf,hs,tk,-iS,-cy]
 try simp_arith [hf,hs,tk,he,hf2,hj,h2,-iS,-cy]
theorem w6 {LS:List (List Nat)} (h1:LS.length≤400) (h2:∀ x∈LS,x.length≤9000):bo ΦL jt [s0,s1,s2,s3,s4,some (bE LS),s6,s7,s8,s9,s10,s11,s12,s13,s14] = .ok .nx [s0,s1,s2,s3,s4,some (bE LS),s6,s7,s8,some (.d (tD (fb LS))),s10,s11,s12,s13,s14]:=by
 have hnl:D.str "\n" = tD [10]:=congrArg D.str (show Str.ofString "\n" = sT [10]by decide +kernel)
 refine MU (XS:=LS.map tD) (os:=LS.map fun x=>.d (tD (x++[10]))) (E1:=.lst ((LS.map fun x=>x++[10]).map tD)) aE eX (fun {i ρ}=>gI) (comp_map fun x hx=>MT (by rw [hnl,sC (by have:=h2 x hx; simp; omega)])) ?_ rfl (PV.K73.C5 (by rw [List.length_map]; omega) ?_)
 ·rw [List.map_map,List.map_map]
  rfl
 ·intro p hp
  obtain⟨x,hx,rfl⟩:=List.mem_map.mp hp
  have:=h2 x hx
  simp
  omega
end PV.K74
namespace PV.K74
open PySem L2 PL _root_.K74 PV.K1 PV.M1 PV.N1 PV.K72 PV.K71
variable {o P P2 F F2 SO:O}{os:List O}{E1 E2 TD PD GD SD:D}
variable {s0 s1 s2 s3 s4 s5 s6 s7 s8 s9 s10 s11 s12 s13 s14:Option O}
theorem w7 (tk:∀ {i ρ},aj.taken F i ρ=ρ.set i none) (h1:aR [F] = .ok (.d TD) [.d PD]) (h2:aB .ne TD TD=some false) (h3:aS [.d TD] = .ok F2 [.d TD]) (hf2:F2.frz=GD) (h4:aB .ne GD PD=some false):bo ΦL ju [s0,s1,s2,s3,some (F),s5,s6,s7,s8,some (.d TD),s10,s11,s12,s13,s14] = .ok .nx [s0,s1,s2,s3,some (.d PD),s5,s6,s7,s8,some (.d TD),s10,s11,s12,s13,s14]:=by
 simp_arith [ju,tk,-dY]
 try simp_arith [tk,h1,h2,h3,hf2,h4,-dY]
theorem w8 (h3:aS [.d TD] = .ok F2 [.d TD]) (hf2:F2.frz=GD) (hl:iw .list GD=some P2) (hp2:P2.frz=SD) (hf:P.frz=PD) (hs:P.shal=P) (tk:∀ {i ρ},aj.taken P i ρ=ρ.set i none) (hsr:lI [PD]=some SO) (hso:SO.frz=SD) (h4:aB .ne SD SD=some false):bo ΦL jv [s0,s1,s2,some (P),s4,s5,s6,s7,s8,some (.d TD),s10,s11,s12,s13,s14] = .ok .nx [s0,s1,s2,some (P),s4,s5,s6,s7,s8,some (.d TD),s10,s11,s12,s13,s14]:=by
 simp_arith [jv,tk,hf,hs,-dY]
 try simp_arith [tk,h3,hf2,hl,hp2,hf,hs,hsr,hso,h4,-dY]
end PV.K74
namespace PV.K74
open PySem L2 PL _root_.K74 PV.K1 PV.M1 PV.N1 PV.K72 PV.K71
open PV.K73 (fb eI bc)
open PV.RN (nR gW jw xP)
open PV.K61 (pairD br cA hR)
variable {x:List Nat}{LS A:List (List Nat)}{gs ks:List Str}{h:Str→Int×Int}{k:Str}{p:Int×Int}
def xK (k:Str) (p:Int×Int):List Nat:=k.cps.toList++[32]++nT p.1++[32]++nT p.2
theorem HP (h:d7 x=true):∀ c∈x,c=45∨(48≤c∧c≤57):=by
 unfold d7 at h
 rw [Bool.and_eq_true]at h
 obtain⟨ha,hl,hu⟩:=sD h.1
 intro c hc
 by_cases q:x.take 1 = [45]
 ·obtain⟨cs,rfl⟩:=vM q
  have hd:lK (45::cs)=cs:=if_pos q
  rw [hd]at ha
  rcases List.mem_cons.mp hc with e | m
  ·exact .inl e
  ·exact .inr (ha c m)
 ·have hd:lK x=x:=if_neg q
  rw [hd]at ha
  exact .inr (ha c hc)
theorem zV {i:Int} (hi:i.natAbs < 10 ^ 40):10∉nT i∧32∉nT i:=by
 have h:=HP (pB hi).1
 exact⟨fun m=>by have:=h 10 m; omega,fun m=>by have:=h 32 m; omega⟩
theorem Gb (ok:bt k):10∉k.cps.toList∧32∉k.cps.toList:=⟨fun m=>absurd (ok.ab 10 m) (by decide +kernel),fun m=>absurd (ok.ab 32 m) (by decide +kernel)⟩
theorem JK (ok:bt k):dc k=true:=by
 unfold dc
 rw [decide_eq_true ok.lo,decide_eq_true ok.hi,Bool.true_and,Bool.true_and,List.all_eq_true]
 exact fun c hc=>decide_eq_true (ok.ab c hc)
abbrev Sm (p:Int×Int):Prop:=p.1.natAbs < 10 ^ 40∧p.2.natAbs < 10 ^ 40
theorem Dl:xK k p=k.cps.toList++32::(nT p.1++32::nT p.2):=by
 unfold xK
 simp
theorem HQ (ok:bt k) (hp:Sm p):10∉xK k p:=by
 rw [Dl]
 have h1:=(Gb ok).1
 have h2:=(zV hp.1).1
 have h3:=(zV hp.2).1
 simp only [List.mem_append,List.mem_cons]
 rintro(m | m | m | m | m)
 ·exact h1 m
 ·omega
 ·exact h2 m
 ·omega
 ·exact h3 m
theorem EO (ok:bt k) (hp:Sm p):(xK k p).length≤100:=by
 have a:=ml hp.1
 have b:=ml hp.2
 have c:k.cps.toList.length≤8:=ok.hi
 unfold xK
 simp only [List.length_append,List.length_cons,List.length_nil]
 omega
theorem vW (ok:bt k) (hp:Sm p):bj 32 (xK k p) = [k.cps.toList,nT p.1,nT p.2]:=by
 rw [Dl,mG (Gb ok).2,mG (zV hp.1).2,mZ (zV hp.2).2]
theorem yM (ok:bt k) (hp:Sm p):lh (xK k p)=k.cps.toList:=by
 unfold lh
 rw [vW ok hp]
 rfl
theorem HR (ok:bt k) (hp:Sm p):hY (xK k p)=k:=by
 unfold hY
 rw [yM ok hp]
 first | done | exact p7
theorem HS (ok:bt k) (hp:Sm p):rV (xK k p)=pairD p:=by
 unfold rV
 rw [vW ok hp]
 show D.tup [.int (valN (nT p.1)),.int (valN (nT p.2))]=_
 rw [(pB hp.1).2,(pB hp.2).2]
 rfl
theorem ER (ok:bt k) (hp:Sm p):qm (bj 32 (xK k p))=true:=by
 rw [vW ok hp]
 show(dc (sT k.cps.toList)&&(d7 (nT p.1)&&d7 (nT p.2)))=true
 rw [p7,JK ok,(pB hp.1).1,(pB hp.2).1]
 rfl
def cw (ks:List Str) (h:Str→Int×Int):List (List Nat):=ks.map fun k=>xK k (h k)
theorem xM:∀ (ks:List Str) (o:Option (List Nat)),(∀ k∈ks,bt k∧Sm (h k))→(ks.map fun k=>k.cps.toList).Pairwise (· < ·)→(∀ k∈ks,sG o k.cps.toList=true)→cK o (cw ks h)=none
 | [],o,_,_,_=>rfl
 | k::ks,o,hk,hp,hb=>by
  obtain⟨ok,sm⟩:=hk k List.mem_cons_self
  rw [List.map_cons,List.pairwise_cons]at hp
  have ih:=xM ks (some (lh (xK k (h k)))) (fun y hy=>hk y (List.mem_cons_of_mem _ hy)) hp.2 fun y hy=>by
   rw [yM ok sm]
   exact decide_eq_true (hp.1 _ (List.mem_map.mpr ⟨y,hy,rfl⟩))
  have ho:AS o (xK k (h k))=true:=by
   unfold AS
   rw [ER ok sm,yM ok sm,hb k List.mem_cons_self]
   rfl
  show cK o (xK k (h k)::cw ks h)=none
  rw [cK,if_pos ho,ih]
  rfl
theorem Dm (nd:gs.Nodup):((gs.mergeSort h9).map fun k=>k.cps.toList).Pairwise (· < ·):=by
 have h1:(gs.mergeSort h9).Pairwise fun x y=>h9 x y=true:=List.pairwise_mergeSort Ag Af _
 have h2:(gs.mergeSort h9).Nodup:=(List.mergeSort_perm gs h9).nodup_iff.mpr nd
 refine List.Pairwise.map _ (fun a b hab=>?_) (h1.and h2)
 obtain⟨q1,q2⟩:=hab
 have h3:a.cps.toList≤b.cps.toList:=of_decide_eq_true q1
 rcases List.le_iff_lt_or_eq.mp h3 with q | q
 ·exact q
 ·refine absurd ?_ q2
  have q3:=congrArg sT q
  rw [p7,p7]at q3
  exact q3
theorem yN:∀ {LS:List (List Nat)}{z:List Nat},(∀ x∈LS,10∉x)→10∉z→bj 10 (fb LS++z)=LS++[z]
 | [],z,_,hz=>mZ hz
 | x::LS,z,h,hz=>by
  rw [eI,List.append_assoc,List.cons_append,mG (h x List.mem_cons_self),yN (fun y hy=>h y (List.mem_cons_of_mem _ hy)) hz]
  rfl
theorem uJ (h:∀ x∈LS,10∉x):bj 10 (fb LS)=LS++[[]]:=by
 have:=yN (z:=[]) h (by simp)
 rw [List.append_nil]at this
 exact this
theorem AM (h:∀ x∈LS,10∉x):∃ (A:List (List Nat)) (z:List Nat),bj 10 (fb LS).dropLast=A++[z]∧(bc A z).length≤LS.length:=by
 rcases List.eq_nil_or_concat LS with q | ⟨A,y,q⟩
 ·subst q
  exact⟨[],[],rfl,Nat.le_refl _⟩
 ·have q:LS=A++[y]:=by rw [q,List.concat_eq_append]
  subst q
  have e:(fb (A++[y])).dropLast=fb A++y:=by
   unfold fb
   rw [List.map_append,List.flatten_append]
   show((A.map fun x=>x++[10]).flatten++[y++[10]].flatten).dropLast=_
   rw [List.flatten_singleton,← List.append_assoc,List.dropLast_concat]
  refine⟨A,y,by rw [e]; exact yN (fun x hx=>h x (List.mem_append_left _ hx)) (h y (by simp)),?_⟩
  unfold bc
  split
  ·rw [List.length_append]
   omega
  ·exact Nat.le_refl _
theorem JL {K:Nat}:∀ {LS:List (List Nat)},(∀ x∈LS,x.length≤K)→(fb LS).length≤LS.length * (K+1):=PV.K73.C7
theorem zW (hk:∀ k∈ks,bt k∧Sm (h k)) (hl:ks.length≤15):LB 1600 15 (cw ks h):=by
 have hm:∀ x∈cw ks h,10∉x∧x.length≤100:=fun x hx=>by
  obtain⟨k,hk',rfl⟩:=List.mem_map.mp hx
  exact⟨HQ (hk k hk').1 (hk k hk').2,EO (hk k hk').1 (hk k hk').2⟩
 have hn:(cw ks h).length≤15:=by
  unfold cw
  rw [List.length_map]
  exact hl
 refine⟨hn,?_,fun x hx=>(hm x hx).1⟩
 have h1:=JL (K:=100) fun x hx=>(hm x hx).2
 have h2:(cw ks h).length * (100+1)≤15 * 101:=Nat.mul_le_mul hn (Nat.le_refl _)
 omega
theorem ES (hk:∀ k∈ks,bt k∧Sm (h k)):lD (cw ks h)=cA ks h:=by
 unfold lD cA FX cw
 rw [List.map_map,List.map_map]
 congr 1
 ·exact List.map_congr_left fun k hk'=>congrArg D.str (HR (hk k hk').1 (hk k hk').2)
 ·exact List.map_congr_left fun k hk'=>congrArg O.d (HS (hk k hk').1 (hk k hk').2)
theorem pD (hk:∀ k∈ks,bt k∧Sm (h k)) (hl:ks.length≤15) (hp:(ks.map fun k=>k.cps.toList).Pairwise (· < ·)):aS [.d (tD (fb (cw ks h)))] = .ok (cA ks h) [.d (tD (fb (cw ks h)))]:=by
 have lb:=zW hk hl
 have hln:bc (cw ks h) []=cw ks h:=if_pos rfl
 have e:=sJ (L:=fb (cw ks h)) (A:=cw ks h) (z:=[]) (Nat.le_trans lb.t (by omega)) (by rw [hln]; exact Nat.le_trans lb.n (by omega)) (uJ lb.k)
 have hr:FZ (cw ks h) [] = .inl (cA ks h):=by
  unfold FZ
  rw [hln,xM ks none hk hp fun k _=>rfl]
  dsimp only
  rw [if_pos rfl,ES hk]
 rw [hr]at e
 exact e
end PV.K74
namespace PV.K74
open PySem L2 PL _root_.K74 PV.K1 PV.M1 PV.N1 PV.K72 PV.K71
open PV.K73 (fb eI bc)
open PV.RN (nR gW jw xP)
open PV.K61 (pairD br cA hR iC cn CG qE)
variable {o o1:O}{LS A:List (List Nat)}{gs ks ls:List Str}{h:Str→Int×Int}{x k:Str}{p:Int×Int}
theorem ET (hx:x∈ks):bU [br ks h,.str x]=some (.d (pairD (h x))):=by
 show(if aZ (.str x) (ks.map .str)then(aW (.str x) (ks.map .str) (ks.map fun k=>pairD (h k))).map O.d else none)=_
 rw [kh,if_pos rfl,cn (α:=Unit) (g:=fun k=>pairD (h k)) hx]
 rfl
theorem HU (hx:x∈ks):aJ (cA ks h) (.str x) (.d (pairD (h x)))=cA ks h:=by
 obtain⟨g,q1,q2⟩:=CG (h:=h) hx
 simp [aJ,qE,q1,q2]
variable {s0 s1 s2 s3 s4 s5 s6 s7 s8 s9 s10 s11 s12 s13 s14:Option O}
theorem Ox (hx:x∈gs) (ok:bt x) (sm:Sm (h x)) (hl:LS.length≤1000):(bnd (aH (.nm 6) (.str x) [s0,s1,s2,s3,some (cA gs h),some (bE LS),s6,s7,s8,s9,s10,s11,s12,s13,s14]) fun ρ=>bC ΦL iZ ρ) = .ok .nx [s0,s1,s2,s3,some (cA gs h),some (bE (LS++[xK x (h x)])),some (.d (.str x)),some (.d (.int (h x).1)),some (.d (.int (h x).2)),s9,s10,s11,s12,s13,s14]:=by
 have a:=ml sm.1
 have b:=ml sm.2
 have c:x.cps.toList.length≤8:=ok.hi
 have hkk:D.str x=tD x.cps.toList:=congrArg D.str p7
 have hsp:D.str " " = tD [32]:=congrArg D.str (show Str.ofString " " = sT [32]by decide +kernel)
 exact Ow (F:=cA gs h) (P:=bE LS) (PD:=br gs h) (N:=(h x).1) (M:=(h x).2) iC (fun {i ρ}=>rfl) (ET hx) (HU hx) (Ga sm.1) (Ga sm.2)
  (N1:=tD (x.cps.toList++[32])) (by rw [hsp,hkk,sC (by simp only [List.length_cons,List.length_nil]; omega)])
  (N2:=tD (x.cps.toList++[32]++nT (h x).1)) (sC (by simp only [List.length_append,List.length_cons,List.length_nil]; omega))
  (N3:=tD (x.cps.toList++[32]++nT (h x).1++[32])) (by rw [hsp,sC (by simp only [List.length_append,List.length_cons,List.length_nil]; omega)])
  (N4:=tD (xK x (h x))) (sC (by simp only [List.length_append,List.length_cons,List.length_nil]; omega))
  (Hz (by omega)) rfl
theorem MV:∀ (xs:List Str) (LS:List (List Nat)) (s6 s7 s8:Option O),(∀ x∈xs,x∈gs∧bt x∧Sm (h x))→LS.length+xs.length≤1000→∃ t6 t7 t8:Option O,forL (fun x ρ=>bnd (aH (.nm 6) x ρ) fun ρ=>bC ΦL iZ ρ) (xs.map .str) [s0,s1,s2,s3,some (cA gs h),some (bE LS),s6,s7,s8,s9,s10,s11,s12,s13,s14] = .ok .nx [s0,s1,s2,s3,some (cA gs h),some (bE (LS++cw xs h)),t6,t7,t8,s9,s10,s11,s12,s13,s14]
 | [],LS,s6,s7,s8,_,_=>⟨s6,s7,s8,by
  rw [show LS++cw [] h=LS from List.append_nil _]
  rfl⟩
 | x::xs,LS,s6,s7,s8,hx,hl=>by
  rw [List.length_cons]at hl
  obtain⟨m,ok,sm⟩:=hx x List.mem_cons_self
  obtain⟨t6,t7,t8,e⟩:=MV xs (LS++[xK x (h x)]) (some (.d (.str x))) (some (.d (.int (h x).1))) (some (.d (.int (h x).2))) (fun y hy=>hx y (List.mem_cons_of_mem _ hy)) (by rw [List.length_append]; simp; omega)
  refine⟨t6,t7,t8,?_⟩
  have e1:=Ox (s0:=s0) (s1:=s1) (s2:=s2) (s3:=s3) (s6:=s6) (s7:=s7) (s8:=s8) (s9:=s9) (s10:=s10) (s11:=s11) (s12:=s12) (s13:=s13) (s14:=s14) m ok sm (LS:=LS) (by omega)
  rw [List.map_cons,forL,e1]
  rw [List.append_assoc]at e
  exact e
theorem vX (hk:∀ k∈gs,bt k∧Sm (h k)):∀ k∈gs.mergeSort h9,bt k∧Sm (h k):=fun k m=>hk k (List.mem_mergeSort.mp m)
theorem Oy (hk:∀ k∈gs,bt k∧Sm (h k)) (hl:gs.length≤15):∃ t6 t7 t8:Option O,bo ΦL jq [s0,s1,s2,some (.lst (gs.map bL)),some (cA gs h),some (bE []),s6,s7,s8,s9,s10,s11,s12,s13,s14] = .ok .nx [s0,s1,s2,some (.lst (gs.map bL)),some (cA gs h),some (bE (cw (gs.mergeSort h9) h)),t6,t7,t8,s9,s10,s11,s12,s13,s14]:=by
 obtain⟨t6,t7,t8,e⟩:=MV (s0:=s0) (s1:=s1) (s2:=s2) (s3:=some (.lst (gs.map bL))) (s9:=s9) (s10:=s10) (s11:=s11) (s12:=s12) (s13:=s13) (s14:=s14) (gs.mergeSort h9) [] s6 s7 s8 (fun x hx=>⟨List.mem_mergeSort.mp hx,vX hk x hx⟩) (by rw [List.length_mergeSort]; simp; omega)
 rw [List.nil_append]at e
 exact⟨t6,t7,t8,w5 (P:=.lst (gs.map bL)) (F:=cA gs h) (PD:=.lst (gs.map .str)) (SO:=nR D.str (gs.mergeSort h9)) PV.K71.yF PV.K71.vL (fun {i ρ}=>rfl) (vS gs) gW e⟩
theorem zX {α:Type}{a b:α→D}:∀ L:List α,(L.map a).zip (L.map b)=L.map fun x=>(a x,b x)
 | []=>rfl
 | x::L=>by rw [List.map_cons,List.map_cons,List.zip_cons_cons,zX L]; rfl
theorem EU (nd:ks.Nodup) (pm:ks.Perm ls):aB .ne (br ks h) (br ls h)=some false:=by
 have nd2:ls.Nodup:=pm.nodup_iff.mp nd
 have h1:=PV.K61.vQ (n:=138) (h:=h) nd
 have h2:=PV.K61.vQ (n:=138) (h:=h) nd2
 have hn:qP (br ks h) (br ls h)=true:=by
  show(D.okn 140 (br ks h)&&D.okn 140 (br ls h))=true
  rw [h1,h2]
  rfl
 rw [dY,show nC (br ks h) (br ls h)=false by unfold nC br; rw [PV.K61.zM]; rfl,hn,if_neg (by simp),if_pos rfl]
 have:D.eqn 140 (br ks h) (br ls h)=true:=by
  unfold br
  rw [D.eqn,Bool.and_eq_true]
  refine⟨by simp [pm.length_eq],?_⟩
  rw [zX,List.all_eq_true]
  intro p hp
  obtain⟨x,hx,rfl⟩:=List.mem_map.mp hp
  dsimp only
  rw [cn (α:=Unit) (g:=fun k=>pairD (h k)) (pm.mem_iff.mp hx)]
  dsimp only
  unfold pairD
  simp [D.eqn,D.eqd]
 rw [this]
 rfl
theorem JM:aB .ne (.lst (ks.map .str)) (.lst (ks.map .str))=some false:=PV.K61.ne_self (by
 have:=iW (n:=149) ks
 rw [D.okd]
 exact this)
theorem EV:iw .list (br ks h)=some (nR D.str ks):=by
 unfold br
 rw [Ef,all_keys,if_pos rfl,List.map_map]
 rfl
theorem AN:((gs.mergeSort h9).map fun k=>zS k (h k)).flatten=fb (cw (gs.mergeSort h9) h):=by
 unfold fb cw
 rw [List.map_map]
 rfl
theorem Oz (nd:gs.Nodup) (hk:∀ k∈gs,bt k∧Sm (h k)) (hl:gs.length≤15):bo ΦL ju [s0,s1,s2,s3,some (cA gs h),s5,s6,s7,s8,some (.d (tD (fb (cw (gs.mergeSort h9) h)))),s10,s11,s12,s13,s14] = .ok .nx [s0,s1,s2,s3,some (.d (br gs h)),s5,s6,s7,s8,some (.d (tD (fb (cw (gs.mergeSort h9) h)))),s10,s11,s12,s13,s14]:=by
 have ht:=nS (v:=cA gs h) .o (fun k m=>JK (hk k m).1) (fun k m=>(hk k m).2) (by omega)
 rw [AN]at ht
 exact w7 (F2:=cA (gs.mergeSort h9) h) (GD:=br (gs.mergeSort h9) h) (fun {i ρ}=>rfl) ht (by rw [Jy,decide_eq_true rfl]; rfl) (pD (vX hk) (by rw [List.length_mergeSort]; exact hl) (Dm nd)) iC (EU ((List.mergeSort_perm gs h9).nodup_iff.mpr nd) (List.mergeSort_perm gs h9))
theorem OA (nd:gs.Nodup) (hk:∀ k∈gs,bt k∧Sm (h k)) (hl:gs.length≤15):bo ΦL jv [s0,s1,s2,some (.lst (gs.map bL)),s4,s5,s6,s7,s8,some (.d (tD (fb (cw (gs.mergeSort h9) h)))),s10,s11,s12,s13,s14] = .ok .nx [s0,s1,s2,some (.lst (gs.map bL)),s4,s5,s6,s7,s8,some (.d (tD (fb (cw (gs.mergeSort h9) h)))),s10,s11,s12,s13,s14] :=
 w8 (F2:=cA (gs.mergeSort h9) h) (GD:=br (gs.mergeSort h9) h) (P:=.lst (gs.map bL)) (PD:=.lst (gs.map .str)) (P2:=nR D.str (gs.mergeSort h9)) (SO:=nR D.str (gs.mergeSort h9)) (SD:=.lst ((gs.mergeSort h9).map .str)) (pD (vX hk) (by rw [List.length_mergeSort]; exact hl) (Dm nd)) iC EV gW PV.K71.yF PV.K71.vL (fun {i ρ}=>rfl) (vS gs) gW JM
theorem OB {n:Nat} (g:Gd n o) (hn:n < 2 ^ 26) (nd:gs.Nodup) (hl:gs.length≤15):∃ (h:Str→Int×Int) (o':O),Gd (n+150) o'∧(∀ k∈gs,Sm (h k))∧bo ΦL jo [s0,s1,some (o),some (.lst (gs.map bL)),s4,s5,s6,s7,s8,s9,s10,s11,s12,s13,s14] = .ok .nx [s0,s1,some (o'),some (.lst (gs.map bL)),some (cA gs h),s5,s6,s7,s8,s9,s10,s11,s12,s13,s14]:=by
 obtain⟨zs,o1,z1,z2,g1,e⟩:=MS (s0:=s0) (s1:=s1) (s3:=none) (s4:=s4) (s5:=s5) (s7:=s7) (s8:=s8) (s9:=s9) (s10:=s10) (s11:=s11) (s12:=s12) (s13:=s13) (s14:=s14) gs n o none g (by omega)
 have hz:zs.length=gs.length:=by rw [← z1,List.length_map]
 obtain⟨f,hf⟩:=PV.Q1.vJ (β:=Int×Int) (ns:=zs.map Prod.snd) nd (by rw [List.length_map,hz])
 have hzz:∀ z∈zs,f z.1=z.2:=by
  rw [← z1,List.map_map]at hf
  exact fun z m=>List.map_inj_left.mp hf z m
 refine⟨f,o1,g1.mono (by omega),fun k m=>?_,?_⟩
 ·rw [← z1]at m
  obtain⟨z,mz,rfl⟩:=List.mem_map.mp m
  rw [hzz z mz]
  exact z2 z mz
 ·have hx:(zs.map fun z=>D.tup [.str z.1,pairD z.2])=gs.map fun k=>.tup [.str k,pairD (f k)]:=by
   rw [← z1,List.map_map]
   exact List.map_congr_left fun z m=>by
    show _=D.tup [.str z.1,pairD (f z.1)]
    rw [hzz z m]
  refine w3 (P:=.lst (gs.map bL)) (XS:=gs.map .str) (os:=zs.map fun z=>.d (.tup [.str z.1,pairD z.2])) (E1:=.lst (gs.map fun k=>.tup [.str k,pairD (f k)])) PV.K71.yF PV.K71.vL (fun {i ρ}=>rfl) e ?_ ?_
  ·rw [← hx,List.map_map]
   rfl
  ·exact PV.RN.FW PV.RN.HC nd
end PV.K74
namespace PV.K74
open PySem L2 PL _root_.K74 PV.K1 PV.M1 PV.N1 PV.K72 PV.K71
open PV.K73 (fb eI bc)
variable {o o1 P P2:O}{LS:List (List Nat)}{TD E:D}
theorem xN {T M:Nat} (h:LB T M LS) (hT:T≤100000) (hM:M≤400):dS [.d (tD (fb LS))] = .ok (.d (.bl true)) [.d (tD (fb LS))]:=by
 have hln:bc LS []=LS:=if_pos rfl
 exact right (Nat.le_trans h.t hT) (uJ h.k) (by rw [hln]; exact Nat.le_trans h.n hM)
theorem xO {T M:Nat} (h:LB T M LS) (hT:T≤100000) (hM:M≤400):dS [.d (tD (fb LS).dropLast)] = .ok (.d (.bl true)) [.d (tD (fb LS).dropLast)]:=by
 obtain⟨A,z,hc,hl⟩:=AM h.k
 have ht:=h.t
 exact right (by rw [List.length_dropLast]; omega) hc (Nat.le_trans hl (Nat.le_trans h.n hM))
theorem yO {x:List Nat}:∀ {LS:List (List Nat)},x∈LS→x.length≤(fb LS).length
 | y::LS,h=>by
  rw [eI,List.length_append,List.length_cons]
  rcases List.mem_cons.mp h with rfl | h
  ·omega
  ·have:=yO h
   omega
theorem Dq:∀ {ps:List (List Nat)},((ps.map sT).map (·.length)).sum=ps.flatten.length
 | []=>rfl
 | p::ps=>by
  rw [List.map_cons,List.map_cons,List.sum_cons,cq,Dq,List.flatten_cons,List.length_append]
theorem HV {ps:List (List Nat)} (h:ps.flatten.length≤100000):qp .join [.str "",.lst (ps.map tD)]=some (.d (tD ps.flatten)):=by
 rw [iS,vK]
 dsimp only
 have h3:=Dq (ps:=ps)
 rw [show(Str.ofString "").length=0 from rfl,Nat.mul_zero,if_pos (by omega)]
 unfold Txt.join
 rw [StrLaws.glued_eq_join,PV.K73.yL]
variable {s0 s1 s2 s3 s4 s5 s6 s7 s8 s9 s10 s11 s12 s13 s14:Option O}
theorem OC (tk:∀ {i ρ},aj.taken o i ρ=ρ.set i none) (tkp:∀ {i ρ},aj.taken P i ρ=ρ.set i none) (h:hJ [o,P] = .ok P2 [o1,P]):bo ΦL mx [s0,s1,some (o),s3,s4,some (P),s6,s7,s8,s9,s10,s11,s12,s13,s14] = .ok .nx [s0,s1,some (o1),s3,s4,some (P2),s6,s7,s8,s9,s10,s11,s12,s13,s14]:=by
 simp_arith [mx,tk,tkp]
 try simp_arith [h,tk,tkp]
theorem OE (h1:(fb LS).length≤100000):bo ΦL p9 [s0,s1,s2,s3,s4,some (bE LS),s6,s7,s8,s9,s10,s11,s12,s13,s14] = .ok .nx [s0,s1,s2,s3,s4,some (bE LS),s6,s7,s8,some (.d (tD (fb LS))),s10,s11,s12,s13,s14]:=by
 have hnl:D.str "\n" = tD [10]:=congrArg D.str (show Str.ofString "\n" = sT [10]by decide +kernel)
 refine MU (XS:=LS.map tD) (os:=LS.map fun x=>.d (tD (x++[10]))) (E1:=.lst ((LS.map fun x=>x++[10]).map tD)) aE eX (fun {i ρ}=>gI) (comp_map fun x hx=>MT (by rw [hnl,sC (by have:=yO hx; simp; omega)])) ?_ rfl (HV (ps:=LS.map fun x=>x++[10]) h1)
 rw [List.map_map,List.map_map]
 rfl
theorem OF (h:dS [.d TD] = .ok (.d (.bl true)) [.d TD]) (h1:ig [TD,.non,.int (-1)]=some (.d E)) (h2:dS [.d E] = .ok (.d (.bl true)) [.d E]):bo ΦL my [s0,s1,s2,s3,s4,s5,s6,s7,s8,some (.d TD),s10,s11,s12,s13,s14] = .ok .nx [s0,s1,s2,s3,s4,s5,s6,s7,s8,some (.d TD),s10,s11,s12,s13,s14]:=by
 simp_arith [my,-fH]
 try simp_arith [h,h1,h2,-fH]
theorem Mg {n T M:Nat} (g:Gd n o) (hn:n < 2 ^ 29) (h:LB T M LS) (hT:T≤40000) (hM:M≤100) (s10:Option O):∃ (LS':List (List Nat)) (o':O),LB (2 * T+6000) (M+1) LS'∧Gd (n+6) o'∧bC ΦL mw [s0,s1,some (o),s3,s4,some (bE LS),s6,s7,s8,s9,s10,s11,s12,s13,s14] = .ok .nx [s0,s1,some (o'),s3,s4,some (bE LS'),s6,s7,s8,some (.d (tD (fb LS'))),s10,s11,s12,s13,s14]:=by
 obtain⟨L1,o1,h1,g1,e1⟩:=Mf g hn h hT hM
 have c1:=OC (s0:=s0) (s1:=s1) (s3:=s3) (s4:=s4) (s6:=s6) (s7:=s7) (s8:=s8) (s9:=s9) (s10:=s10) (s11:=s11) (s12:=s12) (s13:=s13) (s14:=s14) (xA g) (fun {i ρ}=>gI) e1
 have ht:=h1.t
 have hn1:=h1.n
 have c2:=OE (s0:=s0) (s1:=s1) (s2:=some o1) (s3:=s3) (s4:=s4) (s6:=s6) (s7:=s7) (s8:=s8) (s9:=s9) (s10:=s10) (s11:=s11) (s12:=s12) (s13:=s13) (s14:=s14) (LS:=L1) (by omega)
 have c3:=OF (s0:=s0) (s1:=s1) (s2:=some o1) (s3:=s3) (s4:=s4) (s5:=some (bE L1)) (s6:=s6) (s7:=s7) (s8:=s8) (s10:=s10) (s11:=s11) (s12:=s12) (s13:=s13) (s14:=s14) (xN h1 (by omega) (by omega)) (PV.K73.C9 (l:=fb L1) (by omega)) (xO h1 (by omega) (by omega))
 exact⟨L1,o1,h1,g1,by rw [AF]; exact af c1 (af c2 (af c3 (PV.Q1.oS (Φ:=ΦL))))⟩
theorem w9 {n:Nat} (g:Gd n o) (hn:n < 2 ^ 28) (h:LB 1600 15 LS):∃ (LS':List (List Nat)) (o':O) (t9 t10:Option O),bo ΦL mF [s0,s1,some (o),s3,s4,some (bE LS),s6,s7,s8,s9,s10,s11,s12,s13,s14] = .ok .nx [s0,s1,some (o'),s3,s4,some (bE LS'),s6,s7,s8,t9,t10,s11,s12,s13,s14]:=by
 obtain⟨L1,o1,h1,g1,e1⟩:=Mg (s0:=s0) (s1:=s1) (s3:=s3) (s4:=s4) (s6:=s6) (s7:=s7) (s8:=s8) (s9:=s9) (s11:=s11) (s12:=s12) (s13:=s13) (s14:=s14) g (by omega) h (by omega) (by omega) (some (.d (.int 0)))
 obtain⟨L2,o2,h2,g2,e2⟩:=Mg (s0:=s0) (s1:=s1) (s3:=s3) (s4:=s4) (s6:=s6) (s7:=s7) (s8:=s8) (s9:=some (.d (tD (fb L1)))) (s11:=s11) (s12:=s12) (s13:=s13) (s14:=s14) g1 (by omega) h1 (by omega) (by omega) (some (.d (.int 1)))
 obtain⟨L3,o3,h3,g3,e3⟩:=Mg (s0:=s0) (s1:=s1) (s3:=s3) (s4:=s4) (s6:=s6) (s7:=s7) (s8:=s8) (s9:=some (.d (tD (fb L2)))) (s11:=s11) (s12:=s12) (s13:=s13) (s14:=s14) g2 (by omega) h2 (by omega) (by omega) (some (.d (.int 2)))
 refine⟨L3,o3,some (.d (tD (fb L3))),some (.d (.int 2)),?_⟩
 have hr:nE [.d (.int 3)]=some [.int 0,.int 1,.int 2]:=rfl
 have e:forL (fun x ρ=>bnd (aH (.nm 10) x ρ) fun ρ=>bC ΦL mw ρ) [.int 0,.int 1,.int 2] [s0,s1,some (o),s3,s4,some (bE LS),s6,s7,s8,s9,s10,s11,s12,s13,s14] = .ok .nx [s0,s1,some (o3),s3,s4,some (bE L3),s6,s7,s8,some (.d (tD (fb L3))),some (.d (.int 2)),s11,s12,s13,s14]:=by
  simp only [forL,dR,cX,List.set,e1]
  simp only [Res.bind_ok,forL,dR,cX,List.set,e2]
  simp only [Res.bind_ok,forL,dR,cX,List.set,e3]
  rfl
 simp_arith! [mF]
 try simp only [hr,Res.of_some,Res.bind_ok]
 simp only [dR,cX]at e
 try simp [e,b7]
end PV.K74
namespace PV.K74
open PySem L2 PL _root_.K74 PV.K1 PV.M1 PV.N1 PV.K72 PV.K71
open PV.K61 (pairD br cA hR cn)
variable {X:D}{P:O}
theorem JN {p:Int}{y:D} (hb:big y=true) (hy:isIn y=false):bW [.d (.tup [.int p,y])] = .ok (.d (.bl false)) [.d (.tup [.int p,y])]:=by
 refine(aI (by rfl) (by rfl)).trans ?_
 rw [iY]
 have e1:=iF (v:=.int p) rfl
 have e2:=iF (v:=y) hb
 rw [hy]at e2
 rw [show isIn (.int p)=true from rfl]at e1
 have x0:bU [.tup [.int p,y],.int 0]=some (.d (.int p)):=rfl
 have x1:bU [.tup [.int p,y],.int 1]=some (.d y):=rfl
 have hi:fQ [] [.tuple] [.tup [.int p,y]]=some (.d (.bl true)):=rfl
 have hl:iw .len (.tup [.int p,y])=some (.d (.int 2)):=rfl
 have h2:aB .eq (.int 2) (.int 2)=some true:=rfl
 generalize D.tup [.int p,y]=T at *
 simp_arith [hi,hl,h2,-bD]
 try simp_arith [hi,hl,h2,x0,x1,e1,e2,-bD]
theorem Mh {p:Int}:bW [.d (.tup [.int p])] = .ok (.d (.bl false)) [.d (.tup [.int p])]:=by
 refine(aI (by rfl) (by rfl)).trans ?_
 rw [iY]
 have hi:fQ [] [.tuple] [.tup [.int p]]=some (.d (.bl true)):=rfl
 have hl:iw .len (.tup [.int p])=some (.d (.int 1)):=rfl
 have h2:aB .eq (.int 1) (.int 2)=some false:=rfl
 generalize D.tup [.int p]=T at *
 simp_arith [hi,hl,h2,-bD]
theorem Mi (hi:fQ [] [.tuple] [X]=some (.d (.bl false))):bW [.d X] = .ok (.d (.bl false)) [.d X]:=by
 refine(aI (by rfl) (by rfl)).trans ?_
 rw [iY]
 simp_arith [hi]
theorem zY {v:D} (hp:bW [.d v] = .ok (.d (.bl false)) [.d v]):aX [.d (.dic [.str "a"] [v])] = .ok (.d (.bl false)) [.d (.dic [.str "a"] [v])]:=by
 have h1:=iM (v:=.str "a") (by decide +kernel)
 rw [show isNm (.str "a")=true by decide +kernel]at h1
 exact qF (js:=.inr "a") rfl (by decide +kernel) (cn (α:=Unit) (ks:=["a"]) (g:=fun _=>v) (by simp)) h1 hp rfl
theorem JO:aX [.d (.dic [.int 5] [.tup [.int 1,.int 2]])] = .ok (.d (.bl false)) [.d (.dic [.int 5] [.tup [.int 1,.int 2]])]:=by
 have h1:=iM (v:=.int 5) rfl
 rw [show isNm (.int 5)=false from rfl]at h1
 exact qF (js:=.inl 5) rfl rfl rfl h1 (vN (p:=(1,2))) rfl
def pE:List D:=[.non,.int 0,.str "a 1 2",.lst [],.dic [.str "A"] [.tup [.int 1,.int 2]],.dic [.str "a"] [.lst [.int 1,.int 2]],.dic [.str "a"] [.tup [.int 1,.bl true]],.dic [.str "a"] [.tup [.int 1]],.dic [.int 5] [.tup [.int 1,.int 2]]]
def vY:List D:=[.dic [.str "a"] [.tup [.int 1,.str "2"]],.dic [.str "a"] [.non]]
theorem EW:∀ X∈pE++vY,aX [.d X] = .ok (.d (.bl false)) [.d X]:=by
 intro X hX
 simp only [pE,vY,List.cons_append,List.nil_append,List.mem_cons,List.not_mem_nil,or_false]at hX
 rcases hX with rfl | rfl | rfl | rfl | rfl | rfl | rfl | rfl | rfl | rfl | rfl
 ·exact vO rfl
 ·exact vO rfl
 ·exact vO rfl
 ·exact vO rfl
 ·exact LP
 ·exact LQ
 ·exact zY (JN rfl rfl)
 ·exact zY Mh
 ·exact JO
 ·exact zY (JN (by decide +kernel) rfl)
 ·exact zY (Mi rfl)
variable {s0 s1 s2 s3 s4 s5 s6 s7 s8 s9 s10 s11 s12 s13 s14:Option O}
theorem Mj (hX:fQ [] [.str] [X]=some (.d (.bl false))):(bnd (aH (.nm 11) X [s0,s1,s2,s3,s4,s5,s6,s7,s8,s9,s10,s11,s12,s13,s14]) fun ρ=>bC ΦL mB ρ) = .ok .nx [s0,s1,s2,s3,s4,s5,s6,s7,s8,s9,s10,some (.d X),some (.d (.exc 14 [.int 0])),s13,s14]:=by
 have e1:=F5 (CZ hX)
 have h1:fQ [0,3,14] [.cls 14] [.exc 14 [.int 0]]=some (.d (.bl true)):=rfl
 have h3:Dz 14 "line" [.exc 14 [.int 0]]=some (.d (.int 0)):=Jz
 have h4:aB .ne (.int 0) (.int 0)=some false:=rfl
 generalize D.exc 14 [.int 0]=Z at e1 h1 h3 ⊢
 simp_arith [mB,-dY]
 try simp_arith [e1,h1,h3,h4,-dY]
abbrev HW:List D:=[.non,.int 0,.bl true,.lst [],.tup [.str "a",.int 1,.int 2],.dic [] [],.lst [.str "a 1 2"]]
theorem JP:∀ (XS:List D) (s11 s12:Option O),(∀ X∈XS,fQ [] [.str] [X]=some (.d (.bl false)))→∃ t11 t12:Option O,forL (fun x ρ=>bnd (aH (.nm 11) x ρ) fun ρ=>bC ΦL mB ρ) XS [s0,s1,s2,s3,s4,s5,s6,s7,s8,s9,s10,s11,s12,s13,s14] = .ok .nx [s0,s1,s2,s3,s4,s5,s6,s7,s8,s9,s10,t11,t12,s13,s14]
 | [],s11,s12,_=>⟨s11,s12,rfl⟩
 | X::XS,s11,s12,h=>by
  obtain⟨t11,t12,e⟩:=JP XS (some (.d X)) (some (.d (.exc 14 [.int 0]))) fun y hy=>h y (List.mem_cons_of_mem _ hy)
  refine⟨t11,t12,?_⟩
  rw [forL,Mj (h X List.mem_cons_self)]
  exact e
theorem OG:∃ t11 t12:Option O,bo ΦL kZ [s0,s1,s2,s3,s4,s5,s6,s7,s8,s9,s10,s11,s12,s13,s14] = .ok .nx [s0,s1,s2,s3,s4,s5,s6,s7,s8,s9,s10,t11,t12,s13,s14]:=by
 obtain⟨t11,t12,e⟩:=JP (s0:=s0) (s1:=s1) (s2:=s2) (s3:=s3) (s4:=s4) (s5:=s5) (s6:=s6) (s7:=s7) (s8:=s8) (s9:=s9) (s10:=s10) (s13:=s13) (s14:=s14) HW s11 s12 (by
  intro X hX
  simp only [HW,List.mem_cons,List.not_mem_nil,or_false]at hX
  rcases hX with rfl | rfl | rfl | rfl | rfl | rfl | rfl <;> rfl)
 refine⟨t11,t12,?_⟩
 simp [HW]at e
 simp_arith (decide:=true) [kZ,PV.qT,keysOf,keyOf]
 try simp_arith [e]
theorem Ml (h:aX [.d X] = .ok (.d (.bl false)) [.d X]):(bnd (aH (.nm 11) X [s0,s1,s2,s3,s4,s5,s6,s7,s8,s9,s10,s11,s12,s13,s14]) fun ρ=>bC ΦL mC ρ) = .ok .nx [s0,s1,s2,s3,s4,s5,s6,s7,s8,s9,s10,some (.d X),s12,s13,s14]:=by
 have e1:=JH (L6 h)
 have h1:fQ [0,3,14] [.cls 3] [.exc 3 []]=some (.d (.bl true)):=rfl
 generalize D.exc 3 []=Z at e1 h1 ⊢
 simp_arith [mC]
 try simp_arith [e1,h1]
theorem JQ:∀ (XS:List D) (s11:Option O),(∀ X∈XS,aX [.d X] = .ok (.d (.bl false)) [.d X])→∃ t11:Option O,forL (fun x ρ=>bnd (aH (.nm 11) x ρ) fun ρ=>bC ΦL mC ρ) XS [s0,s1,s2,s3,s4,s5,s6,s7,s8,s9,s10,s11,s12,s13,s14] = .ok .nx [s0,s1,s2,s3,s4,s5,s6,s7,s8,s9,s10,t11,s12,s13,s14]
 | [],s11,_=>⟨s11,rfl⟩
 | X::XS,s11,h=>by
  obtain⟨t11,e⟩:=JQ XS (some (.d X)) fun y hy=>h y (List.mem_cons_of_mem _ hy)
  refine⟨t11,?_⟩
  rw [forL,Ml (h X List.mem_cons_self)]
  exact e
end PV.K74
namespace PV.K74
open PySem L2 PL _root_.K74 PV.K1 PV.M1 PV.N1 PV.K72 PV.K71
open PV.K61 (pairD br cA hR cn)
variable {X E0:D}{P:O}{ρ:Env}
def oV:O:=.lst [.d .non,.d (.int 0),.d (.str "a 1 2"),.lst [],.dic [.str "A"] [.d (.tup [.int 1,.int 2])],.dic [.str "a"] [.lst [.d (.int 1),.d (.int 2)]],.dic [.str "a"] [.d (.tup [.int 1,.bl true])],.dic [.str "a"] [.d (.tup [.int 1])],.dic [.int 5] [.d (.tup [.int 1,.int 2])]]
theorem Ds:oV.frz = .lst pE:=by simp [oV,pE,O.frz,O.frzL]
variable {s0 s1 s2 s3 s4 s5 s6 s7 s8 s9 s10 s11 s12 s13 s14:Option O}
theorem OH:bo ΦL k8 [s0,s1,s2,s3,s4,s5,s6,s7,s8,s9,s10,s11,s12,s13,s14] = .ok .nx [s0,s1,s2,s3,s4,s5,s6,s7,s8,s9,s10,s11,s12,some (oV),s14]:=by
 unfold oV
 simp_arith (decide:=true) [k8,PV.qT,keysOf,keyOf]
theorem OI:∃ t11:Option O,bo ΦL k9 [s0,s1,s2,s3,s4,s5,s6,s7,s8,s9,s10,s11,s12,some (oV),s14] = .ok .nx [s0,s1,s2,s3,s4,s5,s6,s7,s8,s9,s10,t11,s12,some (oV.shal),s14]:=by
 obtain⟨t11,e⟩:=JQ (s0:=s0) (s1:=s1) (s2:=s2) (s3:=s3) (s4:=s4) (s5:=s5) (s6:=s6) (s7:=s7) (s8:=s8) (s9:=s9) (s10:=s10) (s12:=s12) (s13:=some oV.shal) (s14:=s14) (pE++vY) s11 EW
 refine⟨t11,?_⟩
 have hf:=Ds
 have hs:i7 .add [.lst pE,.lst [.dic [.str "a"] [.tup [.int 1,.str "2"]],.dic [.str "a"] [.non]]]=some (.lst ((pE++vY).map .d)):=rfl
 have hw:(O.lst ((pE++vY).map .d)).frz = .lst (pE++vY):=by rw [jW,List.map_map]; rfl
 have tk:∀ {i ρ},aj.taken oV i ρ=ρ.set i none:=fun {i ρ}=>rfl
 have hw2:jP (.lst (pE++vY))=some (pE++vY):=rfl
 generalize oV=P at *
 generalize pE++vY=L at *
 generalize pE=L9 at *
 simp only [dR,cX]at e
 simp_arith (decide:=true) [k9,PV.qT,keysOf,keyOf,hf,tk,-cR]
 try simp_arith [hf,tk,hs,hw,hw2,e,b7,-cR]
theorem Dt (h1:aR [.dic [] []] = .ok (.d E0) [.d (.dic [] [])]) (h2:aB .eq E0 (.str "")=some true) (h3:aS [.d (.str "")] = .ok (.dic [] []) [.d (.str "")]) (h4:aB .eq (.dic [] []) (.dic [] [])=some true) :
  bo ΦL (.ret (.band [.cm .eq (.call 485 [.dct []]) (.lit (.str "")),.cm .eq (.call 488 [.lit (.str "")]) (.dct [])])) ρ = .ok (.rt (.d (.bl true))) ρ:=by
 have hd0:qT [] []=some (.dic [] []):=rfl
 have hdf:(O.dic [] []).frz = .dic [] []:=rfl
 simp_arith [hd0,-bD]
 try simp_arith [h1,h2,h3,h4,hd0,hdf,-bD]
theorem EX:bo ΦL (.ret (.band [.cm .eq (.call 485 [.dct []]) (.lit (.str "")),.cm .eq (.call 488 [.lit (.str "")]) (.dct [])])) ρ = .ok (.rt (.d (.bl true))) ρ:=by
 have t0:tD [] = .str "" := congrArg D.str (show sT []=Str.ofString "" by decide +kernel)
 have h1:=nS (ks:=[]) (h:=fun _=>(0,0)) (v:=cA [] fun _=>(0,0)) .o (fun k m=>by cases m) (fun k m=>by cases m) (by simp)
 have h3:=pD (ks:=[]) (h:=fun _=>(0,0)) (fun k m=>by cases m) (by simp) List.Pairwise.nil
 have hq:=Dg (ks:=[]) (h:=fun _=>(0,0)) List.nodup_nil
 have hp:PV.K73.fb (cw [] fun _=>(0,0)) = []:=rfl
 rw [hp,t0]at h3
 have hm:([]:List Str).mergeSort h9 = []:=by simp
 rw [hm]at h1
 exact Dt (E0:=tD []) h1 (by rw [t0,eq_str,decide_eq_true rfl]) h3 hq
end PV.K74
namespace PV.K74
open PySem L2 PL _root_.K74 PV.K1 PV.M1 PV.N1 PV.K72 PV.K71 PV.Q1
open PV.K61 (pairD br cA hR cn)
open PV.K73 (fb)
theorem Du {ns:List Int} (hn:ns.length≤63) {k:Int}{s1 s2 s3 s4 s5 s6 s7 s8 s9 s10 s11 s12 s13 s14:Option O}:∃ ρ':Env,ρ'.length=14∧(bnd (aH (.nm 1) (.int k) [vI ns,s1,s2,s3,s4,s5,s6,s7,s8,s9,s10,s11,s12,s13,s14]) fun ρ=>bC ΦL oT ρ) = .ok .nx (vI ns::ρ'):=by
 obtain⟨o,g,e1⟩:=EB (Φ:=ΦL) (ns:=ns) rfl hn (k:=k) (s2:=s2) (ρ:=[s3,s4,s5,s6,s7,s8,s9,s10,s11,s12,s13,s14])
 obtain⟨gs,o1,g1,l1,nd1,ok1,e2⟩:=w2 g (by omega) (s0:=(vI ns)) (s1:=(some (.d (.int k)))) (s3:=s3) (s4:=s4) (s5:=s5) (s6:=s6) (s7:=s7) (s8:=s8) (s9:=s9) (s10:=s10) (s11:=s11) (s12:=s12) (s13:=s13) (s14:=s14)
 obtain⟨h,o2,g2,sm,e3⟩:=OB g1 (by omega) nd1 l1 (s0:=(vI ns)) (s1:=(some (.d (.int k)))) (s4:=s4) (s5:=s5) (s6:=s6) (s7:=s7) (s8:=s8) (s9:=s9) (s10:=s10) (s11:=s11) (s12:=s12) (s13:=s13) (s14:=s14)
 have hk:∀ k∈gs,bt k∧Sm (h k):=fun k m=>⟨ok1 k m,sm k m⟩
 have e4:=w4 (s0:=(vI ns)) (s1:=(some (.d (.int k)))) (s2:=some o2) (s3:=some (.lst (gs.map bL))) (s4:=some (cA gs h)) (s5:=s5) (s6:=s6) (s7:=s7) (s8:=s8) (s9:=s9) (s10:=s10) (s11:=s11) (s12:=s12) (s13:=s13) (s14:=s14)
 obtain⟨t6,t7,t8,e5⟩:=Oy hk l1 (s0:=(vI ns)) (s1:=(some (.d (.int k)))) (s2:=some o2) (s6:=s6) (s7:=s7) (s8:=s8) (s9:=s9) (s10:=s10) (s11:=s11) (s12:=s12) (s13:=s13) (s14:=s14)
 have lb:=zW (vX hk) (by rw [List.length_mergeSort]; exact l1)
 have hlen:∀ x∈cw (gs.mergeSort h9) h,x.length≤9000:=fun x hx=>by
  have:=yO hx
  have:=lb.t
  omega
 have e6:=w6 (LS:=cw (gs.mergeSort h9) h) (Nat.le_trans lb.n (by omega)) hlen (s0:=(vI ns)) (s1:=(some (.d (.int k)))) (s2:=some o2) (s3:=some (.lst (gs.map bL))) (s4:=some (cA gs h)) (s6:=t6) (s7:=t7) (s8:=t8) (s9:=s9) (s10:=s10) (s11:=s11) (s12:=s12) (s13:=s13) (s14:=s14)
 have e7:=Oz nd1 hk l1 (s0:=(vI ns)) (s1:=(some (.d (.int k)))) (s2:=some o2) (s3:=some (.lst (gs.map bL))) (s5:=some (bE (cw (gs.mergeSort h9) h))) (s6:=t6) (s7:=t7) (s8:=t8) (s10:=s10) (s11:=s11) (s12:=s12) (s13:=s13) (s14:=s14)
 have e8:=OA nd1 hk l1 (s0:=(vI ns)) (s1:=(some (.d (.int k)))) (s2:=some o2) (s4:=some (.d (br gs h))) (s5:=some (bE (cw (gs.mergeSort h9) h))) (s6:=t6) (s7:=t7) (s8:=t8) (s10:=s10) (s11:=s11) (s12:=s12) (s13:=s13) (s14:=s14)
 obtain⟨LS',o3,t9,t10,e9⟩:=w9 g2 (by omega) lb (s0:=(vI ns)) (s1:=(some (.d (.int k)))) (s3:=some (.lst (gs.map bL))) (s4:=some (.d (br gs h))) (s6:=t6) (s7:=t7) (s8:=t8) (s9:=some (.d (tD (fb (cw (gs.mergeSort h9) h))))) (s10:=s10) (s11:=s11) (s12:=s12) (s13:=s13) (s14:=s14)
 obtain⟨t11,t12,e10⟩:=OG (s0:=(vI ns)) (s1:=(some (.d (.int k)))) (s2:=some o3) (s3:=some (.lst (gs.map bL))) (s4:=some (.d (br gs h))) (s5:=some (bE LS')) (s6:=t6) (s7:=t7) (s8:=t8) (s9:=t9) (s10:=t10) (s11:=s11) (s12:=s12) (s13:=s13) (s14:=s14)
 have e11:=OH (s0:=(vI ns)) (s1:=(some (.d (.int k)))) (s2:=some o3) (s3:=some (.lst (gs.map bL))) (s4:=some (.d (br gs h))) (s5:=some (bE LS')) (s6:=t6) (s7:=t7) (s8:=t8) (s9:=t9) (s10:=t10) (s11:=t11) (s12:=t12) (s13:=s13) (s14:=s14)
 obtain⟨u11,e12⟩:=OI (s0:=(vI ns)) (s1:=(some (.d (.int k)))) (s2:=some o3) (s3:=some (.lst (gs.map bL))) (s4:=some (.d (br gs h))) (s5:=some (bE LS')) (s6:=t6) (s7:=t7) (s8:=t8) (s9:=t9) (s10:=t10) (s11:=t11) (s12:=t12) (s14:=s14)
 have E:=af e1 (af e2 (af e3 (af e4 (af e5 (af e6 (af e7 (af e8 (af e9 (af e10 (af e11 (af e12 (PV.Q1.oS (Φ:=ΦL)))))))))))))
 refine⟨_,?_,by
  rw [dR,cX,AG]
  exact E⟩
 rfl
end PV.K74
namespace K74
open PySem L2 PV PV.K74 PV.M1 PV.N1 PV.Q1
theorem Dw (ns:List Int) (h:ns.length≤63):∃ o,zz [.d (.lst (ns.map .int))] = .ok (.d (.bl true)) [o]:=by
 obtain⟨ρ',e⟩:=EC (Φ:=PV.K74.ΦL) (b:=oT) (m:=14) (top:=8) (by decide) (fun k ρ hm=>by
  match ρ,hm with
  | [s1,s2,s3,s4,s5,s6,s7,s8,s9,s10,s11,s12,s13,s14],_=>exact Du h) (List.replicate 14 none) (List.length_replicate ..)
 refine⟨.d (.lst (ns.map .int)),(aI (by rfl) (by rfl)).trans (bQ HA ?_ (af e (aL (o:=.d (.bl true)) EX)) rfl)⟩
 rfl
end K74
namespace K74
open PySem PySem.Spec PyProof.Rows L2 PV PL PM PN K61 K09 K72 K71
open He (ga ma)
theorem facts {P:Program}{w:World}{K:PySem.W.Frag}{h:Heap}{mg:Str→Option Value}{f:Addr} (X:K.In h) (G:h.Ns mainGlobals mg) (hfa:mg ("law" : Str)=some (.ref f)) (c:tH fs fn K):∃ fd:FuncData,(∀ (s:Shared) (v:Value),BindsTo s fd ⟨[v],[]⟩ [("_law_script",v)])∧∀ base:Heap,K.In base→base.Ns mainGlobals mg→FnOk P w K mg base (L2.CX P w) 7 f fd ["_law_script"] (bI (gD nm K) zz):=by
 obtain⟨ny,lj⟩:=c.def_ 0 (d:=nY) rfl
 obtain⟨sN,m6⟩:=c.def_ 1 (d:=tJ) rfl
 obtain⟨sO,pF⟩:=c.def_ 2 (d:=tK) rfl
 obtain⟨qb,nU⟩:=c.def_ 3 (d:=qI) rfl
 obtain⟨jz,kr⟩:=c.def_ 4 (d:=jO) rfl
 obtain⟨sP,pG⟩:=c.def_ 5 (d:=tM) rfl
 obtain⟨sQ,pH⟩:=c.def_ 6 (d:=tN) rfl
 obtain⟨uK,i5⟩:=c.def_ 7 (d:=wb) rfl
 obtain⟨uL,oW⟩:=c.def_ 8 (d:=wc) rfl
 obtain⟨uM,sR⟩:=c.def_ 9 (d:=we) rfl
 obtain⟨sS,pI⟩:=c.def_ 10 (d:=tQ) rfl
 obtain⟨lE,mH⟩:=c.def_ 11 (d:=lL) rfl
 obtain⟨oX,mI⟩:=c.def_ 12 (d:=pK) rfl
 obtain⟨nA,eV⟩:=c.def_ 13 (d:=n6) rfl
 obtain⟨qc,nV⟩:=c.def_ 14 (d:=qJ) rfl
 obtain⟨oY,mJ⟩:=c.def_ 15 (d:=pL) rfl
 obtain⟨uN,sU⟩:=c.def_ 16 (d:=wg) rfl
 obtain⟨nB,eW⟩:=c.def_ 17 (d:=n7) rfl
 obtain⟨sV,m7⟩:=c.def_ 18 (d:=tR) rfl
 obtain⟨qd,nW⟩:=c.def_ 19 (d:=qK) rfl
 obtain⟨mK,jN⟩:=c.def_ 20 (d:=ng) rfl
 obtain⟨lF,i6⟩:=c.def_ 21 (d:=lM) rfl
 obtain⟨sW,pJ⟩:=c.def_ 22 (d:=tU) rfl
 obtain⟨uO,sX⟩:=c.def_ 23 (d:=wj) rfl
 obtain⟨yP,Dx⟩:=c.def_ 24 (d:=E9) rfl
 have iA:Binds K ny ["value"] []:=FunD.bindsN lj fun _ _ _ _ _ _ us hl=>match us,hl with | [_],_=>rfl
 have gS:Binds K sN ["value"] []:=FunD.bindsN m6 fun _ _ _ _ _ _ us hl=>match us,hl with | [_],_=>rfl
 have mX:Binds K sO ["value"] []:=FunD.bindsN pF fun _ _ _ _ _ _ us hl=>match us,hl with | [_],_=>rfl
 have kG:Binds K qb ["value"] []:=FunD.bindsN nU fun _ _ _ _ _ _ us hl=>match us,hl with | [_],_=>rfl
 have b_BadText__init_:Binds K jz ["self", "line"] []:=FunD.bindsN kr fun _ _ _ _ _ _ us hl=>match us,hl with | [_,_],_=>rfl
 have mU:Binds K sP ["_law_script"] []:=FunD.bindsN pG fun _ _ _ _ _ _ us hl=>match us,hl with | [_],_=>rfl
 have mV:Binds K sQ ["_law_state"] []:=FunD.bindsN pH fun _ _ _ _ _ _ us hl=>match us,hl with | [_],_=>rfl
 have gb:Binds K uK ["_law_state", "_law_size"] []:=FunD.bindsN i5 fun _ _ _ _ _ _ us hl=>match us,hl with | [_,_],_=>rfl
 have l4:Binds K uL ["_law_state", "_law_some"] []:=FunD.bindsN oW fun _ _ _ _ _ _ us hl=>match us,hl with | [_,_],_=>rfl
 have oI:Binds K uM ["_law_state"] []:=FunD.bindsN sR fun _ _ _ _ _ _ us hl=>match us,hl with | [_],_=>rfl
 have mW:Binds K sS ["_law_state", "_law_many"] []:=FunD.bindsN pI fun _ _ _ _ _ _ us hl=>match us,hl with | [_,_],_=>rfl
 have l5:Binds K lE ["_law_value"] []:=FunD.bindsN mH fun _ _ _ _ _ _ us hl=>match us,hl with | [_],_=>rfl
 have fJ:Binds K oX ["_law_value"] []:=FunD.bindsN mI fun _ _ _ _ _ _ us hl=>match us,hl with | [_],_=>rfl
 have gh:Binds K nA ["table"] []:=FunD.bindsN eV fun _ _ _ _ _ _ us hl=>match us,hl with | [_],_=>rfl
 have kH:Binds K qc ["text"] []:=FunD.bindsN nV fun _ _ _ _ _ _ us hl=>match us,hl with | [_],_=>rfl
 have jh:Binds K oY ["word"] []:=FunD.bindsN mJ fun _ _ _ _ _ _ us hl=>match us,hl with | [_],_=>rfl
 have oJ:Binds K uN ["line", "before"] []:=FunD.bindsN sU fun _ _ _ _ _ _ us hl=>match us,hl with | [_,_],_=>rfl
 have gi:Binds K nB ["text"] []:=FunD.bindsN eW fun _ _ _ _ _ _ us hl=>match us,hl with | [_],_=>rfl
 have j7:Binds K sV ["_law_way", "_law_value"] []:=FunD.bindsN m7 fun _ _ _ _ _ _ us hl=>match us,hl with | [_,_],_=>rfl
 have kI:Binds K qd ["_law_state"] []:=FunD.bindsN nW fun _ _ _ _ _ _ us hl=>match us,hl with | [_],_=>rfl
 have gZ:Binds K mK ["_law_word"] []:=FunD.bindsN jN fun _ _ _ _ _ _ us hl=>match us,hl with | [_],_=>rfl
 have gj:Binds K lF ["_law_page"] []:=FunD.bindsN i6 fun _ _ _ _ _ _ us hl=>match us,hl with | [_],_=>rfl
 have mY:Binds K sW ["_law_page"] []:=FunD.bindsN pJ fun _ _ _ _ _ _ us hl=>match us,hl with | [_],_=>rfl
 have oK:Binds K uO ["_law_state", "_law_lines"] []:=FunD.bindsN sX fun _ _ _ _ _ _ us hl=>match us,hl with | [_,_],_=>rfl
 have Cp:Binds K yP ["_law_script"] []:=FunD.bindsN Dx fun _ _ _ _ _ _ us hl=>match us,hl with | [_],_=>rfl
 have e:=hfa.symm.trans (He.glo_ok X G (c.fact 50))
 cases e
 have b:=FunD.bindsA (ps:=["_law_script"]) Dx fun _ _ _ _ _ _ us hl=>match us,hl with | [_],_=>rfl
 refine⟨yP,fun s v=>b s [v] rfl,fun base _ _=>?_⟩
 have v_is_integer:FnOk P w K mg base (L2.CX P w) 1 _ ny ["value"] (bI (gD nm K) gd):=vt lj (iz (nm:=nm) (c.fact 0)) (He.free_ok X G (c.fact 1)) (He.free_ok X G (c.fact 2)) (He.free_ok X G (c.fact 3))
 have v_is_name:FnOk P w K mg base (L2.CX P w) 1 _ sN ["value"] (bI (gD nm K) a9):=Ao m6 (iz (nm:=nm) (c.fact 0)) (He.free_ok X G (c.fact 4)) (He.free_ok X G (c.fact 2)) (He.free_ok X G (c.fact 5)) (He.int_ok X G (c.fact 6)) (He.str_ok X G (c.fact 7)) (He.free_ok X G (c.fact 8))
 have v_is_pair:FnOk P w K mg base (L2.CX P w) 2 _ sO ["value"] (bI (gD nm K) bW):=Ap pF (iz (nm:=nm) (c.fact 0)) (He.free_ok X G (c.fact 9)) (He.free_ok X G (c.fact 2)) (He.free_ok X G (c.fact 5)) ⟨_,_,v_is_integer,(He.glo_ok X G (c.fact 10)),lj.kp,iA⟩
 have v_is_table:FnOk P w K mg base (L2.CX P w) 3 _ qb ["value"] (bI (gD nm K) aX):=yr nU (iz (nm:=nm) (c.fact 0)) (He.free_ok X G (c.fact 11)) (He.free_ok X G (c.fact 2)) ⟨_,_,v_is_name,(He.glo_ok X G (c.fact 12)),m6.kp,gS⟩ ⟨_,_,v_is_pair,(He.glo_ok X G (c.fact 13)),pF.kp,mX⟩ (He.free_ok X G (c.fact 8))
 have v_BadText__init_:FnOk P w K mg base (L2.CX P w) 1 _ jz ["self", "line"] (zu ((gD nm K).cls 14) "line"):=pz kr (El X G (c.fact 14)) (Ek (c.fact 15))
 have v_l_begun:FnOk P w K mg base (L2.CX P w) 1 _ sP ["_law_script"] (bI (gD nm K) gU):=Ar pG (He.free_ok X G (c.fact 16))
 have v_l_mixed:FnOk P w K mg base (L2.CX P w) 1 _ sQ ["_law_state"] (bI (gD nm K) iJ):=As pH (He.free_ok X G (c.fact 1))
 have v_l_take:FnOk P w K mg base (L2.CX P w) 2 _ uK ["_law_state", "_law_size"] (bI (gD nm K) aU):=Cq i5 ⟨_,_,v_l_mixed,(He.glo_ok X G (c.fact 17)),pH.kp,mV⟩ (He.free_ok X G (c.fact 1))
 have v_l_pick:FnOk P w K mg base (L2.CX P w) 3 _ uL ["_law_state", "_law_some"] (bI (gD nm K) b8):=Cr oW ⟨_,_,v_l_take,(He.glo_ok X G (c.fact 18)),i5.kp,gb⟩ (He.free_ok X G (c.fact 5))
 have v_l_name:FnOk P w K mg base (L2.CX P w) 3 _ uM ["_law_state"] (bI (gD nm K) j6):=Cs sR ⟨_,_,v_l_take,(He.glo_ok X G (c.fact 18)),i5.kp,gb⟩ (He.free_ok X G (c.fact 5)) (He.free_ok X G (c.fact 19))
 have v_l_names:FnOk P w K mg base (L2.CX P w) 4 _ sS ["_law_state", "_law_many"] (bI (gD nm K) iK):=Au pI (He.free_ok X G (c.fact 19)) ⟨_,_,v_l_name,(He.glo_ok X G (c.fact 20)),sR.kp,oI⟩
 have v_l_is_integer:FnOk P w K mg base (L2.CX P w) 1 _ lE ["_law_value"] (bI (gD nm K) l6):=r9 mH (iz (nm:=nm) (c.fact 0)) (He.free_ok X G (c.fact 1)) (He.free_ok X G (c.fact 2)) (He.free_ok X G (c.fact 3))
 have v_l_is_name:FnOk P w K mg base (L2.CX P w) 1 _ oX ["_law_value"] (bI (gD nm K) cb):=xm mI (iz (nm:=nm) (c.fact 0)) (He.free_ok X G (c.fact 4)) (He.free_ok X G (c.fact 2)) (He.free_ok X G (c.fact 5))
 have v_table_text:FnOk P w K mg base (L2.CX P w) 4 _ nA ["table"] (bI (gD nm K) aR):=vv eV ⟨_,_,v_is_table,(He.glo_ok X G (c.fact 21)),nU.kp,kG⟩ (Ei X G (c.fact 22)) (He.free_ok X G (c.fact 23))
 have v_lines_of:FnOk P w K mg base (L2.CX P w) 3 _ qc ["text"] (bI (gD nm K) b5):=yt nV (iz (nm:=nm) (c.fact 0)) (He.free_ok X G (c.fact 4)) (He.free_ok X G (c.fact 2)) (xh X G (c.fact 15) v_BadText__init_ b_BadText__init_)
 have v_is_number:FnOk P w K mg base (L2.CX P w) 1 _ oY ["word"] (bI (gD nm K) cG):=xn mJ (He.free_ok X G (c.fact 5)) (He.int_ok X G (c.fact 24)) (He.str_ok X G (c.fact 25)) (He.free_ok X G (c.fact 8))
 have v_is_row:FnOk P w K mg base (L2.CX P w) 2 _ uN ["line", "before"] (bI (gD nm K) eB):=Ct sU (He.free_ok X G (c.fact 5)) ⟨_,_,v_is_name,(He.glo_ok X G (c.fact 12)),m6.kp,gS⟩ ⟨_,_,v_is_number,(He.glo_ok X G (c.fact 26)),mJ.kp,jh⟩
 have v_read_table:FnOk P w K mg base (L2.CX P w) 4 _ nB ["text"] (bI (gD nm K) aS):=vy eW ⟨_,_,v_lines_of,(He.glo_ok X G (c.fact 27)),nV.kp,kH⟩ (He.free_ok X G (c.fact 28)) ⟨_,_,v_is_row,(He.glo_ok X G (c.fact 29)),sU.kp,oJ⟩ (xh X G (c.fact 15) v_BadText__init_ b_BadText__init_) (He.free_ok X G (c.fact 1)) (He.free_ok X G (c.fact 5))
 have v_l_tried:FnOk P w K mg base (L2.CX P w) 5 _ sV ["_law_way", "_law_value"] (bI (gD nm K) bP):=Av m7 (Ej (tbs:=[]) (nm:=nm) (c.fact 30)) (He.glo_ok X G (c.fact 31)) ⟨_,_,v_table_text,(He.glo_ok X G (c.fact 32)),eV.kp,gh⟩ ⟨_,_,v_read_table,(He.glo_ok X G (c.fact 33)),eW.kp,gi⟩
 have v_l_number:FnOk P w K mg base (L2.CX P w) 4 _ qd ["_law_state"] (bI (gD nm K) eC):=yx nW ⟨_,_,v_l_take,(He.glo_ok X G (c.fact 18)),i5.kp,gb⟩ ⟨_,_,v_l_pick,(He.glo_ok X G (c.fact 34)),oW.kp,l4⟩
 have v_l_is_number:FnOk P w K mg base (L2.CX P w) 1 _ mK ["_law_word"] (bI (gD nm K) bS):=tj jN (He.free_ok X G (c.fact 5))
 have v_l_wrong_line:FnOk P w K mg base (L2.CX P w) 2 _ lF ["_law_page"] (bI (gD nm K) bV):=si i6 (He.free_ok X G (c.fact 19)) (He.free_ok X G (c.fact 5)) ⟨_,_,v_l_is_name,(He.glo_ok X G (c.fact 35)),mI.kp,fJ⟩ ⟨_,_,v_l_is_number,(He.glo_ok X G (c.fact 36)),jN.kp,gZ⟩
 have v_l_right:FnOk P w K mg base (L2.CX P w) 6 _ sW ["_law_page"] (bI (gD nm K) dS):=Aw pJ ⟨_,_,v_l_wrong_line,(He.glo_ok X G (c.fact 37)),i6.kp,gj⟩ ⟨_,_,v_l_tried,(He.glo_ok X G (c.fact 38)),m7.kp,j7⟩ (iz (nm:=nm) (c.fact 39)) (He.glo_ok X G (c.fact 40)) (He.free_ok X G (c.fact 2)) (zx (c.fact 41)) (He.free_ok X G (c.fact 1)) (He.free_ok X G (c.fact 11))
 have v_l_bent:FnOk P w K mg base (L2.CX P w) 4 _ uO ["_law_state", "_law_lines"] (bI (gD nm K) hJ):=Cu sX ⟨_,_,v_l_pick,(He.glo_ok X G (c.fact 34)),oW.kp,l4⟩ ⟨_,_,v_l_take,(He.glo_ok X G (c.fact 18)),i5.kp,gb⟩ (He.free_ok X G (c.fact 5)) (He.free_ok X G (c.fact 1))
 have v_law:FnOk P w K mg base (L2.CX P w) 7 _ yP ["_law_script"] (bI (gD nm K) zz):=Jr Dx (He.free_ok X G (c.fact 19)) (He.free_ok X G (c.fact 5)) (He.free_ok X G (c.fact 42)) (He.free_ok X G (c.fact 43)) ⟨_,_,v_l_begun,(He.glo_ok X G (c.fact 44)),pG.kp,mU⟩ ⟨_,_,v_l_names,(He.glo_ok X G (c.fact 45)),pI.kp,mW⟩ ⟨_,_,v_l_take,(He.glo_ok X G (c.fact 18)),i5.kp,gb⟩ ⟨_,_,v_l_number,(He.glo_ok X G (c.fact 46)),nW.kp,kI⟩ (He.free_ok X G (c.fact 11)) (He.free_ok X G (c.fact 23)) (He.free_ok X G (c.fact 4)) ⟨_,_,_,_,v_table_text,(He.glo_ok X G (c.fact 32)),eV.kp,wY eV (by decide) (by simp) fun _ _ _ _ _ _ us ws zs l1 l2 e=>match us,ws,l1,l2,e with | [],[_],_,_,rfl=>rfl,fun d hd=>by simp at hd⟩ ⟨_,_,_,_,v_read_table,(He.glo_ok X G (c.fact 33)),eW.kp,wY eW (by decide) (by simp) fun _ _ _ _ _ _ us ws zs l1 l2 e=>match us,ws,l1,l2,e with | [],[_],_,_,rfl=>rfl,fun d hd=>by simp at hd⟩ ⟨_,_,v_read_table,(He.glo_ok X G (c.fact 33)),eW.kp,gi⟩ (He.free_ok X G (c.fact 16)) ⟨_,_,v_l_bent,(He.glo_ok X G (c.fact 47)),sX.kp,oK⟩ ⟨_,_,v_l_right,(He.glo_ok X G (c.fact 48)),pJ.kp,mY⟩ ⟨_,_,v_l_tried,(He.glo_ok X G (c.fact 38)),m7.kp,j7⟩ (iz (nm:=nm) (c.fact 39)) (He.glo_ok X G (c.fact 40)) (He.free_ok X G (c.fact 2)) (zx (c.fact 41)) (He.glo_ok X G (c.fact 49)) ⟨_,_,v_table_text,(He.glo_ok X G (c.fact 32)),eV.kp,gh⟩
 exact v_law
end K74
open PySem PySem.W PySem.Calls PyProof.Rows PV
theorem PySem.Challenge.cw_lastnumbers_k74_table_texts_holds : PySem.Challenge.rw_lastnumbers_k74_table_texts.Holds := by
 w_on; o_law
 refine HandSHeadRun.head_any (r:=OpenLaw.row PySem.Challenge.rw_lastnumbers_k74_table_texts) (q:=view (OpenLaw.row PySem.Challenge.rw_lastnumbers_k74_table_texts).prog [35]) (H:=K74.hk) (ob:=K74.ob) (M:=9000) (loose:=K74.lo) (d:=HandSHeadRun.topDef (OpenLaw.row PySem.Challenge.rw_lastnumbers_k74_table_texts).prog 35) (kwd:=[]) K74.Js
  (by kernel_rfl) (fun s=>by kernel_rfl) K74.run (by kernel_rfl) (by kernel_rfl) (by kernel_rfl) (by rfl) (by first | assumption | decide +kernel) (by decide +kernel) ⟨rfl,rfl,rfl,rfl,rfl,by decide +kernel⟩ ?hw ?hc
 case hw=>w_witness2
 case hc =>
  refine PV.D9 (l:=PySem.Challenge.rw_lastnumbers_k74_table_texts) (n:=63) (k:=7) (x := "_law_script") rfl (by decide) (by kernel_rfl) ⟨rfl,by decide,by decide⟩ ?F
  intro w mg fa h Y G hmg0
  obtain⟨K,KX,c⟩:=Y
  have hmg:mg ("law" : PySem.Str)=some (.ref fa):=by
   have e:(HandSHeadRun.topDef (OpenLaw.row PySem.Challenge.rw_lastnumbers_k74_table_texts).prog 35).name=("law" : PySem.Str):=by kernel_rfl
   rw [← e]
   exact hmg0
  obtain⟨fd,hb,hF⟩:=K74.facts (P:=(PySem.Challenge.rw_lastnumbers_k74_table_texts).prog) (w:=w) KX G hmg c
  exact⟨K,fd,_,KX,hb,fun H a ns hl hO hS=>PV.G5 hO hS (K74.Dw ns hl),hF⟩
