import PyProof.Rows.All
import Wide.All
import OpenK.AllK
import Wide.FinOn
import HandS.Base
import HandS.Call
import HandS.CallRecv
import HandS.CallSlots
import HandS.ClsMeth
import HandS.Comp
import HandS.Conv
import HandS.Deep
import HandS.Defaults
import HandS.DictComp
import HandS.EndTab
import HandS.ExcField
import HandS.ExcInit
import HandS.ExcIs
import HandS.ExcOwn
import HandS.ExcValue
import HandS.Finally
import HandS.Flow
import HandS.ForExc
import HandS.ForMost
import HandS.Head2
import HandS.HeadEnd
import HandS.HeadHook4
import HandS.HeadNt
import HandS.IsInst
import HandS.Iter
import HandS.Lambda
import HandS.List
import HandS.ListItems
import HandS.MakeKw
import HandS.MapObj
import HandS.More
import HandS.NamedTupSort
import HandS.NoneIn
import HandS.Property
import HandS.Rev
import HandS.Set
import HandS.SetBool
import HandS.SetFor
import HandS.SetKeys
import HandS.Small
import HandS.SortKw
import HandS.Strs
import HandS.Style
import HandS.Text
import HandS.TupAny
import HandS.TupLen
import HandS.TupSets
import HandS.Walk
import HandS.Wide
import HandS.Zip
import KE.DataEq
import KE.DataMinMax
import KE.GoesMore
import KE.GoesRaise
import KE.KDictCopyH
import KE.KDictDisplayH
import KE.KDictExact
import KE.KDictPairs
import KE.KDictZip
import KE.KEqNest
import KE.KExcIs
import KE.KItemsList
import KE.KPairComp
import KE.SortData
import PyProof.AutoSeq1
import PyProof.InstEq
import PyProof.ListMulRoad
import PyProof.ReprRoads
import PyProof.Rows.RegStrFacts
import PyProof.Rows.StrItems
import PyProof.Rows.StrSplit
import PyProof.StrOps2
import Lean
import PySem.Challenge.RW_lastnumbers_k72_long_tree_texts
set_option Elab.async false
set_option linter.all false
set_option maxRecDepth 100000
set_option maxHeartbeats 4000000
namespace HandSPX
end HandSPX
namespace K09
end K09
namespace K61
end K61
namespace K72
end K72
namespace PL
end PL
namespace PM
end PM
namespace PN
end PN
namespace PV
end PV
namespace PV.K1
end PV.K1
namespace PV.K61
end PV.K61
namespace PV.K72
end PV.K72
namespace PV.M1
end PV.M1
namespace PV.N1
end PV.N1
namespace PV.Q1
end PV.Q1
namespace PySem
end PySem
namespace PySem.SeqAt
end PySem.SeqAt
namespace PV
open PySem L2 PyProof.Rows
def BS (C C':Nat):Bool:=C == C'||(C' == 0&&decide (C < 20))
end PV
namespace PV
open PySem PySem.Spec PyProof.Rows L2
def nu:List String:=["NoneType", "bool", "int", "str", "tuple", "list", "dict"]
def iS:List String:=["bool", "int", "str", "list", "tuple", "dict", "ValueError"]
end PV
namespace PV
open PySem PySem.Spec PyProof.Rows L2
open He (ga ma fAd ba eqO eqO_ok)
abbrev iH:Type:=PySem.W.Frag
abbrev DefA:Type:=He5.DefA
def F8 (fa:List (iH→Bool)) (fn:List DefA) (K:iH):He.AlD:=((fa.all fun f=>f K)&&fn.all fun d=>d.ok K,fn.map fun d=>He5.fnA K (d.at_ K))
def sX (fa:List (iH→Bool)) (fn:List DefA) (K:iH):Prop:=F8 fa fn K=He5.valA fn
def zB (n:Nat) (fa:List (iH→Bool)) (fn:List DefA) (g:Addr→Option Obj):He.AlD:=F8 fa fn (He.frG g (He5.asA g n))
def Du (n:Nat) (fa:List (iH→Bool)) (fn:List DefA):PySem.W.Hook where
 α:=He.AlD
 obs:=fun s=>zB n fa fn s.heap.get?
 val:=fun _=>He5.valA fn
 says:=fun _ h=>∃ K:iH,K.In h∧sX fa fn K
 of:=fun _ _ e=>⟨_,He.frG_in,e⟩
 keeps:=fun _ _ _ ⟨K,hK,c⟩ k=>⟨K,PySem.W.Frag.In.keeps hK k,c⟩
abbrev fa (f:He.Fa):iH→Bool:=fun K=>f.ok K
def Im (K:iH) (x f:Str):Addr:=match PySem.W.recIn K (ma K (ga K x) f) "property" with
 | some (.ref g::_)=>g
 | _=>0
def Dw (x f:Str) (K:iH):Bool:=eqO (PySem.W.findIn K (.ref (ga K x)) f) (some (some (.ref (ma K (ga K x) f))))&&(eqO (PySem.W.specialIn K (.ref (ma K (ga K x) f)) "__get__") (some (some (.builtin "property.__get__")))&&(decide (PySem.W.takesIn K (.ref (ma K (ga K x) f))=some true) &&
 (match PySem.W.recIn K (ma K (ga K x) f) "property" with
 | some (.ref _::_)=>true
 | _=>false)))
def Dx (x:Str) (K:iH):Bool:=(He.Fa.cls x).ok K&&(eqO (PySem.W.findIn K (.ref (ga K x)) "__class__") (some (some (.builtin "object.__class__")))&&(eqO (PySem.W.specialIn K (.builtin "object.__class__") "__get__") (some (some (.builtin "getset_descriptor.__get__"))) &&
 (decide (PySem.W.takesIn K (.builtin "object.__class__")=some true)&&decide (PySem.W.mroIn K (ga K x) (.type "object")=some true))))
def Dy (x:Str) (K:iH):Bool:=eqO (PySem.W.findIn K (.ref (ga K x)) "__getattribute__") (some (some (.builtin "BaseException.__getattribute__")))&&(eqO (PySem.W.findIn K (.ref (ga K x)) "__getattr__") (some none)&&(decide (PySem.W.subIn K (.ref (ga K x)) (.type "BaseException")=some true)&&(PySem.W.hasDictIn K (ga K x) &&
 (eqO (PySem.W.findIn K (.ref (ga K x)) "__class__") (some (some (.builtin "object.__class__")))&&(eqO (PySem.W.specialIn K (.builtin "object.__class__") "__get__") (some (some (.builtin "getset_descriptor.__get__")))&&(decide (PySem.W.takesIn K (.builtin "object.__class__")=some true)&&decide (PySem.W.mroIn K (ga K x) (.type "object")=some true)))))))
def Ed (nm:Nat→Str) (cs:List Nat) (K:iH):Bool:=(cs.all fun C=>if C < 20 then Dy (nm C) K else Dx (nm C) K)&&((cs.all fun C=>iS.all fun b=>decide (PySem.W.kitOne K (.ref (ga K (nm C))) (.type b)=some (decide (C < 20)&&b == "ValueError")))&&((cs.all fun C=>nu.all fun a=>decide (PySem.W.kitOne K (.type a) (.ref (ga K (nm C)))=some false)) &&
 cs.all fun C=>cs.all fun C'=>decide (PySem.W.kitOne K (.ref (ga K (nm C))) (.ref (ga K (nm C')))=some (BS C C'))))
def Dz (p:iH→Addr) (K:iH):Bool:=match K.lookup (p K)with
 | some ⟨.type c,_,.seq its _,_⟩=>decide (c = "tuple")&&decide (its.size=0)
 | _=>false
end PV
namespace PV
open PySem PySem.Spec PyProof.Rows L2
open He (ga ma ba eqO eqO_ok)
def Ee (x:Str) (K:iH):Bool:=(He.Fa.glo x).ok K&&(PySem.W.excIn K (ga K x) [.type "ValueError",.type "Exception",.type "BaseException",.type "object"] "ValueError.__new__" && (PySem.W.keepIn K (.ref (ga K x))&&(decide (PySem.W.subIn K (.ref (ga K x)) (.type "BaseException")=some true)&&decide (PySem.W.typeIn K (.ref (ga K x))=some (.type "type")))))
def F9 (nm:Nat→Str) (cs:List Nat) (K:iH):Bool:=cs.all fun C=>decide (PySem.W.exmOne K (.ref (ga K (nm C))) (.ref (ga K (nm 0)))=some true)
def Ga (x:Str) (K:iH):Bool:=(match K.lookup (ga K x)with
  | some ⟨.type "type",_,.cls cd,sl⟩=>(match cd.mro,sl.toList with
   | .ref C'::bm,[_,_,_,_,some (.builtin n),_]=>C' == ga K x&&(n == "ValueError.__new__" && (! cd.hasDel&&(PySem.HandSPX.refsVE bm&&cd.hasDict)))
   | _,_=>false)
  | _=>false)&&(eqO (PySem.W.findIn K (.ref (ga K x)) "__setattr__") (some (some (.builtin "object.__setattr__")))&&(decide (PySem.W.subIn K (.ref (ga K x)) (.type "BaseException")=some true)&&(decide (PySem.W.typeIn K (.ref (ga K x))=some (.type "type"))&&PySem.W.keepIn K (.ref (ga K x)))))
def zC (x f:Str) (K:iH):Bool:=Ga x K&&((He.Fa.glo x).ok K&&(eqO (PySem.W.findIn K (.ref (ga K x)) f) (some none)&&(eqO (PySem.W.findIn K (.ref (ga K x)) "__init__") (some (some (.ref (ma K (ga K x) "__init__"))))&&decide (PySem.W.typeIn K (.ref (ma K (ga K x) "__init__"))=some (.type "function")))))
def Gb (K:iH):Bool:=(He.Fa.glo "TreeError").ok K&&(PySem.W.readsIn K (ga K "TreeError") (.type "type")&&(eqO (PySem.W.specialIn K (.ref (ga K "TreeError")) "__getattribute__") (some (some (.builtin "type.__getattribute__"))) &&
 (match PySem.W.findCls K (.ref (ga K "TreeError")) (.type "type") "__init__" with
 | some (.val (.builtin n))=>n == "ValueError.__init__"
 | _=>false)))
end PV
namespace PV
open PySem PySem.Spec PyProof.Rows L2
open He (ga ma eqO eqO_ok)
def Ge (x f:Str) (K:iH):Bool:=xfB K (ga K x)&&eqO (PySem.W.findIn K (.ref (ga K x)) f) (some none)
end PV
namespace K72
open PySem PySem.Spec PyProof.Rows L2 PV PL PM PN K61 K09
variable {P:Program}{w:World}{K:PySem.W.Frag}{mg:Str→Option Value}{base:Heap}{cls:Nat→Addr}{tbs:List (Addr×Str)}{dvs:List V}{kws:List (Str×V)}{f:Addr}{fd:FuncData}
def top (i:Nat):Stmt:=PySem.Challenge.pw_lastnumbers_k72_long_tree_texts.main.body.getD i (.Pass ⟨0,0,0,0⟩)
abbrev dX:Stmt:=(top 12)
abbrev dY:Stmt:=(top 13)
abbrev cJ:Stmt:=(top 14)
abbrev bX:Stmt:=(inClass (top 15) 1)
abbrev cK:Stmt:=(inClass (top 15) 5)
abbrev aP:Stmt:=(inClass (top 20) 0)
abbrev bF:Stmt:=(inClass (top 6) 0)
abbrev fg:Stmt:=(top 24)
abbrev dZ:Stmt:=(top 25)
abbrev bQ:Stmt:=(top 26)
abbrev dy:Stmt:=(top 27)
abbrev d5:Stmt:=(top 28)
abbrev bb:Stmt:=(top 29)
abbrev d6:Stmt:=(top 31)
abbrev fh:Stmt:=(top 32)
abbrev gz:Stmt:=(top 33)
abbrev gA:Stmt:=(top 34)
abbrev gB:Stmt:=(top 40)
abbrev cD:Stmt:=(top 36)
abbrev br:Stmt:=(top 38)
abbrev gC:Stmt:=(top 39)
abbrev mV:Stmt:=(top 41)
end K72
noncomputable section
namespace K72
open PySem PySem.Spec PyProof.Rows L2 PV PL PM PN K61 K09
open He (ga ma)
def nm:Nat→Str
 | 0 => "TreeError"
 | 1 => "BadTree"
 | 4 => "BadHistory"
 | 5 => "BadIndex"
 | 14 => "BadText"
 | 20 => "Tree"
 | 21 => "History"
 | _ => ""
def sY:DefA:=⟨fun K=>ga K "is_name", "is_name", "is_name",defArgs dX,defBody dX,defScope dX,[],[]⟩
def qp:DefA:=⟨fun K=>ga K "is_shape", "is_shape", "is_shape",defArgs dY,defBody dY,defScope dY,[],[]⟩
def sZ:DefA:=⟨fun K=>ga K "walk_of", "walk_of", "walk_of",defArgs cJ,defBody cJ,defScope cJ,[],[]⟩
def mM:DefA:=⟨fun K=>ma K (ga K "Tree") "__init__", "__init__", "Tree.__init__",defArgs bX,defBody bX,defScope bX,[.adr (He.dflAt ("Tree",some "__init__") 0)],[]⟩
def nv:DefA:=⟨fun K=>Im K "Tree" "names", "names", "Tree.names",defArgs cK,defBody cK,defScope cK,[],[]⟩
def kd:DefA:=⟨fun K=>ma K (ga K "History") "__init__", "__init__", "History.__init__",defArgs aP,defBody aP,defScope aP,[.adr (He.dflAt ("History",some "__init__") 0)],[]⟩
def ke:DefA:=⟨fun K=>ma K (ga K "BadText") "__init__", "__init__", "BadText.__init__",defArgs bF,defBody bF,defScope bF,[],[]⟩
def tc:DefA:=⟨fun K=>ga K "word_at", "word_at", "word_at",defArgs fg,defBody fg,defScope fg,[],[]⟩
def qr:DefA:=⟨fun K=>ga K "shape_in", "shape_in", "shape_in",defArgs dZ,defBody dZ,defScope dZ,[],[]⟩
def lB:DefA:=⟨fun K=>ga K "shape_or_none", "shape_or_none", "shape_or_none",defArgs bQ,defBody bQ,defScope bQ,[],[]⟩
def pD:DefA:=⟨fun K=>ga K "read_tree", "read_tree", "read_tree",defArgs dy,defBody dy,defScope dy,[],[]⟩
def qt:DefA:=⟨fun K=>ga K "lines_of", "lines_of", "lines_of",defArgs d5,defBody d5,defScope d5,[],[]⟩
def lN:DefA:=⟨fun K=>ga K "read_history", "read_history", "read_history",defArgs bb,defBody bb,defScope bb,[],[]⟩
def tf:DefA:=⟨fun K=>ga K "_law_begun", "_law_begun", "_law_begun",defArgs d6,defBody d6,defScope d6,[],[]⟩
def tj:DefA:=⟨fun K=>ga K "_law_mixed", "_law_mixed", "_law_mixed",defArgs fh,defBody fh,defScope fh,[],[]⟩
def vn:DefA:=⟨fun K=>ga K "_law_take", "_law_take", "_law_take",defArgs gz,defBody gz,defScope gz,[],[]⟩
def vo:DefA:=⟨fun K=>ga K "_law_pick", "_law_pick", "_law_pick",defArgs gA,defBody gA,defScope gA,[],[]⟩
def vp:DefA:=⟨fun K=>ga K "_law_long", "_law_long", "_law_long",defArgs gB,defBody gB,defScope gB,[],[]⟩
def pE:DefA:=⟨fun K=>ga K "_law_is_name", "_law_is_name", "_law_is_name",defArgs cD,defBody cD,defScope cD,[],[]⟩
def jm:DefA:=⟨fun K=>ga K "_law_names_or_none", "_law_names_or_none", "_law_names_or_none",defArgs br,defBody br,defScope br,[],[]⟩
def vq:DefA:=⟨fun K=>ga K "_law_read", "_law_read", "_law_read",defArgs gC,defBody gC,defScope gC,[],[]⟩
def DA:DefA:=⟨fun K=>ga K "law", "law", "law",defArgs mV,defBody mV,defScope mV,[],[]⟩
def fn:List DefA:=[sY,qp,sZ,mM,nv,kd,ke,tc,qr,lB,pD,qt,lN,tf,tj,vn,vo,vp,pE,jm]++[vq,DA]
def Ky:List (iH→Bool):=[Ed nm [20],fa (.free "str"),fa (.free "isinstance"),fa (.free "len"),fa (.int "MOST_LETTERS" 8),fa (.str "LETTERS" "abcdefghijklmnopqrstuvwxyz"),fa (.free "all"),fa (.free "tuple"),fa (.glo "is_name"),fa (.int "MOST_NAMES" 12),fa (.free "set"),fa (.glo "walk_of"),fa (.glo "is_shape"),Ee "BadTree",fa (.cls "Tree"),fa (.noat "Tree" "own_shape"),fa (.noat "Tree" "own_walk"),fa (.noat "Tree" "own_names"),fa (.noat "Tree" "above"),fa (.free "list")]
def Kz:List (iH→Bool):=[fa (.int "MOST_TREES" 16),Ee "BadHistory",fa (.glo "Tree"),Dw "Tree" "names",fa (.free "sorted"),fa (.int "MOST_IN_ALL" 20),fa (.cls "History"),fa (.noat "History" "own_trees"),fa (.noat "History" "all_names"),fa (.noat "History" "all_ends"),Gb,zC "BadText" "line",fa (.str "MARKS" "(),"),fa (.glo "word_at"),fa (.int "MOST_SIGNS" 400),fa (.glo "shape_in"),fa (.glo "shape_or_none"),fa (.meth "Tree" "__init__"),fa (.mkr "Tree"),Dz (He.dflAt ("Tree",some "__init__") 0)]
def Io:List (iH→Bool):=[fa (.glo "lines_of"),fa (.free "enumerate"),fa (.meth "History" "__init__"),fa (.mkr "History"),Dz (He.dflAt ("History",some "__init__") 0),fa (.glo "History"),fa (.free "int"),fa (.glo "_law_mixed"),fa (.glo "_law_take"),fa (.glo "_law_pick"),fa (.free "range"),fa (.glo "_law_is_name"),F9 nm [0,1,4,5,14],fa (.glo "TreeError"),fa (.glo "read_tree"),fa (.glo "read_history"),fa (.free "min"),fa (.free "max"),fa (.glo "_law_begun"),fa (.glo "_law_long")]
def KA:List (iH→Bool):=[fa (.glo "_law_names_or_none"),fa (.glo "_law_read"),Ed nm [0,1,4,14,5],fa (.glo "BadText"),Ge "BadText" "line",fa (.glo "BadTree"),fa (.glo "law")]
def fs:List (iH→Bool):=Ky++Kz++Io++KA
def KC:List Str:=["_wall", "__name__", "TreeError", "BadTree", "BadHistory", "BadIndex", "BadText", "LETTERS", "MOST_LETTERS", "MOST_NAMES", "is_integer", "is_name", "is_shape", "walk_of", "Tree", "MOST_TREES", "MOST_IN_ALL", "need_indexes", "History", "MOST_SIGNS"]
def lo1:List Str:=["MARKS", "word_at", "shape_in", "shape_or_none", "read_tree", "lines_of", "read_history", "_law_begun", "_law_mixed", "_law_take", "_law_pick", "_law_is_integer", "_law_is_name", "_law_text", "_law_names_or_none", "_law_read", "_law_long"]
def lo:List Str:=KC++lo1
abbrev R:PySem.W.OpenRow:=PySem.W.OpenLaw.row PySem.Challenge.rw_lastnumbers_k72_long_tree_texts
abbrev hk:PySem.W.Hook:=Du 6 fs fn
def ob (s:PySem.W.SharedT):He.AlD:=zB 6 fs fn (HandSHeadRun.getT s)
theorem run (w:World):HandSHeadRun.RunEq R (PySem.W.view R.prog [41]) hk ob 9000 lo w:=by
 intro os
 kernel_rfl
end K72
namespace PV
open PySem PySem.Spec PyProof.Rows L2
abbrev BU:=List Key
abbrev hK (P:Program) (w:World) (k:BU):Int:=tupleKeyHash (mixKind P w) k
end PV
namespace PV
open PySem L2
inductive D where
 | non | bl (b:Bool) | int (i:Int) | str (x:Str)
 | tup (xs:List D) | lst (xs:List D)
 | dic (ks vs:List D)
 | obj (C:Nat) (ns:List Str) (vs:List D)
 | exc (C:Nat) (p:List D)
inductive O where
 | d (x:D) | tup (xs:List O) | lst (xs:List O) | dic (ks:List D) (vs:List O) | obj (C:Nat) (ns:List Str) (vs:List O)
mutual
def O.frz:O→D
 | .d x=>x
 | .tup xs=>.tup (O.frzL xs)
 | .lst xs=>.lst (O.frzL xs)
 | .dic ks vs=>.dic ks (O.frzL vs)
 | .obj C ns vs=>.obj C ns (O.frzL vs)
def O.frzL:List O→List D
 | []=>[]
 | x::xs=>O.frz x::O.frzL xs
end
theorem bu:∀ xs:List O,O.frzL xs=xs.map O.frz
 | []=>rfl
 | x::xs=>by rw [O.frzL,List.map_cons,bu xs]
def keyOf:D→Option Key
 | .int i=>some (.inl i)
 | .str x=>some (.inr x)
 | _=>none
def keysOf:List D→Option (List Key)
 | []=>some []
 | d::ds=>match keyOf d,keysOf ds with
  | some k,some r=>some (k::r)
  | _,_=>none
def aI:D→Option (List Key)
 | .tup ds=>if ds.length=2∨ds.length=3 then keysOf ds else none
 | _=>none
def aM:List D→Option (List (List Key))
 | []=>some []
 | d::ds=>match aI d,aM ds with
  | some k,some r=>some (k::r)
  | _,_=>none
noncomputable def vw (L:Addr→Prop) (H:Hp):Hp:=fun a=>match H a with
 | some (.frz o u)=>by classical exact if L a then some u else some (.frz o u)
 | x=>x
structure Tab where
 K:PySem.W.Frag
 cls:Nat→Addr
 tabs:List (Addr×Str)
def KL (K:PySem.W.Frag) (a:Addr) (xs:List V):Prop:=∃ (o:Obj) (its:Array Value) (n:Nat),K.lookup a=some o∧o.cls = .type "list" ∧ o.dict=none∧o.data = .seq its n∧its.size≤sizeLine∧Vals xs its.toList
def KD (K:PySem.W.Frag) (a:Addr) (xs:List V):Prop:=∃ (o:Obj) (its:Array Value) (n:Nat),K.lookup a=some o∧o.cls = .type "tuple" ∧ o.data = .seq its n∧its.size≤sizeLine∧Vals xs its.toList
def TupAt (K:PySem.W.Frag) (H:Hp) (n:Nat) (a:Addr) (vs:List V):Prop:=H a=some (.tup vs)∨((n=2∨n=3)→False)∧KD K a vs
def vh (a C:Addr) (d:Option Addr):HO:=.ext fun h=>∃ o:PySem.Obj,h.get? a=some o∧o.cls = .ref C∧o.dict=d∧∃ vs,o.data = .fields vs
def fj (C:Nat):Str:=if C=2 then "name" else if C=6 then "end" else if C=7 then "ring" else if C=12 then "at" else if C=13 then "most" else "line"
section
variable (T:Tab) (own:Addr→Prop) (H:Hp)
def yR (C:Nat) (d:Option Addr) (vs:List V):Prop:=match vs with
 | []=>d=none
 | [v]=>∃ dx,d=some dx∧¬ own dx∧H dx=some (.xd [(fj C,v)])
 | _=>False
mutual
def Dr:D→V→Prop
 | .non,v=>v = .non
 | .bl b,v=>v = .bl b
 | .int i,v=>v = .int i
 | .str x,v=>v = .str x
 | .tup xs,v=>∃ a vs,v = .ref a∧TupAt T.K H xs.length a vs∧lP xs vs
 | .lst xs,v=>∃ a vs,v = .ref a∧((¬ own a∧Rd H a (.lst vs))∨KL T.K a vs)∧lP xs vs
 | .dic ks xs,v=>∃ a vs,v = .ref a∧¬ own a∧((∃ js,keysOf ks=some js∧H a=some (.dK (js.zip vs))∧js.length=vs.length)∨(∃ js,aM ks=some js∧H a=some (.dT (js.zip vs))∧js.length=vs.length))∧lP xs vs
 | .obj C ns xs,v=>∃ a dx vs,v = .ref a∧¬ own a∧H a=some (.ins (T.cls C) dx (ns.zip vs))∧ns.length=vs.length∧lP xs vs
 | .exc C p,v=>(p.length=3∧v = .ref (T.cls C))∨∃ a d vs,v = .ref a∧¬ own a∧H a=some (vh a (T.cls C) d)∧yR own H C d vs∧lP p vs
def lP:List D→List V→Prop
 | [],vs=>vs = []
 | x::xs,vs=>∃ v r,vs=v::r∧Dr x v∧lP xs r
end
mutual
def Or:O→V→List Addr→Prop
 | .d x,v,F=>F = []∧Dr T own H x v
 | .tup xs,v,F=>∃ a vs,v = .ref a∧H a=some (.tup vs)∧zx xs vs F
 | .lst xs,v,F=>∃ a vs G,v = .ref a∧F=a::G∧H a=some (.lst vs)∧zx xs vs G
 | .dic ks xs,v,F=>∃ a vs G,v = .ref a∧F=a::G∧((∃ js,keysOf ks=some js∧H a=some (.dK (js.zip vs))∧js.length=vs.length)∨(∃ js,aM ks=some js∧H a=some (.dT (js.zip vs))∧js.length=vs.length))∧zx xs vs G
 | .obj C ns xs,v,F=>∃ a dx vs G,v = .ref a∧F=a::G∧H a=some (.ins (T.cls C) dx (ns.zip vs))∧ns.length=vs.length∧zx xs vs G
def zx:List O→List V→List Addr→Prop
 | [],vs,F=>vs = []∧F = []
 | x::xs,vs,F=>∃ v r F1 F2,vs=v::r∧F=F1++F2∧Or x v F1∧zx xs r F2
end
end
def Ip (u:HO):Prop:=match u with
 | .tbl _=>False
 | _=>True
def fG (own:Addr→Prop) (h h':Hp):Prop:=∀ a o,h a=some o→(own a→(∃ xs,o = .tup xs)∨∃ ob u,o = .frz ob u)→Ip o→h' a=some o
theorem fG.refl {own:Addr→Prop}{h:Hp}:fG own h h:=fun _ _ e _ _=>e
section
variable {T:Tab}{own own':Addr→Prop}{h h':Hp}
theorem BV {a:Addr}{u:HO} (k:fG own h h') (n:¬ own a) (e:Rd h a u) (nt:Ip u:=by trivial):Rd h' a u:=by
 rcases e with e | ⟨o,e⟩
 ·exact .inl (k a _ e (fun z=>(n z).elim) nt)
 ·exact .inr ⟨o,k a _ e (fun z=>(n z).elim) trivial⟩
theorem zD {a:Addr}{u:HO} (e:Rd h a u):h a≠none:=by
 rcases e with e | ⟨o,e⟩ <;> rw [e] <;> simp
theorem wY {a:Addr}{n:Nat}{vs:List V} (k:fG own h h') (e:TupAt T.K h n a vs):TupAt T.K h' n a vs:=e.imp (fun e=>k a _ e (fun _=>.inl ⟨_,rfl⟩) trivial) id
theorem yR.keep {C:Nat}{d:Option Addr}{vs:List V} (k:fG own h h') (s:∀ a,own' a→own a∨h a=none) (e:yR own h C d vs):yR own' h' C d vs:=match vs,e with
 | [],e=>e
 | [v],⟨dx,e1,n,e2⟩=>⟨dx,e1,fun z=>n ((s dx z).resolve_right (by rw [e2]; simp)),k dx _ e2 (fun z=>(n z).elim) trivial⟩
theorem TupAt.sq {K:PySem.W.Frag}{h:Hp}{a:Addr}{n:Nat}{vs:List V} (e:TupAt K h n a vs):SqT K h a vs:=e.imp (fun e=>.inl e) And.right
mutual
theorem Dr.keep (k:fG own h h') (s:∀ a,own' a→own a∨h a=none):∀ (x:D) (v:V),Dr T own h x v→Dr T own' h' x v
 | .non,v,e=>e
 | .bl b,v,e=>e
 | .int i,v,e=>e
 | .str x,v,e=>e
 | .tup xs,v,e=>by
  obtain⟨a,vs,e1,e2,e3⟩:=e
  exact⟨a,vs,e1,wY k e2,Dr.keepL k s xs vs e3⟩
 | .lst xs,v,e=>by
  obtain⟨a,vs,e1,e2,e3⟩:=e
  refine⟨a,vs,e1,?_,Dr.keepL k s xs vs e3⟩
  rcases e2 with⟨n,e2⟩ | e2
  ·exact .inl ⟨fun z=>n ((s a z).resolve_right (zD e2)),BV k n e2⟩
  ·exact .inr e2
 | .dic ks xs,v,e=>by
  obtain⟨a,vs,e1,n,e2,e3⟩:=e
  have th:h a≠none:=by rcases e2 with⟨js,_,q,_⟩ | ⟨js,_,q,_⟩ <;> rw [q] <;> simp
  refine⟨a,vs,e1,fun z=>n ((s a z).resolve_right th),?_,Dr.keepL k s xs vs e3⟩
  rcases e2 with⟨js,q1,q2,q3⟩ | ⟨js,q1,q2,q3⟩
  ·exact .inl ⟨js,q1,k a _ q2 (fun z=>(n z).elim) trivial,q3⟩
  ·exact .inr ⟨js,q1,k a _ q2 (fun z=>(n z).elim) trivial,q3⟩
 | .obj C ns xs,v,e=>by
  obtain⟨a,dx,vs,e1,n,e2,e3,e4⟩:=e
  exact⟨a,dx,vs,e1,fun z=>n ((s a z).resolve_right (by rw [e2]; simp)),k a _ e2 (fun z=>(n z).elim) trivial,e3,Dr.keepL k s xs vs e4⟩
 | .exc C p,v,e=>by
  rcases e with e | ⟨a,d,vs,e1,n,e2,e3,e4⟩
  ·exact .inl e
  exact .inr ⟨a,d,vs,e1,fun z=>n ((s a z).resolve_right (by rw [e2]; simp)),k a _ e2 (fun z=>(n z).elim) trivial,yR.keep k s e3,Dr.keepL k s p vs e4⟩
theorem Dr.keepL (k:fG own h h') (s:∀ a,own' a→own a∨h a=none):∀ (xs:List D) (vs:List V),lP T own h xs vs→lP T own' h' xs vs
 | [],vs,e=>e
 | x::xs,vs,e=>by
  obtain⟨v,r,e1,e2,e3⟩:=e
  exact⟨v,r,e1,Dr.keep k s x v e2,Dr.keepL k s xs r e3⟩
end
mutual
theorem Or.keep (k:fG own h h') (s:∀ a,own' a→own a∨h a=none):∀ (x:O) (v:V) (F:List Addr),(∀ a∈F,h' a=h a)→Or T own h x v F→Or T own' h' x v F
 | .d x,v,F,_,e=>⟨e.1,Dr.keep k s x v e.2⟩
 | .tup xs,v,F,f,e=>by
  obtain⟨a,vs,e1,e2,e3⟩:=e
  exact⟨a,vs,e1,k a _ e2 (fun _=>.inl ⟨_,rfl⟩) trivial,Or.keepL k s xs vs F f e3⟩
 | .lst xs,v,F,f,e=>by
  obtain⟨a,vs,G,e1,rfl,e2,e3⟩:=e
  exact⟨a,vs,G,e1,rfl,by rw [f a List.mem_cons_self]; exact e2,Or.keepL k s xs vs G (fun b hb=>f b (List.mem_cons_of_mem _ hb)) e3⟩
 | .dic ks xs,v,F,f,e=>by
  obtain⟨a,vs,G,e1,rfl,e2,e3⟩:=e
  refine⟨a,vs,G,e1,rfl,?_,Or.keepL k s xs vs G (fun b hb=>f b (List.mem_cons_of_mem _ hb)) e3⟩
  rw [f a List.mem_cons_self]
  exact e2
 | .obj C ns xs,v,F,f,e=>by
  obtain⟨a,dx,vs,G,e1,rfl,e2,e3,e4⟩:=e
  exact⟨a,dx,vs,G,e1,rfl,by rw [f a List.mem_cons_self]; exact e2,e3,Or.keepL k s xs vs G (fun b hb=>f b (List.mem_cons_of_mem _ hb)) e4⟩
theorem Or.keepL (k:fG own h h') (s:∀ a,own' a→own a∨h a=none):∀ (xs:List O) (vs:List V) (F:List Addr),(∀ a∈F,h' a=h a)→zx T own h xs vs F→zx T own' h' xs vs F
 | [],vs,F,_,e=>e
 | x::xs,vs,F,f,e=>by
  obtain⟨v,r,F1,F2,e1,rfl,e2,e3⟩:=e
  exact⟨v,r,F1,F2,e1,rfl,Or.keep k s x v F1 (fun b hb=>f b (List.mem_append_left _ hb)) e2,Or.keepL k s xs r F2 (fun b hb=>f b (List.mem_append_right _ hb)) e3⟩
end
mutual
theorem Or.freeze (hn:∀ a,own' a→own a∨h a=none):∀ (x:O) (v:V) (F:List Addr),(∀ a∈F,¬ own' a)→Or T own h x v F→Dr T own' h x.frz v
 | .d x,v,F,_,e=>Dr.keep fG.refl hn x v e.2
 | .tup xs,v,F,f,e=>by
  obtain⟨a,vs,e1,e2,e3⟩:=e
  exact⟨a,vs,e1,.inl e2,Or.freezeL hn xs vs F f e3⟩
 | .lst xs,v,F,f,e=>by
  obtain⟨a,vs,G,e1,rfl,e2,e3⟩:=e
  exact⟨a,vs,e1,.inl ⟨f a List.mem_cons_self,.inl e2⟩,Or.freezeL hn xs vs G (fun b hb=>f b (List.mem_cons_of_mem _ hb)) e3⟩
 | .dic ks xs,v,F,f,e=>by
  obtain⟨a,vs,G,e1,rfl,e2,e3⟩:=e
  exact⟨a,vs,e1,f a List.mem_cons_self,e2,Or.freezeL hn xs vs G (fun b hb=>f b (List.mem_cons_of_mem _ hb)) e3⟩
 | .obj C ns xs,v,F,f,e=>by
  obtain⟨a,dx,vs,G,e1,rfl,e2,e3,e4⟩:=e
  exact⟨a,dx,vs,e1,f a List.mem_cons_self,e2,e3,Or.freezeL hn xs vs G (fun b hb=>f b (List.mem_cons_of_mem _ hb)) e4⟩
theorem Or.freezeL (hn:∀ a,own' a→own a∨h a=none):∀ (xs:List O) (vs:List V) (F:List Addr),(∀ a∈F,¬ own' a)→zx T own h xs vs F→lP T own' h (O.frzL xs) vs
 | [],vs,F,_,e=>e.1
 | x::xs,vs,F,f,e=>by
  obtain⟨v,r,F1,F2,e1,rfl,e2,e3⟩:=e
  exact⟨v,r,e1,Or.freeze hn x v F1 (fun b hb=>f b (List.mem_append_left _ hb)) e2,Or.freezeL hn xs r F2 (fun b hb=>f b (List.mem_append_right _ hb)) e3⟩
end
theorem Or.read (x:O) (v:V) (F:List Addr) (e:Or T own h x v F):Dr T (fun _=>False) h x.frz v:=Or.freeze (fun _ z=>z.elim) x v F (fun _ _ z=>z) e
end
abbrev aW:=O×V
section
variable (T:Tab) (own:Addr→Prop) (h:Hp)
def aO:List aW→List Addr→Prop
 | [],F=>F = []
 | p::r,F=>∃ F1 F2,F=F1++F2∧Or T own h p.1 p.2 F1∧aO r F2
end
section
variable {T:Tab}{own own':Addr→Prop}{h h':Hp}
theorem aO.keep (k:fG own h h') (s:∀ a,own' a→own a∨h a=none):∀ (l:List aW) (F:List Addr),(∀ a∈F,h' a=h a)→aO T own h l F→aO T own' h' l F
 | [],F,_,e=>e
 | p::r,F,f,e=>by
  obtain⟨F1,F2,rfl,e1,e2⟩:=e
  exact⟨F1,F2,rfl,Or.keep k s p.1 p.2 F1 (fun b hb=>f b (List.mem_append_left _ hb)) e1,aO.keep k s r F2 (fun b hb=>f b (List.mem_append_right _ hb)) e2⟩
theorem aO.append:∀ {l m:List aW}{F G:List Addr},aO T own h l F→aO T own h m G→aO T own h (l++m) (F++G)
 | [],m,F,G,e,e'=>by
  have e:F = []:=e
  subst e
  exact e'
 | p::r,m,F,G,e,e'=>by
  obtain⟨F1,F2,rfl,e1,e2⟩:=e
  exact⟨F1,F2++G,by rw [List.append_assoc],e1,aO.append e2 e'⟩
theorem aO.split:∀ {l m:List aW}{F:List Addr},aO T own h (l++m) F→∃ F1 F2,F=F1++F2∧aO T own h l F1∧aO T own h m F2
 | [],m,F,e=>⟨[],F,rfl,rfl,e⟩
 | p::r,m,F,e=>by
  obtain⟨F1,F2,rfl,e1,e2⟩:=e
  obtain⟨G1,G2,rfl,e3,e4⟩:=aO.split e2
  exact⟨F1++G1,G2,by rw [List.append_assoc],⟨F1,G1,rfl,e1,e3⟩,e4⟩
theorem aO.perm {l m:List aW} (p:l.Perm m):∀ {F:List Addr},aO T own h l F→∃ G,aO T own h m G∧F.Perm G:=by
 induction p with
 | nil=>intro F e; exact⟨F,e,.refl _⟩
 | cons x _ ih =>
  intro F e
  obtain⟨F1,F2,rfl,e1,e2⟩:=e
  obtain⟨G,e3,q⟩:=ih e2
  exact⟨F1++G,⟨F1,G,rfl,e1,e3⟩,q.append_left F1⟩
 | swap x y l =>
  intro F e
  obtain⟨F1,F2,rfl,e1,F3,F4,rfl,e2,e3⟩:=e
  refine⟨F3++(F1++F4),⟨F3,F1++F4,rfl,e2,F1,F4,rfl,e1,e3⟩,?_⟩
  rw [← List.append_assoc,← List.append_assoc]
  exact List.perm_append_comm.append_right F4
 | trans _ _ ih1 ih2 =>
  intro F e
  obtain⟨G,e1,q1⟩:=ih1 e
  obtain⟨G',e2,q2⟩:=ih2 e1
  exact⟨G',e2,q1.trans q2⟩
theorem aO.ofL:∀ {xs:List O}{vs:List V}{F:List Addr},zx T own h xs vs F→aO T own h (xs.zip vs) F∧xs.length=vs.length
 | [],vs,F,e=>by
  obtain⟨rfl,rfl⟩:=e
  exact⟨rfl,rfl⟩
 | x::xs,vs,F,e=>by
  obtain⟨v,r,F1,F2,rfl,rfl,e1,e2⟩:=e
  obtain⟨q1,q2⟩:=aO.ofL e2
  exact⟨⟨F1,F2,rfl,e1,q1⟩,by simp [q2]⟩
theorem aO.toL:∀ {xs:List O}{vs:List V}{F:List Addr},xs.length=vs.length→aO T own h (xs.zip vs) F→zx T own h xs vs F
 | [],[],F,_,e=>⟨rfl,e⟩
 | [],_::_,F,l,e=>by simp at l
 | _::_,[],F,l,e=>by simp at l
 | x::xs,v::vs,F,l,e=>by
  obtain⟨F1,F2,rfl,e1,e2⟩:=e
  exact⟨v,vs,F1,F2,rfl,rfl,e1,aO.toL (by simpa using l) e2⟩
end
structure Base where
 G:Addr→Prop
 Z:Addr→Prop
 H0:Hp
 IO:Addr→Prop
 pr:List (Nat×V):=[]
 zo:Addr→PySem.Obj:=fun _=>default
end PV
namespace PV
open PySem L2
theorem cQ {Z:Addr→Prop}{H:Hp}{a:Addr}:vw Z H a=none↔H a=none:=by
 unfold vw
 split
 ·rename_i o u e
  constructor
  ·intro q
   split at q <;> cases q
  ·intro q; rw [e]at q; cases q
 ·exact Iff.rfl
theorem bU {Z:Addr→Prop}{H:Hp}{a:Addr} (h:¬ Z a):vw Z H a=H a:=by
 unfold vw
 split
 ·rename_i o u e
  rw [if_neg h,e]
 ·rfl
theorem jo {Z:Addr→Prop}{H:Hp}{a:Addr}{u:HO} (e:vw Z H a=some u):H a=some u∨(Z a∧∃ o,H a=some (.frz o u)):=by
 unfold vw at e
 split at e
 ·rename_i o u' e'
  split at e
  ·rename_i hz
   cases e
   exact .inr ⟨hz,o,e'⟩
  ·exact .inl (by rw [e']; exact e)
 ·exact .inl e
theorem uv {Z:Addr→Prop}{H:Hp}{p:Addr}{o:HO} (h:¬ Z p):vw Z (upd H p o)=upd (vw Z H) p o:=by
 funext a
 by_cases e:a=p
 ·subst e
  rw [bU h,upd_same,upd_same]
 ·rw [upd_ne e]
  unfold vw
  rw [upd_ne e]
def LD (u:HO):Prop:=match u with
 | .lst _=>True
 | .dK _=>True
 | .dT _=>True
 | _=>False
structure ae (T:Tab) (B:Base) (H:Hp) (hs:List Addr) (l:List aW):Prop where
 lk:∀ a,B.Z a→∃ u,H a=some (.frz (B.zo a) u)∧LD u
 old:∀ a o,B.H0 a=some o→¬ B.IO a→(∀ q,(a,q)∉T.tabs)→vw B.Z H a=some o
 oth:∀ a,B.G a→¬ B.IO a∧B.H0 a≠none∧∀ fs,B.H0 a≠some (.xd fs)
 io:∀ a,B.IO a→H a≠none
 tb:∀ p∈T.tabs,B.H0 p.1≠none∧¬ B.IO p.1∧LamX.TabS H p.1 p.2
 reps:∃ F:List Addr,aO T (fun a=>B.G a∨a∈hs++F) (vw B.Z H) l F∧(hs++F).Nodup∧∀ a∈hs++F,¬ B.G a∧(B.IO a∨B.H0 a=none)∧¬ B.Z a∧H a≠none
abbrev Sat (T:Tab) (B:Base) (H:Hp) (l:List aW):Prop:=ae T B H [] l
theorem vr {H:Hp}{P p:Addr}{q:Str}{ob:HO} (t:LamX.TabS H P q) (hP:p≠P) (k:∀ g,H p≠some (.ext g)):LamX.TabS (upd H p ob) P q:=by
 obtain⟨ps,h1,h2,h3⟩:=t
 refine⟨ps,by rw [upd_ne (Ne.symm hP)]; exact h1,h2,fun pos cv hc=>?_⟩
 obtain⟨c,e1,e2⟩:=h3 pos cv hc
 refine⟨c,e1,?_⟩
 rw [upd_ne fun z=>?_]
 ·exact e2
 ·rw [z]at e2
  exact k _ e2
theorem zE {Z:Addr→Prop}{H:Hp}{a:Addr}{ps:Array PySem.Value} (e:H a=some (.tbl ps)):vw Z H a=some (.tbl ps):=by
 unfold vw
 rw [e]
theorem zF {own:Addr→Prop}{h:Hp}{p:Addr}{o:HO} (n:h p=none):fG own h (upd h p o):=fun a u e _ _=>by
 rw [upd_ne (ne_of_none e n)]
 exact e
theorem yS {own:Addr→Prop}{h:Hp}{p:Addr}{o:HO} (n:own p) (t:∀ xs,h p≠some (.tup xs)) (f:∀ ob u,h p≠some (.frz ob u)):fG own h (upd h p o):=fun a u e k _=>by
 rw [upd_ne]
 ·exact e
 ·rintro rfl
  rcases k n with⟨xs,z⟩ | ⟨ob,u',z⟩
  ·exact t xs (z ▸ e)
  ·exact f ob u' (z ▸ e)
section
variable {T:Tab}{B:Base}{H H':Hp}{hs:List Addr}{l m:List aW}{o:O}{v:V}{x:D}{a p:Addr}
theorem ae.perm (s:ae T B H hs l) (q:l.Perm m):ae T B H hs m:=by
 obtain⟨F,r,nd,c⟩:=s.reps
 obtain⟨G,r',qq⟩:=r.perm q
 have pm:(hs++F).Perm (hs++G):=qq.append_left hs
 refine⟨s.lk,s.old,s.oth,s.io,s.tb,G,?_,pm.nodup_iff.mp nd,fun a ha=>c a (pm.mem_iff.mpr ha)⟩
 exact aO.keep fG.refl (fun a z=>.inl (z.imp id fun z=>pm.mem_iff.mpr z)) m G (fun _ _=>rfl) r'
theorem ae.drop1 (s:ae T B H hs ((o,v)::l)):ae T B H hs l:=by
 obtain⟨F,⟨F1,F2,rfl,r1,r2⟩,nd,c⟩:=s.reps
 have sub:∀ a,a∈hs++F2→a∈hs++(F1++F2):=fun a ha=>by
  rcases List.mem_append.mp ha with z | z
  ·exact List.mem_append_left _ z
  ·exact List.mem_append_right _ (List.mem_append_right _ z)
 refine⟨s.lk,s.old,s.oth,s.io,s.tb,F2,aO.keep fG.refl (fun a z=>.inl (z.imp id (sub a))) l F2 (fun _ _=>rfl) r2,?_,fun a ha=>c a (sub a ha)⟩
 exact nd.sublist (List.Sublist.append_left (List.sublist_append_right F1 F2) hs)
theorem ae.dropL (s:ae T B H hs (m++l)):ae T B H hs l:=by
 induction m with
 | nil=>exact s
 | cons p r ih=>exact ih (ae.drop1 (o:=p.1) (v:=p.2) s)
theorem ae.freeze (s:ae T B H hs ((o,v)::l)):ae T B H hs ((.d o.frz,v)::l):=by
 obtain⟨F,⟨F1,F2,rfl,r1,r2⟩,nd,c⟩:=s.reps
 have sub:∀ a,a∈hs++F2→a∈hs++(F1++F2):=fun a ha=>by
  rcases List.mem_append.mp ha with z | z
  ·exact List.mem_append_left _ z
  ·exact List.mem_append_right _ (List.mem_append_right _ z)
 have sm:∀ a,(B.G a∨a∈hs++F2)→(B.G a∨a∈hs++(F1++F2))∨vw B.Z H a=none:=fun a z=>.inl (z.imp id (sub a))
 refine⟨s.lk,s.old,s.oth,s.io,s.tb,F2,⟨[],F2,rfl,⟨rfl,?_⟩,aO.keep fG.refl sm l F2 (fun _ _=>rfl) r2⟩,?_,fun a ha=>c a (sub a ha)⟩
 ·refine Or.freeze sm o v F1 (fun a ha z=>?_) r1
  rcases z with z | z
  ·exact(c a (List.mem_append_right _ (List.mem_append_left _ ha))).1 z
  ·have nd':(F1++(hs++F2)).Nodup:=by
    refine(List.Perm.nodup_iff ?_).mp nd
    rw [← List.append_assoc,← List.append_assoc]
    exact List.perm_append_comm.append_right F2
   exact(List.nodup_append.mp nd').2.2 a ha a z rfl
 ·exact nd.sublist (List.Sublist.append_left (List.sublist_append_right F1 F2) hs)
theorem ae.dup (s:ae T B H hs ((.d x,v)::l)):ae T B H hs ((.d x,v)::(.d x,v)::l):=by
 obtain⟨F,⟨F1,F2,rfl,r1,r2⟩,nd,c⟩:=s.reps
 obtain⟨e,r1⟩:=r1
 have e:F1 = []:=e
 subst e
 exact⟨s.lk,s.old,s.oth,s.io,s.tb,F2,⟨[],F2,rfl,⟨rfl,r1⟩,[],F2,rfl,⟨rfl,r1⟩,r2⟩,nd,c⟩
theorem ae.lit (s:ae T B H hs l) (h:∀ own h,Dr T own h x v):ae T B H hs ((.d x,v)::l):=by
 obtain⟨F,r,nd,c⟩:=s.reps
 exact⟨s.lk,s.old,s.oth,s.io,s.tb,F,⟨[],F,rfl,⟨rfl,h _ _⟩,r⟩,nd,c⟩
theorem ae.read (s:ae T B H hs ((o,v)::l)):Dr T (fun _=>False) (vw B.Z H) o.frz v:=by
 obtain⟨F,⟨F1,F2,rfl,r1,r2⟩,nd,c⟩:=s.reps
 exact Or.read o v F1 r1
theorem ae.tn (s:ae T B H hs l) (h:B.IO a∨B.H0 a=none):∀ q,(a,q)∉T.tabs:=fun q hq=>by
 obtain⟨h1,h2,_⟩:=s.tb _ hq
 exact h.elim h2 h1
theorem ae.tt (s:ae T B H hs l) {q:Str} (h:(a,q)∈T.tabs):∃ ps,H a=some (.tbl ps):=by
 obtain⟨_,_,ps,h1,_⟩:=s.tb _ h
 exact⟨ps,h1⟩
theorem ae.tx (s:ae T B H hs l) {u:HO} (h:vw B.Z H a=some u) (nt:Ip u):∀ q,(a,q)∉T.tabs:=fun q hq=>by
 obtain⟨ps,h1⟩:=s.tt hq
 rw [zE h1]at h
 cases h
 exact nt
theorem ae.t0 (s:ae T B H hs l) (h:H a=none):∀ q,(a,q)∉T.tabs:=fun q hq=>by
 obtain⟨ps,h1⟩:=s.tt hq
 rw [h]at h1
 cases h1
theorem ae.notG (s:ae T B H hs l) (n:H p=none):¬ B.G p:=fun z=>by
 obtain⟨h1,h2,_⟩:=s.oth p z
 cases e:B.H0 p with
 | none=>exact h2 e
 | some o =>
  have:=s.old p o e h1 (s.t0 n)
  rw [cQ.mpr n]at this
  cases this
theorem ae.notZ (s:ae T B H hs l) (n:H p=none):¬ B.Z p:=fun z=>by
 obtain⟨u,e,_⟩:=s.lk p z
 rw [n]at e
 cases e
theorem ae.new0 (s:ae T B H hs l) (n:H p=none):B.H0 p=none:=by
 cases e:B.H0 p with
 | none=>rfl
 | some o =>
  have:=s.old p o e (fun z=>s.io p z n) (s.t0 n)
  rw [cQ.mpr n]at this
  cases this
theorem ae.alloc (s:ae T B H hs l) {ob:HO} (n:H p=none):ae T B (upd H p ob) (p::hs) l:=by
 obtain⟨F,r,nd,c⟩:=s.reps
 have np:p∉hs++F:=fun z=>(c p z).2.2.2 n
 have nz:=s.notZ n
 refine⟨fun a ha=>?_,fun a o e hi nt=>?_,s.oth,fun a ha=>?_,fun p' hp'=>?_,F,?_,List.nodup_cons.mpr ⟨np,nd⟩,fun a ha=>?_⟩
 ·obtain⟨u,e,mu⟩:=s.lk a ha
  exact⟨u,by rw [upd_ne (ne_of_none e n)]; exact e,mu⟩
 ·rw [uv nz,upd_ne]
  ·exact s.old a o e hi nt
  ·rintro rfl
   have:=s.old a o e hi nt
   rw [cQ.mpr n]at this
   cases this
 ·by_cases e:a=p
  ·subst e; rw [upd_same]; simp
  ·rw [upd_ne e]; exact s.io a ha
 ·obtain⟨t1,t2,t3⟩:=s.tb p' hp'
  exact⟨t1,t2,vr t3 (fun z=>s.t0 n _ (by rw [z]; exact hp')) fun g=>by rw [n]; simp⟩
 ·rw [uv nz]
  refine aO.keep (zF (cQ.mpr n)) (fun a z=>?_) l F (fun a ha=>upd_ne fun e=>np (e ▸ List.mem_append_right _ ha)) r
  rcases z with z | z
  ·exact .inl (.inl z)
  ·rcases List.mem_cons.mp z with e | z
   ·exact .inr (e ▸ cQ.mpr n)
   ·exact .inl (.inr z)
 ·rcases List.mem_cons.mp ha with e | ha
  ·subst e
   exact⟨s.notG n,.inr (s.new0 n),nz,by rw [upd_same]; simp⟩
  ·obtain⟨c1,c2,c3,c4⟩:=c a ha
   exact⟨c1,c2,c3,by rw [upd_ne (show a≠p from fun e=>c4 (by rw [e]; exact n))]; exact c4⟩
theorem ae.write (s:ae T B H (p::hs) l) {ob:HO} (t:∀ xs,H p≠some (.tup xs)) (f:∀ o u,H p≠some (.frz o u)) (k:∀ g,H p≠some (.ext g)):ae T B (upd H p ob) (p::hs) l:=by
 obtain⟨F,r,nd,c⟩:=s.reps
 obtain⟨c1,c2,nz,c4⟩:=c p (List.mem_cons_self)
 have np:p∉hs++F:=(List.nodup_cons.mp nd).1
 refine⟨fun a ha=>?_,fun a o e hi nt=>?_,s.oth,fun a ha=>?_,fun p' hp'=>?_,F,?_,nd,fun a ha=>?_⟩
 ·obtain⟨u,e,mu⟩:=s.lk a ha
  exact⟨u,by rw [upd_ne (show a≠p from fun z=>nz (by rw [← z]; exact ha))]; exact e,mu⟩
 ·rw [uv nz,upd_ne]
  ·exact s.old a o e hi nt
  ·rintro rfl
   rcases c2 with z | z
   ·exact hi z
   ·rw [z]at e; cases e
 ·by_cases e:a=p
  ·subst e; rw [upd_same]; simp
  ·rw [upd_ne e]; exact s.io a ha
 ·obtain⟨t1,t2,t3⟩:=s.tb p' hp'
  exact⟨t1,t2,vr t3 (fun z=>s.tn c2 _ (by rw [z]; exact hp')) k⟩
 ·rw [uv nz]
  exact aO.keep (yS (.inr List.mem_cons_self) (by rw [bU nz]; exact t) (by rw [bU nz]; exact f)) (fun a z=>.inl z) l F (fun a ha=>upd_ne fun e=>np (e ▸ List.mem_append_right _ ha)) r
 ·by_cases e:a=p
  ·subst e
   exact⟨c1,c2,nz,by rw [upd_same]; simp⟩
  ·obtain⟨d1,d2,d3,d4⟩:=c a ha
   exact⟨d1,d2,d3,by rw [upd_ne e]; exact d4⟩
theorem ae.letgo (s:ae T B H (p::hs) l):ae T B H hs l:=by
 obtain⟨F,r,nd,c⟩:=s.reps
 exact⟨s.lk,s.old,s.oth,s.io,s.tb,F,aO.keep fG.refl (fun a z=>.inl (z.imp id fun z=>List.mem_cons_of_mem _ z)) l F (fun _ _=>rfl) r,(List.nodup_cons.mp nd).2,fun a ha=>c a (List.mem_cons_of_mem _ ha)⟩
theorem ae.openL {os:List O} (s:ae T B H hs ((.lst os,v)::l)):∃ a vs,v = .ref a∧H a=some (.lst vs)∧os.length=vs.length∧ae T B H (a::hs) (os.zip vs++l):=by
 obtain⟨F,⟨F1,F2,rfl,r1,r2⟩,nd,c⟩:=s.reps
 obtain⟨a,vs,G,e1,rfl,e2,e3⟩:=r1
 obtain⟨e4,el⟩:=aO.ofL e3
 have pm:(hs++(a::G++F2)).Perm (a::hs++(G++F2)):=by
  have:(hs++(a::(G++F2))).Perm (a::(hs++(G++F2))):=List.perm_middle
  simpa using this
 have nz:¬ B.Z a:=(c a (pm.mem_iff.mpr List.mem_cons_self)).2.2.1
 refine⟨a,vs,e1,(bU nz).symm.trans e2,el,s.lk,s.old,s.oth,s.io,s.tb,G++F2,?_,pm.nodup_iff.mp nd,fun b hb=>c b (pm.mem_iff.mpr hb)⟩
 exact aO.keep fG.refl (fun b z=>.inl (z.imp id fun z=>pm.mem_iff.mpr z)) _ _ (fun _ _=>rfl) (aO.append e4 r2)
theorem ae.closeL {os:List O}{vs:List V} (s:ae T B H (a::hs) (os.zip vs++l)) (e:H a=some (.lst vs)) (hl:os.length=vs.length):ae T B H hs ((.lst os,.ref a)::l):=by
 obtain⟨F,r,nd,c⟩:=s.reps
 obtain⟨G,F2,rfl,r1,r2⟩:=aO.split r
 have pm:(hs++(a::G++F2)).Perm (a::hs++(G++F2)):=by
  have:(hs++(a::(G++F2))).Perm (a::(hs++(G++F2))):=List.perm_middle
  simpa using this
 have nz:¬ B.Z a:=(c a List.mem_cons_self).2.2.1
 have k:∀ b,(B.G b∨b∈hs++(a::G++F2))→(B.G b∨b∈a::hs++(G++F2))∨vw B.Z H b=none:=fun b z=>.inl (z.imp id fun z=>pm.mem_iff.mp z)
 refine⟨s.lk,s.old,s.oth,s.io,s.tb,a::G++F2,⟨a::G,F2,rfl,⟨a,vs,G,rfl,rfl,by rw [bU nz]; exact e,?_⟩,aO.keep fG.refl k _ _ (fun _ _=>rfl) r2⟩,pm.nodup_iff.mpr nd,fun b hb=>c b (pm.mem_iff.mp hb)⟩
 exact Or.keepL fG.refl k _ _ _ (fun _ _=>rfl) (aO.toL hl r1)
theorem ny (s:ae T B H hs l) {u:HO} (nf:∀ o w,u≠.frz o w) (e:Rd (vw B.Z H) a u):Rd H a u:=by
 rcases e with e | ⟨o,e⟩
 ·rcases jo e with e | ⟨_,o,e⟩
  ·exact .inl e
  ·exact .inr ⟨o,e⟩
 ·rcases jo e with e | ⟨z,o',e⟩
  ·exact .inr ⟨o,e⟩
  ·obtain⟨u2,e2,mu⟩:=s.lk a z
   rw [e]at e2
   cases e2
   exact mu.elim
theorem wZ (s:ae T B H hs l) {vs:List V} (e:vw B.Z H a=some (.tup vs)):H a=some (.tup vs):=by
 rcases jo e with e | ⟨z,o,e⟩
 ·exact e
 ·obtain⟨u2,e2,mu⟩:=s.lk a z
  rw [e]at e2
  cases e2
  exact mu.elim
theorem vt (s:ae T B H hs l) {n:Nat}{vs:List V} (e:TupAt T.K (vw B.Z H) n a vs):TupAt T.K H n a vs:=e.imp (wZ s) id
theorem zG (s:ae T B H hs l) {n:Nat}{vs:List V} (e:TupAt T.K (vw B.Z H) n a vs):SqT T.K H a vs:=(vt s e).sq
theorem lP.len {own:Addr→Prop}{h:Hp}:∀ {xs:List D}{vs:List V},lP T own h xs vs→xs.length=vs.length
 | [],vs,e=>by
  have e:vs = []:=e
  subst e; rfl
 | x::xs,vs,e=>by
  obtain⟨v,r,rfl,_,e⟩:=e
  simp [lP.len e]
theorem lP.reps {own:Addr→Prop}{h:Hp}:∀ {xs:List D}{vs:List V},lP T own h xs vs→aO T own h ((xs.map O.d).zip vs) []
 | [],vs,e=>by
  have e:vs = []:=e
  subst e; rfl
 | x::xs,vs,e=>by
  obtain⟨v,r,rfl,e1,e2⟩:=e
  exact⟨[],[],rfl,⟨rfl,e1⟩,lP.reps e2⟩
theorem ae.more (s:ae T B H hs l) {xs:List D}{vs:List V} (h:∀ F:List Addr,(∀ a∈hs++F,H a≠none)→aO T (fun a=>B.G a∨a∈hs++F) (vw B.Z H) l F→lP T (fun a=>B.G a∨a∈hs++F) (vw B.Z H) xs vs):ae T B H hs ((xs.map O.d).zip vs++l):=by
 obtain⟨F,r,nd,c⟩:=s.reps
 exact⟨s.lk,s.old,s.oth,s.io,s.tb,F,by simpa using aO.append (lP.reps (h F (fun a ha=>(c a ha).2.2.2) r)) r,nd,c⟩
theorem ae.lstKids {xs:List D} (s:ae T B H hs ((.d (.lst xs),v)::l)):∃ a vs,v = .ref a∧SqL T.K H a vs∧xs.length=vs.length∧ae T B H hs ((xs.map O.d).zip vs++(.d (.lst xs),v)::l):=by
 obtain⟨F,⟨F1,F2,rfl,r1,r2⟩,nd,c⟩:=id s.reps
 obtain⟨e,a,vs,e1,e2,e3⟩:=r1
 have e:F1 = []:=e
 subst e
 refine⟨a,vs,e1,?_,e3.len,s.lk,s.old,s.oth,s.io,s.tb,F2,?_,nd,c⟩
 ·rcases e2 with⟨_,e2⟩ | e2
  ·exact .inl (ny s (fun _ _ z=>nomatch z) e2)
  ·exact .inr e2
 ·exact aO.append (F:=[]) (lP.reps e3) ⟨[],F2,rfl,⟨rfl,a,vs,e1,e2,e3⟩,r2⟩
theorem ae.tupKids {xs:List D} (s:ae T B H hs ((.d (.tup xs),v)::l)):∃ a vs,v = .ref a∧SqT T.K H a vs∧xs.length=vs.length∧ae T B H hs ((xs.map O.d).zip vs++(.d (.tup xs),v)::l):=by
 obtain⟨F,⟨F1,F2,rfl,r1,r2⟩,nd,c⟩:=id s.reps
 obtain⟨e,a,vs,e1,e2,e3⟩:=r1
 have e:F1 = []:=e
 subst e
 exact⟨a,vs,e1,zG s e2,e3.len,s.lk,s.old,s.oth,s.io,s.tb,F2,aO.append (F:=[]) (lP.reps e3) ⟨[],F2,rfl,⟨rfl,a,vs,e1,e2,e3⟩,r2⟩,nd,c⟩
theorem ae.openT {os:List O} (s:ae T B H hs ((.tup os,v)::l)):∃ a vs,v = .ref a∧H a=some (.tup vs)∧os.length=vs.length∧ae T B H hs (os.zip vs++l):=by
 obtain⟨F,⟨F1,F2,rfl,r1,r2⟩,nd,c⟩:=s.reps
 obtain⟨a,vs,e1,e2,e3⟩:=r1
 obtain⟨e4,el⟩:=aO.ofL e3
 exact⟨a,vs,e1,wZ s e2,el,s.lk,s.old,s.oth,s.io,s.tb,F1++F2,aO.append e4 r2,nd,c⟩
theorem ae.closeT {os:List O}{vs:List V} (s:ae T B H hs (os.zip vs++l)) (e:H a=some (.tup vs)) (hl:os.length=vs.length):ae T B H hs ((.tup os,.ref a)::l):=by
 obtain⟨F,r,nd,c⟩:=s.reps
 obtain⟨G,F2,rfl,r1,r2⟩:=aO.split r
 have e':vw B.Z H a=some (.tup vs):=by
  rw [bU]
  ·exact e
  ·intro z
   obtain⟨u2,e2,mu⟩:=s.lk a z
   rw [e]at e2
   cases e2
 exact⟨s.lk,s.old,s.oth,s.io,s.tb,G++F2,⟨G,F2,rfl,⟨a,vs,rfl,e',aO.toL hl r1⟩,r2⟩,nd,c⟩
theorem zH {own:Addr→Prop}{h:Hp}:∀ {xs:List D}{vs:List V}{F:List Addr},xs.length=vs.length→aO T own h ((xs.map O.d).zip vs) F→F = []∧lP T own h xs vs
 | [],[],F,_,e=>⟨e,rfl⟩
 | [],_::_,F,hl,e=>by simp at hl
 | _::_,[],F,hl,e=>by simp at hl
 | x::xs,v::vs,F,hl,e=>by
  obtain⟨F1,F2,rfl,⟨q1,e1⟩,e2⟩:=e
  have q1:F1 = []:=q1
  subst q1
  obtain⟨rfl,e3⟩:=zH (by simpa using hl) e2
  exact⟨rfl,v,vs,rfl,e1,e3⟩
theorem ae.closeTd {xs:List D}{vs:List V} (s:ae T B H hs ((xs.map O.d).zip vs++l)) (e:H a=some (.tup vs)) (hl:xs.length=vs.length):ae T B H hs ((.d (.tup xs),.ref a)::l):=by
 have s':=(s.closeT e (by simpa using hl)).freeze
 have q:(O.tup (xs.map O.d)).frz = .tup xs:=by
  rw [O.frz,bu,List.map_map]
  congr 1
  exact List.map_id xs
 rw [q]at s'
 exact s'
theorem Or.mut {own:Addr→Prop}{h:Hp}:∀ (x:O) (v:V) (F:List Addr),Or T own h x v F→∀ a∈F,∃ o,h a=some o∧Mut (some o)∧∀ φ,o≠.ext φ:=by
 intro x
 apply O.rec (motive_1:=fun x=>∀ (v:V) (F:List Addr),Or T own h x v F→∀ a∈F,∃ o,h a=some o∧Mut (some o)∧∀ φ,o≠.ext φ) (motive_2:=fun xs=>∀ (vs:List V) (F:List Addr),zx T own h xs vs F→∀ a∈F,∃ o,h a=some o∧Mut (some o)∧∀ φ,o≠.ext φ)
 ·intro x v F e a ha
  obtain⟨e,_⟩:=e
  have e:F = []:=e
  subst e; cases ha
 ·intro xs ih v F e
  obtain⟨a,vs,_,_,e⟩:=e
  exact ih vs F e
 ·intro xs ih v F e b hb
  obtain⟨a,vs,G,_,rfl,e1,e⟩:=e
  rcases List.mem_cons.mp hb with rfl | hb
  ·exact⟨_,e1,trivial,fun _ z=>nomatch z⟩
  ·exact ih vs G e b hb
 ·intro ks xs ih v F e b hb
  obtain⟨a,vs,G,_,rfl,e1,e⟩:=e
  rcases List.mem_cons.mp hb with rfl | hb
  ·rcases e1 with⟨js,_,e1,_⟩ | ⟨js,_,e1,_⟩
   ·exact⟨_,e1,trivial,fun _ z=>nomatch z⟩
   ·exact⟨_,e1,trivial,fun _ z=>nomatch z⟩
  ·exact ih vs G e b hb
 ·intro C ns xs ih v F e b hb
  obtain⟨a,dx,vs,G,_,rfl,e1,_,e⟩:=e
  rcases List.mem_cons.mp hb with rfl | hb
  ·exact⟨_,e1,trivial,fun _ z=>nomatch z⟩
  ·exact ih vs G e b hb
 ·intro vs F e a ha
  obtain⟨_,e⟩:=e
  subst e; cases ha
 ·intro x xs ih1 ih2 vs F e a ha
  obtain⟨v,r,F1,F2,rfl,rfl,e1,e2⟩:=e
  rcases List.mem_append.mp ha with ha | ha
  ·exact ih1 v F1 e1 a ha
  ·exact ih2 r F2 e2 a ha
theorem aO.mut {own:Addr→Prop}{h:Hp}:∀ {l:List aW}{F:List Addr},aO T own h l F→∀ a∈F,∃ o,h a=some o∧Mut (some o)∧∀ φ,o≠.ext φ
 | [],F,e,a,ha=>by
  have e:F = []:=e
  subst e; cases ha
 | p::r,F,e,a,ha=>by
  obtain⟨F1,F2,rfl,e1,e2⟩:=e
  rcases List.mem_append.mp ha with ha | ha
  ·exact Or.mut _ _ _ e1 a ha
  ·exact aO.mut e2 a ha
theorem JY {p:Addr×Str}{Q:Addr→Prop} (s:ae T B H hs l) (hp:p∈T.tabs) (h:Q p.1→B.IO p.1∨B.H0 p.1=none):vw B.Z H p.1≠none∧¬ Q p.1∧LamX.TabS H p.1 p.2:=by
 obtain⟨t1,t2,t3⟩:=s.tb p hp
 refine⟨?_,fun z=>(h z).elim t2 t1,t3⟩
 obtain⟨ps,e,_⟩:=t3
 rw [zE e]
 simp
theorem Sat.callT {args:List aW} (s:Sat T B H (args++l)):∃ (B':Base) (Fl:List Addr) (own:Addr→Prop),B'.Z=B.Z∧B'.pr=B.pr∧T.tabs=T.tabs∧aO T own (vw B.Z H) l Fl∧Sat T B' H args∧∀ H' res,Sat T B' H' res→Sat T B H' (res++l)∧(∀ a∈Fl,vw B.Z H' a=vw B.Z H a)∧∀ a xs,vw B.Z H a=some (.tup xs)→vw B.Z H' a=some (.tup xs):=by
 obtain⟨F,r,nd,c⟩:=s.reps
 obtain⟨Fa,Fl,rfl,ra,rl⟩:=aO.split r
 simp only [List.nil_append]at nd c r ra rl
 have ndl:=List.nodup_append.mp nd
 refine⟨⟨fun a=>B.G a∨a∈Fl,B.Z,vw B.Z H,fun a=>a∈Fa,B.pr,B.zo⟩,Fl,_,rfl,rfl,rfl,rl,⟨s.lk,fun a o e _ _=>e,fun a ha=>?_,fun a ha=>(c a (List.mem_append_left _ ha)).2.2.2,fun p hp=>JY s hp fun z=>(c _ (List.mem_append_left _ z)).2.1,Fa,?_,ndl.1,fun a ha=>?_⟩,fun H' res s'=>?_⟩
 ·rcases ha with ha | ha
  ·refine⟨fun z=>(c a (List.mem_append_left _ z)).1 ha,?_⟩
   obtain⟨h1,h2,h3⟩:=s.oth a ha
   cases e:B.H0 a with
   | none=>exact(h2 e).elim
   | some o =>
    refine⟨fun z=>(by have q:=s.old a o e h1 (s.t0 (cQ.mp z)); rw [show vw B.Z H a=none from z]at q; cases q),fun fs z=>h3 fs ?_⟩
    have q:=s.old a o e h1 (s.tx z trivial)
    rw [show vw B.Z H a=some (.xd fs)from z]at q
    rw [e]
    exact q.symm
  ·refine⟨fun z=>ndl.2.2 a z a ha rfl,fun z=>?_,fun fs z=>?_⟩
   ·exact(c a (List.mem_append_right _ ha)).2.2.2 (cQ.mp z)
   ·obtain⟨o,e1,e2,_⟩:=aO.mut rl a ha
    rw [show vw B.Z H a=some (.xd fs)from z]at e1
    cases e1
    exact e2
 ·refine aO.keep fG.refl (fun a z=>.inl ?_) args Fa (fun _ _=>rfl) ra
  simp only [List.nil_append]at z
  rcases z with(z | z) | z
  ·exact .inl z
  ·exact .inr (List.mem_append_right _ z)
  ·exact .inr (List.mem_append_left _ z)
 ·simp only [List.nil_append]at ha
  obtain⟨c1,c2,c3,c4⟩:=c a (List.mem_append_left _ ha)
  exact⟨fun z=>z.elim c1 fun z=>ndl.2.2 a ha a z rfl,.inl ha,c3,c4⟩
 ·obtain⟨F',r',nd',c'⟩:=s'.reps
  simp only [List.nil_append]at nd' c' r'
  have keepFl:∀ a∈Fl,vw B.Z H' a=vw B.Z H a:=fun a ha=>by
   cases e:vw B.Z H a with
   | none=>exact((c a (List.mem_append_right _ ha)).2.2.2 (cQ.mp e)).elim
   | some o=>exact s'.old a o e (fun z=>ndl.2.2 a z a ha rfl) (s.tn (c a (List.mem_append_right _ ha)).2.1)
  refine⟨⟨s'.lk,fun a o e hi nt=>s'.old a o (s.old a o e hi nt) (fun z=>?_) nt,s.oth,fun a ha=>?_,fun p hp=>⟨(s.tb p hp).1,(s.tb p hp).2.1,(s'.tb p hp).2.2⟩,F'++Fl,?_,?_,fun a ha=>?_⟩,keepFl,fun a xs e=>s'.old a _ e (fun z=>by
   obtain⟨o',e',mu,_⟩:=aO.mut ra a z
   rw [e]at e'
   cases e'
   exact mu) (s.tx e trivial)⟩
  ·obtain⟨_,c2,_⟩:=c a (List.mem_append_left _ z)
   rcases c2 with c2 | c2
   ·exact hi c2
   ·rw [e]at c2; cases c2
  ·by_cases z:a∈Fa
   ·exact s'.io a z
   ·cases e:vw B.Z H a with
    | none=>exact(s.io a ha (cQ.mp e)).elim
    | some o =>
     intro q
     have:=s'.old a o e z (s'.t0 q)
     rw [cQ.mpr q]at this
     cases this
  ·refine aO.append (aO.keep fG.refl (fun a z=>.inl ?_) res F' (fun _ _=>rfl) r') (aO.keep (fun a o e k nt=>?_) (fun a z=>?_) l Fl keepFl rl)
   ·simp only [List.nil_append]at z
    rcases z with z | z
    ·exact .inl (.inl z)
    ·rcases List.mem_append.mp z with z | z
     ·exact .inr z
     ·exact .inl (.inr z)
   ·refine s'.old a o e (fun z=>?_) (s.tx e nt)
    obtain⟨o',e',mu,_⟩:=aO.mut ra a z
    rw [e]at e'
    cases e'
    rcases k (.inr (List.mem_append_left _ z))with⟨xs,rfl⟩ | ⟨ob,u,rfl⟩
    ·exact mu
    ·exact mu
   ·simp only [List.nil_append]at z
    rcases z with z | z
    ·exact .inl (.inl z)
    ·rcases List.mem_append.mp z with z | z
     ·rcases(c' a z).2.1 with q | q
      ·exact .inl (.inr (List.mem_append_left _ q))
      ·exact .inr q
     ·exact .inl (.inr (List.mem_append_right _ z))
  ·show(F'++Fl).Nodup
   refine List.nodup_append.mpr ⟨nd',ndl.2.1,fun a ha b hb e=>?_⟩
   subst e
   exact(c' a ha).1 (.inr hb)
  ·simp only [List.nil_append]at ha
   rcases List.mem_append.mp ha with ha | ha
   ·obtain⟨d1,d2,d3,d4⟩:=c' a ha
    refine⟨fun z=>d1 (.inl z),?_,d3,d4⟩
    rcases d2 with d2 | d2
    ·exact(c a (List.mem_append_left _ d2)).2.1
    ·exact .inr (s.new0 (cQ.mp d2))
   ·obtain⟨c1,c2,c3,c4⟩:=c a (List.mem_append_right _ ha)
    refine⟨c1,c2,c3,fun z=>?_⟩
    have:=keepFl a ha
    rw [cQ.mpr z]at this
    exact c4 (cQ.mp this.symm)
theorem Sat.call {args:List aW} (s:Sat T B H (args++l)):∃ (B':Base) (Fl:List Addr) (own:Addr→Prop),B'.Z=B.Z∧B'.pr=B.pr∧T.tabs=T.tabs∧aO T own (vw B.Z H) l Fl∧Sat T B' H args∧∀ H' res,Sat T B' H' res→Sat T B H' (res++l)∧∀ a∈Fl,vw B.Z H' a=vw B.Z H a:=by
 obtain⟨B',Fl,own,h1,h2,h2',h3,h4,h5⟩:=Sat.callT s
 exact⟨B',Fl,own,h1,h2,h2',h3,h4,fun H' res s'=>⟨(h5 H' res s').1,(h5 H' res s').2.1⟩⟩
end
end PV
namespace PV
open PySem PySem.Spec PyProof.Rows
def iT (acc:List Str) (x:Str):List Str:=if acc.any (· == x)then acc else acc++[x]
def met (xs:List Str):List Str:=xs.foldl iT []
theorem zI (xs:List Str) (x:Str):met (xs++[x])=iT (met xs) x:=by
 unfold met
 rw [List.foldl_append]; rfl
theorem zJ (xs:List Str):(met xs).length≤xs.length:=by
 have key:∀ (xs acc:List Str),(xs.foldl iT acc).length≤acc.length+xs.length:=by
  intro xs
  induction xs with
  | nil=>intro acc; exact Nat.le_refl _
  | cons x xs ih =>
   intro acc
   have h1:(iT acc x).length≤acc.length+1:=by
    unfold iT
    split
    ·omega
    ·rw [List.length_append,List.length_singleton]; omega
   have:=ih (iT acc x)
   show(xs.foldl iT (iT acc x)).length≤acc.length+(xs.length+1)
   omega
 have:=key xs []
 simpa [met]using this
theorem BW (acc:List Str) (x k:Str):(acc.any (· == k)||decide (k=x))=(iT acc x).any (· == k):=by
 unfold iT
 by_cases h:acc.any (· == x)=true
 ·rw [if_pos h]
  by_cases e:k=x
  ·subst e; rw [h]; simp
  ·simp [e]
 ·rw [if_neg h,List.any_append]
  congr 1
  by_cases e:k=x
  ·subst e; simp
  ·have:(x == k)=false:=beq_eq_false_iff_ne.mpr fun z=>e z.symm
   simp [e,this]
theorem BX (acc:List Str) (x:Str):(if acc.any (· == x)=true then acc.length else acc.length+1)=(iT acc x).length:=by
 unfold iT
 by_cases h:acc.any (· == x)=true
 ·rw [if_pos h,if_pos h]
 ·rw [if_neg h,if_neg h]; simp
section
variable {prog:Program}{w:World}{A:Around}{R:Result→Shared→Prop}{I:Addr}{fp wr:List Addr}{G:Array GenState→Array GenState→Prop}{n:Nat}{P:Nat→Value→Prop}{St:Nat→Shared→Prop}
theorem Ef (W:WalksS prog w A.in1 I fp wr G n P St) (S:Addr) (hSf:S∉fp) (xs:List Str) (hsz:xs.length=n) (hb:n+1 < scanBound)
  (hval:∀ i v,P i v→∃ t,v = .str (xs.getD i Str.empty) t) :
  ∀ (k i:Nat) (s:Shared),n - i=k→i≤n→St i s →
   s.heap.SetOf (PySem.strKind prog w) S (fun k'=>(met (xs.take i)).any (· == k')) (met (xs.take i)).length →
   (∀ s',Moved (S::wr) G s s'→s'.heap.SetOf (PySem.strKind prog w) S (fun k'=>(met (xs.take n)).any (· == k')) (met (xs.take n)).length→R (.ok (.ret .none)) s') →
   codeAny (model prog w) A (.builtin "set.update.loop" ⟨[.ref S,.ref I],[]⟩) R s:=by
 have hSw:S∉wr:=fun h=>hSf (W.sub _ h)
 have hsub:∀ b∈wr,b∈S::wr:=fun b hb=>List.mem_cons_of_mem _ hb
 intro k
 induction k with
 | zero =>
  intro i s hk hi hst hS hR
  have hin:i=n:=by omega
  subst hin
  refine codeAny_builtin PyProof.Rows.F.entry_set_update_loop ?_
  rw [Around.under_plainId PyProof.Rows.F.plain_set_update_loop _]
  show wpAny _ A.in1 (pyNext (.ref I) >>= _) _ _ s
  refine wpAny_bind (W.done s _ _ hst fun s' hm=>?_)
  show wpAny _ A.in1 (ret Value.none) _ _ s'
  exact wpAny_pure (hR s' (hm.mono hsub) (by
   obtain⟨o,es,ep,t,ho,rest⟩:=hS
   exact⟨o,es,ep,t,hm.heap S _ hSw ho,rest⟩))
 | succ k ih =>
  intro i s hk hi hst hS hR
  have hlt:i < n:=by omega
  refine codeAny_builtin PyProof.Rows.F.entry_set_update_loop ?_
  rw [Around.under_plainId PyProof.Rows.F.plain_set_update_loop _]
  show wpAny _ A.in1 (pyNext (.ref I) >>= _) _ _ s
  refine wpAny_bind (W.item i s _ _ hlt hst fun v s' hP hst' hm=>?_)
  obtain⟨t,rfl⟩:=hval i v hP
  have hS':s'.heap.SetOf (PySem.strKind prog w) S (fun k'=>(met (xs.take i)).any (· == k')) (met (xs.take i)).length:=by
   obtain⟨o,es,ep,tb,ho,rest⟩:=hS
   exact⟨o,es,ep,tb,hm.heap S _ hSw ho,rest⟩
  show wpAny _ A.in1 (holding [Value.str (xs.getD i Str.empty) t] (setAdd S (.str (xs.getD i Str.empty) t)) >>= _) _ _ s'
  refine wpAny_bind (wpAny_holding ?_)
  unfold setAdd
  refine wpAny_holding ?_
  refine wpAny_bind ((PySem.strKind prog w).pyHash (k:=xs.getD i Str.empty) (strKind_is _ _ _ _) ?_)
  refine wpAny_setAddHashed_of (knd:=PySem.strKind prog w) (s:={s' with toks:=s'.toks+1}) (strKind_is _ _ _ _) rfl hS' (by have:=zJ (xs.take i); rw [List.length_take]at this; omega) fun h' hsb hS2=>?_
  have hti:xs.take (i+1)=xs.take i++[xs.getD i Str.empty]:=by
   have hlx:i < xs.length:=by omega
   rw [List.take_add_one,List.getElem?_eq_getElem hlx,List.getD_eq_getElem?_getD,List.getElem?_eq_getElem hlx]; rfl
  have hSi:h'.SetOf (PySem.strKind prog w) S (fun k'=>(met (xs.take (i+1))).any (· == k')) (met (xs.take (i+1))).length:=by
   rw [hti,zI]
   exact SetOf_congr hS2 (fun k'=>BW _ _ _) (BX _ _)
  refine wpAny_pure ⟨plainId_quiet PyProof.Rows.F.plain_set_update_loop _,ih (i+1) _ (by omega) hlt (W.frame _ s' _ _ hst' (Nat.le_succ _) fun b hb o e=>?_) hSi fun s'' hm'' hS''=>?_⟩
  ·rw [hsb.2 b (fun h:b=S=>hSf (by rw [← h]; exact hb))]; exact e
  ·refine hR s'' (Moved.trans W.gtrans ((hm.mono hsub).then_heap (Nat.le_succ _) fun b o hb e=>?_) hm'') hS''
   rw [hsb.2 b (fun h:b=S=>hb (by rw [h]; exact List.mem_cons_self))]; exact e
end
set_option maxHeartbeats 3200000 in
theorem qu {l:Addr}{items:Array Value}{xs:List Str}{Q:Value→Shared→Prop}
  (hh:A.handled=none) (hl:s.heap.IsList l items) (hi:PyProof.Rows.StrsAre items.toList xs) (hn1:xs.length+1 < scanBound)
  (h:∀ (h':Heap) (tk:Nat),h'.SetOf (PySem.strKind prog w) s.heap.objs.size (fun k'=>(met (xs.take items.size)).any (· == k')) (met (xs.take items.size)).length →
   (∀ b o,b < s.heap.objs.size→s.heap.get? b=some o→h'.get? b=some o)→Q (.ref s.heap.objs.size) {s with heap:=h',toks:=tk}) :
  wpAny (model prog w) A (call (.type "set") [.ref l]) Q E s:=by
 obtain⟨c,tl,hmro⟩:=PySem.F.called_set.mro
 have hmade:=PySem.F.called_set.made
 have hsub:=PySem.F.called_set.sub
 refine wpAny_call (codeAny_of_tree ?_)
 show wpAny _ _ (callAny (.type "set") _) _ _ _
 refine wpAny_pure ⟨Code.quiet_builtin _ (by decide +kernel),codeAny_builtin PySem.F.entry_type_call ?_⟩
 rw [Around.under_plain (weight_type_call_type "set" [.ref l] []) rfl]
 have h1:=PySem.F.called_set.notType
 have h2:=PySem.F.called_set.canCreate
 have hct:=PySem.F.typeCall_set_1 (.ref l)
 repeat (any_goals (first | assumption | wp_step))
 refine codeAny_mono (code_set_new_1 (.ref l) (E:=E) (Q₁:=fun obj s₁=>∃ led:Bool,obj = .ref s.heap.objs.size∧s₁={s with heap:=s.heap.push {cls:=.type "set",dict:=none,data:=.set #[] 0 (.fresh 0 0 led)}}) fun led=>⟨led,rfl,rfl⟩) fun r s₁ hr=>?_
 cases r with
 | error e=>exact hr
 | ok fl =>
  cases fl with
  | ret obj =>
   obtain⟨led,rfl,rfl⟩:=hr
   have hS:(s.heap.push {cls:=.type "set",dict:=none,data:=.set #[] 0 (.fresh 0 0 led)}).get? s.heap.objs.size=some {cls:=.type "set",dict:=none,data:=.set #[] 0 (.fresh 0 0 led)}:=Heap.get?_push_size _ rfl
   have hT:Shared.TypeIs {s with heap:=s.heap.push {cls:=.type "set",dict:=none,data:=.set #[] 0 (.fresh 0 0 led)}} (.ref s.heap.objs.size) "set" := ⟨_,hS,rfl⟩
   have hli:=PySem.F.called_set.init.lookup
   have hbi:=PySem.F.called_set.init.bind (.ref s.heap.objs.size)
   repeat (any_goals (first | assumption | wp_step))
   refine codeAny_mono (codeAny_call_builtin (R:=wants (fun r s₂=>r = .none∧∃ h' tk,s₂={s with heap:=h',toks:=tk} ∧
     h'.SetOf (PySem.strKind prog w) s.heap.objs.size (fun k'=>(met (xs.take items.size)).any (· == k')) (met (xs.take items.size)).length ∧
     (∀ b o,b < s.heap.objs.size→s.heap.get? b=some o→h'.get? b=some o)) E) PySem.F.called_set.init.plain PySem.F.entry_set_init (check_set_init_1 hT ?_)) fun r₂ s₂ hr₂=>?_
   ·obtain⟨ol,hol,hcl,nl,hdl⟩:=hl
    obtain⟨ocls,odict,odata,oslots⟩:=ol
    simp only at hcl hdl
    subst hcl; subst hdl
    have hol':(s.heap.push {cls:=.type "set",dict:=none,data:=.set #[] 0 (.fresh 0 0 led)}).get? l=some {cls:=.type "list",dict:=odict,data:=.seq items nl,slots:=oslots}:=Heap.get?_push_of_some _ hol
    have hsls:=PySem.F.sub_list_set
    have hslf:=PySem.F.sub_list_frozenset
    have hne:(Value.type "list" == Value.type "dict")=false:=by decide
    have hl1:(s.heap.push {cls:=.type "set",dict:=none,data:=.set #[] 0 (.fresh 0 0 led)}).IsList l items:=⟨_,hol',rfl,nl,rfl⟩
    unfold Builtin.«set.__init__» noKeywords Builtin.Frozenset.updateFrom
    generalize hPI:pyIter=PI
    wp_walk
    subst hPI
    refine wpAny_pyIter_list hl1 ?_
    refine wpAny_bind (wpAny_runValue ?_)
    have hlS:l < s.heap.objs.size:=Heap.lt_size hol
    have hh3:A.in1.in1.in1.handled=none:=by simp [hh]
    have hneI:l≠(s.heap.push {cls:=.type "set",dict:=none,data:=.set #[] 0 (.fresh 0 0 led)}).objs.size:=by
     rw [Heap.size_push]; exact Nat.ne_of_lt (Nat.lt_succ_of_lt hlS)
    have hSf:s.heap.objs.size∉[(s.heap.push {cls:=.type "set",dict:=none,data:=.set #[] 0 (.fresh 0 0 led)}).objs.size,l]:=by
     rw [Heap.size_push]; simp only [List.mem_cons,List.mem_singleton,List.not_mem_nil,or_false,not_or]
     exact⟨Nat.ne_of_lt (Nat.lt_succ_self _),Nat.ne_of_gt hlS⟩
    have hsz:xs.length=items.size:=by rw [← StrsAre.len_eq hi,Array.length_toList]
    have hval:∀ (i:Nat) (v:Value),items[i]?=some v→∃ t,v = .str (xs.getD i Str.empty) t:=fun i v hv=>SS.strs_at hi i v (by rw [Array.getElem?_toList]; exact hv)
    refine Ef ((Walks.list hh3 _ l hneI items).toS) s.heap.objs.size
     hSf xs hsz (by rw [← hsz]; exact hn1) hval (items.size - 0) 0 _ (by omega) (Nat.zero_le _)
     ⟨⟨_,Heap.get?_push_size _ rfl,rfl,rfl⟩,(hl1.push _)⟩ ?hS0 ?hR
    case hS0 =>
     have hget:((s.heap.push {cls:=.type "set",dict:=none,data:=.set #[] 0 (.fresh 0 0 led)}).push {cls:=.type "list_iterator",data:=.fields #[.ref l,.int 0 0]}).get? s.heap.objs.size
       = some {cls:=.type "set",dict:=none,data:=.set #[] 0 (.fresh 0 0 led)}:=Heap.get?_push_of_some _ hS
     exact PyProof.Rows.SetOf_congr ((PyProof.Rows.setObjOf_fresh (knd:=PySem.strKind prog w) led).setOf hget (by unfold scanBound; omega)) (fun _=>rfl) rfl
    case hR =>
     intro s' hm hS'
     obtain⟨h',g',d',tk',os'⟩:=s'
     have eg:g'=s.gens:=hm.gens
     have ed:d'=s.drawn:=hm.drawn
     have eo:os'=s.os:=hm.os
     subst eg; subst ed; subst eo
     show wpAny _ _ _ _ _ _
     refine wpAny_pure ?_
     show wpAny _ _ (ret Value.none) _ _ _
     refine wpAny_pure ⟨rfl,h',tk',rfl,hS',fun b o hb e=>?_⟩
     have hb1:b≠s.heap.objs.size:=Nat.ne_of_lt hb
     have hb2:b≠(s.heap.push {cls:=.type "set",dict:=none,data:=.set #[] 0 (.fresh 0 0 led)}).objs.size:=by
      rw [Heap.size_push]; exact Nat.ne_of_lt (Nat.lt_succ_of_lt hb)
     exact hm.heap b o (by simp only [List.mem_cons,List.mem_singleton,List.not_mem_nil,or_false,not_or]; exact⟨hb1,hb2⟩) (Heap.get?_push_of_some _ (Heap.get?_push_of_some _ e))
   ·cases r₂ with
    | error e=>exact hr₂
    | ok fl₂ =>
     cases fl₂ with
     | ret r =>
      obtain⟨rfl,h',tk,rfl,hS',hk'⟩:=hr₂
      repeat (any_goals (first | assumption | wp_step))
      exact h _ _ hS' hk'
     | _=>exact hr₂.elim
  | _=>exact hr.elim
end PV
namespace PV
open PySem L2 PyProof.Rows
mutual
def D.okd:Nat→D→Bool
 | _,.non=>true
 | _,.bl _=>true
 | _,.int _=>true
 | _,.str _=>true
 | 0,_=>false
 | n+1,.tup xs=>D.okdL n xs
 | n+1,.lst xs=>D.okdL n xs
 | _+1,.dic _ _=>false
 | _+1,.obj _ _ _=>false
 | _+1,.exc _ _=>false
def D.okdL:Nat→List D→Bool
 | _,[]=>true
 | n,x::xs=>D.okd n x&&D.okdL n xs
end
mutual
def D.toP:D→PyData
 | .non=>.none
 | .bl b=>.bool b
 | .int i=>.int i
 | .str x=>.str x
 | .tup xs=>.tuple (D.toPL xs)
 | .lst xs=>.list (D.toPL xs)
 | .dic _ _=>.none
 | .obj _ _ _=>.none
 | .exc _ _=>.none
def D.toPL:List D→List PyData
 | []=>[]
 | x::xs=>D.toP x::D.toPL xs
end
mutual
def D.eqd:D→D→Bool
 | .non,.non=>true
 | .bl a,.bl b=>a == b
 | .bl a,.int j=>(if a then 1 else 0) == j
 | .int i,.bl b=>i == (if b then 1 else 0)
 | .int i,.int j=>i == j
 | .str x,.str y=>x == y
 | .tup xs,.tup ys=>D.eqdL xs ys
 | .lst xs,.lst ys=>D.eqdL xs ys
 | _,_=>false
def D.eqdL:List D→List D→Bool
 | [],[]=>true
 | x::xs,y::ys=>D.eqd x y&&D.eqdL xs ys
 | _,_=>false
end
inductive Bi | add | sub | mul | fdiv | mod | pow
inductive Cm | eq | ne | lt | le | gt | ge | is | isnot | isin | notin
inductive Un | neg
inductive Fn | len | list | tuple | sorted | dict | abs | int | str | bool | sum | sum2 | min1 | max1 | min2 | max2 | any | all | repr | lenset
deriving DecidableEq
inductive qv | bool | int | str | list | tuple | dict | verr | cls (C:Nat)
inductive Mt | index | indexT | count | get1 | get2 | split | join | copy
inductive Mu | append | extend | pop | popAt | insert | clear | setdefault | update | reverse
inductive Ck | lst | set
mutual
inductive SE where
 | var (i:Nat)
 | mv (i:Nat)
 | lit (d:D)
 | glo (x:Str) (d:D)
 | tup (es:List SE)
 | lst (es:List SE)
 | dct (kvs:List SE)
 | dctT (k v:SE)
 | bi (k:Bi) (a b:SE)
 | un (k:Un) (a:SE)
 | cm (k:Cm) (a b:SE)
 | cm2 (k l:Cm) (a b c:SE)
 | band (es:List SE)
 | bor (es:List SE)
 | bnot (a:SE)
 | ite (c a b:SE)
 | idx (a b:SE)
 | slc (a lo hi:SE)
 | rev (a:SE)
 | fld (C:Nat) (a:SE) (f:Str)
 | prop (C:Nat) (nm:Str) (f:Nat) (a:SE)
 | fn (k:Fn) (es:List SE)
 | ofn (sh:Bool) (f:List D→Option O) (es:List SE)
 | oex (f:List (Option O)→Option (O×List (Option O)))
 | isa (cs:List Nat) (ts:List qv) (a:SE)
 | mt (k:Mt) (a:SE) (es:List SE)
 | mu (k:Mu) (i:Nat) (path:List SE) (es:List SE)
 | call (f:Nat) (es:List SE)
 | callp (f:Nat) (es:List SE) (g:List (Nat ⊕ D))
 | meth (C:Nat) (nm:Str) (f:Nat) (a:SE) (es:List SE) (g:List (Nat ⊕ D))
 | make (C:Nat) (f:Nat) (es:List SE) (g:List (Nat ⊕ D))
 | makeL (i:Nat) (C:Nat) (f:Nat) (es:List SE) (g:List (Nat ⊕ D))
 | cmeth (C:Nat) (f:Nat) (es:List SE) (g:List (Nat ⊕ D))
 | dlen (C f:Nat) (a:SE)
 | din (neg:Bool) (C f:Nat) (x a:SE)
 | deq (neg:Bool) (C f:Nat) (a b:SE)
 | never
 | frz (a:SE)
 | pkcm (k:Cm) (i:Nat) (path:List SE) (b:SE)
 | lck (i:Nat) (a:SE)
 | comp (k:Ck) (e:SE) (own:List Nat) (t:Tg) (it:IE) (ifs:List SE)
 | comp2 (e:SE) (own:List Nat) (t:Tg) (it:IE) (ifs:List SE) (t2:Tg) (it2:IE) (ifs2:List SE)
 | dcomp (k v:SE) (own:List Nat) (t:Tg) (it:IE) (ifs:List SE)
inductive IE where
 | of (e:SE)
 | range (es:List SE)
 | enum (e:SE)
 | zip (a b:SE)
 | items (e:SE)
 | vals (e:SE)
 | rev (e:SE)
 | keys (i:Nat)
 | gen (f:D→Option (List D)) (e:SE)
 | zipM (a b:SE)
inductive Tg where
 | nm (i:Nat)
 | tp (ts:List Tg)
 | fl (i C:Nat) (f:Str)
end
inductive SS where
 | asg (t:Tg) (e:SE)
 | sub (i:Nat) (path:List SE) (e:SE)
 | fld (i C:Nat) (f:Str) (e:SE)
 | aug (i:Nat) (k:Bi) (e:SE)
 | augs (i:Nat) (path:List SE) (k:Bi) (e:SE)
 | sub2 (i j k:Nat) (e1 e2:SE)
 | exp (e:SE)
 | ret (e:SE)
 | retN
 | ite (c:SE) (a b:List SS)
 | for (t:Tg) (it:IE) (b:List SS)
 | whl (c:SE) (b:List SS)
 | rse (C:Nat) (es:List SE)
 | try (cs:List Nat) (b:List SS) (e x:Nat)
 | pass | brk | cont
 | kill (l:List Nat)
 | never
 | lck (i:Nat) (s:SS)
 | osl (f:List (Option O)→Option (List (Option O)))
abbrev Env:=List (Option O)
inductive Res (α:Type) where
 | ok (a:α) (ρ:Env)
 | exc (C:Nat) (p:List D) (ρ:Env)
 | bad
def Res.bind {α β:Type} (r:Res α) (f:α→Env→Res β):Res β:=match r with
 | .ok a ρ=>f a ρ
 | .exc C p ρ=>.exc C p ρ
 | .bad=>.bad
@[simp] theorem Res.bind_ok {α β:Type}{a:α}{ρ:Env}{f:α→Env→Res β}:(Res.ok a ρ).bind f=f a ρ:=rfl
@[simp] theorem Res.bind_exc {α β:Type}{C:Nat}{p:List D}{ρ:Env}{f:α→Env→Res β}:(Res.exc C p ρ:Res α).bind f = .exc C p ρ:=rfl
@[simp] theorem Res.bind_bad {α β:Type}{f:α→Env→Res β}:(Res.bad:Res α).bind f = .bad:=rfl
def bnd {α β:Type} (o:Option α) (f:α→Res β):Res β:=match o with
 | some a=>f a
 | none=>.bad
@[simp] theorem cV {α β:Type}{a:α}{f:α→Res β}:bnd (some a) f=f a:=rfl
@[simp] theorem Gf {α β:Type}{f:α→Res β}:bnd none f = .bad:=rfl
def Res.of {α:Type} (o:Option α) (ρ:Env):Res α:=match o with
 | some a=>.ok a ρ
 | none=>.bad
@[simp] theorem Res.of_some {α:Type}{a:α}{ρ:Env}:Res.of (some a) ρ = .ok a ρ:=rfl
@[simp] theorem Res.of_none {α:Type}{ρ:Env}:Res.of (none:Option α) ρ = .bad:=rfl
inductive bC where
 | ok (o:O) (ios:List O)
 | exc (C:Nat) (p:List D) (ios:List O)
 | bad
structure zK where
 lvl:Nat
 run:List O→bC
abbrev cW:=Nat→zK
def aq (ρ:Env) (i:Nat):Option O:=(ρ[i]?).join
@[simp] theorem FR {i:Nat}:aq [] i=none:=rfl
@[simp] theorem Eg {o:Option O}{ρ:Env}:aq (o::ρ) 0=o:=rfl
@[simp] theorem Eh {o:Option O}{ρ:Env}{i:Nat}:aq (o::ρ) (i+1)=aq ρ i:=rfl
inductive Arg | slot (i:Nat) | val (o:O)
def aB (a:Arg) (ρ:Env):Res O:=match a with
 | .val o=>.ok o ρ
 | .slot i=>bnd (aq ρ i) fun o=>.ok o (taken o i ρ)
where taken (o:O) (i:Nat) (ρ:Env):Env:=match o with
 | .d _=>ρ
 | _=>ρ.set i none
def cX:List Arg→Env→Res (List O)
 | [],ρ=>.ok [] ρ
 | a::as,ρ=>(aB a ρ).bind fun o ρ=>(cX as ρ).bind fun os ρ=>.ok (o::os) ρ
def back (a:Arg) (o:O) (ρ:Env):Env:=match a with
 | .val _=>ρ
 | .slot i=>ρ.set i (some o)
def aL:List Arg→List O→Env→Env
 | a::as,o::os,ρ=>aL as os (back a o ρ)
 | _,_,ρ=>ρ
def O.shal:O→O
 | .d x=>.d x
 | .tup xs=>.tup (xs.map fun o=>.d o.frz)
 | .lst xs=>.lst (xs.map fun o=>.d o.frz)
 | .dic ks vs=>.dic ks (vs.map fun o=>.d o.frz)
 | .obj C ns vs=>.obj C ns (vs.map fun o=>.d o.frz)
def mN (f:List D→Option O) (sh:Bool) (as:List Arg) (ρ:Env):Res O :=
 (cX as ρ).bind fun os ρ=>(Res.of (f (os.map O.frz)) ρ).bind fun r ρ=>.ok r (aL as (if sh then os.map O.shal else os) ρ)
def lL (x y:D):Bool:=D.okd 150 x&&D.okd 150 y
def yT (x y:D):Option O:=match x,y with
 | .int i,.int j=>some (.d (.int (i+j)))
 | .str i,.str j=>if i.length+j.length≤sizeLine then some (.d (.str (i++j)))else none
 | .lst xs,.lst ys=>if xs.length+ys.length≤sizeLine then some (.lst ((xs++ys).map .d))else none
 | .tup xs,.tup ys=>if xs.length+ys.length≤sizeLine then some (.d (.tup (xs++ys)))else none
 | _,_=>none
def jO (k:Bi) (as:List D):Option O:=match as with
 | [x,y]=>match k with
  | .add=>yT x y
  | .sub=>match x,y with
   | .int i,.int j=>some (.d (.int (i - j)))
   | _,_=>none
  | .mul=>match x,y with
   | .int i,.int j=>if(-(2 ^ 64) < i∧i < 2 ^ 64)∨(-(2 ^ 64) < j∧j < 2 ^ 64)then some (.d (.int (i * j)))else none
   | _,_=>none
  | .fdiv=>match x,y with
   | .int i,.int j=>if 0 < j∧(j < 1073741824∨j < 2 ^ 200)then some (.d (.int (i / j)))else none
   | _,_=>none
  | .mod=>match x,y with
   | .int i,.int j=>if 0 < j then some (.d (.int (i % j)))else none
   | _,_=>none
  | .pow=>match x,y with
   | .int i,.int j=>if 0≤j∧j≤1000000∧i.natAbs < 2 ^ 64 then some (.d (.int (i ^ j.toNat)))else none
   | _,_=>none
 | _=>none
def Iq (k:Un) (as:List D):Option O:=match as with
 | [.int i]=>match k with
  | .neg=>some (.d (.int (-i)))
 | _=>none
def bK (k:D):List D→List D→Option D
 | j::js,v::vs=>if keyOf j=keyOf k∧aI j=aI k then some v else bK k js vs
 | _,_=>none
def bG (k:D) (ks:List D):Bool:=((keyOf k).isSome&&ks.all fun j=>(keyOf j).isSome)||((aI k).isSome&&ks.all fun j=>(aI j).isSome)
def oF:D→Bool
 | .str _=>true
 | _=>false
def qw (x:D) (ys:List D):Option Bool:=match x with
 | .dic _ _=>if ys.all oF then some false else none
 | _=>none
def qx (x y:D):Option Unit:=match x,y with
 | .lst xs,.lst ys=>if xs.length≠ys.length then some ()else none
 | _,_=>none
def D.okn:Nat→D→Bool
 | _,.non=>true
 | _,.bl _=>true
 | _,.int _=>true
 | _,.str _=>true
 | 0,_=>false
 | n+1,.tup xs=>xs.all (D.okn n)
 | n+1,.lst xs=>xs.all (D.okn n)
 | n+1,.dic ks vs=>(match keysOf ks with
  | some js=>decide js.Nodup
  | none=>false)&&(decide (ks.length=vs.length)&&vs.all (D.okn n))
 | _+1,.obj _ _ _=>false
 | _+1,.exc _ _=>false
def D.eqn:Nat→D→D→Bool
 | n+1,.tup xs,.tup ys=>xs.length == ys.length&&(xs.zip ys).all fun p=>D.eqn n p.1 p.2
 | n+1,.lst xs,.lst ys=>xs.length == ys.length&&(xs.zip ys).all fun p=>D.eqn n p.1 p.2
 | n+1,.dic ks vs,.dic js ws=>ks.length == js.length&&(ks.zip vs).all fun p=>match bK p.1 js ws with
  | some y=>D.eqn n p.2 y
  | none=>false
 | _,x,y=>D.eqd x y
def vv (x y:D):Bool:=match x,y with
 | .lst _,.lst _=>D.okn 140 x&&D.okn 140 y
 | .tup _,.tup _=>D.okn 140 x&&D.okn 140 y
 | .dic _ _,.dic _ _=>D.okn 140 x&&D.okn 140 y
 | _,_=>false
def tm (x y:D):Bool:=match x,y with
 | .lst _,.lst _=>D.okn 140 x&&D.okn 140 y
 | .dic _ _,.dic _ _=>D.okn 140 x&&D.okn 140 y
 | _,_=>false
def au (k:Cm) (x y:D):Option Bool:=match k with
 | .eq=>if lL x y then some (D.eqd x y)else if vv x y then some (D.eqn 140 x y)else(qx x y).map fun _=>false
 | .ne=>if lL x y then some (! D.eqd x y)else if tm x y then some (! D.eqn 140 x y)else(qx x y).map fun _=>true
 | .lt=>match x,y with
  | .int i,.int j=>some (decide (i < j))
  | .str i,.str j=>some (decide (i.cps.toList < j.cps.toList))
  | _,_=>none
 | .le=>match x,y with
  | .int i,.int j=>some (decide (i≤j))
  | .str i,.str j=>some (! decide (j.cps.toList < i.cps.toList))
  | _,_=>none
 | .gt=>match x,y with
  | .int i,.int j=>some (decide (j < i))
  | .str i,.str j=>some (decide (j.cps.toList < i.cps.toList))
  | _,_=>none
 | .ge=>match x,y with
  | .int i,.int j=>some (decide (j≤i))
  | .str i,.str j=>some (! decide (i.cps.toList < j.cps.toList))
  | _,_=>none
 | .is=>match x,y with
  | .non,.non=>some true
  | _,.non=>some false
  | .bl a,.bl b=>some (a == b)
  | _,_=>none
 | .isnot=>match x,y with
  | .non,.non=>some false
  | _,.non=>some true
  | .bl a,.bl b=>some (a != b)
  | _,_=>none
 | .isin=>inD x y
 | .notin=>(inD x y).map (!·)
where inD (x y:D):Option Bool:=match y with
  | .lst ys=>if D.okd 150 x&&D.okdL 150 ys then some (ys.any fun y=>D.eqd y x)else qw x ys
  | .tup ys=>if D.okd 150 x&&D.okdL 150 ys then some (ys.any fun y=>D.eqd y x)else qw x ys
  | .dic ks vs=>if bG x ks then some (bK x ks vs).isSome else none
  | .str t=>match x with
   | .str s=>match s.cps.toList with
    | [c]=>some (decide (c∈t.cps.toList))
    | _=>some (!(Builtin.Str.occurrences t s 0 t.length 1).isEmpty)
   | _=>none
  | _=>none
def zy (k:Cm) (as:List D):Option O:=match as with
 | [x,y]=>(au k x y).map fun b=>.d (.bl b)
 | _=>none
def kH (as:List D):Option O:=match as with
 | [.lst xs,.int i]=>(atI xs i).map .d
 | [.tup xs,.int i]=>(atI xs i).map .d
 | [.str x,.int i]=>if x.length≤sizeLine then(atI x.cps.toList i).map fun c=>.d (.str ⟨#[c]⟩)else none
 | [.dic ks vs,k]=>if bG k ks then(bK k ks vs).map .d else none
 | _=>none
def fH:D→Option (Option Int)
 | .non=>some none
 | .int i=>some (some i)
 | _=>none
def cutD (xs:List D) (lo hi:Option Int):List D:=(xs.drop (HT.sIx xs.length 0 lo)).take (HT.sIx xs.length xs.length hi - HT.sIx xs.length 0 lo)
def mW (as:List D):Option O:=match as with
 | [x,l,h]=>match fH l,fH h with
  | some lo,some hi=>match x with
   | .lst xs=>some (.lst ((cutD xs lo hi).map .d))
   | .tup xs=>some (.d (.tup (cutD xs lo hi)))
   | .str z=>if z.length≤sizeLine then some (.d (.str ⟨((z.cps.toList.drop (HT.sIx z.length 0 lo)).take (HT.sIx z.length z.length hi - HT.sIx z.length 0 lo)).toArray⟩))else none
   | _=>none
  | _,_=>none
 | _=>none
def Gg (as:List D):Option O:=match as with
 | [.lst xs]=>some (.lst (xs.reverse.map .d))
 | _=>none
def eV (f:Str):List Str→List D→Option D
 | n::ns,v::vs=>if n=f then some v else eV f ns vs
 | _,_=>none
def BY (C:Nat) (f:Str) (as:List D):Option O:=match as with
 | [.obj C' ns vs]=>if C'=C then(eV f ns vs).map .d else none
 | _=>none
def nA:D→Option (List D)
 | .lst xs=>some xs
 | .tup xs=>some xs
 | .str x=>if x.length≤sizeLine then some (x.cps.toList.map fun c=>.str ⟨#[c]⟩)else none
 | _=>none
def BZ:D→Option (List D)
 | .lst xs=>some xs
 | .tup xs=>some xs
 | _=>none
def qy:D→Option Bool
 | .non=>some false
 | .bl b=>some b
 | .int i=>some (i != 0)
 | .str x=>if x.length≤sizeLine then some ((x.length:Int) != 0)else none
 | .lst xs=>some (! xs.isEmpty)
 | .tup xs=>some (! xs.isEmpty)
 | .dic ks _=>if ks.all fun k=>(keyOf k).isSome then some (! ks.isEmpty)else none
 | _=>none
def fJ:List D→Option (List Bool)
 | []=>some []
 | .bl b::r=>(fJ r).map (b :: ·)
 | _=>none
def fK (lo:Int) (n:Nat):List D:=(List.range n).map fun(i:Nat)=>.int (lo+(i:Int))
def fL:List D→Option (List Str)
 | []=>some []
 | .str x::r=>(fL r).map (x :: ·)
 | _=>none
def mL (k:Fn) (x:D):Option O:=match k with
 | .len=>(match x with
  | .lst xs=>some (.d (.int xs.length))
  | .tup xs=>some (.d (.int xs.length))
  | .str x=>if x.length≤sizeLine then some (.d (.int x.length))else none
  | .dic ks _=>some (.d (.int ks.length))
  | _=>none)
 | .list=>(match x with
  | .lst xs=>some (.lst (xs.map .d))
  | .tup xs=>some (.lst (xs.map .d))
  | .dic ks _=>if ks.all fun k=>(keyOf k).isSome then some (.lst (ks.map .d))else none
  | _=>none)
 | .tuple=>(match x with
  | .lst xs=>some (.d (.tup xs))
  | .tup xs=>some (.d (.tup xs))
  | .dic ks _=>if ks.all fun k=>(keyOf k).isSome then some (.d (.tup ks))else none
  | _=>none)
 | .abs=>(match x with
  | .int i=>some (.d (.int (if i < 0 then -i else i)))
  | _=>none)
 | .int=>(match x with
  | .int i=>some (.d (.int i))
  | .bl b=>some (.d (.int (if b then 1 else 0)))
  | _=>none)
 | .lenset=>(match x with
  | .lst xs=>(match fL xs with
   | some ys=>if ys.length≤4000 then some (.d (.int (met ys).length))else none
   | none=>none)
  | _=>none)
 | .all=>(match x with
  | .lst xs=>(fJ xs).map fun bs=>.d (.bl (bs.all id))
  | _=>none)
 | .any=>(match x with
  | .lst xs=>(fJ xs).map fun bs=>.d (.bl (bs.any id))
  | _=>none)
 | _=>none
def Ei (k:Fn) (x y:D):Option O:=match k with
 | .min2=>(match x,y with
  | .int i,.int j=>some (.d (.int (if j < i then j else i)))
  | _,_=>none)
 | .max2=>(match x,y with
  | .int i,.int j=>some (.d (.int (if j > i then j else i)))
  | _,_=>none)
 | _=>none
def pZ (k:Fn):Bool:=match k with
 | .list=>true
 | .tuple=>true
 | .sorted=>true
 | .dict=>true
 | .min1=>true
 | .max1=>true
 | _=>false
def w2 (k:Fn) (as:List D):Option O:=match as with
 | [x]=>mL k x
 | [x,y]=>Ei k x y
 | _=>none
def fD (x:D) (t:qv):Bool:=match t,x with
 | .bool,.bl _=>true
 | .int,.bl _=>true
 | .int,.int _=>true
 | .str,.str _=>true
 | .list,.lst _=>true
 | .tuple,.tup _=>true
 | .dict,.dic _ _=>true
 | .cls C,.obj C' _ _=>C == C'
 | .cls C,.exc C' _=>BS C' C
 | .verr,.exc _ _=>true
 | _,_=>false
def ji (cs:List Nat) (ts:List qv) (as:List D):Option O:=match as with
 | [.exc C p]=>if C∈cs∧C < 20∧p.length≠3 then some (.d (.bl (ts.any (fD (.exc C p)))))else none
 | [.obj C ns vs]=>if C∈cs∧20≤C then some (.d (.bl (ts.any (fD (.obj C ns vs)))))else none
 | [x]=>some (.d (.bl (ts.any (fD x))))
 | _=>none
def zL (k:Mt) (as:List D):Option O:=match k,as with
 | .get2,[.dic ks vs,k,z]=>if bG k ks then some (.d ((bK k ks vs).getD z))else none
 | .index,[.lst xs,y]=>if D.okd 150 y&&D.okdL 150 xs then(xs.findIdx? fun x=>D.eqd x y).map fun j=>.d (.int (j:Nat))else none
 | .indexT,[.tup xs,y]=>if D.okd 150 y&&D.okdL 150 xs then(xs.findIdx? fun x=>D.eqd x y).map fun j=>.d (.int (j:Nat))else none
 | .count,[.lst xs,y]=>if D.okd 150 y&&D.okdL 150 xs then some (.d (.int ((xs.countP fun x=>D.eqd x y:Nat))))else none
 | .get1,[.dic ks vs,k]=>if bG k ks then some (.d ((bK k ks vs).getD .non))else none
 | .join,[.str a,.lst xs]=>match fL xs with
  | some ys=>if(ys.map (·.length)).sum+ys.length * a.length≤16777216 then some (.d (.str (Txt.join a ys)))else none
  | none=>none
 | .split,[.str a,.str b]=>if(b.length == 0)=false∧a.length+2≤sizeLine then some (.lst ((Txt.split a b).map fun x=>.d (.str x)))else none
 | _,_=>none
def oG (k:Mu) (o:O) (as:List O):Option (O×O):=match k,o,as with
 | .append,.lst xs,[y]=>if xs.length < sizeLine then some (.d .non,.lst (xs++[y]))else none
 | .extend,.lst xs,[.lst ys]=>if xs.length+ys.length≤sizeLine then some (.d .non,.lst (xs++ys))else none
 | .extend,.lst xs,[.d (.lst ys)]=>if xs.length+ys.length≤sizeLine then some (.d .non,.lst (xs++ys.map .d))else none
 | .pop,.lst xs,[]=>match xs[xs.length - 1]? with
  | some y=>some (y,.lst xs.dropLast)
  | none=>none
 | .popAt,.lst xs,[.d (.int i)]=>match ixN xs.length i with
  | some k=>match xs[k]? with
   | some y=>some (y,.lst (xs.eraseIdx k))
   | none=>none
  | none=>none
 | .clear,.lst _,[]=>some (.d .non,.lst [])
 | .insert,.lst xs,[.d (.int i),y]=>if xs.length < sizeLine∧0≤i∧i < 2 ^ 63 then some (.d .non,.lst (xs.take i.toNat++[y]++xs.drop i.toNat))else none
 | .reverse,.lst xs,[]=>some (.d .non,.lst xs.reverse)
 | _,_,_=>none
def dG (k:D):List D→Option Nat
 | []=>none
 | j::js=>if keyOf j=keyOf k∧aI j=aI k then some 0 else(dG k js).map (· + 1)
def jP (f:Str):List Str→Option Nat
 | []=>none
 | n::ns=>if n=f then some 0 else(jP f ns).map (· + 1)
def dO (o:O) (k:D):Option (O×(O→O)):=match o with
 | .tup xs=>match k with
  | .int i=>match ixN xs.length i with
   | some j=>match xs[j]? with
    | some y=>some (y,fun z=>.tup (xs.set j z))
    | none=>none
   | none=>none
  | _=>none
 | .lst xs=>match k with
  | .int i=>match ixN xs.length i with
   | some j=>match xs[j]? with
    | some y=>some (y,fun z=>.lst (xs.set j z))
    | none=>none
   | none=>none
  | _=>none
 | .dic ks vs=>if bG k ks then(match dG k ks with
   | some j=>match vs[j]? with
    | some y=>some (y,fun z=>.dic ks (vs.set j z))
    | none=>none
   | none=>none)else none
 | .obj C ns vs=>match k with
  | .exc C' [.str f,.non]=>if C'=C then(match jP f ns with
   | some j=>match vs[j]? with
    | some y=>some (y,fun z=>.obj C ns (vs.set j z))
    | none=>none
   | none=>none)else none
  | _=>none
 | _=>none
def xM:D→Bool
 | .non=>true
 | .bl _=>true
 | .int _=>true
 | .str _=>true
 | _=>false
def zM:O→Bool
 | .d x=>xM x
 | _=>false
def cb (o:O) (k:D) (r:O):O:=if zM r then o else(match dO o k with
 | some (y,g)=>g (.d y.frz)
 | none=>o.shal)
def iI (k:D) (r:O):List O→List O
 | o::os=>cb o k r::os.map O.shal
 | []=>[]
def w3 (f:List D→Option O) (kf:List D→D) (as:List Arg) (ρ:Env):Res O :=
 (cX as ρ).bind fun os ρ=>(Res.of (f (os.map O.frz)) ρ).bind fun r ρ=>.ok r (aL as (iI (kf (os.map O.frz)) r os) ρ)
def p4 (ds:List D):D:=match ds with
 | [_,k]=>k
 | _=>.non
def putD (k:D) (v:O) (ks:List D) (vs:List O):List D×List O:=match dG k ks with
 | some n=>(ks,vs.set n v)
 | none=>(ks++[k],vs++[v])
def uw (o:O) (k:D) (v:O):Option O:=match o with
 | .lst xs=>match k with
  | .int i=>(ixN xs.length i).map fun j=>.lst (xs.set j v)
  | _=>none
 | .dic ks vs=>if bG k ks&&decide (ks.length < sizeLine)then some (let r:=putD k v ks vs; .dic r.1 r.2)else none
 | _=>none
def bL:List D→O→(O→Option (O×O))→Option (O×O)
 | [],o,f=>f o
 | k::ks,o,f=>match dO o k with
  | some (y,g)=>(bL ks y f).map fun p=>(p.1,g p.2)
  | none=>none
def Ej (f:Str):List Str→List O→Option O
 | n::ns,v::vs=>if n=f then some v else Ej f ns vs
 | _,_=>none
def bA (f:Str) (v:O):List Str→List O→List Str×List O
 | n::ns,x::xs=>if n=f then(n::ns,v::xs)else(let r:=bA f v ns xs; (n::r.1,x::r.2))
 | ns,xs=>(ns++[f],xs++[v])
def vx:O→Option Bool
 | .d (.bl b)=>some b
 | _=>none
def oE (os:List O):O:=match allD os with
 | some ds=>.d (.tup ds)
 | none=>.tup os
where allD:List O→Option (List D)
 | []=>some []
 | .d x::r=>(allD r).map (x :: ·)
 | _::_=>none
def aE:Tg→D→Env→Option Env
 | .nm i,x,ρ=>some (ρ.set i (some (.d x)))
 | .tp ts,.tup xs,ρ=>go ts xs ρ
 | _,_,_=>none
where go:List Tg→List D→Env→Option Env
 | [],[],ρ=>some ρ
 | t::ts,x::xs,ρ=>match aE t x ρ with
  | some ρ'=>go ts xs ρ'
  | none=>none
 | _,_,_=>none
def B0 (C:Nat) (f:Str) (v:O):O→Option O
 | .obj C' ns vs=>if C'=C∧ns.length < 1000 then some (let r:=bA f v ns vs; .obj C' r.1 r.2)else none
 | _=>none
def aF:Tg→O→Env→Option Env
 | .nm i,o,ρ=>some (ρ.set i (some o))
 | .tp ts,.d (.tup xs),ρ=>goD ts xs ρ
 | .tp ts,.tup xs,ρ=>go ts xs ρ
 | .fl i C f,o,ρ=>match aq ρ i with
  | some b=>match B0 C f o b with
   | some b'=>some (ρ.set i (some b'))
   | none=>none
  | none=>none
 | _,_,_=>none
where
 go:List Tg→List O→Env→Option Env
 | [],[],ρ=>some ρ
 | t::ts,x::xs,ρ=>match aF t x ρ with
  | some ρ'=>go ts xs ρ'
  | none=>none
 | _,_,_=>none
 goD:List Tg→List D→Env→Option Env
 | [],[],ρ=>some ρ
 | t::ts,x::xs,ρ=>match aE t x ρ with
  | some ρ'=>goD ts xs ρ'
  | none=>none
 | _,_,_=>none
def ai:List Nat→Env→Env
 | [],ρ=>ρ
 | i::r,ρ=>ai r (ρ.set i none)
def B1:List D→List D→List D
 | x::xs,y::ys=>.tup [x,y]::B1 xs ys
 | _,_=>[]
def Gh (x y:D):Option (List D):=match x,y with
 | .lst xs,.lst ys=>some (B1 xs ys)
 | .tup xs,.tup ys=>some (B1 xs ys)
 | _,_=>none
def Gi (x y:D):Option (List D):=match x,y with
 | .lst xs,.tup ys=>some (B1 xs ys)
 | _,_=>none
def fw:Nat→List D→List D
 | _,[]=>[]
 | n,x::xs=>.tup [.int (n:Int),x]::fw (n+1) xs
mutual
def ar:Tg→List Nat
 | .nm i=>[i]
 | .tp ts=>nB ts
 | .fl _ _ _=>[]
def nB:List Tg→List Nat
 | []=>[]
 | t::ts=>ar t++nB ts
end
def aK (f:D→Env→Res (Option O)):List D→Env→Res (List O)
 | [],ρ=>.ok [] ρ
 | x::xs,ρ=>(f x ρ).bind fun o ρ=>(aK f xs ρ).bind fun os ρ=>.ok (match o with
  | some y=>y::os
  | none=>os) ρ
def cy (f:D→Env→Res (List O)):List D→Env→Res (List O)
 | [],ρ=>.ok [] ρ
 | x::xs,ρ=>(f x ρ).bind fun os ρ=>(cy f xs ρ).bind fun os2 ρ=>.ok (os++os2) ρ
def Res.outL (r:Res (List O)) (g:Env→Env):Res O:=match r with
 | .ok os ρ=>.ok (.lst os) (g ρ)
 | .exc C p ρ=>.exc C p (g ρ)
 | .bad=>.bad
@[simp] theorem Res.outL_ok {os:List O}{ρ:Env}{g:Env→Env}:(Res.ok os ρ).outL g = .ok (.lst os) (g ρ):=rfl
@[simp] theorem Res.outL_exc {C:Nat}{p:List D}{ρ:Env}{g:Env→Env}:(Res.exc C p ρ:Res (List O)).outL g = .exc C p (g ρ):=rfl
@[simp] theorem Res.outL_bad {g:Env→Env}:(Res.bad:Res (List O)).outL g = .bad:=rfl
def w4 (os:List O):Option O:=if os.length≤sizeLine then some (.lst os)else none
inductive Fl where
 | nx | rt (o:O) | bk | ct
def Fl.turn (e:Fl) (go:Res Fl) (ρ:Env):Res Fl:=match e with
 | .nx=>go
 | .ct=>go
 | .bk=>.ok .nx ρ
 | .rt o=>.ok (.rt o) ρ
@[simp] theorem Fl.turn_nx {go:Res Fl}{ρ:Env}:Fl.nx.turn go ρ=go:=rfl
@[simp] theorem Fl.turn_ct {go:Res Fl}{ρ:Env}:Fl.ct.turn go ρ=go:=rfl
@[simp] theorem Fl.turn_bk {go:Res Fl}{ρ:Env}:Fl.bk.turn go ρ = .ok .nx ρ:=rfl
@[simp] theorem Fl.turn_rt {o:O}{go:Res Fl}{ρ:Env}:(Fl.rt o).turn go ρ = .ok (.rt o) ρ:=rfl
def Fl.seq (e:Fl) (go:Env→Res Fl) (ρ:Env):Res Fl:=match e with
 | .nx=>go ρ
 | e=>.ok e ρ
@[simp] theorem Fl.seq_nx {go:Env→Res Fl}{ρ:Env}:Fl.nx.seq go ρ=go ρ:=rfl
@[simp] theorem Fl.seq_ct {go:Env→Res Fl}{ρ:Env}:Fl.ct.seq go ρ = .ok .ct ρ:=rfl
@[simp] theorem Fl.seq_bk {go:Env→Res Fl}{ρ:Env}:Fl.bk.seq go ρ = .ok .bk ρ:=rfl
@[simp] theorem Fl.seq_rt {o:O}{go:Env→Res Fl}{ρ:Env}:(Fl.rt o).seq go ρ = .ok (.rt o) ρ:=rfl
def forL (f:D→Env→Res Fl):List D→Env→Res Fl
 | [],ρ=>.ok .nx ρ
 | x::xs,ρ=>(f x ρ).bind fun e ρ=>e.turn (forL f xs ρ) ρ
def cY (f:Env→Res (Option Fl)):Nat→Env→Option (Res Fl)
 | 0,_=>none
 | n+1,ρ=>match f ρ with
  | .ok none ρ=>cY f n ρ
  | .ok (some e) ρ=>some (.ok e ρ)
  | .exc C p ρ=>some (.exc C p ρ)
  | .bad=>some .bad
open Classical in
noncomputable def B3 (f:Env→Res (Option Fl)) (ρ:Env):Res Fl :=
 if h:∃ n r,cY f n ρ=some r then(Classical.choose_spec h).choose else .bad
def bC.to (r:bC) (as:List Arg) (ρ:Env):Res O:=match r with
 | .ok r ios=>.ok r (aL as ios ρ)
 | .exc C p ios=>.exc C p (aL as ios ρ)
 | .bad=>.bad
@[simp] theorem bC.to_ok {r:O}{ios:List O}{as:List Arg}{ρ:Env}:(bC.ok r ios).to as ρ = .ok r (aL as ios ρ):=rfl
@[simp] theorem bC.to_exc {C:Nat}{p:List D}{ios:List O}{as:List Arg}{ρ:Env}:(bC.exc C p ios).to as ρ = .exc C p (aL as ios ρ):=rfl
def eT (S:zK) (as:List Arg) (ρ:Env):Res O:=(cX as ρ).bind fun os ρ=>(S.run os).to as ρ
def arr (as:List Arg):List (Nat ⊕ D)→Option (List Arg)
 | []=>some []
 | .inl i::r=>match as[i]?,arr as r with
  | some a,some l=>some (a::l)
  | _,_=>none
 | .inr d::r=>(arr as r).map (.val (.d d) :: ·)
def bC.made (r:bC):bC:=match r with
 | .ok (.d .non) (o::ios)=>.ok o ios
 | .exc C p (_::ios)=>.exc C p ios
 | _=>.bad
@[simp] theorem bC.made_ok {o:O}{ios:List O}:(bC.ok (.d .non) (o::ios)).made = .ok o ios:=rfl
@[simp] theorem bC.made_exc {o:O}{C:Nat}{p:List D}{ios:List O}:(bC.exc C p (o::ios)).made = .exc C p ios:=rfl
def jq (S:zK) (as:List Arg) (ρ:Env):Res O:=(cX as ρ).bind fun os ρ=>(S.run os).made.to (as.drop 1) ρ
def fM:List O→List O
 | k::_::r=>k::fM r
 | _=>[]
def jk:List O→List O
 | _::v::r=>v::jk r
 | _=>[]
def dicO (ks vs:List O):Option O:=match keysOf (ks.map O.frz)with
 | some js=>if js.Nodup∧js.length≤15 then some (.dic (ks.map O.frz) vs)else none
 | none=>none
def Ir (k v:O):Option O:=match aI k.frz with
 | some _=>some (.dic [k.frz] [v])
 | none=>none
def Gj (C:Nat):D:=.exc C [.non,.non,.non]
def Gk (C:Nat) (o:O):Option Unit:=match o with
 | .d (.exc C' [.non,.non,.non])=>if C'=C then some ()else none
 | _=>none
def yU (C:Nat) (d:D):Option Unit:=match d with
 | .obj C' _ _=>if C'=C then some ()else none
 | _=>none
def B4 (C:Nat) (f:Str) (d:D):Option Unit:=match d with
 | .obj C' ns _=>if C'=C∧f∉ns then some ()else none
 | _=>none
def qz (C:Nat) (d:D):Option Unit:=match d with
 | .obj C' _ _=>if C'=C then some ()else none
 | .exc _ _=>none
 | _=>some ()
def Gm (o:O):Option O:=match o with
 | .d (.int n)=>if 0≤n∧n < 2 ^ 63 then some (.d (.int n))else none
 | _=>none
def Ek (neg:Bool) (o:O):Option O:=match o with
 | .d (.bl b)=>some (.d (.bl (if neg then ! b else b)))
 | _=>none
def Res.noX {α:Type} (r:Res α):Res α:=match r with
 | .ok a ρ=>.ok a ρ
 | _=>.bad
@[simp] theorem Res.noX_ok {α:Type}{a:α}{ρ:Env}:(Res.ok a ρ).noX = .ok a ρ:=rfl
def bB (own:List Nat) (ρ0 ρ:Env):Env:=match own with
 | []=>ρ
 | i::r=>bB r ρ0 (ρ.set i (aq ρ0 i))
def dH (k:Mu) (o:O):Option Unit:=match o with
 | .lst _=>match k with
  | .setdefault=>none
  | .update=>none
  | _=>some ()
 | _=>none
def zN (o:O):Option (List D):=match o with
 | .d (.dic ks _)=>(match keysOf ks with
  | some _=>some ks
  | none=>(aM ks).map fun _=>ks)
 | _=>none
def jQ (as:List O):Option (List D):=match as with
 | [.d (.int n)]=>if -(2 ^ 62)≤n∧n≤sizeLine then some (fK 0 n.toNat)else none
 | [.d (.int a),.d (.int b)]=>if 0≤a∧a≤sizeLine∧0≤b∧b≤sizeLine then some (fK a (b - a).toNat)else none
 | _=>none
def iU (a:Arg) (ρ:Env):Option O:=match a with
 | .val o=>some o
 | .slot i=>aq ρ i
def iB (a:Arg):Option Unit:=match a with
 | .slot _=>some ()
 | .val (.d _)=>some ()
 | _=>none
def iV (k:Mt) (d:D):Option Unit:=match k,d with
 | .index,.lst _=>some ()
 | .indexT,.tup _=>some ()
 | .count,.lst _=>some ()
 | .get1,.dic _ _=>some ()
 | .get2,.dic _ _=>some ()
 | .split,.str _=>some ()
 | .join,.str _=>some ()
 | _,_=>none
def eW (l:SE) (y:Arg) (ρ:Env):Option Unit:=match l with
 | .lit .non=>some ()
 | _=>match iU y ρ with
  | some (.d (.int _))=>some ()
  | _=>none
def kg {α:Type} (b:Bool) (x y:Res α):Res α:=match b with
 | true=>x
 | false=>y
@[simp] theorem nD {α:Type}{x y:Res α}:kg true x y=x:=rfl
@[simp] theorem oH {α:Type}{x y:Res α}:kg false x y=y:=rfl
section
variable (Φ:cW)
mutual
def ev:SE→Env→Res O
 | .var i,ρ=>bnd (aq ρ i) fun o=>.ok (.d o.frz) (ρ.set i (some (.d o.frz)))
 | .mv i,ρ=>bnd (aq ρ i) fun o=>.ok o (ρ.set i none)
 | .lit d,ρ=>.ok (.d d) ρ
 | .glo _ d,ρ=>.ok (.d d) ρ
 | .tup es,ρ=>(jR es ρ).bind fun os ρ=>.ok (oE os) ρ
 | .lst es,ρ=>(jR es ρ).bind fun os ρ=>.ok (.lst os) ρ
 | .dct kvs,ρ=>(jR kvs ρ).bind fun os ρ=>bnd (dicO (fM os) (jk os)) fun o=>.ok o ρ
 | .dctT k v,ρ=>(ev k ρ).bind fun a ρ=>(ev v ρ).bind fun b ρ=>bnd (Ir a b) fun o=>.ok o ρ
 | .bi k a b,ρ=>(dB a ρ).bind fun x ρ=>(dB b ρ).bind fun y ρ=>mN (jO k) true [x,y] ρ
 | .un k a,ρ=>(dB a ρ).bind fun x ρ=>mN (Iq k) false [x] ρ
 | .cm k a b,ρ=>(dB a ρ).bind fun x ρ=>(dB b ρ).bind fun y ρ=>mN (zy k) false [x,y] ρ
 | .cm2 k l a b c,ρ=>(dB a ρ).bind fun x ρ=>(dB b ρ).bind fun y ρ=>bnd (iB y) fun _=>(mN (zy k) false [x,y] ρ).bind fun r ρ=>bnd (vx r) fun t=>kg t ((dB c ρ).bind fun z ρ=>mN (zy l) false [y,z] ρ) (.ok (.d (.bl false)) ρ)
 | .band es,ρ=>lC es ρ
 | .bor es,ρ=>p5 es ρ
 | .bnot a,ρ=>(dB a ρ).bind fun a ρ=>(aB a ρ).bind fun o ρ=>(Res.of (qy o.frz) ρ).bind fun b ρ=>.ok (.d (.bl (! b))) (back a o ρ)
 | .ite c a b,ρ=>(kh c ρ).bind fun t ρ=>kg t (ev a ρ) (ev b ρ)
 | .idx a b,ρ=>(dB a ρ).bind fun x ρ=>(dB b ρ).bind fun y ρ=>w3 kH p4 [x,y] ρ
 | .slc a l h,ρ=>(dB a ρ).bind fun x ρ=>(dB l ρ).bind fun y ρ=>bnd (eW l y ρ) fun _=>(dB h ρ).bind fun z ρ=>bnd (eW h z ρ) fun _=>mN mW true [x,y,z] ρ
 | .rev a,ρ=>(dB a ρ).bind fun x ρ=>mN Gg true [x] ρ
 | .fld C a f,ρ=>(dB a ρ).bind fun x ρ=>w3 (BY C f) (fun _=>.exc C [.str f,.non]) [x] ρ
 | .frz a,ρ=>(ev a ρ).bind fun o ρ=>.ok (.d o.frz) ρ
 | .lck i a,ρ=>bnd (aq ρ i) fun o=>bnd (zN (.d o.frz)) fun _=>(ev a (ρ.set i (some (.d o.frz)))).noX
 | .pkcm k i path b,ρ=>bnd (aq ρ i) fun o=>(ki path (ρ.set i none)).bind fun ks ρ=>bnd (bL ks o fun o=>some (o,o)) fun p=>(ev b ρ).bind fun v ρ=>bnd (au k p.1.frz v.frz) fun r=>.ok (.d (.bl r)) (ρ.set i (some o))
 | .prop C _ f a,ρ=>(dB a ρ).bind fun x ρ=>bnd (iU x ρ) fun o=>bnd (yU C o.frz) fun _=>(eT (Φ f) [x] ρ).noX
 | .fn k es,ρ=>(bN es ρ).bind fun as ρ=>mN (w2 k) (pZ k) as ρ
 | .ofn sh f es,ρ=>(bN es ρ).bind fun as ρ=>mN f sh as ρ
 | .oex f,ρ=>bnd (f ρ) fun p=>.ok p.1 p.2
 | .isa cs ts a,ρ=>(dB a ρ).bind fun x ρ=>mN (ji cs ts) false [x] ρ
 | .mt k a es,ρ=>(dB a ρ).bind fun x ρ=>bnd (iU x ρ) fun o=>bnd (iV k o.frz) fun _=>(bN es ρ).bind fun as ρ=>mN (zL k) true (x::as) ρ
 | .mu k i path es,ρ=>bnd (aq ρ i) fun o=>(ki path (ρ.set i none)).bind fun ks ρ=>bnd (bL ks o fun o=>(dH k o).map fun _=>(.d .non,o)) fun _=>(jR es ρ).bind fun os ρ=>bnd (bL ks o fun o=>oG k o os) fun p=>.ok p.1 (ρ.set i (some p.2))
 | .call f es,ρ=>(bN es ρ).bind fun as ρ=>eT (Φ f) as ρ
 | .meth C nm f a es g,ρ=>(dB a ρ).bind fun x ρ=>bnd (iU x ρ) fun o=>bnd (B4 C nm o.frz) fun _=>(bN es ρ).bind fun as ρ=>bnd (arr (x::as) g) fun as=>eT (Φ f) as ρ
 | .callp f es g,ρ=>(bN es ρ).bind fun as ρ=>bnd (arr as g) fun as=>eT (Φ f) as ρ
 | .make C f es g,ρ=>(bN es ρ).bind fun as ρ=>bnd (arr (.val (.obj C [] [])::as) g) fun as=>jq (Φ f) as ρ
 | .makeL i C f es g,ρ=>bnd (aq ρ i) fun o=>bnd (Gk C o) fun _=>(bN es ρ).bind fun as ρ=>bnd (arr (.val (.obj C [] [])::as) g) fun as=>jq (Φ f) as ρ
 | .cmeth C f es g,ρ=>(bN es ρ).bind fun as ρ=>bnd (arr (.val (.d (Gj C))::as) g) fun as=>eT (Φ f) as ρ
 | .never,ρ=>.bad
 | .dlen C f a,ρ=>(dB a ρ).bind fun x ρ=>bnd (iU x ρ) fun o=>bnd (yU C o.frz) fun _=>(eT (Φ f) [x] ρ).noX.bind fun o ρ=>bnd (Gm o) fun o=>.ok o ρ
 | .din neg C f a b,ρ=>(dB a ρ).bind fun x ρ=>(dB b ρ).bind fun y ρ=>bnd (iU y ρ) fun o=>bnd (yU C o.frz) fun _=>(eT (Φ f) [y,x] ρ).noX.bind fun o ρ=>bnd (Ek neg o) fun o=>.ok o ρ
 | .deq neg C f a b,ρ=>(dB a ρ).bind fun x ρ=>(dB b ρ).bind fun y ρ=>bnd (iU x ρ) fun o=>bnd (yU C o.frz) fun _=>bnd (iU y ρ) fun o2=>bnd (qz C o2.frz) fun _=>(eT (Φ f) [x,y] ρ).noX.bind fun o ρ=>bnd (Ek neg o) fun o=>.ok o ρ
 | .comp .lst e own t it ifs,ρ=>(kG it ρ).bind fun p ρ=>((aK (fun x ρ=>bnd (aE t x ρ) fun ρ=>(cZ ifs ρ).bind fun b ρ=>kg b ((ev e ρ).bind fun o ρ=>.ok (some o) (ai own ρ)) (.ok none (ai own ρ))) p.2.2 (ai own ρ)).noX).bind fun os ρ'=>.ok (.lst os) (aL p.1 p.2.1 (bB own ρ ρ'))
 | .comp .set e own t it ifs,ρ=>(kG it ρ).bind fun p ρ=>(aK (fun x ρ=>bnd (aE t x ρ) fun ρ=>(cZ ifs ρ).bind fun b ρ=>kg b ((ev e ρ).bind fun o ρ=>.ok (some o) (ai own ρ)) (.ok none (ai own ρ))) p.2.2 (ai own ρ)).outL fun ρ'=>aL p.1 p.2.1 (bB own ρ ρ')
 | .comp2 e own t it ifs t2 it2 ifs2,ρ=>(kG it ρ).bind fun p ρ=>((cy (fun x ρ=>bnd (aE t x ρ) fun ρ=>(cZ ifs ρ).bind fun b ρ=>kg b ((kG it2 ρ).bind fun q ρ=>(aK (fun y ρ=>bnd (aE t2 y ρ) fun ρ=>(cZ ifs2 ρ).bind fun b ρ=>kg b ((ev e ρ).bind fun o ρ=>.ok (some o) (ai (ar t2) ρ)) (.ok none (ai (ar t2) ρ))) q.2.2 (ai (ar t2) ρ)).bind fun os ρ=>.ok os (ai own (aL q.1 q.2.1 ρ))) (.ok [] (ai own ρ))) p.2.2 (ai own ρ)).noX).bind fun os ρ'=>bnd (w4 os) fun o=>.ok o (aL p.1 p.2.1 (bB own ρ ρ'))
 | .dcomp k v own t it ifs,ρ=>.bad
def jR:List SE→Env→Res (List O)
 | [],ρ=>.ok [] ρ
 | e::es,ρ=>(ev e ρ).bind fun o ρ=>(jR es ρ).bind fun os ρ=>.ok (o::os) ρ
def dB:SE→Env→Res Arg
 | .var i,ρ=>bnd (aq ρ i) fun _=>.ok (.slot i) ρ
 | e,ρ=>(ev e ρ).bind fun o ρ=>.ok (.val o) ρ
def bN:List SE→Env→Res (List Arg)
 | [],ρ=>.ok [] ρ
 | e::es,ρ=>(dB e ρ).bind fun a ρ=>(bN es ρ).bind fun as ρ=>.ok (a::as) ρ
def ki:List SE→Env→Res (List D)
 | [],ρ=>.ok [] ρ
 | e::es,ρ=>(ki es ρ).bind fun ks ρ=>((ev e ρ).noX).bind fun o ρ=>.ok (ks++[o.frz]) ρ
def kh:SE→Env→Res Bool
 | .band es,ρ=>d7 es ρ
 | .bor es,ρ=>il es ρ
 | .bnot a,ρ=>(kh a ρ).bind fun b ρ=>.ok (! b) ρ
 | e,ρ=>(dB e ρ).bind fun a ρ=>(aB a ρ).bind fun o ρ=>(Res.of (qy o.frz) ρ).bind fun b ρ=>.ok b (back a o ρ)
def d7:List SE→Env→Res Bool
 | [],ρ=>.ok true ρ
 | e::es,ρ=>(kh e ρ).bind fun b ρ=>kg b (d7 es ρ) (.ok false ρ)
def il:List SE→Env→Res Bool
 | [],ρ=>.ok false ρ
 | e::es,ρ=>(kh e ρ).bind fun b ρ=>kg b (.ok true ρ) (il es ρ)
def cZ:List SE→Env→Res Bool
 | [],ρ=>.ok true ρ
 | [e],ρ=>kh e ρ
 | _,_=>.bad
def lC:List SE→Env→Res O
 | [],ρ=>.bad
 | [e],ρ=>ev e ρ
 | e::es,ρ=>(ev e ρ).bind fun o ρ=>bnd (vx o) fun b=>kg b (lC es ρ) (.ok (.d (.bl false)) ρ)
def p5:List SE→Env→Res O
 | [],ρ=>.bad
 | [e],ρ=>ev e ρ
 | e::es,ρ=>(ev e ρ).bind fun o ρ=>bnd (vx o) fun b=>kg b (.ok (.d (.bl true)) ρ) (p5 es ρ)
def kG:IE→Env→Res (List Arg×List O×List D)
 | .of e,ρ=>(dB e ρ).bind fun a ρ=>(aB a ρ).bind fun o ρ=>(Res.of (nA o.frz) ρ).bind fun ds ρ=>.ok ([a],[o.shal],ds) ρ
 | .range es,ρ=>(jR es ρ).bind fun os ρ=>(Res.of (jQ os) ρ).bind fun ds ρ=>.ok ([],[],ds) ρ
 | .enum e,ρ=>(dB e ρ).bind fun a ρ=>(aB a ρ).bind fun o ρ=>(Res.of (BZ o.frz) ρ).bind fun ds ρ=>.ok ([a],[o.shal],fw 0 ds) ρ
 | .zip a b,ρ=>(dB a ρ).bind fun a ρ=>(dB b ρ).bind fun b ρ=>(aB a ρ).bind fun o ρ=>(aB b ρ).bind fun o2 ρ=>(Res.of (Gh o.frz o2.frz) ρ).bind fun ds ρ=>.ok ([a,b],[o.shal,o2.shal],ds) ρ
 | .items e,ρ=>.bad
 | .vals e,ρ=>.bad
 | .rev e,ρ=>.bad
 | .keys i,ρ=>bnd (aq ρ i) fun o=>bnd (zN o) fun ds=>.ok ([],[],ds) ρ
 | .gen f e,ρ=>(dB e ρ).bind fun a ρ=>(aB a ρ).bind fun o ρ=>(Res.of (f o.frz) ρ).bind fun ds ρ=>.ok ([a],[o.shal],ds) ρ
 | .zipM a b,ρ=>(dB a ρ).bind fun a ρ=>(dB b ρ).bind fun b ρ=>(aB a ρ).bind fun o ρ=>(aB b ρ).bind fun o2 ρ=>(Res.of (Gi o.frz o2.frz) ρ).bind fun ds ρ=>.ok ([a,b],[o.shal,o2.shal],ds) ρ
end
end
end PV
namespace PV
open PySem L2
def Res.mapE {α:Type} (r:Res α) (g:Env→Env):Res α:=match r with
 | .ok a ρ=>.ok a (g ρ)
 | .exc C p ρ=>.exc C p (g ρ)
 | .bad=>.bad
@[simp] theorem Res.mapE_ok {α:Type}{a:α}{ρ:Env}{g:Env→Env}:(Res.ok a ρ).mapE g = .ok a (g ρ):=rfl
@[simp] theorem Res.mapE_exc {α:Type}{C:Nat}{p:List D}{ρ:Env}{g:Env→Env}:(Res.exc C p ρ:Res α).mapE g = .exc C p (g ρ):=rfl
def Res.caught (r:Res Fl) (cs:List Nat) (e x:Nat):Res Fl:=match r with
 | .exc C p ρ=>if C∈cs then .ok .nx ((ρ.set e none).set x (some (.d (.exc C p))))else .bad
 | r=>r
@[simp] theorem Res.caught_ok {f:Fl}{ρ:Env}{cs:List Nat}{e x:Nat}:(Res.ok f ρ).caught cs e x = .ok f ρ:=rfl
@[simp] theorem Res.caught_exc {C:Nat}{p:List D}{ρ:Env}{cs:List Nat}{e x:Nat}:(Res.exc C p ρ:Res Fl).caught cs e x=if C∈cs then .ok .nx ((ρ.set e none).set x (some (.d (.exc C p))))else .bad:=rfl
@[simp] theorem Res.caught_bad {cs:List Nat}{e x:Nat}:(Res.bad:Res Fl).caught cs e x = .bad:=rfl
def Fl.whl:Fl→Option Fl
 | .nx=>none
 | .ct=>none
 | .bk=>some .nx
 | .rt o=>some (.rt o)
def mX:O→Option D
 | .d x=>some x
 | _=>none
def setPath (ks:List D) (o v:O):Option O:=match ks.getLast? with
 | some k=>(bL ks.dropLast o fun o=>(uw o k v).map fun o'=>(.d .non,o')).map (·.2)
 | none=>none
def getPath:List D→D→Option D
 | [],d=>some d
 | k::ks,d=>match kH [d,k]with
  | some (.d e)=>getPath ks e
  | _=>none
def B5 (C:Nat):Bool:=C == 2||C == 6||C == 7||C == 12||C == 13||C == 14
def vy (C:Nat) (os:List O):List D:=if B5 C then os.map O.frz else []
def setAt (i j:Nat) (v:O) (ρ:Env):Option Env:=match aq ρ i,aq ρ j with
 | some o,some (.d k)=>(uw o k v).map fun o'=>ρ.set i (some o')
 | _,_=>none
section
variable (Φ:cW)
mutual
noncomputable def bZ:SS→Env→Res Fl
 | .asg t e,ρ=>(ev Φ e ρ).bind fun o ρ=>bnd (aF t o ρ) fun ρ=>.ok .nx ρ
 | .sub i path e,ρ=>(ev Φ e ρ).bind fun v ρ=>bnd (aq ρ i) fun o=>(ki Φ path (ρ.set i none)).bind fun ks ρ=>bnd (setPath ks o v) fun o'=>.ok .nx (ρ.set i (some o'))
 | .fld i C f e,ρ=>(ev Φ e ρ).bind fun v ρ=>bnd (aq ρ i) fun o=>bnd (B0 C f v o) fun o'=>.ok .nx (ρ.set i (some o'))
 | .aug i k e,ρ=>bnd (aq ρ i) fun x=>bnd (mX x) fun x=>(ev Φ e ρ).bind fun v ρ=>bnd (jO k [x,v.frz]) fun r=>.ok .nx (ρ.set i (some r))
 | .augs i path k e,ρ=>bnd (aq ρ i) fun o=>(ki Φ path (ρ.set i none)).bind fun ks ρ=>bnd (getPath ks o.frz) fun x=>(ev Φ e ρ).bind fun v ρ=>bnd (jO k [x,v.frz]) fun r=>bnd (setPath ks o r) fun o'=>.ok .nx (ρ.set i (some o'))
 | .sub2 i j k e1 e2,ρ=>(ev Φ e1 ρ).bind fun o1 ρ=>(ev Φ e2 ρ).bind fun o2 ρ=>bnd (setAt i j o1 ρ) fun ρ=>bnd (setAt i k o2 ρ) fun ρ=>.ok .nx ρ
 | .exp e,ρ=>(ev Φ e ρ).bind fun _ ρ=>.ok .nx ρ
 | .ret e,ρ=>(ev Φ e ρ).bind fun o ρ=>.ok (.rt o) ρ
 | .retN,ρ=>.ok (.rt (.d .non)) ρ
 | .ite c a b,ρ=>(kh Φ c ρ).bind fun t ρ=>kg t (aG a ρ) (aG b ρ)
 | .for t it b,ρ=>(kG Φ it ρ).bind fun p ρ=>(forL (fun x ρ=>bnd (aE t x ρ) fun ρ=>aG b ρ) p.2.2 ρ).mapE (aL p.1 p.2.1)
 | .whl c b,ρ=>B3 (fun ρ=>(kh Φ c ρ).bind fun t ρ=>kg t ((aG b ρ).bind fun f ρ=>.ok f.whl ρ) (.ok (some .nx) ρ)) ρ
 | .rse C es,ρ=>(jR Φ es ρ).bind fun os ρ=>.exc C (vy C os) ρ
 | .try cs b e x,ρ=>(aG b ρ).caught cs e x
 | .pass,ρ=>.ok .nx ρ
 | .brk,ρ=>.ok .bk ρ
 | .cont,ρ=>.ok .ct ρ
 | .kill l,ρ=>.ok .nx (ai l ρ)
 | .never,ρ=>.bad
 | .osl f,ρ=>bnd (f ρ) fun ρ=>.ok .nx ρ
 | .lck i s,ρ=>bnd (aq ρ i) fun o=>bnd (zN (.d o.frz)) fun _=>(bZ s (ρ.set i (some (.d o.frz)))).noX
noncomputable def aG:List SS→Env→Res Fl
 | [],ρ=>.ok .nx ρ
 | s::ss,ρ=>(bZ s ρ).bind fun e ρ=>e.seq (aG ss) ρ
end
end
def bj:List O→Env→Option (List O)
 | [],_=>some []
 | .d x::r,ρ=>(bj r (ρ.drop 1)).map (.d x :: ·)
 | _::r,ρ=>match ρ with
  | some o::ρ'=>(bj r ρ').map (o :: ·)
  | _=>none
def Res.done (r:Res Fl) (args:List O):bC:=match r with
 | .ok (.rt o) ρ=>(match bj args ρ with
  | some ios=>.ok o ios
  | none=>.bad)
 | .ok .nx ρ=>(match bj args ρ with
  | some ios=>.ok (.d .non) ios
  | none=>.bad)
 | .exc C p ρ=>(match bj args ρ with
  | some ios=>.exc C p ios
  | none=>.bad)
 | _=>.bad
noncomputable def dU (Φ:cW) (b:List SS) (m:Nat) (args:List O):bC :=
 (aG Φ b (args.map some++List.replicate (m - args.length) none)).done args
end PV
namespace PV
open PySem L2
def af:Env→St→List aW
 | some o::ρ,some v::σ=>(o,v)::af ρ σ
 | _::ρ,_::σ=>af ρ σ
 | _,_=>[]
def bM:Env→St→Prop
 | [],[]=>True
 | some _::ρ,some _::σ=>bM ρ σ
 | none::ρ,_::σ=>bM ρ σ
 | _,_=>False
theorem bM.len:∀ {ρ:Env}{σ:St},bM ρ σ→ρ.length=σ.length
 | [],[],_=>rfl
 | some _::ρ,some _::σ,h=>by simp [bM.len (ρ:=ρ) (σ:=σ) h]
 | none::ρ,none::σ,h=>by simp [bM.len (ρ:=ρ) (σ:=σ) h]
 | none::ρ,some _::σ,h=>by simp [bM.len (ρ:=ρ) (σ:=σ) h]
 | some _::_,none::_,h=>h.elim
 | [],_::_,h=>h.elim
 | some _::_,[],h=>h.elim
 | none::_,[],h=>h.elim
theorem bM.at:∀ {ρ:Env}{σ:St}{i:Nat}{o:O},bM ρ σ→aq ρ i=some o→∃ v,σ[i]?=some (some v)
 | some p::ρ,some v::σ,0,o,h,e=>⟨v,rfl⟩
 | some p::ρ,some v::σ,i+1,o,h,e=>by
  obtain⟨w,q⟩:=bM.at (ρ:=ρ) (σ:=σ) (i:=i) h e
  exact⟨w,by simpa using q⟩
 | none::ρ,_::σ,0,o,h,e=>by simp at e
 | none::ρ,s::σ,i+1,o,h,e=>by
  obtain⟨w,q⟩:=bM.at (ρ:=ρ) (σ:=σ) (i:=i) h e
  exact⟨w,by simpa using q⟩
 | [],σ,i,o,h,e=>by simp at e
 | some _::_,none::_,i,o,h,e=>h.elim
 | some _::_,[],i,o,h,e=>h.elim
theorem bM.clear:∀ {ρ:Env}{σ:St} (i:Nat),bM ρ σ→bM (ρ.set i none) σ
 | [],[],i,h=>h
 | some p::ρ,some v::σ,0,h=>h
 | some p::ρ,some v::σ,i+1,h=>bM.clear (ρ:=ρ) (σ:=σ) i h
 | none::ρ,s::σ,0,h=>h
 | none::ρ,s::σ,i+1,h=>bM.clear (ρ:=ρ) (σ:=σ) i h
 | [],_::_,i,h=>h.elim
 | some _::_,none::_,i,h=>h.elim
 | some _::_,[],i,h=>h.elim
 | none::_,[],i,h=>h.elim
theorem bM.put:∀ {ρ:Env}{σ:St} (i:Nat) (o:O) (v:V),bM ρ σ→bM (ρ.set i (some o)) (σ.set i (some v))
 | [],[],i,o,v,h=>h
 | some p::ρ,some w::σ,0,o,v,h=>h
 | some p::ρ,some w::σ,i+1,o,v,h=>bM.put (ρ:=ρ) (σ:=σ) i o v h
 | none::ρ,s::σ,0,o,v,h=>h
 | none::ρ,s::σ,i+1,o,v,h=>by
  show bM (none::ρ.set i (some o)) (s::σ.set i (some v))
  exact bM.put (ρ:=ρ) (σ:=σ) i o v h
 | [],_::_,i,o,v,h=>h.elim
 | some _::_,none::_,i,o,v,h=>h.elim
 | some _::_,[],i,o,v,h=>h.elim
 | none::_,[],i,o,v,h=>h.elim
theorem bM.fill:∀ {ρ:Env}{σ:St}{i:Nat}{v:V} (o:O),bM ρ σ→σ[i]?=some (some v)→bM (ρ.set i (some o)) σ
 | [],[],i,v,o,h,e=>h
 | some p::ρ,some w::σ,0,v,o,h,e=>h
 | some p::ρ,some w::σ,i+1,v,o,h,e=>bM.fill (ρ:=ρ) (σ:=σ) (i:=i) o h (by simpa using e)
 | none::ρ,some s::σ,0,v,o,h,e=>h
 | none::ρ,none::σ,0,v,o,h,e=>by simp at e
 | none::ρ,s::σ,i+1,v,o,h,e=>by
  show bM (none::ρ.set i (some o)) (s::σ)
  exact bM.fill (ρ:=ρ) (σ:=σ) (i:=i) o h (by simpa using e)
 | [],_::_,i,v,o,h,e=>h.elim
 | some _::_,none::_,i,v,o,h,e=>h.elim
 | some _::_,[],i,v,o,h,e=>h.elim
 | none::_,[],i,v,o,h,e=>h.elim
theorem nE:∀ {ρ:Env}{σ:St}{i:Nat}{o:O}{v:V},aq ρ i=some o→σ[i]?=some (some v)→(af ρ σ).Perm ((o,v)::af (ρ.set i none) σ)
 | some p::ρ,some w::σ,0,o,v,e,e'=>by
  simp at e e'
  subst e e'
  exact .refl _
 | some p::ρ,some w::σ,i+1,o,v,e,e'=>by
  have q:=nE (ρ:=ρ) (σ:=σ) (i:=i) (o:=o) (v:=v) e (by simpa using e')
  exact(q.cons (p,w)).trans (.swap _ _ _)
 | some p::ρ,none::σ,0,o,v,e,e'=>by simp at e'
 | some p::ρ,none::σ,i+1,o,v,e,e'=>by
  have q:=nE (ρ:=ρ) (σ:=σ) (i:=i) (o:=o) (v:=v) e (by simpa using e')
  simpa [af]using q
 | none::ρ,s::σ,0,o,v,e,e'=>by simp at e
 | none::ρ,s::σ,i+1,o,v,e,e'=>by
  have q:=nE (ρ:=ρ) (σ:=σ) (i:=i) (o:=o) (v:=v) e (by simpa using e')
  cases s <;> simpa [af]using q
 | [],σ,i,o,v,e,e'=>by simp at e
 | _::_,[],i,o,v,e,e'=>by simp at e'
theorem nH:∀ {ρ:Env}{σ:St}{i:Nat} (o:O) (v:V),i < ρ.length→i < σ.length→(af (ρ.set i (some o)) (σ.set i (some v))).Perm ((o,v)::af (ρ.set i none) σ)
 | p::ρ,s::σ,0,o,v,h,h'=>by
  cases s <;> exact .refl _
 | some p::ρ,some w::σ,i+1,o,v,h,h'=>by
  have q:=nH (ρ:=ρ) (σ:=σ) (i:=i) o v (by simpa using h) (by simpa using h')
  exact(q.cons (p,w)).trans (.swap _ _ _)
 | some p::ρ,none::σ,i+1,o,v,h,h'=>by
  have q:=nH (ρ:=ρ) (σ:=σ) (i:=i) o v (by simpa using h) (by simpa using h')
  simpa [af]using q
 | none::ρ,s::σ,i+1,o,v,h,h'=>by
  have q:=nH (ρ:=ρ) (σ:=σ) (i:=i) o v (by simpa using h) (by simpa using h')
  cases s <;> simpa [af]using q
 | [],σ,i,o,v,h,h'=>by simp at h
 | _::_,[],i,o,v,h,h'=>by simp at h'
theorem zO {ρ:Env}{σ:St}{i:Nat} (o:O) {v:V} (h:i < ρ.length) (e:σ[i]?=some (some v)):(af (ρ.set i (some o)) σ).Perm ((o,v)::af (ρ.set i none) σ):=by
 have hi:i < σ.length:=by
  rcases Nat.lt_or_ge i σ.length with z | z
  ·exact z
  ·rw [List.getElem?_eq_none z]at e; cases e
 have q:=nH (ρ:=ρ) (σ:=σ) o v h hi
 have es:σ.set i (some v)=σ:=by
  apply List.ext_getElem?
  intro j
  by_cases hj:j=i
  ·subst hj; rw [List.getElem?_set_self hi,e]
  ·rw [List.getElem?_set_ne (Ne.symm hj)]
 rwa [es]at q
theorem iJ {ρ:Env}{i:Nat}{o:O} (e:aq ρ i=some o):i < ρ.length:=by
 rcases Nat.lt_or_ge i ρ.length with z | z
 ·exact z
 ·unfold aq at e
  rw [List.getElem?_eq_none z]at e
  cases e
theorem nJ {σ:St}{i:Nat}{v:V} (e:σ[i]?=some (some v)):i < σ.length:=by
 rcases Nat.lt_or_ge i σ.length with z | z
 ·exact z
 ·rw [List.getElem?_eq_none z]at e; cases e
section
variable {T:Tab}{B:Base}{H H':Hp}{ρ ρ':Env}{σ:St}{l:List aW}{o:O}{v:V}{i:Nat}{x:D}
structure At (T:Tab) (B:Base) (H:Hp) (ρ:Env) (σ:St) (l:List aW):Prop where
 ok:bM ρ σ
 sat:Sat T B H (af ρ σ++l)
 pr:∀ p∈B.pr,σ[p.1]?=some (some p.2)
theorem At.take (a:At T B H ρ σ l) (e:aq ρ i=some o) (ev:σ[i]?=some (some v)):At T B H (ρ.set i none) σ ((o,v)::l):=by
 refine⟨a.ok.clear i,a.sat.perm ?_,a.pr⟩
 exact((nE e ev).append_right l).trans List.perm_middle.symm
theorem At.fill (a:At T B H ρ σ ((o,v)::l)) (h:aq ρ i=none) (hi:i < ρ.length) (ev:σ[i]?=some (some v)):At T B H (ρ.set i (some o)) σ l:=by
 refine⟨a.ok.fill o ev,a.sat.perm ?_,a.pr⟩
 have q:=(zO (ρ:=ρ) o hi ev).append_right l
 have e:ρ.set i none=ρ:=by
  apply List.ext_getElem?
  intro j
  by_cases hj:j=i
  ·subst hj
   rw [List.getElem?_set_self hi]
   unfold aq at h
   cases q:ρ[j]? with
   | none=>rw [List.getElem?_eq_none_iff]at q; omega
   | some w=>rw [q]at h; cases w with
    | none=>rfl
    | some w=>cases h
  ·rw [List.getElem?_set_ne (Ne.symm hj)]
 rw [e]at q
 exact List.perm_middle.trans q.symm
theorem At.drop (a:At T B H ρ σ ((o,v)::l)):At T B H ρ σ l:=⟨a.ok,(a.sat.perm List.perm_middle).drop1,a.pr⟩
theorem At.perm {m:List aW} (a:At T B H ρ σ l) (p:l.Perm m):At T B H ρ σ m:=⟨a.ok,a.sat.perm (p.append_left _),a.pr⟩
theorem At.clear (a:At T B H ρ σ l) (i:Nat):At T B H (ρ.set i none) σ l:=by
 cases e:aq ρ i with
 | none =>
  have:ρ.set i none=ρ:=by
   apply List.ext_getElem?
   intro j
   by_cases hj:j=i
   ·subst hj
    rcases Nat.lt_or_ge j ρ.length with z | z
    ·rw [List.getElem?_set_self z]
     unfold aq at e
     cases q:ρ[j]? with
     | none=>rw [List.getElem?_eq_none_iff]at q; omega
     | some w=>rw [q]at e; cases w with
      | none=>rfl
      | some w=>cases e
    ·rw [List.getElem?_eq_none (by simpa using z),List.getElem?_eq_none z]
   ·rw [List.getElem?_set_ne (Ne.symm hj)]
  rw [this]; exact a
 | some o =>
  obtain⟨v,ev⟩:=a.ok.at e
  exact(a.take e ev).drop
theorem At.kill:∀ {is:List Nat}{ρ:Env},At T B H ρ σ l→At T B H (ai is ρ) σ l
 | [],ρ,a=>a
 | i::is,ρ,a=>At.kill (is:=is) (a.clear i)
theorem At.store (a:At T B H ρ σ ((o,v)::l)) (hi:i < ρ.length) (hp:∀ p∈B.pr,p.1≠i):At T B H (ρ.set i (some o)) (σ.set i (some v)) l:=by
 have c:=a.clear i
 refine⟨a.ok.put i o v,c.sat.perm ?_,fun p hp'=>by rw [List.getElem?_set_ne (Ne.symm (hp p hp'))]; exact a.pr p hp'⟩
 have q:=(nH (ρ:=ρ) (σ:=σ) o v hi (by rw [← a.ok.len]; exact hi)).append_right l
 exact List.perm_middle.trans q.symm
end
def ao:Arg→V→List aW
 | .slot _,_=>[]
 | .val o,v=>[(o,v)]
def nK (σ:St):Arg→V→Prop
 | .slot i,v=>σ[i]?=some (some v)
 | .val _,_=>True
def ay:List Arg→List V→List aW
 | a::as,v::vs=>ao a v++ay as vs
 | _,_=>[]
def bY (σ:St):List Arg→List V→Prop
 | [],[]=>True
 | a::as,v::vs=>nK σ a v∧bY σ as vs
 | _,_=>False
def pF (T:Tab) (H:Hp) (C:Nat) (p:List D) (d:Option Addr) (its:List aW):Prop:=match p with
 | []=>d=none∧its = []
 | [x]=>∃ dx v,d=some dx∧H dx=some (.xd [(fj C,v)])∧its = [(.d x,v)]
 | _=>False
section
variable {T:Tab}{B:Base}{H H':Hp}{ρ ρ':Env}{σ:St}{l:List aW}{o:O}{v:V}{i:Nat}{x:D}
theorem lQ {a:Arg} (s:At T B H ρ σ (ao a v++l)) (av:nK σ a v) (e:aB a ρ = .ok o ρ'):At T B H ρ' σ ((o,v)::l):=by
 cases a with
 | val p =>
  injection e with e1 e2
  subst e1 e2
  exact s
 | slot i =>
  have av:σ[i]?=some (some v):=av
  have s:At T B H ρ σ l:=s
  have e:bnd (aq ρ i) (fun o=>Res.ok o (aB.taken o i ρ)) = .ok o ρ':=e
  cases q:aq ρ i with
  | none=>rw [q]at e; cases e
  | some p =>
   rw [q]at e
   injection e with e1 e2
   subst e1
   have t:=s.take q av
   have hi:=iJ q
   cases p with
   | d x =>
    have e2:ρ=ρ':=e2
    subst e2
    have t2:At T B H (ρ.set i none) σ ((.d x,v)::(.d x,v)::l):=⟨t.ok,((t.sat.perm List.perm_middle).dup).perm (List.perm_middle.trans (List.perm_middle.cons _)).symm,t.pr⟩
    have t3:=t2.fill (i:=i) (by unfold aq; rw [List.getElem?_set_self hi]; rfl) (by simpa using hi) av
    rw [List.set_set]at t3
    have es:ρ.set i (some (.d x))=ρ:=by
     apply List.ext_getElem?
     intro j
     by_cases hj:j=i
     ·subst hj
      rw [List.getElem?_set_self hi]
      unfold aq at q
      cases q':ρ[j]? with
      | none=>rw [q']at q; cases q
      | some w=>rw [q']at q; cases w with
       | none=>cases q
       | some w=>cases q; rfl
     ·rw [List.getElem?_set_ne (Ne.symm hj)]
    rwa [es]at t3
   | lst xs =>
    have e2:ρ.set i none=ρ':=e2
    subst e2; exact t
   | tup xs =>
    have e2:ρ.set i none=ρ':=e2
    subst e2; exact t
   | dic ks xs =>
    have e2:ρ.set i none=ρ':=e2
    subst e2; exact t
   | obj C ns xs =>
    have e2:ρ.set i none=ρ':=e2
    subst e2; exact t
theorem bY.len {σ:St}:∀ {as:List Arg}{vs:List V},bY σ as vs→as.length=vs.length
 | [],[],_=>rfl
 | a::as,v::vs,h=>by simp [bY.len (as:=as) (vs:=vs) h.2]
 | [],_::_,h=>h.elim
 | _::_,[],h=>h.elim
theorem Res.bind_of {α β:Type}{r:Res α}{f:α→Env→Res β}{b:β} (e:r.bind f = .ok b ρ'):∃ a ρ1,r = .ok a ρ1∧f a ρ1 = .ok b ρ':=by
 cases r with
 | ok a ρ1=>exact⟨a,ρ1,rfl,e⟩
 | exc C p ρ1=>cases e
 | bad=>cases e
theorem kl:∀ {as:List Arg}{vs:List V}{ρ ρ':Env}{l:List aW}{os:List O},At T B H ρ σ (ay as vs++l)→bY σ as vs→cX as ρ = .ok os ρ'→os.length=vs.length∧At T B H ρ' σ (os.zip vs++l)
 | [],[],ρ,ρ',l,os,s,_,e=>by
  injection e with e1 e2
  subst e1 e2
  exact⟨rfl,s⟩
 | a::as,v::vs,ρ,ρ',l,os,s,av,e=>by
  have e:((aB a ρ).bind fun o ρ=>(cX as ρ).bind fun os ρ=>Res.ok (o::os) ρ) = .ok os ρ':=e
  obtain⟨o,ρ1,e1,e⟩:=Res.bind_of e
  obtain⟨os',ρ2,e2,e⟩:=Res.bind_of e
  injection e with e3 e4
  subst e3 e4
  have s1:At T B H ρ σ (ao a v++(ay as vs++l)):=by
   have s:At T B H ρ σ ((ao a v++ay as vs)++l):=s
   rwa [List.append_assoc]at s
  have s2:=lQ s1 av.1 e1
  have s3:At T B H ρ1 σ (ay as vs++(o,v)::l):=s2.perm List.perm_middle.symm
  obtain⟨hl,s4⟩:=kl s3 av.2 e2
  exact⟨by simp [hl],s4.perm List.perm_middle⟩
 | [],_::_,ρ,ρ',l,os,s,av,e=>av.elim
 | _::_,[],ρ,ρ',l,os,s,av,e=>av.elim
theorem xN {a:Arg} (s:At T B H ρ σ ((o,v)::l)) (av:nK σ a v):At T B H (back a o ρ) σ l:=by
 cases a with
 | val p=>exact s.drop
 | slot i =>
  have av:σ[i]?=some (some v):=av
  have hi:i < ρ.length:=by rw [s.ok.len]; exact nJ av
  have t:=(s.clear i).fill (i:=i) (by unfold aq; rw [List.getElem?_set_self hi]; rfl) (by simpa using hi) av
  rw [List.set_set]at t
  exact t
theorem dC:∀ {as:List Arg}{os:List O}{vs:List V}{ρ:Env},os.length=vs.length→At T B H ρ σ (os.zip vs++l)→bY σ as vs→At T B H (aL as os ρ) σ l
 | [],[],[],ρ,_,s,_=>s
 | a::as,o::os,v::vs,ρ,hl,s,av=>by
  have s1:At T B H ρ σ ((o,v)::(os.zip vs++l)):=s
  exact dC (as:=as) (os:=os) (vs:=vs) (by simpa using hl) (xN s1 av.1) av.2
 | [],_::_,vs,ρ,hl,s,av=>by
  cases vs with
  | nil=>simp at hl
  | cons _ _=>exact av.elim
 | [],[],_::_,ρ,hl,s,av=>by simp at hl
 | _::_,[],[],ρ,hl,s,av=>av.elim
 | _::_,[],_::_,ρ,hl,s,av=>by simp at hl
 | _::_,_::_,[],ρ,hl,s,av=>by simp at hl
def dW (T:Tab) (B:Base) (f:List D→Option O) (sh:Bool) (xs:List V) (H:Hp) (Q:VK):Prop:=∃ (os:List O) (l:List aW) (r:O),os.length=xs.length∧Sat T B H (os.zip xs++l)∧f (os.map O.frz)=some r ∧
 ∀ u H',Sat T B H' ((r,u)::((if sh then os.map O.shal else os).zip xs++l))→Q u H'
def RP (T:Tab) (B:Base) (W:WX) (σ:St) (l:List aW) (r:Res O) (Q:VK):Prop:=match r with
 | .ok o ρ=>∀ v H,At T B H ρ σ ((o,v)::l)→Q v H
 | .exc C p ρ=>∀ d H its,At T B H ρ σ (its++l)→pF T H C p d its→W (.ref (T.cls C)) d σ H
 | .bad=>False
theorem El {f:List D→Option O}{sh:Bool}{as:List Arg}{vs:List V}{W:WX}{Q:VK} (s:At T B H ρ σ (ay as vs++l)) (av:bY σ as vs) (h:RP T B W σ l (mN f sh as ρ) Q):dW T B f sh vs H Q:=by
 unfold mN at h
 cases e:cX as ρ with
 | exc C p ρ1 =>
  exfalso
  have:∀ {as:List Arg}{ρ:Env},cX as ρ≠.exc C p ρ1:=by
   intro as
   induction as with
   | nil=>intro ρ z; cases z
   | cons a as ih =>
    intro ρ z
    have z:((aB a ρ).bind fun o ρ=>(cX as ρ).bind fun os ρ=>Res.ok (o::os) ρ) = .exc C p ρ1:=z
    cases ea:aB a ρ with
    | ok o ρ2 =>
     rw [ea]at z
     cases eb:cX as ρ2 with
     | ok os ρ3=>rw [Res.bind_ok,eb]at z; cases z
     | exc C' p' ρ3=>rw [Res.bind_ok,eb]at z; injection z with z1 z2 z3; subst z1 z2 z3; exact ih eb
     | bad=>rw [Res.bind_ok,eb]at z; cases z
    | exc C' p' ρ2 =>
     cases a with
     | val o=>cases ea
     | slot i =>
      have ea:bnd (aq ρ i) (fun o=>Res.ok o (aB.taken o i ρ)) = .exc C' p' ρ2:=ea
      cases q:aq ρ i <;> rw [q]at ea <;> cases ea
    | bad=>rw [ea]at z; cases z
  exact this e
 | bad=>rw [e]at h; exact h.elim
 | ok os ρ1 =>
  rw [e]at h
  obtain⟨hl,s1⟩:=kl s av e
  have h:RP T B W σ l ((Res.of (f (os.map O.frz)) ρ1).bind fun r ρ=>.ok r (aL as (if sh then os.map O.shal else os) ρ)) Q:=h
  cases er:f (os.map O.frz)with
  | none=>rw [er]at h; exact h.elim
  | some r =>
   rw [er]at h
   refine⟨os,af ρ1 σ++l,r,hl,s1.sat.perm ?_,er,fun u H' q=>?_⟩
   ·exact(List.perm_append_comm.trans (by rw [List.append_assoc]; exact(List.perm_append_comm (l₁:=l) (l₂:=af ρ1 σ)).append_left _))
   ·have h:∀ v H,At T B H (aL as (if sh then os.map O.shal else os) ρ1) σ ((r,v)::l)→Q v H:=h
    refine h u H' (dC (os:=if sh then os.map O.shal else os) (vs:=vs) (by cases sh <;> simp [hl]) ⟨s1.ok,q.perm ?_,s1.pr⟩ av)
    generalize (if sh then os.map O.shal else os).zip vs=z
    have p1:((r,u)::(z++(af ρ1 σ++l))).Perm (z++(r,u)::(af ρ1 σ++l)):=List.perm_middle.symm
    have p2:(z++(r,u)::(af ρ1 σ++l)).Perm (z++(af ρ1 σ++(r,u)::l)):=List.perm_middle.symm.append_left z
    have p3:(z++(af ρ1 σ++(r,u)::l)).Perm (af ρ1 σ++(z++(r,u)::l)):=by
     rw [← List.append_assoc,← List.append_assoc]
     exact List.perm_append_comm.append_right _
    exact p1.trans (p2.trans p3)
end
end PV
namespace PV
open PySem PySem.Spec PyProof.Rows L2
section
variable {T:Tab}{B:Base}{H H':Hp}{l:List aW}{o:O}{v:V}{x:D}{a:Addr}{hs:List Addr}
theorem oI {f:List D→Option O}{sh:Bool}{y:V}{Q:VK} (h:dW T B f sh [y] H Q):∃ o l r,Sat T B H ((o,y)::l)∧f [o.frz]=some r∧∀ u H',Sat T B H' ((r,u)::(if sh then o.shal else o,y)::l)→Q u H':=by
 obtain⟨os,l,r,hl,s,e,q⟩:=h
 match os,hl with
 | [o],_=>exact⟨o,l,r,s,e,fun u H' z=>q u H' (by cases sh <;> exact z)⟩
theorem zP {f:List D→Option O}{sh:Bool}{y z:V}{Q:VK} (h:dW T B f sh [y,z] H Q):∃ o p l r,Sat T B H ((o,y)::(p,z)::l)∧f [o.frz,p.frz]=some r∧∀ u H',Sat T B H' ((r,u)::(if sh then o.shal else o,y)::(if sh then p.shal else p,z)::l)→Q u H':=by
 obtain⟨os,l,r,hl,s,e,q⟩:=h
 match os,hl with
 | [o,p],_=>exact⟨o,p,l,r,s,e,fun u H' z=>q u H' (by cases sh <;> exact z)⟩
theorem ae.int {i:Int} (s:ae T B H hs l):ae T B H hs ((.d (.int i),.int i)::l):=s.lit fun _ _=>rfl
theorem ae.bl {b:Bool} (s:ae T B H hs l):ae T B H hs ((.d (.bl b),.bl b)::l):=s.lit fun _ _=>rfl
theorem ae.str {z:Str} (s:ae T B H hs l):ae T B H hs ((.d (.str z),.str z)::l):=s.lit fun _ _=>rfl
theorem ae.non (s:ae T B H hs l):ae T B H hs ((.d .non,.non)::l):=s.lit fun _ _=>rfl
theorem ae.swap {p q:aW} (s:ae T B H hs (p::q::l)):ae T B H hs (q::p::l):=s.perm (.swap _ _ _)
theorem ae.read2 {p:aW} (s:ae T B H hs (p::(o,v)::l)):Dr T (fun _=>False) (vw B.Z H) o.frz v:=s.swap.read
theorem vz (s:ae T B H hs l) {xs:List D} (d:Dr T (fun _=>False) (vw B.Z H) (.lst xs) v):∃ a vs,v = .ref a∧SqL T.K H a vs∧lP T (fun _=>False) (vw B.Z H) xs vs:=by
 obtain⟨a,vs,e,h,d⟩:=d
 exact⟨a,vs,e,h.imp (fun z=>ny s (fun _ _ z=>nomatch z) z.2) id,d⟩
theorem DB (s:ae T B H hs l) {xs:List D} (d:Dr T (fun _=>False) (vw B.Z H) (.tup xs) v):∃ a vs,v = .ref a∧SqT T.K H a vs∧lP T (fun _=>False) (vw B.Z H) xs vs:=by
 obtain⟨a,vs,e,h,d⟩:=d
 exact⟨a,vs,e,zG s h,d⟩
theorem iW:∀ os:List O,(O.frzL os).length=os.length
 | []=>rfl
 | o::os=>by simp [O.frzL,iW os]
theorem Sat.freezeL {os:List O}{vs:List V}:∀ {l:List aW},os.length=vs.length→ae T B H hs (os.zip vs++l)→ae T B H hs ((os.map fun o=>O.d o.frz).zip vs++l):=by
 induction os generalizing vs with
 | nil=>intro l _ s; exact s
 | cons o os ih =>
  intro l hl s
  match vs,hl with
  | v::vs,hl =>
   have s1:ae T B H hs ((o,v)::(os.zip vs++l)):=s
   have s2:ae T B H hs (os.zip vs++(O.d o.frz,v)::l):=s1.freeze.perm List.perm_middle.symm
   exact(ih (by simpa using hl) s2).perm List.perm_middle
theorem Sat.dupL {xs:List D}{vs:List V}:∀ {l:List aW},xs.length=vs.length→ae T B H hs ((xs.map O.d).zip vs++l)→ae T B H hs ((xs.map O.d).zip vs++((xs.map O.d).zip vs++l)):=by
 induction xs generalizing vs with
 | nil=>intro l _ s; exact s
 | cons x xs ih =>
  intro l hl s
  match vs,hl with
  | v::vs,hl =>
   have s1:ae T B H hs ((O.d x,v)::((xs.map O.d).zip vs++l)):=s
   have s2:ae T B H hs ((xs.map O.d).zip vs++((O.d x,v)::(O.d x,v)::l)):=s1.dup.perm ((List.perm_middle (l₁:=(xs.map O.d).zip vs)).trans ((List.perm_middle (l₁:=(xs.map O.d).zip vs)).cons _)).symm
   have s3:=ih (by simpa using hl) s2
   refine s3.perm ?_
   show((xs.map O.d).zip vs++((xs.map O.d).zip vs++((O.d x,v)::(O.d x,v)::l))).Perm ((O.d x,v)::((xs.map O.d).zip vs++((O.d x,v)::((xs.map O.d).zip vs++l))))
   have p1:((xs.map O.d).zip vs++((O.d x,v)::(O.d x,v)::l)).Perm ((O.d x,v)::(O.d x,v)::((xs.map O.d).zip vs++l)):=(List.perm_middle (l₁:=(xs.map O.d).zip vs)).trans ((List.perm_middle (l₁:=(xs.map O.d).zip vs)).cons _)
   have p2:=p1.append_left ((xs.map O.d).zip vs)
   exact p2.trans (List.perm_middle.trans (.refl _))
theorem lR (o:O):o.shal.frz=o.frz:=by
 cases o with
 | d x=>rfl
 | tup xs=>simp only [O.shal,O.frz,bu,List.map_map]; rfl
 | lst xs=>simp only [O.shal,O.frz,bu,List.map_map]; rfl
 | dic ks xs=>simp only [O.shal,O.frz,bu,List.map_map]; rfl
 | obj C ns xs=>simp only [O.shal,O.frz,bu,List.map_map]; rfl
theorem eJ (os:List O):(os.map fun o=>O.d o.frz)=(O.frzL os).map O.d:=by rw [bu,List.map_map]; rfl
theorem Sat.kidsL {xs:List D} (s:ae T B H hs ((o,v)::l)) (e:o.frz = .lst xs):∃ a vs,v = .ref a∧SqL T.K H a vs∧xs.length=vs.length∧ae T B H hs ((xs.map O.d).zip vs++(o.shal,v)::l):=by
 cases o with
 | d x =>
  have e:x = .lst xs:=e
  subst e
  exact s.lstKids
 | lst os =>
  have e:D.lst (O.frzL os) = .lst xs:=e
  injection e with e
  subst e
  obtain⟨a,vs,rfl,eh,hl,s1⟩:=s.openL
  have s2:=Sat.freezeL hl s1
  rw [eJ]at s2
  have hl2:(O.frzL os).length=vs.length:=by rw [iW]; exact hl
  have s3:=Sat.dupL hl2 s2
  refine⟨a,vs,rfl,SqL.of eh,hl2,?_⟩
  have s4:=(s3.perm (List.perm_append_comm (l₁:=((O.frzL os).map O.d).zip vs) (l₂:=((O.frzL os).map O.d).zip vs++l)))
  rw [List.append_assoc]at s4
  have s5:=s4.closeL (l:=l++((O.frzL os).map O.d).zip vs) eh (by simpa using hl2)
  rw [show O.shal (.lst os) = .lst ((O.frzL os).map O.d)by rw [O.shal,eJ]]
  exact s5.perm (by
   have:((O.lst ((O.frzL os).map O.d),V.ref a)::(l++((O.frzL os).map O.d).zip vs)).Perm (((O.lst ((O.frzL os).map O.d),V.ref a)::l)++((O.frzL os).map O.d).zip vs):=.refl _
   exact this.trans List.perm_append_comm)
 | tup xs=>cases e
 | dic ks xs=>cases e
 | obj C ns xs=>cases e
theorem Sat.kidsT {xs:List D} (s:ae T B H hs ((o,v)::l)) (e:o.frz = .tup xs):∃ a vs,v = .ref a∧SqT T.K H a vs∧xs.length=vs.length∧ae T B H hs ((xs.map O.d).zip vs++(o.shal,v)::l):=by
 cases o with
 | d x =>
  have e:x = .tup xs:=e
  subst e
  exact s.tupKids
 | tup os =>
  have e:D.tup (O.frzL os) = .tup xs:=e
  injection e with e
  subst e
  obtain⟨a,vs,rfl,eh,hl,s1⟩:=s.openT
  have s2:=Sat.freezeL hl s1
  rw [eJ]at s2
  have hl2:(O.frzL os).length=vs.length:=by rw [iW]; exact hl
  have s3:=Sat.dupL hl2 s2
  refine⟨a,vs,rfl,SqT.of eh,hl2,?_⟩
  have s4:=(s3.perm (List.perm_append_comm (l₁:=((O.frzL os).map O.d).zip vs) (l₂:=((O.frzL os).map O.d).zip vs++l)))
  rw [List.append_assoc]at s4
  have s5:=s4.closeT (l:=l++((O.frzL os).map O.d).zip vs) eh (by simpa using hl2)
  rw [show O.shal (.tup os) = .tup ((O.frzL os).map O.d)by rw [O.shal,eJ]]
  exact s5.perm (by
   have:((O.tup ((O.frzL os).map O.d),V.ref a)::(l++((O.frzL os).map O.d).zip vs)).Perm (((O.tup ((O.frzL os).map O.d),V.ref a)::l)++((O.frzL os).map O.d).zip vs):=.refl _
   exact this.trans List.perm_append_comm)
 | lst xs=>cases e
 | dic ks xs=>cases e
 | obj C ns xs=>cases e
theorem Sat.dupT {xs:List D} (s:ae T B H hs ((o,v)::l)) (e:o.frz = .tup xs):ae T B H hs ((.d (.tup xs),v)::(o.shal,v)::l):=by
 cases o with
 | d x =>
  have e:x = .tup xs:=e
  subst e
  exact s.dup
 | tup os =>
  have e:D.tup (O.frzL os) = .tup xs:=e
  injection e with e
  subst e
  obtain⟨a,vs,rfl,eh,hl,s1⟩:=s.openT
  have s2:=Sat.freezeL hl s1
  rw [eJ]at s2
  have hl2:(O.frzL os).length=vs.length:=by rw [iW]; exact hl
  have s3:=Sat.dupL hl2 s2
  have s4:=(s3.perm (List.perm_append_comm (l₁:=((O.frzL os).map O.d).zip vs) (l₂:=((O.frzL os).map O.d).zip vs++l)))
  rw [List.append_assoc]at s4
  have s5:=s4.closeT (l:=l++((O.frzL os).map O.d).zip vs) eh (by simpa using hl2)
  rw [show O.shal (.tup os) = .tup ((O.frzL os).map O.d)by rw [O.shal,eJ]]
  have s6:ae T B H hs (((O.frzL os).map O.d).zip vs++((O.tup ((O.frzL os).map O.d),V.ref a)::l)):=s5.perm (by
   have:((O.tup ((O.frzL os).map O.d),V.ref a)::(l++((O.frzL os).map O.d).zip vs)).Perm (((O.tup ((O.frzL os).map O.d),V.ref a)::l)++((O.frzL os).map O.d).zip vs):=.refl _
   exact this.trans List.perm_append_comm)
  exact s6.closeTd eh hl2
 | lst xs=>cases e
 | dic ks xs=>cases e
 | obj C ns xs=>cases e
theorem Sat.newL {os:List O}{vs:List V}{p:Addr} (s:Sat T B H (os.zip vs++l)) (hl:os.length=vs.length) (n:H p=none):Sat T B (upd H p (.lst vs)) ((.lst os,.ref p)::l):=(s.alloc n).closeL upd_same hl
theorem Sat.newT {os:List O}{vs:List V}{p:Addr} (s:Sat T B H (os.zip vs++l)) (hl:os.length=vs.length) (n:H p=none):Sat T B (upd H p (.tup vs)) ((.tup os,.ref p)::l):=(s.alloc (ob:=.tup vs) n).letgo.closeT upd_same hl
theorem Sat.newTd {xs:List D}{vs:List V}{p:Addr} (s:Sat T B H ((xs.map O.d).zip vs++l)) (hl:xs.length=vs.length) (n:H p=none):Sat T B (upd H p (.tup vs)) ((.d (.tup xs),.ref p)::l):=(s.alloc (ob:=.tup vs) n).letgo.closeTd upd_same hl
end
section
variable {T:Tab}{B:Base}{X:Cx}
theorem B6:OpR X (binaryOp .Add) (fun x y H Q=>∃ l b xs zs,x = .ref l∧y = .ref b∧SqL X.K H l xs∧SqL X.K H b zs∧xs.length+zs.length≤sizeLine∧∀ p,H p=none→Q (.ref p) (upd H p (.lst (xs++zs)))):=by
 intro pins s σ H x y v u Q I rx ry h
 obtain⟨l,b,xs,zs,rfl,rfl,hH,hB,hz,q⟩:=h
 cases rx
 cases ry
 obtain⟨its,r,pl,_⟩:=I.list hH
 obtain⟨its2,r2,pl2,_⟩:=I.list hB
 have hl:=r.length
 have hl2:=r2.length
 obtain⟨⟨cls,dd,data,sl⟩,n,ho,hc,hd0,hd⟩:=pl
 obtain⟨⟨cls2,dd2,data2,sl2⟩,n2,ho2,hc2,hd02,hd2⟩:=pl2
 simp only at hc hd hc2 hd2 hd0 hd02
 subst hc hd hc2 hd2 hd0 hd02
 have e:its.toArray++its2.toArray=(its++its2).toArray:=by simp
 refine concat_meets ⟨_,ho,rfl⟩ ⟨_,ho2,rfl⟩ noFill_list_add seq_list_add PySem.F.slot_list_add PySem.F.entry_list_add (PySem.F.args_list_add_2 _ _) (list_addW l b its.toArray its2.toArray n n2 none none sl sl2 (by simp; omega)) ⟨ho,ho2,?_⟩
 rw [e]
 exact⟨.ref _,_,I.lnew (t':=s.toks) (r.append r2) (by rw [List.length_append]; omega),rfl,q _ I.fresh⟩
def Gn:Bi→Operator
 | .add=>.Add | .sub=>.Sub | .mul=>.Mult | .fdiv=>.FloorDiv | .mod=>.Mod | .pow=>.Pow
theorem zip_append {xs ys:List D}{vs ws:List V} (h:xs.length=vs.length):((xs++ys).map O.d).zip (vs++ws)=(xs.map O.d).zip vs++(ys.map O.d).zip ws:=by
 rw [List.map_append,List.zip_append (by simpa using h)]
theorem Iu (hK:X.K=T.K) (k:Bi):OpR X (binaryOp (Gn k)) (fun x y H Q=>dW T B (jO k) true [x,y] H Q):=by
 intro pins s σ H x y v u Q I rx ry h
 obtain⟨o,p,l,r,sa,e,q⟩:=zP h
 have d1:=sa.read
 have d2:=sa.read2
 cases ea:o.frz with
 | int i =>
  rw [ea]at d1 e
  have d1:x = .int i:=d1
  subst d1
  cases eb:p.frz with
  | int j =>
   rw [eb]at d2 e
   have d2:y = .int j:=d2
   subst d2
   have so:o.shal.frz = .int i:=by rw [lR,ea]
   have fin:Sat T B H ((if true=true then o.shal else o,V.int i)::(if true=true then p.shal else p,V.int j)::l):=by
    have oc:o.shal=o:=by cases o <;> first | rfl | cases ea
    have pc:p.shal=p:=by cases p <;> first | rfl | cases eb
    rw [if_pos rfl,if_pos rfl,oc,pc]
    exact sa
   cases k with
   | add =>
    injection e with e; subst e
    exact op_add pins s σ H _ _ v u Q I rx ry ⟨i,j,rfl,rfl,q _ _ fin.int⟩
   | sub =>
    injection e with e; subst e
    exact op_sub pins s σ H _ _ v u Q I rx ry ⟨i,j,rfl,rfl,q _ _ fin.int⟩
   | mul =>
    have e:(if(-(2 ^ 64) < i∧i < 2 ^ 64)∨(-(2 ^ 64) < j∧j < 2 ^ 64)then some (O.d (.int (i * j)))else none)=some r:=e
    split at e
    ·rename_i hc
     injection e with e; subst e
     exact op_mul pins s σ H _ _ v u Q I rx ry ⟨i,j,rfl,rfl,hc,q _ _ fin.int⟩
    ·cases e
   | fdiv =>
    have e:(if 0 < j∧(j < 1073741824∨j < 2 ^ 200)then some (O.d (.int (i / j)))else none)=some r:=e
    split at e
    ·rename_i hc
     injection e with e; subst e
     have hw:CDivW i j:=wide_div (b:=200) hc.1 (by
      have h2:j < 2 ^ 200:=hc.2.elim (fun z=>Int.lt_trans z (by decide)) id
      have h3:((j.natAbs:Nat):Int)=j:=by have:=hc.1; omega
      have h4:((j.natAbs:Nat):Int) < ((2 ^ 200:Nat):Int):=by rw [h3]; exact h2
      exact Int.ofNat_lt.mp h4) (by decide) (by decide)
     exact op_fdivW pins s σ H _ _ v u Q I rx ry ⟨i,j,rfl,rfl,hw,q _ _ fin.int⟩
    ·cases e
   | mod =>
    have e:(if 0 < j then some (O.d (.int (i % j)))else none)=some r:=e
    split at e
    ·rename_i hc
     injection e with e; subst e
     exact op_mod pins s σ H _ _ v u Q I rx ry ⟨i,j,rfl,rfl,hc,q _ _ fin.int⟩
    ·cases e
   | pow =>
    have e:(if 0≤j∧j≤1000000∧i.natAbs < 2 ^ 64 then some (O.d (.int (i ^ j.toNat)))else none)=some r:=e
    split at e
    ·rename_i hc
     injection e with e; subst e
     exact op_pow pins s σ H _ _ v u Q I rx ry ⟨i,j,rfl,rfl,hc,q _ _ fin.int⟩
    ·cases e
  | _=>rw [eb]at e; cases k <;> cases e
 | str i =>
  rw [ea]at d1 e
  have d1:x = .str i:=d1
  subst d1
  cases eb:p.frz with
  | str j =>
   rw [eb]at d2 e
   have d2:y = .str j:=d2
   subst d2
   have oc:o.shal=o:=by cases o <;> first | rfl | cases ea
   have pc:p.shal=p:=by cases p <;> first | rfl | cases eb
   rw [if_pos rfl,if_pos rfl,oc,pc]at q
   cases k with
   | add =>
    have e:(if i.length+j.length≤sizeLine then some (O.d (.str (i++j)))else none)=some r:=e
    split at e
    ·rename_i hc
     injection e with e; subst e
     exact op_add_str pins s σ H _ _ v u Q I rx ry ⟨i,j,rfl,rfl,hc,q _ _ sa.str⟩
    ·cases e
   | _=>cases e
  | _=>rw [eb]at e; cases k <;> cases e
 | lst xs =>
  rw [ea]at e
  cases eb:p.frz with
  | lst ys =>
   rw [eb]at e
   cases k with
   | add =>
    have e:(if xs.length+ys.length≤sizeLine then some (O.lst ((xs++ys).map .d))else none)=some r:=e
    split at e
    ·rename_i hc
     injection e with e; subst e
     obtain⟨a,vs,rfl,ha,hl,s1⟩:=Sat.kidsL sa ea
     have s2:Sat T B H ((p,y)::((xs.map O.d).zip vs++(o.shal,V.ref a)::l)):=s1.perm (by
      have p1:((xs.map O.d).zip vs++(o.shal,V.ref a)::(p,y)::l).Perm ((xs.map O.d).zip vs++(p,y)::(o.shal,V.ref a)::l):=(List.Perm.swap _ _ _).append_left _
      exact p1.trans List.perm_middle)
     obtain⟨b,ws,rfl,hb,hl2,s3⟩:=Sat.kidsL s2 eb
     have s4:Sat T B H (((xs++ys).map O.d).zip (vs++ws)++((o.shal,V.ref a)::(p.shal,V.ref b)::l)):=s3.perm (by
      rw [zip_append hl,List.append_assoc]
      have p1:((ys.map O.d).zip ws++(p.shal,V.ref b)::((xs.map O.d).zip vs++(o.shal,V.ref a)::l)).Perm ((ys.map O.d).zip ws++((xs.map O.d).zip vs++(o.shal,V.ref a)::(p.shal,V.ref b)::l)):=by
       refine List.Perm.append_left _ ?_
       have:((p.shal,V.ref b)::((xs.map O.d).zip vs++(o.shal,V.ref a)::l)).Perm ((xs.map O.d).zip vs++(p.shal,V.ref b)::(o.shal,V.ref a)::l):=List.perm_middle.symm
       exact this.trans ((List.Perm.swap _ _ _).append_left _)
      refine p1.trans ?_
      rw [← List.append_assoc,← List.append_assoc]
      exact List.perm_append_comm.append_right _)
     refine B6 pins s σ H _ _ v u Q I rx ry ⟨a,b,vs,ws,rfl,rfl,by rw [hK]; exact ha,by rw [hK]; exact hb,by omega,fun p' hp=>q _ _ ?_⟩
     exact Sat.newL (os:=(xs++ys).map O.d) (vs:=vs++ws) s4 (by simp [hl,hl2]) hp
    ·cases e
   | _=>cases e
  | _=>rw [eb]at e; cases k <;> cases e
 | tup xs =>
  rw [ea]at e
  cases eb:p.frz with
  | tup ys =>
   rw [eb]at e
   cases k with
   | add =>
    have e:(if xs.length+ys.length≤sizeLine then some (O.d (.tup (xs++ys)))else none)=some r:=e
    split at e
    ·rename_i hc
     injection e with e; subst e
     obtain⟨a,vs,rfl,ha,hl,s1⟩:=Sat.kidsT sa ea
     have s2:Sat T B H ((p,y)::((xs.map O.d).zip vs++(o.shal,V.ref a)::l)):=s1.perm (by
      have p1:((xs.map O.d).zip vs++(o.shal,V.ref a)::(p,y)::l).Perm ((xs.map O.d).zip vs++(p,y)::(o.shal,V.ref a)::l):=(List.Perm.swap _ _ _).append_left _
      exact p1.trans List.perm_middle)
     obtain⟨b,ws,rfl,hb,hl2,s3⟩:=Sat.kidsT s2 eb
     have s4:Sat T B H (((xs++ys).map O.d).zip (vs++ws)++((o.shal,V.ref a)::(p.shal,V.ref b)::l)):=s3.perm (by
      rw [zip_append hl,List.append_assoc]
      have p1:((ys.map O.d).zip ws++(p.shal,V.ref b)::((xs.map O.d).zip vs++(o.shal,V.ref a)::l)).Perm ((ys.map O.d).zip ws++((xs.map O.d).zip vs++(o.shal,V.ref a)::(p.shal,V.ref b)::l)):=by
       refine List.Perm.append_left _ ?_
       have:((p.shal,V.ref b)::((xs.map O.d).zip vs++(o.shal,V.ref a)::l)).Perm ((xs.map O.d).zip vs++(p.shal,V.ref b)::(o.shal,V.ref a)::l):=List.perm_middle.symm
       exact this.trans ((List.Perm.swap _ _ _).append_left _)
      refine p1.trans ?_
      rw [← List.append_assoc,← List.append_assoc]
      exact List.perm_append_comm.append_right _)
     refine op_catA pins s σ H _ _ v u Q I rx ry ⟨a,b,vs,ws,rfl,rfl,by rw [hK]; exact ha,by rw [hK]; exact hb,by omega,fun h0=>?_,fun h1 h2=>?_,fun _ _ p' hp=>q _ _ ?_⟩
     ·have hx:xs = []:=List.eq_nil_of_length_eq_zero (by rw [hl,h0]; rfl)
      subst hx
      refine q _ _ ?_
      have t1:Sat T B H ((p,V.ref b)::(o,V.ref a)::l):=sa.swap
      have t2:=Sat.dupT t1 eb
      have t3:Sat T B H ((o,V.ref a)::(.d (.tup ys),V.ref b)::(p.shal,V.ref b)::l):=t2.perm (((List.Perm.swap _ _ _).cons _).trans (.swap _ _ _))
      have t4:=(Sat.dupT t3 ea).drop1
      have t5:Sat T B H ((O.d (.tup ys),V.ref b)::(o.shal,V.ref a)::(p.shal,V.ref b)::l):=?_
      ·exact t5
      ·have t6:=Sat.dupT t3 ea
       exact t6.drop1.swap
     ·have hy:ys = []:=List.eq_nil_of_length_eq_zero (by rw [hl2,h2]; rfl)
      subst hy
      refine q _ _ ?_
      have t1:Sat T B H ((p,V.ref b)::(o,V.ref a)::l):=sa.swap
      have t2:=(Sat.dupT t1 eb).drop1
      have t3:Sat T B H ((o,V.ref a)::(p.shal,V.ref b)::l):=t2.swap
      have t4:=Sat.dupT t3 ea
      rw [List.append_nil]
      exact t4
     ·exact Sat.newTd (xs:=xs++ys) (vs:=vs++ws) s4 (by simp [hl,hl2]) hp
    ·cases e
   | _=>cases e
  | _=>rw [eb]at e; cases k <;> cases e
 | _=>rw [ea]at e; cases k <;> cases e
theorem Gp:UnR X (unaryOp .USub) (fun x H Q=>dW T B (Iq .neg) false [x] H Q):=by
 intro pins s σ H x v Q I rx h
 obtain⟨o,l,r,sa,e,q⟩:=oI h
 have d1:=sa.read
 cases ea:o.frz with
 | int i =>
  rw [ea]at d1 e
  have d1:x = .int i:=d1
  subst d1
  injection e with e; subst e
  exact un_neg pins s σ H _ v Q I rx ⟨i,rfl,q _ _ sa.int⟩
 | _=>rw [ea]at e; cases e
end
end PV
namespace PV
open PySem PySem.Spec PyProof.Rows L2
section
variable {X:Cx}{pins:List (Addr×Obj)}{σ:L2.St}{H:Hp}{s:Shared}{a b:Addr}{y d:V}{u r:Value}{o:Option V}{A:Around}{E:Value→Shared→Prop}
theorem yV {P:Program}{w:World}{es:List DictEntry} (h:Pairs (mixKind P w) es []):es = []:=by cases h; rfl
theorem zQ {P:Program}{w:World}{h:Heap} (e:h.DictOf (mixKind P w) a []):h.DictOfH (tupleKind (mixKind P w)) a []:=by
 obtain⟨o,es,ep,h1,h2,h3,h4,h5,h6⟩:=e
 exact⟨o,es,ep,h1,h2,h3,by rw [yV h5]; rfl,fun x hx=>by simp at hx,List.nodup_nil⟩
theorem zR {P:Program}{w:World}{h:Heap} (e:h.DictOfH (tupleKind (mixKind P w)) a []):h.DictOf (mixKind P w) a []:=by
 obtain⟨o,es,ep,h1,h2,h3,h4,h5,h6⟩:=e
 have:es = #[]:=by
  have:es.toList = []:=h4
  simpa using this
 subst this
 exact⟨o,#[],ep,h1,h2,h3,fun x hx=>by simp at hx,.nil,List.nodup_nil⟩
theorem w6 {vs:List (Key×Value)} (h:KV ([]:List (Key×V)) vs):vs = []:=by
 unfold KV at h; cases h; rfl
theorem zS {vs:List (List Key×Addr×Value)} (h:KT H [] vs):vs = []:=by cases h; rfl
theorem tq (I:Inv X pins σ H s) (e:Rd H a (.dK [])):s.heap.DictOfH (tupleKind (mixKind X.prog X.w)) a []∧(a == sysModules)=false:=by
 obtain⟨_,hd,vs,rel,dd⟩:=dk_rd I.hok e
 rw [w6 rel]at dd
 exact⟨zQ dd,hd⟩
theorem iN (I:Inv X pins σ H s) (e:Rd H a (.dT [])):s.heap.DictOf (mixKind X.prog X.w) a []∧(a == sysModules)=false:=by
 obtain⟨_,hd,vs,rel,dd⟩:=dt_rd I.hok e
 rw [zS rel]at dd
 exact⟨zR dd,hd⟩
def HH (H:Hp) (a:Addr) (y:V) (r:Option V):Prop :=
 DGet H a y r∨(r=none∧Rd H a (.dK [])∧∃ k b,y = .ref b∧H b=some (.tup (List.map kV k)))∨(r=none∧Rd H a (.dT [])∧∃ k,y=kV k)
theorem Gq {Q:Value→Shared→Prop} (hu:A.units+1 < cLine) (I:Inv X pins σ H s) (g:HH H a y o) (ry:RelV y u) (h:∀ s',Inv X pins σ H s'→Q (.bool o.isSome) s') :
  wpAny (model X.prog X.w) A (compareOp .In u (.ref a)) Q E s:=by
 rcases g with g | ⟨rfl,e,k,b,rfl,eb⟩ | ⟨rfl,e,k,rfl⟩
 ·exact d_in hu I g ry h
 ·cases (show u=Value.ref b from ry)
  obtain⟨dd,hd⟩:=tq I e
  exact wpAny_in_heap (tupleKind_room_in1 hu) (key_of I.hok eb) hd dd (h _ (I.tok _))
 ·obtain⟨dd,hd⟩:=iN I e
  exact wpAny_in_of (kV_is ry) hd dd.mapOf (h _ (I.tok _))
theorem zT {Q:Value→Shared→Prop} (hu:A.units+1 < cLine) (I:Inv X pins σ H s) (g:HH H a y o) (ry:RelV y u) (h:∀ s',Inv X pins σ H s'→Q (.bool (! o.isSome)) s') :
  wpAny (model X.prog X.w) A (compareOp .NotIn u (.ref a)) Q E s:=by
 rcases g with g | ⟨rfl,e,k,b,rfl,eb⟩ | ⟨rfl,e,k,rfl⟩
 ·exact d_notIn hu I g ry h
 ·cases (show u=Value.ref b from ry)
  obtain⟨dd,hd⟩:=tq I e
  exact wpAny_notIn_heap (tupleKind_room_in1 hu) (key_of I.hok eb) hd dd (h _ (I.tok _))
 ·obtain⟨dd,hd⟩:=iN I e
  exact wpAny_notIn_of (kV_is ry) hd dd.mapOf (h _ (I.tok _))
theorem Inv.toT (I:Inv X pins σ H s) (e:H a=some (.dK [])):Inv X pins σ (upd H a (.dT [])) s:=by
 obtain⟨z,hd,vs,rel,dd⟩:=dk_of I.hok e
 rw [w6 rel]at dd
 obtain⟨o,es,ep,h1,h2,h3,h4,h5,h6⟩:=zQ dd
 exact I.write (h':=s.heap) (t':=s.toks) (x:=a) (e:=a) (o:=.dT []) (by rw [e]; trivial) (.inl rfl) (fun _ _ _ z=>z) ⟨o,h1⟩ ⟨Nat.zero_le _,hd,[],.nil,o,es,ep,h1,h2,h3,h4,List.nodup_nil⟩
theorem Inv.toK (I:Inv X pins σ H s) (e:H a=some (.dT [])):Inv X pins σ (upd H a (.dK [])) s:=by
 obtain⟨z,hd,vs,rel,dd⟩:=dt_of I.hok e
 rw [zS rel]at dd
 have dd':=zR dd
 obtain⟨o,es,ep,h1,_⟩:=id dd'
 exact I.write (h':=s.heap) (t':=s.toks) (x:=a) (e:=a) (o:=.dK []) (by rw [e]; trivial) (.inl rfl) (fun _ _ _ z=>z) ⟨o,h1⟩ ⟨Nat.zero_le _,hd,[],.nil,dd'⟩
end
section
variable {T:Tab}{B:Base}{H H':Hp}{l:List aW}{o p:O}{v:V}{x:D}{a:Addr}{hs:List Addr}{own:Addr→Prop}{h:Hp}
theorem qc {k:D}{kk:Key} (e:keyOf k=some kk) (d:Dr T own h k v):v=kV kk:=by
 cases k with
 | int i=>injection e with e; subst e; exact d
 | str i=>injection e with e; subst e; exact d
 | _=>cases e
theorem oJ:∀ {ks:List D}{js:List Key}{vs:List V},keysOf ks=some js→lP T own h ks vs→vs=js.map kV
 | [],js,vs,e,d=>by
  have d:vs = []:=d
  injection e with e
  subst e d; rfl
 | k::ks,js,vs,e,d=>by
  obtain⟨v,r,rfl,d1,d2⟩:=d
  unfold keysOf at e
  cases e1:keyOf k with
  | none=>rw [e1]at e; cases e
  | some kk =>
   cases e2:keysOf ks with
   | none=>rw [e1,e2]at e; cases e
   | some r' =>
    rw [e1,e2]at e
    injection e with e
    subst e
    rw [qc e1 d1,oJ e2 d2]; rfl
theorem qA {k:D}{kk:List Key} (e:aI k=some kk) (s:ae T B H hs l) (d:Dr T own (vw B.Z H) k v):∃ b,v = .ref b∧H b=some (.tup (kk.map kV)):=by
 cases k with
 | tup ds =>
  have e:(if ds.length=2∨ds.length=3 then keysOf ds else none)=some kk:=e
  by_cases hc:ds.length=2∨ds.length=3
  ·rw [if_pos hc]at e
   obtain⟨b,vs,rfl,h1,h2⟩:=d
   rcases vt s h1 with h1 | h1
   ·exact⟨b,rfl,by rw [← oJ e h2]; exact h1⟩
   ·exact(h1.1 hc).elim
  ·rw [if_neg hc]at e; cases e
 | _=>cases e
theorem cR {k:D}{kk:Key} (e:keyOf k=some kk):aI k=none:=by
 cases k <;> first | rfl | cases e
theorem iC {k:D}{kk:List Key} (e:aI k=some kk):keyOf k=none:=by
 cases k <;> first | rfl | cases e
theorem zU {k:D}{kk:Key} (ek:keyOf k=some kk):∀ {ks ds:List D}{js:List Key}{ws:List V},keysOf ks=some js→js.length=ws.length→ds.length=ws.length →
  (∃ (n:Nat) (d:D) (w:V),bK k ks ds=some d∧valV (js.zip ws) kk=some w∧ds[n]?=some d∧ws[n]?=some w)∨(bK k ks ds=none∧valV (js.zip ws) kk=none)
 | [],ds,js,ws,e,hl,d=>by
  injection e with e; subst e
  exact .inr ⟨by cases ds <;> rfl,rfl⟩
 | j::ks,ds,js,ws,e,hl,d=>by
  unfold keysOf at e
  cases e1:keyOf j with
  | none=>rw [e1]at e; cases e
  | some jj =>
   cases e2:keysOf ks with
   | none=>rw [e1,e2]at e; cases e
   | some r' =>
    rw [e1,e2]at e
    injection e with e
    subst e
    match ds,ws,hl,d with
    | [],[],hl,_=>simp at hl
    | d0::ds,w::r,hl,d =>
     unfold bK
     by_cases hc:jj=kk
     ·subst hc
      rw [if_pos ⟨by rw [e1,ek],by rw [cR e1,cR ek]⟩]
      exact .inl ⟨0,d0,w,rfl,valV_pos rfl,rfl,rfl⟩
     ·rw [if_neg (fun z=>hc (by have:=z.1; rw [e1,ek]at this; exact Option.some.inj this))]
      rw [List.zip_cons_cons,valV_neg hc]
      rcases zU ek e2 (by simpa using hl) (by simpa using d)with⟨n,d',w',h1,h2,h3,h4⟩ | h
      ·exact .inl ⟨n+1,d',w',h1,h2,by simpa using h3,by simpa using h4⟩
      ·exact .inr h
theorem zV {k:D}{kk:List Key} (ek:aI k=some kk):∀ {ks ds:List D}{js:List (List Key)}{ws:List V},aM ks=some js→js.length=ws.length→ds.length=ws.length →
  (∃ (n:Nat) (d:D) (w:V),bK k ks ds=some d∧valV (js.zip ws) kk=some w∧ds[n]?=some d∧ws[n]?=some w)∨(bK k ks ds=none∧valV (js.zip ws) kk=none)
 | [],ds,js,ws,e,hl,d=>by
  injection e with e; subst e
  exact .inr ⟨by cases ds <;> rfl,rfl⟩
 | j::ks,ds,js,ws,e,hl,d=>by
  unfold aM at e
  cases e1:aI j with
  | none=>rw [e1]at e; cases e
  | some jj =>
   cases e2:aM ks with
   | none=>rw [e1,e2]at e; cases e
   | some r' =>
    rw [e1,e2]at e
    injection e with e
    subst e
    match ds,ws,hl,d with
    | [],[],hl,_=>simp at hl
    | d0::ds,w::r,hl,d =>
     unfold bK
     by_cases hc:jj=kk
     ·subst hc
      rw [if_pos ⟨by rw [iC e1,iC ek],by rw [e1,ek]⟩]
      exact .inl ⟨0,d0,w,rfl,valV_pos rfl,rfl,rfl⟩
     ·rw [if_neg (fun z=>hc (by have:=z.2; rw [e1,ek]at this; exact Option.some.inj this))]
      rw [List.zip_cons_cons,valV_neg hc]
      rcases zV ek e2 (by simpa using hl) (by simpa using d)with⟨n,d',w',h1,h2,h3,h4⟩ | h
      ·exact .inl ⟨n+1,d',w',h1,h2,by simpa using h3,by simpa using h4⟩
      ·exact .inr h
theorem kn:∀ {ks:List D}{js:List Key},keysOf ks=some js→∀ j∈ks,(keyOf j).isSome=true
 | k::ks,js,e,j,hj=>by
  unfold keysOf at e
  cases e1:keyOf k with
  | none=>rw [e1]at e; cases e
  | some kk =>
   cases e2:keysOf ks with
   | none=>rw [e1,e2]at e; cases e
   | some r' =>
    rcases List.mem_cons.mp hj with rfl | hj
    ·rw [e1]; rfl
    ·exact kn e2 j hj
theorem eL:∀ {ks:List D}{js:List (List Key)},aM ks=some js→∀ j∈ks,(aI j).isSome=true
 | k::ks,js,e,j,hj=>by
  unfold aM at e
  cases e1:aI k with
  | none=>rw [e1]at e; cases e
  | some kk =>
   cases e2:aM ks with
   | none=>rw [e1,e2]at e; cases e
   | some r' =>
    rcases List.mem_cons.mp hj with rfl | hj
    ·rw [e1]; rfl
    ·exact eL e2 j hj
theorem DC (s:ae T B H hs l) {u:List (Key×V)} (e:vw B.Z H a=some (.dK u)):Rd H a (.dK u):=ny s (fun _ _ z=>nomatch z) (.inl e)
theorem DD (s:ae T B H hs l) {u:List (List Key×V)} (e:vw B.Z H a=some (.dT u)):Rd H a (.dT u):=ny s (fun _ _ z=>nomatch z) (.inl e)
def B7 (H:Hp) (a:Addr) (ks:List D) (ws:List V):Prop:=(∃ js,keysOf ks=some js∧Rd H a (.dK (js.zip ws))∧js.length=ws.length)∨(∃ js,aM ks=some js∧Rd H a (.dT (js.zip ws))∧js.length=ws.length)
theorem qB (s:ae T B H hs l) {ks ds:List D} (d:Dr T own (vw B.Z H) (.dic ks ds) v):∃ a ws,v = .ref a∧B7 H a ks ws∧lP T own (vw B.Z H) ds ws:=by
 obtain⟨a,vs,rfl,_,d1,d2⟩:=d
 refine⟨a,vs,rfl,?_,d2⟩
 rcases d1 with⟨js,q1,q2,q3⟩ | ⟨js,q1,q2,q3⟩
 ·exact .inl ⟨js,q1,DC s q2,q3⟩
 ·exact .inr ⟨js,q1,DD s q2,q3⟩
theorem xO (s:ae T B H hs l) {ks ds:List D}{ws:List V}{k:D}{y:V} (d1:B7 H a ks ws) (hl:ds.length=ws.length) (dk:Dr T own (vw B.Z H) k y) (hk:bG k ks=true) :
  (∃ (n:Nat) (d:D) (w:V),bK k ks ds=some d∧DGet H a y (some w)∧ds[n]?=some d∧ws[n]?=some w)∨(bK k ks ds=none∧HH H a y none):=by
 unfold bG at hk
 rw [Bool.or_eq_true,Bool.and_eq_true,Bool.and_eq_true]at hk
 rcases hk with⟨hk,ha⟩ | ⟨hk,ha⟩
 ·obtain⟨kk,ek⟩:=Option.isSome_iff_exists.mp hk
  have ey:=qc ek dk
  rcases d1 with⟨js,q1,rd,q3⟩ | ⟨js,q1,rd,q3⟩
  ·rcases zU ek q1 q3 hl with⟨n,d,w,e1,e2,e3⟩ | ⟨e1,e2⟩
   ·exact .inl ⟨n,d,w,e1,.inl ⟨_,kk,rd,ey,e2.symm⟩,e3⟩
   ·exact .inr ⟨e1,.inl (.inl ⟨_,kk,rd,ey,e2.symm⟩)⟩
  ·cases ks with
   | nil =>
    injection q1 with q1
    subst q1
    exact .inr ⟨by cases ds <;> rfl,.inr (.inr ⟨rfl,rd,kk,ey⟩)⟩
   | cons j ks =>
    have h1:=eL q1 j List.mem_cons_self
    have h2:=List.all_eq_true.mp ha j List.mem_cons_self
    obtain⟨jj,ej⟩:=Option.isSome_iff_exists.mp h2
    rw [cR ej]at h1; cases h1
 ·obtain⟨kk,ek⟩:=Option.isSome_iff_exists.mp hk
  obtain⟨b,ey,eb⟩:=qA ek s dk
  rcases d1 with⟨js,q1,rd,q3⟩ | ⟨js,q1,rd,q3⟩
  ·cases ks with
   | nil =>
    injection q1 with q1
    subst q1
    exact .inr ⟨by cases ds <;> rfl,.inr (.inl ⟨rfl,rd,kk,b,ey,eb⟩)⟩
   | cons j ks =>
    have h1:=kn q1 j List.mem_cons_self
    have h2:=List.all_eq_true.mp ha j List.mem_cons_self
    obtain⟨jj,ej⟩:=Option.isSome_iff_exists.mp h2
    rw [iC ej]at h1; cases h1
  ·rcases zV ek q1 q3 hl with⟨n,d,w,e1,e2,e3⟩ | ⟨e1,e2⟩
   ·exact .inl ⟨n,d,w,e1,.inr ⟨_,kk,b,rd,ey,eb,e2.symm⟩,e3⟩
   ·exact .inr ⟨e1,.inl (.inr ⟨_,kk,b,rd,ey,eb,e2.symm⟩)⟩
theorem ae.openD {ks:List D}{os:List O} (s:ae T B H hs ((.dic ks os,v)::l)):∃ a vs,v = .ref a∧((∃ js,keysOf ks=some js∧H a=some (.dK (js.zip vs))∧js.length=vs.length)∨(∃ js,aM ks=some js∧H a=some (.dT (js.zip vs))∧js.length=vs.length))∧os.length=vs.length∧ae T B H (a::hs) (os.zip vs++l):=by
 obtain⟨F,⟨F1,F2,rfl,r1,r2⟩,nd,c⟩:=s.reps
 obtain⟨a,vs,G,e1,rfl,e2,e3⟩:=r1
 obtain⟨e4,el⟩:=aO.ofL e3
 have pm:(hs++(a::G++F2)).Perm (a::hs++(G++F2)):=by
  have:(hs++(a::(G++F2))).Perm (a::(hs++(G++F2))):=List.perm_middle
  simpa using this
 have nz:¬ B.Z a:=(c a (pm.mem_iff.mpr List.mem_cons_self)).2.2.1
 rw [bU nz]at e2
 refine⟨a,vs,e1,e2,el,s.lk,s.old,s.oth,s.io,s.tb,G++F2,?_,pm.nodup_iff.mp nd,fun b hb=>c b (pm.mem_iff.mpr hb)⟩
 exact aO.keep fG.refl (fun b z=>.inl (z.imp id fun z=>pm.mem_iff.mpr z)) _ _ (fun _ _=>rfl) (aO.append e4 r2)
theorem ae.closeD {ks:List D}{os:List O}{vs:List V} (s:ae T B H (a::hs) (os.zip vs++l)) (e:(∃ js,keysOf ks=some js∧H a=some (.dK (js.zip vs))∧js.length=vs.length)∨(∃ js,aM ks=some js∧H a=some (.dT (js.zip vs))∧js.length=vs.length)) (hl:os.length=vs.length):ae T B H hs ((.dic ks os,.ref a)::l):=by
 obtain⟨F,r,nd,c⟩:=s.reps
 obtain⟨G,F2,rfl,r1,r2⟩:=aO.split r
 have pm:(hs++(a::G++F2)).Perm (a::hs++(G++F2)):=by
  have:(hs++(a::(G++F2))).Perm (a::(hs++(G++F2))):=List.perm_middle
  simpa using this
 have nz:¬ B.Z a:=(c a List.mem_cons_self).2.2.1
 have k:∀ b,(B.G b∨b∈hs++(a::G++F2))→(B.G b∨b∈a::hs++(G++F2))∨vw B.Z H b=none:=fun b z=>.inl (z.imp id fun z=>pm.mem_iff.mp z)
 refine⟨s.lk,s.old,s.oth,s.io,s.tb,a::G++F2,⟨a::G,F2,rfl,⟨a,vs,G,rfl,rfl,by rw [bU nz]; exact e,?_⟩,aO.keep fG.refl k _ _ (fun _ _=>rfl) r2⟩,pm.nodup_iff.mpr nd,fun b hb=>c b (pm.mem_iff.mp hb)⟩
 exact Or.keepL fG.refl k _ _ _ (fun _ _=>rfl) (aO.toL hl r1)
theorem ae.openO {C:Nat}{ns:List Str}{os:List O} (s:ae T B H hs ((.obj C ns os,v)::l)):∃ a dx vs,v = .ref a∧H a=some (.ins (T.cls C) dx (ns.zip vs))∧ns.length=vs.length∧os.length=vs.length∧ae T B H (a::hs) (os.zip vs++l):=by
 obtain⟨F,⟨F1,F2,rfl,r1,r2⟩,nd,c⟩:=s.reps
 obtain⟨a,dx,vs,G,e1,rfl,e2,en,e3⟩:=r1
 obtain⟨e4,el⟩:=aO.ofL e3
 have pm:(hs++(a::G++F2)).Perm (a::hs++(G++F2)):=by
  have:(hs++(a::(G++F2))).Perm (a::(hs++(G++F2))):=List.perm_middle
  simpa using this
 have nz:¬ B.Z a:=(c a (pm.mem_iff.mpr List.mem_cons_self)).2.2.1
 rw [bU nz]at e2
 refine⟨a,dx,vs,e1,e2,en,el,s.lk,s.old,s.oth,s.io,s.tb,G++F2,?_,pm.nodup_iff.mp nd,fun b hb=>c b (pm.mem_iff.mpr hb)⟩
 exact aO.keep fG.refl (fun b z=>.inl (z.imp id fun z=>pm.mem_iff.mpr z)) _ _ (fun _ _=>rfl) (aO.append e4 r2)
theorem ae.closeO {C:Nat}{ns:List Str}{os:List O}{vs:List V}{dx:Addr} (s:ae T B H (a::hs) (os.zip vs++l)) (e:H a=some (.ins (T.cls C) dx (ns.zip vs))) (hn:ns.length=vs.length) (hl:os.length=vs.length):ae T B H hs ((.obj C ns os,.ref a)::l):=by
 obtain⟨F,r,nd,c⟩:=s.reps
 obtain⟨G,F2,rfl,r1,r2⟩:=aO.split r
 have pm:(hs++(a::G++F2)).Perm (a::hs++(G++F2)):=by
  have:(hs++(a::(G++F2))).Perm (a::(hs++(G++F2))):=List.perm_middle
  simpa using this
 have nz:¬ B.Z a:=(c a List.mem_cons_self).2.2.1
 have k:∀ b,(B.G b∨b∈hs++(a::G++F2))→(B.G b∨b∈a::hs++(G++F2))∨vw B.Z H b=none:=fun b z=>.inl (z.imp id fun z=>pm.mem_iff.mp z)
 refine⟨s.lk,s.old,s.oth,s.io,s.tb,a::G++F2,⟨a::G,F2,rfl,⟨a,dx,vs,G,rfl,rfl,by rw [bU nz]; exact e,hn,?_⟩,aO.keep fG.refl k _ _ (fun _ _=>rfl) r2⟩,pm.nodup_iff.mpr nd,fun b hb=>c b (pm.mem_iff.mp hb)⟩
 exact Or.keepL fG.refl k _ _ _ (fun _ _=>rfl) (aO.toL hl r1)
theorem pG {os:List O}{vs:List V}{w:O} (hl:os.length=vs.length) (s1:ae T B H (a::hs) (os.zip vs++l)) (cl:∀ {l:List aW},ae T B H (a::hs) (((O.frzL os).map O.d).zip vs++l)→ae T B H hs ((w,v)::l)):ae T B H hs (((O.frzL os).map O.d).zip vs++(w,v)::l):=by
 have s2:=Sat.freezeL hl s1
 rw [eJ]at s2
 have hl2:(O.frzL os).length=vs.length:=by rw [iW]; exact hl
 have s3:=Sat.dupL hl2 s2
 have s4:=(s3.perm (List.perm_append_comm (l₁:=((O.frzL os).map O.d).zip vs) (l₂:=((O.frzL os).map O.d).zip vs++l)))
 rw [List.append_assoc]at s4
 have s5:=cl (l:=l++((O.frzL os).map O.d).zip vs) s4
 exact s5.perm (by
  have:((w,v)::(l++((O.frzL os).map O.d).zip vs)).Perm (((w,v)::l)++((O.frzL os).map O.d).zip vs):=.refl _
  exact this.trans List.perm_append_comm)
theorem Sat.kidsD {ks xs:List D} (s:ae T B H hs ((o,v)::l)) (e:o.frz = .dic ks xs):∃ a vs,v = .ref a∧B7 H a ks vs∧xs.length=vs.length∧ae T B H hs ((xs.map O.d).zip vs++(o.shal,v)::l):=by
 cases o with
 | d x =>
  have e:x = .dic ks xs:=e
  subst e
  obtain⟨F,⟨F1,F2,rfl,r1,r2⟩,nd,c⟩:=id s.reps
  obtain⟨e,d⟩:=r1
  have e:F1 = []:=e
  subst e
  obtain⟨a,vs,e1,e2,e3⟩:=qB s d
  exact⟨a,vs,e1,e2,e3.len,s.lk,s.old,s.oth,s.io,s.tb,F2,aO.append (F:=[]) (lP.reps e3) ⟨[],F2,rfl,⟨rfl,d⟩,r2⟩,nd,c⟩
 | dic ks' os =>
  have e:D.dic ks' (O.frzL os) = .dic ks xs:=e
  injection e with e0 e
  subst e e0
  obtain⟨a,vs,rfl,eh,hl,s1⟩:=s.openD
  have hl2:(O.frzL os).length=vs.length:=by rw [iW]; exact hl
  refine⟨a,vs,rfl,?_,hl2,?_⟩
  ·rcases eh with⟨js,q1,q2,q3⟩ | ⟨js,q1,q2,q3⟩
   ·exact .inl ⟨js,q1,.inl q2,q3⟩
   ·exact .inr ⟨js,q1,.inl q2,q3⟩
  ·rw [show O.shal (.dic ks' os) = .dic ks' ((O.frzL os).map O.d)by rw [O.shal,eJ]]
   exact pG hl s1 fun z=>z.closeD eh (by simpa using hl2)
 | tup xs=>cases e
 | lst xs=>cases e
 | obj C ns xs=>cases e
theorem Sat.kidsO {C:Nat}{ns:List Str}{xs:List D} (s:ae T B H hs ((o,v)::l)) (e:o.frz = .obj C ns xs):∃ a dx vs,v = .ref a∧H a=some (.ins (T.cls C) dx (ns.zip vs))∧ns.length=vs.length∧xs.length=vs.length∧ae T B H hs ((xs.map O.d).zip vs++(o.shal,v)::l):=by
 cases o with
 | d x =>
  have e:x = .obj C ns xs:=e
  subst e
  obtain⟨F,⟨F1,F2,rfl,r1,r2⟩,nd,c⟩:=id s.reps
  obtain⟨e,a,dx,vs,e1,n1,e2,e3,e4⟩:=r1
  have e:F1 = []:=e
  subst e
  have e2':H a=some (.ins (T.cls C) dx (ns.zip vs)):=by
   rcases jo e2 with e | ⟨z,o,e⟩
   ·exact e
   ·obtain⟨u2,h1,mu⟩:=s.lk a z
    rw [e]at h1
    cases h1
    exact mu.elim
  exact⟨a,dx,vs,e1,e2',e3,e4.len,s.lk,s.old,s.oth,s.io,s.tb,F2,aO.append (F:=[]) (lP.reps e4) ⟨[],F2,rfl,⟨rfl,a,dx,vs,e1,n1,e2,e3,e4⟩,r2⟩,nd,c⟩
 | obj C' ns' os =>
  have e:D.obj C' ns' (O.frzL os) = .obj C ns xs:=e
  injection e with e0 e1 e
  subst e e0 e1
  obtain⟨a,dx,vs,rfl,eh,hn,hl,s1⟩:=s.openO
  have hl2:(O.frzL os).length=vs.length:=by rw [iW]; exact hl
  refine⟨a,dx,vs,rfl,eh,hn,hl2,?_⟩
  rw [show O.shal (.obj C' ns' os) = .obj C' ns' ((O.frzL os).map O.d)by rw [O.shal,eJ]]
  exact pG hl s1 fun z=>z.closeO eh hn (by simpa using hl2)
 | tup xs=>cases e
 | lst xs=>cases e
 | dic ns xs=>cases e
theorem ae.pick {m:List aW}:∀ {l:List aW}{n:Nat}{p:aW},l[n]?=some p→ae T B H hs (l++m)→ae T B H hs (p::m)
 | [],n,p,e,s=>by simp at e
 | q::l,0,p,e,s=>by
  simp at e
  subst e
  exact ae.dropL (m:=l) (s.perm List.perm_middle.symm)
 | q::l,n+1,p,e,s=>ae.pick (l:=l) (n:=n) (by simpa using e) (ae.drop1 (o:=q.1) (v:=q.2) s)
theorem zip_get {xs:List D}{vs:List V}{n:Nat}{d:D}{w:V} (e1:xs[n]?=some d) (e2:vs[n]?=some w):((xs.map O.d).zip vs)[n]?=some (.d d,w):=by
 rw [List.getElem?_zip_eq_some]
 exact⟨by rw [List.getElem?_map,e1]; rfl,e2⟩
end
section
variable {T:Tab}{B:Base}{H H':Hp}{l:List aW}{o p:O}{v:V}{x:D}{a:Addr}{hs:List Addr}
mutual
theorem gD:∀ (n:Nat) (d:D),D.okd n d=true→d.toP.plain=true∧d.toP.depth≤n
 | _,.non,_=>⟨rfl,Nat.zero_le _⟩
 | _,.bl _,_=>⟨rfl,Nat.zero_le _⟩
 | _,.int _,_=>⟨rfl,Nat.zero_le _⟩
 | _,.str _,_=>⟨rfl,Nat.zero_le _⟩
 | 0,.tup xs,h=>by simp [D.okd]at h
 | 0,.lst xs,h=>by simp [D.okd]at h
 | 0,.dic _ _,h=>by simp [D.okd]at h
 | 0,.obj _ _ _,h=>by simp [D.okd]at h
 | 0,.exc _ _,h=>by simp [D.okd]at h
 | n+1,.tup xs,h=>by
  have h:D.okdL n xs=true:=by simpa [D.okd]using h
  obtain⟨h1,h2⟩:=iX n xs h
  exact⟨by simpa [D.toP,PyData.plain]using h1,by simp only [D.toP,PyData.depth]; omega⟩
 | n+1,.lst xs,h=>by
  have h:D.okdL n xs=true:=by simpa [D.okd]using h
  obtain⟨h1,h2⟩:=iX n xs h
  exact⟨by simpa [D.toP,PyData.plain]using h1,by simp only [D.toP,PyData.depth]; omega⟩
 | _+1,.dic _ _,h=>by simp [D.okd]at h
 | _+1,.obj _ _ _,h=>by simp [D.okd]at h
 | _+1,.exc _ _,h=>by simp [D.okd]at h
theorem iX:∀ (n:Nat) (ds:List D),D.okdL n ds=true→PyData.plainAll (D.toPL ds)=true∧PyData.depthAll (D.toPL ds)≤n
 | n,[],_=>⟨rfl,Nat.zero_le _⟩
 | n,d::ds,h=>by
  have h:D.okd n d=true∧D.okdL n ds=true:=by simpa [D.okdL]using h
  obtain⟨h1,h2⟩:=gD n d h.1
  obtain⟨h3,h4⟩:=iX n ds h.2
  refine⟨by simp [D.toPL,PyData.plainAll,h1,h3],?_⟩
  simp only [D.toPL,PyData.depthAll]
  exact Nat.max_le.mpr ⟨h2,h4⟩
end
mutual
theorem qd:∀ (n m:Nat) (x y:D),D.okd n x=true→D.okd m y=true→PyData.eqv x.toP y.toP=D.eqd x y
 | n,m,x,y,hx,hy=>by
  cases x with
  | tup xs =>
   cases n with
   | zero=>simp [D.okd]at hx
   | succ n =>
    cases y with
    | tup ys =>
     cases m with
     | zero=>simp [D.okd]at hy
     | succ m =>
      simp only [D.toP,PyData.eqv,D.eqd]
      exact qC n m xs ys (by simpa [D.okd]using hx) (by simpa [D.okd]using hy)
    | _=>first | rfl | (simp only [D.toP,PyData.eqv,D.eqd]) | (cases m <;> simp [D.okd]at hy)
  | lst xs =>
   cases n with
   | zero=>simp [D.okd]at hx
   | succ n =>
    cases y with
    | lst ys =>
     cases m with
     | zero=>simp [D.okd]at hy
     | succ m =>
      simp only [D.toP,PyData.eqv,D.eqd]
      exact qC n m xs ys (by simpa [D.okd]using hx) (by simpa [D.okd]using hy)
    | _=>first | rfl | (simp only [D.toP,PyData.eqv,D.eqd]) | (cases m <;> simp [D.okd]at hy)
  | dic ks vs=>cases n <;> simp [D.okd]at hx
  | obj C ns vs=>cases n <;> simp [D.okd]at hx
  | exc C p=>cases n <;> simp [D.okd]at hx
  | _=>cases y <;> first | rfl | (simp only [D.toP,PyData.eqv,D.eqd]; done) | (cases m <;> simp [D.okd]at hy)
theorem qC:∀ (n m:Nat) (xs ys:List D),D.okdL n xs=true→D.okdL m ys=true→PyData.eqvAll (D.toPL xs) (D.toPL ys)=D.eqdL xs ys
 | n,m,[],[],_,_=>rfl
 | n,m,[],y::ys,_,_=>rfl
 | n,m,x::xs,[],_,_=>rfl
 | n,m,x::xs,y::ys,hx,hy=>by
  have hx:D.okd n x=true∧D.okdL n xs=true:=by simpa [D.okdL]using hx
  have hy:D.okd m y=true∧D.okdL m ys=true:=by simpa [D.okdL]using hy
  simp only [D.toPL,PyData.eqvAll,D.eqdL,qd n m x y hx.1 hy.1,qC n m xs ys hx.2 hy.2]
end
mutual
theorem nM (s:ae T B H hs l):∀ (n:Nat) (d:D) (v:V),D.okd n d=true→Dr T (fun _=>False) (vw B.Z H) d v→Dp T.K H v d.toP
 | _,.non,v,_,e=>by
  have e:v = .non:=e
  subst e; exact .non
 | _,.bl b,v,_,e=>by
  have e:v = .bl b:=e
  subst e; exact .bl b
 | _,.int i,v,_,e=>by
  have e:v = .int i:=e
  subst e; exact .int i
 | _,.str z,v,_,e=>by
  have e:v = .str z:=e
  subst e; exact .str z
 | 0,.tup xs,v,h,e=>by simp [D.okd]at h
 | 0,.lst xs,v,h,e=>by simp [D.okd]at h
 | n+1,.tup xs,v,h,e=>by
  obtain⟨a,vs,rfl,h1,h2⟩:=DB s e
  simp only [D.toP]
  exact .tup h1 (w7 s n xs vs (by simpa [D.okd]using h) h2)
 | n+1,.lst xs,v,h,e=>by
  obtain⟨a,vs,rfl,h1,h2⟩:=vz s e
  simp only [D.toP]
  exact .lst h1 (w7 s n xs vs (by simpa [D.okd]using h) h2)
 | 0,.dic _ _,v,h,e=>by simp [D.okd]at h
 | 0,.obj _ _ _,v,h,e=>by simp [D.okd]at h
 | 0,.exc _ _,v,h,e=>by simp [D.okd]at h
 | _+1,.dic _ _,v,h,e=>by simp [D.okd]at h
 | _+1,.obj _ _ _,v,h,e=>by simp [D.okd]at h
 | _+1,.exc _ _,v,h,e=>by simp [D.okd]at h
theorem w7 (s:ae T B H hs l):∀ (n:Nat) (ds:List D) (vs:List V),D.okdL n ds=true→lP T (fun _=>False) (vw B.Z H) ds vs→DpAll T.K H vs (D.toPL ds)
 | n,[],vs,_,e=>by
  have e:vs = []:=e
  subst e; exact .nil
 | n,d::ds,vs,h,e=>by
  obtain⟨v,r,rfl,e1,e2⟩:=e
  have h:D.okd n d=true∧D.okdL n ds=true:=by simpa [D.okdL]using h
  simp only [D.toPL]
  exact .cons (nM s n d v h.1 e1) (w7 s n ds r h.2 e2)
end
end
end PV
namespace PySem.SeqAt
open AutoSeq1 (wpAny_loadPart')
open MeetsSeq
theorem lS (b:Str) (u:Tok) (l:Addr) (es:Array DictEntry) (n:Nat) :
  Meets (Builtin.«str.__eq__» ⟨[.str b u,.ref l],[]⟩) (fun _ R s=>s.heap.get? l=some {cls:=.type "dict",dict:=none,data:=.dict es n,slots:=#[]}∧R (.ok (.ret .notImplemented)) s) :=
 .of_wp fun prog w A R s h=>by obtain⟨hp,g,d,tk,os⟩:=s; obtain⟨hl,h⟩:=h; wp_walk using wpAny_loadPart' hl,wpAny_load hl; exact⟨_,rfl,h⟩
theorem lU (l:Addr) (es:Array DictEntry) (n:Nat) (b:Str) (u:Tok) :
  Meets (Builtin.«dict.__eq__» ⟨[.ref l,.str b u],[]⟩) (fun _ R s=>s.heap.get? l=some {cls:=.type "dict",dict:=none,data:=.dict es n,slots:=#[]}∧R (.ok (.ret .notImplemented)) s) :=
 .of_wp fun prog w A R s h=>by obtain⟨hp,g,d,tk,os⟩:=s; obtain⟨hl,h⟩:=h; have f1:=F.sub_str_dict; wp_walk using wpAny_loadPart' hl; exact⟨_,rfl,h⟩
theorem mO {A:Around}{s:Shared}{l:Addr}{es:Array DictEntry}{n:Nat} (b:Str) (u:Tok) (ho:s.heap.get? l=some {cls:=.type "dict",dict:=none,data:=.dict es n,slots:=#[]}) (hu:A.units < cLine):EqAt A s (.str b u) (.ref l) false:=fun prog w E Q h=>by
 unfold eqBool
 refine wpAny_holding ?_
 refine wpAny_ite_split (fun hab=>absurd (eq_of_beq hab) nofun) (fun _=>?_)
 refine wpAny_bind ?_
 exact rc_eq_decline_or (k:=false) (typeIs_str s b u) ⟨_,ho,rfl⟩ (by decide) F.sub_dict_str F.slot_str_eq F.slot_dict_eq_refl
  (fun _ hq=>call_meets F.slot_str_eq (typeIs_str s b u) F.entry_str_eq (F.args_str_eq_2 _ _) (lS b u l es n) ⟨ho,hq⟩)
  (fun _ hq=>call_meets F.slot_dict_eq_refl ⟨_,ho,rfl⟩ F.entry_dict_eq (F.args_dict_eq_2 _ _) (lU l es n b u) ⟨ho,hq⟩)
  (fun _ hq=>wpAny_of_eq (rfl:isSame (.str b u) (.ref l)=pure false) hq) (.inr hu) (wpAny_truthy_bool h)
end PySem.SeqAt
namespace PV
open PySem PySem.Spec PyProof.Rows L2
section
variable {T:Tab}{B:Base}{X:Cx}{σ:L2.St}{l m:List aW}{H:Hp}{pins:List (Addr×Obj)}{s:Shared}{hs:List Addr}
theorem ux (I:Inv X pins σ H s) {a:Addr}{ks:List D}{ws:List V} (d:B7 H a ks ws):∃ (es:Array DictEntry) (n:Nat),s.heap.get? a=some {cls:=.type "dict",dict:=none,data:=.dict es n,slots:=#[]}:=by
 have key:∀ o:Obj,s.heap.get? a=some o→o.ExactDict→∀ es ep,o.data = .dict es ep→∃ (es:Array DictEntry) (n:Nat),s.heap.get? a=some {cls:=.type "dict",dict:=none,data:=.dict es n,slots:=#[]}:=by
  rintro⟨oc,od,dt,sl⟩ ho ⟨h1,h2,h3⟩ es ep h4
  simp only at h1 h2 h3 h4
  subst h1 h2 h3 h4
  exact⟨es,ep,ho⟩
 rcases d with⟨js,_,r,_⟩ | ⟨js,_,r,_⟩
 ·obtain⟨_,_,vs,_,o,es,ep,ho,ex,hd,_⟩:=r.ok I.hok
  exact key o ho ex es ep hd
 ·obtain⟨_,_,xs,_,o,es,ep,ho,ex,hd,_⟩:=r.ok I.hok
  exact key o ho ex es ep hd
theorem Gr (sa:ae T B H hs l) {n:Nat}{a:Addr}{vs:List V} (t:TupAt T.K (vw B.Z H) n a vs):SqT T.K H a vs:=by
 rcases t with e | ⟨_,q⟩
 ·exact .inl (ny sa (fun _ _ z=>nomatch z) (.inl e))
 ·exact .inr q
theorem uy {own:Addr→Prop}{h:Hp}:∀ {ys:List D}{vs:List V},lP T own h ys vs→ys.all oF=true→∀ v∈vs,∃ z,v = .str z
 | [],vs,d,_,v,hv=>by
  cases (show vs = []from d)
  cases hv
 | y::ys,vs,d,hy,v,hv=>by
  obtain⟨v0,r,rfl,d0,d1⟩:=d
  rw [List.all_cons,Bool.and_eq_true]at hy
  rcases List.mem_cons.mp hv with rfl | hv
  ·cases y with
   | str z=>exact⟨z,d0⟩
   | _=>cases hy.1
  ·exact uy d1 hy.2 v hv
theorem qD {u:Value}:∀ {vs:List V}{us:List Value},Vals vs us→u∈us→∃ v∈vs,RelV v u
 | _,_,.nil,h=>by cases h
 | _,_,.cons r rs,h=>by
  rcases List.mem_cons.mp h with rfl | h
  ·exact⟨_,List.mem_cons_self,r⟩
  ·obtain⟨v,hv,q⟩:=qD rs h
   exact⟨v,List.mem_cons_of_mem _ hv,q⟩
theorem Em (hK:X.K=T.K) (hu:X.A.units+200 < cLine) (I:Inv X pins σ H s) {x:V}{v u:Value}{y:V} (rx:RelV x v) (ry:RelV y u) {own:Addr→Prop}{ks ds ys:List D} (sa:ae T B H hs m) (d1:Dr T own (vw B.Z H) (.dic ks ds) x) (d2:Dr T own (vw B.Z H) (.tup ys) y) (hy:ys.all oF=true) (hq:∀ {a n vs},TupAt T.K (vw B.Z H) n a vs→SqT T.K H a vs) {Q:VK} (neg:Bool) (q:Q (.bl neg) H) :
  wpAny (model X.prog X.w) X.A (compareOp (if neg then .NotIn else .In) v u) (EP X pins σ Q) X.xe s:=by
 obtain⟨a,ws,rfl,dr,_⟩:=qB sa d1
 obtain⟨es,n,ho⟩:=ux I dr
 obtain⟨b,vs,rfl,ht,dl⟩:=d2
 cases rx
 cases ry
 have ht:=hq ht
 rw [← hK]at ht
 obtain⟨its,rv,p,hz⟩:=I.tuple ht
 have he:∀ y,y∈its.toArray→SeqAt.EqAt X.A.in1 s y (.ref a) ((fun _=>false) y):=fun y hyy=>by
  obtain⟨w,hw,rw_⟩:=qD rv (show y∈its by simpa using hyy)
  obtain⟨z,rfl⟩:=uy dl hy w hw
  obtain⟨t,e⟩:=(show ∃ t,y=Value.str z t from rw_)
  subst e
  exact SeqAt.mO z t ho (by show X.A.units+1 < cLine; omega)
 have ha:its.toArray.any (fun _=>false)=false:=by simp
 cases neg with
 | false=>exact SeqAt.in_tupleAt (fun _=>false) (show s.heap.IsTuple b its.toArray from p) he ⟨.bl _,H,I,rfl,by rw [ha]; exact q⟩
 | true=>exact SeqAt.notIn_tupleAt (fun _=>false) (show s.heap.IsTuple b its.toArray from p) he ⟨.bl _,H,I,rfl,by rw [ha]; exact q⟩
theorem B9 (hK:X.K=T.K) (hu:X.A.units+200 < cLine) (I:Inv X pins σ H s) {x:V}{v u:Value}{y:V} (rx:RelV x v) (ry:RelV y u) {ks ds ys:List D} (sa:ae T B H hs m) (d1:Dr T (fun _=>False) (vw B.Z H) (.dic ks ds) x) (d2:Dr T (fun _=>False) (vw B.Z H) (.lst ys) y) (hy:ys.all oF=true) {Q:VK} (neg:Bool) (q:Q (.bl neg) H) :
  wpAny (model X.prog X.w) X.A (compareOp (if neg then .NotIn else .In) v u) (EP X pins σ Q) X.xe s:=by
 obtain⟨a,ws,rfl,dr,_⟩:=qB sa d1
 obtain⟨es,n,ho⟩:=ux I dr
 obtain⟨b,vs,rfl,ht,dl⟩:=vz sa d2
 cases rx
 cases ry
 rw [← hK]at ht
 obtain⟨its,rv,p,hz⟩:=I.list ht
 have he:∀ y,y∈its.toArray→SeqAt.EqAt X.A.in1 s y (.ref a) ((fun _=>false) y):=fun y hyy=>by
  obtain⟨w,hw,rw_⟩:=qD rv (show y∈its by simpa using hyy)
  obtain⟨z,rfl⟩:=uy dl hy w hw
  obtain⟨t,e⟩:=(show ∃ t,y=Value.str z t from rw_)
  subst e
  exact SeqAt.mO z t ho (by show X.A.units+1 < cLine; omega)
 have ha:its.toArray.any (fun _=>false)=false:=by simp
 cases neg with
 | false=>exact SeqAt.in_listAt (fun _=>false) (show s.heap.IsList b its.toArray from p.isList) he ⟨.bl _,H,I,rfl,by rw [ha]; exact q⟩
 | true=>exact SeqAt.notIn_listAt (fun _=>false) (show s.heap.IsList b its.toArray from p.isList) he ⟨.bl _,H,I,rfl,by rw [ha]; exact q⟩
end
end PV
namespace PySem.SeqAt
open AutoSeq1 (wpAny_loadPart')
open MeetsSeq
def fk (h:Heap) (l:Addr) (es:Array DictEntry) (n:Nat):Prop:=h.get? l=some {cls:=.type "dict",dict:=none,data:=.dict es n,slots:=#[]}
section
variable {A:Around}{s:Shared}{l:Addr}{es:Array DictEntry}{n:Nat}
theorem fP (l:Addr) (es:Array DictEntry) (n:Nat)  : Meets (Builtin.«dict.__eq__» ⟨[.ref l,.none],[]⟩) (fun _ R s=>s.heap.get? l=some {cls:=.type "dict",dict:=none,data:=.dict es n,slots:=#[]}∧R (.ok (.ret .notImplemented)) s) :=
 .of_wp fun prog w A R s h=>by obtain⟨hp,g,d,tk,os⟩:=s; obtain⟨hl,h⟩:=h; have f1:=F.sub_NoneType_dict; wp_walk using wpAny_loadPart' hl; exact⟨_,rfl,h⟩
theorem fQ (l:Addr) (es:Array DictEntry) (n:Nat)  : Meets (Builtin.«NoneType.__eq__» ⟨[.none,.ref l],[]⟩) (fun _ R s=>s.heap.get? l=some {cls:=.type "dict",dict:=none,data:=.dict es n,slots:=#[]}∧R (.ok (.ret .notImplemented)) s) :=
 .of_wp fun prog w A R s h=>by obtain⟨hp,g,d,tk,os⟩:=s; obtain⟨hl,h⟩:=h; wp_walk using wpAny_loadPart' hl,wpAny_load hl; exact⟨_,rfl,h⟩
theorem EqAt.dict_none  (ho:fk s.heap l es n) (hu:A.units < cLine):EqAt A s (.ref l) .none false:=fun prog w E Q h=>by
 unfold fk at ho
 unfold eqBool
 refine wpAny_holding ?_
 refine wpAny_ite_split (fun hab=>absurd (eq_of_beq hab) nofun) (fun _=>?_)
 refine wpAny_bind ?_
 exact rc_eq_decline_or (k:=false) ⟨_,ho,rfl⟩ rfl (by decide) F.sub_NoneType_dict F.slot_dict_eq F.slot_NoneType_eq_refl
  (fun _ hq=>call_meets F.slot_dict_eq ⟨_,ho,rfl⟩ F.entry_dict_eq (F.args_dict_eq_2 _ _) (fP l es n ) ⟨ho,hq⟩)
  (fun _ hq=>call_meets F.slot_NoneType_eq_refl rfl F.entry_NoneType_eq (F.args_NoneType_eq_2 _ _) (fQ l es n ) ⟨ho,hq⟩)
  (fun _ hq=>wpAny_of_eq (rfl:isSame (.ref l) .none=pure false) hq) (.inr hu) (wpAny_truthy_bool h)
theorem EqAt.none_dict  (ho:fk s.heap l es n) (hu:A.units < cLine):EqAt A s .none (.ref l) false:=fun prog w E Q h=>by
 unfold fk at ho
 unfold eqBool
 refine wpAny_holding ?_
 refine wpAny_ite_split (fun hab=>absurd (eq_of_beq hab) nofun) (fun _=>?_)
 refine wpAny_bind ?_
 exact rc_eq_decline_or (k:=false) rfl ⟨_,ho,rfl⟩ (by decide) F.sub_dict_NoneType F.slot_NoneType_eq F.slot_dict_eq_refl
  (fun _ hq=>call_meets F.slot_NoneType_eq rfl F.entry_NoneType_eq (F.args_NoneType_eq_2 _ _) (fQ l es n ) ⟨ho,hq⟩)
  (fun _ hq=>call_meets F.slot_dict_eq_refl ⟨_,ho,rfl⟩ F.entry_dict_eq (F.args_dict_eq_2 _ _) (fP l es n ) ⟨ho,hq⟩)
  (fun _ hq=>wpAny_of_eq (rfl:isSame .none (.ref l)=pure false) hq) (.inr hu) (wpAny_truthy_bool h)
theorem fT (l:Addr) (es:Array DictEntry) (n:Nat) (b:Bool):Meets (Builtin.«dict.__eq__» ⟨[.ref l,.bool b],[]⟩) (fun _ R s=>s.heap.get? l=some {cls:=.type "dict",dict:=none,data:=.dict es n,slots:=#[]}∧R (.ok (.ret .notImplemented)) s) :=
 .of_wp fun prog w A R s h=>by obtain⟨hp,g,d,tk,os⟩:=s; obtain⟨hl,h⟩:=h; have f1:=F.sub_bool_dict; wp_walk using wpAny_loadPart' hl; exact⟨_,rfl,h⟩
theorem fU (l:Addr) (es:Array DictEntry) (n:Nat) (b:Bool):Meets (Builtin.«int.__eq__» ⟨[.bool b,.ref l],[]⟩) (fun _ R s=>s.heap.get? l=some {cls:=.type "dict",dict:=none,data:=.dict es n,slots:=#[]}∧R (.ok (.ret .notImplemented)) s) :=
 .of_wp fun prog w A R s h=>by obtain⟨hp,g,d,tk,os⟩:=s; obtain⟨hl,h⟩:=h; wp_walk using wpAny_loadPart' hl,wpAny_load hl; exact⟨_,rfl,h⟩
theorem EqAt.dict_bool (b:Bool) (ho:fk s.heap l es n) (hu:A.units < cLine):EqAt A s (.ref l) (.bool b) false:=fun prog w E Q h=>by
 unfold fk at ho
 unfold eqBool
 refine wpAny_holding ?_
 refine wpAny_ite_split (fun hab=>absurd (eq_of_beq hab) nofun) (fun _=>?_)
 refine wpAny_bind ?_
 exact rc_eq_decline_or (k:=false) ⟨_,ho,rfl⟩ rfl (by decide) F.sub_bool_dict F.slot_dict_eq F.slot_bool_eq_refl
  (fun _ hq=>call_meets F.slot_dict_eq ⟨_,ho,rfl⟩ F.entry_dict_eq (F.args_dict_eq_2 _ _) (fT l es n b) ⟨ho,hq⟩)
  (fun _ hq=>call_meets F.slot_bool_eq_refl rfl F.entry_int_eq (F.args_int_eq_2 _ _) (fU l es n b) ⟨ho,hq⟩)
  (fun _ hq=>wpAny_of_eq (rfl:isSame (.ref l) (.bool b)=pure false) hq) (.inr hu) (wpAny_truthy_bool h)
theorem EqAt.bool_dict (b:Bool) (ho:fk s.heap l es n) (hu:A.units < cLine):EqAt A s (.bool b) (.ref l) false:=fun prog w E Q h=>by
 unfold fk at ho
 unfold eqBool
 refine wpAny_holding ?_
 refine wpAny_ite_split (fun hab=>absurd (eq_of_beq hab) nofun) (fun _=>?_)
 refine wpAny_bind ?_
 exact rc_eq_decline_or (k:=false) rfl ⟨_,ho,rfl⟩ (by decide) F.sub_dict_bool F.slot_bool_eq F.slot_dict_eq_refl
  (fun _ hq=>call_meets F.slot_bool_eq rfl F.entry_int_eq (F.args_int_eq_2 _ _) (fU l es n b) ⟨ho,hq⟩)
  (fun _ hq=>call_meets F.slot_dict_eq_refl ⟨_,ho,rfl⟩ F.entry_dict_eq (F.args_dict_eq_2 _ _) (fT l es n b) ⟨ho,hq⟩)
  (fun _ hq=>wpAny_of_eq (rfl:isSame (.bool b) (.ref l)=pure false) hq) (.inr hu) (wpAny_truthy_bool h)
theorem gu (l:Addr) (es:Array DictEntry) (n:Nat) (b:Int) (u:Tok):Meets (Builtin.«dict.__eq__» ⟨[.ref l,.int b u],[]⟩) (fun _ R s=>s.heap.get? l=some {cls:=.type "dict",dict:=none,data:=.dict es n,slots:=#[]}∧R (.ok (.ret .notImplemented)) s) :=
 .of_wp fun prog w A R s h=>by obtain⟨hp,g,d,tk,os⟩:=s; obtain⟨hl,h⟩:=h; have f1:=F.sub_int_dict; wp_walk using wpAny_loadPart' hl; exact⟨_,rfl,h⟩
theorem gv (l:Addr) (es:Array DictEntry) (n:Nat) (b:Int) (u:Tok):Meets (Builtin.«int.__eq__» ⟨[.int b u,.ref l],[]⟩) (fun _ R s=>s.heap.get? l=some {cls:=.type "dict",dict:=none,data:=.dict es n,slots:=#[]}∧R (.ok (.ret .notImplemented)) s) :=
 .of_wp fun prog w A R s h=>by obtain⟨hp,g,d,tk,os⟩:=s; obtain⟨hl,h⟩:=h; wp_walk using wpAny_loadPart' hl,wpAny_load hl; exact⟨_,rfl,h⟩
theorem EqAt.dict_int (b:Int) (u:Tok) (ho:fk s.heap l es n) (hu:A.units < cLine):EqAt A s (.ref l) (.int b u) false:=fun prog w E Q h=>by
 unfold fk at ho
 unfold eqBool
 refine wpAny_holding ?_
 refine wpAny_ite_split (fun hab=>absurd (eq_of_beq hab) nofun) (fun _=>?_)
 refine wpAny_bind ?_
 exact rc_eq_decline_or (k:=false) ⟨_,ho,rfl⟩ (typeIs_int s b u) (by decide) F.sub_int_dict F.slot_dict_eq F.slot_int_eq_refl
  (fun _ hq=>call_meets F.slot_dict_eq ⟨_,ho,rfl⟩ F.entry_dict_eq (F.args_dict_eq_2 _ _) (gu l es n b u) ⟨ho,hq⟩)
  (fun _ hq=>call_meets F.slot_int_eq_refl (typeIs_int s b u) F.entry_int_eq (F.args_int_eq_2 _ _) (gv l es n b u) ⟨ho,hq⟩)
  (fun _ hq=>wpAny_of_eq (rfl:isSame (.ref l) (.int b u)=pure false) hq) (.inr hu) (wpAny_truthy_bool h)
theorem EqAt.int_dict (b:Int) (u:Tok) (ho:fk s.heap l es n) (hu:A.units < cLine):EqAt A s (.int b u) (.ref l) false:=fun prog w E Q h=>by
 unfold fk at ho
 unfold eqBool
 refine wpAny_holding ?_
 refine wpAny_ite_split (fun hab=>absurd (eq_of_beq hab) nofun) (fun _=>?_)
 refine wpAny_bind ?_
 exact rc_eq_decline_or (k:=false) (typeIs_int s b u) ⟨_,ho,rfl⟩ (by decide) F.sub_dict_int F.slot_int_eq F.slot_dict_eq_refl
  (fun _ hq=>call_meets F.slot_int_eq (typeIs_int s b u) F.entry_int_eq (F.args_int_eq_2 _ _) (gv l es n b u) ⟨ho,hq⟩)
  (fun _ hq=>call_meets F.slot_dict_eq_refl ⟨_,ho,rfl⟩ F.entry_dict_eq (F.args_dict_eq_2 _ _) (gu l es n b u) ⟨ho,hq⟩)
  (fun _ hq=>wpAny_of_eq (rfl:isSame (.int b u) (.ref l)=pure false) hq) (.inr hu) (wpAny_truthy_bool h)
theorem gx (l:Addr) (es:Array DictEntry) (n:Nat) (b:Str) (u:Tok):Meets (Builtin.«dict.__eq__» ⟨[.ref l,.str b u],[]⟩) (fun _ R s=>s.heap.get? l=some {cls:=.type "dict",dict:=none,data:=.dict es n,slots:=#[]}∧R (.ok (.ret .notImplemented)) s) :=
 .of_wp fun prog w A R s h=>by obtain⟨hp,g,d,tk,os⟩:=s; obtain⟨hl,h⟩:=h; have f1:=F.sub_str_dict; wp_walk using wpAny_loadPart' hl; exact⟨_,rfl,h⟩
theorem gy (l:Addr) (es:Array DictEntry) (n:Nat) (b:Str) (u:Tok):Meets (Builtin.«str.__eq__» ⟨[.str b u,.ref l],[]⟩) (fun _ R s=>s.heap.get? l=some {cls:=.type "dict",dict:=none,data:=.dict es n,slots:=#[]}∧R (.ok (.ret .notImplemented)) s) :=
 .of_wp fun prog w A R s h=>by obtain⟨hp,g,d,tk,os⟩:=s; obtain⟨hl,h⟩:=h; wp_walk using wpAny_loadPart' hl,wpAny_load hl; exact⟨_,rfl,h⟩
theorem EqAt.dict_str (b:Str) (u:Tok) (ho:fk s.heap l es n) (hu:A.units < cLine):EqAt A s (.ref l) (.str b u) false:=fun prog w E Q h=>by
 unfold fk at ho
 unfold eqBool
 refine wpAny_holding ?_
 refine wpAny_ite_split (fun hab=>absurd (eq_of_beq hab) nofun) (fun _=>?_)
 refine wpAny_bind ?_
 exact rc_eq_decline_or (k:=false) ⟨_,ho,rfl⟩ (typeIs_str s b u) (by decide) F.sub_str_dict F.slot_dict_eq F.slot_str_eq_refl
  (fun _ hq=>call_meets F.slot_dict_eq ⟨_,ho,rfl⟩ F.entry_dict_eq (F.args_dict_eq_2 _ _) (gx l es n b u) ⟨ho,hq⟩)
  (fun _ hq=>call_meets F.slot_str_eq_refl (typeIs_str s b u) F.entry_str_eq (F.args_str_eq_2 _ _) (gy l es n b u) ⟨ho,hq⟩)
  (fun _ hq=>wpAny_of_eq (rfl:isSame (.ref l) (.str b u)=pure false) hq) (.inr hu) (wpAny_truthy_bool h)
theorem EqAt.str_dict (b:Str) (u:Tok) (ho:fk s.heap l es n) (hu:A.units < cLine):EqAt A s (.str b u) (.ref l) false:=fun prog w E Q h=>by
 unfold fk at ho
 unfold eqBool
 refine wpAny_holding ?_
 refine wpAny_ite_split (fun hab=>absurd (eq_of_beq hab) nofun) (fun _=>?_)
 refine wpAny_bind ?_
 exact rc_eq_decline_or (k:=false) (typeIs_str s b u) ⟨_,ho,rfl⟩ (by decide) F.sub_dict_str F.slot_str_eq F.slot_dict_eq_refl
  (fun _ hq=>call_meets F.slot_str_eq (typeIs_str s b u) F.entry_str_eq (F.args_str_eq_2 _ _) (gy l es n b u) ⟨ho,hq⟩)
  (fun _ hq=>call_meets F.slot_dict_eq_refl ⟨_,ho,rfl⟩ F.entry_dict_eq (F.args_dict_eq_2 _ _) (gx l es n b u) ⟨ho,hq⟩)
  (fun _ hq=>wpAny_of_eq (rfl:isSame (.str b u) (.ref l)=pure false) hq) (.inr hu) (wpAny_truthy_bool h)
theorem fV (l b:Addr) (es:Array DictEntry) (n:Nat) (items:Array Value) (m:Nat) (dd:Option Addr) (sl:Array (Option Value)):Meets (Builtin.«dict.__eq__» ⟨[.ref l,.ref b],[]⟩) (fun _ R s=>s.heap.get? l=some {cls:=.type "dict",dict:=none,data:=.dict es n,slots:=#[]}∧s.heap.get? b=some {cls:=.type "list",dict:=dd,data:=.seq items m,slots:=sl}∧R (.ok (.ret .notImplemented)) s) :=
 .of_wp fun prog w A R s h=>by obtain⟨hp,g,d,tk,os⟩:=s; obtain⟨hl,hb,h⟩:=h; have f1:=F.sub_list_dict; wp_walk using wpAny_loadPart' hl,wpAny_loadPart' hb; exact⟨_,rfl,h⟩
theorem fX (l b:Addr) (es:Array DictEntry) (n:Nat) (items:Array Value) (m:Nat) (dd:Option Addr) (sl:Array (Option Value)):Meets (Builtin.«list.__eq__» ⟨[.ref b,.ref l],[]⟩) (fun _ R s=>s.heap.get? l=some {cls:=.type "dict",dict:=none,data:=.dict es n,slots:=#[]}∧s.heap.get? b=some {cls:=.type "list",dict:=dd,data:=.seq items m,slots:=sl}∧R (.ok (.ret .notImplemented)) s) :=
 .of_wp fun prog w A R s h=>by obtain⟨hp,g,d,tk,os⟩:=s; obtain⟨hl,hb,h⟩:=h; have f1:=F.sub_dict_list; wp_walk using wpAny_loadPart' hl,wpAny_loadPart' hb; exact⟨_,rfl,h⟩
theorem eM {b:Addr}{items:Array Value} (ho:fk s.heap l es n) (hb:s.heap.IsList b items):l≠b:=fun e=>by
 subst e
 obtain⟨o2,ho2,hc2,_⟩:=hb
 unfold fk at ho
 rw [ho]at ho2
 cases ho2
 exact absurd hc2 (by simp)
theorem EqAt.dict_list {b:Addr}{items:Array Value} (ho:fk s.heap l es n) (hb:s.heap.IsList b items) (hu:A.units < cLine):EqAt A s (.ref l) (.ref b) false:=.of_refs (eM ho hb) fun prog w E Q h=>by
 have hne:=eM ho hb
 unfold fk at ho
 obtain⟨⟨cls,dd,data,sl⟩,hob,hc,m,hd⟩:=id hb
 simp only at hc hd
 subst hc hd
 exact rc_eq_decline_or (k:=false) ⟨_,ho,rfl⟩ ⟨_,hob,rfl⟩ (by decide) F.sub_list_dict F.slot_dict_eq F.slot_list_eq_refl
  (fun _ hq=>call_meets F.slot_dict_eq ⟨_,ho,rfl⟩ F.entry_dict_eq (F.args_dict_eq_2 _ _) (fV l b es n items m dd sl) ⟨ho,hob,hq⟩)
  (fun _ hq=>call_meets F.slot_list_eq_refl ⟨_,hob,rfl⟩ F.entry_list_eq (F.args_list_eq_2 _ _) (fX l b es n items m dd sl) ⟨ho,hob,hq⟩)
  (fun _ hq=>wpAny_isSame_ref_other hne ho hob (by simp) hq) (.inr hu) h
theorem EqAt.list_dict {b:Addr}{items:Array Value} (ho:fk s.heap l es n) (hb:s.heap.IsList b items) (hu:A.units < cLine):EqAt A s (.ref b) (.ref l) false:=.of_refs (eM ho hb).symm fun prog w E Q h=>by
 have hne:=eM ho hb
 unfold fk at ho
 obtain⟨⟨cls,dd,data,sl⟩,hob,hc,m,hd⟩:=id hb
 simp only at hc hd
 subst hc hd
 exact rc_eq_decline_or (k:=false) ⟨_,hob,rfl⟩ ⟨_,ho,rfl⟩ (by decide) F.sub_dict_list F.slot_list_eq F.slot_dict_eq_refl
  (fun _ hq=>call_meets F.slot_list_eq ⟨_,hob,rfl⟩ F.entry_list_eq (F.args_list_eq_2 _ _) (fX l b es n items m dd sl) ⟨ho,hob,hq⟩)
  (fun _ hq=>call_meets F.slot_dict_eq_refl ⟨_,ho,rfl⟩ F.entry_dict_eq (F.args_dict_eq_2 _ _) (fV l b es n items m dd sl) ⟨ho,hob,hq⟩)
  (fun _ hq=>wpAny_isSame_ref_other hne.symm hob ho (by simp) hq) (.inr hu) h
theorem fx (l b:Addr) (es:Array DictEntry) (n:Nat) (items:Array Value) (m:Nat) (dd:Option Addr) (sl:Array (Option Value)):Meets (Builtin.«dict.__eq__» ⟨[.ref l,.ref b],[]⟩) (fun _ R s=>s.heap.get? l=some {cls:=.type "dict",dict:=none,data:=.dict es n,slots:=#[]}∧s.heap.get? b=some {cls:=.type "tuple",dict:=dd,data:=.seq items m,slots:=sl}∧R (.ok (.ret .notImplemented)) s) :=
 .of_wp fun prog w A R s h=>by obtain⟨hp,g,d,tk,os⟩:=s; obtain⟨hl,hb,h⟩:=h; have f1:=F.sub_tuple_dict; wp_walk using wpAny_loadPart' hl,wpAny_loadPart' hb; exact⟨_,rfl,h⟩
theorem fy (l b:Addr) (es:Array DictEntry) (n:Nat) (items:Array Value) (m:Nat) (dd:Option Addr) (sl:Array (Option Value)):Meets (Builtin.«tuple.__eq__» ⟨[.ref b,.ref l],[]⟩) (fun _ R s=>s.heap.get? l=some {cls:=.type "dict",dict:=none,data:=.dict es n,slots:=#[]}∧s.heap.get? b=some {cls:=.type "tuple",dict:=dd,data:=.seq items m,slots:=sl}∧R (.ok (.ret .notImplemented)) s) :=
 .of_wp fun prog w A R s h=>by obtain⟨hp,g,d,tk,os⟩:=s; obtain⟨hl,hb,h⟩:=h; have f1:=F.sub_dict_tuple; wp_walk using wpAny_loadPart' hl,wpAny_loadPart' hb; exact⟨_,rfl,h⟩
theorem dF {b:Addr}{items:Array Value} (ho:fk s.heap l es n) (hb:s.heap.IsTuple b items):l≠b:=fun e=>by
 subst e
 obtain⟨o2,ho2,hc2,_⟩:=hb
 unfold fk at ho
 rw [ho]at ho2
 cases ho2
 exact absurd hc2 (by simp)
theorem EqAt.dict_tuple {b:Addr}{items:Array Value} (ho:fk s.heap l es n) (hb:s.heap.IsTuple b items) (hu:A.units < cLine):EqAt A s (.ref l) (.ref b) false:=.of_refs (dF ho hb) fun prog w E Q h=>by
 have hne:=dF ho hb
 unfold fk at ho
 obtain⟨⟨cls,dd,data,sl⟩,hob,hc,m,hd⟩:=id hb
 simp only at hc hd
 subst hc hd
 exact rc_eq_decline_or (k:=false) ⟨_,ho,rfl⟩ ⟨_,hob,rfl⟩ (by decide) F.sub_tuple_dict F.slot_dict_eq F.slot_tuple_eq_refl
  (fun _ hq=>call_meets F.slot_dict_eq ⟨_,ho,rfl⟩ F.entry_dict_eq (F.args_dict_eq_2 _ _) (fx l b es n items m dd sl) ⟨ho,hob,hq⟩)
  (fun _ hq=>call_meets F.slot_tuple_eq_refl ⟨_,hob,rfl⟩ F.entry_tuple_eq (F.args_tuple_eq_2 _ _) (fy l b es n items m dd sl) ⟨ho,hob,hq⟩)
  (fun _ hq=>wpAny_isSame_ref_other hne ho hob (by simp) hq) (.inr hu) h
theorem EqAt.tuple_dict {b:Addr}{items:Array Value} (ho:fk s.heap l es n) (hb:s.heap.IsTuple b items) (hu:A.units < cLine):EqAt A s (.ref b) (.ref l) false:=.of_refs (dF ho hb).symm fun prog w E Q h=>by
 have hne:=dF ho hb
 unfold fk at ho
 obtain⟨⟨cls,dd,data,sl⟩,hob,hc,m,hd⟩:=id hb
 simp only at hc hd
 subst hc hd
 exact rc_eq_decline_or (k:=false) ⟨_,hob,rfl⟩ ⟨_,ho,rfl⟩ (by decide) F.sub_dict_tuple F.slot_tuple_eq F.slot_dict_eq_refl
  (fun _ hq=>call_meets F.slot_tuple_eq ⟨_,hob,rfl⟩ F.entry_tuple_eq (F.args_tuple_eq_2 _ _) (fy l b es n items m dd sl) ⟨ho,hob,hq⟩)
  (fun _ hq=>call_meets F.slot_dict_eq_refl ⟨_,ho,rfl⟩ F.entry_dict_eq (F.args_dict_eq_2 _ _) (fx l b es n items m dd sl) ⟨ho,hob,hq⟩)
  (fun _ hq=>wpAny_isSame_ref_other' hne.symm hob ho (by simp) hq) (.inr hu) h
end
end PySem.SeqAt
namespace PV
open PySem PySem.Spec PyProof.Rows L2
open PySem.SeqAt (EqAt fk)
open PySem.W (EqTree)
inductive jt (P:Program) (w:World) (s:Shared):D→Value→Prop
 | non:jt P w s .non .none
 | bl (b:Bool):jt P w s (.bl b) (.bool b)
 | int (i:Int) (t:Tok):jt P w s (.int i) (.int i t)
 | str (z:Str) (t:Tok):jt P w s (.str z) (.str z t)
 | lst {xs:List D}{a:Addr}{its:Array Value}:s.heap.IsList a its→its.size=xs.length→(∀ j (h:j < xs.length) (h':j < its.size),jt P w s xs[j] its[j])→jt P w s (.lst xs) (.ref a)
 | tup {xs:List D}{a:Addr}{its:Array Value}:s.heap.IsTuple a its→its.size=xs.length→(∀ j (h:j < xs.length) (h':j < its.size),jt P w s xs[j] its[j])→jt P w s (.tup xs) (.ref a)
 | dic {ks ds:List D}{a:Addr}{es:Array DictEntry}{n:Nat}{js:List Key}{kvs:List (Key×Value)}:fk s.heap a es n→s.heap.DictOf (mixKind P w) a kvs→(a == sysModules)=false→keysOf ks=some js→kvs.map (·.1)=js→ks.length=ds.length →
   (∀ j (h:j < ds.length) (h':j < kvs.length),jt P w s ds[j] kvs[j].2)→jt P w s (.dic ks ds) (.ref a)
theorem kI {n:Nat}{xs:List D} (h:D.okn n (.lst xs)=true):∃ m,n=m+1∧∀ x∈xs,D.okn m x=true:=by
 cases n with
 | zero=>simp [D.okn]at h
 | succ m=>exact⟨m,rfl,by simpa [D.okn]using h⟩
theorem kJ {n:Nat}{xs:List D} (h:D.okn n (.tup xs)=true):∃ m,n=m+1∧∀ x∈xs,D.okn m x=true:=by
 cases n with
 | zero=>simp [D.okn]at h
 | succ m=>exact⟨m,rfl,by simpa [D.okn]using h⟩
theorem nN {n:Nat}{ks vs:List D} (h:D.okn n (.dic ks vs)=true):∃ m js,n=m+1∧keysOf ks=some js∧js.Nodup∧ks.length=vs.length∧∀ x∈vs,D.okn m x=true:=by
 cases n with
 | zero=>simp [D.okn]at h
 | succ m =>
  cases e:keysOf ks with
  | none=>simp [D.okn,e]at h
  | some js =>
   simp [D.okn,e]at h
   exact⟨m,js,rfl,rfl,h.1,h.2.1,h.2.2⟩
theorem vB {P:Program}{w:World}{s:Shared}{n:Nat}{x y:D}{u v:Value} (hx:jt P w s x u) (hy:jt P w s y v) (hl:∀ A:Around,A.units+(n+1) < cLine→A.units < cLine) (hne:(∀ xs ys,¬ (x = .lst xs∧y = .lst ys))∧(∀ xs ys,¬ (x = .tup xs∧y = .tup ys))∧∀ a b c d,¬ (x = .dic a b∧y = .dic c d)):EqTree P w s (n+1) u v (D.eqd x y):=by
 cases hx with
 | non =>
  cases hy with
  | non=>rw [show D.eqd .non .non=true by simp only [D.eqd]]; exact .same
  | bl b2=>simp only [D.eqd]; exact .leaf fun A hu=>EqAt.none_bool b2
  | int i2 t2=>simp only [D.eqd]; exact .leaf fun A hu=>EqAt.none_int i2 t2
  | str z2 t2=>simp only [D.eqd]; exact .leaf fun A hu=>EqAt.none_str z2 t2
  | lst h21 h22 h23=>simp only [D.eqd]; exact .leaf fun A hu=>EqAt.none_list h21 (hl A hu)
  | tup h21 h22 h23=>simp only [D.eqd]; exact .leaf fun A hu=>EqAt.none_tuple h21 (hl A hu)
  | dic h21 h22 h23 h24 h25 h26 h27=>simp only [D.eqd]; exact .leaf fun A hu=>EqAt.none_dict h21 (hl A hu)
 | bl b1 =>
  cases hy with
  | non=>simp only [D.eqd]; exact .leaf fun A hu=>EqAt.bool_none b1
  | bl b2=>simp only [D.eqd]; exact .leaf fun A hu=>EqAt.bool_bool b1 b2
  | int i2 t2=>simp only [D.eqd]; exact .leaf fun A hu=>EqAt.bool_int b1 i2 t2
  | str z2 t2=>simp only [D.eqd]; exact .leaf fun A hu=>EqAt.bool_str b1 z2 t2
  | lst h21 h22 h23=>simp only [D.eqd]; exact .leaf fun A hu=>EqAt.bool_list b1 h21 (hl A hu)
  | tup h21 h22 h23=>simp only [D.eqd]; exact .leaf fun A hu=>EqAt.bool_tuple b1 h21 (hl A hu)
  | dic h21 h22 h23 h24 h25 h26 h27=>simp only [D.eqd]; exact .leaf fun A hu=>EqAt.bool_dict b1 h21 (hl A hu)
 | int i1 t1 =>
  cases hy with
  | non=>simp only [D.eqd]; exact .leaf fun A hu=>EqAt.int_none i1 t1
  | bl b2=>simp only [D.eqd]; exact .leaf fun A hu=>EqAt.int_bool i1 t1 b2
  | int i2 t2=>simp only [D.eqd]; exact .leaf fun A hu=>EqAt.int_int i1 t1 i2 t2
  | str z2 t2=>simp only [D.eqd]; exact .leaf fun A hu=>EqAt.int_str i1 t1 z2 t2
  | lst h21 h22 h23=>simp only [D.eqd]; exact .leaf fun A hu=>EqAt.int_list i1 t1 h21 (hl A hu)
  | tup h21 h22 h23=>simp only [D.eqd]; exact .leaf fun A hu=>EqAt.int_tuple i1 t1 h21 (hl A hu)
  | dic h21 h22 h23 h24 h25 h26 h27=>simp only [D.eqd]; exact .leaf fun A hu=>EqAt.int_dict i1 t1 h21 (hl A hu)
 | str z1 t1 =>
  cases hy with
  | non=>simp only [D.eqd]; exact .leaf fun A hu=>EqAt.str_none z1 t1
  | bl b2=>simp only [D.eqd]; exact .leaf fun A hu=>EqAt.str_bool z1 t1 b2
  | int i2 t2=>simp only [D.eqd]; exact .leaf fun A hu=>EqAt.str_int z1 t1 i2 t2
  | str z2 t2=>simp only [D.eqd]; exact .leaf fun A hu=>EqAt.str_str z1 t1 z2 t2
  | lst h21 h22 h23=>simp only [D.eqd]; exact .leaf fun A hu=>EqAt.str_list z1 t1 h21 (hl A hu)
  | tup h21 h22 h23=>simp only [D.eqd]; exact .leaf fun A hu=>EqAt.str_tuple z1 t1 h21 (hl A hu)
  | dic h21 h22 h23 h24 h25 h26 h27=>simp only [D.eqd]; exact .leaf fun A hu=>EqAt.str_dict z1 t1 h21 (hl A hu)
 | lst h11 h12 h13 =>
  cases hy with
  | non=>simp only [D.eqd]; exact .leaf fun A hu=>EqAt.list_none h11 (hl A hu)
  | bl b2=>simp only [D.eqd]; exact .leaf fun A hu=>EqAt.list_bool b2 h11 (hl A hu)
  | int i2 t2=>simp only [D.eqd]; exact .leaf fun A hu=>EqAt.list_int i2 t2 h11 (hl A hu)
  | str z2 t2=>simp only [D.eqd]; exact .leaf fun A hu=>EqAt.list_str z2 t2 h11 (hl A hu)
  | lst h21 h22 h23=>exact(hne.1 _ _ ⟨rfl,rfl⟩).elim
  | tup h21 h22 h23=>simp only [D.eqd]; exact .leaf fun A hu=>EqAt.list_tuple h11 h21 (hl A hu)
  | dic h21 h22 h23 h24 h25 h26 h27=>simp only [D.eqd]; exact .leaf fun A hu=>EqAt.list_dict h21 h11 (hl A hu)
 | tup h11 h12 h13 =>
  cases hy with
  | non=>simp only [D.eqd]; exact .leaf fun A hu=>EqAt.tuple_none h11 (hl A hu)
  | bl b2=>simp only [D.eqd]; exact .leaf fun A hu=>EqAt.tuple_bool b2 h11 (hl A hu)
  | int i2 t2=>simp only [D.eqd]; exact .leaf fun A hu=>EqAt.tuple_int i2 t2 h11 (hl A hu)
  | str z2 t2=>simp only [D.eqd]; exact .leaf fun A hu=>EqAt.tuple_str z2 t2 h11 (hl A hu)
  | lst h21 h22 h23=>simp only [D.eqd]; exact .leaf fun A hu=>EqAt.tuple_list h11 h21 (hl A hu)
  | tup h21 h22 h23=>exact(hne.2.1 _ _ ⟨rfl,rfl⟩).elim
  | dic h21 h22 h23 h24 h25 h26 h27=>simp only [D.eqd]; exact .leaf fun A hu=>EqAt.tuple_dict h21 h11 (hl A hu)
 | dic h11 h12 h13 h14 h15 h16 h17 =>
  cases hy with
  | non=>simp only [D.eqd]; exact .leaf fun A hu=>EqAt.dict_none h11 (hl A hu)
  | bl b2=>simp only [D.eqd]; exact .leaf fun A hu=>EqAt.dict_bool b2 h11 (hl A hu)
  | int i2 t2=>simp only [D.eqd]; exact .leaf fun A hu=>EqAt.dict_int i2 t2 h11 (hl A hu)
  | str z2 t2=>simp only [D.eqd]; exact .leaf fun A hu=>EqAt.dict_str z2 t2 h11 (hl A hu)
  | lst h21 h22 h23=>simp only [D.eqd]; exact .leaf fun A hu=>EqAt.dict_list h11 h21 (hl A hu)
  | tup h21 h22 h23=>simp only [D.eqd]; exact .leaf fun A hu=>EqAt.dict_tuple h11 h21 (hl A hu)
  | dic h21 h22 h23 h24 h25 h26 h27=>exact(hne.2.2 _ _ _ _ ⟨rfl,rfl⟩).elim
theorem vC {h:Heap}{a:Addr}{x y:Array Value} (h1:h.IsList a x) (h2:h.IsList a y):x=y:=by
 obtain⟨o,ho,_,n,hd⟩:=h1
 obtain⟨o2,ho2,_,m,hd2⟩:=h2
 rw [ho]at ho2
 cases ho2
 rw [hd]at hd2
 cases hd2
 rfl
theorem uz {h:Heap}{a:Addr}{x y:Array Value} (h1:h.IsTuple a x) (h2:h.IsTuple a y):x=y:=by
 obtain⟨o,ho,_,n,hd⟩:=h1
 obtain⟨o2,ho2,_,m,hd2⟩:=h2
 rw [ho]at ho2
 cases ho2
 rw [hd]at hd2
 cases hd2
 rfl
theorem qE {P:Program}{w:World}{K:Type} [DecidableEq K] {knd:KeyKind P w K}:∀ {es:List DictEntry}{k1 k2:List (K×Value)},Pairs knd es k1→Pairs knd es k2→k1=k2
 | _,_,_,.nil,.nil=>rfl
 | _,_,_,.cons (kv:=p) a b c,.cons (kv:=q) a' b' c'=>by
  have h1:p.1=q.1:=knd.inj _ _ _ a a'
  have h2:p.2=q.2:=b.symm.trans b'
  rw [qE c c',Prod.ext h1 h2]
theorem vD {P:Program}{w:World}{K:Type} [DecidableEq K] {knd:KeyKind P w K}{h:Heap}{a:Addr}{k1 k2:List (K×Value)} (h1:h.DictOf knd a k1) (h2:h.DictOf knd a k2):k1=k2:=by
 obtain⟨o,es,ep,ho,_,hd,_,hp,_⟩:=h1
 obtain⟨o2,es2,ep2,ho2,_,hd2,_,hp2,_⟩:=h2
 rw [ho]at ho2
 cases ho2
 rw [hd]at hd2
 cases hd2
 exact qE hp hp2
theorem tu {a b:D}{k:Key} (h1:keyOf a=some k) (h2:keyOf b=some k):a=b:=by
 cases a <;> cases b <;> simp [keyOf]at h1 h2 <;> first | (rw [← h1]at h2; simp at h2; done) | (rw [← h1]at h2; injection h2 with h2; rw [h2])
theorem qF:∀ {ks ls:List D}{js:List Key},keysOf ks=some js→keysOf ls=some js→ks=ls
 | [],[],_,_,_=>rfl
 | [],b::ls,js,h1,h2=>by
  rw [keysOf]at h1
  cases h1
  rw [keysOf]at h2
  cases e1:keyOf b <;> cases e2:keysOf ls <;> simp [e1,e2]at h2
 | a::ks,[],js,h1,h2=>by
  rw [keysOf]at h2
  cases h2
  rw [keysOf]at h1
  cases e1:keyOf a <;> cases e2:keysOf ks <;> simp [e1,e2]at h1
 | a::ks,b::ls,js,h1,h2=>by
  rw [keysOf]at h1 h2
  cases e1:keyOf a <;> cases e2:keysOf ks <;> simp [e1,e2]at h1
  cases e3:keyOf b <;> cases e4:keysOf ls <;> simp [e3,e4]at h2
  rw [← h1]at h2
  injection h2 with h3 h4
  subst h3 h4
  rw [tu e1 e3,qF e2 e4]
theorem ju:∀ {ks:List D}{js:List Key},keysOf ks=some js→js.length=ks.length
 | [],js,h=>by rw [keysOf]at h; cases h; rfl
 | a::ks,js,h=>by
  rw [keysOf]at h
  cases e1:keyOf a <;> cases e2:keysOf ks <;> simp [e1,e2]at h
  rw [← h,List.length_cons,List.length_cons,ju e2]
theorem mz {P:Program}{w:World}{s:Shared}:∀ (n:Nat) (x y:D) (u:Value),D.okn n x=true→jt P w s x u→jt P w s y u→x=y
 | n,x,y,u,ok,hx,hy=>by
  cases hx with
  | non=>cases hy; rfl
  | bl b=>cases hy; rfl
  | int i t=>cases hy; rfl
  | str z t=>cases hy; rfl
  | lst h1 h2 h3 =>
   obtain⟨m,rfl,om⟩:=kI ok
   cases hy with
   | lst k1 k2 k3 =>
    have e:=vC h1 k1
    subst e
    congr 1
    refine List.ext_getElem (h2.symm.trans k2) fun j j1 j2=>?_
    exact mz m _ _ _ (om _ (List.getElem_mem j1)) (h3 j j1 (by omega)) (k3 j j2 (by omega))
   | tup k1 k2 k3=>exact(PySem.SeqAt.ne_of_list_tuple h1 k1 rfl).elim
   | dic k1 k2 k3 k4 k5 k6 k7=>exact(PySem.SeqAt.eM k1 h1 rfl).elim
  | tup h1 h2 h3 =>
   obtain⟨m,rfl,om⟩:=kJ ok
   cases hy with
   | lst k1 k2 k3=>exact(PySem.SeqAt.ne_of_list_tuple k1 h1 rfl).elim
   | tup k1 k2 k3 =>
    have e:=uz h1 k1
    subst e
    congr 1
    refine List.ext_getElem (h2.symm.trans k2) fun j j1 j2=>?_
    exact mz m _ _ _ (om _ (List.getElem_mem j1)) (h3 j j1 (by omega)) (k3 j j2 (by omega))
   | dic k1 k2 k3 k4 k5 k6 k7=>exact(PySem.SeqAt.dF k1 h1 rfl).elim
  | dic h1 h2 h3 h4 h5 h6 h7 =>
   obtain⟨m,js,rfl,_,_,_,om⟩:=nN ok
   cases hy with
   | lst k1 k2 k3=>exact(PySem.SeqAt.eM h1 k1 rfl).elim
   | tup k1 k2 k3=>exact(PySem.SeqAt.dF h1 k1 rfl).elim
   | dic k1 k2 k3 k4 k5 k6 k7 =>
    have e:=vD h2 k2
    subst e
    have ej:=h5.symm.trans k5
    subst ej
    have ek:=qF h4 k4
    subst ek
    congr 1
    have l1:=ju h4
    have l2:=congrArg List.length h5
    rw [List.length_map]at l2
    refine List.ext_getElem (h6.symm.trans k6) fun j j1 j2=>?_
    exact mz m _ _ _ (om _ (List.getElem_mem j1)) (h7 j j1 (by omega)) (k7 j j2 (by omega))
theorem kK {n:Nat}:∀ {xs:List D},(∀ x∈xs,D.eqn n x x=true)→((xs.zip xs).all fun p=>D.eqn n p.1 p.2)=true
 | [],_=>rfl
 | x::xs,h=>by
  rw [List.zip_cons_cons,List.all_cons,h x List.mem_cons_self,kK fun y hy=>h y (List.mem_cons_of_mem _ hy)]
  rfl
theorem range_all {n:Nat}{f g:D×D→Bool}:∀ {xs ys:List D},xs.length=ys.length→∀ (e:Nat→Bool),(∀ j (h1:j < xs.length) (h2:j < ys.length),e j=f (xs[j],ys[j]))→(List.range xs.length).all e=(xs.zip ys).all f
 | [],[],_,e,_=>rfl
 | x::xs,y::ys,hl,e,h=>by
  rw [List.length_cons,List.range_succ_eq_map,List.all_cons,List.all_map,List.zip_cons_cons,List.all_cons]
  have h0:=h 0 (by simp) (by simp)
  have ih:=range_all (n:=n) (f:=f) (g:=g) (xs:=xs) (ys:=ys) (by simpa using hl) (e∘Nat.succ) fun j j1 j2=>h (j+1) (by simpa using j1) (by simpa using j2)
  rw [ih,h0]
  rfl
theorem mY {k:D}{x:D}:∀ {ks vs:List D}{js:List Key},keysOf ks=some js→js.Nodup→ks.length=vs.length→(k,x)∈ks.zip vs→bK k ks vs=some x
 | [],vs,js,_,_,_,h=>by simp at h
 | a::ks,[],js,_,_,hl,h=>by simp at hl
 | a::ks,v::vs,js,e,nd,hl,h=>by
  rw [keysOf]at e
  cases e1:keyOf a with
  | none=>rw [e1]at e; cases e
  | some j =>
   cases e2:keysOf ks with
   | none=>rw [e1,e2]at e; cases e
   | some jr =>
    rw [e1,e2]at e
    injection e with e
    subst e
    obtain⟨n1,n2⟩:=List.nodup_cons.mp nd
    rw [List.zip_cons_cons]at h
    show(if keyOf a=keyOf k∧aI a=aI k then some v else bK k ks vs)=some x
    rcases List.mem_cons.mp h with h | h
    ·cases h
     rw [if_pos ⟨rfl,rfl⟩]
    ·have hk:k∈ks:=(List.of_mem_zip h).1
     have:keyOf k≠keyOf a:=by
      intro z
      rw [e1]at z
      have:∀ {ks:List D}{jr:List Key},keysOf ks=some jr→k∈ks→j∈jr:=by
       intro ks
       induction ks with
       | nil=>intro jr _ hk; cases hk
       | cons b ks ih =>
        intro jr e hk
        rw [keysOf]at e
        cases e3:keyOf b with
        | none=>rw [e3]at e; cases e
        | some jb =>
         cases e4:keysOf ks with
         | none=>rw [e3,e4]at e; cases e
         | some jc =>
          rw [e3,e4]at e
          injection e with e
          subst e
          rcases List.mem_cons.mp hk with rfl | hk
          ·rw [z]at e3
           injection e3 with e3
           rw [e3]; exact List.mem_cons_self
          ·exact List.mem_cons_of_mem _ (ih e4 hk)
      exact n1 (this e2 hk)
     rw [if_neg fun z=>this z.1.symm]
     exact mY e2 n2 (by simpa using hl) h
theorem qG:∀ (n:Nat) (x:D),D.okn n x=true→D.eqn n x x=true:=by
 intro n
 induction n with
 | zero =>
  intro x h
  cases x <;> simp [D.okn]at h <;> simp [D.eqn,D.eqd]
 | succ n ih =>
  intro x h
  cases x with
  | tup xs =>
   obtain⟨m,e,om⟩:=kJ h
   cases e
   rw [D.eqn,kK fun y hy=>ih y (om y hy)]
   simp
  | lst xs =>
   obtain⟨m,e,om⟩:=kI h
   cases e
   rw [D.eqn,kK fun y hy=>ih y (om y hy)]
   simp
  | dic ks vs =>
   obtain⟨m,js,e,ek,nd,hl,om⟩:=nN h
   cases e
   rw [D.eqn,Bool.and_eq_true]
   refine⟨by simp,List.all_eq_true.mpr fun p hp=>?_⟩
   obtain⟨k,x⟩:=p
   rw [mY ek nd hl hp]
   exact ih x (om x (List.of_mem_zip hp).2)
  | obj C a b=>simp [D.okn]at h
  | exc C p=>simp [D.okn]at h
  | _=>simp [D.eqn,D.eqd]
theorem zW {P:Program}{w:World}{s:Shared}{n:Nat} (ih:∀ (x y:D) (u v:Value),D.okn n x=true→D.okn n y=true→jt P w s x u→jt P w s y v→EqTree P w s (n+1) u v (D.eqn n x y)) {xs ys:List D}{u v:Value}
  (ox:D.okn (n+1) (.lst xs)=true) (oy:D.okn (n+1) (.lst ys)=true) (hx:jt P w s (.lst xs) u) (hy:jt P w s (.lst ys) v):EqTree P w s (n+1+1) u v (D.eqn (n+1) (.lst xs) (.lst ys)):=by
 by_cases huv:u=v
 ·subst huv
  rw [← mz _ _ _ _ ox hx hy,qG _ _ ox]
  exact .same
 obtain⟨m,e,om⟩:=kI ox
 cases e
 obtain⟨m,e,oy'⟩:=kI oy
 cases e
 cases hx with
 | lst h1 h2 h3 =>
  cases hy with
  | lst k1 k2 k3 =>
   have hne:=fun z=>huv (congrArg Value.ref z)
   rw [D.eqn]
   by_cases hl:xs.length=ys.length
   ·have e0:(xs.length == ys.length)=true:=by simp [hl]
    obtain⟨e,he⟩:∃ e:Nat→Bool,∀ j (j1:j < xs.length) (j2:j < ys.length),e j=D.eqn n xs[j] ys[j]:=⟨fun j=>if h:j < xs.length∧j < ys.length then D.eqn n xs[j] ys[j]else true,fun j j1 j2=>by simp only [j1,j2,and_self,dif_pos]⟩
    rw [e0,Bool.true_and,← range_all (n:=n) (g:=fun _=>true) hl e he]
    have T:EqTree P w s (n+1+1) _ _ _:=.lists (e:=e) hne h1 k1 (by omega) fun j j1 j2=>by
     have j3:j < xs.length:=by omega
     have j4:j < ys.length:=by omega
     rw [he j j3 j4]
     exact ih _ _ _ _ (om _ (List.getElem_mem j3)) (oy' _ (List.getElem_mem j4)) (h3 j j3 j1) (k3 j j4 j2)
    rw [h2]at T
    exact T
   ·have e0:(xs.length == ys.length)=false:=by simp [hl]
    rw [e0,Bool.false_and]
    exact .listsLen hne h1 k1 (by simp; omega)
theorem zX {P:Program}{w:World}{s:Shared}{n:Nat} (ih:∀ (x y:D) (u v:Value),D.okn n x=true→D.okn n y=true→jt P w s x u→jt P w s y v→EqTree P w s (n+1) u v (D.eqn n x y)) {xs ys:List D}{u v:Value}
  (ox:D.okn (n+1) (.tup xs)=true) (oy:D.okn (n+1) (.tup ys)=true) (hx:jt P w s (.tup xs) u) (hy:jt P w s (.tup ys) v):EqTree P w s (n+1+1) u v (D.eqn (n+1) (.tup xs) (.tup ys)):=by
 by_cases huv:u=v
 ·subst huv
  rw [← mz _ _ _ _ ox hx hy,qG _ _ ox]
  exact .same
 obtain⟨m,e,om⟩:=kJ ox
 cases e
 obtain⟨m,e,oy'⟩:=kJ oy
 cases e
 cases hx with
 | tup h1 h2 h3 =>
  cases hy with
  | tup k1 k2 k3 =>
   have hne:=fun z=>huv (congrArg Value.ref z)
   rw [D.eqn]
   by_cases hl:xs.length=ys.length
   ·have e0:(xs.length == ys.length)=true:=by simp [hl]
    obtain⟨e,he⟩:∃ e:Nat→Bool,∀ j (j1:j < xs.length) (j2:j < ys.length),e j=D.eqn n xs[j] ys[j]:=⟨fun j=>if h:j < xs.length∧j < ys.length then D.eqn n xs[j] ys[j]else true,fun j j1 j2=>by simp only [j1,j2,and_self,dif_pos]⟩
    rw [e0,Bool.true_and,← range_all (n:=n) (g:=fun _=>true) hl e he]
    have T:EqTree P w s (n+1+1) _ _ _:=.tuples (e:=e) hne h1 k1 fun j j1 j2=>by
     have j3:j < xs.length:=by omega
     have j4:j < ys.length:=by omega
     rw [he j j3 j4]
     exact ih _ _ _ _ (om _ (List.getElem_mem j3)) (oy' _ (List.getElem_mem j4)) (h3 j j3 j1) (k3 j j4 j2)
    rw [h2,k2,← hl,Nat.min_self,beq_self_eq_true,Bool.and_true]at T
    exact T
   ·have e0:(xs.length == ys.length)=false:=by simp [hl]
    obtain⟨e,he⟩:∃ e:Nat→Bool,∀ j (j1:j < xs.length) (j2:j < ys.length),e j=D.eqn n xs[j] ys[j]:=⟨fun j=>if h:j < xs.length∧j < ys.length then D.eqn n xs[j] ys[j]else true,fun j j1 j2=>by simp only [j1,j2,and_self,dif_pos]⟩
    have T:EqTree P w s (n+1+1) _ _ _:=.tuples (e:=e) hne h1 k1 fun j j1 j2=>by
     have j3:j < xs.length:=by omega
     have j4:j < ys.length:=by omega
     rw [he j j3 j4]
     exact ih _ _ _ _ (om _ (List.getElem_mem j3)) (oy' _ (List.getElem_mem j4)) (h3 j j3 j1) (k3 j j4 j2)
    rw [h2,k2,e0,Bool.and_false]at T
    rw [e0,Bool.false_and]
    exact T
theorem xP {α β:Type}{f:α→Bool}{g:β→Bool}:∀ {xs:List α}{ys:List β},xs.length=ys.length→(∀ j (h1:j < xs.length) (h2:j < ys.length),f xs[j]=g ys[j])→xs.all f=ys.all g
 | [],[],_,_=>rfl
 | x::xs,y::ys,hl,h=>by
  rw [List.all_cons,List.all_cons,show f x=g y from h 0 (by simp) (by simp),xP (xs:=xs) (ys:=ys) (by simpa using hl) fun j j1 j2=>h (j+1) (by simpa using j1) (by simpa using j2)]
def kD:Key→D
 | .inl i=>.int i
 | .inr x=>.str x
theorem vF (k:Key):keyOf (kD k)=some k:=by cases k <;> rfl
theorem DE {d:D}{k:Key} (h:keyOf d=some k):d=kD k:=tu h (vF k)
theorem qf {k:Key}:∀ {ls ws:List D}{kb:List (Key×Value)},keysOf ls=some (kb.map (·.1))→ls.length=ws.length →
  (valueAt kb k=none∧bK (kD k) ls ws=none)∨∃ (j:Nat) (h1:j < kb.length) (h2:j < ws.length),valueAt kb k=some kb[j].2∧kb[j].1=k∧bK (kD k) ls ws=some ws[j]
 | [],ws,kb,e,hl=>by
  rw [keysOf]at e
  injection e with e
  cases kb with
  | nil=>exact .inl ⟨rfl,rfl⟩
  | cons p kb=>cases e
 | l::ls,[],kb,e,hl=>by cases hl
 | l::ls,x::ws,kb,e,hl=>by
  rw [keysOf]at e
  cases e1:keyOf l with
  | none=>rw [e1]at e; cases e
  | some j =>
   cases e2:keysOf ls with
   | none=>rw [e1,e2]at e; cases e
   | some jr =>
    rw [e1,e2]at e
    injection e with e
    cases kb with
    | nil=>cases e
    | cons p kb =>
     obtain⟨pk,pv⟩:=p
     rw [List.map_cons]at e
     injection e with ej er
     have ej:j=pk:=ej
     subst ej
     have el:=DE e1
     by_cases hk:j=k
     ·subst hk
      refine .inr ⟨0,by simp,by simp,?_,rfl,?_⟩
      ·simp [valueAt]
      ·show(if keyOf l=keyOf (kD j)∧aI l=aI (kD j)then some x else bK (kD j) ls ws)=some x
       rw [if_pos ⟨by rw [el],by rw [el]⟩]
     ·have hv:valueAt ((j,pv)::kb) k=valueAt kb k:=by simp [valueAt,hk]
      have hd:bK (kD k) (l::ls) (x::ws)=bK (kD k) ls ws:=by
       show(if keyOf l=keyOf (kD k)∧aI l=aI (kD k)then some x else bK (kD k) ls ws)=_
       rw [if_neg fun z=>hk (by rw [e1,vF]at z; exact Option.some.inj z.1)]
      rw [hv,hd]
      rw [er]at e2
      rcases qf (k:=k) (ls:=ls) (ws:=ws) (kb:=kb) e2 (by simpa using hl)with q | ⟨i,h1,h2,q1,q2,q3⟩
      ·exact .inl q
      ·exact .inr ⟨i+1,by simpa using h1,by simpa using h2,by simpa using q1,by simpa using q2,by simpa using q3⟩
theorem qH:∀ {ks:List D}{js:List Key},keysOf ks=some js→∀ j (h1:j < ks.length) (h2:j < js.length),ks[j]=kD js[j]
 | [],js,h,j,h1,_=>by simp at h1
 | a::ks,js,h,j,h1,h2=>by
  rw [keysOf]at h
  cases e1:keyOf a with
  | none=>rw [e1]at h; cases h
  | some k =>
   cases e2:keysOf ks with
   | none=>rw [e1,e2]at h; cases h
   | some jr =>
    rw [e1,e2]at h
    injection h with h
    subst h
    cases j with
    | zero=>exact DE e1
    | succ j=>exact qH e2 j (by simpa using h1) (by simpa using h2)
def eK (n:Nat) (ks xs ls ys:List D) (k:Key):Bool:=match bK (kD k) ks xs,bK (kD k) ls ys with
 | some x,some y=>D.eqn n x y
 | _,_=>true
theorem DF {n:Nat}{ks xs ls ys:List D}{k:Key}{x y:D} (h1:bK (kD k) ks xs=some x) (h2:bK (kD k) ls ys=some y):eK n ks xs ls ys k=D.eqn n x y:=by
 unfold eK
 rw [h1,h2]
theorem tv {P:Program}{w:World}{s:Shared}{n:Nat} (ih:∀ (x y:D) (u v:Value),D.okn n x=true→D.okn n y=true→jt P w s x u→jt P w s y v→EqTree P w s (n+1) u v (D.eqn n x y)) {ks xs ls ys:List D}{u v:Value}
  (ox:D.okn (n+1) (.dic ks xs)=true) (oy:D.okn (n+1) (.dic ls ys)=true) (hx:jt P w s (.dic ks xs) u) (hy:jt P w s (.dic ls ys) v) :
  ∃ (a b:Addr) (ka kb:List (Key×Value)) (g:Key→Bool),u = .ref a∧v = .ref b∧(a == sysModules)=false∧(b == sysModules)=false∧s.heap.DictOf (mixKind P w) a ka∧s.heap.DictOf (mixKind P w) b kb ∧
   (∀ k v y,(k,v)∈ka→valueAt kb k=some y→EqTree P w s (n+1) v y (g k))∧(ka.length == kb.length&&ka.all fun p=>(valueAt kb p.1).isSome&&g p.1)=D.eqn (n+1) (.dic ks xs) (.dic ls ys):=by
 obtain⟨m,jx,e,ekx,ndx,lx,om⟩:=nN ox
 cases e
 obtain⟨m,jy,e,eky,ndy,ly,oy'⟩:=nN oy
 cases e
 cases hx with
 | dic h1 h2 h3 h4 h5 h6 h7 =>
  rename_i a es nn js ka
  cases hy with
  | dic k1 k2 k3 k4 k5 k6 k7 =>
   rename_i b es2 JZ js2 kb
   rw [ekx]at h4
   cases h4
   rw [eky]at k4
   cases k4
   have la:ka.length=ks.length:=by rw [← ju ekx,← h5,List.length_map]
   have lb:kb.length=ls.length:=by rw [← ju eky,← k5,List.length_map]
   have T:∀ k v y,(k,v)∈ka→valueAt kb k=some y→EqTree P w s (n+1) v y (eK n ks xs ls ys k):=fun k v y hm hv=>by
    obtain⟨j,hj,ej⟩:=List.getElem_of_mem hm
    have eka:=ekx; rw [← h5]at eka
    have ekb:=eky; rw [← k5]at ekb
    rcases qf (k:=k) eka lx with⟨q,_⟩ | ⟨i,i1,i2,q1,q2,q3⟩
    ·exfalso
     simp only [valueAt,Option.map_eq_none_iff,List.find?_eq_none]at q
     exact q (k,v) hm (by simp)
    ·have hij:i=j:=by
      have z1:(ka.map (·.1))[i]'(by simpa using i1)=(ka.map (·.1))[j]'(by simpa using hj):=by simp [q2,ej]
      have nd:(ka.map (·.1)).Nodup:=by rw [h5]; exact ndx
      exact(List.getElem_inj nd).mp z1
     subst hij
     rcases qf (k:=k) ekb ly with⟨r,_⟩ | ⟨i',r1,r2,r3,r4,r5⟩
     ·rw [r]at hv; cases hv
     ·rw [r3]at hv
      injection hv with hv
      rw [DF q3 r5]
      have s1:=h7 i i2 i1
      have s2:=k7 i' r2 r1
      rw [ej]at s1
      rw [hv]at s2
      exact ih _ _ _ _ (om _ (List.getElem_mem i2)) (oy' _ (List.getElem_mem r2)) s1 s2
   rw [D.eqn]
   have ee:(ka.all fun p=>(valueAt kb p.1).isSome&&eK n ks xs ls ys p.1)=(ks.zip xs).all fun p=>match bK p.1 ls ys with
     | some y=>D.eqn n p.2 y
     | none=>false:=by
    refine xP (by rw [List.length_zip,← lx,Nat.min_self,la]) fun j j1 j2=>?_
    have j3:j < ks.length:=by omega
    have j4:j < xs.length:=by omega
    rw [List.getElem_zip]
    have eka:=ekx; rw [← h5]at eka
    have ekb:=eky; rw [← k5]at ekb
    have kj:=qH eka j j3 (by simpa using j1)
    rw [List.getElem_map]at kj
    show((valueAt kb ka[j].1).isSome&&eK n ks xs ls ys ka[j].1)=match bK ks[j] ls ys with
     | some y=>D.eqn n xs[j] y
     | none=>false
    have lk:bK (kD ka[j].1) ks xs=some xs[j]:=by
     rw [← kj]
     refine mY ekx ndx lx ?_
     have:=List.getElem_mem (l:=ks.zip xs) (n:=j) (by rw [List.length_zip]; omega)
     rwa [List.getElem_zip]at this
    rw [kj]
    rcases qf (k:=ka[j].1) ekb ly with⟨r,r'⟩ | ⟨i',r1,r2,r3,r4,r5⟩
    ·rw [r,r']; rfl
    ·rw [r3,r5]
     show(true&&eK n ks xs ls ys ka[j].1)=D.eqn n xs[j] ys[i']
     rw [Bool.true_and,DF lk r5]
   refine⟨a,b,ka,kb,_,rfl,rfl,h3,k3,h2,k2,T,?_⟩
   rw [la,lb,ee]
   first | done | rfl
theorem zY {P:Program}{w:World}{s:Shared}{n:Nat} (ih:∀ (x y:D) (u v:Value),D.okn n x=true→D.okn n y=true→jt P w s x u→jt P w s y v→EqTree P w s (n+1) u v (D.eqn n x y)) {ks xs ls ys:List D}{u v:Value}
  (ox:D.okn (n+1) (.dic ks xs)=true) (oy:D.okn (n+1) (.dic ls ys)=true) (hx:jt P w s (.dic ks xs) u) (hy:jt P w s (.dic ls ys) v):EqTree P w s (n+1+1) u v (D.eqn (n+1) (.dic ks xs) (.dic ls ys)):=by
 by_cases huv:u=v
 ·subst huv
  rw [← mz _ _ _ _ ox hx hy,qG _ _ ox]
  exact .same
 obtain⟨a,b,ka,kb,g,rfl,rfl,s1,s2,d1,d2,T,er⟩:=tv ih ox oy hx hy
 rw [← er]
 exact .dicts (fun z=>huv (congrArg Value.ref z)) s1 s2 d1 d2 T
theorem nO {P:Program}{w:World}{s:Shared}:∀ (n:Nat) (x y:D) (u v:Value),D.okn n x=true→D.okn n y=true→jt P w s x u→jt P w s y v→EqTree P w s (n+1) u v (D.eqn n x y)
 | 0,x,y,u,v,ox,oy,hx,hy=>by
  have e:D.eqn 0 x y=D.eqd x y:=by simp only [D.eqn]
  rw [e]
  refine vB hx hy (fun A h=>by omega) ⟨fun xs ys z=>?_,fun xs ys z=>?_,fun a b c d z=>?_⟩ <;> (rw [z.1]at ox; simp [D.okn]at ox)
 | n+1,x,y,u,v,ox,oy,hx,hy=>by
  have ih:=nO (P:=P) (w:=w) (s:=s) n
  by_cases c1:∃ xs ys,x = .lst xs∧y = .lst ys
  ·obtain⟨xs,ys,rfl,rfl⟩:=c1
   exact zW ih ox oy hx hy
  by_cases c2:∃ xs ys,x = .tup xs∧y = .tup ys
  ·obtain⟨xs,ys,rfl,rfl⟩:=c2
   exact zX ih ox oy hx hy
  by_cases c3:∃ a b c d,x = .dic a b∧y = .dic c d
  ·obtain⟨a,b,c,d,rfl,rfl⟩:=c3
   exact zY ih ox oy hx hy
  have c1:∀ xs ys,¬ (x = .lst xs∧y = .lst ys):=fun xs ys z=>c1 ⟨xs,ys,z⟩
  have c2:∀ xs ys,¬ (x = .tup xs∧y = .tup ys):=fun xs ys z=>c2 ⟨xs,ys,z⟩
  have c3:∀ a b c d,¬ (x = .dic a b∧y = .dic c d):=fun a b c d z=>c3 ⟨a,b,c,d,z⟩
  have e:D.eqn (n+1) x y=D.eqd x y:=by
   cases x with
   | tup xs =>
    cases y with
    | tup ys=>exact(c2 xs ys ⟨rfl,rfl⟩).elim
    | _=>simp only [D.eqn]
   | lst xs =>
    cases y with
    | lst ys=>exact(c1 xs ys ⟨rfl,rfl⟩).elim
    | _=>simp only [D.eqn]
   | dic a b =>
    cases y with
    | dic c d=>exact(c3 a b c d ⟨rfl,rfl⟩).elim
    | _=>simp only [D.eqn]
   | _=>simp only [D.eqn]
  rw [e]
  exact vB hx hy (fun A h=>by omega) ⟨c1,c2,c3⟩
end PV
namespace PV
open PySem PySem.Spec PyProof.Rows L2
open PySem.SeqAt (EqAt fk)
open PySem.W (EqTree)
section
variable {T:Tab}{B:Base}{X:Cx}{σ:L2.St}{l m:List aW}{H:Hp}{pins:List (Addr×Obj)}{s:Shared}{hs:List Addr}
theorem kv_get:∀ {js:List Key}{ws:List V}{vs:List (Key×Value)},KV (js.zip ws) vs→js.length=ws.length→vs.map (·.1)=js∧∀ j (h1:j < ws.length) (h2:j < vs.length),RelV ws[j] vs[j].2
 | [],[],vs,h,_=>by
  have h:KV ([]:List (Key×V)) vs:=h
  rw [w6 h]
  exact⟨rfl,fun j h1=>by simp at h1⟩
 | [],_::_,vs,_,hl=>by cases hl
 | _::_,[],vs,_,hl=>by cases hl
 | j::js,w::ws,vs,h,hl=>by
  cases h with
  | cons r1 r2 =>
   obtain⟨q1,q2⟩:=kv_get r2 (by simpa using hl)
   refine⟨by rw [List.map_cons,q1,← r1.1],fun i h1 h2=>?_⟩
   cases i with
   | zero=>exact r1.2
   | succ i=>exact q2 i (by simpa using h1) (by simpa using h2)
theorem qg {own:Addr→Prop}{h:Hp}:∀ {xs:List D}{vs:List V},lP T own h xs vs→xs.length=vs.length∧∀ j (h1:j < xs.length) (h2:j < vs.length),Dr T own h xs[j] vs[j]
 | [],vs,e=>by
  have e:vs = []:=e
  subst e
  exact⟨rfl,fun j h1=>by simp at h1⟩
 | x::xs,vs,e=>by
  obtain⟨v,r,rfl,e1,e2⟩:=e
  obtain⟨q1,q2⟩:=qg e2
  refine⟨by simp [q1],fun j h1 h2=>?_⟩
  cases j with
  | zero=>exact e1
  | succ j=>exact q2 j (by simpa using h1) (by simpa using h2)
theorem uA:∀ {vs:List V}{us:List Value},Vals vs us→∀ j (h1:j < vs.length) (h2:j < us.length),RelV vs[j] us[j]
 | _,_,.nil,j,h1,_=>by simp at h1
 | _,_,.cons r t,0,_,_=>r
 | _,_,.cons r t,j+1,h1,h2=>uA t j (by simpa using h1) (by simpa using h2)
theorem mZ (hK:X.K=T.K) (I:Inv X pins σ H s) (sa:ae T B H hs l):∀ (n:Nat) (d:D) (v:V) (u:Value),D.okn n d=true→Dr T (fun _=>False) (vw B.Z H) d v→RelV v u→jt X.prog X.w s d u
 | _,.non,v,u,_,e,r=>by
  have e:v = .non:=e
  subst e
  cases (show u=Value.none from r)
  exact .non
 | _,.bl b,v,u,_,e,r=>by
  have e:v = .bl b:=e
  subst e
  cases (show u=Value.bool b from r)
  exact .bl b
 | _,.int i,v,u,_,e,r=>by
  have e:v = .int i:=e
  subst e
  obtain⟨t,rfl⟩:=(show ∃ t,u=Value.int i t from r)
  exact .int i t
 | _,.str z,v,u,_,e,r=>by
  have e:v = .str z:=e
  subst e
  obtain⟨t,rfl⟩:=(show ∃ t,u=Value.str z t from r)
  exact .str z t
 | 0,.tup xs,v,u,h,e,r=>by simp [D.okn]at h
 | 0,.lst xs,v,u,h,e,r=>by simp [D.okn]at h
 | 0,.dic ks xs,v,u,h,e,r=>by simp [D.okn]at h
 | n+1,.tup xs,v,u,h,e,r=>by
  obtain⟨a,vs,rfl,h1,h2⟩:=DB sa e
  cases (show u=Value.ref a from r)
  obtain⟨m,em,om⟩:=kJ h
  cases em
  obtain⟨q1,q2⟩:=qg h2
  obtain⟨its,rv,p,hz⟩:=I.tuple (by rw [hK]; exact h1)
  have hl:=rv.length
  refine .tup (its:=its.toArray) p (by simp; omega) fun j j1 j2=>?_
  have j3:j < its.length:=by simpa using j2
  have j4:j < vs.length:=by omega
  have:=mZ hK I sa n xs[j] vs[j] its[j] (om _ (List.getElem_mem j1)) (q2 j j1 j4) (uA rv j j4 j3)
  simpa using this
 | n+1,.lst xs,v,u,h,e,r=>by
  obtain⟨a,vs,rfl,h1,h2⟩:=vz sa e
  cases (show u=Value.ref a from r)
  obtain⟨m,em,om⟩:=kI h
  cases em
  obtain⟨q1,q2⟩:=qg h2
  obtain⟨its,rv,p,hz⟩:=I.list (by rw [hK]; exact h1)
  have hl:=rv.length
  refine .lst (its:=its.toArray) p.isList (by simp; omega) fun j j1 j2=>?_
  have j3:j < its.length:=by simpa using j2
  have j4:j < vs.length:=by omega
  have:=mZ hK I sa n xs[j] vs[j] its[j] (om _ (List.getElem_mem j1)) (q2 j j1 j4) (uA rv j j4 j3)
  simpa using this
 | n+1,.dic ks xs,v,u,h,e,r=>by
  obtain⟨a,ws,rfl,dr,h2⟩:=qB sa e
  cases (show u=Value.ref a from r)
  obtain⟨m,js,em,ek,nd,lx,om⟩:=nN h
  cases em
  obtain⟨q1,q2⟩:=qg h2
  obtain⟨es,nn,ho⟩:=ux I dr
  have fin:∀ kvs:List (Key×Value),s.heap.DictOf (mixKind X.prog X.w) a kvs→(a == sysModules)=false→kvs.map (·.1)=js→(∀ j (h1:j < ws.length) (h2:j < kvs.length),RelV ws[j] kvs[j].2)→jt X.prog X.w s (.dic ks xs) (.ref a):=by
   intro kvs d hsm e1 e2
   refine .dic ho d hsm ek e1 lx fun j j1 j2=>?_
   have j4:j < ws.length:=by omega
   exact mZ hK I sa n xs[j] ws[j] kvs[j].2 (om _ (List.getElem_mem j1)) (q2 j j1 j4) (e2 j j4 j2)
  rcases dr with⟨js',e1,rd,e3⟩ | ⟨js',e1,rd,e3⟩
  ·rw [ek]at e1
   cases e1
   obtain⟨_,hsm,vs,kv,d⟩:=dk_rd I.hok rd
   obtain⟨g1,g2⟩:=kv_get kv e3
   exact fin vs d hsm g1 g2
  ·cases ks with
   | nil =>
    rw [aM]at e1
    cases e1
    rw [keysOf]at ek
    cases ek
    obtain⟨d,hsm⟩:=iN I rd
    refine fin [] d hsm rfl fun j h1 h2=>by simp at h2
   | cons k ks =>
    have a1:=eL e1 k List.mem_cons_self
    have a2:=kn ek k List.mem_cons_self
    cases z:keyOf k with
    | none=>rw [z]at a2; cases a2
    | some kk=>rw [cR z]at a1; cases a1
 | _+1,.obj _ _ _,v,u,h,e,r=>by simp [D.okn]at h
 | _+1,.exc _ _,v,u,h,e,r=>by simp [D.okn]at h
 | 0,.obj _ _ _,v,u,h,e,r=>by simp [D.okn]at h
 | 0,.exc _ _,v,u,h,e,r=>by simp [D.okn]at h
end
end PV
namespace PV
open PySem PySem.SeqAt PySem.W
open AutoSeq1 (wpAny_loadPart')
open MeetsSeq MeetsSeq2 MeetsSeq3 SeqRoads2
section
variable {P:Program}{w:World}
theorem Iv (p q:Addr) (ia ib:Array Value) (na nb:Nat) (xd yd:Option Addr) (xs ys:Array (Option Value)) (hz:ia.size=ib.size) (g:Nat→Bool) (m:Nat) :
  ∀ c:Nat,ia.size - c=m→MeetsIn P w (Builtin.«list.__eq__.loop» ⟨[.ref p,.ref q,rawInt c,rawInt 3],[]⟩) (fun A R s =>
   s.heap.get? p=some {cls:=.type "list",dict:=xd,data:=.seq ia na,slots:=xs}∧s.heap.get? q=some {cls:=.type "list",dict:=yd,data:=.seq ib nb,slots:=ys} ∧
    (∀ j (j1:j < ia.size) (j2:j < ib.size),EqIn P w A.in1 s ia[j] ib[j] (g j))∧R (.ok (.ret (.bool (!((List.range ia.size).drop c).all g)))) s):=by
 induction m with
 | zero =>
  intro c hc A R s z
  obtain⟨hp,gs,dd,tk,os⟩:=s; obtain⟨zp,zq,zi,z⟩:=z
  wp_walk using wpAny_loadPart' zp,wpAny_loadPart' zq
  have n1:ia[((c:Nat):Int).toNat]?=none:=by simp; omega
  have n2:ib[((c:Nat):Int).toNat]?=none:=by simp; omega
  have n3:(List.range ia.size).drop c = []:=by simp; omega
  rw [n3]at z
  rw [n1,n2]
  wp_walk using wpAny_loadPart' zp,wpAny_loadPart' zq
  show R (.ok (.ret (.bool (ia.size != ib.size)))) _
  rw [hz]
  simpa using z
 | succ m ih =>
  intro c hc A R s z
  obtain⟨hp,gs,dd,tk,os⟩:=s; obtain⟨zp,zq,zi,z⟩:=z
  wp_walk using wpAny_loadPart' zp,wpAny_loadPart' zq
  have c1:c < ia.size:=by omega
  have c2:c < ib.size:=by omega
  have n1:ia[((c:Nat):Int).toNat]?=some ia[c]:=by simp [c1]
  have n2:ib[((c:Nat):Int).toNat]?=some ib[c]:=by simp [c2]
  have n3:(List.range ia.size).drop c=c::(List.range ia.size).drop (c+1):=by simp [List.drop_eq_getElem_cons,c1]
  have n4:((c:Int)+1)=((c+1:Nat):Int):=by push_cast; rfl
  rw [n3,List.all_cons]at z
  rw [n1,n2]
  refine wpAny_bind (zi c c1 c2 _ _ ?_)
  cases gc:g c with
  | true =>
   rw [gc]at z
   wp_walk
   rw [n4]
   refine⟨plainId_quiet plain_eq_loop _,codeAny_builtin entry_eq_loop ?_⟩
   rw [Around.under_plainId plain_eq_loop _]
   exact ih (c+1) (by omega) A R _ ⟨zp,zq,zi,by simpa using z⟩
  | false =>
   rw [gc]at z
   wp_walk using wpAny_loadPart' zp,wpAny_loadPart' zq
   rw [n1,n2]
   wp_walk
   simpa using z
theorem Iw (p q:Addr) (ia ib:Array Value) (na nb:Nat) (xd yd:Option Addr) (xs ys:Array (Option Value)) (hz:ia.size=ib.size) (g:Nat→Bool) :
  MeetsIn P w (Builtin.«list.__ne__» ⟨[.ref p,.ref q],[]⟩) (fun A R s=>s.heap.get? p=some {cls:=.type "list",dict:=xd,data:=.seq ia na,slots:=xs} ∧
   s.heap.get? q=some {cls:=.type "list",dict:=yd,data:=.seq ib nb,slots:=ys}∧(∀ j (j1:j < ia.size) (j2:j < ib.size),EqIn P w A.in1 s ia[j] ib[j] (g j))∧R (.ok (.ret (.bool (!(List.range ia.size).all g)))) s):=by
 intro A R s z
 obtain⟨hp,gs,dd,tk,os⟩:=s; obtain⟨zp,zq,zi,z⟩:=z
 have sl:=AutoSeq1.sub_list_list
 have nz:¬ (ia.size != ib.size)=true:=by simp [hz]
 wp_walk using wpAny_loadPart' zp,wpAny_loadPart' zq
 refine⟨plainId_quiet plain_eq_loop _,codeAny_builtin entry_eq_loop ?_⟩
 rw [Around.under_plainId plain_eq_loop _]
 exact Iv p q ia ib na nb xd yd xs ys hz g _ 0 rfl A R _ ⟨zp,zq,zi,by simpa using z⟩
theorem yW {A:Around}{E:Value→Shared→Prop}{s:Shared}{n:Nat}{p q:Addr}{ia ib:Array Value}{g:Nat→Bool}{Q:Value→Shared→Prop} (lp:s.heap.IsList p ia) (lq:s.heap.IsList q ib) (hz:ia.size=ib.size)
  (t:∀ j (j1:j < ia.size) (j2:j < ib.size),EqTree P w s n ia[j] ib[j] (g j)) (hu:A.units+(n+1) < cLine) (h:Q (.bool (!(List.range ia.size).all g)) s):wpAny (model P w) A (compareOp .NotEq (.ref p) (.ref q)) Q E s:=by
 obtain⟨⟨c1,d1,t1,l1⟩,hp,ec,na,ed⟩:=id lp
 obtain⟨⟨c2,d2,t2,l2⟩,hq,ec2,nb,ed2⟩:=id lq
 simp only at ec ed ec2 ed2
 subst ec ed ec2 ed2
 refine wpAny_richCompare_same_room (T := "list") (op:=.NotEq) ⟨_,hp,rfl⟩ ⟨_,hq,rfl⟩ F.slot_list_ne (call_meetsIn F.slot_list_ne ⟨_,hp,rfl⟩ F.entry_list_ne (F.args_list_ne_2 _ _) (Iw p q ia ib na nb d1 d2 l1 l2 hz g) ?_) (by omega)
 refine⟨hp,hq,fun j j1 j2=>(t j j1 j2).at A.in1 (by show A.units+1+_ < cLine; omega),?_⟩
 exact⟨(fun x=>nomatch x),h⟩
theorem yX {A:Around}{E:Value→Shared→Prop}{s:Shared}{K:Type} [DecidableEq K] {knd:KeyKind P w K}{n:Nat}{p q:Addr}{ka kb:List (K×Value)}{g:K→Bool}{Q:Value→Shared→Prop} (sp:(p == sysModules)=false) (sq:(q == sysModules)=false)
  (dp:s.heap.DictOf knd p ka) (dq:s.heap.DictOf knd q kb) (t:∀ k v y,(k,v)∈ka→valueAt kb k=some y→EqTree P w s n v y (g k)) (hu:A.units+(n+1) < cLine)
  (h:Q (.bool (!(ka.length == kb.length&&ka.all fun z=>(valueAt kb z.1).isSome&&g z.1))) s):wpAny (model P w) A (compareOp .NotEq (.ref p) (.ref q)) Q E s:=by
 have row:=PySem.F.slot_dict_ne
 refine wpAny_richCompare_same_room (op:=.NotEq) dp.typeIs dq.typeIs row (wpAny_call_entry row dp.typeIs PySem.F.entry_dict_ne ?_ (PySem.F.args_dict_ne_2 _ _)) (by omega)
 show wpAny _ _ (Builtin.Dict.dictSlotArgs "__ne__" ⟨[.ref p,.ref q],[]⟩ >>= _) _ _ s
 refine wpAny_bind ?_
 unfold Builtin.Dict.dictSlotArgs
 refine wpAny_bind (wpAny_notOrdered_dict dp.typeIs ?_)
 refine wpAny_pure ?_
 refine wpAny_bind (wpAny_isInstance (T := "dict") dq.typeIs PySem.F.sub_dict_dict ?_)
 simp only [Bool.not_true,Bool.false_eq_true,if_false]
 refine wpAny_bind (wpAny_pure (wpAny_bind (wpAny_pure ?_)))
 refine wpAny_bind (keq_samePairsIn sp sq dp dq (fun _=>KeqHitsIn.of _ fun k v y hm hv=>(t k v y hm hv).at A.in1 (by show A.units+1+_ < cLine; omega)) ?_)
 refine wpAny_pure ⟨_,rfl,?_,?_⟩
 ·exact fun x=>nomatch x
 ·simpa using h
end
end PV
namespace PV
open PySem PySem.Spec PyProof.Rows L2
open PySem.W (EqTree)
section
variable {P:Program}{w:World}{A:Around}{E:Value→Shared→Prop}{s:Shared}{Q:Value→Shared→Prop}
theorem tw {n:Nat}{xs ys:List D}{u v:Value} (ox:D.okn (n+1) (.lst xs)=true) (oy:D.okn (n+1) (.lst ys)=true) (hx:jt P w s (.lst xs) u) (hy:jt P w s (.lst ys) v) (hu:A.units+(n+2) < cLine) :
  (Q (.bool (D.eqn (n+1) (.lst xs) (.lst ys))) s→wpAny (model P w) A (compareOp .Eq u v) Q E s)∧(Q (.bool (! D.eqn (n+1) (.lst xs) (.lst ys))) s→wpAny (model P w) A (compareOp .NotEq u v) Q E s):=by
 obtain⟨m,e,om⟩:=kI ox
 cases e
 obtain⟨m,e,oy'⟩:=kI oy
 cases e
 cases hx with
 | lst h1 h2 h3 =>
  cases hy with
  | lst k1 k2 k3 =>
   rename_i a ia b ib
   rw [D.eqn]
   by_cases hl:xs.length=ys.length
   ·have e0:(xs.length == ys.length)=true:=by simp [hl]
    obtain⟨e,he⟩:∃ e:Nat→Bool,∀ j (j1:j < xs.length) (j2:j < ys.length),e j=D.eqn n xs[j] ys[j]:=⟨fun j=>if h:j < xs.length∧j < ys.length then D.eqn n xs[j] ys[j]else true,fun j j1 j2=>by simp only [j1,j2,and_self,dif_pos]⟩
    rw [e0,Bool.true_and,← range_all (n:=n) (g:=fun _=>true) hl e he,← h2]
    have T:∀ j (j1:j < ia.size) (j2:j < ib.size),EqTree P w s (n+1) ia[j] ib[j] (e j):=fun j j1 j2=>by
     have j3:j < xs.length:=by omega
     have j4:j < ys.length:=by omega
     rw [he j j3 j4]
     exact nO n _ _ _ _ (om _ (List.getElem_mem j3)) (oy' _ (List.getElem_mem j4)) (h3 j j3 j1) (k3 j j4 j2)
    exact⟨fun q=>PySem.W.eq_listsT h1 k1 (by omega) T (by omega) q,fun q=>yW h1 k1 (by omega) T (by omega) q⟩
   ·have e0:(xs.length == ys.length)=false:=by simp [hl]
    have e1:(ia.size != ib.size)=true:=by simp; omega
    rw [e0,Bool.false_and]
    exact⟨fun q=>PySem.SeqAt.eq_list_lengthsAt h1 k1 e1 (by omega) q,fun q=>PySem.SeqAt.RcNeAt.lists_lengths h1 k1 e1 (by omega) P w _ _ q⟩
theorem w8 {n:Nat}{xs ys:List D}{u v:Value} (ox:D.okn (n+1) (.tup xs)=true) (oy:D.okn (n+1) (.tup ys)=true) (hx:jt P w s (.tup xs) u) (hy:jt P w s (.tup ys) v) (hu:A.units+(n+2) < cLine)
  (q:Q (.bool (D.eqn (n+1) (.tup xs) (.tup ys))) s):wpAny (model P w) A (compareOp .Eq u v) Q E s:=by
 obtain⟨m,e,om⟩:=kJ ox
 cases e
 obtain⟨m,e,oy'⟩:=kJ oy
 cases e
 cases hx with
 | tup h1 h2 h3 =>
  cases hy with
  | tup k1 k2 k3 =>
   rename_i a ia b ib
   rw [D.eqn]at q
   obtain⟨e,he⟩:∃ e:Nat→Bool,∀ j (j1:j < xs.length) (j2:j < ys.length),e j=D.eqn n xs[j] ys[j]:=⟨fun j=>if h:j < xs.length∧j < ys.length then D.eqn n xs[j] ys[j]else true,fun j j1 j2=>by simp only [j1,j2,and_self,dif_pos]⟩
   have T:∀ j (j1:j < ia.size) (j2:j < ib.size),EqTree P w s (n+1) ia[j] ib[j] (e j):=fun j j1 j2=>by
    have j3:j < xs.length:=by omega
    have j4:j < ys.length:=by omega
    rw [he j j3 j4]
    exact nO n _ _ _ _ (om _ (List.getElem_mem j3)) (oy' _ (List.getElem_mem j4)) (h3 j j3 j1) (k3 j j4 j2)
   refine PySem.W.eq_tuplesT h1 k1 T (by omega) ?_
   by_cases hl:xs.length=ys.length
   ·have e0:(xs.length == ys.length)=true:=by simp [hl]
    rw [e0,Bool.true_and,← range_all (n:=n) (g:=fun _=>true) hl e he]at q
    rw [h2,k2,← hl,Nat.min_self,beq_self_eq_true,Bool.and_true]
    exact q
   ·have e0:(xs.length == ys.length)=false:=by simp [hl]
    rw [e0,Bool.false_and]at q
    rw [h2,k2,e0,Bool.and_false]
    exact q
theorem tF {n:Nat}{ks xs ls ys:List D}{u v:Value} (ox:D.okn (n+1) (.dic ks xs)=true) (oy:D.okn (n+1) (.dic ls ys)=true) (hx:jt P w s (.dic ks xs) u) (hy:jt P w s (.dic ls ys) v) (hu:A.units+(n+2) < cLine) :
  (Q (.bool (D.eqn (n+1) (.dic ks xs) (.dic ls ys))) s→wpAny (model P w) A (compareOp .Eq u v) Q E s)∧(Q (.bool (! D.eqn (n+1) (.dic ks xs) (.dic ls ys))) s→wpAny (model P w) A (compareOp .NotEq u v) Q E s):=by
 obtain⟨a,b,ka,kb,g,rfl,rfl,s1,s2,d1,d2,T,er⟩:=tv (fun x y u v=>nO n x y u v) ox oy hx hy
 rw [← er]
 exact⟨fun q=>PySem.W.eq_dictsT s1 s2 d1 d2 T (by omega) q,fun q=>yX s1 s2 d1 d2 T (by omega) q⟩
end
end PV
namespace PV
open PySem PySem.Spec PyProof.Rows L2
section
variable {T:Tab}{B:Base}{X:Cx}
theorem zZ {own:Addr→Prop}{h:Hp}:∀ {d:D},Dr T own h d .non→d = .non
 | .non,_=>rfl
 | .bl _,e=>nomatch (show V.non=V.bl _ from e)
 | .int _,e=>nomatch (show V.non=V.int _ from e)
 | .str _,e=>nomatch (show V.non=V.str _ from e)
 | .tup _,e=>by obtain⟨_,_,z,_⟩:=e; cases z
 | .lst _,e=>by obtain⟨_,_,z,_⟩:=e; cases z
 | .dic _ _,e=>by obtain⟨_,_,z,_⟩:=e; cases z
 | .obj _ _ _,e=>by obtain⟨_,_,_,z,_⟩:=e; cases z
 | .exc _ _,e=>by rcases e with⟨_,z⟩ | ⟨_,_,_,z,_⟩ <;> cases z
def qI:Cm→CmpOp
 | .eq=>.Eq | .ne=>.NotEq | .lt=>.Lt | .le=>.LtE | .gt=>.Gt | .ge=>.GtE | .is=>.Is | .isnot=>.IsNot | .isin=>.In | .notin=>.NotIn
section
variable {pins:List (Addr×Obj)}{s:Shared}{σ:L2.St}{H:Hp}{x y:V}{v u:Value}{Q:VK}{o p:O}{l:List aW}
theorem Gu (hK:X.K=T.K) (hu:X.A.units+200 < cLine) (I:Inv X pins σ H s) (rx:RelV x v) (ry:RelV y u) (sa:Sat T B H ((o,x)::(p,y)::l)) (hc:lL o.frz p.frz=true) (q:Q (.bl (D.eqd o.frz p.frz)) H):wpAny (model X.prog X.w) X.A (compareOp .Eq v u) (EP X pins σ Q) X.xe s:=by
 have hc:D.okd 150 o.frz=true∧D.okd 150 p.frz=true:=by simpa [lL]using hc
 have p1:=nM sa 150 _ _ hc.1 sa.read
 have p2:=nM sa 150 _ _ hc.2 sa.read2
 rw [← hK]at p1 p2
 obtain⟨as,r1⟩:=Dp.reads I _ x v p1 rx
 obtain⟨bs,r2⟩:=Dp.reads I _ y u p2 ry
 have k1:=gD 150 _ hc.1
 have k2:=gD 150 _ hc.2
 have km:min o.frz.toP.depth p.frz.toP.depth≤150:=Nat.le_trans (Nat.min_le_left _ _) k1.2
 refine PySem.SeqAt.eq_plain r1 r2 k1.1 k2.1 (by omega) ?_
 rw [qd 150 150 _ _ hc.1 hc.2]
 exact⟨.bl _,H,I,rfl,q⟩
theorem Gv (hK:X.K=T.K) (hu:X.A.units+200 < cLine) (I:Inv X pins σ H s) (rx:RelV x v) (ry:RelV y u) (sa:Sat T B H ((o,x)::(p,y)::l)) (hc:lL o.frz p.frz=true) (q:Q (.bl (! D.eqd o.frz p.frz)) H):wpAny (model X.prog X.w) X.A (compareOp .NotEq v u) (EP X pins σ Q) X.xe s:=by
 have hc:D.okd 150 o.frz=true∧D.okd 150 p.frz=true:=by simpa [lL]using hc
 have p1:=nM sa 150 _ _ hc.1 sa.read
 have p2:=nM sa 150 _ _ hc.2 sa.read2
 rw [← hK]at p1 p2
 obtain⟨as,r1⟩:=Dp.reads I _ x v p1 rx
 obtain⟨bs,r2⟩:=Dp.reads I _ y u p2 ry
 have k1:=gD 150 _ hc.1
 have k2:=gD 150 _ hc.2
 have km:min o.frz.toP.depth p.frz.toP.depth≤150:=Nat.le_trans (Nat.min_le_left _ _) k1.2
 refine PySem.SeqAt.ne_plain r1 r2 k1.1 k2.1 (by omega) ?_
 rw [qd 150 150 _ _ hc.1 hc.2]
 exact⟨.bl _,H,I,rfl,q⟩
theorem En (hK:X.K=T.K) (hu:X.A.units+200 < cLine) (I:Inv X pins σ H s) (rx:RelV x v) (ry:RelV y u) (sa:Sat T B H ((o,x)::(p,y)::l)) (hc:vv o.frz p.frz=true) (q:Q (.bl (D.eqn 140 o.frz p.frz)) H):wpAny (model X.prog X.w) X.A (compareOp .Eq v u) (EP X pins σ Q) X.xe s:=by
 have d1:=sa.read
 have d2:=sa.read2
 have go:∀ {a b:D},o.frz=a→p.frz=b→D.okn 140 a=true∧D.okn 140 b=true→jt X.prog X.w s a v∧jt X.prog X.w s b u:=fun {a b} ea eb ok=>by
  rw [ea]at d1
  rw [eb]at d2
  exact⟨mZ hK I sa 140 a x v ok.1 d1 rx,mZ hK I sa 140 b y u ok.2 d2 ry⟩
 have fin:EP X pins σ Q (.bool (D.eqn 140 o.frz p.frz)) s:=⟨.bl _,H,I,rfl,q⟩
 unfold vv at hc
 split at hc
 ·rename_i ea eb
  rw [Bool.and_eq_true,ea,eb]at hc
  rw [ea,eb]at fin
  exact(tw hc.1 hc.2 (go ea eb hc).1 (go ea eb hc).2 (by omega)).1 fin
 ·rename_i ea eb
  rw [Bool.and_eq_true,ea,eb]at hc
  rw [ea,eb]at fin
  exact w8 hc.1 hc.2 (go ea eb hc).1 (go ea eb hc).2 (by omega) fin
 ·rename_i ea eb
  rw [Bool.and_eq_true,ea,eb]at hc
  rw [ea,eb]at fin
  exact(tF hc.1 hc.2 (go ea eb hc).1 (go ea eb hc).2 (by omega)).1 fin
 ·cases hc
theorem Eo (hK:X.K=T.K) (hu:X.A.units+200 < cLine) (I:Inv X pins σ H s) (rx:RelV x v) (ry:RelV y u) (sa:Sat T B H ((o,x)::(p,y)::l)) (hc:tm o.frz p.frz=true) (q:Q (.bl (! D.eqn 140 o.frz p.frz)) H):wpAny (model X.prog X.w) X.A (compareOp .NotEq v u) (EP X pins σ Q) X.xe s:=by
 have d1:=sa.read
 have d2:=sa.read2
 have go:∀ {a b:D},o.frz=a→p.frz=b→D.okn 140 a=true∧D.okn 140 b=true→jt X.prog X.w s a v∧jt X.prog X.w s b u:=fun {a b} ea eb ok=>by
  rw [ea]at d1
  rw [eb]at d2
  exact⟨mZ hK I sa 140 a x v ok.1 d1 rx,mZ hK I sa 140 b y u ok.2 d2 ry⟩
 have fin:EP X pins σ Q (.bool (! D.eqn 140 o.frz p.frz)) s:=⟨.bl _,H,I,rfl,q⟩
 unfold tm at hc
 split at hc
 ·rename_i ea eb
  rw [Bool.and_eq_true,ea,eb]at hc
  rw [ea,eb]at fin
  exact(tw hc.1 hc.2 (go ea eb hc).1 (go ea eb hc).2 (by omega)).2 fin
 ·rename_i ea eb
  rw [Bool.and_eq_true,ea,eb]at hc
  rw [ea,eb]at fin
  exact(tF hc.1 hc.2 (go ea eb hc).1 (go ea eb hc).2 (by omega)).2 fin
 ·cases hc
theorem nP:∀ (n:Nat) {x:D} (ys:List D),D.okd 150 x=true→D.okdL n ys=true→((D.toPL ys).any fun y=>PyData.eqv y x.toP)=ys.any fun y=>D.eqd y x
 | _,_,[],_,_=>rfl
 | n,x,y::ys,hx,h=>by
  have h:D.okd n y=true∧D.okdL n ys=true:=by simpa [D.okdL]using h
  simp only [D.toPL,List.any_cons,qd n 150 y x h.1 hx,nP n ys hx h.2]
theorem DG (hK:X.K=T.K) (hu:X.A.units+200 < cLine) (I:Inv X pins σ H s) (rx:RelV x v) (ry:RelV y u) (sa:Sat T B H ((o,x)::(p,y)::l)) {b:Bool} (e:au.inD o.frz p.frz=some b) (neg:Bool) (q:Q (.bl (if neg then ! b else b)) H):wpAny (model X.prog X.w) X.A (compareOp (if neg then .NotIn else .In) v u) (EP X pins σ Q) X.xe s:=by
 have d1:=sa.read
 have d2:=sa.read2
 cases eb:p.frz with
 | lst ys =>
  rw [eb]at e
  have e:(if(D.okd 150 o.frz&&D.okdL 150 ys)=true then some (ys.any fun y=>D.eqd y o.frz)else qw o.frz ys)=some b:=e
  split at e
  ·rename_i hc
   rw [Bool.and_eq_true]at hc
   injection e with e; subst e
   have hy:D.okd 151 p.frz=true:=by rw [eb]; simpa [D.okd]using hc.2
   have p1:=nM sa 150 _ _ hc.1 d1
   have p2:=nM sa 151 _ _ hy d2
   rw [← hK]at p1 p2
   obtain⟨as,r1⟩:=Dp.reads I _ x v p1 rx
   obtain⟨bs,r2⟩:=Dp.reads I _ y u p2 ry
   rw [eb]at r2
   have k1:=gD 150 _ hc.1
   have k2:=iX 150 _ hc.2
   have km:min (PyData.depthAll (D.toPL ys)) o.frz.toP.depth≤150:=Nat.le_trans (Nat.min_le_left _ _) k2.2
   cases neg with
   | false=>exact PySem.SeqAt.in_list_data r2 r1 k2.1 k1.1 (by omega) ⟨.bl _,H,I,rfl,by rw [nP 150 ys hc.1 hc.2]; exact q⟩
   | true=>exact PySem.SeqAt.notIn_list_data r2 r1 k2.1 k1.1 (by omega) ⟨.bl _,H,I,rfl,by rw [nP 150 ys hc.1 hc.2]; exact q⟩
  ·rw [eb]at d2
   cases ea:o.frz with
   | dic ks ds =>
    rw [ea]at e d1
    have e:(if ys.all oF then some false else none)=some b:=e
    split at e
    ·rename_i hy
     cases e
     have q:Q (.bl neg) H:=by cases neg <;> exact q
     exact B9 hK hu I rx ry sa d1 d2 hy neg q
    ·cases e
   | _=>rw [ea]at e; cases e
 | tup ys =>
  rw [eb]at e
  have e:(if(D.okd 150 o.frz&&D.okdL 150 ys)=true then some (ys.any fun y=>D.eqd y o.frz)else qw o.frz ys)=some b:=e
  split at e
  ·rename_i hc
   rw [Bool.and_eq_true]at hc
   injection e with e; subst e
   have hy:D.okd 151 p.frz=true:=by rw [eb]; simpa [D.okd]using hc.2
   have p1:=nM sa 150 _ _ hc.1 d1
   have p2:=nM sa 151 _ _ hy d2
   rw [← hK]at p1 p2
   obtain⟨as,r1⟩:=Dp.reads I _ x v p1 rx
   obtain⟨bs,r2⟩:=Dp.reads I _ y u p2 ry
   rw [eb]at r2
   have k1:=gD 150 _ hc.1
   have k2:=iX 150 _ hc.2
   have km:min (PyData.depthAll (D.toPL ys)) o.frz.toP.depth≤150:=Nat.le_trans (Nat.min_le_left _ _) k2.2
   cases neg with
   | false=>exact PySem.SeqAt.in_tuple_data r2 r1 k2.1 k1.1 (by omega) ⟨.bl _,H,I,rfl,by rw [nP 150 ys hc.1 hc.2]; exact q⟩
   | true=>exact PySem.SeqAt.notIn_tuple_data r2 r1 k2.1 k1.1 (by omega) ⟨.bl _,H,I,rfl,by rw [nP 150 ys hc.1 hc.2]; exact q⟩
  ·rw [eb]at d2
   cases ea:o.frz with
   | dic ks ds =>
    rw [ea]at e d1
    have e:(if ys.all oF then some false else none)=some b:=e
    split at e
    ·rename_i hy
     cases e
     have q:Q (.bl neg) H:=by cases neg <;> exact q
     exact Em hK hu I rx ry sa d1 d2 hy (fun t=>Gr sa t) neg q
    ·cases e
   | _=>rw [ea]at e; cases e
 | dic ks ds =>
  rw [eb]at e d2
  have e:(if bG o.frz ks=true then some (bK o.frz ks ds).isSome else none)=some b:=e
  split at e
  ·rename_i hc
   injection e with e; subst e
   obtain⟨a,ws,rfl,dr,dl⟩:=qB sa d2
   have g:=xO (ds:=ds) sa dr dl.len d1 hc
   cases ry
   have fin:∀ (ov:Option V),HH H a x ov→ov.isSome=(bK o.frz ks ds).isSome→wpAny (model X.prog X.w) X.A (compareOp (if neg then .NotIn else .In) v (.ref a)) (EP X pins σ Q) X.xe s:=by
    intro ov g eo
    cases neg with
    | false=>exact Gq (by omega) I g rx fun s' I'=>⟨.bl _,H,I',rfl,by rw [eo]; exact q⟩
    | true=>exact zT (by omega) I g rx fun s' I'=>⟨.bl _,H,I',rfl,by rw [eo]; exact q⟩
   rcases g with⟨n,d,w,e1,g,_⟩ | ⟨e1,g⟩
   ·exact fin (some w) (.inl g) (by rw [e1]; rfl)
   ·exact fin none g (by rw [e1]; rfl)
  ·cases e
 | str t =>
  rw [eb]at e d2
  have d2:y = .str t:=d2
  subst d2
  cases ea:o.frz with
  | str z =>
   rw [ea]at e d1
   have d1:x = .str z:=d1
   subst d1
   have e:(match z.cps.toList with
    | [c]=>some (decide (c∈t.cps.toList))
    | _=>some (!(Builtin.Str.occurrences t z 0 t.length 1).isEmpty))=some b:=e
   split at e
   ·rename_i c hc
    injection e with e; subst e
    have hz:z=⟨#[c]⟩:=by
     cases z with
     | mk cps =>
      congr 1
      exact Array.toList_inj.mp (by simpa using hc)
    subst hz
    cases neg with
    | false=>exact op_in_sign pins s σ H _ _ v u Q I rx ry ⟨c,t,rfl,rfl,q⟩
    | true=>exact op_notIn_sign pins s σ H _ _ v u Q I rx ry ⟨c,t,rfl,rfl,q⟩
   ·injection e with e; subst e
    cases neg with
    | false=>exact op_in_str pins s σ H _ _ v u Q I rx ry ⟨z,t,rfl,rfl,q⟩
    | true=>exact op_notin_str pins s σ H _ _ v u Q I rx ry ⟨z,t,rfl,rfl,q⟩
  | _=>rw [ea]at e; cases e
 | _=>rw [eb]at e; cases e
end
theorem z0 (hK:X.K=T.K) (I:Inv X pins σ H s) (rx:RelV x v) (ry:RelV y u) (sa:Sat T B H ((o,x)::(p,y)::l)) (e:qx o.frz p.frz=some ()):∃ a b its its2,v=Value.ref a∧u=Value.ref b∧s.heap.IsList a its∧s.heap.IsList b its2∧(its.size != its2.size)=true:=by
 have d1:=sa.read
 have d2:=sa.read2
 cases e1:o.frz with
 | lst xs =>
  cases e2:p.frz with
  | lst ys =>
   rw [e1,e2]at e
   have e:(if xs.length≠ys.length then some ()else none)=some ():=e
   by_cases hl:xs.length≠ys.length
   ·obtain⟨a,vs,rfl,h1,q1,_⟩:=Sat.kidsL sa e1
    obtain⟨b,ws,rfl,h2,q2,_⟩:=Sat.kidsL (sa.perm (List.Perm.swap _ _ _)) e2
    cases (show v=Value.ref a from rx)
    cases (show u=Value.ref b from ry)
    obtain⟨its,r1,n1,g1⟩:=I.list (by rw [hK]; exact h1)
    obtain⟨its2,r2,n2,g2⟩:=I.list (by rw [hK]; exact h2)
    have k1:=r1.length
    have k2:=r2.length
    have k3:its.length≠its2.length:=by omega
    exact⟨a,b,its.toArray,its2.toArray,rfl,rfl,n1.isList,n2.isList,by simpa using k3⟩
   ·rw [if_neg hl]at e; cases e
  | _=>rw [e1,e2]at e; cases e
 | _=>rw [e1]at e; cases e
theorem z4 (hK:X.K=T.K) (hu:X.A.units+200 < cLine) (k:Cm):OpR X (compareOp (qI k)) (fun x y H Q=>dW T B (zy k) false [x,y] H Q):=by
 intro pins s σ H x y v u Q I rx ry h
 obtain⟨o,p,l,r,sa,e,q⟩:=zP h
 have d1:=sa.read
 have d2:=sa.read2
 have e:(au k o.frz p.frz).map (fun b=>O.d (.bl b))=some r:=e
 obtain⟨b,ek,er⟩:=Option.map_eq_some_iff.mp e
 subst er
 have fin:Q (.bl b) H:=q _ _ sa.bl
 cases k with
 | eq =>
  have ek:(if lL o.frz p.frz then some (D.eqd o.frz p.frz)else if vv o.frz p.frz then some (D.eqn 140 o.frz p.frz)else(qx o.frz p.frz).map fun _=>false)=some b:=ek
  split at ek
  ·rename_i hc
   injection ek with ek; subst ek
   exact Gu hK hu I rx ry sa hc fin
  split at ek
  ·rename_i hc
   injection ek with ek; subst ek
   exact En hK hu I rx ry sa hc fin
  ·obtain⟨_,e1,e2⟩:=Option.map_eq_some_iff.mp ek
   subst e2
   obtain⟨a1,a2,its1,its2,rfl,rfl,h1,h2,h3⟩:=z0 hK I rx ry sa e1
   exact PySem.SeqAt.eq_list_lengthsAt h1 h2 h3 (by omega) ⟨.bl false,H,I,rfl,fin⟩
 | ne =>
  have ek:(if lL o.frz p.frz then some (! D.eqd o.frz p.frz)else if tm o.frz p.frz then some (! D.eqn 140 o.frz p.frz)else(qx o.frz p.frz).map fun _=>true)=some b:=ek
  split at ek
  ·rename_i hc
   injection ek with ek; subst ek
   exact Gv hK hu I rx ry sa hc fin
  split at ek
  ·rename_i hc
   injection ek with ek; subst ek
   exact Eo hK hu I rx ry sa hc fin
  ·obtain⟨_,e1,e2⟩:=Option.map_eq_some_iff.mp ek
   subst e2
   obtain⟨a1,a2,its1,its2,rfl,rfl,h1,h2,h3⟩:=z0 hK I rx ry sa e1
   exact PySem.SeqAt.RcNeAt.lists_lengths h1 h2 h3 (by omega) X.prog X.w _ _ ⟨.bl true,H,I,rfl,fin⟩
 | isin=>exact DG hK hu I rx ry sa (b:=b) ek false fin
 | notin =>
  have ek:(au.inD o.frz p.frz).map (!·)=some b:=ek
  obtain⟨c,e1,e2⟩:=Option.map_eq_some_iff.mp ek
  subst e2
  exact DG hK hu I rx ry sa (b:=c) e1 true fin
 | is =>
  cases eb:p.frz with
  | non =>
   rw [eb]at d2 ek
   have d2:y = .non:=d2
   subst d2
   refine op_isN pins s σ H _ _ v u Q I rx ry ⟨rfl,?_⟩
   cases ea:o.frz with
   | non =>
    rw [ea]at d1 ek
    have d1:x = .non:=d1
    subst d1
    injection ek with ek; subst ek
    exact fin
   | _ =>
    rw [ea]at d1 ek
    injection ek with ek; subst ek
    have:¬ x = .non:=fun z=>by
     rw [z]at d1
     exact nomatch zZ d1
    rw [decide_eq_false this]
    exact fin
  | bl d =>
   rw [eb]at d2 ek
   have d2:y = .bl d:=d2
   subst d2
   cases ea:o.frz with
   | bl c =>
    rw [ea]at d1 ek
    have d1:x = .bl c:=d1
    subst d1
    injection ek with ek; subst ek
    obtain rfl:v=Value.bool c:=rx
    obtain rfl:u=Value.bool d:=ry
    exact PyProof.Rows.is_bool ⟨.bl (c == d),H,I,rfl,fin⟩
   | _=>rw [ea]at ek; cases ek
  | _=>rw [eb]at ek; cases hh:o.frz <;> rw [hh]at ek <;> cases ek
 | isnot =>
  cases eb:p.frz with
  | non =>
   rw [eb]at d2 ek
   have d2:y = .non:=d2
   subst d2
   refine op_notN pins s σ H _ _ v u Q I rx ry ⟨rfl,?_⟩
   cases ea:o.frz with
   | non =>
    rw [ea]at d1 ek
    have d1:x = .non:=d1
    subst d1
    injection ek with ek; subst ek
    exact fin
   | _ =>
    rw [ea]at d1 ek
    injection ek with ek; subst ek
    have:¬ x = .non:=fun z=>by
     rw [z]at d1
     exact nomatch zZ d1
    rw [decide_eq_false this]
    exact fin
  | bl d =>
   rw [eb]at d2 ek
   have d2:y = .bl d:=d2
   subst d2
   cases ea:o.frz with
   | bl c =>
    rw [ea]at d1 ek
    have d1:x = .bl c:=d1
    subst d1
    injection ek with ek; subst ek
    obtain rfl:v=Value.bool c:=rx
    obtain rfl:u=Value.bool d:=ry
    exact PyProof.Rows.isnot_bool ⟨.bl (c != d),H,I,rfl,fin⟩
   | _=>rw [ea]at ek; cases ek
  | _=>rw [eb]at ek; cases hh:o.frz <;> rw [hh]at ek <;> cases ek
 | lt =>
  cases ea:o.frz with
  | int i =>
   rw [ea]at d1 ek
   have d1:x = .int i:=d1
   subst d1
   cases eb:p.frz with
   | int j =>
    rw [eb]at d2 ek
    have d2:y = .int j:=d2
    subst d2
    injection ek with ek; subst ek
    exact op_lt pins s σ H _ _ v u Q I rx ry ⟨i,j,rfl,rfl,fin⟩
   | _=>rw [eb]at ek; cases ek
  | str i =>
   rw [ea]at d1 ek
   have d1:x = .str i:=d1
   subst d1
   cases eb:p.frz with
   | str j =>
    rw [eb]at d2 ek
    have d2:y = .str j:=d2
    subst d2
    injection ek with ek; subst ek
    exact op_lt_str pins s σ H _ _ v u Q I rx ry ⟨i,j,rfl,rfl,fin⟩
   | _=>rw [eb]at ek; cases ek
  | _=>rw [ea]at ek; cases ek
 | le =>
  cases ea:o.frz with
  | int i =>
   rw [ea]at d1 ek
   have d1:x = .int i:=d1
   subst d1
   cases eb:p.frz with
   | int j =>
    rw [eb]at d2 ek
    have d2:y = .int j:=d2
    subst d2
    injection ek with ek; subst ek
    exact op_le pins s σ H _ _ v u Q I rx ry ⟨i,j,rfl,rfl,fin⟩
   | _=>rw [eb]at ek; cases ek
  | str i =>
   rw [ea]at d1 ek
   have d1:x = .str i:=d1
   subst d1
   cases eb:p.frz with
   | str j =>
    rw [eb]at d2 ek
    have d2:y = .str j:=d2
    subst d2
    injection ek with ek; subst ek
    exact op_le_str pins s σ H _ _ v u Q I rx ry ⟨i,j,rfl,rfl,fin⟩
   | _=>rw [eb]at ek; cases ek
  | _=>rw [ea]at ek; cases ek
 | gt =>
  cases ea:o.frz with
  | int i =>
   rw [ea]at d1 ek
   have d1:x = .int i:=d1
   subst d1
   cases eb:p.frz with
   | int j =>
    rw [eb]at d2 ek
    have d2:y = .int j:=d2
    subst d2
    injection ek with ek; subst ek
    exact op_gt pins s σ H _ _ v u Q I rx ry ⟨i,j,rfl,rfl,fin⟩
   | _=>rw [eb]at ek; cases ek
  | str i =>
   rw [ea]at d1 ek
   have d1:x = .str i:=d1
   subst d1
   cases eb:p.frz with
   | str j =>
    rw [eb]at d2 ek
    have d2:y = .str j:=d2
    subst d2
    injection ek with ek; subst ek
    exact op_gt_str pins s σ H _ _ v u Q I rx ry ⟨i,j,rfl,rfl,fin⟩
   | _=>rw [eb]at ek; cases ek
  | _=>rw [ea]at ek; cases ek
 | ge =>
  cases ea:o.frz with
  | int i =>
   rw [ea]at d1 ek
   have d1:x = .int i:=d1
   subst d1
   cases eb:p.frz with
   | int j =>
    rw [eb]at d2 ek
    have d2:y = .int j:=d2
    subst d2
    injection ek with ek; subst ek
    exact op_ge pins s σ H _ _ v u Q I rx ry ⟨i,j,rfl,rfl,fin⟩
   | _=>rw [eb]at ek; cases ek
  | str i =>
   rw [ea]at d1 ek
   have d1:x = .str i:=d1
   subst d1
   cases eb:p.frz with
   | str j =>
    rw [eb]at d2 ek
    have d2:y = .str j:=d2
    subst d2
    injection ek with ek; subst ek
    exact op_ge_str pins s σ H _ _ v u Q I rx ry ⟨i,j,rfl,rfl,fin⟩
   | _=>rw [eb]at ek; cases ek
  | _=>rw [ea]at ek; cases ek
end
end PV
namespace PV
open PySem PySem.Spec PyProof.Rows L2
section
variable {T:Tab}{B:Base}{X:Cx}{H:Hp}{hs:List Addr}{m:List aW}
theorem z5 {o:O}{i:Str} (e:o.frz = .str i):o.shal=o:=by cases o <;> first | rfl | cases e
theorem z6 {o:O}{xs:List D} (e:o.frz = .tup xs) (sa:ae T B H hs ((o,v)::m)):ae T B H hs ((o.shal,v)::m):=(Sat.dupT sa e).drop1
theorem eX {o:O}{v:V} (sa:ae T B H hs ((o,v)::m)):ae T B H hs ((o.shal,v)::m):=by
 cases o with
 | d x=>exact sa
 | tup os=>exact z6 (xs:=O.frzL os) rfl sa
 | lst os =>
  obtain⟨a,vs,rfl,_,_,s⟩:=Sat.kidsL sa (xs:=O.frzL os) rfl
  exact ae.dropL s
 | dic ks os =>
  obtain⟨a,vs,rfl,_,_,s⟩:=Sat.kidsD sa (ks:=ks) (xs:=O.frzL os) rfl
  exact ae.dropL s
 | obj C ns os =>
  obtain⟨a,dx,vs,rfl,_,_,_,s⟩:=Sat.kidsO sa (C:=C) (ns:=ns) (xs:=O.frzL os) rfl
  exact ae.dropL s
theorem ae.sub {l l':List aW} (h:l.Sublist l'):∀ {m:List aW},ae T B H hs (l'++m)→ae T B H hs (l++m):=by
 induction h with
 | slnil=>exact fun s=>s
 | cons a _ ih=>exact fun s=>ih (ae.drop1 (o:=a.1) (v:=a.2) s)
 | cons_cons a _ ih=>exact fun {m} s=>(ih (m:=a::m) (s.perm (by exact List.perm_middle.symm))).perm List.perm_middle
theorem xQ {xs:List D}{vs:List V} (hl:xs.length=vs.length) (n k:Nat):((((xs.drop n).take k).map O.d).zip ((vs.drop n).take k)).Sublist ((xs.map O.d).zip vs):=by
 have e:(((xs.drop n).take k).map O.d).zip ((vs.drop n).take k)=(((xs.map O.d).zip vs).drop n).take k:=by
  rw [List.map_take,List.map_drop]
  simp only [List.zip,List.drop_zipWith,List.take_zipWith]
 rw [e]
 exact(List.take_sublist _ _).trans (List.drop_sublist _ _)
theorem xR {xs:List D}{vs:List V} (hl:xs.length=vs.length) {i:Int}{d:D} (e:atI xs i=some d):∃ (n:Nat) (w:V),xs[n]?=some d∧vs[n]?=some w∧atI vs i=some w:=by
 unfold atI at e
 cases q:ixN xs.length i with
 | none=>rw [q]at e; cases e
 | some n =>
  rw [q]at e
  have e:xs[n]?=some d:=e
  obtain⟨hn,_⟩:=List.getElem?_eq_some_iff.mp e
  refine⟨n,vs[n]'(by omega),e,List.getElem?_eq_getElem (by omega),?_⟩
  have q':ixN vs.length i=some n:=by rw [← hl]; exact q
  unfold atI
  rw [q']
  exact List.getElem?_eq_getElem (by omega)
theorem xS (hu:X.A.units+1 < cLine):IxR X (fun x y H Q=>∃ a v,x = .ref a∧DGet H a y (some v)∧Q v H):=by
 intro value slice pins s σ H x y v u Q I rx ry h hs
 obtain⟨a,z,rfl,g,q⟩:=h
 cases rx
 exact tail_any (dict_typeIs I g) slot_dict_getitem.lookup (d_getItem hu I g ry fun w' s3 I3 rw'=>⟨z,H,I3,rw',q⟩) hs
def vG (y:V) (lo:Option Int):Prop:=(y = .non∧lo=none)∨∃ i,y = .int i∧lo=some i
theorem part_of {p:D}{y:V}{lo lo':Option Int}{own:Addr→Prop}{h:Hp} (e:fH p=some lo) (d:Dr T own h p y) (k:vG y lo'):lo=lo':=by
 cases p with
 | non =>
  injection e with e
  have d:y = .non:=d
  subst d e
  rcases k with⟨_,k⟩ | ⟨i,k,_⟩
  ·exact k.symm
  ·cases k
 | int i =>
  injection e with e
  have d:y = .int i:=d
  subst d e
  rcases k with⟨k,_⟩ | ⟨j,k,k'⟩
  ·cases k
  ·injection k with k; rw [k',k]
 | _=>cases e
theorem Iy {f:List D→Option O}{sh:Bool}{y z w:V}{Q:VK} (h:dW T B f sh [y,z,w] H Q):∃ o p q l r,Sat T B H ((o,y)::(p,z)::(q,w)::l)∧f [o.frz,p.frz,q.frz]=some r∧∀ u H',Sat T B H' ((r,u)::(if sh then o.shal else o,y)::(if sh then p.shal else p,z)::(if sh then q.shal else q,w)::l)→Q u H':=by
 obtain⟨os,l,r,hl,s,e,q⟩:=h
 match os,hl with
 | [o,p,q'],_=>exact⟨o,p,q',l,r,s,e,fun u H' z=>q u H' (by cases sh <;> exact z)⟩
theorem Gx (hK:X.K=T.K):SlR X (fun x lo hi H Q=>∃ y z,vG y lo∧vG z hi∧dW T B mW true [x,y,z] H Q):=by
 intro pins s σ H x v vl vu lo hi sl Q I rx hs pl pu h
 obtain⟨y,z,k1,k2,h⟩:=h
 obtain⟨o,p,t,l,r,sa,e,q⟩:=Iy h
 have dp:=sa.swap.read
 have dt:=(ae.drop1 sa).swap.read
 rw [if_pos rfl,if_pos rfl,if_pos rfl]at q
 have e:(match fH p.frz,fH t.frz with
  | some lo,some hi=>(match o.frz with
   | .lst xs=>some (O.lst ((cutD xs lo hi).map .d))
   | .tup xs=>some (.d (.tup (cutD xs lo hi)))
   | .str z=>if z.length≤sizeLine then some (.d (.str ⟨((z.cps.toList.drop (HT.sIx z.length 0 lo)).take (HT.sIx z.length z.length hi - HT.sIx z.length 0 lo)).toArray⟩))else none
   | _=>none)
  | _,_=>none)=some r:=e
 cases e1:fH p.frz with
 | none=>rw [e1]at e; cases e
 | some lo' =>
  cases e2:fH t.frz with
  | none=>rw [e1,e2]at e; cases e
  | some hi' =>
   rw [e1,e2]at e
   have elo:=part_of e1 dp k1
   have ehi:=part_of e2 dt k2
   subst elo ehi
   have sp:Sat T B H ((o,x)::(p.shal,y)::(t.shal,z)::l):=by
    have t1:=eX sa.swap
    have t2:Sat T B H ((t,z)::(p.shal,y)::(o,x)::l):=t1.perm (by
     have p1:((p.shal,y)::(o,x)::(t,z)::l).Perm ((o,x)::(p.shal,y)::(t,z)::l):=.swap _ _ _
     have p2:((p.shal,y)::(o,x)::(t,z)::l).Perm ((p.shal,y)::(t,z)::(o,x)::l):=(List.Perm.swap _ _ _).cons _
     exact p2.trans (.swap _ _ _))
    have t3:=eX t2
    exact t3.perm (by
     have p1:((t.shal,z)::(p.shal,y)::(o,x)::l).Perm ((t.shal,z)::(o,x)::(p.shal,y)::l):=(List.Perm.swap _ _ _).cons _
     exact p1.trans ((List.Perm.swap _ _ _).trans ((List.Perm.swap _ _ _).cons _)))
   cases ea:o.frz with
   | lst xs =>
    rw [ea]at e
    injection e with e
    subst e
    obtain⟨a,vs,rfl,ha,hl,s1⟩:=Sat.kidsL sp ea
    refine sl_list pins s σ H _ v vl vu lo' hi' sl Q I rx hs pl pu ⟨a,vs,rfl,by rw [hK]; exact ha,fun p' hp=>q _ _ ?_⟩
    have s2:=ae.sub (xQ hl (HT.sIx xs.length 0 lo') (HT.sIx xs.length xs.length hi' - HT.sIx xs.length 0 lo')) s1
    have:cutV vs lo' hi'=(vs.drop (HT.sIx xs.length 0 lo')).take (HT.sIx xs.length xs.length hi' - HT.sIx xs.length 0 lo'):=by unfold cutV; rw [hl]
    rw [this]
    exact Sat.newL (os:=(cutD xs lo' hi').map O.d) s2 (by unfold cutD; simp [hl]) hp
   | tup xs =>
    rw [ea]at e
    injection e with e
    subst e
    obtain⟨a,vs,rfl,ha,hl,s1⟩:=Sat.kidsT sp ea
    have ec:cutV vs lo' hi'=(vs.drop (HT.sIx xs.length 0 lo')).take (HT.sIx xs.length xs.length hi' - HT.sIx xs.length 0 lo'):=by unfold cutV; rw [hl]
    refine sl_tupA pins s σ H _ v vl vu lo' hi' sl Q I rx hs pl pu ⟨a,vs,rfl,by rw [hK]; exact ha,fun hw=>q _ _ ?_,fun hw p' hp=>q _ _ ?_⟩
    ·have:cutD xs lo' hi'=xs:=by
      unfold cutD
      rw [hl,hw.1,hw.2,List.drop_zero,← hl]
      exact List.take_of_length_le (by omega)
     rw [this]
     exact Sat.dupT sp ea
    ·have s2:=ae.sub (xQ hl (HT.sIx xs.length 0 lo') (HT.sIx xs.length xs.length hi' - HT.sIx xs.length 0 lo')) s1
     rw [ec]
     exact Sat.newTd (xs:=cutD xs lo' hi') s2 (by unfold cutD; simp [hl]) hp
   | str w =>
    rw [ea]at e
    have d1:=sa.read
    rw [ea]at d1
    have d1:x = .str w:=d1
    subst d1
    have e:(if w.length≤sizeLine then some (O.d (.str ⟨((w.cps.toList.drop (HT.sIx w.length 0 lo')).take (HT.sIx w.length w.length hi' - HT.sIx w.length 0 lo')).toArray⟩))else none)=some r:=e
    split at e
    ·rename_i hz
     injection e with e
     subst e
     rw [z5 ea]at q
     exact sl_str pins s σ H _ v vl vu lo' hi' sl Q I rx hs pl pu ⟨w,rfl,hz,q _ _ sp.str⟩
    ·cases e
   | _=>rw [ea]at e; cases e
theorem tH {f:Str}:∀ {ns:List Str}{xs:List D}{vs:List V}{d:D},eV f ns xs=some d→xs.length=vs.length→∃ (n:Nat) (w:V),xs[n]?=some d∧vs[n]?=some w∧(ns.zip vs).lookup f=some w
 | [],xs,vs,d,e,hl=>by cases xs <;> cases e
 | n::ns,[],vs,d,e,hl=>by cases e
 | n::ns,x::xs,[],d,e,hl=>by simp at hl
 | n::ns,x::xs,v::vs,d,e,hl=>by
  unfold eV at e
  split at e
  ·rename_i hn
   injection e with e
   subst e hn
   exact⟨0,v,rfl,rfl,by simp [List.lookup]⟩
  ·rename_i hn
   obtain⟨k,w,h1,h2,h3⟩:=tH e (by simpa using hl)
   refine⟨k+1,w,by simpa using h1,by simpa using h2,?_⟩
   rw [List.zip_cons_cons,List.lookup]
   have:(f == n)=false:=by
    rw [beq_eq_false_iff_ne]
    exact fun z=>hn z.symm
   rw [this]
   exact h3
end
end PV
namespace PV
open PySem PySem.Spec PyProof.Rows L2
section
variable {T:Tab}{B:Base}{W:WX}{σ:L2.St}{l m:List aW}{α β:Type}{H H':Hp}{ρ ρ':Env}
def RG (T:Tab) (B:Base) (W:WX) (σ:L2.St) (l:List aW) (r:Res α) (K:α→Env→Prop):Prop:=match r with
 | .ok a ρ=>K a ρ
 | .exc C p ρ=>∀ d H its,At T B H ρ σ (its++l)→pF T H C p d its→W (.ref (T.cls C)) d σ H
 | .bad=>False
theorem RP.rg {r:Res O}{Q:VK} (h:RP T B W σ l r Q):RG T B W σ l r fun o ρ=>∀ v H,At T B H ρ σ ((o,v)::l)→Q v H:=by
 cases r <;> exact h
theorem RG.rp {r:Res O}{Q:VK} (h:RG T B W σ l r fun o ρ=>∀ v H,At T B H ρ σ ((o,v)::l)→Q v H):RP T B W σ l r Q:=by
 cases r <;> exact h
theorem RG.bind {r:Res α}{f:α→Env→Res β}{K:β→Env→Prop} (h:RG T B W σ l (r.bind f) K):RG T B W σ l r fun a ρ=>RG T B W σ l (f a ρ) K:=by
 cases r <;> exact h
theorem RG.bnd {o:Option α}{f:α→Res β}{K:β→Env→Prop} (h:RG T B W σ l (bnd o f) K):∃ a,o=some a∧RG T B W σ l (f a) K:=by
 cases o with
 | none=>exact h.elim
 | some a=>exact⟨a,rfl,h⟩
theorem RG.of {o:Option α}{K:α→Env→Prop} (h:RG T B W σ l (Res.of o ρ) K):∃ a,o=some a∧K a ρ:=by
 cases o with
 | none=>exact h.elim
 | some a=>exact⟨a,rfl,h⟩
theorem RG.mono {r:Res α}{K K':α→Env→Prop} (h:RG T B W σ l r K) (hK:∀ a ρ,K a ρ→K' a ρ):RG T B W σ l r K':=by
 cases r with
 | ok a ρ=>exact hK a ρ h
 | exc C p ρ=>exact h
 | bad=>exact h
theorem At.keepR (a:At T B H ρ σ (m++l)):At T B H ρ σ l:=⟨a.ok,by
 have s:=a.sat
 have q:(af ρ σ++(m++l)).Perm (m++(af ρ σ++l)):=by
  rw [← List.append_assoc,← List.append_assoc]
  exact List.perm_append_comm.append_right l
 exact ae.dropL (s.perm q),a.pr⟩
theorem At.dropM {k:List aW} (a:At T B H ρ σ (k++(m++l))):At T B H ρ σ (k++l):=by
 have q:(k++(m++l)).Perm (m++(k++l)):=by
  rw [← List.append_assoc,← List.append_assoc]
  exact List.perm_append_comm.append_right l
 exact(a.perm q).keepR
theorem RG.more {r:Res α}{K:α→Env→Prop} (h:RG T B W σ l r K):RG T B W σ (m++l) r K:=by
 cases r with
 | ok a ρ=>exact h
 | exc C p ρ=>exact fun d H its a e=>h d H its a.dropM e
 | bad=>exact h
theorem RG.more1 {q:aW}{r:Res α}{K:α→Env→Prop} (h:RG T B W σ l r K):RG T B W σ (q::l) r K:=RG.more (m:=[q]) h
end
section
variable (T:Tab) (B:Base) (Φ:cW) (W:WX)
def tE (se:SE):TE:=fun σ H Q=>∃ ρ l,At T B H ρ σ l∧RP T B W σ l (ev Φ se ρ) Q
def tA (se:SE):TE:=fun σ H Q=>∃ ρ l,At T B H ρ σ l∧RG T B W σ l (dB Φ se ρ) fun a ρ'=>∀ v H',At T B H' ρ' σ (ao a v++l)→nK σ a v→Q v H'
def tJ (ses:List SE):TA:=fun σ H Q=>∃ ρ l,At T B H ρ σ l∧RG T B W σ l (bN Φ ses ρ) fun as ρ'=>∀ vs H',At T B H' ρ' σ (ay as vs++l)→bY σ as vs→Q vs H'
def tL (ses:List SE):TA:=fun σ H Q=>∃ ρ l,At T B H ρ σ l∧RG T B W σ l (jR Φ ses ρ) fun os ρ'=>∀ vs H',os.length=vs.length→At T B H' ρ' σ (os.zip vs++l)→Q vs H'
def tT (se:SE):TT:=fun σ H Q=>∃ ρ l,At T B H ρ σ l∧RG T B W σ l (kh Φ se ρ) fun b ρ'=>∀ H',At T B H' ρ' σ l→Q b H'
def uB (ses:List SE):TT:=fun σ H Q=>∃ ρ l,At T B H ρ σ l∧RG T B W σ l (d7 Φ ses ρ) fun b ρ'=>∀ H',At T B H' ρ' σ l→Q b H'
def xT (ses:List SE):TT:=fun σ H Q=>∃ ρ l,At T B H ρ σ l∧RG T B W σ l (il Φ ses ρ) fun b ρ'=>∀ H',At T B H' ρ' σ l→Q b H'
end
section
variable {X:Cx}{e:Expr}{es:List Expr}
theorem _root_.L2.PE.pv {t t':TE} (h:PE X e t) (i:∀ σ H Q,t' σ H Q→t σ H Q):PE X e t':=⟨fun pins s σ H Q I q=>h.run pins s σ H Q I (i σ H Q q)⟩
theorem _root_.L2.PT.pv {t t':TT} (h:PT X e t) (i:∀ σ H Q,t' σ H Q→t σ H Q):PT X e t':=⟨fun pins s σ H Q I q=>h.run pins s σ H Q I (i σ H Q q)⟩
theorem _root_.L2.PW.pv {t t':TT} (h:PW X e t) (i:∀ σ H Q,t' σ H Q→t σ H Q):PW X e t':=⟨fun wh pins s σ H Q I q=>h.run wh pins s σ H Q I (i σ H Q q)⟩
theorem _root_.L2.PA.pv {t t':TA} (h:PA X es t) (i:∀ σ H Q,t' σ H Q→t σ H Q):PA X es t':=⟨fun pos pins s σ H Q I q=>h.run pos pins s σ H Q I (i σ H Q q)⟩
end
section
variable {T:Tab}{B:Base}{Φ:cW}{W:WX}{X:Cx}{e a b c:Expr}{es:List Expr}{se sa sb sc:SE}{ses:List SE}{pos:Pos}{i:Nat}{x:Str}
theorem Gy (hN:X.N[i]?=some x) (hv:Vis X.env.scope x) (hd:(x == ("__debug__" : Str))=false) (hc:(x == ("__classdict__" : Str))=false):PE X (.Name x pos) (tE T B Φ W (.var i)) :=
 (pe_var hN hv hd hc).pv fun σ H Q ⟨ρ,l,a,h⟩=>by
  have h:RG T B W σ l (bnd (aq ρ i) fun o=>.ok (.d o.frz) (ρ.set i (some (.d o.frz)))) fun o ρ=>∀ v H,At T B H ρ σ ((o,v)::l)→Q v H:=by rw [ev]at h; exact h.rg
  obtain⟨o,eo,h⟩:=h.bnd
  obtain⟨v,ev⟩:=a.ok.at eo
  have t:=a.take eo ev
  have hi:=iJ eo
  have t2:At T B H (ρ.set i none) σ ((.d o.frz,v)::(.d o.frz,v)::l):=⟨t.ok,((t.sat.perm List.perm_middle).freeze.dup).perm (List.perm_middle.trans (List.perm_middle.cons _)).symm,t.pr⟩
  have t3:=t2.fill (i:=i) (by unfold aq; rw [List.getElem?_set_self hi]; rfl) (by simpa using hi) ev
  rw [List.set_set]at t3
  exact⟨v,ev,h v H t3⟩
theorem z7 (hN:X.N[i]?=some x) (hv:Vis X.env.scope x) (hd:(x == ("__debug__" : Str))=false) (hc:(x == ("__classdict__" : Str))=false):PE X (.Name x pos) (tE T B Φ W (.mv i)) :=
 (pe_var hN hv hd hc).pv fun σ H Q ⟨ρ,l,a,h⟩=>by
  have h:RG T B W σ l (bnd (aq ρ i) fun o=>.ok o (ρ.set i none)) fun o ρ=>∀ v H,At T B H ρ σ ((o,v)::l)→Q v H:=by rw [ev]at h; exact h.rg
  obtain⟨o,eo,h⟩:=h.bnd
  obtain⟨v,ev⟩:=a.ok.at eo
  exact⟨v,ev,h v H (a.take eo ev)⟩
theorem z8 (hN:X.N[i]?=some x) (hv:Vis X.env.scope x) (hd:(x == ("__debug__" : Str))=false) (hc:(x == ("__classdict__" : Str))=false):PE X (.Name x pos) (tA T B Φ W (.var i)) :=
 (pe_var hN hv hd hc).pv fun σ H Q ⟨ρ,l,a,h⟩=>by
  have h:RG T B W σ l (bnd (aq ρ i) fun _=>Res.ok (.slot i) ρ) fun a ρ'=>∀ v H',At T B H' ρ' σ (ao a v++l)→nK σ a v→Q v H':=by rw [dB]at h; exact h
  obtain⟨o,eo,h⟩:=h.bnd
  obtain⟨v,ev⟩:=a.ok.at eo
  exact⟨v,ev,h v H a ev⟩
theorem Ep (h:PE X e (tE T B Φ W se)) (hs:∀ ρ,dB Φ se ρ=(ev Φ se ρ).bind fun o ρ=>.ok (.val o) ρ):PE X e (tA T B Φ W se) :=
 h.pv fun σ H Q ⟨ρ,l,a,h⟩=>⟨ρ,l,a,by
  rw [hs]at h
  refine RG.rp (h.bind.mono fun o ρ' k v H' q=>?_)
  exact k v H' q trivial⟩
theorem HI {v:V}{d:D} (h:PE X e (tC v)) (hd:∀ own hp,Dr T own hp d v):PE X e (tE T B Φ W (.lit d)) :=
 h.pv fun σ H Q ⟨ρ,l,a,h⟩=>by
  have h:∀ v H,At T B H ρ σ ((.d d,v)::l)→Q v H:=by rw [ev]at h; exact h
  exact h v H ⟨a.ok,(a.sat.lit hd).perm List.perm_middle.symm,a.pr⟩
theorem J0 {v:V}{d:D}{x:Str} (h:PE X e (tC v)) (hd:∀ own hp,Dr T own hp d v):PE X e (tE T B Φ W (.glo x d)) :=
 h.pv fun σ H Q ⟨ρ,l,a,h⟩=>by
  have h:∀ v H,At T B H ρ σ ((.d d,v)::l)→Q v H:=by rw [ev]at h; exact h
  exact h v H ⟨a.ok,(a.sat.lit hd).perm List.perm_middle.symm,a.pr⟩
theorem aD:PA X [] (tJ T B Φ W []):=pa_nil.pv fun σ H Q ⟨ρ,l,a,h⟩=>by
 have h:∀ vs H',At T B H' ρ σ (ay [] vs++l)→bY σ [] vs→Q vs H':=by rw [bN]at h; exact h
 exact h [] H a trivial
theorem bT (ha:PE X e (tA T B Φ W se)) (hs:PA X es (tJ T B Φ W ses)) (hst:starEach (e::es) X.env=(false,eval e X.env)::starEach es X.env):PA X (e::es) (tJ T B Φ W (se::ses)) :=
 (pa_cons ha hs hst).pv fun σ H Q ⟨ρ,l,a,h⟩=>by
  rw [bN]at h
  refine⟨ρ,l,a,h.bind.mono fun a ρ1 k v H1 a1 av=>⟨ρ1,ao a v++l,a1,RG.more (k.bind.mono fun as ρ2 k2 vs H2 a2 avs=>k2 (v::vs) H2 ?_ ⟨av,avs⟩)⟩⟩
  refine a2.perm ?_
  show(ay as vs++(ao a v++l)).Perm ((ao a v++ay as vs)++l)
  rw [← List.append_assoc]
  exact List.perm_append_comm.append_right l
theorem bt:PA X [] (tL T B Φ W []):=pa_nil.pv fun σ H Q ⟨ρ,l,a,h⟩=>by
 have h:∀ vs H',([]:List O).length=vs.length→At T B H' ρ σ (([]:List O).zip vs++l)→Q vs H':=by rw [jR]at h; exact h
 exact h [] H rfl a
theorem aJ (ha:PE X e (tE T B Φ W se)) (hs:PA X es (tL T B Φ W ses)) (hst:starEach (e::es) X.env=(false,eval e X.env)::starEach es X.env):PA X (e::es) (tL T B Φ W (se::ses)) :=
 (pa_cons ha hs hst).pv fun σ H Q ⟨ρ,l,a,h⟩=>by
  rw [jR]at h
  refine⟨ρ,l,a,RG.rp (h.bind.mono fun o ρ1 k v H1 a1=>⟨ρ1,(o,v)::l,a1,RG.more1 (k.bind.mono fun os ρ2 k2 vs H2 hl a2=>k2 (v::vs) H2 (by simp [hl]) ?_)⟩)⟩
  exact a2.perm List.perm_middle
theorem iD {f:List D→Option O}{sh:Bool}{as:List Arg}{vs:List V}{σ:L2.St}{l:List aW}{H:Hp}{ρ:Env}{Q:VK} (h:RG T B W σ l (mN f sh as ρ) fun o ρ=>∀ v H,At T B H ρ σ ((o,v)::l)→Q v H)
  (a:At T B H ρ σ (ay as vs++l)) (av:bY σ as vs):dW T B f sh vs H Q:=El a av h.rp
theorem qh {a b:Arg}{v w:V}{l:List aW}:(ao b w++(ao a v++l)).Perm (ay [a,b] [v,w]++l):=by
 show(ao b w++(ao a v++l)).Perm ((ao a v++(ao b w++[]))++l)
 rw [List.append_nil,← List.append_assoc]
 exact List.perm_append_comm.append_right l
theorem jv {a:Arg}{v:V}{l:List aW}:(ao a v++l).Perm (ay [a] [v]++l):=by
 show(ao a v++l).Perm ((ao a v++[])++l)
 rw [List.append_nil]
theorem ak {p q l:List aW}:(p++(q++l)).Perm (q++(p++l)):=by
 rw [← List.append_assoc,← List.append_assoc]
 exact List.perm_append_comm.append_right l
theorem yY {a b c:Arg}{v w u:V}{l:List aW}:(ao c u++(ao b w++(ao a v++l))).Perm (ay [a,b,c] [v,w,u]++l):=by
 show(ao c u++(ao b w++(ao a v++l))).Perm ((ao a v++(ao b w++(ao c u++[])))++l)
 rw [List.append_nil,List.append_assoc,List.append_assoc]
 have p1:(ao c u++(ao b w++(ao a v++l))).Perm (ao c u++(ao a v++(ao b w++l))):=ak.append_left _
 have p2:(ao c u++(ao a v++(ao b w++l))).Perm (ao a v++(ao c u++(ao b w++l))):=ak
 exact p1.trans (p2.trans (ak.append_left _))
theorem vH {f:List D→Option O}{sh:Bool}{σ:L2.St}{l:List aW}{H:Hp}{ρ:Env}{Q:VK} (at_:At T B H ρ σ l)
  (h:RG T B W σ l ((dB Φ sa ρ).bind fun x ρ=>(dB Φ sb ρ).bind fun y ρ=>mN f sh [x,y] ρ) fun o ρ=>∀ v H,At T B H ρ σ ((o,v)::l)→Q v H) :
  tOp (fun x y H Q=>dW T B f sh [x,y] H Q) (tA T B Φ W sa) (tA T B Φ W sb) σ H Q:=by
 refine⟨ρ,l,at_,h.bind.mono fun a ρ1 k v H1 a1 av=>⟨ρ1,ao a v++l,a1,RG.more (k.bind.mono fun b ρ2 k2 w H2 a2 aw=>?_)⟩⟩
 exact iD (as:=[a,b]) k2 (a2.perm qh) ⟨av,aw,trivial⟩
theorem Gz {f:List D→Option O}{sh:Bool}{σ:L2.St}{l:List aW}{H:Hp}{ρ:Env}{Q:VK} (at_:At T B H ρ σ l)
  (h:RG T B W σ l ((dB Φ sa ρ).bind fun x ρ=>mN f sh [x] ρ) fun o ρ=>∀ v H,At T B H ρ σ ((o,v)::l)→Q v H) :
  tUn (fun x H Q=>dW T B f sh [x] H Q) (tA T B Φ W sa) σ H Q:=by
 refine⟨ρ,l,at_,h.bind.mono fun a ρ1 k v H1 a1 av=>?_⟩
 exact iD (as:=[a]) k (a1.perm jv) ⟨av,trivial⟩
theorem bR (hK:X.K=T.K) {k:Bi} (ha:PE X a (tA T B Φ W sa)) (hb:PE X b (tA T B Φ W sb)):PE X (.BinOp a (Gn k) b pos) (tE T B Φ W (.bi k sa sb)) :=
 (pe_op (Iu (T:=T) (B:=B) hK k) ha hb).pv fun σ H Q ⟨ρ,l,at_,h⟩=>vH at_ (by rw [ev]at h; exact h.rg)
theorem tK (ha:PE X a (tA T B Φ W sa)):PE X (.UnaryOp .USub a pos) (tE T B Φ W (.un .neg sa)) :=
 (pe_un (Gp (T:=T) (B:=B)) ha).pv fun σ H Q ⟨ρ,l,at_,h⟩=>Gz at_ (by rw [ev]at h; exact h.rg)
theorem z9 (hK:X.K=T.K) (hu:X.A.units+200 < cLine) {k:Cm} (ha:PE X a (tA T B Φ W sa)) (hb:PE X b (tA T B Φ W sb)) (hm:behindInMarks (qI k) b=false):PE X (.Compare a [qI k] [b] pos) (tE T B Φ W (.cm k sa sb)) :=
 (pe_cmpR (z4 (T:=T) (B:=B) hK hu k) ha hb hm).pv fun σ H Q ⟨ρ,l,at_,h⟩=>vH at_ (by rw [ev]at h; exact h.rg)
theorem Er {os:List O}{vs:List V}{p:Addr}{H:Hp}{l:List aW} (s:Sat T B H (os.zip vs++l)) (hl:os.length=vs.length) (n:H p=none):Sat T B (upd H p (.tup vs)) ((oE os,.ref p)::l):=by
 have key:∀ {os:List O}{ds:List D},oE.allD os=some ds→os=ds.map O.d:=by
  intro os
  induction os with
  | nil=>intro ds e; injection e with e; subst e; rfl
  | cons o os ih =>
   intro ds e
   cases o with
   | d x =>
    have e:(oE.allD os).map (x :: ·)=some ds:=e
    obtain⟨r,e1,e2⟩:=Option.map_eq_some_iff.mp e
    subst e2
    rw [ih e1]; rfl
   | _=>cases e
 unfold oE
 split
 ·rename_i ds e
  have:=key e
  subst this
  exact Sat.newTd s (by simpa using hl) n
 ·exact Sat.newT s hl n
theorem ko {k:Nat} (hz:ses.length≤sizeLine) (h:PA X es (tL T B Φ W ses)):PE X (.Tuple es k pos) (tE T B Φ W (.tup ses)) :=
 (pe_tup h).pv fun σ H Q ⟨ρ,l,at_,h⟩=>by
  have h:RG T B W σ l ((jR Φ ses ρ).bind fun os ρ=>.ok (oE os) ρ) fun o ρ=>∀ v H,At T B H ρ σ ((o,v)::l)→Q v H:=by rw [ev]at h; exact h.rg
  have len:∀ {ses:List SE}{ρ:Env}{os:List O}{ρ':Env},jR Φ ses ρ = .ok os ρ'→os.length=ses.length:=by
   intro ses
   induction ses with
   | nil=>intro ρ os ρ' e; rw [jR]at e; injection e with e; subst e; rfl
   | cons se ses ih =>
    intro ρ os ρ' e
    rw [jR]at e
    obtain⟨o,ρ1,_,e⟩:=Res.bind_of e
    obtain⟨os',ρ2,e1,e⟩:=Res.bind_of e
    injection e with e
    subst e
    simp [ih e1]
  refine⟨ρ,l,at_,?_⟩
  have h:=h.bind
  cases e:jR Φ ses ρ with
  | bad=>rw [e]at h; exact h
  | exc C p ρ'=>rw [e]at h; exact h
  | ok os ρ' =>
   rw [e]at h
   have h:∀ v H,At T B H ρ' σ ((oE os,v)::l)→Q v H:=h
   intro vs H1 hl a1
   refine⟨by rw [← hl,len e]; exact hz,fun p hp=>h _ _ ⟨a1.ok,?_,a1.pr⟩⟩
   have s1:Sat T B H1 (os.zip vs++(af ρ' σ++l)):=a1.sat.perm (by
    rw [← List.append_assoc,← List.append_assoc]
    exact List.perm_append_comm.append_right l)
   exact(Er s1 hl hp).perm List.perm_middle.symm
theorem dP (hz:ses.length≤sizeLine) (h:PA X es (tL T B Φ W ses)):PE X (.List es pos) (tE T B Φ W (.lst ses)) :=
 (pe_lst h).pv fun σ H Q ⟨ρ,l,at_,h⟩=>by
  have h:RG T B W σ l ((jR Φ ses ρ).bind fun os ρ=>.ok (O.lst os) ρ) fun o ρ=>∀ v H,At T B H ρ σ ((o,v)::l)→Q v H:=by rw [ev]at h; exact h.rg
  have len:∀ {ses:List SE}{ρ:Env}{os:List O}{ρ':Env},jR Φ ses ρ = .ok os ρ'→os.length=ses.length:=by
   intro ses
   induction ses with
   | nil=>intro ρ os ρ' e; rw [jR]at e; injection e with e; subst e; rfl
   | cons se ses ih =>
    intro ρ os ρ' e
    rw [jR]at e
    obtain⟨o,ρ1,_,e⟩:=Res.bind_of e
    obtain⟨os',ρ2,e1,e⟩:=Res.bind_of e
    injection e with e
    subst e
    simp [ih e1]
  refine⟨ρ,l,at_,?_⟩
  have h:=h.bind
  cases e:jR Φ ses ρ with
  | bad=>rw [e]at h; exact h
  | exc C p ρ'=>rw [e]at h; exact h
  | ok os ρ' =>
   rw [e]at h
   have h:∀ v H,At T B H ρ' σ ((.lst os,v)::l)→Q v H:=h
   intro vs H1 hl a1
   refine⟨by rw [← hl,len e]; exact hz,fun p hp=>h _ _ ⟨a1.ok,?_,a1.pr⟩⟩
   have s1:Sat T B H1 (os.zip vs++(af ρ' σ++l)):=a1.sat.perm (by
    rw [← List.append_assoc,← List.append_assoc]
    exact List.perm_append_comm.append_right l)
   exact(Sat.newL s1 hl hp).perm List.perm_middle.symm
end
end PV
namespace PV
open PySem PySem.Spec PyProof.Rows L2
section
variable {T:Tab}{B:Base}{Φ:cW}{W:WX}{X:Cx}{e a b c:Expr}{es:List Expr}{se sa sb sc:SE}{ses:List SE}{pos:Pos}{i:Nat}{x:Str}
theorem gE:∀ {ks:List D}{js:List Key},keysOf ks=some js→js.length=ks.length
 | [],js,e=>by injection e with e; subst e; rfl
 | k::ks,js,e=>by
  unfold keysOf at e
  cases e1:keyOf k with
  | none=>rw [e1]at e; cases e
  | some kk =>
   cases e2:keysOf ks with
   | none=>rw [e1,e2]at e; cases e
   | some r' =>
    rw [e1,e2]at e
    injection e with e
    subst e
    simp [gE e2]
def Es (T:Tab) (B:Base):V→Hp→(Bool→Hp→Prop)→Prop:=fun x H Q=>∃ o l k,Sat T B H ((o,x)::l)∧qy o.frz=some k∧Q k H
theorem Et (hK:X.K=T.K):TruR X (Es T B):=by
 intro pins s σ H x v Q I rx h
 obtain⟨o,l,k,sa,e,q⟩:=h
 have d:=sa.read
 cases ea:o.frz with
 | non =>
  rw [ea]at d e
  have d:x = .non:=d
  subst d
  injection e with e
  subst e
  exact tru_ok pins s σ H _ v Q I rx ⟨false,rfl,q⟩
 | bl k' =>
  rw [ea]at d e
  have d:x = .bl k':=d
  subst d
  injection e with e
  subst e
  exact tru_ok pins s σ H _ v Q I rx ⟨k',rfl,q⟩
 | int i =>
  rw [ea]at d e
  have d:x = .int i:=d
  subst d
  injection e with e
  subst e
  exact tru_ok pins s σ H _ v Q I rx ⟨_,rfl,q⟩
 | str z =>
  rw [ea]at d e
  have d:x = .str z:=d
  subst d
  have e:(if z.length≤sizeLine then some ((z.length:Int) != 0)else none)=some k:=e
  split at e
  ·rename_i hz
   injection e with e
   subst e
   exact tru_ok pins s σ H _ v Q I rx ⟨_,⟨hz,rfl⟩,q⟩
  ·cases e
 | lst xs =>
  rw [ea]at e
  injection e with e
  subst e
  obtain⟨a,vs,rfl,ha,hl,_⟩:=Sat.kidsL sa ea
  refine tru_ok pins s σ H _ v Q I rx ⟨_,.inl ⟨vs,by rw [hK]; exact ha,rfl⟩,?_⟩
  have:xs.isEmpty=vs.isEmpty:=by cases xs <;> cases vs <;> first | rfl | simp at hl
  rw [← this]; exact q
 | tup xs =>
  rw [ea]at e
  injection e with e
  subst e
  obtain⟨a,vs,rfl,ha,hl,_⟩:=Sat.kidsT sa ea
  refine tru_ok pins s σ H _ v Q I rx ⟨_,.inr (.inl ⟨vs,by rw [hK]; exact ha,rfl⟩),?_⟩
  have:xs.isEmpty=vs.isEmpty:=by cases xs <;> cases vs <;> first | rfl | simp at hl
  rw [← this]; exact q
 | dic ks ds =>
  rw [ea]at e d
  have e:(if(ks.all fun k=>(keyOf k).isSome)=true then some (! ks.isEmpty)else none)=some k:=e
  split at e
  ·rename_i hk
   injection e with e
   subst e
   obtain⟨a,ws,rfl,dr,dl⟩:=qB sa d
   obtain rfl:v=Value.ref a:=rx
   rcases dr with⟨js,q1,rd,q3⟩ | ⟨js,q1,rd,q3⟩
   ·refine d_truth I rd fun s' I'=>⟨H,I',?_⟩
    have hl:=gE q1
    have:ks.isEmpty=(js.zip ws).isEmpty:=by
     cases ks <;> cases js <;> cases ws <;> first | rfl | simp at hl q3
    rw [← this]; exact q
   ·cases ks with
    | nil =>
     injection q1 with q1
     subst q1
     obtain⟨dd,hd⟩:=iN I rd
     exact wpAny_truthy_dict hd dd (by simp) ⟨H,I.tok _,q⟩
    | cons j ks =>
     have h1:=eL q1 j List.mem_cons_self
     have h2:=List.all_eq_true.mp hk j List.mem_cons_self
     obtain⟨jj,ej⟩:=Option.isSome_iff_exists.mp h2
     rw [cR ej]at h1; cases h1
  ·cases e
 | obj C ns xs=>rw [ea]at e; cases e
 | exc C p=>rw [ea]at e; cases e
theorem Ca {σ:L2.St}{l:List aW}{H:Hp}{ρ:Env}{v:V}{Q:Bool→Hp→Prop}{α:Arg}{β:Type}{f:Bool→Env→Res β}{K:β→Env→Prop} (at_:At T B H ρ σ (ao α v++l)) (av:nK σ α v)
  (h:RG T B W σ l ((aB α ρ).bind fun o ρ=>(Res.of (qy o.frz) ρ).bind fun b ρ=>f b (back α o ρ)) K) (q:∀ b ρ',At T B H ρ' σ l→RG T B W σ l (f b ρ') K→Q b H):Es T B v H Q:=by
 have h:=h.bind
 cases e:aB α ρ with
 | bad=>rw [e]at h; exact h.elim
 | exc C p ρ' =>
  cases α with
  | val o=>cases e
  | slot i =>
   have e:bnd (aq ρ i) (fun o=>Res.ok o (aB.taken o i ρ)) = .exc C p ρ':=e
   cases q:aq ρ i <;> rw [q]at e <;> cases e
 | ok o ρ1 =>
  rw [e]at h
  have h:RG T B W σ l ((Res.of (qy o.frz) ρ1).bind fun b ρ=>f b (back α o ρ)) K:=h
  obtain⟨b,eb,h⟩:=h.bind.of
  have a1:=lQ at_ av e
  exact⟨o,af ρ1 σ++l,b,a1.sat.perm List.perm_middle,eb,q b _ (xN a1 av) h⟩
def lV:Expr→Bool
 | .UnaryOp .Not _ _=>false
 | .BoolOp _ _ _=>false
 | .IfExp _ _ _ _=>false
 | .Compare _ _ _ _=>false
 | _=>true
theorem uC {e:Expr}{env:PySem.Env} (h:lV e=true) (whole:Sem Value):PySem.isTrue e env whole=(do let v ← whole; standAt e.pos; holding [v] (truthy v)):=by
 cases e with
 | UnaryOp op x p=>cases op <;> first | rfl | cases h
 | _=>first | rfl | cases h
theorem Eu (hK:X.K=T.K) (ha:PE X a (tA T B Φ W sa)) (he:lV a=true) (hs:∀ ρ,kh Φ sa ρ=(dB Φ sa ρ).bind fun a ρ=>(aB a ρ).bind fun o ρ=>(Res.of (qy o.frz) ρ).bind fun b ρ=>.ok b (back a o ρ)):PT X a (tT T B Φ W sa):=by
 refine⟨fun pins s σ H Q I ⟨ρ,l,at_,h⟩=>?_⟩
 rw [hs]at h
 have h1:tA T B Φ W sa σ H fun x H'=>Es T B x H' Q:=⟨ρ,l,at_,h.bind.mono fun α ρ1 k v H1 a1 av=>Ca a1 av k fun b ρ' a2 k2=>k2 H1 a2⟩
 exact isTrue_plain (thn (ha.run pins s σ H _ I h1) fun v s1 ⟨x,H1,I1,r1,q1⟩=>Et hK pins s1 σ H1 x v Q I1 r1 q1) (uC he _)
theorem dI (ha:PT X a (tT T B Φ W sa)):PT X (.UnaryOp .Not a pos) (tT T B Φ W (.bnot sa)) :=
 (pt_not ha).pv fun σ H Q ⟨ρ,l,at_,h⟩=>by
  rw [kh]at h
  exact⟨ρ,l,at_,h.bind.mono fun b ρ1 k H1 a1=>k H1 a1⟩
theorem RG.eq {T:Tab}{B:Base}{W:WX}{σ:L2.St}{l:List aW}{α:Type}{r:Res α}{K:α→Env→Prop} (h:RG T B W σ l r K):RG T B W σ l r fun a ρ=>r = .ok a ρ∧K a ρ:=by
 cases r with
 | ok a ρ=>exact⟨rfl,h⟩
 | exc C p ρ=>exact h
 | bad=>exact h
theorem Aa {k:Cm}{as:List Arg}{sh:Bool}{ρ ρ':Env}{o:O} (e:mN (zy k) sh as ρ = .ok o ρ'):∃ b,o = .d (.bl b):=by
 unfold mN at e
 obtain⟨os,ρ1,_,e⟩:=Res.bind_of e
 obtain⟨r,ρ2,e1,e⟩:=Res.bind_of e
 injection e with e _
 subst e
 cases q:zy k (os.map O.frz)with
 | none=>rw [q]at e1; cases e1
 | some r' =>
  rw [q]at e1
  injection e1 with e1 _
  subst e1
  match hos:os.map O.frz,q with
  | [x,y],q =>
   obtain⟨b,_,h⟩:=Option.map_eq_some_iff.mp (show(au k x y).map (fun b=>O.d (.bl b))=some r' from q)
   exact⟨b,h.symm⟩
  | [],q=>cases q
  | [_],q=>cases q
  | _::_::_::_,q=>cases q
theorem uD {se:SE}{ρ:Env} (h:kh Φ se ρ=(dB Φ se ρ).bind fun a ρ=>(aB a ρ).bind fun o ρ=>(Res.of (qy o.frz) ρ).bind fun b ρ=>.ok b (back a o ρ)) (h2:dB Φ se ρ=(ev Φ se ρ).bind fun o ρ=>.ok (.val o) ρ) :
  kh Φ se ρ=(ev Φ se ρ).bind fun o ρ=>(Res.of (qy o.frz) ρ).bind fun b ρ=>.ok b ρ:=by
 rw [h,h2]
 generalize ev Φ se ρ=r
 cases r <;> rfl
theorem At.bl1 {σ:L2.St}{l:List aW}{H:Hp}{ρ:Env}{v:V}{b:Bool} (a:At T B H ρ σ ((.d (.bl b),v)::l)):v = .bl b:=by
 have d:=(ae.perm a.sat List.perm_middle).read
 exact d
theorem bf (hK:X.K=T.K) (hu:X.A.units+200 < cLine) {k:Cm} (ha:PE X a (tA T B Φ W sa)) (hb:PE X b (tA T B Φ W sb)) (hm:behindInMarks (qI k) b=false):PT X (.Compare a [qI k] [b] pos) (tT T B Φ W (.cm k sa sb)) :=
 (pt_cmpR (z4 (T:=T) (B:=B) hK hu k) ha hb hm).pv fun σ H Q ⟨ρ,l,at_,h⟩=>by
  rw [uD (by rw [kh]; all_goals simp) (by rw [dB]; all_goals simp),ev]at h
  refine vH (Q:=fun x H'=>∃ k,x = .bl k∧Q k H') at_ (h.bind.eq.mono fun o ρ1 k2 v H1 a1=>?_)
  obtain⟨ee,k2⟩:=k2
  obtain⟨_,_,_,ee⟩:=Res.bind_of ee
  obtain⟨_,_,_,ee⟩:=Res.bind_of ee
  obtain⟨b,eb⟩:=Aa ee
  subst eb
  have k2:∀ H',At T B H' ρ1 σ l→Q b H':=k2
  exact⟨b,a1.bl1,k2 H1 a1.drop⟩
theorem Ew (hK:X.K=T.K) (hu:X.A.units+200 < cLine) {k j:Cm}{σ:L2.St}{l:List aW}{H:Hp}{ρ:Env}{Q:VK} (at_:At T B H ρ σ l)
  (h:RG T B W σ l (ev Φ (.cm2 k j sa sb sc) ρ) fun o ρ=>∀ v H,At T B H ρ σ ((o,v)::l)→Q v H) :
  tChain (fun x y H Q=>dW T B (zy k) false [x,y] H Q) (fun x y H Q=>dW T B (zy j) false [x,y] H Q) (tA T B Φ W sa) (tA T B Φ W sb) (tA T B Φ W sc) σ H Q:=by
 rw [ev]at h
 refine⟨ρ,l,at_,h.bind.mono fun α ρ1 k1 v H1 a1 av=>⟨ρ1,ao α v++l,a1,RG.more (k1.bind.mono fun β ρ2 k2 w H2 a2 aw=>?_)⟩⟩
 obtain⟨_,ep,k2⟩:=k2.bnd
 have dup:At T B H2 ρ2 σ (ay [α,β] [v,w]++(ao β w++l)):=by
  cases β with
  | slot i=>exact a2.perm qh
  | val o =>
   cases o with
   | d x =>
    have s:At T B H2 ρ2 σ ((.d x,w)::(ao α v++l)):=a2
    have s2:At T B H2 ρ2 σ ((.d x,w)::(.d x,w)::(ao α v++l)):=⟨s.ok,((ae.perm s.sat List.perm_middle).dup).perm (List.perm_middle.trans (List.perm_middle.cons _)).symm,s.pr⟩
    refine s2.perm ?_
    show(((O.d x,w))::(O.d x,w)::(ao α v++l)).Perm ((ao α v++([(O.d x,w)]++[]))++([(O.d x,w)]++l))
    have p1:(((O.d x,w))::(O.d x,w)::(ao α v++l)).Perm ((O.d x,w)::(ao α v++(O.d x,w)::l)):=(List.perm_middle.symm).cons _
    refine p1.trans ?_
    rw [List.append_nil,List.append_assoc]
    exact List.perm_middle.symm
   | _=>cases ep
 refine iD (as:=[α,β]) (l:=ao β w++l) (RG.more (k2.bind.eq.mono fun o ρ3 k3 u H3 a3=>?_)) dup ⟨av,aw,trivial⟩
 obtain⟨ee,k3⟩:=k3
 obtain⟨b,eb⟩:=Aa ee
 subst eb
 refine⟨b,a3.bl1,?_⟩
 obtain⟨t,et,k3⟩:=k3.bnd
 injection et with et
 subst et
 have a4:=a3.drop
 cases b with
 | false =>
  have k3:∀ v H,At T B H ρ3 σ ((.d (.bl false),v)::l)→Q v H:=k3
  rw [if_neg Bool.false_ne_true]
  have a5:=a4.keepR
  exact k3 _ _ ⟨a5.ok,a5.sat.bl.perm List.perm_middle.symm,a5.pr⟩
 | true =>
  have k3:RG T B W σ l ((dB Φ sc ρ3).bind fun z ρ=>mN (zy j) false [β,z] ρ) fun o ρ=>∀ v H,At T B H ρ σ ((o,v)::l)→Q v H:=k3
  rw [if_pos rfl]
  refine⟨ρ3,ao β w++l,a4,RG.more (k3.bind.mono fun γ ρ4 k4 z H4 a6 az=>?_)⟩
  exact iD (as:=[β,γ]) k4 (a6.perm qh) ⟨aw,az,trivial⟩
theorem Ab (hK:X.K=T.K) (hu:X.A.units+200 < cLine) {k j:Cm} (ha:PE X a (tA T B Φ W sa)) (hb:PE X b (tA T B Φ W sb)) (hc:PE X c (tA T B Φ W sc)) (hm:lastMarks [qI k,qI j] [b,c]=false):PT X (.Compare a [qI k,qI j] [b,c] pos) (tT T B Φ W (.cm2 k j sa sb sc)) :=
 (pt_chain (z4 (T:=T) (B:=B) hK hu k) (z4 (T:=T) (B:=B) hK hu j) ha hb hc hm).pv fun σ H Q ⟨ρ,l,at_,h⟩=>by
  rw [uD (by rw [kh]; all_goals simp) (by rw [dB]; all_goals simp)]at h
  refine Ew (Q:=fun x H'=>∃ k,x = .bl k∧Q k H') hK hu at_ (h.bind.eq.mono fun o ρ1 k2 v H1 a1=>?_)
  obtain⟨ee,k2⟩:=k2
  have:∃ b,o = .d (.bl b):=by
   rw [ev]at ee
   obtain⟨_,_,_,ee⟩:=Res.bind_of ee
   obtain⟨y,ρy,_,ee⟩:=Res.bind_of ee
   cases q:iB y with
   | none=>rw [q]at ee; cases ee
   | some _ =>
    rw [q]at ee
    obtain⟨r,ρr,_,ee⟩:=Res.bind_of ee
    cases q2:vx r with
    | none=>rw [q2]at ee; cases ee
    | some t =>
     rw [q2]at ee
     cases t with
     | false=>injection ee with ee; exact⟨false,ee.symm⟩
     | true =>
      obtain⟨_,_,_,ee⟩:=Res.bind_of (show((dB Φ sc ρr).bind fun z ρ=>mN (zy j) false [y,z] ρ) = .ok o ρ1 from ee)
      exact Aa ee
  obtain⟨b,eb⟩:=this
  subst eb
  have k2:∀ H',At T B H' ρ1 σ l→Q b H':=k2
  exact⟨b,a1.bl1,k2 H1 a1.drop⟩
theorem At.blR {σ:L2.St}{l:List aW}{H:Hp}{ρ:Env}{b:Bool} (a:At T B H ρ σ l):At T B H ρ σ ((.d (.bl b),.bl b)::l):=⟨a.ok,a.sat.bl.perm List.perm_middle.symm,a.pr⟩
theorem jw (h:PT X a (tT T B Φ W sa)):PW X (.BoolOp .And [a] pos) (uB T B Φ W [sa]):=(pw_and1 h).pv fun σ H Q ⟨ρ,l,at_,h⟩=>⟨ρ,l,at_,by
 rw [d7]at h
 refine h.bind.mono fun b ρ1 k H1 a1=>?_
 cases b with
 | true =>
  have k:RG T B W σ l (d7 Φ [] ρ1) fun b ρ'=>∀ H',At T B H' ρ' σ l→Q b H':=k
  rw [d7]at k
  exact k H1 a1
 | false=>exact k H1 a1⟩
theorem lW (h:PT X a (tT T B Φ W sa)):PW X (.BoolOp .Or [a] pos) (xT T B Φ W [sa]):=(pw_or1 h).pv fun σ H Q ⟨ρ,l,at_,h⟩=>⟨ρ,l,at_,by
 rw [il]at h
 refine h.bind.mono fun b ρ1 k H1 a1=>?_
 cases b with
 | false =>
  have k:RG T B W σ l (il Φ [] ρ1) fun b ρ'=>∀ H',At T B H' ρ' σ l→Q b H':=k
  rw [il]at k
  exact k H1 a1
 | true=>exact k H1 a1⟩
theorem lX {sb:SE} (ha:PT X a (tT T B Φ W sa)) (hb:PW X (.BoolOp .And (b::es) pos) (uB T B Φ W (sb::ses))):PW X (.BoolOp .And (a::b::es) pos) (uB T B Φ W (sa::sb::ses)) :=
 (pw_and ha hb).pv fun σ H Q ⟨ρ,l,at_,h⟩=>by
  rw [d7]at h
  refine⟨ρ,l,at_,h.bind.mono fun t ρ1 k H1 a1=>?_⟩
  cases t with
  | true=>rw [if_pos rfl]; exact⟨ρ1,l,a1,k⟩
  | false=>rw [if_neg Bool.false_ne_true]; exact k H1 a1
theorem nQ {sb:SE} (ha:PT X a (tT T B Φ W sa)) (hb:PW X (.BoolOp .Or (b::es) pos) (xT T B Φ W (sb::ses))):PW X (.BoolOp .Or (a::b::es) pos) (xT T B Φ W (sa::sb::ses)) :=
 (pw_or ha hb).pv fun σ H Q ⟨ρ,l,at_,h⟩=>by
  rw [il]at h
  refine⟨ρ,l,at_,h.bind.mono fun t ρ1 k H1 a1=>?_⟩
  cases t with
  | false=>rw [if_neg Bool.false_ne_true]; exact⟨ρ1,l,a1,k⟩
  | true=>rw [if_pos rfl]; exact k H1 a1
theorem jz (h:PW X (.BoolOp .And es pos) (uB T B Φ W ses)):PT X (.BoolOp .And es pos) (tT T B Φ W (.band ses)):=h.pt.pv fun σ H Q ⟨ρ,l,at_,h⟩=>⟨ρ,l,at_,by rw [kh]at h; exact h⟩
theorem lY (h:PW X (.BoolOp .Or es pos) (xT T B Φ W ses)):PT X (.BoolOp .Or es pos) (tT T B Φ W (.bor ses)):=h.pt.pv fun σ H Q ⟨ρ,l,at_,h⟩=>⟨ρ,l,at_,by rw [kh]at h; exact h⟩
theorem qJ (hc:PT X c (tT T B Φ W sc)) (ha:PE X a (tE T B Φ W sa)) (hb:PE X b (tE T B Φ W sb)):PE X (.IfExp c a b pos) (tE T B Φ W (.ite sc sa sb)) :=
 (pe_ifExp hc ha hb).pv fun σ H Q ⟨ρ,l,at_,h⟩=>by
  rw [ev]at h
  refine⟨ρ,l,at_,h.rg.bind.mono fun t ρ1 k H1 a1=>?_⟩
  cases t with
  | true=>rw [if_pos rfl]; exact⟨ρ1,l,a1,RG.rp k⟩
  | false=>rw [if_neg Bool.false_ne_true]; exact⟨ρ1,l,a1,RG.rp k⟩
def tP (T:Tab) (B:Base) (Φ:cW) (W:WX) (s:SE):TO:=fun σ H Q=>∃ ρ l,At T B H ρ σ l∧RG T B W σ l ((dB Φ s ρ).bind fun y ρ=>bnd (eW s y ρ) fun _=>.ok y ρ) fun y ρ'=>∀ v H',At T B H' ρ' σ (ao y v++l)→nK σ y v→∀ lo,vG v lo→Q lo H'
theorem iY:PO X none (tP T B Φ W (.lit .non)):=⟨fun pins s σ H Q I ⟨ρ,l,a,h⟩=>by
 have e:dB Φ (.lit .non) ρ = .ok (.val (.d .non)) ρ:=by
  rw [dB,ev]
  ·rfl
  all_goals simp
 rw [e]at h
 have h:∀ v H',At T B H' ρ σ (ao (.val (.d .non)) v++l)→nK σ (.val (.d .non)) v→∀ lo,vG v lo→Q lo H':=h
 exact po_none.run pins s σ H Q I (h .non H ⟨a.ok,a.sat.non.perm List.perm_middle.symm,a.pr⟩ trivial none (.inl ⟨rfl,rfl⟩))⟩
def isNon:SE→Bool
 | .lit .non=>true
 | _=>false
theorem Ex {σ:L2.St}{l:List aW}{H:Hp}{ρ:Env}{y:Arg}{v:V}{i:Int} (a:At T B H ρ σ (ao y v++l)) (av:nK σ y v) (e:iU y ρ=some (.d (.int i))):v = .int i:=by
 cases y with
 | val o =>
  have e:some o=some (.d (.int i)):=e
  injection e with e
  subst e
  exact(ae.perm (m:=(O.d (.int i),v)::(af ρ σ++l)) a.sat List.perm_middle).read
 | slot j =>
  have av:σ[j]?=some (some v):=av
  exact(ae.perm (a.take e av).sat List.perm_middle).read
theorem gF (hs:isNon se=false) (h:PE X e (tA T B Φ W se)):PO X (some e) (tP T B Φ W se):=⟨fun pins s σ H Q I ⟨ρ,l,a,h1⟩=>by
 refine(po_some h).run pins s σ H Q I ⟨ρ,l,a,h1.bind.mono fun y ρ1 k v H1 a1 av=>?_⟩
 obtain⟨_,ep,k⟩:=k.bnd
 have:∃ i,iU y ρ1=some (.d (.int i)):=by
  unfold eW at ep
  split at ep
  ·cases hs
  ·split at ep
   ·rename_i i h; exact⟨i,h⟩
   ·cases ep
 obtain⟨i,ei⟩:=this
 have ev':=Ex a1 av ei
 exact⟨i,ev',k v H1 a1 av (some i) (.inr ⟨i,ev',rfl⟩)⟩⟩
theorem mP (hK:X.K=T.K) {lo hi:Option Expr}{p2:Pos} (ha:PE X a (tA T B Φ W sa)) (hl:PO X lo (tP T B Φ W sb)) (hh:PO X hi (tP T B Φ W sc)):PE X (.Subscript a (.Slice lo hi none p2) pos) (tE T B Φ W (.slc sa sb sc)) :=
 (pe_slice (Gx (T:=T) (B:=B) hK) ha hl hh).pv fun σ H Q ⟨ρ,l,at_,h⟩=>by
  rw [ev]at h
  refine⟨ρ,l,at_,h.rg.bind.mono fun α ρ1 k1 v H1 a1 av=>⟨ρ1,ao α v++l,a1,?_⟩⟩
  have k1:=k1.bind
  cases e1:dB Φ sb ρ1 with
  | bad=>rw [e1]at k1; exact k1.elim
  | exc C p ρ'=>rw [e1]at k1; exact fun d H its a=>k1 d H its a.dropM
  | ok β ρ2 =>
   rw [e1]at k1
   obtain⟨u,eu,k1⟩:=RG.bnd k1
   show RG T B W σ (ao α v++l) (bnd (eW sb β ρ2) fun _=>Res.ok β ρ2) _
   rw [eu]
   intro w H2 a2 aw lo' hlo
   refine⟨ρ2,ao β w++(ao α v++l),a2,?_⟩
   have k2:=k1.bind
   cases e2:dB Φ sc ρ2 with
   | bad=>rw [e2]at k2; exact k2.elim
   | exc C p ρ'=>rw [e2]at k2; exact fun d H its a=>k2 d H its a.dropM.dropM
   | ok γ ρ3 =>
    rw [e2]at k2
    obtain⟨u2,eu2,k2⟩:=RG.bnd k2
    show RG T B W σ _ (bnd (eW sc γ ρ3) fun _=>Res.ok γ ρ3) _
    rw [eu2]
    intro z H3 a3 az hi' hhi
    exact⟨w,z,hlo,hhi,iD (as:=[α,β,γ]) k2 (a3.perm yY) ⟨av,aw,az,trivial⟩⟩
end
end PV
namespace PV
open PySem PySem.Spec PyProof.Rows L2
def xU (T:Tab) (B:Base) (r:bC) (vs:List V) (l:List aW) (Q:VK) (E:XK):Prop:=match r with
 | .ok o ios=>∀ u H',ios.length=vs.length→Sat T B H' ((o,u)::(ios.zip vs++l))→Q u H'
 | .exc C p ios=>∀ d H' its,ios.length=vs.length→Sat T B H' (its++(ios.zip vs++l))→pF T H' C p d its→E (.ref (T.cls C)) d H'
 | .bad=>False
def bD (T:Tab) (run:List O→bC):Sp:=fun vs H Q E=>∃ (B:Base) (os:List O) (l:List aW),os.length=vs.length∧Sat T B H (os.zip vs++l)∧xU T B (run os) vs l Q E
section
variable {T:Tab}{B:Base}{Φ:cW}{W:WX}{X:Cx}{e a b c:Expr}{es:List Expr}{se sa sb sc:SE}{ses:List SE}{pos p:Pos}{i:Nat}{x:Str}
theorem m7:∀ {as:List Arg}{ρ ρ1:Env}{C:Nat}{p:List D},cX as ρ≠.exc C p ρ1:=by
 intro as
 induction as with
 | nil=>intro ρ ρ1 C p z; cases z
 | cons a as ih =>
  intro ρ ρ1 C p z
  have z:((aB a ρ).bind fun o ρ=>(cX as ρ).bind fun os ρ=>Res.ok (o::os) ρ) = .exc C p ρ1:=z
  cases ea:aB a ρ with
  | ok o ρ2 =>
   rw [ea]at z
   cases eb:cX as ρ2 with
   | ok os ρ3=>rw [Res.bind_ok,eb]at z; cases z
   | exc C' p' ρ3=>exact ih eb
   | bad=>rw [Res.bind_ok,eb]at z; cases z
  | exc C' p' ρ2 =>
   cases a with
   | val o=>cases ea
   | slot i =>
    have ea:bnd (aq ρ i) (fun o=>Res.ok o (aB.taken o i ρ)) = .exc C' p' ρ2:=ea
    cases q:aq ρ i <;> rw [q]at ea <;> cases ea
  | bad=>rw [ea]at z; cases z
theorem call_of {run:List O→bC}{n:Nat}{as:List Arg}{vs:List V}{σ:L2.St}{l:List aW}{H:Hp}{ρ:Env}{Q:VK} (h:RG T B W σ l (eT ⟨n,run⟩ as ρ) fun o ρ=>∀ v H,At T B H ρ σ ((o,v)::l)→Q v H)
  (a:At T B H ρ σ (ay as vs++l)) (av:bY σ as vs):bD T run vs H Q (WE W σ):=by
 unfold eT at h
 have h:=h.bind
 cases e:cX as ρ with
 | bad=>rw [e]at h; exact h.elim
 | exc C p ρ'=>exact(m7 e).elim
 | ok os ρ1 =>
  rw [e]at h
  obtain⟨hl,a1⟩:=kl a av e
  refine⟨B,os,af ρ1 σ++l,hl,a1.sat.perm ak,?_⟩
  have h:RG T B W σ l ((run os).to as ρ1) fun o ρ=>∀ v H,At T B H ρ σ ((o,v)::l)→Q v H:=h
  unfold xU
  cases er:run os with
  | bad=>rw [er]at h; exact h.elim
  | ok r ios =>
   rw [er]at h
   have h:∀ v H,At T B H (aL as ios ρ1) σ ((r,v)::l)→Q v H:=h
   intro u H' hi s
   refine h u H' (dC (as:=as) (os:=ios) (vs:=vs) hi ⟨a1.ok,s.perm ?_,a1.pr⟩ av)
   have p1:((r,u)::(ios.zip vs++(af ρ1 σ++l))).Perm ((r,u)::(af ρ1 σ++(ios.zip vs++l))):=ak.cons _
   refine p1.trans (List.perm_middle.symm.trans ?_)
   exact(List.perm_middle.symm).append_left _
  | exc C p ios =>
   rw [er]at h
   have h:∀ d H its,At T B H (aL as ios ρ1) σ (its++l)→pF T H C p d its→W (.ref (T.cls C)) d σ H:=h
   intro d H' its hi s ei
   refine h d H' its (dC (as:=as) (os:=ios) (vs:=vs) hi ⟨a1.ok,s.perm ?_,a1.pr⟩ av) ei
   have p1:(its++(ios.zip vs++(af ρ1 σ++l))).Perm (its++(af ρ1 σ++(ios.zip vs++l))):=ak.append_left _
   have p2:(its++(af ρ1 σ++(ios.zip vs++l))).Perm (af ρ1 σ++(its++(ios.zip vs++l))):=ak
   exact p1.trans (p2.trans (ak.append_left _))
section
variable {k:Nat}{f:Addr}{fd:FuncData}{ps:List Str}{fi n:Nat}{run:List O→bC}
theorem s_call (F:FnOk X.prog X.w X.K X.mg X.base (L2.CX X.prog X.w) k f fd ps (bD T run)) (hΦ:Φ fi=⟨n,run⟩) (hr:Room k X.A) (hg:Gl X x) (hm:X.mg x=some (.ref f)) (hk:PySem.W.keepIn X.K (.ref f)=true) (hb:Binds X.K fd ps []) (tk:Takes X W)
  (ha:PA X (e::es) (tJ T B Φ W ses)) (hdb:(x == ("__debug__" : Str))=false) (he:starEach (e::es) X.env=(false,eval e X.env)::starEach es X.env) (hpl:(backTo pos (starEach es X.env)).any (·.1)=false):PE X (.Call (.Name x p) (e::es) [] pos) (tE T B Φ W (.call fi ses)) :=
 (pe_callS (E:=WE W) F hr hg hm hk hb (fun σ=>passAt tk σ) ha hdb he hpl).pv fun σ H Q ⟨ρ,l,at_,h⟩=>by
  rw [ev,hΦ]at h
  exact⟨ρ,l,at_,h.rg.bind.mono fun as ρ1 k1 vs H1 a1 av=>call_of k1 a1 av⟩
end
end
end PV
namespace PV
open PySem PySem.Spec PyProof.Rows L2
section
variable {T:Tab}{B:Base}{Φ:cW}{W:WX}{X:Cx}{e a b c:Expr}{es:List Expr}{se sa sb sc:SE}{ses:List SE}{pos p:Pos}{i:Nat}{x:Str}
theorem Ac {k:Nat}{f:List D→Option O}{sh:Bool}{xs:List V}{H:Hp}{Q:VK} (h:dW T B f sh xs H Q) (hk:∀ as r,f as=some r→as.length=k):xs.length=k:=by
 obtain⟨os,l,r,hl,s,e,q⟩:=h
 rw [← hl,← hk _ _ e,List.length_map]
theorem m8 {f:List D→Option O}{sh:Bool}{xs:List V}{H:Hp}{Q:VK} (h:dW T B f sh xs H Q) (hk:∀ as r,f as=some r→as.length=1):∃ x,xs = [x]:=by
 have:=Ac h hk
 match xs,this with
 | [x],_=>exact⟨x,rfl⟩
theorem Ey {f:List D→Option O}{sh:Bool}{xs:List V}{H:Hp}{Q:VK} (h:dW T B f sh xs H Q) (hk:∀ as r,f as=some r→as.length=2):∃ x y,xs = [x,y]:=by
 have:=Ac h hk
 match xs,this with
 | [x,y],_=>exact⟨x,y,rfl⟩
theorem kL {k:Fn} (hk:k≠.min2∧k≠.max2) {as:List D}{r:O} (e:w2 k as=some r):as.length=1:=by
 match as,e with
 | [],e=>cases e
 | [_],_=>rfl
 | [x,y],e =>
  have e:Ei k x y=some r:=e
  cases k <;> first | exact absurd rfl hk.1 | exact absurd rfl hk.2 | cases e
 | _::_::_::_,e=>cases e
theorem lZ:∀ {ks:List D}{js:List (List Key)},aM ks=some js→js.length=ks.length
 | [],js,e=>by injection e with e; subst e; rfl
 | k::ks,js,e=>by
  unfold aM at e
  cases e1:aI k with
  | none=>rw [e1]at e; cases e
  | some kk =>
   cases e2:aM ks with
   | none=>rw [e1,e2]at e; cases e
   | some r' =>
    rw [e1,e2]at e
    injection e with e
    subst e
    simp [lZ e2]
theorem Ez (hK:X.K=T.K):CallR X (.builtin "len") (fun xs H Q=>dW T B (w2 .len) false xs H Q):=by
 intro pins s σ H xs us Q I r h
 obtain⟨y,rfl⟩:=m8 h fun as r e=>kL ⟨by decide,by decide⟩ e
 obtain⟨o,l,r0,sa,e,q⟩:=oI h
 have d:=sa.read
 cases ea:o.frz with
 | lst xs =>
  rw [ea]at e
  injection e with e; subst e
  obtain⟨a,vs,rfl,ha,hl,s1⟩:=Sat.kidsL sa ea
  exact call_len_seq pins s σ H _ us Q I r ⟨a,vs,rfl,.inl (by rw [hK]; exact ha),by rw [← hl]; exact q _ _ sa.int⟩
 | tup xs =>
  rw [ea]at e
  injection e with e; subst e
  obtain⟨a,vs,rfl,ha,hl,s1⟩:=Sat.kidsT sa ea
  exact call_len_seq pins s σ H _ us Q I r ⟨a,vs,rfl,.inr (by rw [hK]; exact ha),by rw [← hl]; exact q _ _ sa.int⟩
 | str z =>
  rw [ea]at e d
  have d:y = .str z:=d
  subst d
  have e:(if z.length≤sizeLine then some (O.d (.int z.length))else none)=some r0:=e
  split at e
  ·rename_i hz
   injection e with e; subst e
   exact call_len_str pins s σ H _ us Q I r ⟨z,rfl,hz,q _ _ sa.int⟩
  ·cases e
 | dic ks ds =>
  rw [ea]at e
  injection e with e; subst e
  obtain⟨a,vs,rfl,ha,hl,s1⟩:=Sat.kidsD sa ea
  have fin:=q _ _ sa.int
  obtain⟨u,rfl,rx⟩:=vals1 r
  cases rx
  rcases ha with⟨js,q1,rd,q3⟩ | ⟨js,q1,rd,q3⟩
  ·have hz:(js.zip vs).length=ks.length:=by rw [List.length_zip,q3,Nat.min_self,← q3,gE q1]
   refine d_len I rd fun t s' I'=>?_
   rw [hz]
   exact⟨.int (ks.length:Nat),H,I',⟨t,rfl⟩,fin⟩
  ·have hz:(js.zip vs).length=ks.length:=by rw [List.length_zip,q3,Nat.min_self,← q3,lZ q1]
   obtain⟨z,hd,ys,rel,dd⟩:=dt_rd I.hok rd
   have hy:(js.zip vs).length=ys.length:=Paired.length rel
   refine call_len_dictH hd dd (by rw [← hy]; rw [sizeLine_eq]at z; omega) ?_
   rw [← hy,hz]
   exact⟨.int (ks.length:Nat),H,I.tok _,⟨_,rfl⟩,fin⟩
 | _=>rw [ea]at e; cases e
theorem oK:∀ {ks:List D}{js:List Key}{l:List aW}{H:Hp}{hs:List Addr},keysOf ks=some js→ae T B H hs l→ae T B H hs ((ks.map O.d).zip (js.map kV)++l)
 | [],js,l,H,hs,e,s=>by
  have e:some ([]:List Key)=some js:=e
  cases e
  exact s
 | k::ks,js,l,H,hs,e,s=>by
  unfold keysOf at e
  cases e1:keyOf k with
  | none=>rw [e1]at e; cases e
  | some kk =>
   cases e2:keysOf ks with
   | none=>rw [e1,e2]at e; cases e
   | some r' =>
    rw [e1,e2]at e
    injection e with e
    subst e
    refine ae.lit (l:=(ks.map O.d).zip (r'.map kV)++l) (oK e2 s) fun own h=>?_
    cases k with
    | int i=>injection e1 with e1; subst e1; rfl
    | str i=>injection e1 with e1; subst e1; rfl
    | _=>cases e1
theorem Cb (hK:X.K=T.K) (hc:X.calm=true):CallR X (.type "list") (fun xs H Q=>dW T B (w2 .list) true xs H Q):=by
 intro pins s σ H xs us Q I r h
 obtain⟨y,rfl⟩:=m8 h fun as r e=>kL ⟨by decide,by decide⟩ e
 obtain⟨o,l,r0,sa,e,q⟩:=oI h
 rw [if_pos rfl]at q
 cases ea:o.frz with
 | lst xs =>
  rw [ea]at e
  injection e with e; subst e
  obtain⟨a,vs,rfl,ha,hl,s1⟩:=Sat.kidsL sa ea
  exact call_list_of pins s σ H _ us Q I r ⟨a,vs,rfl,.inl (by rw [hK]; exact ha),fun p hp=>q _ _ (Sat.newL s1 (by simp [hl]) hp)⟩
 | tup xs =>
  rw [ea]at e
  injection e with e; subst e
  obtain⟨a,vs,rfl,ha,hl,s1⟩:=Sat.kidsT sa ea
  exact call_list_of pins s σ H _ us Q I r ⟨a,vs,rfl,.inr (by rw [hK]; exact ha),fun p hp=>q _ _ (Sat.newL s1 (by simp [hl]) hp)⟩
 | dic ks ds =>
  rw [ea]at e
  have e:(if(ks.all fun k=>(keyOf k).isSome)=true then some (O.lst (ks.map .d))else none)=some r0:=e
  split at e
  ·rename_i hk
   injection e with e; subst e
   obtain⟨a,vs,rfl,ha,hl,s1⟩:=Sat.kidsD sa ea
   have s2:=ae.dropL s1
   rcases ha with⟨js,q1,rd,q3⟩ | ⟨js,q1,rd,q3⟩
   ·refine call_listD hc pins s σ H _ us Q I r ⟨a,js.zip vs,rfl,rd,fun p hp=>q _ _ ?_⟩
    have e2:((js.zip vs).map fun kv=>kV kv.1)=js.map kV:=by
     rw [show(fun kv:Key×V=>kV kv.1)=kV∘Prod.fst from rfl,← List.map_map,List.map_fst_zip (by omega)]
    rw [e2]
    exact Sat.newL (oK q1 s2) (by simp [gE q1]) hp
   ·cases ks with
    | nil =>
     injection q1 with q1
     subst q1
     obtain⟨u,rfl,rx⟩:=vals1 r
     cases rx
     obtain⟨dd,hd⟩:=iN I rd
     obtain⟨ep,hat⟩:=dd.dictAt
     refine PySem.W.kdl_call (PySem.W.kdl_dict (knd:=mixKind X.prog X.w) (kvs:=[]) (ep:=ep) hd) (I.ok.hd hc) hat (Nat.zero_le _) fun h' tk acc c' hk hD hacc=>?_
     have ha:acc.toList = []:=by
      have:=hacc.1
      simpa using this
     refine⟨.ref s.heap.objs.size,upd H s.heap.objs.size (.lst []),I.laid (t':=tk) hk (Nat.le_refl _) (show ObjOk X.prog X.w _ _ _ (.lst [])from⟨Nat.zero_le _,[],c',.nil,by rw [← ha,Array.toArray_toList]; exact hD⟩),rfl,q _ _ ?_⟩
     exact Sat.newL (os:=[]) (vs:=[]) s2 rfl (I.hok.fresh (Nat.le_refl _))
    | cons j ks =>
     have h1:=eL q1 j List.mem_cons_self
     have h2:=List.all_eq_true.mp hk j List.mem_cons_self
     obtain⟨jj,ej⟩:=Option.isSome_iff_exists.mp h2
     rw [cR ej]at h1; cases h1
  ·cases e
 | _=>rw [ea]at e; cases e
theorem vI {prog:Program}{w:World}{A:Around}{E:Value→Shared→Prop}{s:Shared}{T:String}{r d:Addr}{n:Nat}{P:Nat→Value→Prop}{OK:Heap→Prop}{Q:List Value→Shared→Prop} (K:PySem.W.KdlSrc prog w T r d n P OK) (hh:A.handled=none) (hok:OK s.heap) (hn:n≤sizeLine)
  (hQ:∀ (h':Heap) (tk:Nat) (acc:Array Value),(∀ b o,s.heap.get? b=some o→h'.get? b=some o)→ItemsOf P acc n→Q acc.toList {s with heap:=h',toks:=tk}):wpAny (model prog w) A (collect (.ref r)) Q E s:=by
 unfold collect
 refine wpAny_bind (wpAny_runValue (codeAny_builtin PySem.F.entry_proto_collect ?_))
 rw [Around.under_plainId PySem.F.plain_proto_collect _]
 show wpAny _ A.in1 (newList [] >>= fun l=>again (.builtin "list.__iadd__" ⟨[l,.ref r],[]⟩)) _ _ s
 refine wpAny_bind (wpAny_newObj_type ?_)
 refine wpAny_pure ⟨plainId_quiet PySem.F.plain_list_iadd _,codeAny_builtin PySem.F.entry_list_iadd ?_⟩
 rw [Around.under_plainId PySem.F.plain_list_iadd _]
 show wpAny _ A.in1 (Builtin.List.listExtendWith (.ref s.heap.objs.size) (.ref r) (.ref s.heap.objs.size)) _ _ _
 have hS:(s.heap.push {cls:=.type "list",data:=.seq ([]:List Value).toArray}).get? s.heap.objs.size=some {cls:=.type "list",data:=.seq #[] 0}:=Heap.get?_push_size _ rfl
 have lt:=K.there _ hok
 refine wpAny_mono (PySem.W.kdl_extend (A:=A) (R:=fun rr s'=>rr = .ok (.ret (.ref s.heap.objs.size))∧∃ (h':Heap) (tk:Nat) (acc:Array Value) (c':Nat),s'={s with heap:=h',toks:=tk} ∧
   (∀ b o,s.heap.get? b=some o→h'.get? b=some o)∧h'.get? s.heap.objs.size=some {cls:=.type "list",dict:=none,data:=.seq acc c',slots:=#[]}∧ItemsOf P acc n)
  (s:={s with heap:=s.heap.push {cls:=.type "list",data:=.seq ([]:List Value).toArray}}) K hh (K.keep _ _ hok fun b _ o e=>Heap.get?_push_of_some _ e) s.heap.objs.size (Nat.ne_of_gt lt.1) (Nat.ne_of_gt lt.2) (.ref s.heap.objs.size) 0 hS
  (fun h' tk acc c' hk e hi=>⟨rfl,h',tk,acc,c',rfl,fun b o q=>hk b o (Nat.ne_of_lt (Heap.lt_size q)) (Heap.get?_push_of_some _ q),e,hi⟩) hn) (fun fin s' h=>?_) (fun e s' h=>?_)
 ·cases fin with
  | done f =>
   obtain⟨e,h',tk,acc,c',rfl,hk,hS',hi⟩:=h
   cases e
   show wpAny _ A (load s.heap.objs.size >>= _) _ _ _
   exact wpAny_bind (wpAny_load hS' (wpAny_pure (hQ h' tk acc hk hi)))
  | again c' =>
   refine⟨h.1,codeAny_mono h.2 fun rr s'' hr'=>?_⟩
   obtain⟨rfl,h',tk,acc,c',rfl,hk,hS',hi⟩:=hr'
   show wpAny _ A (load s.heap.objs.size >>= _) _ _ _
   exact wpAny_bind (wpAny_load hS' (wpAny_pure (hQ h' tk acc hk hi)))
 ·exact absurd h.1 (by simp)
theorem w9 {prog:Program}{w:World}{A:Around}{E:Value→Shared→Prop}{s:Shared}{r d:Addr}{n:Nat}{P:Nat→Value→Prop}{OK:Heap→Prop}{Q₁:Value→Shared→Prop} (K:PySem.W.KdlSrc prog w "dict" r d n P OK) (hh:A.handled=none) (hok:OK s.heap) (hn:n≤sizeLine)
  (h:∀ (h':Heap) (tk:Nat) (acc:Array Value),(∀ b o,s.heap.get? b=some o→h'.get? b=some o)→ItemsOf P acc n →
   Q₁ (.ref h'.objs.size) {s with heap:=h'.push {cls:=.type "tuple",data:=.seq acc},toks:=tk}) :
  codeAny (model prog w) A (.call (.builtin "tuple.__new__") ⟨[.type "tuple",.ref r],[]⟩) (wants Q₁ E) s:=by
 refine codeAny_of_tree ?_
 show wpAny _ A.in1 (do checkBuiltinCall "tuple.__new__" ⟨[.type "tuple",.ref r],[]⟩; again (.builtin "tuple.__new__" ⟨[.type "tuple",.ref r],[]⟩)) _ _ s
 refine wpAny_bind (wpAny_of_eq (PySem.F.newCall_tuple_1 _) (wpAny_pure ⟨plainId_quiet PySem.F.plain_tuple_new _,codeAny_builtin PySem.F.entry_tuple_new ?_⟩))
 rw [Around.under_plainId PySem.F.plain_tuple_new _]
 have hsub:=sub_tuple_self
 have hinit:=init_tuple_lookup
 have hmh:=madeHere_tuple
 have hTI:s.TypeIs (.ref r) "dict" := K.type s hok
 have hh1:A.in1.handled=none:=hh
 wp_walk using wpAny_typeOf hTI,vI (A:=A.in1) K hh1 hok hn
 intro h' tk acc hk hacc
 show wpAny _ _ (Builtin.Tuple.tupleExact acc.toList.toArray >>= fun v=>ret v) _ _ _
 unfold Builtin.Tuple.tupleExact
 refine wpAny_bind (wpAny_newObj_type ?_ (by show acc.toList.toArray.size≤sizeLine; simp only [Array.toArray_toList]; rw [hacc.1]; exact hn))
 refine wpAny_pure ?_
 have e:acc.toList.toArray=acc:=by simp
 rw [e]
 exact h h' tk acc hk hacc
theorem xV {prog:Program}{w:World}{A:Around}{E:Value→Shared→Prop}{s:Shared}{r d:Addr}{n:Nat}{P:Nat→Value→Prop}{OK:Heap→Prop}{Q:Value→Shared→Prop} (K:PySem.W.KdlSrc prog w "dict" r d n P OK) (hh:A.handled=none) (hok:OK s.heap) (hn:n≤sizeLine)
  (hQ:∀ (h':Heap) (tk:Nat) (acc:Array Value),(∀ b o,s.heap.get? b=some o→h'.get? b=some o)→ItemsOf P acc n →
   Q (.ref h'.objs.size) {s with heap:=h'.push {cls:=.type "tuple",data:=.seq acc},toks:=tk}) :
  wpAny (model prog w) A (call (.type "tuple") [.ref r]) Q E s:=by
 refine callType_codes (Q₁:=fun obj s₁=>s₁.TypeIs obj "tuple" ∧ Q obj s₁) PySem.F.called_tuple (PySem.F.typeCall_tuple_1 _) PySem.F.entry_object_init
  (w9 (A:=A.in1) K hh hok hn fun h' tk acc hk hacc=>⟨⟨_,Heap.get?_push_size _ rfl,rfl⟩,hQ h' tk acc hk hacc⟩) fun obj s₁ h₁=>?_
 exact⟨h₁.1,PySem.F.args_object_init_2 obj _,object_init_meets PySem.F.called_tuple.init.lookup PySem.F.called_tuple.made (by decide) prog w A.in1 _ s₁ ⟨h₁.1,rfl,h₁.2⟩⟩
theorem vJ (hcalm:X.calm=true):CallR X (.type "tuple") (fun xs H Q=>∃ (a:Addr) (kvs:List (Key×V)),xs = [.ref a]∧Rd H a (.dK kvs)∧∀ p,H p=none→Q (.ref p) (upd H p (.tup (kvs.map fun kv=>kV kv.1)))):=by
 intro pins s σ H xs us Q I r q
 obtain⟨a,kvs,ex,hd,q⟩:=q
 subst ex
 obtain⟨u,eu,rx⟩:=vals1 r
 subst eu
 cases rx
 obtain⟨z,lo,vs,rel,dd⟩:=dk_rd I.hok hd
 obtain⟨ep,hat⟩:=dd.dictAt
 have ek:(kvs.map fun kv=>kV kv.1)=vs.map fun p=>kV p.1:=by
  have e:=congrArg (List.map kV) rel.keys
  rw [List.map_map,List.map_map]at e
  exact e
 refine xV (PySem.W.kdl_dict (knd:=mixKind X.prog X.w) (kvs:=vs) (ep:=ep) lo) (I.ok.hd hcalm) hat (by rw [← rel.length]; exact z) fun h' tk acc hk hacc=>?_
 have hv:Vals (vs.map fun p=>kV p.1) acc.toList:=keys_at (by rw [Array.length_toList]; exact hacc.1) fun j v e=>hacc.2 j v (by rw [← Array.getElem?_toList]; exact e)
 have I2:Inv X pins σ H {s with heap:=h',toks:=tk}:=I.kept hk
 refine⟨.ref h'.objs.size,upd H h'.objs.size (.tup (kvs.map fun kv=>kV kv.1)),I2.laid (t':=tk) (fun c o e=>Heap.get?_push_of_some _ e) (Nat.le_refl _) (show ObjOk X.prog X.w _ _ _ (.tup (kvs.map fun kv=>kV kv.1))from⟨by rw [List.length_map]; exact z,acc.toList,by rw [ek]; exact hv,?_⟩),rfl,q _ (I2.hok.fresh (Nat.le_refl _))⟩
 rw [Array.toArray_toList]; exact IsTup.new _ _
theorem Ad (hK:X.K=T.K) (hc:X.calm=true):CallR X (.type "tuple") (fun xs H Q=>dW T B (w2 .tuple) true xs H Q):=by
 intro pins s σ H xs us Q I r h
 obtain⟨y,rfl⟩:=m8 h fun as r e=>kL ⟨by decide,by decide⟩ e
 obtain⟨o,l,r0,sa,e,q⟩:=oI h
 rw [if_pos rfl]at q
 cases ea:o.frz with
 | lst xs =>
  rw [ea]at e
  injection e with e; subst e
  obtain⟨a,vs,rfl,ha,hl,s1⟩:=Sat.kidsL sa ea
  exact call_tuple_of pins s σ H _ us Q I r ⟨a,vs,rfl,.inl ⟨by rw [hK]; exact ha,fun p hp=>q _ _ (Sat.newTd s1 hl hp)⟩⟩
 | tup xs =>
  rw [ea]at e
  injection e with e; subst e
  have s2:=Sat.dupT sa ea
  obtain⟨a,vs,rfl,ha,hl,s1⟩:=Sat.kidsT sa ea
  exact call_tuple_of pins s σ H _ us Q I r ⟨a,vs,rfl,.inr ⟨by rw [hK]; exact ha,q _ _ s2⟩⟩
 | dic ks ds =>
  rw [ea]at e
  have e:(if(ks.all fun k=>(keyOf k).isSome)=true then some (O.d (.tup ks))else none)=some r0:=e
  split at e
  ·rename_i hk
   injection e with e; subst e
   obtain⟨a,vs,rfl,ha,hl,s1⟩:=Sat.kidsD sa ea
   have s2:=ae.dropL s1
   rcases ha with⟨js,q1,rd,q3⟩ | ⟨js,q1,rd,q3⟩
   ·refine vJ hc pins s σ H _ us Q I r ⟨a,js.zip vs,rfl,rd,fun p hp=>q _ _ ?_⟩
    have e2:((js.zip vs).map fun kv=>kV kv.1)=js.map kV:=by
     rw [show(fun kv:Key×V=>kV kv.1)=kV∘Prod.fst from rfl,← List.map_map,List.map_fst_zip (by omega)]
    rw [e2]
    exact Sat.newTd (oK q1 s2) (by simp [gE q1]) hp
   ·cases ks with
    | nil =>
     injection q1 with q1
     subst q1
     obtain⟨u,rfl,rx⟩:=vals1 r
     cases rx
     obtain⟨dd,hd⟩:=iN I rd
     obtain⟨ep,hat⟩:=dd.dictAt
     refine xV (PySem.W.kdl_dict (knd:=mixKind X.prog X.w) (kvs:=[]) (ep:=ep) hd) (I.ok.hd hc) hat (Nat.zero_le _) fun h' tk acc hk hacc=>?_
     have ha:acc.toList = []:=by
      have hz:=hacc.1
      exact List.eq_nil_of_length_eq_zero (by rw [Array.length_toList]; exact hz)
     have I2:Inv X pins σ H {s with heap:=h',toks:=tk}:=I.kept hk
     refine⟨.ref h'.objs.size,upd H h'.objs.size (.tup []),I2.laid (t':=tk) (fun c o e=>Heap.get?_push_of_some _ e) (Nat.le_refl _) (show ObjOk X.prog X.w _ _ _ (.tup [])from⟨Nat.zero_le _,[],.nil,by rw [← ha,Array.toArray_toList]; exact IsTup.new _ _⟩),rfl,q _ _ ?_⟩
     exact Sat.newTd (xs:=[]) (vs:=[]) s2 rfl (I2.hok.fresh (Nat.le_refl _))
    | cons j ks =>
     have h1:=eL q1 j List.mem_cons_self
     have h2:=List.all_eq_true.mp hk j List.mem_cons_self
     obtain⟨jj,ej⟩:=Option.isSome_iff_exists.mp h2
     rw [cR ej]at h1; cases h1
  ·cases e
 | _=>rw [ea]at e; cases e
theorem EA:CallR X (.builtin "abs") (fun xs H Q=>dW T B (w2 .abs) false xs H Q):=by
 intro pins s σ H xs us Q I r h
 obtain⟨y,rfl⟩:=m8 h fun as r e=>kL ⟨by decide,by decide⟩ e
 obtain⟨o,l,r0,sa,e,q⟩:=oI h
 have d:=sa.read
 cases ea:o.frz with
 | int i =>
  rw [ea]at e d
  have d:y = .int i:=d
  subst d
  injection e with e; subst e
  exact call_abs pins s σ H _ us Q I r ⟨i,rfl,q _ _ sa.int⟩
 | _=>rw [ea]at e; cases e
theorem EB:CallR X (.type "int") (fun xs H Q=>dW T B (w2 .int) false xs H Q):=by
 intro pins s σ H xs us Q I r h
 obtain⟨y,rfl⟩:=m8 h fun as r e=>kL ⟨by decide,by decide⟩ e
 obtain⟨o,l,r0,sa,e,q⟩:=oI h
 have d:=sa.read
 cases ea:o.frz with
 | int i =>
  rw [ea]at e d
  have d:y = .int i:=d
  subst d
  injection e with e; subst e
  exact call_int1 pins s σ H _ us Q I r (.inl ⟨i,rfl,q _ _ sa.int⟩)
 | bl k =>
  rw [ea]at e d
  have d:y = .bl k:=d
  subst d
  injection e with e; subst e
  exact call_int1 pins s σ H _ us Q I r (.inr ⟨k,rfl,q _ _ sa.int⟩)
 | _=>rw [ea]at e; cases e
theorem Cc {k:Fn} (hk:k = .min2∨k = .max2) {as:List D}{r:O} (e:w2 k as=some r):as.length=2:=by
 match as,e with
 | [],e=>cases e
 | [x],e =>
  have e:mL k x=some r:=e
  rcases hk with rfl | rfl <;> cases e
 | [_,_],_=>rfl
 | _::_::_::_,e=>cases e
theorem DH (hc:X.calm=true) {k:Fn} (hk:k = .min2∨k = .max2):CallR X (.builtin (match k with | .min2 => "min" | _ => "max")) (fun xs H Q=>dW T B (w2 k) false xs H Q):=by
 intro pins s σ H xs us Q I r h
 obtain⟨y,z,rfl⟩:=Ey h fun as r e=>Cc hk e
 obtain⟨o,p,l,r0,sa,e,q⟩:=zP h
 have d1:=sa.read
 have d2:=sa.read2
 cases ea:o.frz with
 | int i =>
  rw [ea]at e d1
  have d1:y = .int i:=d1
  subst d1
  cases eb:p.frz with
  | int j =>
   rw [eb]at e d2
   have d2:z = .int j:=d2
   subst d2
   rcases hk with rfl | rfl
   ·injection e with e; subst e
    exact call_min2 hc pins s σ H _ us Q I r ⟨i,j,rfl,q _ _ sa.int⟩
   ·injection e with e; subst e
    exact call_max2 hc pins s σ H _ us Q I r ⟨i,j,rfl,q _ _ sa.int⟩
  | _=>rw [eb]at e; rcases hk with rfl | rfl <;> cases e
 | _=>rw [ea]at e; rcases hk with rfl | rfl <;> cases e
theorem m9 {own:Addr→Prop}{h:Hp}:∀ {xs:List D}{bs:List Bool}{vs:List V},fJ xs=some bs→lP T own h xs vs→vs=bs.map V.bl
 | [],bs,vs,e,d=>by
  have d:vs = []:=d
  injection e with e
  subst e d; rfl
 | x::xs,bs,vs,e,d=>by
  obtain⟨v,r,rfl,d1,d2⟩:=d
  cases x with
  | bl b =>
   have e:(fJ xs).map (b :: ·)=some bs:=e
   obtain⟨r',e1,e2⟩:=Option.map_eq_some_iff.mp e
   subst e2
   have d1:v = .bl b:=d1
   rw [d1,m9 e1 d2]; rfl
  | _=>cases e
theorem Cd (hK:X.K=T.K) (hc:X.calm=true):CallR X (.builtin "all") (fun xs H Q=>dW T B (w2 .all) false xs H Q):=by
 intro pins s σ H xs us Q I r h
 obtain⟨y,rfl⟩:=m8 h fun as r e=>kL ⟨by decide,by decide⟩ e
 obtain⟨o,l,r0,sa,e,q⟩:=oI h
 have d:=sa.read
 cases ea:o.frz with
 | lst xs =>
  rw [ea]at e d
  have e:(fJ xs).map (fun bs=>O.d (.bl (bs.all id)))=some r0:=e
  obtain⟨bs,e1,e2⟩:=Option.map_eq_some_iff.mp e
  subst e2
  obtain⟨a,vs,rfl,ha,dl⟩:=vz sa d
  have:=m9 e1 dl
  subst this
  exact cr_all hc pins s σ H _ us Q I r ⟨a,bs,rfl,by rw [hK]; exact ha,q _ _ sa.bl⟩
 | _=>rw [ea]at e; cases e
theorem Ce (hK:X.K=T.K) (hc:X.calm=true):CallR X (.builtin "any") (fun xs H Q=>dW T B (w2 .any) false xs H Q):=by
 intro pins s σ H xs us Q I r h
 obtain⟨y,rfl⟩:=m8 h fun as r e=>kL ⟨by decide,by decide⟩ e
 obtain⟨o,l,r0,sa,e,q⟩:=oI h
 have d:=sa.read
 cases ea:o.frz with
 | lst xs =>
  rw [ea]at e d
  have e:(fJ xs).map (fun bs=>O.d (.bl (bs.any id)))=some r0:=e
  obtain⟨bs,e1,e2⟩:=Option.map_eq_some_iff.mp e
  subst e2
  obtain⟨a,vs,rfl,ha,dl⟩:=vz sa d
  have:=m9 e1 dl
  subst this
  exact cr_any hc pins s σ H _ us Q I r ⟨a,bs,rfl,by rw [hK]; exact ha,q _ _ sa.bl⟩
 | _=>rw [ea]at e; cases e
def fnName:Fn→Str
 | .len => "len" | .list => "list" | .tuple => "tuple" | .abs => "abs" | .int => "int" | .min2 => "min" | .max2 => "max" | .any => "any" | .all => "all" | _ => ""
theorem d8 {k:Fn} (hK:X.K=T.K) (hc:X.calm=true) (hn:x=fnName k) (hx:(x == ("" : Str))=false) (hg:Gl X x) (hm:X.mg x=none) (ha:PA X (e::es) (tJ T B Φ W ses))
  (he:starEach (e::es) X.env=(false,eval e X.env)::starEach es X.env) (hpl:(backTo pos (starEach es X.env)).any (·.1)=false):PE X (.Call (.Name x p) (e::es) [] pos) (tE T B Φ W (.fn k ses)):=by
 have go:∀ {r:List V→Hp→VK→Prop},r=(fun xs H Q=>dW T B (w2 k) (pZ k) xs H Q)→PE X (.Call (.Name x p) (e::es) [] pos) (tCB r (tJ T B Φ W ses))→PE X (.Call (.Name x p) (e::es) [] pos) (tE T B Φ W (.fn k ses)):=by
  intro r er h
  subst er
  refine h.pv fun σ H Q ⟨ρ,l,at_,h⟩=>?_
  rw [ev]at h
  exact⟨ρ,l,at_,h.rg.bind.mono fun as ρ1 k1 vs H1 a1 av=>iD k1 a1 av⟩
 subst hn
 cases k with
 | len=>exact go rfl (pe_callB (Ez hK) hg hm rfl ha (by decide) (by decide) he hpl)
 | list=>exact go rfl (pe_callTy (Cb hK hc) hg hm rfl ha (by decide) (by decide) he hpl)
 | tuple=>exact go rfl (pe_callTy (Ad hK hc) hg hm rfl ha (by decide) (by decide) he hpl)
 | abs=>exact go rfl (pe_callB EA hg hm rfl ha (by decide) (by decide) he hpl)
 | int=>exact go rfl (pe_callTy EB hg hm rfl ha (by decide) (by decide) he hpl)
 | min2=>exact go rfl (pe_callB (DH hc (.inl rfl)) hg hm rfl ha (by decide) (by decide) he hpl)
 | max2=>exact go rfl (pe_callB (DH hc (.inr rfl)) hg hm rfl ha (by decide) (by decide) he hpl)
 | any=>exact go rfl (pe_callB (Ce hK hc) hg hm rfl ha (by decide) (by decide) he hpl)
 | all=>exact go rfl (pe_callB (Cd hK hc) hg hm rfl ha (by decide) (by decide) he hpl)
 | _=>exact absurd hx (by decide)
end
end PV
namespace PV
open PySem PySem.Spec PyProof.Rows L2
section
variable {T:Tab}{B:Base}{Φ:cW}{W:WX}{X:Cx}{H H':Hp}{hs:List Addr}{l m:List aW}{o y:O}{v w:V}{a:Addr}
def Cf (h:Hp) (a:Addr) (k:D) (w:V):Prop:=(∃ kvs kk,h a=some (.dK kvs)∧keyOf k=some kk∧valV kvs kk=some w)∨∃ kvs kk,h a=some (.dT kvs)∧aI k=some kk∧valV kvs kk=some w
def Stays (hs:List Addr) (H H':Hp):Prop:=(∀ b∈hs,H' b=H b)∧∀ b xs,H b=some (.tup xs)→H' b=some (.tup xs)
def jS (T:Tab) (h:Hp) (v:V) (k:D) (w:V):Prop:=∃ a,v = .ref a∧((∃ vs i,(h a=some (.lst vs)∨h a=some (.tup vs))∧k = .int i∧atI vs i=some w)∨Cf h a k w∨∃ C dx fs f,h a=some (.ins (T.cls C) dx fs)∧k = .exc C [.str f,.non]∧fs.lookup f=some w)
def fm (T:Tab) (h:Hp):V→List D→V→Prop
 | v,[],x=>x=v
 | v,k::ks,x=>∃ w,jS T h v k w∧fm T h w ks x
theorem jS.inj {h:Hp}{v w w':V}{k:D} (a:jS T h v k w) (b:jS T h v k w'):w=w':=by
 obtain⟨p,rfl,a⟩:=a
 obtain⟨q,e,b⟩:=b
 injection e with e
 subst e
 rcases a with⟨vs,i,h1 | h1,rfl,h2⟩ | (⟨kvs,kk,h1,h2,h3⟩ | ⟨kvs,kk,h1,h2,h3⟩) | ⟨C,dx,fs,f,h1,h2,h3⟩ <;>
  rcases b with⟨vs',i',g1 | g1,g0,g2⟩ | (⟨kvs',kk',g1,g2,g3⟩ | ⟨kvs',kk',g1,g2,g3⟩) | ⟨C',dx',fs',f',g1,g2,g3⟩ <;> rw [h1]at g1 <;> first | (cases g1; done) | skip
 ·cases g1; cases g0; rw [h2]at g2; exact Option.some.inj g2
 ·cases g1; cases g0; rw [h2]at g2; exact Option.some.inj g2
 ·cases g1; rw [h2]at g2; cases g2; rw [h3]at g3; exact Option.some.inj g3
 ·cases g1; rw [h2]at g2; cases g2; rw [h3]at g3; exact Option.some.inj g3
 ·injection g1 with g1; injection g1 with g4 g5 g6; subst g6; rw [h2]at g2; injection g2 with g7 g8; injection g8 with g8 _; injection g8 with g8; subst g8; rw [h3]at g3; exact Option.some.inj g3
theorem fm.inj {h:Hp}:∀ {ks:List D}{v x x':V},fm T h v ks x→fm T h v ks x'→x=x'
 | [],v,x,x',a,b=>by
  have a:x=v:=a
  have b:x'=v:=b
  rw [a,b]
 | k::ks,v,x,x',a,b=>by
  obtain⟨w,a1,a2⟩:=a
  obtain⟨w',b1,b2⟩:=b
  rw [a1.inj b1]at a2
  exact a2.inj b2
theorem fm.unsnoc {h:Hp}{k:D}:∀ {ks:List D}{v w:V},fm T h v (ks++[k]) w→∃ x,fm T h v ks x∧jS T h x k w
 | [],v,w,a=>by
  obtain⟨u,a1,a2⟩:=a
  have a2:w=u:=a2
  subst a2
  exact⟨v,rfl,a1⟩
 | j::ks,v,w,a=>by
  obtain⟨u,a1,a2⟩:=a
  obtain⟨x,b1,b2⟩:=fm.unsnoc a2
  exact⟨x,⟨u,a1,b1⟩,b2⟩
theorem xW {k:D}{kk:Key} (ek:keyOf k=some kk):∀ {ks:List D}{js:List Key}{ws:List V}{n:Nat},keysOf ks=some js→js.length=ws.length→dG k ks=some n→valV (js.zip ws) kk=ws[n]?
 | [],js,ws,n,e,hl,p=>by cases p
 | j::ks,js,ws,n,e,hl,p=>by
  unfold keysOf at e
  cases e1:keyOf j with
  | none=>rw [e1]at e; cases e
  | some jj =>
   cases e2:keysOf ks with
   | none=>rw [e1,e2]at e; cases e
   | some r' =>
    rw [e1,e2]at e
    injection e with e
    subst e
    match ws,hl with
    | w::r,hl =>
     unfold dG at p
     by_cases hc:jj=kk
     ·subst hc
      rw [if_pos ⟨by rw [e1,ek],by rw [cR e1,cR ek]⟩]at p
      injection p with p
      subst p
      exact valV_pos rfl
     ·rw [if_neg (fun z=>hc (by have:=z.1; rw [e1,ek]at this; exact Option.some.inj this))]at p
      obtain⟨n',p1,p2⟩:=Option.map_eq_some_iff.mp p
      subst p2
      rw [List.zip_cons_cons,valV_neg hc,xW ek e2 (by simpa using hl) p1]
      simp
theorem xX {k:D}{kk:List Key} (ek:aI k=some kk):∀ {ks:List D}{js:List (List Key)}{ws:List V}{n:Nat},aM ks=some js→js.length=ws.length→dG k ks=some n→valV (js.zip ws) kk=ws[n]?
 | [],js,ws,n,e,hl,p=>by cases p
 | j::ks,js,ws,n,e,hl,p=>by
  unfold aM at e
  cases e1:aI j with
  | none=>rw [e1]at e; cases e
  | some jj =>
   cases e2:aM ks with
   | none=>rw [e1,e2]at e; cases e
   | some r' =>
    rw [e1,e2]at e
    injection e with e
    subst e
    match ws,hl with
    | w::r,hl =>
     unfold dG at p
     by_cases hc:jj=kk
     ·subst hc
      rw [if_pos ⟨by rw [iC e1,iC ek],by rw [e1,ek]⟩]at p
      injection p with p
      subst p
      exact valV_pos rfl
     ·rw [if_neg (fun z=>hc (by have:=z.2; rw [e1,ek]at this; exact Option.some.inj this))]at p
      obtain⟨n',p1,p2⟩:=Option.map_eq_some_iff.mp p
      subst p2
      rw [List.zip_cons_cons,valV_neg hc,xX ek e2 (by simpa using hl) p1]
      simp
theorem iZ {p:aW}:∀ {l:List aW}{j:Nat},l[j]?=some p→l.Perm (p::l.eraseIdx j)
 | [],j,e=>by simp at e
 | q::l,0,e=>by
  simp at e
  subst e
  exact .refl _
 | q::l,j+1,e=>((iZ (l:=l) (j:=j) (by simpa using e)).cons q).trans (.swap _ _ _)
theorem mB {os:List O}{vs:List V}{j:Nat}{y:O}{w:V} (e1:os[j]?=some y) (e2:vs[j]?=some w):(os.zip vs).Perm ((y,w)::(os.zip vs).eraseIdx j)∧∀ y',((y',w)::(os.zip vs).eraseIdx j).Perm ((os.set j y').zip vs):=by
 have e:(os.zip vs)[j]?=some (y,w):=by rw [List.getElem?_zip_eq_some]; exact⟨e1,e2⟩
 obtain⟨hj,hv⟩:=List.getElem?_eq_some_iff.mp e
 obtain⟨hj1,_⟩:=List.getElem?_eq_some_iff.mp e1
 obtain⟨hj2,hv2⟩:=List.getElem?_eq_some_iff.mp e2
 refine⟨iZ e,fun y'=>?_⟩
 have es:(os.set j y').zip vs=(os.zip vs).set j (y',w):=by
  apply List.ext_getElem?
  intro i
  by_cases hi:i=j
  ·subst hi
   rw [List.getElem?_set_self hj,List.getElem?_zip_eq_some]
   exact⟨List.getElem?_set_self hj1,e2⟩
  ·rw [List.getElem?_set_ne (Ne.symm hi)]
   simp only [List.zip,List.getElem?_zipWith,List.getElem?_set_ne (Ne.symm hi)]
 rw [es]
 have p:=iZ (l:=(os.zip vs).set j (y',w)) (j:=j) (List.getElem?_set_self hj)
 rw [List.eraseIdx_set_eq]at p
 exact p.symm
theorem qK {C:Nat}{ns:List Str}{xs:List O}{k:D}{y:O}{g:O→O} (e:dO (.obj C ns xs) k=some (y,g)):∃ f j y0,k = .exc C [.str f,.non]∧jP f ns=some j∧xs[j]?=some y0∧y=y0∧g=fun z=>.obj C ns (xs.set j z):=by
 cases k with
 | exc C' p =>
  match p,e with
  | [.str f,.non],e =>
   have e:(if C'=C then(match jP f ns with
    | some j=>(match xs[j]? with
     | some y=>some (y,fun z=>O.obj C ns (xs.set j z))
     | none=>none)
    | none=>none)else none)=some (y,g):=e
   by_cases hc:C'=C
   ·rw [if_pos hc]at e
    subst hc
    cases e1:jP f ns with
    | none=>simp only [e1]at e; cases e
    | some j =>
     simp only [e1]at e
     cases e2:xs[j]? with
     | none=>simp only [e2]at e; cases e
     | some y0 =>
      simp only [e2]at e
      injection e with e
      injection e with e3 e4
      exact⟨f,j,y0,rfl,e1,e2,e3.symm,e4.symm⟩
   ·rw [if_neg hc]at e; cases e
 | _=>cases e
theorem Ae {f:Str}:∀ {ns:List Str}{vs:List V}{j:Nat},ns.length=vs.length→jP f ns=some j→(ns.zip vs).lookup f=vs[j]?
 | [],vs,j,_,e=>by cases e
 | n::ns,[],j,hl,e=>by simp at hl
 | n::ns,v::vs,j,hl,e=>by
  unfold jP at e
  by_cases hn:n=f
  ·rw [if_pos hn]at e
   injection e with e
   subst e hn
   simp [List.lookup]
  ·rw [if_neg hn]at e
   obtain⟨i,e1,e2⟩:=Option.map_eq_some_iff.mp e
   subst e2
   have h2:(f == n)=false:=by simpa using fun z=>hn z.symm
   rw [List.zip_cons_cons,List.lookup_cons,h2]
   rw [List.getElem?_cons_succ]
   exact Ae (by simpa using hl) e1
theorem mC {k:D}{g:O→O} (s:ae T B H hs ((o,v)::l)) (e:dO o k=some (y,g)):∃ a ad w rest,v = .ref a∧jS T (vw B.Z H) v k w∧ae T B H (ad++hs) ((y,w)::(rest++l)) ∧
  ∀ H' y' m,Stays ad H H'→ae T B H' (ad++hs) ((y',w)::(rest++m))→ae T B H' hs ((g y',v)::m):=by
 cases o with
 | tup xs =>
  cases k with
  | int i =>
   have e:(match ixN xs.length i with
    | some j=>(match xs[j]? with
     | some y=>some (y,fun z=>O.tup (xs.set j z))
     | none=>none)
    | none=>none)=some (y,g):=e
   cases e1:ixN xs.length i with
   | none=>simp only [e1]at e; cases e
   | some j =>
    simp only [e1]at e
    cases e2:xs[j]? with
    | none=>simp only [e2]at e; cases e
    | some y0 =>
     simp only [e2]at e
     injection e with e
     injection e with e3 e4
     subst e3 e4
     obtain⟨a,vs,rfl,ha,hl,s1⟩:=s.openT
     obtain⟨hj,_⟩:=List.getElem?_eq_some_iff.mp e2
     have hw:vs[j]?=some (vs[j]'(by omega)):=List.getElem?_eq_getElem (by omega)
     obtain⟨p1,p2⟩:=mB e2 hw
     have nz:vw B.Z H a=H a:=bU fun z=>by
      obtain⟨u2,e2,mu⟩:=s.lk a z
      rw [ha]at e2
      cases e2
     refine⟨a,[],_,(xs.zip vs).eraseIdx j,rfl,⟨a,rfl,.inl ⟨vs,i,.inr (by rw [nz]; exact ha),rfl,?_⟩⟩,s1.perm (p1.append_right l),fun H' y' m hH s2=>?_⟩
     ·have e1':ixN vs.length i=some j:=by rw [← hl]; exact e1
      unfold atI
      rw [e1']
      exact hw
     ·exact(ae.perm s2 ((p2 y').append_right m)).closeT (hH.2 a vs ha) (by simpa using hl)
  | _=>cases e
 | lst xs =>
  cases k with
  | int i =>
   have e:(match ixN xs.length i with
    | some j=>(match xs[j]? with
     | some y=>some (y,fun z=>O.lst (xs.set j z))
     | none=>none)
    | none=>none)=some (y,g):=e
   cases e1:ixN xs.length i with
   | none=>simp only [e1]at e; cases e
   | some j =>
    simp only [e1]at e
    cases e2:xs[j]? with
    | none=>simp only [e2]at e; cases e
    | some y0 =>
     simp only [e2]at e
     injection e with e
     injection e with e3 e4
     subst e3 e4
     obtain⟨a,vs,rfl,ha,hl,s1⟩:=s.openL
     obtain⟨hj,_⟩:=List.getElem?_eq_some_iff.mp e2
     have hw:vs[j]?=some (vs[j]'(by omega)):=List.getElem?_eq_getElem (by omega)
     obtain⟨p1,p2⟩:=mB e2 hw
     have nz:vw B.Z H a=H a:=by
      obtain⟨F,r,nd,c⟩:=s1.reps
      exact bU (c a List.mem_cons_self).2.2.1
     refine⟨a,[a],_,(xs.zip vs).eraseIdx j,rfl,⟨a,rfl,.inl ⟨vs,i,.inl (by rw [nz]; exact ha),rfl,?_⟩⟩,s1.perm (p1.append_right l),fun H' y' m hH s2=>?_⟩
     ·have e1':ixN vs.length i=some j:=by rw [← hl]; exact e1
      unfold atI
      rw [e1']
      exact hw
     ·exact(ae.perm (hs:=a::hs) s2 ((p2 y').append_right m)).closeL (by rw [hH.1 a List.mem_cons_self]; exact ha) (by simpa using hl)
  | _=>cases e
 | dic ks xs =>
  have e:(if bG k ks=true then(match dG k ks with
   | some j=>(match xs[j]? with
    | some y=>some (y,fun z=>O.dic ks (xs.set j z))
    | none=>none)
   | none=>none)else none)=some (y,g):=e
  by_cases hk:bG k ks=true
  ·rw [if_pos hk]at e
   cases e1:dG k ks with
   | none=>simp only [e1]at e; cases e
   | some j =>
    simp only [e1]at e
    cases e2:xs[j]? with
    | none=>simp only [e2]at e; cases e
    | some y0 =>
     simp only [e2]at e
     injection e with e
     injection e with e3 e4
     subst e3 e4
     obtain⟨a,vs,rfl,ha,hl,s1⟩:=s.openD
     obtain⟨hj,_⟩:=List.getElem?_eq_some_iff.mp e2
     have hw:vs[j]?=some (vs[j]'(by omega)):=List.getElem?_eq_getElem (by omega)
     obtain⟨p1,p2⟩:=mB e2 hw
     have nz:vw B.Z H a=H a:=by
      obtain⟨F,r,nd,c⟩:=s1.reps
      exact bU (c a List.mem_cons_self).2.2.1
     refine⟨a,[a],_,(xs.zip vs).eraseIdx j,rfl,⟨a,rfl,.inr (.inl ?_)⟩,s1.perm (p1.append_right l),fun H' y' m hH s2=>?_⟩
     ·unfold bG at hk
      rw [Bool.or_eq_true,Bool.and_eq_true,Bool.and_eq_true]at hk
      unfold Cf
      rw [nz]
      rcases ha with⟨js,q1,q2,q3⟩ | ⟨js,q1,q2,q3⟩
      ·rcases hk with⟨hk,hal⟩ | ⟨hk,hal⟩
       ·obtain⟨kk,ek⟩:=Option.isSome_iff_exists.mp hk
        exact .inl ⟨_,kk,q2,ek,(xW ek q1 q3 e1).trans hw⟩
       ·cases ks with
        | nil=>cases e1
        | cons j0 ks =>
         have h1:=kn q1 j0 List.mem_cons_self
         have h2:=List.all_eq_true.mp hal j0 List.mem_cons_self
         obtain⟨jj,ej⟩:=Option.isSome_iff_exists.mp h2
         rw [iC ej]at h1; cases h1
      ·rcases hk with⟨hk,hal⟩ | ⟨hk,hal⟩
       ·cases ks with
        | nil=>cases e1
        | cons j0 ks =>
         have h1:=eL q1 j0 List.mem_cons_self
         have h2:=List.all_eq_true.mp hal j0 List.mem_cons_self
         obtain⟨jj,ej⟩:=Option.isSome_iff_exists.mp h2
         rw [cR ej]at h1; cases h1
       ·obtain⟨kk,ek⟩:=Option.isSome_iff_exists.mp hk
        exact .inr ⟨_,kk,q2,ek,(xX ek q1 q3 e1).trans hw⟩
     ·exact(ae.perm (hs:=a::hs) s2 ((p2 y').append_right m)).closeD (by rw [hH.1 a List.mem_cons_self]; exact ha) (by simpa using hl)
  ·rw [if_neg hk]at e; cases e
 | obj C ns xs =>
  obtain⟨f,j,y0,rfl,e1,e2,rfl,rfl⟩:=qK e
  obtain⟨a,dx,vs,rfl,ha,hn,hl,s1⟩:=s.openO
  obtain⟨hj,_⟩:=List.getElem?_eq_some_iff.mp e2
  have hw:vs[j]?=some (vs[j]'(by omega)):=List.getElem?_eq_getElem (by omega)
  obtain⟨p1,p2⟩:=mB e2 hw
  have nz:vw B.Z H a=H a:=by
   obtain⟨F,r,nd,c⟩:=s1.reps
   exact bU (c a List.mem_cons_self).2.2.1
  refine⟨a,[a],_,(xs.zip vs).eraseIdx j,rfl,⟨a,rfl,.inr (.inr ⟨C,dx,_,f,by rw [nz]; exact ha,rfl,(Ae hn e1).trans hw⟩)⟩,s1.perm (p1.append_right l),fun H' y' m hH s2=>?_⟩
  exact(ae.perm (hs:=a::hs) s2 ((p2 y').append_right m)).closeO (by rw [hH.1 a List.mem_cons_self]; exact ha) hn (by simpa using hl)
 | _=>cases e
theorem gG:∀ {ks:List D}{o:O}{v:V}{hs:List Addr}{l:List aW}{f:O→Option (O×O)}{r o2:O},ae T B H hs ((o,v)::l)→bL ks o f=some (r,o2) →
  ∃ o' x ad rest o1,fm T (vw B.Z H) v ks x∧f o'=some (r,o1)∧ae T B H (ad++hs) ((o',x)::(rest++l)) ∧
   ∀ H' m,Stays ad H H'→ae T B H' (ad++hs) ((o1,x)::(rest++m))→ae T B H' hs ((o2,v)::m)
 | [],o,v,hs,l,f,r,o2,s,e=>⟨o,v,[],[],o2,rfl,e,s,fun H' m _ s2=>s2⟩
 | k::ks,o,v,hs,l,f,r,o2,s,e=>by
  unfold bL at e
  cases e1:dO o k with
  | none=>rw [e1]at e; cases e
  | some p =>
   obtain⟨y,g⟩:=p
   rw [e1]at e
   obtain⟨p,e2,e3⟩:=Option.map_eq_some_iff.mp e
   obtain⟨r',o3⟩:=p
   injection e3 with e3 e4
   subst e3 e4
   obtain⟨a,ad1,w,rest,rfl,st,s1,back⟩:=mC s e1
   obtain⟨o',x,ad,rest2,o1,pa,ef,s2,back2⟩:=gG s1 e2
   refine⟨o',x,ad++ad1,rest2++rest,o1,⟨w,st,pa⟩,ef,?_,fun H' m hb s3=>?_⟩
   ·rw [List.append_assoc,List.append_assoc]; exact s2
   ·rw [List.append_assoc,List.append_assoc]at s3
    exact back H' o3 m ⟨fun b hb'=>hb.1 b (by simp [hb']),hb.2⟩ (back2 H' (rest++m) ⟨fun b hb'=>hb.1 b (by simp [hb']),hb.2⟩ s3)
theorem Af {ks:List D}:∀ {o:O}{f f':O→Option (O×O)}{r o2:O},bL ks o f=some (r,o2)→(∀ o',(f o').isSome=true→(f' o').isSome=true)→∃ q,bL ks o f'=some q:=by
 induction ks with
 | nil =>
  intro o f f' r o2 e h
  exact Option.isSome_iff_exists.mp (h o (by rw [show f o=some (r,o2)from e]; rfl))
 | cons k ks ih =>
  intro o f f' r o2 e h
  unfold bL at e ⊢
  cases e1:dO o k with
  | none=>rw [e1]at e; cases e
  | some p =>
   rw [e1]at e
   obtain⟨q,e2,_⟩:=Option.map_eq_some_iff.mp e
   obtain⟨q',h'⟩:=ih (f':=f') e2 h
   exact⟨_,show(bL ks p.1 f').map (fun p'=>(p'.1,p.2 p'.2))=some _ by rw [h']; rfl⟩
theorem qL {ks:List D}{k:D}:∀ {o:O}{f:O→Option (O×O)}{r o2:O},bL (ks++[k]) o f=some (r,o2)→∃ q,bL ks o (fun o=>some (o,o))=some q:=by
 induction ks with
 | nil=>intro o f r o2 e; exact⟨_,rfl⟩
 | cons j ks ih =>
  intro o f r o2 e
  rw [List.cons_append]at e
  unfold bL at e ⊢
  cases e1:dO o j with
  | none=>rw [e1]at e; cases e
  | some p =>
   rw [e1]at e
   obtain⟨q,e2,_⟩:=Option.map_eq_some_iff.mp e
   obtain⟨q',h'⟩:=ih e2
   exact⟨_,show(bL ks p.1 (fun o=>some (o,o))).map (fun p'=>(p'.1,p.2 p'.2))=some _ by rw [h']; rfl⟩
end
end PV
namespace PV
open PySem PySem.Spec PyProof.Rows L2
section
variable {T:Tab}{B:Base}{Φ:cW}{W:WX}{X:Cx}{H H':Hp}{hs:List Addr}{l m:List aW}{o y:O}{v w:V}{a:Addr}{own:Addr→Prop}{h:Hp}{ρ:Env}{σ:L2.St}
theorem nR:∀ {os:List O}{vs:List V}{F:List Addr}{j:Nat}{y:O},zx T own h os vs F→os[j]?=some y→∃ w F',vs[j]?=some w∧Or T own h y w F'∧∀ a∈F',a∈F
 | [],vs,F,j,y,e,q=>by simp at q
 | x::os,vs,F,0,y,e,q=>by
  obtain⟨w,r,F1,F2,rfl,rfl,e1,e2⟩:=e
  simp at q
  subst q
  exact⟨w,F1,rfl,e1,fun a ha=>List.mem_append_left _ ha⟩
 | x::os,vs,F,j+1,y,e,q=>by
  obtain⟨w,r,F1,F2,rfl,rfl,e1,e2⟩:=e
  obtain⟨w',F',h1,h2,h3⟩:=nR (j:=j) e2 (by simpa using q)
  exact⟨w',F',by simpa using h1,h2,fun a ha=>List.mem_append_right _ (h3 a ha)⟩
theorem Cg {k:D}{g:O→O}{F:List Addr} (s:Or T own h o v F) (e:dO o k=some (y,g)):∃ w F',jS T h v k w∧Or T own h y w F'∧(∀ a∈F',a∈F)∧∀ h':Hp,Stays F h h'→jS T h' v k w:=by
 cases o with
 | tup xs =>
  cases k with
  | int i =>
   have e:(match ixN xs.length i with
    | some j=>(match xs[j]? with
     | some y=>some (y,fun z=>O.tup (xs.set j z))
     | none=>none)
    | none=>none)=some (y,g):=e
   cases e1:ixN xs.length i with
   | none=>simp only [e1]at e; cases e
   | some j =>
    simp only [e1]at e
    cases e2:xs[j]? with
    | none=>simp only [e2]at e; cases e
    | some y0 =>
     simp only [e2]at e
     injection e with e
     injection e with e3 e4
     subst e3 e4
     obtain⟨a,vs,rfl,ha,hL⟩:=s
     obtain⟨w,F',h1,h2,h3⟩:=nR hL e2
     have hl:=(aO.ofL hL).2
     have e1':atI vs i=some w:=by
      have e1':ixN vs.length i=some j:=by rw [← hl]; exact e1
      unfold atI
      rw [e1']
      exact h1
     exact⟨w,F',⟨a,rfl,.inl ⟨vs,i,.inr ha,rfl,e1'⟩⟩,h2,h3,fun h' hh=>⟨a,rfl,.inl ⟨vs,i,.inr (hh.2 a vs ha),rfl,e1'⟩⟩⟩
  | _=>cases e
 | lst xs =>
  cases k with
  | int i =>
   have e:(match ixN xs.length i with
    | some j=>(match xs[j]? with
     | some y=>some (y,fun z=>O.lst (xs.set j z))
     | none=>none)
    | none=>none)=some (y,g):=e
   cases e1:ixN xs.length i with
   | none=>simp only [e1]at e; cases e
   | some j =>
    simp only [e1]at e
    cases e2:xs[j]? with
    | none=>simp only [e2]at e; cases e
    | some y0 =>
     simp only [e2]at e
     injection e with e
     injection e with e3 e4
     subst e3 e4
     obtain⟨a,vs,G,rfl,rfl,ha,hL⟩:=s
     obtain⟨w,F',h1,h2,h3⟩:=nR hL e2
     have hl:=(aO.ofL hL).2
     have e1':atI vs i=some w:=by
      have e1':ixN vs.length i=some j:=by rw [← hl]; exact e1
      unfold atI
      rw [e1']
      exact h1
     exact⟨w,F',⟨a,rfl,.inl ⟨vs,i,.inl ha,rfl,e1'⟩⟩,h2,fun b hb=>List.mem_cons_of_mem _ (h3 b hb),fun h' hh=>⟨a,rfl,.inl ⟨vs,i,.inl (by rw [hh.1 a List.mem_cons_self]; exact ha),rfl,e1'⟩⟩⟩
  | _=>cases e
 | dic ks xs =>
  have e:(if bG k ks=true then(match dG k ks with
   | some j=>(match xs[j]? with
    | some y=>some (y,fun z=>O.dic ks (xs.set j z))
    | none=>none)
   | none=>none)else none)=some (y,g):=e
  by_cases hk:bG k ks=true
  ·rw [if_pos hk]at e
   cases e1:dG k ks with
   | none=>simp only [e1]at e; cases e
   | some j =>
    simp only [e1]at e
    cases e2:xs[j]? with
    | none=>simp only [e2]at e; cases e
    | some y0 =>
     simp only [e2]at e
     injection e with e
     injection e with e3 e4
     subst e3 e4
     obtain⟨a,vs,G,rfl,rfl,ha,hL⟩:=s
     obtain⟨w,F',h1,h2,h3⟩:=nR hL e2
     have key:Cf h a k w∧∀ h':Hp,h' a=h a→Cf h' a k w:=by
      unfold bG at hk
      rw [Bool.or_eq_true,Bool.and_eq_true,Bool.and_eq_true]at hk
      rcases ha with⟨js,q1,q2,q3⟩ | ⟨js,q1,q2,q3⟩
      ·rcases hk with⟨hk,hal⟩ | ⟨hk,hal⟩
       ·obtain⟨kk,ek⟩:=Option.isSome_iff_exists.mp hk
        have z:=(xW ek q1 q3 e1).trans h1
        exact⟨.inl ⟨_,kk,q2,ek,z⟩,fun h' e=>.inl ⟨_,kk,by rw [e]; exact q2,ek,z⟩⟩
       ·cases ks with
        | nil=>cases e1
        | cons j0 ks =>
         have h1:=kn q1 j0 List.mem_cons_self
         have h2:=List.all_eq_true.mp hal j0 List.mem_cons_self
         obtain⟨jj,ej⟩:=Option.isSome_iff_exists.mp h2
         rw [iC ej]at h1; cases h1
      ·rcases hk with⟨hk,hal⟩ | ⟨hk,hal⟩
       ·cases ks with
        | nil=>cases e1
        | cons j0 ks =>
         have h1:=eL q1 j0 List.mem_cons_self
         have h2:=List.all_eq_true.mp hal j0 List.mem_cons_self
         obtain⟨jj,ej⟩:=Option.isSome_iff_exists.mp h2
         rw [cR ej]at h1; cases h1
       ·obtain⟨kk,ek⟩:=Option.isSome_iff_exists.mp hk
        have z:=(xX ek q1 q3 e1).trans h1
        exact⟨.inr ⟨_,kk,q2,ek,z⟩,fun h' e=>.inr ⟨_,kk,by rw [e]; exact q2,ek,z⟩⟩
     exact⟨w,F',⟨a,rfl,.inr (.inl key.1)⟩,h2,fun b hb=>List.mem_cons_of_mem _ (h3 b hb),fun h' hh=>⟨a,rfl,.inr (.inl (key.2 h' (hh.1 a List.mem_cons_self)))⟩⟩
  ·rw [if_neg hk]at e; cases e
 | obj C ns xs =>
  obtain⟨f,j,y0,rfl,e1,e2,rfl,rfl⟩:=qK e
  obtain⟨a,dx,vs,G,rfl,rfl,ha,hn,hL⟩:=s
  obtain⟨w,F',h1,h2,h3⟩:=nR hL e2
  have hw:=(Ae hn e1).trans h1
  exact⟨w,F',⟨a,rfl,.inr (.inr ⟨C,dx,_,f,ha,rfl,hw⟩)⟩,h2,fun b hb=>List.mem_cons_of_mem _ (h3 b hb),fun h' hh=>⟨a,rfl,.inr (.inr ⟨C,dx,_,f,by rw [hh.1 a List.mem_cons_self]; exact ha,rfl,hw⟩)⟩⟩
 | _=>cases e
theorem xY:∀ {ks:List D}{o:O}{v:V}{F:List Addr}{f:O→Option (O×O)}{p:O×O},Or T own h o v F→bL ks o f=some p→∃ x,fm T h v ks x∧∀ h':Hp,Stays F h h'→fm T h' v ks x
 | [],o,v,F,f,p,s,e=>⟨v,rfl,fun _ _=>rfl⟩
 | k::ks,o,v,F,f,p,s,e=>by
  unfold bL at e
  cases e1:dO o k with
  | none=>rw [e1]at e; cases e
  | some q =>
   obtain⟨y,g⟩:=q
   rw [e1]at e
   obtain⟨p',e2,_⟩:=Option.map_eq_some_iff.mp e
   obtain⟨w,F',h1,h2,h3,h4⟩:=Cg s e1
   obtain⟨x,g1,g2⟩:=xY h2 e2
   exact⟨x,⟨w,h1,g1⟩,fun h' hh=>⟨w,h4 h' hh,g2 h' ⟨fun a ha=>hh.1 a (h3 a ha),hh.2⟩⟩⟩
theorem At.hold (a:At T B H ρ σ ((o,v)::l)):∃ B':Base,B'.pr=B.pr∧At T B' H ρ σ l∧(∀ (H':Hp) (ρ':Env) (σ':L2.St) (m:List aW),(∀ p∈B.pr,σ'[p.1]?=some (some p.2))→At T B' H' ρ' σ' m→At T B H' ρ' σ' ((o,v)::m) ∧
  ∀ (ks:List D) (f:O→Option (O×O)) (p:O×O) (x:V),bL ks o f=some p→fm T (vw B.Z H) v ks x→fm T (vw B.Z H') v ks x):=by
 have s:Sat T B H ((af ρ σ++l)++[(o,v)]):=a.sat.perm (List.perm_middle.trans (by
  rw [← List.singleton_append]
  exact List.perm_append_comm))
 obtain⟨B',Fl,own,hZ,hpr,htb,r,sa,back⟩:=Sat.callT s
 obtain⟨F1,F2,rfl,r1,r2⟩:=r
 refine⟨B',hpr,⟨a.ok,sa,by rw [hpr]; exact a.pr⟩,fun H' ρ' σ' m hp a'=>?_⟩
 obtain⟨s',k⟩:=back H' _ a'.sat
 refine⟨⟨a'.ok,s'.perm ?_,hp⟩,fun ks f p x e pa=>?_⟩
 ·have p1:(af ρ' σ'++m++[(o,v)]).Perm ((o,v)::(af ρ' σ'++m)):=by
   rw [← List.singleton_append (l:=af ρ' σ'++m)]
   exact List.perm_append_comm
  exact p1.trans List.perm_middle.symm
 ·obtain⟨x',g1,g2⟩:=xY r1 e
  rw [pa.inj g1]
  exact g2 _ ⟨fun b hb=>k.1 b (List.mem_append_left _ hb),k.2⟩
theorem RG.held {α:Type}{r:Res α}{K K':α→Env→Prop}{B':Base} (hp:∀ p∈B.pr,σ[p.1]?=some (some p.2)) (hb:∀ (H':Hp) (ρ':Env) (m:List aW),At T B' H' ρ' σ m→At T B H' ρ' σ ((o,v)::m))
  (h:RG T B W σ ((o,v)::l) r K) (hK:∀ a ρ,K a ρ→K' a ρ):RG T B' W σ l r K':=by
 cases r with
 | ok a ρ=>exact hK a ρ h
 | bad=>exact h
 | exc C p ρ=>exact fun d H its a e=>h d H its ((hb H ρ _ a).perm List.perm_middle.symm) e
end
end PV
namespace PV
open PySem PySem.Spec PyProof.Rows L2
section
variable {T:Tab}{B:Base}{Φ:cW}{W:WX}{X:Cx}{H H':Hp}{hs:List Addr}{l m:List aW}{o y:O}{v w:V}{a:Addr}{own:Addr→Prop}{h:Hp}{ρ:Env}{σ:L2.St}
def DI (T:Tab) (k:Mu):V→List V→Hp→VK→Prop:=fun x vs H Q=>∃ (B:Base) (o':O) (os:List O) (l:List aW) (hs:List Addr) (r o1:O),os.length=vs.length∧ae T B H hs ((o',x)::(os.zip vs++l))∧oG k o' os=some (r,o1) ∧
 ∀ u H',Stays hs H H'→ae T B H' hs ((o1,x)::(r,u)::l)→Q u H'
theorem ae.nin {p:Addr} (s:ae T B H (p::hs) l):∀ b∈hs,b≠p:=fun b hb e=>by
 obtain⟨F,r,nd,c⟩:=s.reps
 have:(p::(hs++F)).Nodup:=nd
 exact(List.nodup_cons.mp this).1 (List.mem_append_left _ (e ▸ hb))
theorem cE {vs:List V} (e:H a=some (.lst vs)):(∀ xs,H a≠some (.tup xs))∧(∀ ob u,H a≠some (.frz ob u))∧∀ g,H a≠some (.ext g):=by
 refine⟨?_,?_,?_⟩
 ·intro xs z; rw [e]at z; cases z
 ·intro ob u z; rw [e]at z; cases z
 ·intro g z; rw [e]at z; cases z
theorem iO {ob:HO} (s:ae T B H (a::hs) l) (t:∀ xs,H a≠some (.tup xs)):Stays hs H (upd H a ob) :=
 ⟨fun b hb=>upd_ne (s.nin b hb),fun b xs e=>by rw [upd_ne (show b≠a from fun z=>t xs (by rw [← z]; exact e))]; exact e⟩
theorem qM {os ns:List O}{vs ws:List V}{r:O}{u:V} (s:ae T B H (a::hs) (ns.zip ws++(r,u)::l)) (e:H a=some (.lst vs)) (hl:ns.length=ws.length) :
  Stays hs H (upd H a (.lst ws))∧ae T B (upd H a (.lst ws)) hs ((.lst ns,.ref a)::(r,u)::l) :=
 ⟨iO s (cE e).1,(s.write (cE e).1 (cE e).2.1 (cE e).2.2).closeL upd_same hl⟩
theorem eY:MtR X "list.append" (DI T .append):=by
 intro pins s σ H x xs v us Q I rx rxs h
 obtain⟨B,o',os,l,hs,r,o1,hl,sa,e,q⟩:=h
 cases o' with
 | lst zs =>
  match os,e with
  | [y],e =>
   have e:(if zs.length < sizeLine then some (O.d .non,O.lst (zs++[y]))else none)=some (r,o1):=e
   split at e
   ·rename_i hz
    injection e with e
    injection e with e1 e2
    subst e1 e2
    match xs,hl with
    | [w],_ =>
     obtain⟨a,vs,rfl,ha,hlv,s1⟩:=sa.openL
     have s2:ae T B H (a::hs) ((zs++[y]).zip (vs++[w])++((.d .non,.non)::l)):=by
      rw [List.zip_append hlv,List.append_assoc]
      have s3:ae T B H (a::hs) (zs.zip vs++((y,w)::l)):=s1
      exact(s3.non.perm (by
       refine List.perm_middle.symm.trans (List.Perm.append_left _ ?_)
       exact .swap _ _ _))
     obtain⟨g1,g2⟩:=qM (os:=zs) s2 ha (by simp [hlv])
     exact mt_append pins s σ H _ _ v us Q I rx rxs ⟨a,vs,w,rfl,rfl,ha,by omega,q _ _ g1 g2⟩
   ·cases e
  | [],e=>cases e
  | _::_::_,e=>cases e
 | _=>cases os <;> cases e
theorem vK:MtR X "list.pop" (DI T .pop):=by
 intro pins s σ H x xs v us Q I rx rxs h
 obtain⟨B,o',os,l,hs,r,o1,hl,sa,e,q⟩:=h
 cases o' with
 | lst zs =>
  match os,e with
  | [],e =>
   have e:(match zs[zs.length - 1]? with
    | some y=>some (y,O.lst zs.dropLast)
    | none=>none)=some (r,o1):=e
   cases ey:zs[zs.length - 1]? with
   | none=>rw [ey]at e; cases e
   | some y =>
    rw [ey]at e
    injection e with e
    injection e with e1 e2
    subst e1 e2
    match xs,hl with
    | [],_ =>
     obtain⟨a,vs,rfl,ha,hlv,s1⟩:=sa.openL
     obtain⟨hj,_⟩:=List.getElem?_eq_some_iff.mp ey
     have hw:vs[vs.length - 1]?=some (vs[vs.length - 1]'(by omega)):=List.getElem?_eq_getElem (by omega)
     have ey':zs[vs.length - 1]?=some y:=by rw [← hlv]; exact ey
     obtain⟨p1,_⟩:=mB ey' hw
     have er:(zs.zip vs).eraseIdx (vs.length - 1)=zs.dropLast.zip vs.dropLast:=by
      rw [← hlv]
      have h1:(zs.zip vs).length=zs.length:=by simp [hlv]
      rw [← h1,List.eraseIdx_length_sub_one]
      rw [List.dropLast_eq_take,List.dropLast_eq_take,List.dropLast_eq_take]
      simp only [List.zip,List.take_zipWith,List.length_zipWith,hlv,Nat.min_self]
     rw [er]at p1
     have s2:ae T B H (a::hs) (zs.dropLast.zip vs.dropLast++((y,vs[vs.length - 1]'(by omega))::l)):=s1.perm ((p1.append_right l).trans List.perm_middle.symm)
     obtain⟨g1,g2⟩:=qM (os:=zs) s2 ha (by simp [hlv])
     exact mt_pop pins s σ H _ _ v us Q I rx rxs ⟨a,vs,_,rfl,rfl,ha,hw,q _ _ g1 g2⟩
  | _::_,e=>cases e
 | _=>cases os <;> cases e
theorem Ci:MtR X "list.pop" (DI T .popAt):=by
 intro pins s σ H x xs v us Q I rx rxs h
 obtain⟨B,o',os,l,hs,r,o1,hl,sa,e,q⟩:=h
 cases o' with
 | lst zs =>
  match os,e with
  | [.d (.int i)],e =>
   have e:(match ixN zs.length i with
    | some k=>(match zs[k]? with
     | some y=>some (y,O.lst (zs.eraseIdx k))
     | none=>none)
    | none=>none)=some (r,o1):=e
   cases ek:ixN zs.length i with
   | none=>simp only [ek]at e; cases e
   | some k =>
    simp only [ek]at e
    cases ey:zs[k]? with
    | none=>simp only [ey]at e; cases e
    | some y =>
     simp only [ey]at e
     injection e with e
     injection e with e1 e2
     subst e1 e2
     match xs,hl with
     | [iv],_ =>
      obtain⟨a,vs,rfl,ha,hlv,s1⟩:=sa.openL
      have ei:iv = .int i:=(ae.perm (m:=(O.d (.int i),iv)::(zs.zip vs++l)) s1 List.perm_middle).read
      subst ei
      obtain⟨hj,_⟩:=List.getElem?_eq_some_iff.mp ey
      have hw:vs[k]?=some (vs[k]'(by omega)):=List.getElem?_eq_getElem (by omega)
      obtain⟨p1,_⟩:=mB ey hw
      have er:(zs.zip vs).eraseIdx k=(zs.eraseIdx k).zip (vs.eraseIdx k):=by
       simp only [List.zip]
       apply List.ext_getElem?
       intro n
       simp only [List.getElem?_zipWith,List.getElem?_eraseIdx]
       split <;> rfl
      rw [er]at p1
      have s2:ae T B H (a::hs) ((zs.eraseIdx k).zip (vs.eraseIdx k)++((y,vs[k]'(by omega))::l)):=(ae.drop1 (o:=.d (.int i)) (v:=.int i) (ae.perm (m:=(O.d (.int i),V.int i)::(zs.zip vs++l)) s1 List.perm_middle)).perm ((p1.append_right l).trans List.perm_middle.symm)
      have hle:(zs.eraseIdx k).length=(vs.eraseIdx k).length:=by
       rw [List.length_eraseIdx,List.length_eraseIdx,hlv]
      obtain⟨g1,g2⟩:=qM (os:=zs) s2 ha hle
      obtain⟨b1,b2,b3,b4⟩:=ixN_seq ek
      obtain⟨z,_⟩:=I.lstM ha
      have hsl:=sizeLine_eq
      exact mt_popAt pins s σ H _ _ v us Q I rx rxs ⟨a,vs,i,k,_,rfl,rfl,ha,by omega,by omega,by rw [← hlv]; exact b1,hw,q _ _ g1 g2⟩
  | [],e=>cases e
  | .d (.int _)::_::_,e=>cases e
 | _=>cases os <;> cases e
theorem uE (l:Addr) (items:Array Value) (n:Nat) (b:Addr) (items2:Array Value) (n2:Nat) (sl2:Array (Option Value)) (hc0:¬(! items.isEmpty&&Builtin.List.listTooLong (items.size+items2.size))=true) (hc1:items.size≤sizeLine) (hs2:items.size+items2.size≤sizeLine+1) :
  Meets (Builtin.«list.extend» ⟨[.ref l,.ref b],[]⟩) (fun _ R s=>s.heap.get? l=some {cls:=.type "list",dict:=none,data:=.seq items n,slots:=#[]}∧s.heap.get? b=some {cls:=.type "list",dict:=none,data:=.seq items2 n2,slots:=sl2}∧R (.ok (.ret Value.none)) {s with heap:=s.heap.update l (Obj.mapSeq fun x=>x++items2),toks:=s.toks}) :=
 .of_wp fun prog w A R s h=>by
  obtain⟨hp,g,d,tk,os⟩:=s; obtain⟨hl,hb,h⟩:=h; have f1:=PySem.AutoSeq1.idx_int; have f2:=PySem.AutoSeq1.sub_tuple_tuple; have f3:=PySem.AutoSeq1.sub_list_list; have f4:=PySem.AutoSeq1.sub_tuple_list; have f5:=PySem.AutoSeq1.sub_list_tuple;
  have hz':(items++items2).size≤sizeLine+1:=by rw [Array.size_append]; exact hs2
  wp_walk using(wpAny_updateSeq hl rfl (hz:=hc1) (_hz':=hz')),PySem.AutoSeq1.wpAny_loadPart' hl,PySem.AutoSeq1.wpAny_loadPart' hb; exact⟨_,rfl,h⟩
theorem qN:MtR X "list.extend" (fun x vs H Q=>∃ l b xs zs,x = .ref l∧vs = [.ref b]∧H l=some (.lst xs)∧SqL X.K H b zs∧xs.length+zs.length≤sizeLine∧Q .non (upd H l (.lst (xs++zs)))):=by
 intro pins s σ H x vs v us Q I rx rv h
 obtain⟨l,b,xs,zs,rfl,rfl,hH,hB,hz,q⟩:=h
 cases rx
 obtain⟨u,rfl,ru⟩:=rv.one
 cases ru
 obtain⟨z,its,n,r,hl,e⟩:=I.lstM hH
 obtain⟨its2,r2,pl2,_⟩:=I.list hB
 have hl2:=r2.length
 obtain⟨⟨cls2,dd2,data2,sl2⟩,n2,ho2,hc2,hd02,hd2⟩:=pl2
 simp only at hc2 hd2 hd02
 subst hc2 hd2 hd02
 have hsz:its.toArray.size+its2.toArray.size≤sizeLine:=by rw [List.size_toArray,List.size_toArray]; omega
 have hlong:¬ (! its.toArray.isEmpty&&Builtin.List.listTooLong (its.toArray.size+its2.toArray.size))=true:=by
  rw [notLongL hsz,Bool.and_false]
  exact Bool.false_ne_true
 refine call_meets F.slot_list_extend ⟨_,e,rfl⟩ F.entry_list_extend (F.args_list_extend_2 _ _)
  (uE l its.toArray n b its2.toArray n2 sl2 hlong (by rw [List.size_toArray]; omega) (by omega)) ⟨e,ho2,?_⟩
 refine⟨.non,_,I.lset (its':=its++its2) hH e (by simp) (r.append r2) ?_,rfl,q⟩
 rw [List.length_append]
 omega
theorem Ag (hK:X.K=T.K):MtR X "list.extend" (DI T .extend):=by
 intro pins s σ H x xs v us Q I rx rxs h
 obtain⟨B,o',os,l,hs,r,o1,hl,sa,e,q⟩:=h
 cases o' with
 | lst zs =>
  match os,e with
  | [.lst ys],e =>
   match xs,hl with
   | [w],_ =>
   have e:(if zs.length+ys.length≤sizeLine then some (O.d .non,O.lst (zs++ys))else none)=some (r,o1):=e
   split at e
   ·rename_i hz
    injection e with e
    injection e with e1 e2
    subst e1 e2
    obtain⟨a,vs,rfl,ha,hlv,s1⟩:=sa.openL
    have s2:ae T B H (a::hs) ((.lst ys,w)::(zs.zip vs++l)):=s1.perm List.perm_middle
    obtain⟨b,ws,rfl,hb,hlw,s3⟩:=s2.openL
    have s4:ae T B H (a::hs) (ys.zip ws++(zs.zip vs++l)):=s3.letgo
    have s5:ae T B H (a::hs) ((zs++ys).zip (vs++ws)++((.d .non,.non)::l)):=by
     rw [List.zip_append hlv,List.append_assoc]
     refine s4.non.perm ?_
     have p1:((O.d .non,V.non)::(ys.zip ws++(zs.zip vs++l))).Perm ((O.d .non,V.non)::(zs.zip vs++(ys.zip ws++l))):=ak.cons _
     refine p1.trans (List.perm_middle.symm.trans (List.Perm.append_left _ List.perm_middle.symm))
    obtain⟨g1,g2⟩:=qM (os:=zs) s5 ha (by simp [hlv,hlw])
    exact qN pins s σ H _ _ v us Q I rx rxs ⟨a,b,vs,ws,rfl,rfl,ha,SqL.of hb,by omega,q _ _ g1 g2⟩
   ·cases e
  | [.d (.lst ys)],e =>
   match xs,hl with
   | [w],_ =>
   have e:(if zs.length+ys.length≤sizeLine then some (O.d .non,O.lst (zs++ys.map .d))else none)=some (r,o1):=e
   split at e
   ·rename_i hz
    injection e with e
    injection e with e1 e2
    subst e1 e2
    obtain⟨a,vs,rfl,ha,hlv,s1⟩:=sa.openL
    have s2:ae T B H (a::hs) ((.d (.lst ys),w)::(zs.zip vs++l)):=s1.perm List.perm_middle
    obtain⟨b,ws,rfl,hb,hlw,s3⟩:=Sat.kidsL s2 rfl
    have s4:ae T B H (a::hs) ((ys.map O.d).zip ws++(zs.zip vs++l)):=by
     have:ae T B H (a::hs) ((O.shal (.d (.lst ys)),V.ref b)::((ys.map O.d).zip ws++(zs.zip vs++l))):=s3.perm List.perm_middle
     exact this.drop1
    have s5:ae T B H (a::hs) ((zs++ys.map O.d).zip (vs++ws)++((.d .non,.non)::l)):=by
     rw [List.zip_append hlv,List.append_assoc]
     refine s4.non.perm ?_
     have p1:((O.d .non,V.non)::((ys.map O.d).zip ws++(zs.zip vs++l))).Perm ((O.d .non,V.non)::(zs.zip vs++((ys.map O.d).zip ws++l))):=ak.cons _
     refine p1.trans (List.perm_middle.symm.trans (List.Perm.append_left _ List.perm_middle.symm))
    obtain⟨g1,g2⟩:=qM (os:=zs) s5 ha (by simp [hlv,hlw])
    exact qN pins s σ H _ _ v us Q I rx rxs ⟨a,b,vs,ws,rfl,rfl,ha,by rw [hK]; exact hb,by omega,q _ _ g1 g2⟩
   ·cases e
  | [],e=>cases e
  | [.d .non],e=>cases e
  | [.d (.bl _)],e=>cases e
  | [.d (.int _)],e=>cases e
  | [.d (.str _)],e=>cases e
  | [.d (.tup _)],e=>cases e
  | [.d (.dic _ _)],e=>cases e
  | [.d (.obj _ _ _)],e=>cases e
  | [.d (.exc _ _)],e=>cases e
  | [.tup _],e=>cases e
  | [.dic _ _],e=>cases e
  | [.obj _ _ _],e=>cases e
  | .lst _::_::_,e=>cases e
  | .tup _::_::_,e=>cases e
  | .dic _ _::_::_,e=>cases e
  | .obj _ _ _::_::_,e=>cases e
  | .d d::_::_,e=>cases d <;> cases e
 | _=>cases os <;> cases e
theorem Cj (hu:X.A.units+1 < cLine):IxR X (fun x y H Q=>∃ a w,x = .ref a∧((∃ vs i,(Rd H a (.lst vs)∨H a=some (.tup vs))∧y = .int i∧atI vs i=some w)∨DGet H a y (some w))∧Q w H):=by
 intro value slice pins s σ H x y v u Q I rx ry h hs
 obtain⟨a,w,rfl,h,q⟩:=h
 rcases h with⟨vs,i,ha | ha,rfl,hi⟩ | h
 ·exact ix_list value slice pins s σ H _ _ v u Q I rx ry ⟨a,vs,i,w,rfl,rfl,.inl ha,hi,q⟩ hs
 ·exact ix_tup value slice pins s σ H _ _ v u Q I rx ry ⟨a,vs,i,w,rfl,rfl,.inl (.inl ha),hi,q⟩ hs
 ·exact xS hu value slice pins s σ H _ _ v u Q I rx ry ⟨a,w,rfl,h,q⟩ hs
theorem vL {k:D}{x w y:V}{own:Addr→Prop} (s:ae T B H hs l) (st:jS T (vw B.Z H) x k w) (d:Dr T own (vw B.Z H) k y):∃ a,x = .ref a∧((∃ vs i,(Rd H a (.lst vs)∨H a=some (.tup vs))∧y = .int i∧atI vs i=some w)∨DGet H a y (some w)):=by
 obtain⟨a,rfl,st⟩:=st
 refine⟨a,rfl,?_⟩
 rcases st with⟨vs,i,h1 | h1,rfl,h2⟩ | (⟨kvs,kk,h1,h2,h3⟩ | ⟨kvs,kk,h1,h2,h3⟩) | ⟨C,dx,fs,f,h1,rfl,h2⟩
 ·exact .inl ⟨vs,i,.inl (ny s (fun _ _ z=>nomatch z) (.inl h1)),d,h2⟩
 ·exact .inl ⟨vs,i,.inr (wZ s h1),d,h2⟩
 ·exact .inr (.inl ⟨kvs,kk,DC s h1,qc h2 d,h3.symm⟩)
 ·obtain⟨b,e1,e2⟩:=qA h2 s d
  exact .inr (.inr ⟨kvs,kk,b,DD s h1,e1,e2,h3.symm⟩)
 ·rcases d with⟨z,_⟩ | d
  ·cases z
  obtain⟨_,_,vs,_,_,_,xd,_,_,rfl,_,_,_,rfl,_⟩:=d
  exact xd.elim
end
section
variable {T:Tab}{B:Base}{Φ:cW}{W:WX}{X:Cx}{i:Nat}{x:Str}{pos:Pos}
theorem RG.unX {σ:L2.St}{l:List aW}{α:Type}{r:Res α}{K:α→Env→Prop} (h:RG T B W σ l r.noX K):RG T B W σ l r K:=by
 cases r with
 | ok a ρ=>exact h
 | exc C p ρ=>exact h.elim
 | bad=>exact h
def BP (T:Tab) (B:Base) (Φ:cW) (W:WX) (i:Nat) (rp:List SE):TE:=fun σ H Q=>∃ ρ l o v,At T B H ρ σ ((o,v)::l)∧σ[i]?=some (some v)∧RG T B W σ ((o,v)::l) (ki Φ rp ρ) fun ks ρ'=>(∃ p,bL ks o (fun o=>some (o,o))=some p)∧∀ H' x,At T B H' ρ' σ ((o,v)::l)→fm T (vw B.Z H') v ks x→Q x H'
theorem d9 (hN:X.N[i]?=some x) (hv:Vis X.env.scope x) (hd:(x == ("__debug__" : Str))=false) (hc:(x == ("__classdict__" : Str))=false):PE X (.Name x pos) (BP T B Φ W i []) :=
 (pe_var hN hv hd hc).pv fun σ H Q ⟨ρ,l,o,v,a,ev,h⟩=>by
  rw [ki]at h
  exact⟨v,ev,h.2 H v a rfl⟩
theorem xZ (hu:X.A.units+200 < cLine) {e k:Expr}{sk:SE}{rp:List SE} (he:PE X e (BP T B Φ W i rp)) (hk:∀ B':Base,B'.pr=B.pr→PE X k (tE T B' Φ W sk)) (hs:PlainIx k):PE X (.Subscript e k pos) (BP T B Φ W i (sk::rp)):=by
 refine⟨fun pins s σ H Q I h=>?_⟩
 obtain⟨ρ,l,o,v,a,evi,h⟩:=h
 rw [ki]at h
 refine Subscript_ (thn (he.run pins s σ H (fun x H1=>∃ (B':Base),B'.pr=B.pr∧tE T B' Φ W sk σ H1 fun y H2=>∃ a w,x = .ref a∧((∃ vs i,(Rd H2 a (.lst vs)∨H2 a=some (.tup vs))∧y = .int i∧atI vs i=some w)∨DGet H2 a y (some w))∧Q w H2) I ⟨ρ,l,o,v,a,evi,h.bind.mono fun ks ρ1 k1=>?_⟩) ?_)
 ·have k1:=k1.bind
  refine⟨?_,fun H1 x a1 pa=>?_⟩
  ·cases e1:ev Φ sk ρ1 with
   | bad=>rw [e1]at k1; exact k1.elim
   | ok ok ρ2 =>
    rw [e1]at k1
    obtain⟨⟨p,hp⟩,_⟩:=k1
    obtain⟨r,o2⟩:=p
    exact qL hp
   | exc C p ρ2=>rw [e1]at k1; exact k1.elim
  ·obtain⟨B',hpr,a2,back⟩:=a1.hold
   refine⟨B',hpr,ρ1,l,a2,RG.rp (RG.held (K:=_) (fun p hp=>a1.pr p hp) (fun H' ρ' m a'=>(back H' ρ' σ m a1.pr a').1) k1.unX fun ok ρ2 k2=>?_)⟩
   intro y H2 a3
   obtain⟨a4,pres⟩:=back H2 ρ2 σ _ a1.pr a3
   obtain⟨⟨p,hp⟩,k3⟩:=k2
   obtain⟨r,o2⟩:=p
   have s4:Sat T B H2 ((o,v)::(ok,y)::(af ρ2 σ++l)):=a4.sat.perm (List.perm_middle.trans (List.perm_middle.cons _))
   obtain⟨o',w,ad,rest,o1,pw,_,_,_⟩:=gG s4 hp
   obtain⟨x',p1,p2⟩:=pw.unsnoc
   obtain⟨q0,hq0⟩:=qL hp
   have px:=pres ks _ _ x hq0 pa
   rw [px.inj p1]
   obtain⟨a',ea,hst⟩:=vL s4 p2 (ae.read2 s4)
   refine⟨a',w,ea,hst,k3 H2 w ?_ pw⟩
   exact(a4.perm (.swap _ _ _)).drop
 ·rintro u s1 ⟨x,H1,I1,r1,B',hpr,q1⟩
  refine thn ((hk B' hpr).run pins s1 σ H1 _ I1 q1) fun iv s2 ⟨y,H2,I2,r2,q2⟩=>?_
  exact Cj (by omega) e k pins s2 σ H2 x y u iv Q I2 r1 r2 q2 (hs _ _)
theorem GA {C:Nat}{f:Str}{e:Expr}{rp:List SE} (cl:Cls X.K (T.cls C)∧NoAttr X.K (T.cls C) f) (hb:attributeBase e f X.env (eval e X.env)=eval e X.env) (he:PE X e (BP T B Φ W i rp)):PE X (.Attribute e f pos) (BP T B Φ W i (.lit (.exc C [.str f,.non])::rp)):=by
 refine(pe_fld he hb).pv fun σ H Q ⟨ρ,l,o,v,a,evi,h⟩=>?_
 rw [ki]at h
 refine⟨ρ,l,o,v,a,evi,h.bind.mono fun ks ρ1 k1=>?_⟩
 have k1:=k1.bind
 rw [ev]at k1
 have k1:(∃ p,bL (ks++[.exc C [.str f,.non]]) o (fun o=>some (o,o))=some p)∧∀ H' x,At T B H' ρ1 σ ((o,v)::l)→fm T (vw B.Z H') v (ks++[.exc C [.str f,.non]]) x→Q x H':=k1
 obtain⟨⟨p,hp⟩,k2⟩:=k1
 obtain⟨r,o2⟩:=p
 refine⟨qL hp,fun H1 x a1 pa=>?_⟩
 have s4:Sat T B H1 ((o,v)::(af ρ1 σ++l)):=a1.sat.perm List.perm_middle
 obtain⟨o',w,ad,rest,o1,pw,_,_,_⟩:=gG s4 hp
 obtain⟨x',p1,p2⟩:=pw.unsnoc
 rw [pa.inj p1]
 obtain⟨b,rfl,st⟩:=p2
 rcases st with⟨vs,i,h1,z,h2⟩ | (⟨kvs,kk,h1,z,h3⟩ | ⟨kvs,kk,h1,z,h3⟩) | ⟨C',dx,fs,f',h1,z,h2⟩
 ·cases z
 ·cases z
 ·cases z
 ·injection z with z1 z2
  injection z2 with z2 _
  injection z2 with z2
  subst z1 z2
  have h1':H1 b=some (.ins (T.cls C) dx fs):=by
   rcases jo h1 with e | ⟨z,o,e⟩
   ·exact e
   ·obtain⟨u2,h1,mu⟩:=s4.lk b z
    rw [e]at h1
    cases h1
    exact mu.elim
  exact⟨b,T.cls C,dx,fs,w,rfl,h1',cl.1,cl.2,h2,k2 H1 w a1 pw⟩
theorem DJ {k:Mu}{i:Nat}{rp:List SE}{ses:List SE}{σ:L2.St}{H:Hp}{ρ:Env}{l:List aW}{Q:VK} (a:At T B H ρ σ l) (h:RG T B W σ l (ev Φ (.mu k i rp ses) ρ) fun o ρ=>∀ v H,At T B H ρ σ ((o,v)::l)→Q v H) (hK:X.K=T.K) :
  BP T B Φ W i rp σ H fun x H1=>tyV X.K "list" x H1∧∃ B':Base,B'.pr=B.pr∧tL T B' Φ W ses σ H1 fun xs H2=>DI T k x xs H2 Q:=by
 rw [ev]at h
 obtain⟨o,eo,h⟩:=h.bnd
 obtain⟨v,ev⟩:=a.ok.at eo
 have a0:=a.take eo ev
 have hi:i < σ.length:=nJ ev
 refine⟨ρ.set i none,l,o,v,a0,ev,RG.more1 (h.bind.mono fun ks ρ1 k1=>?_)⟩
 obtain⟨q1,hq1,k1⟩:=k1.bnd
 obtain⟨r1,o2⟩:=q1
 refine⟨Af hq1 fun _ _=>rfl,fun H1 x a1 pa=>⟨?_,?_⟩⟩
 ·have s1:Sat T B H1 ((o,v)::(af ρ1 σ++l)):=a1.sat.perm List.perm_middle
  obtain⟨o',x',ad,rest,o1,p1,e1,s2,_⟩:=gG s1 hq1
  rw [pa.inj p1]
  obtain⟨_,em,_⟩:=Option.map_eq_some_iff.mp e1
  cases o' with
  | lst zs =>
   obtain⟨b,vs,rfl,hb,_,_⟩:=s2.openL
   exact .inl ⟨rfl,vs,SqL.of hb⟩
  | _=>cases em
 ·obtain⟨B',hpr,a2,back⟩:=a1.hold
  refine⟨B',hpr,ρ1,l,a2,RG.held (K:=_) (fun p hp=>a1.pr p hp) (fun H' ρ' m a'=>(back H' ρ' σ m a1.pr a').1) (RG.more1 k1.bind) fun os ρ2 k2 vs H2 hl a3=>?_⟩
  obtain⟨a4,pres⟩:=back H2 ρ2 σ _ a1.pr a3
  obtain⟨q2,hq2,k3⟩:=k2.bnd
  obtain⟨r,o3⟩:=q2
  have s4:Sat T B H2 ((o,v)::(os.zip vs++(af ρ2 σ++l))):=a4.sat.perm (List.perm_middle.trans (ak.cons _))
  obtain⟨o',x',ad,rest,o1,p1,e1,s5,close⟩:=gG s4 hq2
  have px:=pres ks _ _ x hq1 pa
  have ex:x=x':=px.inj p1
  subst ex
  have k3:∀ u H,At T B H (ρ2.set i (some o3)) σ ((r,u)::l)→Q u H:=k3
  refine⟨B,o',os,rest++(af ρ2 σ++l),ad++[],r,o1,hl,s5.perm (ak.cons _),e1,fun u H' hb s6=>k3 u H' ?_⟩
  have s7:ae T B H' [] ((o3,v)::((r,u)::(af ρ2 σ++l))):=close H' _ ⟨fun b hb'=>hb.1 b (by simp [hb']),hb.2⟩ (s6.perm (by
   have p1:((r,u)::(rest++(af ρ2 σ++l))).Perm (rest++(r,u)::(af ρ2 σ++l)):=List.perm_middle.symm
   exact p1.cons _))
  have a5:At T B H' ρ2 σ ((o3,v)::(r,u)::l):=⟨a3.ok,s7.perm (by
   have p1:((o3,v)::(r,u)::(af ρ2 σ++l)).Perm ((o3,v)::(af ρ2 σ++(r,u)::l)):=List.perm_middle.symm.cons _
   exact p1.trans List.perm_middle.symm),a1.pr⟩
  have hi2:i < ρ2.length:=by rw [a3.ok.len]; exact hi
  have t:=(a5.clear i).fill (i:=i) (by unfold aq; rw [List.getElem?_set_self hi2]; rfl) (by simpa using hi2) ev
  rw [List.set_set]at t
  exact t
section
variable {e:Expr}{es:List Expr}{ses rp:List SE}{k:Mu}{nm:Str}{id:String}{apos cpos:Pos}
theorem vM (hK:X.K=T.K) (slot:Slot "list" nm id) (hty:typeOf (.builtin id)=pure (.type "method_descriptor")) (hm:MtR X id (DI T k)) (he:PE X e (BP T B Φ W i rp))
  (hbase:attributeBase e nm X.env (eval e X.env)=eval e X.env) (hline:(apos.endLine == cpos.line)=true):PE X (.Call (.Attribute e nm apos) [] [] cpos) (tE T B Φ W (.mu k i rp [])) :=
 (pe_bm0 PySem.F.plainAttrs_list slot hty hm he hbase hline).pv fun σ H Q ⟨ρ,l,a,h⟩=>by
  obtain⟨ρ',l',o,v,a1,ev,h1⟩:=DJ (X:=X) a h.rg hK
  refine⟨ρ',l',o,v,a1,ev,h1.mono fun ks ρ1 ⟨p,k1⟩=>⟨p,fun H' x a2 pa=>?_⟩⟩
  obtain⟨ty,B',hpr,ρ2,l2,a3,k2⟩:=k1 H' x a2 pa
  rw [jR]at k2
  have k2:∀ vs H',([]:List O).length=vs.length→At T B' H' ρ2 σ (([]:List O).zip vs++l2)→DI T k x vs H' Q:=k2
  exact⟨ty,k2 [] H' rfl a3⟩
theorem p6 {e1:Expr} (hK:X.K=T.K) (slot:Slot "list" nm id) (hty:typeOf (.builtin id)=pure (.type "method_descriptor")) (hm:MtR X id (DI T k)) (he:PE X e (BP T B Φ W i rp)) (ha:∀ B':Base,B'.pr=B.pr→PA X (e1::es) (tL T B' Φ W ses))
  (hbase:attributeBase e nm X.env (eval e X.env)=eval e X.env)
  (hfew:((backTo cpos (starEach (e1::es) X.env)).all (fun x=>! x.1)&&(backToKw cpos (keywordEach [] X.env)).all (fun x=>x.1.isSome)
   && decide ((e1::es).length+([]:List Keyword).length+(if([]:List Keyword).isEmpty then 0 else 1) < 30))=true)
  (hline:(apos.endLine == cpos.line)=true) (hs:starEach (e1::es) X.env=(false,eval e1 X.env)::starEach es X.env) (hplain:(backTo cpos (starEach es X.env)).any (·.1)=false) :
  PE X (.Call (.Attribute e nm apos) (e1::es) [] cpos) (tE T B Φ W (.mu k i rp ses)):=by
 have hA:PA X (e1::es) (fun σ H Q=>∃ B':Base,B'.pr=B.pr∧tL T B' Φ W ses σ H Q):=⟨fun pos pins s σ H Q I ⟨B',hpr,h⟩=>(ha B' hpr).run pos pins s σ H Q I h⟩
 exact(pe_bm PySem.F.plainAttrs_list slot hty hm he hA hbase hfew hline hs hplain).pv fun σ H Q ⟨ρ,l,a,h⟩=>DJ a h.rg hK
end
end
end PV
namespace PV
open PySem PySem.Spec PyProof.Rows L2
theorem p7 (l:Addr) (items:Array Value) :
  Meets (Builtin.«enumerate.__new__» ⟨[.type "enumerate",.ref l],[]⟩) (fun _ R s=>s.heap.IsTuple l items ∧
   R (.ok (.ret (.ref (s.heap.push {cls:=.type "tuple_iterator",data:=.fields #[.ref l,.int 0 0]}).objs.size)))
    {s with heap:=(s.heap.push {cls:=.type "tuple_iterator",data:=.fields #[.ref l,.int 0 0]}).push {cls:=.type "enumerate",data:=.fields #[.none,.bool false,.ref s.heap.objs.size,rawInt 0,.none,.none]}}) :=
 .of_wp fun prog w A R s h=>by
  obtain⟨hp,g,d,tk,os⟩:=s; obtain⟨hl,h⟩:=h
  have hsub:=sub_enumerate
  wp_walk
  refine wpAny_stack_any fun st=>wpAny_pure ?_
  split
  ·rename_i c _ _ _ _ _
   cases (c == Value.type "enumerate")
   ·wp_walk using wpAny_pyIter_tuple hl
    exact⟨_,rfl,h⟩
   ·wp_walk using wpAny_pyIter_tuple hl
    exact⟨_,rfl,h⟩
  ·wp_walk using wpAny_pyIter_tuple hl
   exact⟨_,rfl,h⟩
theorem xb {prog:Program}{w:World}{A:Around}{E:Value→Shared→Prop}{s:Shared}{l:Addr}{items:Array Value}{Q:Value→Shared→Prop} (hL:s.heap.IsTuple l items)
  (h:∀ h',IsEnum h' (s.heap.objs.size+1) s.heap.objs.size 0 .none→h'.IsTupleIter s.heap.objs.size l 0→h'.objs.size=s.heap.objs.size+2 →
   (∀ b o,s.heap.get? b=some o→h'.get? b=some o)→Q (.ref (s.heap.objs.size+1)) {s with heap:=h'}) :
  wpAny (model prog w) A (call (.type "enumerate") [.ref l]) Q E s:=by
 refine callType_new F.called_enumerate (by decide) (F.typeCall_enumerate_1 _) (F.newCall_enumerate_1 _) (fun obj=>F.args_object_init_2 obj _) F.entry_enumerate_new (p7 l items) ⟨hL,?_⟩
 have hz:(s.heap.push {cls:=.type "tuple_iterator",data:=.fields #[.ref l,.int 0 0]}).objs.size=s.heap.objs.size+1:=Heap.size_push ..
 show _∧_
 rw [hz]
 have he:IsEnum ((s.heap.push {cls:=.type "tuple_iterator",data:=.fields #[.ref l,.int 0 0]}).push {cls:=.type "enumerate",data:=.fields #[.none,.bool false,.ref s.heap.objs.size,rawInt 0,.none,.none]}) (s.heap.objs.size+1) s.heap.objs.size 0 .none:=by
  have:=Heap.get?_push_size (s.heap.push {cls:=.type "tuple_iterator",data:=.fields #[.ref l,.int 0 0]}) (o:={cls:=.type "enumerate",data:=.fields #[.none,.bool false,.ref s.heap.objs.size,rawInt 0,.none,.none]}) rfl
  rw [hz]at this; exact this
 exact⟨⟨_,he,rfl⟩,h _ he ⟨_,Heap.get?_push_of_some _ (Heap.get?_push_size _ rfl),rfl,rfl⟩ (by rw [Heap.size_push,hz]) fun b o x=>Heap.get?_push_of_some _ (Heap.get?_push_of_some _ x)⟩
def EC (K:PySem.W.Frag) (a:Addr):It :=
 ⟨fun i H=>∃ (xs:List V) (x:V),SqT K H a xs∧xs[i]?=some x,fun i H v H'=>∃ T x,v = .ref T∧H T=none∧H'=upd H T (.tup [.int (i:Nat),x])∧∀ xs,SqT K H a xs→xs[i]?=some x,fun i H=>∃ xs:List V,SqT K H a xs∧xs.length=i⟩
theorem xc {P:Program}{w:World}{K:PySem.W.Frag}{elts:List Expr}{kk:Nat}{tpos:Pos} (a e it:Addr) :
  Turn P w K (.Tuple elts kk tpos) (EC K a) [e,it] e (fun i h=>(∃ old,IsEnum h e it ((i:Nat):Int) old)∧h.IsTupleIter it a i∧e≠it∧a≠it∧a≠e) where
 mem:=by simp
 obj:=fun i h st b hb=>by
  obtain⟨⟨old,he⟩,⟨o,ho,hc,hd⟩,_⟩:=st
  have e':b=e∨b=it:=by simpa using hb
  rcases e' with z | z
  ·rw [z]; exact⟨_,he,fun v q=>nomatch q⟩
  ·rw [z]; exact⟨o,ho,fun v q=>by rw [hd]at q; cases q⟩
 keep:=fun i h h' st k=>let ⟨⟨old,he⟩,hi,hne⟩:=st; ⟨⟨old,k e (by simp) _ he⟩,hi.at fun o q=>k it (by simp) o q,hne⟩
 item:=by
  intro X hP hw hK hc i pins s σ H E I hf st hg
  subst hP hw hK
  obtain⟨⟨old,he⟩,hit,hne,hai,hae⟩:=st
  obtain⟨xs,x,hq,hx⟩:=hg
  obtain⟨its,rv,p,hz⟩:=I.tuple hq
  obtain⟨u,hu,ru⟩:=rv.get hx
  have hel:e < s.heap.objs.size:=Heap.lt_size he
  have hil:it < s.heap.objs.size:=by obtain⟨_,q,_⟩:=hit; exact Heap.lt_size q
  have hin:i < its.toArray.size:=by
   obtain⟨q,_⟩:=List.getElem?_eq_some_iff.mp hu
   simpa using q
  refine wpAny_pyNext_enum_itemD (Draws.tuple (prog:=X.prog) (w:=X.w) (A:=X.A.in1) (by simpa using I.ok.hd hc) it a hai its.toArray) he ⟨hit,p⟩ hin hne (by simp [hne,Ne.symm hae]) fun x' h' tk px ho hs' hT hsz hk=>?_
  have ex:x'=u:=by
   have px:its.toArray[i]?=some x':=px
   have:its[i]?=some x':=by simpa using px
   rw [hu]at this
   exact(Option.some.inj this).symm
  subst ex
  obtain⟨hit',_⟩:=hs'
  refine⟨_,rfl,wpAny_letOwnedTupleGo_enum (s:={s with heap:=h',toks:=tk+1}) ho fun h'' he' sb=>?_⟩
  have hT2:h''.get? s.heap.objs.size=some {cls:=.type "tuple",data:=.seq #[.int i tk,x']}:=(sb.2 _ (Nat.ne_of_gt hel)).trans hT
  have new:ObjOk X.prog X.w (upd H s.heap.objs.size (.tup [.int (i:Nat),x])) h'' s.heap.objs.size (.tup [.int (i:Nat),x]) :=
   ⟨by show 2≤sizeLine; decide,[.int i tk,x'],.cons ⟨_,rfl⟩ (.cons ru .nil),⟨_,hT2,rfl,_,rfl⟩⟩
  have I1:Inv X pins σ (upd H s.heap.objs.size (.tup [.int (i:Nat),x])) {s with heap:=h'',toks:=tk+1} :=
   I.turnedNew (ch:=[e,it]) (fun b ob hb q=>(sb.2 b (fun z=>hb (by simp [z]))).trans (hk b ob (fun z=>hb (by simp [z])) (fun z=>hb (by simp [z])) q)) hf (Nat.le_refl _) new
  refine⟨.ref s.heap.objs.size,_,I1,rfl,⟨_,x,rfl,I.hok.fresh (Nat.le_refl _),rfl,fun ys hy=>by rw [I.tuple_inj hy hq]; exact hx⟩,⟨⟨x',?_⟩,hit'.at fun o q=>(sb.2 it (Ne.symm hne)).trans q,hne,hai,hae⟩,fun b hb=>?_⟩
  ·have e1:((i+1:Nat):Int)=(i:Int)+1:=by omega
   rw [e1]; exact he'
  ·have hb':b < s.heap.objs.size:=by
    have e':b=e∨b=it:=by simpa using hb
    rcases e' with z | z
    ·rw [z]; exact hel
    ·rw [z]; exact hil
   rw [upd_ne (Nat.ne_of_lt hb')]
   exact(hf b hb).1
 done:=by
  intro X hP hw hK hc i pins s σ H E I hf st hg
  subst hP hw hK
  obtain⟨⟨old,he⟩,hit,hne,hai,hae⟩:=st
  obtain⟨xs,hq,hx⟩:=hg
  obtain⟨its,rv,p,hz⟩:=I.tuple hq
  obtain⟨f0,f1,f2,f3,f4,f5⟩:=hf it (by simp)
  have hl:=rv.length
  have hin:i=its.toArray.size:=by rw [← hx,hl]; simp
  subst hin
  exact wpAny_pyNext_enum_endD (Draws.tuple (prog:=X.prog) (w:=X.w) (A:=X.A.in1) (by simpa using I.ok.hd hc) it a hai its.toArray) he ⟨hit,p⟩ fun h' eb=>⟨rfl,I.turned (t':=s.toks) (fun b o hb q=>eb b o hb q) f0 f1 f3 f4 f5⟩
 self:=fun A i s Q E st h=>let ⟨⟨_,he⟩,_⟩:=st; wpAny_pyIter_enum he h
def ED (K:PySem.W.Frag) (ta:TA):TI:=fun σ H R=>ta σ H fun vs H1=>∃ a xs,vs = [.ref a]∧((SqL K H1 a xs∧R (Ite K a) H1)∨(SqT K H1 a xs∧R (EC K a) H1))
theorem Ah {X:Cx}{e:Expr}{ta:TA}{p pos tpos:Pos}{elts:List Expr}{kk:Nat} (hg:Gl X "enumerate") (hm:X.mg "enumerate" = none) (ha:PA X [e] ta) (hs:starEach [e] X.env = [(false,eval e X.env)]:=by rfl) :
  PI X (.Tuple elts kk tpos) (.Call (.Name "enumerate" p) [e] [] pos) (ED X.K ta):=by
 refine⟨fun pins s σ H R I h=>?_⟩
 refine Call_ (ld_blt I hg hm boot_enumerate (PyProof.Rows.callWith_type1 (thn (ha.run pos pins s σ H _ I h) fun us s1 ⟨vs,H1,I1,r1,q1⟩=>?_) hs rfl))
 obtain⟨a,xs,ex,q⟩:=q1
 subst ex
 cases r1 with
 | cons r rr =>
  cases rr
  cases r
  have fo:∀ b∈[s1.heap.objs.size+1,s1.heap.objs.size],s1.heap.objs.size≤b:=fun b hb=>by
   have e':b=s1.heap.objs.size+1∨b=s1.heap.objs.size:=by simpa using hb
   rcases e' with z | z
   ·rw [z]; exact Nat.le_add_right _ _
   ·rw [z]; exact Nat.le_refl _
  rcases q with⟨hq,q⟩ | ⟨hq,q⟩
  ·obtain⟨its,rv,p',hz⟩:=I1.list hq
   refine call_enumerate_list p'.isList fun h' he hit hsz hk=>wpAny_pyIter_enum he ?_
   have I2:Inv X pins σ H1 {s1 with heap:=h'}:=I1.kept (t':=s1.toks) hk
   exact⟨s1.heap.objs.size+1,[s1.heap.objs.size+1,s1.heap.objs.size],_,_,H1,rfl,I2,turn_enum a (s1.heap.objs.size+1) s1.heap.objs.size,⟨⟨.none,he⟩,hit,Nat.succ_ne_self _⟩,fun b hb=>I1.fpOk (fo b hb) (I1.hok.fresh (fo b hb)),q⟩
  ·obtain⟨its,rv,p',hz⟩:=I1.tuple hq
   have hal:a < s1.heap.objs.size:=p'.lt
   refine xb (l:=a) (items:=its.toArray) p' fun h' he hit hsz hk=>wpAny_pyIter_enum he ?_
   have I2:Inv X pins σ H1 {s1 with heap:=h'}:=I1.kept (t':=s1.toks) hk
   exact⟨s1.heap.objs.size+1,[s1.heap.objs.size+1,s1.heap.objs.size],_,_,H1,rfl,I2,xc a (s1.heap.objs.size+1) s1.heap.objs.size,⟨⟨.none,he⟩,hit,Nat.succ_ne_self _,Nat.ne_of_lt hal,Nat.ne_of_lt (Nat.lt_succ_of_lt hal)⟩,fun b hb=>I1.fpOk (fo b hb) (I1.hok.fresh (fo b hb)),q⟩
end PV
namespace PV
open PySem PySem.Spec PyProof.Rows L2
structure Wk (T:Tab) (B:Base) (J:It) (ds:List D) (held:List aW):Prop where
 goes:∀ i H l,i < ds.length→Sat T B H (held++l)→J.go i H
 stops:∀ H l,Sat T B H (held++l)→J.stop ds.length H
 yields:∀ i H v H' l,i < ds.length→Sat T B H (held++l)→J.yld i H v H'→∃ d,ds[i]?=some d∧Sat T B H' ((.d d,v)::(held++l))
section
variable {T:Tab}{B:Base}{Φ:cW}{W:WX}{X:Cx}{K:PySem.W.Frag}
theorem jA {xs:List D}{vs:List V} (hl:xs.length=vs.length) {i:Nat} (hi:i < xs.length):∃ d w,xs[i]?=some d∧vs[i]?=some w:=⟨xs[i],vs[i]'(by omega),List.getElem?_eq_getElem hi,List.getElem?_eq_getElem (by omega)⟩
theorem Cn {o:O}{a:Addr}{xs:List D} (e:o.frz = .lst xs):Wk T B (Itl T.K a) xs [(o.shal,.ref a)]:=by
 have e':o.shal.frz = .lst xs:=by rw [lR,e]
 have rd:∀ {H:Hp}{l:List aW},Sat T B H ((o.shal,.ref a)::l)→∃ vs,SqL T.K H a vs∧xs.length=vs.length∧ae T B H [] ((xs.map O.d).zip vs++(o.shal,.ref a)::l):=fun {H l} s=>by
  obtain⟨b,vs,eb,ha,hl,s1⟩:=Sat.kidsL s e'
  cases eb
  have:o.shal.shal=o.shal:=by
   cases o <;> simp only [O.shal,List.map_map] <;> congr 1
  rw [this]at s1
  exact⟨vs,ha,hl,s1⟩
 refine⟨fun i H l hi s=>?_,fun H l s=>?_,fun i H v H' l hi s y=>?_⟩
 ·obtain⟨vs,ha,hl,_⟩:=rd s
  obtain⟨d,w,_,hw⟩:=jA hl hi
  exact⟨vs,w,ha,hw⟩
 ·obtain⟨vs,ha,hl,_⟩:=rd s
  exact⟨vs,ha,by omega⟩
 ·obtain⟨vs,ha,hl,s1⟩:=rd s
  obtain⟨d,w,hd,hw⟩:=jA hl hi
  obtain⟨rfl,y⟩:=y
  have:=y vs ha
  rw [hw]at this
  cases this
  exact⟨d,hd,ae.pick (zip_get hd hw) s1⟩
theorem EE {o:O}{a:Addr}{xs:List D} (e:o.frz = .tup xs):Wk T B (Itt T.K a) xs [(o.shal,.ref a)]:=by
 have e':o.shal.frz = .tup xs:=by rw [lR,e]
 have rd:∀ {H:Hp}{l:List aW},Sat T B H ((o.shal,.ref a)::l)→∃ vs,SqT T.K H a vs∧xs.length=vs.length∧ae T B H [] ((xs.map O.d).zip vs++(o.shal,.ref a)::l):=fun {H l} s=>by
  obtain⟨b,vs,eb,ha,hl,s1⟩:=Sat.kidsT s e'
  cases eb
  have:o.shal.shal=o.shal:=by
   cases o <;> simp only [O.shal,List.map_map] <;> congr 1
  rw [this]at s1
  exact⟨vs,ha,hl,s1⟩
 refine⟨fun i H l hi s=>?_,fun H l s=>?_,fun i H v H' l hi s y=>?_⟩
 ·obtain⟨vs,ha,hl,_⟩:=rd s
  obtain⟨d,w,_,hw⟩:=jA hl hi
  exact⟨vs,w,ha,hw⟩
 ·obtain⟨vs,ha,hl,_⟩:=rd s
  exact⟨vs,ha,by omega⟩
 ·obtain⟨vs,ha,hl,s1⟩:=rd s
  obtain⟨d,w,hd,hw⟩:=jA hl hi
  obtain⟨rfl,y⟩:=y
  have:=y vs ha
  rw [hw]at this
  cases this
  exact⟨d,hd,ae.pick (zip_get hd hw) s1⟩
theorem EF {z:Str}{held:List aW}:Wk T B (Its z) (z.cps.toList.map fun c=>.str ⟨#[c]⟩) held:=by
 refine⟨fun i H l hi s=>?_,fun H l s=>?_,fun i H v H' l hi s y=>?_⟩
 ·show i < z.cps.size
  simpa using hi
 ·show z.cps.size≤_
  simp
 ·obtain⟨rfl,c,hc,rfl⟩:=y
  refine⟨.str ⟨#[c]⟩,?_,s.str⟩
  rw [List.getElem?_map,Array.getElem?_toList,hc]; rfl
theorem Ai {lo:Int}{n:Nat}{held:List aW}:Wk T B (Itr lo n) (fK lo n) held:=by
 have hl:(fK lo n).length=n:=by simp [fK]
 refine⟨fun i H l hi s=>?_,fun H l s=>?_,fun i H v H' l hi s y=>?_⟩
 ·show i < n
  rw [← hl]; exact hi
 ·show n≤_
  rw [hl]
  exact Nat.le_refl _
 ·obtain⟨rfl,rfl⟩:=y
  refine⟨.int (lo+(i:Nat)),?_,s.int⟩
  rw [hl]at hi
  simp [fK,hi]
theorem ae.newPair {d1 d2:D}{x y:V}{p:Addr}{H:Hp}{l:List aW} (s:Sat T B H ((.d d1,x)::(.d d2,y)::l)) (n:H p=none):Sat T B (upd H p (.tup [x,y])) ((.d (.tup [d1,d2]),.ref p)::l) :=
 Sat.newTd (xs:=[d1,d2]) (vs:=[x,y]) s rfl n
theorem DK (o:O):o.shal.shal=o.shal:=by
 cases o <;> simp only [O.shal,List.map_map] <;> congr 1
theorem oM:∀ {xs:List D}{n i:Nat},(fw n xs)[i]?=(xs[i]?).map fun x=>.tup [.int ((n+i:Nat):Int),x]
 | [],n,i=>by simp [fw]
 | x::xs,n,0=>by simp [fw]
 | x::xs,n,i+1=>by
  rw [fw,List.getElem?_cons_succ,oM,List.getElem?_cons_succ]
  rw [show n+1+i=n+(i+1)by omega]
theorem eN:∀ {xs:List D}{n:Nat},(fw n xs).length=xs.length
 | [],n=>rfl
 | x::xs,n=>by simp [fw,eN (xs:=xs)]
theorem Co {o:O}{a:Addr}{xs:List D} (e:o.frz = .lst xs):Wk T B (Ite T.K a) (fw 0 xs) [(o.shal,.ref a)]:=by
 have e':o.shal.frz = .lst xs:=by rw [lR,e]
 have rd:∀ {H:Hp}{l:List aW},Sat T B H ((o.shal,.ref a)::l)→∃ vs,SqL T.K H a vs∧xs.length=vs.length∧ae T B H [] ((xs.map O.d).zip vs++(o.shal,.ref a)::l):=fun {H l} s=>by
  obtain⟨b,vs,eb,ha,hl,s1⟩:=Sat.kidsL s e'
  cases eb
  rw [DK]at s1
  exact⟨vs,ha,hl,s1⟩
 refine⟨fun i H l hi s=>?_,fun H l s=>?_,fun i H v H' l hi s y=>?_⟩
 ·obtain⟨vs,ha,hl,_⟩:=rd s
  rw [eN]at hi
  obtain⟨d,w,_,hw⟩:=jA hl hi
  exact⟨vs,w,ha,hw⟩
 ·obtain⟨vs,ha,hl,_⟩:=rd s
  rw [eN]
  exact⟨vs,ha,by omega⟩
 ·obtain⟨vs,ha,hl,s1⟩:=rd s
  rw [eN]at hi
  obtain⟨d,w,hd,hw⟩:=jA hl hi
  obtain⟨p,x,rfl,hp,rfl,y⟩:=y
  have:=y vs ha
  rw [hw]at this
  cases this
  refine⟨.tup [.int (i:Nat),d],?_,ae.newPair ?_ hp⟩
  ·rw [oM,hd]; simp
  ·exact(ae.pick (zip_get hd hw) s1).int
theorem Aj {o:O}{a:Addr}{xs:List D} (e:o.frz = .tup xs):Wk T B (EC T.K a) (fw 0 xs) [(o.shal,.ref a)]:=by
 have e':o.shal.frz = .tup xs:=by rw [lR,e]
 have rd:∀ {H:Hp}{l:List aW},Sat T B H ((o.shal,.ref a)::l)→∃ vs,SqT T.K H a vs∧xs.length=vs.length∧ae T B H [] ((xs.map O.d).zip vs++(o.shal,.ref a)::l):=fun {H l} s=>by
  obtain⟨b,vs,eb,ha,hl,s1⟩:=Sat.kidsT s e'
  cases eb
  rw [DK]at s1
  exact⟨vs,ha,hl,s1⟩
 refine⟨fun i H l hi s=>?_,fun H l s=>?_,fun i H v H' l hi s y=>?_⟩
 ·obtain⟨vs,ha,hl,_⟩:=rd s
  rw [eN]at hi
  obtain⟨d,w,_,hw⟩:=jA hl hi
  exact⟨vs,w,ha,hw⟩
 ·obtain⟨vs,ha,hl,_⟩:=rd s
  rw [eN]
  exact⟨vs,ha,hl.symm⟩
 ·obtain⟨vs,ha,hl,s1⟩:=rd s
  rw [eN]at hi
  obtain⟨d,w,hd,hw⟩:=jA hl hi
  obtain⟨p,x,rfl,hp,rfl,y⟩:=y
  have:=y vs ha
  rw [hw]at this
  cases this
  refine⟨.tup [.int (i:Nat),d],?_,ae.newPair ?_ hp⟩
  ·rw [oM,hd]; simp
  ·exact(ae.pick (zip_get hd hw) s1).int
theorem EG {tg e:Expr}{te:TE} (he:PE X e te):PI X tg e (fun σ H R=>te σ H fun x H1=>(∃ a xs,x = .ref a∧SqL X.K H1 a xs∧R (Itl X.K a) H1)∨(∃ a xs,x = .ref a∧SqT X.K H1 a xs∧R (Itt X.K a) H1)∨∃ z,x = .str z∧R (Its z) H1):=by
 refine⟨fun pins s σ H R I h=>?_⟩
 refine thn (he.run pins s σ H _ I h) fun v s1 ⟨x,H1,I1,r1,q1⟩=>?_
 rcases q1 with⟨a,xs,rfl,hq,q⟩ | ⟨a,xs,rfl,hq,q⟩ | ⟨z,rfl,q⟩
 ·cases r1
  obtain⟨its,rv,p,hz⟩:=I1.list hq
  exact wpAny_pyIter_list p.isList (pi_one (tk:=s1.toks) I1 _ (turn_list a _) ⟨_,Heap.get?_push_size _ rfl,rfl,rfl⟩ q)
 ·cases r1
  obtain⟨its,rv,p,hz⟩:=I1.tuple hq
  exact wpAny_pyIter_tuple (show s1.heap.IsTuple a its.toArray from p) (pi_one (tk:=s1.toks) I1 _ (turn_tuple a _) ⟨_,Heap.get?_push_size _ rfl,rfl,rfl⟩ q)
 ·obtain⟨t,rfl⟩:=r1
  cases ha:z.cps.all (· < 128)
  ·exact wpAny_pyIter_wide ha (pi_one (tk:=s1.toks) I1 _ (turn_str _ z t "str_iterator" (.inr rfl)) ⟨_,Heap.get?_push_size _ rfl,rfl,rfl⟩ q)
  ·exact wpAny_pyIter_ascii ha (pi_one (tk:=s1.toks) I1 _ (turn_str _ z t "str_ascii_iterator" (.inl rfl)) ⟨_,Heap.get?_push_size _ rfl,rfl,rfl⟩ q)
def Iz (K:PySem.W.Frag) (H:Hp) (n:Nat):Prop:=(∃ a xs,SqL K H a xs∧n≤xs.length)∨(∃ a xs,SqT K H a xs∧n≤xs.length)∨n≤sizeLine
theorem Iz.le {pins:List (Addr×Obj)}{σ:L2.St}{H:Hp}{s:Shared}{n:Nat} (I:Inv X pins σ H s) (b:Iz X.K H n):n≤sizeLine:=by
 rcases b with⟨a,xs,h,hn⟩ | ⟨a,xs,h,hn⟩ | hn
 ·obtain⟨_,_,_,z⟩:=I.list h
  exact Nat.le_trans hn z
 ·obtain⟨_,_,_,z⟩:=I.tuple h
  exact Nat.le_trans hn z
 ·exact hn
theorem Ak {tg e:Expr}{wi:TI} (h:PI X tg e wi):PI X tg e (fun σ H R=>wi σ H fun J H'=>∃ n,Iz X.K H' n∧(n≤sizeLine→R J H')) :=
 ⟨fun pins s σ H R I q=>thn (h.run pins s σ H _ I q) fun v s1 h1=>thn h1 fun itv s2 ⟨it,fp,tn,J,H',e,I',T,st,f,n,b,k⟩=>⟨it,fp,tn,J,H',e,I',T,st,f,k (b.le I')⟩⟩
def tI (T:Tab) (B:Base) (Φ:cW) (W:WX) (ie:IE):TI:=fun σ H R=>∃ ρ l,At T B H ρ σ l∧RG T B W σ l (kG Φ ie ρ) fun p ρ'=>∀ vs J H',p.2.1.length=vs.length→bY σ p.1 vs→At T B H' ρ' σ (p.2.1.zip vs++l)→Wk T B J p.2.2 (p.2.1.zip vs)→p.2.2.length≤sizeLine→R J H'
theorem l0 {tg e:Expr}{se:SE} (hK:X.K=T.K) (he:PE X e (tA T B Φ W se)):PI X tg e (tI T B Φ W (.of se)):=by
 refine⟨fun pins s σ H R I ⟨ρ,l,at_,h⟩=>(Ak (EG he)).run pins s σ H R I ⟨ρ,l,at_,?_⟩⟩
 rw [kG]at h
 refine h.bind.mono fun α ρ1 k v H1 a1 av=>?_
 cases ef:aB α ρ1 with
 | bad=>rw [ef]at k; exact k.elim
 | exc C p ρ' =>
  cases α with
  | val o=>cases ef
  | slot i =>
   have ef:bnd (aq ρ1 i) (fun o=>Res.ok o (aB.taken o i ρ1)) = .exc C p ρ':=ef
   cases q:aq ρ1 i <;> rw [q]at ef <;> cases ef
 | ok o ρ2 =>
  rw [ef]at k
  have a2:=lQ a1 av ef
  have k:RG T B W σ l ((Res.of (nA o.frz) ρ2).bind fun ds ρ=>Res.ok ([α],[o.shal],ds) ρ) _:=k
  obtain⟨ds,ed,k⟩:=k.bind.of
  have s2:Sat T B H1 ((o,v)::(af ρ2 σ++l)):=a2.sat.perm List.perm_middle
  have s3:=eX s2
  have a3:At T B H1 ρ2 σ ([o.shal].zip [v]++l):=⟨a2.ok,s3.perm List.perm_middle.symm,a2.pr⟩
  have k:∀ vs J H',[o.shal].length=vs.length→bY σ [α] vs→At T B H' ρ2 σ ([o.shal].zip vs++l)→Wk T B J ds ([o.shal].zip vs)→ds.length≤sizeLine→R J H':=k
  cases ea:o.frz with
  | lst xs =>
   rw [ea]at ed
   injection ed with ed; subst ed
   obtain⟨a,vs,rfl,ha,hl,_⟩:=Sat.kidsL s2 ea
   exact .inl ⟨a,vs,rfl,by rw [hK]; exact ha,_,.inl ⟨a,vs,by rw [hK]; exact ha,Nat.le_of_eq hl⟩,by rw [hK]; exact k [.ref a] _ H1 rfl ⟨av,trivial⟩ a3 (Cn ea)⟩
  | tup xs =>
   rw [ea]at ed
   injection ed with ed; subst ed
   obtain⟨a,vs,rfl,ha,hl,_⟩:=Sat.kidsT s2 ea
   exact .inr (.inl ⟨a,vs,rfl,by rw [hK]; exact ha,_,.inr (.inl ⟨a,vs,by rw [hK]; exact ha,Nat.le_of_eq hl⟩),by rw [hK]; exact k [.ref a] _ H1 rfl ⟨av,trivial⟩ a3 (EE ea)⟩)
  | str z =>
   have d:=s2.read
   rw [ea]at ed d
   have d:v = .str z:=d
   subst d
   have ed:(if z.length≤sizeLine then some (z.cps.toList.map fun c=>D.str ⟨#[c]⟩)else none)=some ds:=ed
   split at ed
   ·rename_i hz
    injection ed with ed; subst ed
    exact .inr (.inr ⟨z,rfl,_,.inr (.inr hz),fun hz=>k [.str z] _ H1 rfl ⟨av,trivial⟩ a3 EF (by simpa [Str.length]using hz)⟩)
   ·cases ed
  | _=>rw [ea]at ed; cases ed
theorem DL {σ:L2.St}{H:Hp}{ρ:Env}{l:List aW}{o:O}{v:V} (a:At T B H ρ σ ((o,v)::l)):At T B H ρ σ ((o.shal,v)::l):=⟨a.ok,(eX (ae.perm a.sat List.perm_middle)).perm List.perm_middle.symm,a.pr⟩
theorem EH {elts:List Expr}{kk:Nat}{tpos p pos:Pos}{e:Expr}{se:SE} (hK:X.K=T.K) (hg:Gl X "enumerate") (hm:X.mg "enumerate" = none) (he:PE X e (tA T B Φ W se)) (hs:starEach [e] X.env = [(false,eval e X.env)]) :
  PI X (.Tuple elts kk tpos) (.Call (.Name "enumerate" p) [e] [] pos) (tI T B Φ W (.enum se)):=by
 refine⟨fun pins s σ H R I ⟨ρ,l,at_,h⟩=>(Ak (Ah hg hm (pa_cons he pa_nil (by rw [hs]; rfl)) hs)).run pins s σ H R I ⟨ρ,l,at_,?_⟩⟩
 rw [kG]at h
 refine h.bind.mono fun α ρ1 k v H1 a1 av=>?_
 cases ef:aB α ρ1 with
 | bad=>rw [ef]at k; exact k.elim
 | exc C p ρ' =>
  cases α with
  | val o=>cases ef
  | slot i =>
   have ef:bnd (aq ρ1 i) (fun o=>Res.ok o (aB.taken o i ρ1)) = .exc C p ρ':=ef
   cases q:aq ρ1 i <;> rw [q]at ef <;> cases ef
 | ok o ρ2 =>
  rw [ef]at k
  have a2:=lQ a1 av ef
  have k:RG T B W σ l ((Res.of (BZ o.frz) ρ2).bind fun ds ρ=>Res.ok ([α],[o.shal],fw 0 ds) ρ) _:=k
  obtain⟨ds,ed,k⟩:=k.bind.of
  have a3:At T B H1 ρ2 σ ([o.shal].zip [v]++l):=DL a2
  have k:∀ vs J H',[o.shal].length=vs.length→bY σ [α] vs→At T B H' ρ2 σ ([o.shal].zip vs++l)→Wk T B J (fw 0 ds) ([o.shal].zip vs)→(fw 0 ds).length≤sizeLine→R J H':=k
  cases ea:o.frz with
  | lst xs =>
   rw [ea]at ed
   injection ed with ed; subst ed
   obtain⟨a,vs,rfl,ha,hl,_⟩:=Sat.kidsL (ae.perm a2.sat List.perm_middle) ea
   exact⟨a,vs,rfl,.inl ⟨by rw [hK]; exact ha,_,.inl ⟨a,vs,by rw [hK]; exact ha,Nat.le_of_eq (eN.trans hl)⟩,by rw [hK]; exact k [.ref a] _ H1 rfl ⟨av,trivial⟩ a3 (Co ea)⟩⟩
  | tup xs =>
   rw [ea]at ed
   injection ed with ed; subst ed
   obtain⟨a,vs,rfl,ha,hl,_⟩:=Sat.kidsT (ae.perm a2.sat List.perm_middle) ea
   exact⟨a,vs,rfl,.inr ⟨by rw [hK]; exact ha,_,.inr (.inl ⟨a,vs,by rw [hK]; exact ha,Nat.le_of_eq (eN.trans hl)⟩),by rw [hK]; exact k [.ref a] _ H1 rfl ⟨av,trivial⟩ a3 (Aj ea)⟩⟩
  | _=>rw [ea]at ed; cases ed
theorem mD:∀ {ses:List SE}{ρ ρ':Env}{os:List O},jR Φ ses ρ = .ok os ρ'→os.length=ses.length
 | [],ρ,ρ',os,e=>by rw [jR]at e; injection e with e; subst e; rfl
 | se::ses,ρ,ρ',os,e=>by
  rw [jR]at e
  obtain⟨o,ρ1,_,e⟩:=Res.bind_of e
  obtain⟨os',ρ2,e1,e⟩:=Res.bind_of e
  injection e with e
  subst e
  simp [mD e1]
theorem At.intAt {σ:L2.St}{H:Hp}{ρ:Env}{l m:List aW}{i:Int}{v:V} (a:At T B H ρ σ (m++(.d (.int i),v)::l)):v = .int i :=
 (ae.perm (m:=(O.d (.int i),v)::(af ρ σ++(m++l))) a.sat ((List.Perm.append_left _ List.perm_middle).trans List.perm_middle)).read
theorem Am {se:SE}{e tg:Expr}{p pos:Pos} (hg:Gl X "range") (hm:X.mg "range" = none) (ha:PA X [e] (tL T B Φ W [se])) (hs:starEach [e] X.env = [(false,eval e X.env)]) :
  PI X tg (.Call (.Name "range" p) [e] [] pos) (tI T B Φ W (.range [se])):=by
 refine⟨fun pins s σ H R I ⟨ρ,l,at_,h⟩=>(pi_range1 hg hm ha hs).run pins s σ H R I ⟨ρ,l,at_,?_⟩⟩
 rw [kG]at h
 refine h.bind.eq.mono fun os ρ1 ⟨eo,k⟩ vs H1 hl a1=>?_
 obtain⟨ds,ed,k⟩:=k.bind.of
 have hlo:=mD eo
 match os,hlo,ed with
 | [.d (.int n)],_,ed =>
  have ed:(if -(2 ^ 62)≤n∧n≤sizeLine then some (fK 0 n.toNat)else none)=some ds:=ed
  split at ed
  ·rename_i hz
   injection ed with ed; subst ed
   match vs,hl with
   | [v],_ =>
    have ev:=At.intAt (m:=[]) a1
    subst ev
    have k:∀ vs J H',([]:List O).length=vs.length→bY σ [] vs→At T B H' ρ1 σ (([]:List O).zip vs++l)→Wk T B J (fK 0 n.toNat) (([]:List O).zip vs)→(fK 0 n.toNat).length≤sizeLine→R J H':=k
    have h63:=sizeLine_eq
    exact⟨n,rfl,hz.1,by omega,k [] _ H1 rfl trivial a1.drop Ai (by simp [fK]; omega)⟩
  ·cases ed
 | [.d .non],_,ed=>cases ed
 | [.d (.bl _)],_,ed=>cases ed
 | [.d (.str _)],_,ed=>cases ed
 | [.d (.tup _)],_,ed=>cases ed
 | [.d (.lst _)],_,ed=>cases ed
 | [.d (.dic _ _)],_,ed=>cases ed
 | [.d (.obj _ _ _)],_,ed=>cases ed
 | [.d (.exc _ _)],_,ed=>cases ed
 | [.tup _],_,ed=>cases ed
 | [.lst _],_,ed=>cases ed
 | [.dic _ _],_,ed=>cases ed
 | [.obj _ _ _],_,ed=>cases ed
def SameBut (is:List Nat) (σ σ':L2.St):Prop:=σ'.length=σ.length∧∀ j,j∉is→σ'[j]?=σ[j]?
theorem SameBut.refl {is:List Nat}{σ:L2.St}:SameBut is σ σ:=⟨rfl,fun _ _=>rfl⟩
theorem SameBut.trans {is js:List Nat}{σ σ' σ'':L2.St} (a:SameBut is σ σ') (b:SameBut js σ' σ''):SameBut (is++js) σ σ'' :=
 ⟨b.1.trans a.1,fun j hj=>(b.2 j fun z=>hj (List.mem_append_right _ z)).trans (a.2 j fun z=>hj (List.mem_append_left _ z))⟩
def gT (T:Tab) (B:Base) (t:Tg):TG:=fun v σ H Q=>∃ d ρ ρ' l,At T B H ρ σ ((.d d,v)::l)∧aE t d ρ=some ρ'∧∀ σ',SameBut (ar t) σ σ'→At T B H ρ' σ' l→Q σ' H
def FT (T:Tab) (B:Base) (ts:List Tg):TGs:=fun vs σ H Q=>∃ ds ρ ρ' l,ds.length=vs.length∧At T B H ρ σ ((ds.map O.d).zip vs++l)∧aE.go ts ds ρ=some ρ'∧∀ σ',SameBut (nB ts) σ σ'→At T B H ρ' σ' l→Q σ' H
theorem _root_.L2.PG.pv {X:Cx}{tg:Expr}{t t':TG} (h:PG X tg t) (i:∀ pins s v σ H Q,Inv X pins σ H s→t' v σ H Q→t v σ H Q):PG X tg t':=⟨fun pins s σ H v u Q I r q=>h.run pins s σ H v u Q I r (i pins s v σ H Q I q)⟩
theorem _root_.L2.PGs.pv {X:Cx}{tg:List Expr}{t t':TGs} (h:PGs X tg t) (i:∀ vs σ H Q,t' vs σ H Q→t vs σ H Q):PGs X tg t':=⟨fun pins s σ H v u Q I r q=>h.run pins s σ H v u Q I r (i v σ H Q q)⟩
theorem DM {i:Nat}{x:Str}{pos:Pos} (hN:X.N.Nodup) (hi:X.N[i]?=some x) (hx:Loc X.env.scope x) (hf:X.fn x=true∨X.env.scope.names.lookup x=some .local) (hp:∀ p∈B.pr,p.1≠i):PG X (.Name x pos) (gT T B (.nm i)) :=
 (pg_name hN hi hx hf).pv fun pins s v σ H Q I ⟨d,ρ,ρ',l,a,e,q⟩=>by
  have e:some (ρ.set i (some (.d d)))=some ρ':=by rw [aE]at e; exact e
  injection e with e
  subst e
  have hl:i < ρ.length:=by
   rw [a.ok.len,I.len]
   exact(List.getElem?_eq_some_iff.mp hi).1
  exact q _ ⟨by simp,fun j hj=>List.getElem?_set_ne (fun z=>hj (by rw [ar,z]; exact List.mem_cons_self))⟩ (a.store hl hp)
theorem oN:PGs X [] (FT T B []):=pgs_nil.pv fun vs σ H Q ⟨ds,ρ,ρ',l,hl,a,e,q⟩=>by
 cases ds with
 | nil =>
  have e:some ρ=some ρ':=by rw [aE.go]at e; exact e
  injection e with e
  subst e
  cases vs with
  | nil=>exact⟨rfl,q σ .refl a⟩
  | cons _ _=>simp at hl
 | cons d ds=>rw [aE.go]at e <;> first | cases e | simp
theorem fY {e:Expr}{es:List Expr}{t:Tg}{ts:List Tg} (h1:PG X e (gT T B t)) (h2:PGs X es (FT T B ts)) (hs:(assignEach (e::es) X.env).map (·.2)=assign e X.env::(assignEach es X.env).map (·.2)):PGs X (e::es) (FT T B (t::ts)) :=
 (pgs_cons h1 h2 hs).pv fun vs σ H Q ⟨ds,ρ,ρ',l,hl,a,e,q⟩=>by
  cases ds with
  | nil=>rw [aE.go]at e <;> first | cases e | simp
  | cons d ds =>
   cases vs with
   | nil=>simp at hl
   | cons v vs =>
    rw [aE.go]at e
    cases e1:aE t d ρ with
    | none=>rw [e1]at e; cases e
    | some ρ1 =>
     rw [e1]at e
     exact⟨v,vs,rfl,d,ρ,ρ1,(ds.map O.d).zip vs++l,a,e1,fun σ' sm a'=>⟨ds,ρ1,ρ',l,by simpa using hl,a',e,fun σ'' sm' a''=>q σ'' (by rw [nB]; exact sm.trans sm') a''⟩⟩
theorem uF:∀ {ts:List Tg}{ds:List D}{ρ ρ':Env},aE.go ts ds ρ=some ρ'→ts.length=ds.length
 | [],[],_,_,_=>rfl
 | [],_::_,_,_,e=>by rw [aE.go]at e <;> first | cases e | simp
 | _::_,[],_,_,e=>by rw [aE.go]at e <;> first | cases e | simp
 | t::ts,d::ds,ρ,ρ',e=>by
  rw [aE.go]at e
  cases e1:aE t d ρ with
  | none=>rw [e1]at e; cases e
  | some ρ1 =>
   rw [e1]at e
   simp [uF e]
theorem x9 {es:List Expr}{k:Nat}{ts:List Tg}{pos:Pos} (hK:X.K=T.K) (hc:X.calm=true) (h:PGs X es (FT T B ts)) (hn:(assignEach es X.env).length=ts.length) (hst:(assignEach es X.env).findIdx? (·.1)=none):PG X (.Tuple es k pos) (gT T B (.tp ts)) :=
 (pg_tup (n:=ts.length) hc h hn hst).pv fun pins s v σ H Q I ⟨d,ρ,ρ',l,a,e,q⟩=>by
  cases d with
  | tup xs =>
   rw [aE]at e
   have s1:Sat T B H ((.d (.tup xs),v)::(af ρ σ++l)):=a.sat.perm List.perm_middle
   obtain⟨b,vs,rfl,hb,hl,s2⟩:=Sat.kidsT s1 (xs:=xs) rfl
   refine⟨b,vs,rfl,by rw [hK]; exact hb,by rw [← hl,uF e],xs,ρ,ρ',l,hl,⟨a.ok,?_,a.pr⟩,e,fun σ' sm a'=>q σ' (by rw [ar]; exact sm) a'⟩
   have s3:ae T B H [] ((O.shal (.d (.tup xs)),V.ref b)::((xs.map O.d).zip vs++(af ρ σ++l))):=s2.perm List.perm_middle
   exact s3.drop1.perm ak
  | _=>rw [aE]at e <;> first | cases e | simp
end
end PV
namespace PV
open PySem PySem.Spec PyProof.Rows L2
def RS (T:Tab) (B:Base) (W:WX) (D:Ends) (l:List aW) (r:Res Fl):Prop:=match r with
 | .ok .nx ρ=>∀ σ H,At T B H ρ σ l→D.nx σ H
 | .ok (.rt o) ρ=>∀ σ v H,At T B H ρ σ ((o,v)::l)→D.rt v H
 | .ok .bk ρ=>∀ σ H,At T B H ρ σ l→D.bk σ H
 | .ok .ct ρ=>∀ σ H,At T B H ρ σ l→D.ct σ H
 | .exc C p ρ=>∀ σ d H its,At T B H ρ σ (its++l)→pF T H C p d its→W (.ref (T.cls C)) d σ H
 | .bad=>False
def tS (T:Tab) (B:Base) (Φ:cW) (W:WX) (s:SS):TS:=fun D σ H=>∃ ρ l,At T B H ρ σ l∧RS T B W D l (bZ Φ s ρ)
def yZ (T:Tab) (B:Base) (Φ:cW) (W:WX) (ss:List SS):TS:=fun D σ H=>∃ ρ l,At T B H ρ σ l∧RS T B W D l (aG Φ ss ρ)
section
variable {T:Tab}{B:Base}{Φ:cW}{W:WX}{X:Cx}{D:Ends}{l m:List aW}{σ:L2.St}{H:Hp}{ρ:Env}
theorem RS.rg {α:Type}{r:Res α}{f:α→Env→Res Fl} (h:RS T B W D l (r.bind f)):RG T B W σ l r fun a ρ=>RS T B W D l (f a ρ):=by
 cases r with
 | ok a ρ=>exact h
 | exc C p ρ=>exact fun d H its a e=>h σ d H its a e
 | bad=>exact h
theorem RS.bnd {α:Type}{o:Option α}{f:α→Res Fl} (h:RS T B W D l (bnd o f)):∃ a,o=some a∧RS T B W D l (f a):=by
 cases o with
 | none=>exact h.elim
 | some a=>exact⟨a,rfl,h⟩
theorem _root_.L2.PS.pv {st:Stmt}{t t':TS} (h:PS X st t) (i:∀ D σ H,t' D σ H→t D σ H):PS X st t':=⟨fun pins s σ H D I q=>h.run pins s σ H D I (i D σ H q)⟩
theorem _root_.L2.PSs.pv {st:List Stmt}{t t':TS} (h:PSs X st t) (i:∀ D σ H,t' D σ H→t D σ H):PSs X st t':=⟨fun pins s σ H D I q=>h.run pins s σ H D I (i D σ H q)⟩
section
variable {e c:Expr}{se sc:SE}{pos:Pos}{st:Stmt}{rest a b:List Stmt}{ss:SS}{sr sa sb:List SS}
theorem aj:PSs X [] (yZ T B Φ W []):=pss_nil.pv fun D σ H ⟨ρ,l,at_,h⟩=>by
 rw [aG]at h
 exact h σ H at_
theorem aa (h1:PS X st (tS T B Φ W ss)) (h2:PSs X rest (yZ T B Φ W sr)):PSs X (st::rest) (yZ T B Φ W (ss::sr)) :=
 (pss_cons h1 h2).pv fun D σ H ⟨ρ,l,at_,h⟩=>by
  rw [aG]at h
  refine⟨ρ,l,at_,?_⟩
  cases e:bZ Φ ss ρ with
  | bad=>rw [e]at h; exact h
  | exc C p ρ'=>rw [e]at h; exact h
  | ok f ρ' =>
   rw [e]at h
   cases f with
   | nx=>exact fun σ' H' a'=>⟨ρ',l,a',h⟩
   | rt o=>exact h
   | bk=>exact h
   | ct=>exact h
theorem gH (he:PE X e (tE T B Φ W se)) (hs:swapsWith e none pos.line X.env=pure false):PS X (.Expr e pos) (tS T B Φ W (.exp se)) :=
 (ps_expr he hs).pv fun D σ H ⟨ρ,l,at_,h⟩=>by
  rw [bZ]at h
  exact⟨ρ,l,at_,RG.rp (h.rg.mono fun o ρ1 k v H1 a1=>k σ H1 a1.drop)⟩
theorem aQ (he:PE X e (tE T B Φ W se)):PS X (.Return (some e) pos) (tS T B Φ W (.ret se)) :=
 (ps_ret he).pv fun D σ H ⟨ρ,l,at_,h⟩=>by
  rw [bZ]at h
  exact⟨ρ,l,at_,RG.rp (h.rg.mono fun o ρ1 k v H1 a1=>k σ v H1 a1)⟩
theorem b6 (hc:PT X c (tT T B Φ W sc)) (ha:PSs X a (yZ T B Φ W sa)) (hb:PSs X b (yZ T B Φ W sb)):PS X (.If c a b pos) (tS T B Φ W (.ite sc sa sb)) :=
 (ps_if hc ha hb).pv fun D σ H ⟨ρ,l,at_,h⟩=>by
  rw [bZ]at h
  refine⟨ρ,l,at_,h.rg.mono fun t ρ1 k H1 a1=>?_⟩
  cases t with
  | true=>rw [if_pos rfl]; exact⟨ρ1,l,a1,k⟩
  | false=>rw [if_neg Bool.false_ne_true]; exact⟨ρ1,l,a1,k⟩
def gO (T:Tab) (B:Base) (t:Tg):TG:=fun v σ H Q=>∃ o ρ ρ' l,At T B H ρ σ ((o,v)::l)∧aF t o ρ=some ρ'∧∀ σ' H',At T B H' ρ' σ' l→Q σ' H'
def FU (T:Tab) (B:Base) (ts:List Tg):TGs:=fun vs σ H Q=>∃ os ρ ρ' l,os.length=vs.length∧At T B H ρ σ (os.zip vs++l)∧aF.go ts os ρ=some ρ'∧∀ σ' H',At T B H' ρ' σ' l→Q σ' H'
theorem GB {i:Nat}{x:Str} (hN:X.N.Nodup) (hi:X.N[i]?=some x) (hx:Loc X.env.scope x) (hf:X.fn x=true∨X.env.scope.names.lookup x=some .local) (hp:∀ p∈B.pr,p.1≠i):PG X (.Name x pos) (gO T B (.nm i)) :=
 (pg_name hN hi hx hf).pv fun pins s v σ H Q I ⟨o,ρ,ρ',l,a,e,q⟩=>by
  have e:some (ρ.set i (some o))=some ρ':=by rw [aF]at e; exact e
  injection e with e
  subst e
  have hl:i < ρ.length:=by
   rw [a.ok.len,I.len]
   exact(List.getElem?_eq_some_iff.mp hi).1
  exact q _ _ (a.store hl hp)
theorem aY {tg:Expr}{t:Tg} (he:PE X e (tE T B Φ W se)) (hg:PG X tg (gO T B t)) (hs:swapsWithSole [tg] e pos.line X.env=pure false) (hw:swappedStores [tg] e X.env=pure none)
  (h1:(assignEach [tg] X.env).map (·.2) = [assign tg X.env]):PS X (.Assign [tg] e pos) (tS T B Φ W (.asg t se)) :=
 (ps_asg he hg hs hw h1).pv fun D σ H ⟨ρ,l,at_,h⟩=>by
  rw [bZ]at h
  refine⟨ρ,l,at_,RG.rp (h.rg.mono fun o ρ1 k v H1 a1=>?_)⟩
  obtain⟨ρ2,e2,k⟩:=k.bnd
  exact⟨o,ρ1,ρ2,l,a1,e2,fun σ' H' a'=>k σ' H' a'⟩
def uG:List Arg→List V→List (Nat×V)
 | .slot i::as,v::vs=>(i,v)::uG as vs
 | .val _::as,_::vs=>uG as vs
 | _,_=>[]
theorem uH {σ:L2.St}:∀ {as:List Arg}{vs:List V},bY σ as vs→∀ p∈uG as vs,σ[p.1]?=some (some p.2)
 | [],[],_,p,hp=>by cases hp
 | .slot i::as,v::vs,h,p,hp=>by
  rcases List.mem_cons.mp hp with rfl | hp
  ·exact h.1
  ·exact uH h.2 p hp
 | .val o::as,v::vs,h,p,hp=>uH (as:=as) (vs:=vs) h.2 p hp
 | [],_::_,h,p,hp=>h.elim
 | .slot _::_,[],h,p,hp=>h.elim
 | .val _::_,[],h,p,hp=>h.elim
theorem oO {σ:L2.St}:∀ {as:List Arg}{vs:List V},as.length=vs.length→(∀ p∈uG as vs,σ[p.1]?=some (some p.2))→bY σ as vs
 | [],[],_,h=>trivial
 | .slot i::as,v::vs,hl,h=>⟨h (i,v) List.mem_cons_self,oO (by simpa using hl) fun p hp=>h p (List.mem_cons_of_mem _ hp)⟩
 | .val o::as,v::vs,hl,h=>⟨trivial,oO (by simpa using hl) fun p hp=>h p hp⟩
 | [],_::_,hl,h=>by simp at hl
 | .slot _::_,[],hl,h=>by simp at hl
 | .val _::_,[],hl,h=>by simp at hl
theorem qO:∀ {as:List Arg}{vs:List V}{p:Nat×V},p∈uG as vs→Arg.slot p.1∈as
 | .slot i::as,v::vs,p,hp=>by
  rcases List.mem_cons.mp hp with rfl | hp
  ·exact List.mem_cons_self
  ·exact List.mem_cons_of_mem _ (qO hp)
 | .val o::as,v::vs,p,hp=>List.mem_cons_of_mem _ (qO (as:=as) (vs:=vs) hp)
 | [],_,p,hp=>by cases hp
 | .slot _::_,[],p,hp=>by cases hp
 | .val _::_,[],p,hp=>by cases hp
def Base.keep (B:Base) (pr:List (Nat×V)):Base:={B with pr:=pr++B.pr}
theorem l3 {pr:List (Nat×V)}{hs:List Addr}:ae T (B.keep pr) H hs l↔ae T B H hs l :=
 ⟨fun s=>⟨s.lk,s.old,s.oth,s.io,s.tb,s.reps⟩,fun s=>⟨s.lk,s.old,s.oth,s.io,s.tb,s.reps⟩⟩
theorem At.toKeep {pr:List (Nat×V)} (a:At T B H ρ σ l) (h:∀ p∈pr,σ[p.1]?=some (some p.2)):At T (B.keep pr) H ρ σ l :=
 ⟨a.ok,l3.mpr a.sat,fun p hp=>(List.mem_append.mp hp).elim (h p) (a.pr p)⟩
theorem At.ofKeep {pr:List (Nat×V)} (a:At T (B.keep pr) H ρ σ l):At T B H ρ σ l:=⟨a.ok,l3.mp a.sat,fun p hp=>a.pr p (List.mem_append_right _ hp)⟩
theorem At.prKeep {pr:List (Nat×V)} (a:At T (B.keep pr) H ρ σ l):∀ p∈pr,σ[p.1]?=some (some p.2):=fun p hp=>a.pr p (List.mem_append_left _ hp)
theorem EI {tg iter:Expr}{body:List Stmt}{t:Tg}{ie:IE} (hl:List Nat) (hslots:∀ ρ p ρ',kG Φ ie ρ = .ok p ρ'→∀ i,Arg.slot i∈p.1→i∈hl) (hlen:∀ ρ p ρ',kG Φ ie ρ = .ok p ρ'→p.1.length=p.2.1.length)
  (hp:PassesOwn (model X.prog X.w) X.A X.env X.xe) (hc:X.calm=true) (hi:PI X tg iter (tI T B Φ W ie)) (hg:∀ B':Base,(∀ p∈B'.pr,p∈B.pr∨p.1∈hl)→PG X tg (gT T B' t))
  (hb:∀ B':Base,(∀ p∈B'.pr,p∈B.pr∨p.1∈hl)→PSs X body (yZ T B' Φ W sb)) (hs:∀ x,foldedSetIterable iter X.env x=pure x):PS X (.For tg iter body [] pos) (tS T B Φ W (.for t ie sb)):=by
 have hg':PG X tg (fun v σ H Q=>∃ B':Base,(∀ p∈B'.pr,p∈B.pr∨p.1∈hl)∧gT T B' t v σ H Q):=⟨fun pins s σ H v u Q I r ⟨B',c,h⟩=>(hg B' c).run pins s σ H v u Q I r h⟩
 have hb':PSs X body (fun D σ H=>∃ B':Base,(∀ p∈B'.pr,p∈B.pr∨p.1∈hl)∧yZ T B' Φ W sb D σ H):=⟨fun pins s σ H D I ⟨B',c,h⟩=>(hb B' c).run pins s σ H D I h⟩
 refine(ps_for hp hc hi hg' hb' hs).pv fun D σ H ⟨ρ,l,at_,h⟩=>?_
 rw [bZ]at h
 refine⟨ρ,l,at_,h.rg.eq.mono fun q ρ1 ⟨eq_,k⟩ vs J H1 hvl av a1 wk _=>?_⟩
 obtain⟨as,os,ds⟩:=q
 have hal:as.length=os.length:=hlen _ _ _ eq_
 have hsl:=hslots _ _ _ eq_
 simp only at k hvl av a1 wk hsl
 have cond:∀ p∈(B.keep (uG as vs)).pr,p∈B.pr∨p.1∈hl:=fun p hp=>(List.mem_append.mp hp).elim (fun z=>.inr (hsl _ (qO z))) .inl
 have back:∀ {H:Hp}{ρ:Env}{σ:L2.St}{m:List aW},At T (B.keep (uG as vs)) H ρ σ (m++(os.zip vs++l))→At T B H (aL as os ρ) σ (m++l):=fun {H ρ σ m} a =>
  dC (as:=as) (os:=os) (vs:=vs) hvl ((a.ofKeep).perm ak) (oO (by omega) a.prKeep)
 have w:Walk J ds.length (fun H=>∃ l',Sat T B H (os.zip vs++l')) (fun i H v H'=>∀ l',Sat T B H (os.zip vs++l')→∃ d,ds[i]?=some d∧Sat T B H' ((.d d,v)::(os.zip vs++l'))) :=
  ⟨fun i H hi ⟨l',s⟩=>wk.goes i H l' hi s,fun H ⟨l',s⟩=>wk.stops H l' s,fun i H v H' hi _ y l' s=>wk.yields i H v H' l' hi s y⟩
 refine for_it (g:=fun v σ H Q=>∃ B':Base,(∀ p∈B'.pr,p∈B.pr∨p.1∈hl)∧gT T B' t v σ H Q) (tb:=fun D σ H=>∃ B':Base,(∀ p∈B'.pr,p∈B.pr∨p.1∈hl)∧yZ T B' Φ W sb D σ H) (D:=D) w (fun i σ H=>∃ ρi,At T (B.keep (uG as vs)) H ρi σ (os.zip vs++l)∧RS T B W D l ((forL (fun x ρ=>bnd (aE t x ρ) fun ρ=>aG Φ sb ρ) (ds.drop i) ρi).mapE (aL as os))) ⟨ρ1,a1.toKeep (uH av),by rw [List.drop_zero]; exact k⟩ ?_ ?_ ?_
 ·rintro i σ2 H2 _ ⟨ρi,a2,_⟩
  exact⟨_,(l3.mp a2.sat).perm ak⟩
 ·rintro i x σ2 H2 H3 hi ⟨ρi,a2,k2⟩ y
  obtain⟨d,hd,s3⟩:=y _ ((l3.mp a2.sat).perm ak)
  have ed:ds.drop i=d::ds.drop (i+1):=by
   obtain⟨hj,hv⟩:=List.getElem?_eq_some_iff.mp hd
   rw [← hv]
   exact List.drop_eq_getElem_cons hj
  rw [ed,forL]at k2
  have a3:At T (B.keep (uG as vs)) H3 ρi σ2 ((.d d,x)::(os.zip vs++l)):=⟨a2.ok,l3.mpr (s3.perm (by
   have p1:((O.d d,x)::(os.zip vs++(af ρi σ2++l))).Perm ((O.d d,x)::(af ρi σ2++(os.zip vs++l))):=ak.cons _
   exact p1.trans List.perm_middle.symm)),a2.pr⟩
  cases ea:aE t d ρi with
  | none=>rw [ea]at k2; exact k2.elim
  | some ρ2 =>
   rw [ea]at k2
   refine⟨_,cond,d,ρi,ρ2,_,a3,ea,fun σ' _ a4=>⟨_,cond,ρ2,_,a4,?_⟩⟩
   have k2:RS T B W D l (((aG Φ sb ρ2).bind fun e ρ=>e.turn (forL (fun x ρ=>bnd (aE t x ρ) fun ρ=>aG Φ sb ρ) (ds.drop (i+1)) ρ) ρ).mapE (aL as os)):=k2
   cases er:aG Φ sb ρ2 with
   | bad=>rw [er]at k2; exact k2
   | exc C p ρ3 =>
    rw [er]at k2
    intro σ4 d4 H4 its a5 e5
    exact k2 σ4 d4 H4 its (back a5) e5
   | ok f ρ3 =>
    rw [er]at k2
    cases f with
    | nx=>exact fun σ4 H4 a5=>⟨ρ3,a5,k2⟩
    | ct=>exact fun σ4 H4 a5=>⟨ρ3,a5,k2⟩
    | rt o=>exact fun σ4 v H4 a5=>k2 σ4 v H4 (back (m:=[(o,v)]) a5)
    | bk=>exact fun σ4 H4 a5=>k2 σ4 H4 (back (m:=[]) a5)
 ·rintro σ2 H2 ⟨ρi,a2,k2⟩
  rw [List.drop_of_length_le (Nat.le_refl _),forL]at k2
  exact k2 σ2 H2 (back (m:=[]) a2)
theorem uI {c:Expr}{body:List Stmt}{sc:SE} (hp:PassesOwn (model X.prog X.w) X.A X.env X.xe) (hc:PT X c (tT T B Φ W sc)) (hb:PSs X body (yZ T B Φ W sb)):PS X (.While c body [] pos) (tS T B Φ W (.whl sc sb)):=by
 refine(ps_while hp hc hb).pv fun D σ H ⟨ρ,l,at_,h⟩=>?_
 rw [bZ]at h
 generalize hf:(fun ρ=>(kh Φ sc ρ).bind fun t ρ=>kg t ((aG Φ sb ρ).bind fun f ρ=>Res.ok f.whl ρ) (Res.ok (some Fl.nx) ρ))=f at h
 have h0:∃ n r,cY f n ρ=some r∧RS T B W D l r:=by
  unfold B3 at h
  split at h
  ·rename_i hx
   exact⟨_,_,(Classical.choose_spec hx).choose_spec,h⟩
  ·exact h.elim
 obtain⟨n,r,e,hr⟩:=h0
 refine⟨fun m σ H=>∃ ρi r,At T B H ρi σ l∧cY f m ρi=some r∧RS T B W D l r,⟨n,ρ,r,at_,e,hr⟩,?_⟩
 rintro m σ2 H2 ⟨ρi,r,a2,e2,hr⟩
 cases m with
 | zero=>cases e2
 | succ k =>
  unfold cY at e2
  refine⟨ρi,l,a2,?_⟩
  have ef:f ρi=(kh Φ sc ρi).bind fun t ρ=>kg t ((aG Φ sb ρ).bind fun f ρ=>Res.ok f.whl ρ) (Res.ok (some Fl.nx) ρ):=by rw [← hf]
  rw [ef]at e2
  cases ec:kh Φ sc ρi with
  | bad =>
   rw [ec]at e2
   injection e2 with e2
   subst e2
   exact hr
  | exc C p ρ1 =>
   rw [ec]at e2
   injection e2 with e2
   subst e2
   exact fun d H its a e=>hr σ2 d H its a e
  | ok b ρ1 =>
   rw [ec]at e2
   intro H3 a3
   cases b with
   | false =>
    injection e2 with e2
    subst e2
    rw [if_neg Bool.false_ne_true]
    exact hr σ2 H3 a3
   | true =>
    rw [if_pos rfl]
    have e2:(match((aG Φ sb ρ1).bind fun f ρ=>Res.ok f.whl ρ)with
     | .ok none ρ=>cY f k ρ
     | .ok (some e) ρ=>some (.ok e ρ)
     | .exc C p ρ=>some (.exc C p ρ)
     | .bad=>some .bad)=some r:=e2
    refine⟨fun σ H=>∃ ρi r,At T B H ρi σ l∧cY f k ρi=some r∧RS T B W D l r,fun σ' H' z=>⟨k,Nat.lt_succ_self k,z⟩,ρ1,l,a3,?_⟩
    cases es:aG Φ sb ρ1 with
    | bad =>
     rw [es]at e2
     injection e2 with e2
     subst e2
     exact hr
    | exc C p ρ2 =>
     rw [es]at e2
     injection e2 with e2
     subst e2
     exact hr
    | ok g ρ2 =>
     rw [es]at e2
     cases g with
     | nx=>exact fun σ4 H4 a4=>⟨ρ2,r,a4,e2,hr⟩
     | ct=>exact fun σ4 H4 a4=>⟨ρ2,r,a4,e2,hr⟩
     | bk =>
      injection e2 with e2
      subst e2
      exact hr
     | rt o =>
      injection e2 with e2
      subst e2
      exact hr
theorem uJ {i j:Nat}{x y:Str}{e1 e2:Expr}{s1 s2:SE}{px py pt:Pos}{kt k2:Nat}{pt2:Pos} (hc:X.calm=true) (hN:X.N.Nodup) (hi:X.N[i]?=some x) (hj:X.N[j]?=some y) (hij:i≠j)
  (hx:X.env.scope.names.lookup x=some .local) (hy:X.env.scope.names.lookup y=some .local) (hpi:∀ p∈B.pr,p.1≠i) (hpj:∀ p∈B.pr,p.1≠j) (ha:PA X [e1,e2] (tL T B Φ W [s1,s2]))
  (hw:swappedStores [.Tuple [.Name x px,.Name y py] kt pt] (.Tuple [e1,e2] k2 pt2) X.env=pure (some [x,y]))
  (hs:swapsWithSole [.Tuple [.Name x px,.Name y py] kt pt] (.Tuple [e1,e2] k2 pt2) pos.line X.env=pure false) :
  PS X (.Assign [.Tuple [.Name x px,.Name y py] kt pt] (.Tuple [e1,e2] k2 pt2) pos) (tS T B Φ W (.asg (.tp [.nm i,.nm j]) (.tup [s1,s2]))):=by
 refine⟨fun pins s σ H D I ⟨ρ,l,at_,h⟩=>(ps_par hc hN hi hj hij hx hy ha hw hs).run pins s σ H D I ⟨ρ,l,at_,?_⟩⟩
 rw [bZ,ev]at h
 have h:=h.rg (σ:=σ)
 have h:=h.bind
 refine h.eq.mono fun os ρ1 ⟨eo,k⟩ vs H1 hl a1=>?_
 have hlo:=mD eo
 match os,hlo,vs,hl with
 | [o,p],_,[v,w],_ =>
  refine⟨v,w,rfl,?_⟩
  have k:RS T B W D l (bnd (aF (.tp [.nm i,.nm j]) (oE [o,p]) ρ1) fun ρ=>.ok .nx ρ):=k
  have ea:aF (.tp [.nm i,.nm j]) (oE [o,p]) ρ1=some ((ρ1.set i (some o)).set j (some p)):=by
   have e1:∀ a b:O,aF.go [.nm i,.nm j] [a,b] ρ1=some ((ρ1.set i (some a)).set j (some b)):=fun a b=>by
    rw [aF.go,aF]
    show aF.go [.nm j] [b] (ρ1.set i (some a))=_
    rw [aF.go,aF]
    show aF.go [] [] _=_
    rw [aF.go]
   have e2:∀ a b:PV.D,aF.goD [.nm i,.nm j] [a,b] ρ1=some ((ρ1.set i (some (.d a))).set j (some (.d b))):=fun a b=>by
    rw [aF.goD,aE]
    show aF.goD [.nm j] [b] (ρ1.set i (some (.d a)))=_
    rw [aF.goD,aE]
    show aF.goD [] [] _=_
    rw [aF.goD]
   cases o with
   | d x1 =>
    cases p with
    | d x2 =>
     show aF (.tp [.nm i,.nm j]) (.d (.tup [x1,x2])) ρ1=_
     rw [aF]
     exact e2 x1 x2
    | tup xs=>show aF (.tp [.nm i,.nm j]) (.tup [.d x1,.tup xs]) ρ1=_; rw [aF]; exact e1 _ _
    | lst xs=>show aF (.tp [.nm i,.nm j]) (.tup [.d x1,.lst xs]) ρ1=_; rw [aF]; exact e1 _ _
    | dic ks xs=>show aF (.tp [.nm i,.nm j]) (.tup [.d x1,.dic ks xs]) ρ1=_; rw [aF]; exact e1 _ _
    | obj C ns xs=>show aF (.tp [.nm i,.nm j]) (.tup [.d x1,.obj C ns xs]) ρ1=_; rw [aF]; exact e1 _ _
   | tup xs=>show aF (.tp [.nm i,.nm j]) (.tup [.tup xs,p]) ρ1=_; rw [aF]; exact e1 _ _
   | lst xs=>show aF (.tp [.nm i,.nm j]) (.tup [.lst xs,p]) ρ1=_; rw [aF]; exact e1 _ _
   | dic ks xs=>show aF (.tp [.nm i,.nm j]) (.tup [.dic ks xs,p]) ρ1=_; rw [aF]; exact e1 _ _
   | obj C ns xs=>show aF (.tp [.nm i,.nm j]) (.tup [.obj C ns xs,p]) ρ1=_; rw [aF]; exact e1 _ _
  rw [ea]at k
  have k:∀ σ H,At T B H ((ρ1.set i (some o)).set j (some p)) σ l→D.nx σ H:=k
  have hli:i < ρ1.length:=by rw [a1.ok.len,I.len]; exact(List.getElem?_eq_some_iff.mp hi).1
  have hlj:j < ρ1.length:=by rw [a1.ok.len,I.len]; exact(List.getElem?_eq_some_iff.mp hj).1
  have a2:At T B H1 (ρ1.set i (some o)) (σ.set i (some v)) ((p,w)::l):=At.store (l:=(p,w)::l) a1 hli hpi
  exact k _ H1 (a2.store (by simpa using hlj) hpj)
theorem xf:PGs X [] (FU T B []):=pgs_nil.pv fun vs σ H Q ⟨os,ρ,ρ',l,hl,a,e,q⟩=>by
 cases os with
 | nil =>
  have e:some ρ=some ρ':=by rw [aF.go]at e; exact e
  injection e with e
  subst e
  cases vs with
  | nil=>exact⟨rfl,q σ H a⟩
  | cons _ _=>simp at hl
 | cons d ds=>rw [aF.go]at e <;> first | cases e | simp
theorem l4 {e:Expr}{es:List Expr}{t:Tg}{ts:List Tg} (h1:PG X e (gO T B t)) (h2:PGs X es (FU T B ts)) (hs:(assignEach (e::es) X.env).map (·.2)=assign e X.env::(assignEach es X.env).map (·.2)):PGs X (e::es) (FU T B (t::ts)) :=
 (pgs_cons h1 h2 hs).pv fun vs σ H Q ⟨ds,ρ,ρ',l,hl,a,e,q⟩=>by
  cases ds with
  | nil=>rw [aF.go]at e <;> first | cases e | simp
  | cons d ds =>
   cases vs with
   | nil=>simp at hl
   | cons v vs =>
    rw [aF.go]at e
    cases e1:aF t d ρ with
    | none=>rw [e1]at e; cases e
    | some ρ1 =>
     rw [e1]at e
     exact⟨v,vs,rfl,d,ρ,ρ1,ds.zip vs++l,a,e1,fun σ' H' a'=>⟨ds,ρ1,ρ',l,by simpa using hl,a',e,q⟩⟩
theorem qP:∀ {ts:List Tg}{ds:List O}{ρ ρ':Env},aF.go ts ds ρ=some ρ'→ts.length=ds.length
 | [],[],_,_,_=>rfl
 | [],_::_,_,_,e=>by rw [aF.go]at e <;> first | cases e | simp
 | _::_,[],_,_,e=>by rw [aF.go]at e <;> first | cases e | simp
 | t::ts,d::ds,ρ,ρ',e=>by
  rw [aF.go]at e
  cases e1:aF t d ρ with
  | none=>rw [e1]at e; cases e
  | some ρ1 =>
   rw [e1]at e
   simp [qP e]
theorem An:∀ {ts:List Tg}{ds:List PV.D}{ρ:Env},aF.goD ts ds ρ=aE.go ts ds ρ
 | [],[],ρ=>by rw [aF.goD,aE.go]
 | [],_::_,ρ=>by rw [aF.goD,aE.go] <;> simp
 | _::_,[],ρ=>by rw [aF.goD,aE.go] <;> simp
 | t::ts,d::ds,ρ=>by
  rw [aF.goD,aE.go]
  cases aE t d ρ with
  | none=>rfl
  | some ρ1=>exact An
theorem DN {es:List Expr}{k:Nat}{ts:List Tg} (hK:X.K=T.K) (hc:X.calm=true) (h:PGs X es (FU T B ts)) (h':PGs X es (FT T B ts)) (hn:(assignEach es X.env).length=ts.length) (hst:(assignEach es X.env).findIdx? (·.1)=none):PG X (.Tuple es k pos) (gO T B (.tp ts)):=by
 have hh:PGs X es (fun vs σ H Q=>FU T B ts vs σ H Q∨FT T B ts vs σ H Q):=⟨fun pins s σ H vs us Q I r z=>z.elim (h.run pins s σ H vs us Q I r) (h'.run pins s σ H vs us Q I r)⟩
 refine(pg_tup (n:=ts.length) hc hh hn hst).pv fun pins s v σ H Q I ⟨o,ρ,ρ',l,a,e,q⟩=>?_
 cases o with
 | d x =>
  cases x with
  | tup xs =>
   have e:aE.go ts xs ρ=some ρ':=by rw [aF,An]at e; exact e
   have s1:Sat T B H ((.d (.tup xs),v)::(af ρ σ++l)):=a.sat.perm List.perm_middle
   obtain⟨b,vs,rfl,hb,hl,s2⟩:=Sat.kidsT s1 (xs:=xs) rfl
   refine⟨b,vs,rfl,by rw [hK]; exact hb,by rw [← hl,uF e],.inr ⟨xs,ρ,ρ',l,hl,⟨a.ok,?_,a.pr⟩,e,fun σ' _ a'=>q σ' H a'⟩⟩
   have s3:ae T B H [] ((O.shal (.d (.tup xs)),V.ref b)::((xs.map O.d).zip vs++(af ρ σ++l))):=s2.perm List.perm_middle
   exact s3.drop1.perm ak
  | _=>rw [aF]at e <;> first | cases e | simp
 | tup xs =>
  have e:aF.go ts xs ρ=some ρ':=by rw [aF]at e; exact e
  have s1:Sat T B H ((.tup xs,v)::(af ρ σ++l)):=a.sat.perm List.perm_middle
  obtain⟨b,vs,rfl,hb,hl,s2⟩:=ae.openT s1
  exact⟨b,vs,rfl,SqT.of hb,by rw [← hl,qP e],.inl ⟨xs,ρ,ρ',l,hl,⟨a.ok,s2.perm ak,a.pr⟩,e,q⟩⟩
 | _=>rw [aF]at e <;> first | cases e | simp
end
end
end PV
namespace PV
open PySem PySem.Spec PyProof.Rows L2
section
variable {T:Tab}{B:Base}{Φ:cW}{W:WX}{X:Cx}{H H':Hp}{hs:List Addr}{l m:List aW}{o y:O}{v w:V}{a:Addr}
def IA (T:Tab):TSet:=fun x y w H Q=>∃ (B:Base) (o':O) (ok v:O) (l:List aW) (hs:List Addr) (o1:O),ae T B H hs ((o',x)::(ok,y)::(v,w)::l)∧uw o' ok.frz v=some o1 ∧
 ∀ H',Stays hs H H'→ae T B H' hs ((o1,x)::l)→Q H'
theorem uK {os:List O}{vs:List V}{j:Nat}{n:O}{w:V} (hl:os.length=vs.length) (hj:j < os.length) (s:ae T B H hs (os.zip vs++(n,w)::l)):ae T B H hs ((os.set j n).zip (vs.set j w)++l):=by
 have h1:os[j]?=some os[j]:=List.getElem?_eq_getElem hj
 have h2:vs[j]?=some (vs[j]'(by omega)):=List.getElem?_eq_getElem (by omega)
 have e:(os.zip vs)[j]?=some (os[j],vs[j]'(by omega)):=by rw [List.getElem?_zip_eq_some]; exact⟨h1,h2⟩
 have p1:=iZ e
 have hz:j < (os.zip vs).length:=by simp; omega
 have e2:(os.set j n).zip (vs.set j w)=(os.zip vs).set j (n,w):=by
  apply List.ext_getElem?
  intro i
  by_cases hi:i=j
  ·subst hi
   rw [List.getElem?_set_self hz,List.getElem?_zip_eq_some]
   exact⟨List.getElem?_set_self hj,List.getElem?_set_self (by omega)⟩
  ·rw [List.getElem?_set_ne (Ne.symm hi)]
   simp only [List.zip,List.getElem?_zipWith,List.getElem?_set_ne (Ne.symm hi)]
 have p2:=iZ (l:=(os.zip vs).set j (n,w)) (j:=j) (List.getElem?_set_self hz)
 rw [List.eraseIdx_set_eq]at p2
 rw [e2]
 have s2:ae T B H hs ((os[j],vs[j]'(by omega))::((os.zip vs).eraseIdx j++(n,w)::l)):=s.perm (p1.append_right _)
 refine s2.drop1.perm (List.perm_middle.trans ?_)
 exact p2.symm.append_right l
theorem map_put {κ:Type} [DecidableEq κ] {kk:κ}{w:V}:∀ {js:List κ}{ws:List V}{n:Nat},js.Nodup→js[n]?=some kk→((js.zip ws).map fun kv=>if kv.1=kk then(kv.1,w)else kv)=js.zip (ws.set n w)
 | [],ws,n,nd,e=>by simp at e
 | j::js,[],n,nd,e=>by simp
 | j::js,x::ws,0,nd,e=>by
  simp at e
  subst e
  rw [List.zip_cons_cons,List.map_cons,if_pos rfl,List.set_cons_zero,List.zip_cons_cons]
  congr 1
  have hn:j∉js:=(List.nodup_cons.mp nd).1
  have:∀ kv∈js.zip ws,(if kv.1=j then(kv.1,w)else kv)=kv:=fun kv hkv=>by
   have hm:kv.1∈js:=(List.of_mem_zip (show(kv.1,kv.2)∈js.zip ws from hkv)).1
   exact if_neg fun z=>hn (by rw [← z]; exact hm)
  rw [List.map_congr_left this,List.map_id']
 | j::js,x::ws,n+1,nd,e=>by
  have e:js[n]?=some kk:=by simpa using e
  have hn:¬ j=kk:=fun z=>(List.nodup_cons.mp nd).1 (z ▸ List.mem_of_getElem? e)
  rw [List.zip_cons_cons,List.map_cons,if_neg hn,List.set_cons_succ,List.zip_cons_cons,map_put (List.nodup_cons.mp nd).2 e]
theorem ya {κ:Type} [DecidableEq κ] {kk:κ}{w x:V}{js:List κ}{ws:List V}{n:Nat} (nd:js.Nodup) (e:js[n]?=some kk) (hv:valV (js.zip ws) kk=some x):putK (js.zip ws) kk w=js.zip (ws.set n w):=by
 unfold putK
 rw [valV_any,hv]
 show(if true=true then _ else _)=_
 rw [if_pos rfl,map_put nd e]
theorem yb {k:D}{kk:Key} (ek:keyOf k=some kk):∀ {ks:List D}{js:List Key}{n:Nat},keysOf ks=some js→dG k ks=some n→js[n]?=some kk
 | [],js,n,e,p=>by cases p
 | j::ks,js,n,e,p=>by
  unfold keysOf at e
  cases e1:keyOf j with
  | none=>rw [e1]at e; cases e
  | some jj =>
   cases e2:keysOf ks with
   | none=>rw [e1,e2]at e; cases e
   | some r' =>
    rw [e1,e2]at e
    injection e with e
    subst e
    unfold dG at p
    by_cases hc:jj=kk
    ·subst hc
     rw [if_pos ⟨by rw [e1,ek],by rw [cR e1,cR ek]⟩]at p
     injection p with p
     subst p; rfl
    ·rw [if_neg (fun z=>hc (by have:=z.1; rw [e1,ek]at this; exact Option.some.inj this))]at p
     obtain⟨n',p1,p2⟩:=Option.map_eq_some_iff.mp p
     subst p2
     rw [List.getElem?_cons_succ]
     exact yb ek e2 p1
theorem vN {k:D}{kk:List Key} (ek:aI k=some kk):∀ {ks:List D}{js:List (List Key)}{n:Nat},aM ks=some js→dG k ks=some n→js[n]?=some kk
 | [],js,n,e,p=>by cases p
 | j::ks,js,n,e,p=>by
  unfold aM at e
  cases e1:aI j with
  | none=>rw [e1]at e; cases e
  | some jj =>
   cases e2:aM ks with
   | none=>rw [e1,e2]at e; cases e
   | some r' =>
    rw [e1,e2]at e
    injection e with e
    subst e
    unfold dG at p
    by_cases hc:jj=kk
    ·subst hc
     rw [if_pos ⟨by rw [iC e1,iC ek],by rw [e1,ek]⟩]at p
     injection p with p
     subst p; rfl
    ·rw [if_neg (fun z=>hc (by have:=z.2; rw [e1,ek]at this; exact Option.some.inj this))]at p
     obtain⟨n',p1,p2⟩:=Option.map_eq_some_iff.mp p
     subst p2
     rw [List.getElem?_cons_succ]
     exact vN ek e2 p1
theorem pos_none {k:D}{kk:Key} (ek:keyOf k=some kk):∀ {ks:List D}{js:List Key}{ws:List V},keysOf ks=some js→dG k ks=none→valV (js.zip ws) kk=none
 | [],js,ws,e,p=>by
  have e:some ([]:List Key)=some js:=e
  cases e; rfl
 | j::ks,js,ws,e,p=>by
  unfold keysOf at e
  cases e1:keyOf j with
  | none=>rw [e1]at e; cases e
  | some jj =>
   cases e2:keysOf ks with
   | none=>rw [e1,e2]at e; cases e
   | some r' =>
    rw [e1,e2]at e
    injection e with e
    subst e
    unfold dG at p
    by_cases hc:jj=kk
    ·subst hc
     rw [if_pos ⟨by rw [e1,ek],by rw [cR e1,cR ek]⟩]at p
     cases p
    ·rw [if_neg (fun z=>hc (by have:=z.1; rw [e1,ek]at this; exact Option.some.inj this))]at p
     cases ws with
     | nil=>rfl
     | cons x ws =>
      rw [List.zip_cons_cons,valV_neg hc]
      exact pos_none ek e2 (Option.map_eq_none_iff.mp p)
theorem tM {k:D}{kk:List Key} (ek:aI k=some kk):∀ {ks:List D}{js:List (List Key)}{ws:List V},aM ks=some js→dG k ks=none→valV (js.zip ws) kk=none
 | [],js,ws,e,p=>by
  have e:some ([]:List (List Key))=some js:=e
  cases e; rfl
 | j::ks,js,ws,e,p=>by
  unfold aM at e
  cases e1:aI j with
  | none=>rw [e1]at e; cases e
  | some jj =>
   cases e2:aM ks with
   | none=>rw [e1,e2]at e; cases e
   | some r' =>
    rw [e1,e2]at e
    injection e with e
    subst e
    unfold dG at p
    by_cases hc:jj=kk
    ·subst hc
     rw [if_pos ⟨by rw [iC e1,iC ek],by rw [e1,ek]⟩]at p
     cases p
    ·rw [if_neg (fun z=>hc (by have:=z.2; rw [e1,ek]at this; exact Option.some.inj this))]at p
     cases ws with
     | nil=>rfl
     | cons x ws =>
      rw [List.zip_cons_cons,valV_neg hc]
      exact tM ek e2 (Option.map_eq_none_iff.mp p)
theorem pH {k:D}{kk:Key} (ek:keyOf k=some kk):∀ {ks:List D}{js:List Key},keysOf ks=some js→keysOf (ks++[k])=some (js++[kk])
 | [],js,e=>by
  have e:some ([]:List Key)=some js:=e
  cases e
  show(match keyOf k,keysOf []with | some k,some r=>some (k::r) | _,_=>none)=_
  rw [ek]; rfl
 | j::ks,js,e=>by
  unfold keysOf at e
  cases e1:keyOf j with
  | none=>rw [e1]at e; cases e
  | some jj =>
   cases e2:keysOf ks with
   | none=>rw [e1,e2]at e; cases e
   | some r' =>
    rw [e1,e2]at e
    injection e with e
    subst e
    show(match keyOf j,keysOf (ks++[k])with | some k,some r=>some (k::r) | _,_=>none)=_
    rw [e1,pH ek e2]; rfl
theorem nS {k:D}{kk:List Key} (ek:aI k=some kk):∀ {ks:List D}{js:List (List Key)},aM ks=some js→aM (ks++[k])=some (js++[kk])
 | [],js,e=>by
  have e:some ([]:List (List Key))=some js:=e
  cases e
  show(match aI k,aM []with | some k,some r=>some (k::r) | _,_=>none)=_
  rw [ek]; rfl
 | j::ks,js,e=>by
  unfold aM at e
  cases e1:aI j with
  | none=>rw [e1]at e; cases e
  | some jj =>
   cases e2:aM ks with
   | none=>rw [e1,e2]at e; cases e
   | some r' =>
    rw [e1,e2]at e
    injection e with e
    subst e
    show(match aI j,aM (ks++[k])with | some k,some r=>some (k::r) | _,_=>none)=_
    rw [e1,nS ek e2]; rfl
theorem ae.drop2 {p q:aW} (s:ae T B H hs (p::q::l)):ae T B H hs (p::l):=(ae.drop1 (o:=q.1) (v:=q.2) s.swap)
theorem Ao (hu:X.A.units+1 < cLine):PSet X (IA T):=by
 intro pins s σ H x y w ov iv u Q I ro ri rv h
 obtain⟨B,o',ok,v,l,hs,o1,sa,e,q⟩:=h
 have dk:Dr T (fun _=>False) (vw B.Z H) ok.frz y:=sa.read2
 have s1:ae T B H hs ((o',x)::(v,w)::l):=sa.drop2
 cases o' with
 | lst zs =>
  cases ek:ok.frz with
  | int i =>
   rw [ek]at e dk
   have dk:y = .int i:=dk
   subst dk
   have e:(ixN zs.length i).map (fun j=>O.lst (zs.set j v))=some o1:=e
   obtain⟨j,e1,e2⟩:=Option.map_eq_some_iff.mp e
   subst e2
   obtain⟨b,vs,rfl,hb,hl,s2⟩:=s1.openL
   obtain⟨_,hj,_,_⟩:=ixN_seq e1
   have s3:=uK hl hj s2
   obtain⟨g1,g2⟩:Stays hs H (upd H b (.lst (vs.set j w)))∧ae T B (upd H b (.lst (vs.set j w))) hs ((.lst (zs.set j v),.ref b)::l) :=
    ⟨iO s2 (cE hb).1,(s3.write (cE hb).1 (cE hb).2.1 (cE hb).2.2).closeL upd_same (by simp [hl])⟩
   exact set_list pins s σ H _ _ _ ov iv u Q I ro ri rv ⟨b,vs,i,j,rfl,rfl,hb,by rw [← hl]; exact e1,q _ g1 g2⟩
  | _=>rw [ek]at e; cases e
 | dic ks zs =>
  have e:(if(bG ok.frz ks&&decide (ks.length < sizeLine))=true then some (O.dic (putD ok.frz v ks zs).1 (putD ok.frz v ks zs).2)else none)=some o1:=e
  by_cases hc:(bG ok.frz ks&&decide (ks.length < sizeLine))=true
  ·rw [if_pos hc]at e
   injection e with e
   subst e
   rw [Bool.and_eq_true,decide_eq_true_eq]at hc
   obtain⟨hk,hz⟩:=hc
   obtain⟨b,vs,rfl,hb,hl,s2⟩:=s1.openD
   cases (show ov=Value.ref b from ro)
   have up:∀ {Hc:Hp}{ob:HO},(∀ c,c≠b→Hc c=H c)→upd Hc b ob=upd H b ob:=fun {Hc ob} h=>by
    funext c
    by_cases z:c=b
    ·subst z; rw [upd_same,upd_same]
    ·rw [upd_ne z,upd_ne z,h c z]
   have nt:(∀ xs,H b≠some (.tup xs))∧(∀ ob u,H b≠some (.frz ob u))∧∀ g,H b≠some (.ext g):=by
    rcases hb with⟨_,_,h,_⟩ | ⟨_,_,h,_⟩
    ·exact⟨(fun _ z=>by rw [h]at z; cases z),(fun _ _ z=>by rw [h]at z; cases z),fun _ z=>by rw [h]at z; cases z⟩
    ·exact⟨(fun _ z=>by rw [h]at z; cases z),(fun _ _ z=>by rw [h]at z; cases z),fun _ z=>by rw [h]at z; cases z⟩
   have goK:∀ {kk:Key}{js:List Key}{Hc:Hp},keyOf ok.frz=some kk→(∀ c,c≠b→Hc c=H c)→keysOf ks=some js→js.length=vs.length→Hc b=some (.dK (js.zip vs))→Inv X pins σ Hc s →
     wpAny (model X.prog X.w) X.A (setItem (.ref b) iv u) (fun _ s'=>∃ H',Inv X pins σ H' s'∧Q H') X.xe s:=by
    intro kk js Hc ek hHc q1 q3 hb' I'
    have ey:=qc ek dk
    subst ey
    have hlen:(js.zip vs).length < sizeLine:=by rw [List.length_zip,q3,Nat.min_self,← q3,gE q1]; exact hz
    refine d_setItem hu I' (DPut.k hb' hlen) ri rv fun s' I2=>⟨_,I2,?_⟩
    rw [up hHc]
    have nd:js.Nodup:=by
     obtain⟨_,_,vs',rel,o,es,ep,h1,h2,h3,h4,h5,h6⟩:=dk_of I'.hok hb'
     have:=rel.keys
     rw [← this,List.map_fst_zip (by omega)]at h6
     exact h6
    cases ep:dG ok.frz ks with
    | some n =>
     simp only [putD,ep]at q
     have hj:=yb ek q1 ep
     have hv:=xW ek q1 q3 ep
     obtain⟨hn,_⟩:=List.getElem?_eq_some_iff.mp hj
     rw [List.getElem?_eq_getElem (show n < vs.length by omega)]at hv
     rw [ya nd hj hv]
     refine q _ (iO s2 nt.1) ?_
     have s3:=uK hl (show n < zs.length by omega) s2
     exact(s3.write nt.1 nt.2.1 nt.2.2).closeD (.inl ⟨js,q1,upd_same,by simp [q3]⟩) (by simp [hl])
    | none =>
     simp only [putD,ep]at q
     rw [putK_new w (pos_none ek q1 ep)]
     refine q _ (iO s2 nt.1) ?_
     have s3:ae T B H (b::hs) ((zs++[v]).zip (vs++[w])++l):=by
      rw [List.zip_append hl,List.append_assoc]; exact s2
     exact(s3.write nt.1 nt.2.1 nt.2.2).closeD (.inl ⟨js++[kk],pH ek q1,by rw [List.zip_append q3]; exact upd_same,by simp [q3]⟩) (by simp [hl])
   have goT:∀ {kk:List Key}{js:List (List Key)}{Hc:Hp},aI ok.frz=some kk→(∀ c,c≠b→Hc c=H c)→aM ks=some js→js.length=vs.length→Hc b=some (.dT (js.zip vs))→Inv X pins σ Hc s →
     wpAny (model X.prog X.w) X.A (setItem (.ref b) iv u) (fun _ s'=>∃ H',Inv X pins σ H' s'∧Q H') X.xe s:=by
    intro kk js Hc ek hHc q1 q3 hb' I'
    obtain⟨t,rfl,et⟩:=qA ek sa dk
    have tb:t≠b:=fun z=>nt.1 _ (z ▸ et)
    have hlen:(js.zip vs).length < sizeLine:=by rw [List.length_zip,q3,Nat.min_self,← q3,lZ q1]; exact hz
    refine d_setItem hu I' (DPut.t hb' (by rw [hHc t tb]; exact et) hlen) ri rv fun s' I2=>⟨_,I2,?_⟩
    rw [up hHc]
    have nd:js.Nodup:=by
     obtain⟨_,_,vs',rel,o,es,ep,h1,h2,h3,h4,h5,h6⟩:=dt_of I'.hok hb'
     have kk:∀ {l:List (List Key×V)}{m:List (List Key×Addr×Value)},KT Hc l m→l.map (·.1)=m.map (·.1):=by
      intro l m r
      induction r with
      | nil=>rfl
      | cons h t ih=>rw [List.map_cons,List.map_cons,ih,h.1]
     rw [← kk rel,List.map_fst_zip (by omega)]at h6
     exact h6
    cases ep:dG ok.frz ks with
    | some n =>
     simp only [putD,ep]at q
     have hj:=vN ek q1 ep
     have hv:=xX ek q1 q3 ep
     obtain⟨hn,_⟩:=List.getElem?_eq_some_iff.mp hj
     rw [List.getElem?_eq_getElem (show n < vs.length by omega)]at hv
     rw [ya nd hj hv]
     refine q _ (iO s2 nt.1) ?_
     have s3:=uK hl (show n < zs.length by omega) s2
     exact(s3.write nt.1 nt.2.1 nt.2.2).closeD (.inr ⟨js,q1,upd_same,by simp [q3]⟩) (by simp [hl])
    | none =>
     simp only [putD,ep]at q
     rw [putK_new w (tM ek q1 ep)]
     refine q _ (iO s2 nt.1) ?_
     have s3:ae T B H (b::hs) ((zs++[v]).zip (vs++[w])++l):=by
      rw [List.zip_append hl,List.append_assoc]; exact s2
     exact(s3.write nt.1 nt.2.1 nt.2.2).closeD (.inr ⟨js++[kk],nS ek q1,by rw [List.zip_append q3]; exact upd_same,by simp [q3]⟩) (by simp [hl])
   unfold bG at hk
   rw [Bool.or_eq_true,Bool.and_eq_true,Bool.and_eq_true]at hk
   rcases hk with⟨hk,ha⟩ | ⟨hk,ha⟩
   ·obtain⟨kk,ek⟩:=Option.isSome_iff_exists.mp hk
    rcases hb with⟨js,q1,q2,q3⟩ | ⟨js,q1,q2,q3⟩
    ·exact goK ek (fun _ _=>rfl) q1 q3 q2 I
    ·cases ks with
     | nil =>
      have q1:some ([]:List (List Key))=some js:=q1
      cases q1
      cases vs with
      | nil=>exact goK (js:=[]) ek (fun c hc=>upd_ne hc) rfl rfl upd_same (Inv.toK I q2)
      | cons _ _=>simp at q3
     | cons j ks =>
      have h1:=eL q1 j List.mem_cons_self
      have h2:=List.all_eq_true.mp ha j List.mem_cons_self
      obtain⟨jj,ej⟩:=Option.isSome_iff_exists.mp h2
      rw [cR ej]at h1; cases h1
   ·obtain⟨kk,ek⟩:=Option.isSome_iff_exists.mp hk
    rcases hb with⟨js,q1,q2,q3⟩ | ⟨js,q1,q2,q3⟩
    ·cases ks with
     | nil =>
      have q1:some ([]:List Key)=some js:=q1
      cases q1
      cases vs with
      | nil=>exact goT (js:=[]) ek (fun c hc=>upd_ne hc) rfl rfl upd_same (Inv.toT I q2)
      | cons _ _=>simp at q3
     | cons j ks =>
      have h1:=kn q1 j List.mem_cons_self
      have h2:=List.all_eq_true.mp ha j List.mem_cons_self
      obtain⟨jj,ej⟩:=Option.isSome_iff_exists.mp h2
      rw [iC ej]at h1; cases h1
    ·exact goT ek (fun _ _=>rfl) q1 q3 q2 I
  ·rw [if_neg hc]at e; cases e
 | _=>cases e
theorem qQ {i:Nat}{rp:List SE}{se sk:SE}{e r k:Expr}{pos tpos:Pos} (hK:X.K=T.K) (hu:X.A.units+1 < cLine) (he:PE X e (tE T B Φ W se)) (hr:PE X r (BP T B Φ W i rp)) (hk:∀ B':Base,B'.pr=B.pr→PE X k (tE T B' Φ W sk))
  (hs:swapsWithSole [.Subscript r k tpos] e pos.line X.env=pure false) (hw:swappedStores [.Subscript r k tpos] e X.env=pure none) (h1:(assignEach [.Subscript r k tpos] X.env).map (·.2) = [assign (.Subscript r k tpos) X.env])
  (ha:∀ v,assign (.Subscript r k tpos) X.env v=(do
   let ov ← holding [v] (eval r X.env)
   let iv ← holding [v,ov] (eval k X.env)
   standAt tpos
   holding [v,ov,iv] (setItem ov iv v)
   release [v,ov,iv] [])):PS X (.Assign [.Subscript r k tpos] e pos) (tS T B Φ W (.sub i (sk::rp) se)):=by
 have hk':PE X k (fun σ H Q=>∃ B':Base,B'.pr=B.pr∧tE T B' Φ W sk σ H Q):=⟨fun pins s σ H Q I ⟨B',hpr,h⟩=>(hk B' hpr).run pins s σ H Q I h⟩
 refine(ps_asg he (pg_sub hr hk' (Ao (T:=T) hu) ha) hs hw h1).pv fun D σ H ⟨ρ,l,at_,h⟩=>?_
 rw [bZ]at h
 refine⟨ρ,l,at_,RG.rp (h.rg.mono fun ov ρ1 k1 w H1 a1=>?_)⟩
 obtain⟨o,eo,k1⟩:=k1.bnd
 obtain⟨v,ev⟩:=a1.ok.at eo
 have a0:=a1.take eo ev
 have hi:i < σ.length:=nJ ev
 have k1:=k1.rg (σ:=σ)
 rw [ki]at k1
 refine⟨ρ1.set i none,(ov,w)::l,o,v,a0,ev,RG.more1 (RG.more1 (k1.bind.mono fun ks ρ2 k2=>?_))⟩
 have k2:=k2.bind
 have key:∀ (okk:O) (ρ3:Env),RS T B W D l (PV.bnd (setPath (ks++[okk.frz]) o ov) fun o'=>.ok .nx (ρ3.set i (some o')))→∃ o1 o2,bL ks o (fun o=>(uw o okk.frz ov).map fun o'=>(.d .non,o'))=some (o1,o2)∧∀ σ H,At T B H (ρ3.set i (some o2)) σ l→D.nx σ H:=by
  intro okk ρ3 k3
  obtain⟨o',e1,k3⟩:=RS.bnd k3
  unfold setPath at e1
  rw [List.getLast?_concat,List.dropLast_concat]at e1
  have e1:(bL ks o fun o=>(uw o okk.frz ov).map fun o'=>(O.d .non,o')).map (·.2)=some o':=e1
  obtain⟨p,e2,e3⟩:=Option.map_eq_some_iff.mp e1
  obtain⟨p1,p2⟩:=p
  subst e3
  exact⟨p1,p2,e2,k3⟩
 refine⟨?_,fun H2 x a2 pa=>?_⟩
 ·cases e1:PV.ev Φ sk ρ2 with
  | bad=>rw [e1]at k2; exact k2.elim
  | exc C p ρ'=>rw [e1]at k2; exact k2.elim
  | ok okk ρ3 =>
   rw [e1]at k2
   obtain⟨o1,o2,e2,_⟩:=key okk ρ3 k2
   exact Af e2 fun _ _=>rfl
 ·obtain⟨B',hpr,a3,back⟩:=a2.hold
  refine⟨B',hpr,ρ2,(ov,w)::l,a3,RG.rp (RG.held (K:=_) (fun p hp=>a2.pr p hp) (fun H' ρ' m a'=>(back H' ρ' σ m a2.pr a').1) (RG.more1 (RG.more1 k2.unX)) fun okk ρ3 k3=>?_)⟩
  intro y H3 a4
  obtain⟨a5,pres⟩:=back H3 ρ3 σ _ a2.pr a4
  obtain⟨r1,o2,e2,fin⟩:=key okk ρ3 k3
  have s5:Sat T B H3 ((o,v)::((okk,y)::(ov,w)::(af ρ3 σ++l))):=a5.sat.perm (List.perm_middle.trans ((List.perm_middle.trans (List.perm_middle.cons _)).cons _))
  obtain⟨o',x',ad,rest,o1,p1,ef,s6,close⟩:=gG s5 e2
  have px:=pres ks _ _ x e2 pa
  have ex:x=x':=px.inj p1
  subst ex
  obtain⟨o1',es,eo1⟩:=Option.map_eq_some_iff.mp ef
  injection eo1 with _ eo1
  subst eo1
  refine⟨B,o',okk,ov,rest++(af ρ3 σ++l),ad++[],o1',s6.perm (List.Perm.cons _ ?_),es,fun H' hb s7=>fin σ H' ?_⟩
  ·exact List.perm_middle.trans (List.perm_middle.cons _)
  ·have s8:ae T B H' [] ((o2,v)::(af ρ3 σ++l)):=close H' _ ⟨fun b hb'=>hb.1 b (by simp [hb']),hb.2⟩ s7
   have a6:At T B H' ρ3 σ ((o2,v)::l):=⟨a4.ok,s8.perm List.perm_middle.symm,a2.pr⟩
   have hi2:i < ρ3.length:=by rw [a4.ok.len]; exact hi
   have t:=(a6.clear i).fill (i:=i) (by unfold aq; rw [List.getElem?_set_self hi2]; rfl) (by simpa using hi2) ev
   rw [List.set_set]at t
   exact t
end
end PV
namespace PV
open PySem PySem.Spec PyProof.Rows L2
section
variable {T:Tab}{B:Base}{H H':Hp}{ρ ρ':Env}{σ:L2.St}{l m:List aW}{i:Nat}{s:Option V}
theorem qR:∀ {ρ:Env}{σ:L2.St}{i:Nat} (s:Option V),aq ρ i=none→bM ρ σ→bM ρ (σ.set i s)∧af ρ (σ.set i s)=af ρ σ
 | [],[],i,s,h,e=>⟨e,rfl⟩
 | none::ρ,x::σ,0,s,h,e=>⟨e,by cases s <;> cases x <;> rfl⟩
 | some o::ρ,x::σ,0,s,h,e=>by simp at h
 | none::ρ,x::σ,i+1,s,h,e=>by
  obtain⟨h1,h2⟩:=qR (ρ:=ρ) (σ:=σ) (i:=i) s h e
  exact⟨h1,by cases x <;> simpa [af]using h2⟩
 | some o::ρ,some x::σ,i+1,s,h,e=>by
  obtain⟨h1,h2⟩:=qR (ρ:=ρ) (σ:=σ) (i:=i) s h e
  exact⟨h1,by simp [af,h2]⟩
 | some o::ρ,none::σ,i+1,s,h,e=>e.elim
 | [],_::_,i,s,h,e=>e.elim
 | none::_,[],i,s,h,e=>e.elim
 | some _::_,[],i,s,h,e=>e.elim
theorem At.set0 (a:At T B H ρ σ l) (h:aq ρ i=none) (hp:∀ p∈B.pr,p.1≠i):At T B H ρ (σ.set i s) l:=by
 obtain⟨h1,h2⟩:=qR s h a.ok
 exact⟨h1,by rw [h2]; exact a.sat,fun p hp'=>by rw [List.getElem?_set_ne (Ne.symm (hp p hp'))]; exact a.pr p hp'⟩
theorem At.wipe {own:List Nat} (a:At T B H ρ σ l) (h:∀ i∈own,aq ρ i=none) (hp:∀ p∈B.pr,p.1∉own):At T B H ρ (L2.wipe σ own) l:=by
 induction own with
 | nil=>exact a
 | cons i r ih =>
  have:=ih (fun j hj=>h j (List.mem_cons_of_mem _ hj)) (fun p hp' z=>hp p hp' (List.mem_cons_of_mem _ z))
  exact this.set0 (h i List.mem_cons_self) fun p hp' e=>hp p hp' (e ▸ List.mem_cons_self)
theorem bh:∀ {own:List Nat}{ρ:Env}{i:Nat},i∈own∨aq ρ i=none→aq (ai own ρ) i=none
 | [],ρ,i,h=>h.elim (fun z=>by cases z) id
 | j::r,ρ,i,h=>by
  unfold ai
  refine bh ?_
  by_cases e:i=j
  ·subst e
   refine .inr ?_
   unfold aq
   by_cases hl:i < ρ.length
   ·rw [List.getElem?_set_self hl]; rfl
   ·rw [List.getElem?_eq_none (by simpa using hl)]; rfl
  ·rcases h with h | h
   ·exact .inl ((List.mem_cons.mp h).resolve_left e)
   ·refine .inr ?_
    unfold aq
    rw [List.getElem?_set_ne (Ne.symm e)]
    exact h
theorem qS:∀ {ρ:Env}{σ σ':L2.St},σ.length=σ'.length→(∀ i,aq ρ i≠none→σ[i]?=σ'[i]?)→bM ρ σ→bM ρ σ'∧af ρ σ'=af ρ σ
 | [],[],[],hl,h,e=>⟨e,rfl⟩
 | none::ρ,x::σ,y::σ',hl,h,e=>by
  obtain⟨h1,h2⟩:=qS (ρ:=ρ) (σ:=σ) (σ':=σ') (by simpa using hl) (fun i hi=>by simpa using h (i+1) hi) e
  exact⟨h1,by cases x <;> cases y <;> simpa [af]using h2⟩
 | some o::ρ,some x::σ,y::σ',hl,h,e=>by
  have h0:=h 0 (by simp)
  simp at h0
  subst h0
  obtain⟨h1,h2⟩:=qS (ρ:=ρ) (σ:=σ) (σ':=σ') (by simpa using hl) (fun i hi=>by simpa using h (i+1) hi) e
  exact⟨h1,by simp [af,h2]⟩
 | some o::ρ,none::σ,σ',hl,h,e=>e.elim
 | [],_::_,σ',hl,h,e=>e.elim
 | none::_,[],σ',hl,h,e=>e.elim
 | some _::_,[],σ',hl,h,e=>e.elim
 | [],[],_::_,hl,h,e=>by simp at hl
 | _::_,_::_,[],hl,h,e=>by simp at hl
theorem wipe_out {σ:L2.St}{i:Nat}:∀ {own:List Nat},i∉own→(L2.wipe σ own)[i]?=σ[i]?
 | [],h=>rfl
 | j::r,h=>by
  show((L2.wipe σ r).set j none)[i]?=σ[i]?
  have hij:j≠i:=fun z=>h (by rw [z]; exact List.mem_cons_self)
  rw [List.getElem?_set_ne hij]
  exact wipe_out fun z=>h (List.mem_cons_of_mem _ z)
theorem At.unwipe {own:List Nat} (a:At T B H ρ (L2.wipe σ own) l) (h:∀ i∈own,aq ρ i=none) (hp:∀ p∈B.pr,p.1∉own):At T B H ρ σ l:=by
 obtain⟨h1,h2⟩:=qS (σ':=σ) (by rw [wipe_length]) (fun i hi=>wipe_out fun z=>hi (h i z)) a.ok
 exact⟨h1,by rw [h2]; exact a.sat,fun p hp'=>by rw [← wipe_out (own:=own) (hp p hp')]; exact a.pr p hp'⟩
theorem slot_set {ρ:Env}{i j:Nat}{o:Option O} (h:i≠j):aq (ρ.set j o) i=aq ρ i:=by
 unfold aq
 rw [List.getElem?_set_ne (Ne.symm h)]
theorem pI:∀ {own:List Nat}{ρ0 ρ1 ρ:Env},(∀ i∈own,aq ρ0 i=aq ρ1 i)→bB own ρ0 ρ=bB own ρ1 ρ
 | [],ρ0,ρ1,ρ,h=>rfl
 | i::r,ρ0,ρ1,ρ,h=>by
  unfold bB
  rw [h i List.mem_cons_self]
  exact pI fun j hj=>h j (List.mem_cons_of_mem _ hj)
theorem vO {ρ:Env}{i:Nat} (h:aq ρ i=none):ρ.set i none=ρ:=by
 apply List.ext_getElem?
 intro j
 by_cases hj:j=i
 ·subst hj
  rcases Nat.lt_or_ge j ρ.length with z | z
  ·rw [List.getElem?_set_self z]
   unfold aq at h
   cases q:ρ[j]? with
   | none=>rw [List.getElem?_eq_none_iff]at q; omega
   | some w=>rw [q]at h; cases w with
    | none=>rfl
    | some w=>cases h
  ·rw [List.getElem?_eq_none (by simpa using z),List.getElem?_eq_none z]
 ·rw [List.getElem?_set_ne (Ne.symm hj)]
theorem kq:∀ {own:List Nat}{ρ:Env}{l:List aW},own.Nodup→At T B H ρ σ l→∃ outs:List aW,At T B H (ai own ρ) σ (outs++l) ∧
  ∀ (H':Hp) (ρ':Env) (m:List aW),ρ'.length=ρ.length→(∀ i∈own,aq ρ' i=none)→At T B H' ρ' σ (outs++m)→At T B H' (bB own ρ ρ') σ m
 | [],ρ,l,nd,a=>⟨[],a,fun H' ρ' m _ _ a'=>a'⟩
 | i::r,ρ,l,nd,a=>by
  obtain⟨nin,nd⟩:=List.nodup_cons.mp nd
  cases e:aq ρ i with
  | none =>
   obtain⟨outs,a1,back⟩:=kq (own:=r) nd a
   refine⟨outs,?_,fun H' ρ' m hl hn a'=>?_⟩
   ·unfold ai
    rw [vO e]; exact a1
   ·unfold bB
    rw [e,vO (hn i List.mem_cons_self)]
    exact back H' ρ' m hl (fun j hj=>hn j (List.mem_cons_of_mem _ hj)) a'
  | some o =>
   obtain⟨v,ev⟩:=a.ok.at e
   obtain⟨outs,a1,back⟩:=kq (own:=r) nd (a.take e ev)
   refine⟨outs++[(o,v)],?_,fun H' ρ' m hl hn a'=>?_⟩
   ·unfold ai
    rw [List.append_assoc]; exact a1
   ·unfold bB
    rw [e]
    have hi:i < ρ'.length:=by rw [hl]; exact iJ e
    have a2:At T B H' ρ' σ ((o,v)::(outs++m)):=a'.perm (by rw [List.append_assoc]; exact List.perm_middle)
    have a3:At T B H' (ρ'.set i (some o)) σ (outs++m):=a2.fill (hn i List.mem_cons_self) hi ev
    rw [pI (ρ1:=ρ.set i none) fun j hj=>(slot_set (fun z=>nin (by rw [← z]; exact hj):j≠i)).symm]
    have ne:∀ j∈r,j≠i:=fun j hj z=>nin (by rw [← z]; exact hj)
    exact back H' _ m (by simp [hl]) (fun j hj=>by rw [slot_set (ne j hj)]; exact hn j (List.mem_cons_of_mem _ hj)) a3
end
def WF:WX:=fun _ _ _ _=>False
def vi (T:Tab) (B:Base) (Φ:cW) (ses:List SE):TT:=fun σ H Q=>∃ ρ l,At T B H ρ σ l∧RG T B WF σ l (cZ Φ ses ρ) fun b ρ'=>∀ H',At T B H' ρ' σ l→Q b H'
section
variable {T:Tab}{B:Base}{Φ:cW}{W:WX}{X:Cx}{H:Hp}{ρ:Env}{σ:L2.St}{l:List aW}
theorem qT:PTs X [] (vi T B Φ []):=⟨fun pins s σ H Q I ⟨ρ,l,a,h⟩=>pts_nil.run pins s σ H Q I (by rw [cZ]at h; exact h H a)⟩
theorem Ap {c:Expr}{sc:SE} (h:PT X c (tT T B Φ WF sc)):PTs X [c] (vi T B Φ [sc]):=⟨fun pins s σ H Q I ⟨ρ,l,a,h1⟩=>(pts_one h).run pins s σ H Q I ⟨ρ,l,a,by rw [cZ]at h1; exact h1⟩⟩
theorem cn {own is:List Nat}{σ σ':L2.St} (h:SameBut is σ σ') (hs:∀ i∈is,i∈own):L2.wipe σ' own=L2.wipe σ own:=by
 have key:∀ (own:List Nat) (σ:L2.St) (j:Nat),j < σ.length→(L2.wipe σ own)[j]?=if j∈own then some none else σ[j]?:=by
  intro own
  induction own with
  | nil=>intro σ j hj; simp [L2.wipe]
  | cons i r ih =>
   intro σ j hj
   show((L2.wipe σ r).set i none)[j]?=_
   by_cases e:j=i
   ·subst e
    rw [List.getElem?_set_self (by rw [wipe_length]; exact hj),if_pos List.mem_cons_self]
   ·rw [List.getElem?_set_ne (Ne.symm e),ih σ j hj]
    by_cases m:j∈r
    ·rw [if_pos m,if_pos (List.mem_cons_of_mem _ m)]
    ·rw [if_neg m,if_neg (fun z=>(List.mem_cons.mp z).elim e m)]
 apply List.ext_getElem?
 intro j
 rcases Nat.lt_or_ge j σ.length with hj | hj
 ·rw [key own σ' j (by rw [h.1]; exact hj),key own σ j hj]
  by_cases m:j∈own
  ·rw [if_pos m,if_pos m]
  ·rw [if_neg m,if_neg m,h.2 j fun z=>m (hs j z)]
 ·rw [List.getElem?_eq_none (by rw [wipe_length,h.1]; exact hj),List.getElem?_eq_none (by rw [wipe_length]; exact hj)]
theorem yc {own:List (Str×Nat)}{t:Tg}{ie:IE}{se:SE}{sifs:List SE}{Q:VK}
  (hlen:∀ ρ p ρ',kG Φ ie ρ = .ok p ρ'→p.1.length=p.2.1.length) (nd:(own.map (·.2)).Nodup) (hp:∀ p∈B.pr,p.1∉own.map (·.2)) (htg:∀ i∈ar t,i∈own.map (·.2)) (h0:tE T B Φ W (.comp .lst se (own.map (·.2)) t ie sifs) σ H Q) :
  tLc (tI T B Φ W ie) (gT T B t) (vi T B Φ sifs) (tE T B Φ WF se) (own.map (·.2)) σ H Q:=by
  obtain⟨ρ,l,at_,h⟩:=h0
  rw [ev]at h
  refine⟨ρ,l,at_,h.rg.bind.eq.mono fun q ρ1 ⟨eq_,k⟩ vs J H1 hvl av a1 wk hz D hD=>?_⟩
  obtain⟨as,os,ds⟩:=q
  have hal:as.length=os.length:=hlen _ _ _ eq_
  simp only at k hvl av a1 wk hz
  generalize hf:(fun(x:PV.D) (ρ:Env)=>bnd (aE t x ρ) fun ρ=>(cZ Φ sifs ρ).bind fun b ρ=>kg b ((ev Φ se ρ).bind fun o ρ=>Res.ok (some o) (ai (own.map (·.2)) ρ)) (Res.ok none (ai (own.map (·.2)) ρ)))=f at k
  obtain⟨outs,a2,back⟩:=kq nd a1
  have hn0:∀ i∈own.map (·.2),aq (ai (own.map (·.2)) ρ1) i=none:=fun i hi=>bh (.inl hi)
  have a3:=a2.wipe hn0 hp
  -- the end
  have fin:∀ (oss:List O) (ρe:Env) (v:V) (H2:Hp),RG T B W σ l ((Res.ok oss ρe).noX.bind fun os' ρ'=>Res.ok (O.lst os') (aL as os (bB (own.map (·.2)) ρ1 ρ'))) (fun o ρ=>∀ v H,At T B H ρ σ ((o,v)::l)→Q v H)→(∀ i∈own.map (·.2),aq ρe i=none) →
    At T B H2 ρe (L2.wipe σ (own.map (·.2))) ((.lst oss,v)::(outs++(os.zip vs++l)))→Q v H2:=by
   intro oss ρe v H2 k2 hn a
   have k2:∀ v H,At T B H (aL as os (bB (own.map (·.2)) ρ1 ρe)) σ ((.lst oss,v)::l)→Q v H:=k2
   refine k2 v H2 ?_
   have b1:=a.unwipe hn hp
   have b2:At T B H2 ρe σ (outs++((.lst oss,v)::(os.zip vs++l))):=b1.perm List.perm_middle.symm
   have hl:ρe.length=ρ1.length:=by rw [b1.ok.len,a1.ok.len]
   have b3:=back H2 ρe _ hl hn b2
   exact dC (as:=as) (os:=os) (vs:=vs) hvl (b3.perm List.perm_middle.symm) av
  have w:Walk J ds.length (fun H=>∃ l',Sat T B H (os.zip vs++l')) (fun i H v H'=>∀ l',Sat T B H (os.zip vs++l')→∃ d,ds[i]?=some d∧Sat T B H' ((.d d,v)::(os.zip vs++l'))) :=
   ⟨fun i H hi ⟨l',s⟩=>wk.goes i H l' hi s,fun H ⟨l',s⟩=>wk.stops H l' s,fun i H v H' hi _ y l' s=>wk.yields i H v H' l' hi s y⟩
  have hd:∀ {m:List aW}{H:Hp}{ρi:Env}{σ':L2.St},At T B H ρi σ' (m++(outs++(os.zip vs++l)))→Sat T B H (os.zip vs++(af ρi σ'++(m++(outs++l)))):=fun {m H ρi σ'} a=>a.sat.perm (by
   have p1:(m++(outs++(os.zip vs++l))).Perm (os.zip vs++(m++(outs++l))):=(ak.append_left m).trans ak
   exact(p1.append_left _).trans ak)
  refine lc_it (g:=gT T B t) (tt:=vi T B Φ sifs) (te:=tE T B Φ WF se) w (fun i H=>∃ ρi oss,(∀ j∈own.map (·.2),aq ρi j=none)∧oss.length≤i∧At T B H ρi (L2.wipe σ (own.map (·.2))) ((.lst oss,.ref D)::(outs++(os.zip vs++l))) ∧
   RG T B W σ l (((aK f (ds.drop i) ρi).bind fun rest ρ=>Res.ok (oss++rest) ρ).noX.bind fun os' ρ'=>Res.ok (O.lst os') (aL as os (bB (own.map (·.2)) ρ1 ρ'))) (fun o ρ=>∀ v H,At T B H ρ σ ((o,v)::l)→Q v H)) ?_ ?_ ?_ ?_
  ·refine⟨ai (own.map (·.2)) ρ1,[],hn0,Nat.le_refl _,⟨a3.ok,?_,a3.pr⟩,?_⟩
   ·have s1:Sat T B H1 (([]:List O).zip ([]:List V)++(af (ai (own.map (·.2)) ρ1) (L2.wipe σ (own.map (·.2)))++(outs++(os.zip vs++l)))):=a3.sat
    exact(Sat.newL s1 rfl hD).perm List.perm_middle.symm
   ·rw [List.drop_zero]
    have:((aK f ds (ai (own.map (·.2)) ρ1)).bind fun rest ρ=>Res.ok ([]++rest) ρ)=aK f ds (ai (own.map (·.2)) ρ1):=by
     generalize aK f ds (ai (own.map (·.2)) ρ1)=r
     cases r <;> rfl
    rw [this]
    exact k
  ·rintro i H2 _ ⟨ρi,oss,_,_,a4,_⟩
   exact⟨_,hd (m:=[_]) a4⟩
  ·rintro i x H2 H3 hi2 ⟨ρi,oss,hni,hoi,a4,k4⟩ y
   obtain⟨d,hdd,s5⟩:=y _ (hd (m:=[(.lst oss,.ref D)]) a4)
   have ed:ds.drop i=d::ds.drop (i+1):=by
    obtain⟨hj,hv⟩:=List.getElem?_eq_some_iff.mp hdd
    rw [← hv]
    exact List.drop_eq_getElem_cons hj
   rw [ed,aK]at k4
   have a5:At T B H3 ρi (L2.wipe σ (own.map (·.2))) ((.d d,x)::(.lst oss,.ref D)::(outs++(os.zip vs++l))):=⟨a4.ok,s5.perm (by
    have p0:((O.lst oss,V.ref D)::(outs++(os.zip vs++l))).Perm (os.zip vs++([(O.lst oss,V.ref D)]++(outs++l))):=by
     have p1:([(O.lst oss,V.ref D)]++(outs++(os.zip vs++l))).Perm (os.zip vs++([(O.lst oss,V.ref D)]++(outs++l))):=(ak.append_left _).trans ak
     exact p1
    have p2:(os.zip vs++(af ρi (L2.wipe σ (own.map (·.2)))++([(O.lst oss,V.ref D)]++(outs++l)))).Perm (af ρi (L2.wipe σ (own.map (·.2)))++((O.lst oss,V.ref D)::(outs++(os.zip vs++l)))):=ak.trans (p0.symm.append_left _)
    exact(p2.cons _).trans List.perm_middle.symm),a4.pr⟩
   have ef:f d ρi=bnd (aE t d ρi) fun ρ=>(cZ Φ sifs ρ).bind fun b ρ=>kg b ((ev Φ se ρ).bind fun o ρ=>Res.ok (some o) (ai (own.map (·.2)) ρ)) (Res.ok none (ai (own.map (·.2)) ρ)):=by rw [← hf]
   rw [ef]at k4
   cases ea:aE t d ρi with
   | none=>rw [ea]at k4; exact k4.elim
   | some ρ2 =>
    rw [ea]at k4
    refine⟨d,ρi,ρ2,_,a5,ea,fun σ' sm a6=>⟨(cn sm htg).trans (by
     have key:∀ (own:List Nat),L2.wipe (L2.wipe σ own) own=L2.wipe σ own:=fun own=>cn ⟨by rw [wipe_length],fun j hj=>wipe_out hj⟩ fun i hi=>hi
     exact key _),ρ2,_,a6,?_⟩⟩
    have turn:∀ {H':Hp}{ρ':Env}{m:List aW},At T B H' ρ' σ' m→At T B H' (ai (own.map (·.2)) ρ') (L2.wipe σ (own.map (·.2))) m:=fun {H' ρ' m} a=>by
     have b:=(a.kill (is:=own.map (·.2)))
     have b1:At T B H' (ai (own.map (·.2)) ρ') (L2.wipe σ' (own.map (·.2))) m:=b.wipe (fun i hi=>bh (.inl hi)) hp
     have e1:L2.wipe σ' (own.map (·.2))=L2.wipe σ (own.map (·.2)):=(cn sm htg).trans (cn ⟨by rw [wipe_length],fun j hj=>wipe_out hj⟩ fun i hi=>hi)
     rw [e1]at b1
     exact b1
    cases ec:cZ Φ sifs ρ2 with
    | bad=>simp only [cV,ec]at k4; exact k4.elim
    | exc C p ρ3=>simp only [cV,ec]at k4; exact k4.elim
    | ok b ρ3 =>
     simp only [cV,ec,Res.bind_ok]at k4
     intro H4 a7
     cases b with
     | false =>
      rw [if_neg Bool.false_ne_true]
      refine⟨ai (own.map (·.2)) ρ3,oss,fun j hj=>bh (.inl hj),by omega,turn a7,?_⟩
      simp only [oH,Res.bind_ok]at k4
      have e2:(((aK f (ds.drop (i+1)) (ai (own.map (·.2)) ρ3)).bind fun os ρ=>Res.ok os ρ).bind fun rest ρ=>Res.ok (oss++rest) ρ)=(aK f (ds.drop (i+1)) (ai (own.map (·.2)) ρ3)).bind fun rest ρ=>Res.ok (oss++rest) ρ:=by
       generalize aK f (ds.drop (i+1)) (ai (own.map (·.2)) ρ3)=r
       cases r <;> rfl
      rw [e2]at k4
      exact k4
     | true =>
      rw [if_pos rfl]
      simp only [nD]at k4
      refine⟨ρ3,_,a7,?_⟩
      cases ee:ev Φ se ρ3 with
      | bad=>simp only [ee]at k4; exact k4.elim
      | exc C p ρ4=>simp only [ee]at k4; exact k4.elim
      | ok o ρ4 =>
       simp only [ee,Res.bind_ok]at k4
       intro y H5 a8
       have s9:Sat T B H5 ((.lst oss,.ref D)::(af ρ4 σ'++((o,y)::(outs++(os.zip vs++l))))):=a8.sat.perm (by
        have p1:((o,y)::(O.lst oss,V.ref D)::(outs++(os.zip vs++l))).Perm ((O.lst oss,V.ref D)::(o,y)::(outs++(os.zip vs++l))):=.swap _ _ _
        exact(p1.append_left _).trans List.perm_middle)
       obtain⟨D',acc,eD,hDa,hla,s10⟩:=s9.openL
       cases eD
       refine⟨acc,hDa,by omega,ai (own.map (·.2)) ρ4,oss++[o],fun j hj=>bh (.inl hj),by simp; omega,turn ⟨a8.ok,?_,a8.pr⟩,?_⟩
       ·have s11:ae T B H5 [D] ((oss++[o]).zip (acc++[y])++(af ρ4 σ'++(outs++(os.zip vs++l)))):=by
         rw [List.zip_append hla,List.append_assoc]
         exact s10.perm (List.Perm.append_left _ List.perm_middle)
        exact((s11.write (cE hDa).1 (cE hDa).2.1 (cE hDa).2.2).closeL upd_same (by simp [hla])).perm List.perm_middle.symm
       ·have e2:(((aK f (ds.drop (i+1)) (ai (own.map (·.2)) ρ4)).bind fun os ρ=>Res.ok (o::os) ρ).bind fun rest ρ=>Res.ok (oss++rest) ρ)=(aK f (ds.drop (i+1)) (ai (own.map (·.2)) ρ4)).bind fun rest ρ=>Res.ok (oss++[o]++rest) ρ:=by
         generalize aK f (ds.drop (i+1)) (ai (own.map (·.2)) ρ4)=r
         cases r <;> simp
        rw [e2]at k4
        exact k4
  ·rintro H2 ⟨ρi,oss,hni,_,a4,k4⟩
   rw [List.drop_of_length_le (Nat.le_refl _),aK]at k4
   have k4:RG T B W σ l ((Res.ok (oss++[]) ρi).noX.bind fun os' ρ'=>Res.ok (O.lst os') (aL as os (bB (own.map (·.2)) ρ1 ρ'))) (fun o ρ=>∀ v H,At T B H ρ σ ((o,v)::l)→Q v H):=k4
   rw [List.append_nil]at k4
   exact fin oss ρi _ H2 k4 hni a4
theorem EJ {elt tg iter:Expr}{ifs:List Expr}{scope:Scope}{own:List (Str×Nat)}{t:Tg}{ie:IE}{se:SE}{sifs:List SE}{pos:Pos}
  (hlen:∀ ρ p ρ',kG Φ ie ρ = .ok p ρ'→p.1.length=p.2.1.length) (hc:X.calm=true) (hN:X.N.Nodup) (nd:(own.map (·.2)).Nodup) (hp:∀ p∈B.pr,p.1∉own.map (·.2)) (htg:∀ i∈ar t,i∈own.map (·.2))
  (hi:PI X tg iter (tI T B Φ W ie)) (ok:BlkOk X.N X.env.scope scope own)
  (hg:∀ (s:Shared) (H:Hp) (C:Addr) (cl:List (Str×Addr)) (fp:List Addr),PG (X.blk s H scope (compEnvC scope cl C X.env) fp) tg (gT T B t))
  (ht:∀ (s:Shared) (H:Hp) (C:Addr) (cl:List (Str×Addr)) (fp:List Addr),PTs (X.blk s H scope (compEnvC scope cl C X.env) fp) ifs (vi T B Φ sifs))
  (he:∀ (s:Shared) (H:Hp) (C:Addr) (cl:List (Str×Addr)) (fp:List Addr),PE (X.blk s H scope (compEnvC scope cl C X.env) fp) elt (tE T B Φ WF se)) (hs:∀ x,foldedSetIterable iter X.env x=pure x) :
  PE X (.ListComp elt [⟨tg,iter,ifs,0⟩] scope pos) (tE T B Φ W (.comp .lst se (own.map (·.2)) t ie sifs)) :=
 (pe_lc hc hN hi ok hg ht he hs).pv fun σ H Q h=>yc hlen nd hp htg h
theorem Aq {i:Nat}{y:Str}{py spos:Pos}{elt tg iter:Expr}{ifs:List Expr}{scope:Scope}{own:List (Str×Nat)}{t:Tg}{ie:IE}{se:SE}{sifs:List SE}{pos:Pos}
  (hlen:∀ ρ p ρ',kG Φ ie ρ = .ok p ρ'→p.1.length=p.2.1.length) (hc:X.calm=true) (hN:X.N.Nodup) (hy:X.N[i]?=some y) (hyl:X.env.scope.names.lookup y=some .local) (hpi:∀ p∈B.pr,p.1≠i)
  (hsw:swapsWith (.ListComp elt [⟨tg,iter,ifs,0⟩] scope pos) (some (.Name y py)) spos.line X.env=pure true) (nd:(own.map (·.2)).Nodup) (hp:∀ p∈B.pr,p.1∉own.map (·.2)) (htg:∀ i∈ar t,i∈own.map (·.2))
  (hi:PI X tg iter (tI T B Φ W ie)) (ok:BlkOk X.N X.env.scope scope own)
  (hg:∀ (s:Shared) (H:Hp) (C:Addr) (cl:List (Str×Addr)) (fp:List Addr),PG (X.blk s H scope (compEnvC scope cl C X.env) fp) tg (gT T B t))
  (ht:∀ (s:Shared) (H:Hp) (C:Addr) (cl:List (Str×Addr)) (fp:List Addr),PTs (X.blk s H scope (compEnvC scope cl C X.env) fp) ifs (vi T B Φ sifs))
  (he:∀ (s:Shared) (H:Hp) (C:Addr) (cl:List (Str×Addr)) (fp:List Addr),PE (X.blk s H scope (compEnvC scope cl C X.env) fp) elt (tE T B Φ WF se)) (hs:∀ x,foldedSetIterable iter X.env x=pure x) :
  PS X (.Assign [.Name y py] (.ListComp elt [⟨tg,iter,ifs,0⟩] scope pos) spos) (tS T B Φ W (.asg (.nm i) (.comp .lst se (own.map (·.2)) t ie sifs))):=by
 refine⟨fun pins s σ H D I ⟨ρ,l,at_,h⟩=>(ps_setLc hc hN hy hyl hsw hi ok hg ht he hs).run pins s σ H D I ?_⟩
 rw [bZ]at h
 show tLc (tI T B Φ W ie) (gT T B t) (vi T B Φ sifs) (tE T B Φ WF se) (own.map (·.2)) σ H (fun v H1=>gName i v σ H1 D.nx)
 refine yc hlen nd hp htg ⟨ρ,l,at_,RG.rp (h.rg.mono fun o ρ1 k v H1 a1=>?_)⟩
 have k:RS T B W D l (PV.bnd (aF (.nm i) o ρ1) fun ρ=>.ok .nx ρ):=k
 rw [aF]at k
 have k:∀ σ H,At T B H (ρ1.set i (some o)) σ l→D.nx σ H:=k
 have hl:i < ρ1.length:=by rw [a1.ok.len,I.len]; exact(List.getElem?_eq_some_iff.mp hy).1
 exact k _ _ (a1.store hl hpi)
end
end PV
namespace PV
open PySem PySem.Spec PyProof.Rows L2
def jT {α:Type} (dv:D→α) (as:List α):List (Nat ⊕ D)→Option (List α)
 | []=>some []
 | .inl i::r=>match as[i]?,jT dv as r with
  | some a,some l=>some (a::l)
  | _,_=>none
 | .inr d::r=>(jT dv as r).map (dv d :: ·)
def qU:List (Nat ⊕ D)→List Nat
 | []=>[]
 | .inl i::r=>i::qU r
 | .inr _::r=>qU r
theorem qV {α β:Type}{R:α→β→Prop}{da:D→α}{db:D→β}{as:List α}{bs:List β} (hl:as.length=bs.length) (h:∀ (i:Nat) a b,as[i]?=some a→bs[i]?=some b→R a b) :
  ∀ {g:List (Nat ⊕ D)}{xs:List α},(∀ d,.inr d∈g→R (da d) (db d))→jT da as g=some xs→∃ ys,jT db bs g=some ys∧xs.length=ys.length∧∀ (i:Nat) a b,xs[i]?=some a→ys[i]?=some b→R a b
 | [],xs,_,e=>by
  injection e with e; subst e
  exact⟨[],rfl,rfl,fun i a b h=>by simp at h⟩
 | .inl i::r,xs,hd,e=>by
  rw [jT]at e
  cases e1:as[i]? with
  | none=>rw [e1]at e; cases e
  | some a =>
   cases e2:jT da as r with
   | none=>rw [e1,e2]at e; cases e
   | some l =>
    rw [e1,e2]at e
    injection e with e; subst e
    obtain⟨ys,q1,q2,q3⟩:=qV hl h (fun d hd'=>hd d (List.mem_cons_of_mem _ hd')) e2
    have hi:i < bs.length:=by
     rw [← hl]
     exact(List.getElem?_eq_some_iff.mp e1).1
    refine⟨bs[i]::ys,by rw [jT,List.getElem?_eq_getElem hi,q1],by simp [q2],fun j a' b' h1 h2=>?_⟩
    cases j with
    | zero =>
     simp at h1 h2
     subst h1 h2
     exact h i _ _ e1 (List.getElem?_eq_getElem hi)
    | succ j=>exact q3 j a' b' (by simpa using h1) (by simpa using h2)
 | .inr d::r,xs,hd,e=>by
  rw [jT]at e
  obtain⟨l,e2,e⟩:=Option.map_eq_some_iff.mp e
  subst e
  obtain⟨ys,q1,q2,q3⟩:=qV hl h (fun d hd'=>hd d (List.mem_cons_of_mem _ hd')) e2
  refine⟨db d::ys,by rw [jT,q1]; rfl,by simp [q2],fun j a' b' h1 h2=>?_⟩
  cases j with
  | zero =>
   simp at h1 h2
   subst h1 h2
   exact hd d List.mem_cons_self
  | succ j=>exact q3 j a' b' (by simpa using h1) (by simpa using h2)
theorem pJ:∀ {I L:List Nat},I.Nodup→(∀ i∈I,i∈L)→∃ R,L.Perm (I++R)
 | [],L,_,_=>⟨L,.refl _⟩
 | i::I,L,nd,h=>by
  obtain⟨n1,n2⟩:=List.nodup_cons.mp nd
  have p:=List.perm_cons_erase (h i List.mem_cons_self)
  obtain⟨R,q⟩:=pJ (I:=I) (L:=L.erase i) n2 fun j hj=>(List.mem_erase_of_ne (fun e=>n1 (by rw [← e]; exact hj))).mpr (h j (List.mem_cons_of_mem _ hj))
  exact⟨R,p.trans (q.cons i)⟩
def uL (as:List Arg) (vs:List V) (i:Nat):List aW:=match as[i]?,vs[i]? with
 | some a,some v=>ao a v
 | _,_=>[]
theorem vP:∀ {as:List Arg}{vs:List V},as.length=vs.length→ay as vs=(List.range as.length).flatMap (uL as vs)
 | [],[],_=>rfl
 | a::as,v::vs,hl=>by
  show ao a v++ay as vs=_
  rw [vP (as:=as) (vs:=vs) (by simpa using hl),List.length_cons,List.range_succ_eq_map,List.flatMap_cons,List.flatMap_map]
  rfl
 | [],_::_,hl=>by simp at hl
 | _::_,[],hl=>by simp at hl
theorem uM {α β:Type}{l l':List α} (f:α→List β) (p:l.Perm l'):(l.flatMap f).Perm (l'.flatMap f):=by
 induction p with
 | nil=>exact .refl _
 | cons x _ ih=>exact ih.append_left _
 | swap x y l =>
  show(f y++(f x++l.flatMap f)).Perm (f x++(f y++l.flatMap f))
  rw [← List.append_assoc,← List.append_assoc]
  exact List.perm_append_comm.append_right _
 | trans _ _ a b=>exact a.trans b
section
variable {T:Tab}{B:Base}{Φ:cW}{W:WX}{X:Cx}{σ:L2.St}{l:List aW}{H:Hp}{ρ:Env}
theorem At.lits (a:At T B H ρ σ l) {d:D}{v:V} (h:∀ own hp,Dr T own hp d v):At T B H ρ σ ((.d d,v)::l):=⟨a.ok,(a.sat.lit h).perm List.perm_middle.symm,a.pr⟩
theorem ye:∀ {as:List Arg}{vs:List V}{i:Nat}{x:Arg} (hv:i < vs.length),bY σ as vs→as[i]?=some x→nK σ x vs[i]
 | [],vs,i,x,hv,av,e=>by simp at e
 | b::as,[],i,x,hv,av,e=>by simp at hv
 | b::as,v::vs,0,x,hv,av,e=>by simp at e; subst e; exact av.1
 | b::as,v::vs,i+1,x,hv,av,e=>ye (as:=as) (vs:=vs) (by simpa using hv) av.2 (by simpa using e)
theorem xg {as:List Arg}{vs:List V}{dv:D→V} (av:bY σ as vs):∀ {g:List (Nat ⊕ D)}{as':List Arg}{l:List aW},(∀ d,.inr d∈g→∀ own hp,Dr T own hp d (dv d))→At T B H ρ σ ((qU g).flatMap (uL as vs)++l)→arr as g=some as' →
  ∃ vs',jT dv vs g=some vs'∧At T B H ρ σ (ay as' vs'++l)∧bY σ as' vs'∧∀ i∈qU g,i < as.length
 | [],as',l,_,a,e=>by
  injection e with e; subst e
  exact⟨[],rfl,a,trivial,fun i h=>by cases h⟩
 | .inl i::r,as',l,hd,a,e=>by
  rw [arr]at e
  cases e1:as[i]? with
  | none=>rw [e1]at e; cases e
  | some x =>
   cases e2:arr as r with
   | none=>rw [e1,e2]at e; cases e
   | some t =>
    rw [e1,e2]at e
    injection e with e; subst e
    have hi:=(List.getElem?_eq_some_iff.mp e1).1
    have hv:i < vs.length:=by rw [← av.len]; exact hi
    have e3:uL as vs i=ao x vs[i]:=by unfold uL; rw [e1,List.getElem?_eq_getElem hv]
    have a1:At T B H ρ σ ((qU r).flatMap (uL as vs)++(ao x vs[i]++l)):=a.perm (by
     show((uL as vs i++(qU r).flatMap (uL as vs))++l).Perm _
     rw [e3,List.append_assoc]
     exact ak)
    obtain⟨vs',q1,q2,q3,q4⟩:=xg av (fun d hd'=>hd d (List.mem_cons_of_mem _ hd')) a1 e2
    refine⟨vs[i]::vs',by rw [jT,List.getElem?_eq_getElem hv,q1],q2.perm ?_,⟨ye hv av e1,q3⟩,fun j hj=>?_⟩
    ·show(ay t vs'++(ao x vs[i]++l)).Perm ((ao x vs[i]++ay t vs')++l)
     rw [List.append_assoc]
     exact ak
    ·rcases List.mem_cons.mp hj with e | hj
     ·rw [e]; exact hi
     ·exact q4 j hj
 | .inr d::r,as',l,hd,a,e=>by
  rw [arr]at e
  obtain⟨t,e2,e⟩:=Option.map_eq_some_iff.mp e
  subst e
  obtain⟨vs',q1,q2,q3,q4⟩:=xg av (fun d hd'=>hd d (List.mem_cons_of_mem _ hd')) a e2
  exact⟨dv d::vs',by rw [jT,q1]; rfl,q2.lits (hd d List.mem_cons_self),⟨trivial,q3⟩,q4⟩
theorem xh:∀ {as as':List Arg}{g:List (Nat ⊕ D)},arr as g=some as'→∀ i∈qU g,i < as.length
 | as,as',[],e,i,h=>by cases h
 | as,as',.inl j::r,e,i,h=>by
  rw [arr]at e
  cases e1:as[j]? with
  | none=>rw [e1]at e; cases e
  | some x =>
   cases e2:arr as r with
   | none=>rw [e1,e2]at e; cases e
   | some t =>
    rcases List.mem_cons.mp h with e | h
    ·rw [e]; exact(List.getElem?_eq_some_iff.mp e1).1
    ·exact xh e2 i h
 | as,as',.inr d::r,e,i,h=>by
  rw [arr]at e
  obtain⟨t,e2,e⟩:=Option.map_eq_some_iff.mp e
  exact xh e2 i h
theorem yf {as as':List Arg}{vs:List V}{dv:D→V}{g:List (Nat ⊕ D)} (nd:(qU g).Nodup) (hd:∀ d,.inr d∈g→∀ own hp,Dr T own hp d (dv d)) (a:At T B H ρ σ (ay as vs++l)) (av:bY σ as vs) (e:arr as g=some as') :
  ∃ vs',jT dv vs g=some vs'∧At T B H ρ σ (ay as' vs'++l)∧bY σ as' vs':=by
 obtain⟨R,p⟩:=pJ (L:=List.range as.length) nd fun i hi=>List.mem_range.mpr (xh e i hi)
 have a1:At T B H ρ σ ((qU g).flatMap (uL as vs)++(R.flatMap (uL as vs)++l)):=a.perm (by
  rw [vP av.len,← List.append_assoc]
  refine List.Perm.append_right l ((uM _ p).trans ?_)
  rw [List.flatMap_append])
 obtain⟨vs',q1,q2,q3,_⟩:=xg av hd a1 e
 exact⟨vs',q1,(q2.perm ak).keepR,q3⟩
structure tN (K:PySem.W.Frag) (fd:FuncData) (ps:List Str) (n:Nat) (ks:List Str) (g:List (Nat ⊕ D)) (dv:D→V):Prop where
 nd:(qU g).Nodup
 to:∃ du:D→Value,(∀ d,.inr d∈g→RelV (dv d) (du d))∧∀ (s:Shared) (us ws zs:List Value),K.In s.heap→us.length=n→ws.length=ks.length→jT du (us++ws) g=some zs→BindsTo s fd ⟨us,ks.zip ws⟩ (ps.zip zs)
theorem vQ {vs:List V}{us:List Value}{dv:D→V}{du:D→Value}{g:List (Nat ⊕ D)}{xs:List V} (r:Vals vs us) (hd:∀ d,.inr d∈g→RelV (dv d) (du d)) (e:jT dv vs g=some xs):∃ zs,jT du us g=some zs∧Vals xs zs:=by
 obtain⟨zs,e1,e2,e3⟩:=qV (R:=RelV) r.length (fun i a b h1 h2=>by
  obtain⟨u,hu,ru⟩:=r.get h1
  rw [h2]at hu
  injection hu with hu
  subst hu
  exact ru) hd e
 refine⟨zs,e1,?_⟩
 clear e e1
 induction xs generalizing zs with
 | nil =>
  cases zs with
  | nil=>exact .nil
  | cons _ _=>simp at e2
 | cons x xs ih =>
  cases zs with
  | nil=>simp at e2
  | cons z zs=>exact .cons (e3 0 x z rfl rfl) (ih zs (by simpa using e2) fun i a b h1 h2=>e3 (i+1) a b (by simpa using h1) (by simpa using h2))
theorem Cp {k:Nat}{f:Addr}{fd:FuncData}{ps ks:List Str}{sp:Sp}{E:L2.St→XK}{g:List (Nat ⊕ D)}{dv:D→V}{n:Nat}{pins:List (Addr×Obj)}{s:Shared}{Q:VK}{us ws:List Value}{vs xs:List V} (F:FnOk X.prog X.w X.K X.mg X.base (L2.CX X.prog X.w) k f fd ps sp) (hr:Room k X.A) (hb:tN X.K fd ps n ks g dv)
  (hx:PassesAt (L2.CX X.prog X.w) X σ (E σ)) (I:Inv X pins σ H s) (r:Vals vs (us++ws)) (l1:us.length=n) (l2:ws.length=ks.length) (e:jT dv vs g=some xs) (h:sp xs H Q (E σ)):wpAny (model X.prog X.w) X.A (call (.ref f) us (ks.zip ws)) (EP X pins σ Q) X.xe s:=by
 obtain⟨du,h1,h2⟩:=hb.to
 obtain⟨zs,e1,r2⟩:=vQ r h1 e
 refine wpAny_call (codeAny_mono (F.run X.A X.stack s H ⟨us,ks.zip ws⟩ zs xs Q (E σ) hr I.env0 (h2 s us ws zs I.kIn l1 l2 e1) r2 h) fun r s' hq=>?_)
 cases r with
 | error e=>exact hx pins H s e s' I hq
 | ok fl =>
  cases fl with
  | ret u=>exact I.after hq
  | next=>exact False.elim hq
  | brk=>exact False.elim hq
  | cont=>exact False.elim hq
theorem vR:∀ {a b:List SE}{ρ:Env},bN Φ (a++b) ρ=(bN Φ a ρ).bind fun x ρ=>(bN Φ b ρ).bind fun y ρ=>.ok (x++y) ρ
 | [],b,ρ=>by
  rw [List.nil_append,bN,Res.bind_ok]
  cases bN Φ b ρ <;> rfl
 | e::a,b,ρ=>by
  rw [List.cons_append,bN,bN]
  cases dB Φ e ρ with
  | bad=>rfl
  | exc C p ρ=>rfl
  | ok x ρ1 =>
   simp only [Res.bind_ok]
   rw [vR]
   cases bN Φ a ρ1 with
   | bad=>rfl
   | exc C p ρ=>rfl
   | ok y ρ2 =>
    simp only [Res.bind_ok]
    cases bN Φ b ρ2 <;> rfl
theorem qW:∀ {a:List SE}{ρ ρ':Env}{as:List Arg},bN Φ a ρ = .ok as ρ'→as.length=a.length
 | [],ρ,ρ',as,e=>by
  rw [bN]at e
  injection e with e; subst e; rfl
 | x::a,ρ,ρ',as,e=>by
  rw [bN]at e
  obtain⟨b,ρ1,_,e⟩:=Res.bind_of e
  obtain⟨bs,ρ2,e2,e⟩:=Res.bind_of e
  injection e with e; subst e
  simp [qW e2]
theorem EK:PK X [] (tJ T B Φ W []):=⟨fun pos pins s σ H Q I ⟨ρ,l,a,h⟩=>pk_nil.run pos pins s σ H Q I (by
 rw [bN]at h
 exact h [] H a trivial)⟩
def uN (X:Cx) (es:List Expr):Prop:=match es with
 | []=>True
 | e::es=>starEach (e::es) X.env=(false,eval e X.env)::starEach es X.env
theorem vS {es:List Expr}{kws:List Keyword}{sp sk:List SE}{ks:List Str}{pos:Pos}{f:Value}{first:List Value}{pins:List (Addr×Obj)}{s:Shared}{Q:VK}{K:List Arg→Env→Prop} (hp:PA X es (tJ T B Φ W sp)) (hk:PK X kws (tJ T B Φ W sk)) (kf:PySem.W.keepIn X.K f=true)
  (h0:es = []→sp = []) (h1:uN X es) (hall:(backToKw pos (keywordEach kws X.env)).all (·.1.isSome)=true) (hks:(backToKw pos (keywordEach kws X.env)).filterMap (·.1)=ks)
  (hpl:((backTo pos (starEach es X.env)).any (·.1)||(backToKw pos (keywordEach kws X.env)).any (·.1.isNone))=false)
  (I:Inv X pins σ H s) (a:At T B H ρ σ l) (h:RG T B W σ l (bN Φ (sp++sk) ρ) K)
  (go:∀ as ρ' us ws s1 vs H1,K as ρ'→Inv X pins σ H1 s1→Vals vs (us++ws)→us.length=sp.length→ws.length=sk.length→At T B H1 ρ' σ (ay as vs++l)→bY σ as vs→wpAny (model X.prog X.w) X.A (call f (first++us) (ks.zip ws)) (EP X pins σ Q) X.xe s1) :
  wpAny (model X.prog X.w) X.A (callWith pos f first (backTo pos (starEach es X.env)) (backToKw pos (keywordEach kws X.env))) (EP X pins σ Q) X.xe s:=by
 rw [vR]at h
 have h:=h.bind.eq
 -- the keywords,behind the values by place
 have kw:∀ (as:List Arg) (ρ1:Env) (us:List Value) (vs:List V) (s1:Shared) (H1:Hp),bN Φ sp ρ = .ok as ρ1→RG T B W σ l ((bN Φ sk ρ1).bind fun y ρ=>.ok (as++y) ρ) K→Inv X pins σ H1 s1→Vals vs us→At T B H1 ρ1 σ (ay as vs++l)→bY σ as vs →
   wpAny (model X.prog X.w) X.A (evalAll ((backToKw pos (keywordEach kws X.env)).map (·.2))) (fun kv s₂=>X.K.In s₂.heap∧wpAny (model X.prog X.w) X.A (call f (first++us) (((backToKw pos (keywordEach kws X.env)).filterMap (·.1)).zip kv)) (EP X pins σ Q) X.xe s₂) X.xe s1:=by
  intro as ρ1 us vs s1 H1 ea h I1 r a1 av
  rw [hks]
  refine thn (hk.run pos pins s1 σ H1 (fun ws H2=>∃ bs ρ2,K (as++bs) ρ2∧At T B H2 ρ2 σ (ay bs ws++(ay as vs++l))∧bY σ bs ws∧bs.length=sk.length) I1 ⟨ρ1,ay as vs++l,a1,RG.more (h.bind.eq.mono fun bs ρ2 ⟨eb,k⟩ ws H2 a2 bv=>⟨bs,ρ2,k,a2,bv,qW eb⟩)⟩) fun ws' s2 ⟨zs,H2,I2,rz,bs,ρ2,k,a2,bv,lb⟩=>⟨I2.kIn,?_⟩
  refine go (as++bs) ρ2 us ws' s2 (vs++zs) H2 k I2 (r.append rz) ?_ ?_ (a2.perm ?_) ?_
  ·rw [← r.length,← av.len,qW ea]
  ·rw [← rz.length,← bv.len,lb]
  ·have:∀ {as:List Arg}{vs:List V}{bs:List Arg}{zs:List V},as.length=vs.length→ay (as++bs) (vs++zs)=ay as vs++ay bs zs:=by
    intro as
    induction as with
    | nil=>intro vs bs zs hl; cases vs with
     | nil=>rfl
     | cons _ _=>simp at hl
    | cons a as ih=>intro vs bs zs hl; cases vs with
     | nil=>simp at hl
     | cons v vs=>show ao a v++ay (as++bs) (vs++zs)=_; rw [ih (by simpa using hl)]; show _=(ao a v++ay as vs)++_; rw [List.append_assoc]
   rw [this av.len,List.append_assoc]
   exact ak
  ·have:∀ {as:List Arg}{vs:List V},bY σ as vs→bY σ (as++bs) (vs++zs):=by
    intro as
    induction as with
    | nil=>intro vs h; cases vs with
     | nil=>exact bv
     | cons _ _=>exact h.elim
    | cons a as ih=>intro vs h; cases vs with
     | nil=>exact h.elim
     | cons v vs=>exact⟨h.1,ih h.2⟩
   exact this av
 cases es with
 | nil =>
  have e0:=h0 rfl
  subst e0
  rw [bN]at h
  exact PySem.W.callWith_KW0 (h₀:=X.base) I.ok.mod.kin kf hall (kw [] ρ [] [] s H (by rw [bN]) h.2 I .nil a trivial) hpl
 | cons e es =>
  refine PySem.W.callWith_KW (h₀:=X.base) I.ok.mod.kin kf hall (thn (hp.run pos pins s σ H (fun vs H1=>∃ as ρ1,bN Φ sp ρ = .ok as ρ1∧RG T B W σ l ((bN Φ sk ρ1).bind fun y ρ=>Res.ok (as++y) ρ) K∧At T B H1 ρ1 σ (ay as vs++l)∧bY σ as vs) I ⟨ρ,l,a,h.mono fun as ρ1 ⟨ea,k⟩ vs H1 a1 av=>⟨as,ρ1,ea,k,a1,av⟩⟩) fun us s1 q=>?_) hpl h1
  obtain⟨vs,H1,I1,r,as,ρ1,ea,k,a1,av⟩:=q
  exact kw as ρ1 us vs s1 H1 ea k I1 r a1 av
end
end PV
namespace PV
open PySem PySem.Spec PyProof.Rows L2
section
variable {T:Tab}{B:Base}{Φ:cW}{W W':WX}{X:Cx}{σ:L2.St}{l:List aW}{H:Hp}{ρ:Env}
theorem RG.anyW {α:Type}{r:Res α}{K:α→Env→Prop} (h:RG T B W σ l r.noX K):RG T B W' σ l r.noX K:=by cases r <;> exact h
theorem yg {y:Arg}{v:V}{o:O} (a:At T B H ρ σ (ao y v++l)) (av:nK σ y v) (e:iU y ρ=some o):∃ m,Sat T B H ((o,v)::m):=by
 cases y with
 | val o' =>
  have e:some o'=some o:=e
  injection e with e
  subst e
  exact⟨_,ae.perm (m:=(o',v)::(af ρ σ++l)) a.sat List.perm_middle⟩
 | slot j =>
  have av:σ[j]?=some (some v):=av
  exact⟨_,ae.perm (a.take e av).sat List.perm_middle⟩
theorem Cq {C:Nat}{d:D}{u:Unit} (e:yU C d=some u):∃ ns xs,d = .obj C ns xs:=by
 cases d with
 | obj C' ns xs =>
  have e:(if C'=C then some ()else none)=some u:=e
  by_cases h:C'=C
  ·subst h; exact⟨ns,xs,rfl⟩
  ·rw [if_neg h]at e; cases e
 | _=>cases e
theorem Cr {C:Nat}{f:Str}{d:D}{u:Unit} (e:B4 C f d=some u):∃ ns xs,d = .obj C ns xs∧f∉ns:=by
 cases d with
 | obj C' ns xs =>
  have e:(if C'=C∧f∉ns then some ()else none)=some u:=e
  by_cases h:C'=C∧f∉ns
  ·obtain⟨h1,h2⟩:=h; subst h1; exact⟨ns,xs,rfl,h2⟩
  ·rw [if_neg h]at e; cases e
 | _=>cases e
theorem lD {f:Str}:∀ {ns:List Str}{vs:List V},f∉ns→(ns.zip vs).lookup f=none
 | [],vs,_=>by simp
 | n::ns,[],_=>by simp
 | n::ns,v::vs,h=>by
  have h1:f≠n:=fun e=>h (by rw [e]; exact List.mem_cons_self)
  have h2:(f == n)=false:=by simpa using h1
  show(List.lookup f ((n,v)::ns.zip vs))=none
  rw [List.lookup_cons,h2]
  exact lD fun z=>h (List.mem_cons_of_mem _ z)
theorem yh {y:Arg}{v:V}{o:O}{C:Nat}{ns:List Str}{xs:List D} (a:At T B H ρ σ (ao y v++l)) (av:nK σ y v) (e:iU y ρ=some o) (eo:o.frz = .obj C ns xs):∃ a dx vs,v = .ref a∧H a=some (.ins (T.cls C) dx (ns.zip vs)):=by
 obtain⟨m,s⟩:=yg a av e
 obtain⟨b,dx,vs,h1,h2,_⟩:=Sat.kidsO s eo
 exact⟨b,dx,vs,h1,h2⟩
theorem Ar {run:List O→bC}{n:Nat}{as:List Arg}{vs:List V}{Q:VK}{E:XK} (h:RG T B W σ l (eT ⟨n,run⟩ as ρ).noX fun o ρ=>∀ v H,At T B H ρ σ ((o,v)::l)→Q v H)
  (a:At T B H ρ σ (ay as vs++l)) (av:bY σ as vs):bD T run vs H Q E:=call_of (W:=fun cls d _ H=>E cls d H) (h.anyW.unX) a av
section
variable {k fi n:Nat}{f:Addr}{fd:FuncData}{ps ks:List Str}{run:List O→bC}{g:List (Nat ⊕ D)}{dv:D→V}{x:Str}{p pos apos:Pos}{e o:Expr}{es:List Expr}{kws:List Keyword}{sp sk:List SE}{sa sb:SE}{C:Nat}{m:Str}
theorem HJ {pl:Sem Bool} (c:Cls X.K (T.cls C)) (hm:Meth X.K (T.cls C) m f) (F:FnOk X.prog X.w X.K X.mg X.base (L2.CX X.prog X.w) k f fd ps (bD T run)) (hΦ:Φ fi=⟨n,run⟩) (hr:Room k X.A) (hb:tN X.K fd ps (sp.length+1) ks g dv) (hdv:∀ d,.inr d∈g→∀ own hp,Dr T own hp d (dv d)) (hlen:sk.length=ks.length)
  (tk:Takes X W) (he:PE X o (tA T B Φ W sa)) (hp:PA X es (tJ T B Φ W sp)) (hkw:PK X kws (tJ T B Φ W sk)) (h0:es = []→sp = []) (h1:uN X es)
  (hall:(backToKw pos (keywordEach kws X.env)).all (·.1.isSome)=true) (hks:(backToKw pos (keywordEach kws X.env)).filterMap (·.1)=ks) (hpl:((backTo pos (starEach es X.env)).any (·.1)||(backToKw pos (keywordEach kws X.env)).any (·.1.isNone))=false)
  (ht:eval (.Call (.Attribute o m apos) es kws pos) X.env=(do
   let ov ← eval o X.env
   standAt apos.atName
   let (f,first) ← holding [ov] (getMethod ov m pl)
   callWith pos f first (backTo pos (starEach es X.env)) (backToKw pos (keywordEach kws X.env)))):PE X (.Call (.Attribute o m apos) es kws pos) (tE T B Φ W (.meth C m fi sa (sp++sk) g)):=by
 refine⟨fun pins s σ H Q I ⟨ρ,l,a,h⟩=>?_⟩
 rw [ev,hΦ]at h
 have h:=h.rg.bind
 refine PySem.W.methodCall_KW (pl:=pl) (thn (he.run pins s σ H (fun v H1=>∃ y ρ1,RG T B W σ l (bnd (iU y ρ1) fun o=>bnd (B4 C m o.frz) fun _=>(bN Φ (sp++sk) ρ1).bind fun as ρ=>bnd (arr (y::as) g) fun as=>eT ⟨n,run⟩ as ρ) (fun o ρ=>∀ v H,At T B H ρ σ ((o,v)::l)→Q v H)∧At T B H1 ρ1 σ (ao y v++l)∧nK σ y v) I ⟨ρ,l,a,h.mono fun y ρ1 k v H1 a1 av=>⟨y,ρ1,k,a1,av⟩⟩) fun u s1 hq=>?_) ht
 obtain⟨v,H1,I1,rx,y,ρ1,kk,a1,av⟩:=hq
 obtain⟨o',eo,kk⟩:=kk.bnd
 obtain⟨_,em,kk⟩:=kk.bnd
 obtain⟨ns,xs,ef,nf⟩:=Cr em
 obtain⟨b,dx,ws,rfl,ea⟩:=yh a1 av eo ef
 obtain rfl:u=Value.ref b:=rx
 refine getmeth_ok I1 ea c hm (lD nf) ?_
 have kk:=RG.more (m:=ao y (.ref b)) kk.bind
 refine vS hp hkw hm.kp h0 h1 hall hks hpl I1 a1 kk fun as ρ' us ws s2 vs H2 kk I2 r l1 l2 a2 av2=>?_
 obtain⟨as',e,kk⟩:=kk.bnd
 have a3:At T B H2 ρ' σ (ay (y::as) (.ref b::vs)++l):=a2.perm (by
  show(ay as vs++(ao y (.ref b)++l)).Perm ((ao y (.ref b)++ay as vs)++l)
  rw [List.append_assoc]
  exact ak)
 obtain⟨xs,e1,a4,av4⟩:=yf hb.nd hdv a3 ⟨av,av2⟩ e
 refine Cp (E:=WE W) (us:=.ref b::us) (vs:=.ref b::vs) F hr hb (passAt tk σ) I2 (.cons rfl r) (by simp [l1]) (l2.trans hlen) e1 (call_of (n:=n) ?_ a4 av4)
 exact kk
end
end
end PV
namespace PV
open PySem PySem.Spec PyProof.Rows L2
theorem Cs (b:Addr):L2.RelV (V.ref b) (Value.ref b):=rfl
structure EL (K:PySem.W.Frag) (C:Addr):Prop where
 cl:Cls K C
 ha:PySem.W.findIn K (.ref C) "__class__" = some (some (.builtin "object.__class__"))
 hn:PySem.W.specialIn K (.builtin "object.__class__") "__get__" = some (some (.builtin "getset_descriptor.__get__"))
 htk:PySem.W.takesIn K (.builtin "object.__class__")=some true
 hm:PySem.W.mroIn K C (.type "object")=some true
def tyV (T:Tab):D→Value
 | .non=>.type "NoneType"
 | .bl _=>.type "bool"
 | .int _=>.type "int"
 | .str _=>.type "str"
 | .tup _=>.type "tuple"
 | .lst _=>.type "list"
 | .dic _ _=>.type "dict"
 | .obj C _ _=>.ref (T.cls C)
 | .exc C _=>.ref (T.cls C)
section
variable {T:Tab}{B:Base}{Φ:cW}{W:WX}{X:Cx}{σ:L2.St}{l m:List aW}{H:Hp}{ρ:Env}{pins:List (Addr×Obj)}{s:Shared}{o:O}{v:V}{u:Value}{hs:List Addr}
theorem EM (s:ae T B H hs l) {a:Addr}{φ:Heap→Prop} (e:vw B.Z H a=some (.ext φ)):H a=some (.ext φ):=by
 rcases jo e with e | ⟨z,o,e⟩
 ·exact e
 ·obtain⟨u2,e2,mu⟩:=s.lk a z
  rw [e]at e2
  cases e2
  exact mu.elim
theorem DO (s:ae T B H hs l) {a:Addr}{fs:List (Str×V)} (e:vw B.Z H a=some (.xd fs)):H a=some (.xd fs):=by
 rcases jo e with e | ⟨z,o,e⟩
 ·exact e
 ·obtain⟨u2,e2,mu⟩:=s.lk a z
  rw [e]at e2
  cases e2
  exact mu.elim
theorem EN (I:Inv X pins σ H s) (sa:ae T B H hs l) {own:Addr→Prop}{C:Nat}{dd:Option Addr}{vs:List V} (x:yR own (vw B.Z H) C dd vs):dd=none∨∃ dx o,dd=some dx∧s.heap.get? dx=some o:=match vs,x with
 | [],x=>by
  have x:dd=none:=x
  exact .inl x
 | [v],⟨dx,e1,n,e2⟩=>by
  subst e1
  obtain⟨mA,hn,_⟩:=(show ObjOk X.prog X.w H s.heap dx (.xd _)from I.hok dx _ (DO sa e2))
  obtain⟨o,es,ep,h1,_⟩:=hn
  exact .inr ⟨dx,o,rfl,h1⟩
theorem As (hK:X.K=T.K) (I:Inv X pins σ H s) (r:RelV v u) (sa:ae T B H hs ((o,v)::m)) (hC:∀ C ns xs,o.frz = .obj C ns xs→EL X.K (T.cls C)) (hX:∀ C p,o.frz = .exc C p→ExcC X.K (T.cls C)∧p.length≠3):∃ P:Heap→Prop,PySem.W.KitX X.K u (tyV T o.frz) P∧P s.heap∧u≠.builtin "__main__.__loader__#opaque" := by
 have d:=sa.read
 cases ea:o.frz with
 | non=>rw [ea]at d; cases d; cases (show u=Value.none from r); exact⟨_,PySem.W.kitx_none,True.intro,fun z=>nomatch z⟩
 | bl y=>rw [ea]at d; cases d; cases (show u=Value.bool y from r); exact⟨_,PySem.W.kitx_bool,True.intro,fun z=>nomatch z⟩
 | int i=>rw [ea]at d; cases d; obtain⟨t,q⟩:=(show ∃ t,u=Value.int i t from r); cases q; exact⟨_,PySem.W.kitx_int,True.intro,fun z=>nomatch z⟩
 | str y=>rw [ea]at d; cases d; obtain⟨t,q⟩:=(show ∃ t,u=Value.str y t from r); cases q; exact⟨_,PySem.W.kitx_str,True.intro,fun z=>nomatch z⟩
 | tup xs =>
  obtain⟨a,vs,rfl,ha,_⟩:=Sat.kidsT sa ea
  cases (show u=Value.ref a from r)
  obtain⟨its,_,⟨o1,h1,h2,_⟩,_⟩:=I.tuple (by rw [hK]; exact ha)
  exact⟨_,PySem.W.kitx_tuple,⟨o1,h1,h2⟩,fun z=>nomatch z⟩
 | lst xs =>
  obtain⟨a,vs,rfl,ha,_⟩:=Sat.kidsL sa ea
  cases (show u=Value.ref a from r)
  obtain⟨its,_,⟨o1,n,h1,h2,_⟩,_⟩:=I.list (by rw [hK]; exact ha)
  exact⟨_,PySem.W.kitx_list,⟨o1,h1,h2⟩,fun z=>nomatch z⟩
 | dic ks xs =>
  rw [ea]at d
  obtain⟨a,ws,rfl,dr,_⟩:=qB sa d
  cases (show u=Value.ref a from r)
  have:∃ o:Obj,s.heap.get? a=some o∧o.cls = .type "dict" := by
   rcases dr with⟨js,_,q,_⟩ | ⟨js,_,q,_⟩
   ·rcases q with q | ⟨ob,q⟩
    ·obtain⟨_,_,vs,_,o,es,ep,h1,h2,_⟩:=(show ObjOk X.prog X.w H s.heap a (.dK _)from I.hok a _ q)
     exact⟨o,h1,h2.1⟩
    ·obtain⟨_,_,_,vs,_,o,es,ep,h1,h2,_⟩:=(show ObjOk X.prog X.w H s.heap a (.frz ob (.dK _))from I.hok a _ q)
     exact⟨o,h1,h2.1⟩
   ·rcases q with q | ⟨ob,q⟩
    ·obtain⟨_,_,xs,_,o,es,ep,h1,h2,_⟩:=(show ObjOk X.prog X.w H s.heap a (.dT _)from I.hok a _ q)
     exact⟨o,h1,h2.1⟩
    ·obtain⟨_,_,_,xs,_,o,es,ep,h1,h2,_⟩:=(show ObjOk X.prog X.w H s.heap a (.frz ob (.dT _))from I.hok a _ q)
     exact⟨o,h1,h2.1⟩
  obtain⟨o,h1,h2⟩:=this
  exact⟨_,PySem.W.kitx_dict,⟨o,h1,h2⟩,fun z=>nomatch z⟩
 | obj C ns xs =>
  obtain⟨a,dx,vs,rfl,h,_⟩:=Sat.kidsO sa ea
  cases (show u=Value.ref a from r)
  obtain⟨mA,O,_⟩:=ins_get I.hok h
  obtain⟨od,J,_⟩:=O.look
  have c:=hC C ns xs ea
  exact⟨_,PySem.W.kitx_own (c.cl.get _) c.cl.hd c.ha c.hn c.htk c.hm,J,fun z=>nomatch z⟩
 | exc C p =>
  rw [ea]at d
  obtain⟨c,c3⟩:=hX C p ea
  rcases d with⟨z,_⟩ | ⟨a,dd,vs,rfl,_,hx,xd,_⟩
  ·exact(c3 z).elim
  cases (show u=Value.ref a from r)
  obtain⟨⟨oo,h1,h2,h3,fs,h4⟩,_,_⟩:=(show ObjOk X.prog X.w H s.heap a (vh a (T.cls C) dd)from I.hok a _ (EM sa hx))
  have J:∃ od,PySem.W.InstAt s.heap a oo (T.cls C) od:=by
   obtain⟨oc,odi,oda,osl⟩:=oo
   dsimp only at h2 h3 h4
   subst h2 h3 h4
   rcases EN I sa xd with rfl | ⟨dx,o,rfl,hd⟩
   ·exact⟨none,h1,rfl,rfl,trivial⟩
   ·exact⟨some o,h1,rfl,rfl,hd⟩
  obtain⟨od,J⟩:=J
  have hcl:(PySem.W.clsIn X.K (T.cls C)).isSome=true:=by
   obtain⟨cd,hc,_⟩:=PySem.W.any_some c.hd
   rw [hc]; rfl
  exact⟨_,PySem.W.kitx_exc hcl c.hg c.hk c.hs c.ha c.hn c.ht c.hm,J,fun z=>nomatch z⟩
section
variable {k fi n:Nat}{f g:Addr}{fd:FuncData}{ps:List Str}{run:List O→bC}{x:Str}{p pos apos:Pos}{e e1 e2:Expr}{sa sb:SE}{C:Nat}
theorem EO (c:Cls X.K (T.cls C)) {q:Addr} (hp:PropOf X.K (T.cls C) x q f) (F:FnOk X.prog X.w X.K X.mg X.base (L2.CX X.prog X.w) k f fd ps (bD T run)) (hΦ:Φ fi=⟨n,run⟩) (hr:Room (k+1) X.A) (hb:Binds X.K fd ps []) (he:PE X e (tA T B Φ W sa))
  (hab:attributeBase e x X.env (eval e X.env)=eval e X.env):PE X (.Attribute e x pos) (tE T B Φ W (.prop C x fi sa)):=by
 refine(pe_prop (sp:=bD T run) (dvs:=[]) (E:=fun _ _ _=>False) he c hp F hr hb .nil (fun pins σ H s e s' I z=>?_) hab).pv fun σ H Q ⟨ρ,l,a,h⟩=>?_
 ·obtain⟨_,_,_,_,_,_,_,_,_,_,_,_,z⟩:=z
  exact z.elim
 ·rw [ev,hΦ]at h
  refine⟨ρ,l,a,h.rg.bind.mono fun y ρ1 k v H1 a1 av=>?_⟩
  obtain⟨o,eo,k⟩:=k.bnd
  obtain⟨_,em,k⟩:=k.bnd
  obtain⟨ns,xs,ef⟩:=Cq em
  obtain⟨b,dx,ws,rfl,ea⟩:=yh a1 av eo ef
  exact⟨b,dx,_,rfl,ea,Ar (as:=[y]) (vs:=[.ref b]) k (a1.perm jv) ⟨av,trivial⟩⟩
structure GC (T:Tab) (B:Base) (Φ:cW) (W:WX) (X:Cx) (a:Expr) (op:CmpOp) (b:Expr) (se:SE):Prop where
 ex:∃ (r:R2) (ta tb:TE),OpR X (compareOp op) r∧PE X a ta∧PE X b tb∧∀ σ H Q,tE T B Φ W se σ H Q→tOp r ta tb σ H Q
def xi (Φ:cW) (se:SE):Prop:=(∀ ρ o ρ',ev Φ se ρ = .ok o ρ'→∃ b,o = .d (.bl b))∧∀ ρ,kh Φ se ρ=(ev Φ se ρ).bind fun o ρ=>(Res.of (qy o.frz) ρ).bind fun b ρ=>.ok b ρ
theorem Ct {se:SE} (hb:xi Φ se) {Q:Bool→Hp→Prop} (h:tT T B Φ W se σ H Q):tE T B Φ W se σ H (fun v H'=>∃ k,v = .bl k∧Q k H'):=by
 obtain⟨ρ,l,a,h⟩:=h
 rw [hb.2]at h
 refine⟨ρ,l,a,RG.rp (h.bind.eq.mono fun o ρ1 k v H1 a1=>?_)⟩
 obtain⟨e,k⟩:=k
 obtain⟨b,rfl⟩:=hb.1 _ _ _ e
 have k:∀ H',At T B H' ρ1 σ l→Q b H':=k
 exact⟨b,a1.bl1,k H1 a1.drop⟩
theorem IB {op:CmpOp}{a b:Expr}{se:SE}{pos:Pos} (hb:xi Φ se) (h:GC T B Φ W X a op b se) (hm:behindInMarks op b=false):PT X (.Compare a [op] [b] pos) (tT T B Φ W se):=by
 obtain⟨r,ta,tb,h1,h2,h3,h4⟩:=h.ex
 exact(pt_cmpR h1 h2 h3 hm).pv fun σ H Q h=>h4 σ H _ (Ct hb h)
theorem Res.bnd_of {α β:Type}{o:Option α}{f:α→Res β}{b:β}{ρ':Env} (h:bnd o f = .ok b ρ'):∃ a,o=some a∧f a = .ok b ρ':=by
 cases o with
 | none=>cases h
 | some a=>exact⟨a,rfl,h⟩
end
end
end PV
namespace PV
open PySem PySem.Spec PyProof.Rows L2
section
variable {T:Tab}{B:Base}{Φ:cW}{W:WX}{X:Cx}{σ:L2.St}{l m:List aW}{H:Hp}{ρ:Env}{pins:List (Addr×Obj)}{s:Shared}
section
variable {k fi n nn:Nat}{f:Addr}{fd:FuncData}{ps ks:List Str}{run:List O→bC}{g:List (Nat ⊕ D)}{dv:D→V}{x:Str}{p pos apos:Pos}{e o:Expr}{es:List Expr}{kws:List Keyword}{sp sk:List SE}{sa sb:SE}{C:Nat}
theorem y3 {CA:Addr}{spp:Sp}{E:L2.St→XK}{Q:VK}{us ws:List Value}{vs:List V} (M:Mk X.K CA f) (F:FnOk X.prog X.w X.K X.mg X.base (L2.CX X.prog X.w) k f fd ps spp) (hr:Room (k+1) X.A) (hb:tN X.K fd ps (nn+1) ks g dv)
  (hx:PassesAt (L2.CX X.prog X.w) X σ (E σ)) (I:Inv X pins σ H s) (r:Vals vs (us++ws)) (l1:us.length=nn) (l2:ws.length=ks.length)
  (h:∀ x dx,H x=none→H dx=none→dx≠x→∃ xs,jT dv (.ref x::vs) g=some xs∧spp xs (upd (upd H dx (.own x)) x (.ins CA dx [])) (fun v H2=>v = .non∧Q (.ref x) H2) (E σ)) :
  wpAny (model X.prog X.w) X.A (call (.ref CA) us (ks.zip ws)) (EP X pins σ Q) X.xe s:=by
 obtain⟨xs,ex,hq⟩:=h (s.heap.objs.size+1) s.heap.objs.size (I.hok.fresh (Nat.le_succ _)) (I.hok.fresh (Nat.le_refl _)) (Nat.ne_of_lt (Nat.lt_succ_self _))
 have I2:=Inv.made (C:=CA) I
 obtain⟨du,h1,h2⟩:=hb.to
 have r1:Vals (V.ref (s.heap.objs.size+1)::vs) ((Value.ref (s.heap.objs.size+1)::us)++ws):=.cons (Cs _) r
 obtain⟨zs,e1,r2⟩:=vQ r1 h1 ex
 refine wpAny_call (make_map (f:=f) I.kIn M.makes M.init (beq_iff_eq.mp M.fn) (codeAny_mono (F.run _ X.stack _ _ ⟨Value.ref (s.heap.objs.size+1)::us,ks.zip ws⟩ zs xs _ (E σ) (hr.make CA us (ks.zip ws))
  (I2.env0.make CA us (ks.zip ws)) (h2 _ (Value.ref (s.heap.objs.size+1)::us) ws zs I2.kIn (by simp [l1]) l2 e1) r2 hq) fun r s' hq'=>?_))
 cases r with
 | error e=>exact hx pins _ _ e s' I2 hq'
 | ok fl =>
  cases fl with
  | ret u =>
   obtain⟨v,H',I3,rv,ev,q3⟩:=I2.after hq'
   subst ev
   exact⟨rv,⟨V.ref (s.heap.objs.size+1),H',I3,rfl,q3⟩⟩
  | next=>exact False.elim hq'
  | brk=>exact False.elim hq'
  | cont=>exact False.elim hq'
theorem made_ok {r:bC}{o:O}{ios:List O} (e:r.made = .ok o ios):r = .ok (.d .non) (o::ios):=by
 cases r with
 | ok v l =>
  cases v with
  | d x =>
   cases x with
   | non =>
    cases l with
    | nil=>cases e
    | cons a b=>injection e with e1 e2; subst e1 e2; rfl
   | _=>cases e
  | _=>cases e
 | exc C p l=>cases l <;> cases e
 | bad=>cases e
theorem made_exc {r:bC}{C:Nat}{p:List D}{ios:List O} (e:r.made = .exc C p ios):∃ o,r = .exc C p (o::ios):=by
 cases r with
 | ok v l =>
  cases v with
  | d x =>
   cases x with
   | non =>
    cases l with
    | nil=>cases e
    | cons a b=>cases e
   | _=>cases e
  | _=>cases e
 | exc C' p' l =>
  cases l with
  | nil=>cases e
  | cons a b=>injection e with e1 e2 e3; subst e1 e2 e3; exact⟨a,rfl⟩
 | bad=>cases e
theorem Cu {run:List O→bC}{n:Nat}{as:List Arg}{vs:List V}{a0:Addr}{C:Nat}{Q:VK} (h:RG T B W σ l (jq ⟨n,run⟩ (.val (.obj C [] [])::as) ρ) fun o ρ=>∀ v H,At T B H ρ σ ((o,v)::l)→Q v H)
  (a:At T B H ρ σ (ay (.val (.obj C [] [])::as) (.ref a0::vs)++l)) (av:bY σ as vs):bD T run (.ref a0::vs) H (fun v H2=>v = .non∧Q (.ref a0) H2) (WE W σ):=by
 unfold jq at h
 have h:=h.bind
 cases e:cX (.val (.obj C [] [])::as) ρ with
 | bad=>rw [e]at h; exact h.elim
 | exc C p ρ'=>exact(m7 e).elim
 | ok os ρ1 =>
  rw [e]at h
  have av':bY σ (.val (.obj C [] [])::as) (.ref a0::vs):=⟨trivial,av⟩
  obtain⟨hl,a1⟩:=kl a av' e
  refine⟨B,os,af ρ1 σ++l,hl,a1.sat.perm ak,?_⟩
  have h:RG T B W σ l ((run os).made.to as ρ1) fun o ρ=>∀ v H,At T B H ρ σ ((o,v)::l)→Q v H:=h
  unfold xU
  cases er:(run os).made with
  | bad=>rw [er]at h; exact h.elim
  | ok r ios =>
   have:=made_ok er
   rw [this]
   rw [er]at h
   have h:∀ v H,At T B H (aL as ios ρ1) σ ((r,v)::l)→Q v H:=h
   intro u H' hi s
   have eu:u = .non:=ae.read s
   subst eu
   refine⟨rfl,h (.ref a0) H' (dC (as:=as) (os:=ios) (vs:=vs) (by simpa using hi) ⟨a1.ok,?_,a1.pr⟩ av)⟩
   have s1:Sat T B H' (((r,.ref a0)::ios.zip vs)++(af ρ1 σ++l)):=ae.drop1 s
   refine s1.perm ?_
   have p1:((r,V.ref a0)::(ios.zip vs++(af ρ1 σ++l))).Perm ((r,V.ref a0)::(af ρ1 σ++(ios.zip vs++l))):=ak.cons _
   exact p1.trans (List.perm_middle.symm.trans (List.perm_middle.symm.append_left _))
  | exc C' p ios =>
   obtain⟨o0,this⟩:=made_exc er
   rw [this]
   rw [er]at h
   have h:∀ d H its,At T B H (aL as ios ρ1) σ (its++l)→pF T H C' p d its→W (.ref (T.cls C')) d σ H:=h
   intro d H' its hi s ei
   refine h d H' its (dC (as:=as) (os:=ios) (vs:=vs) (by simpa using hi) ⟨a1.ok,?_,a1.pr⟩ av) ei
   have s0:Sat T B H' (its++((o0,.ref a0)::(ios.zip vs++(af ρ1 σ++l)))):=s
   have s1:Sat T B H' (its++(ios.zip vs++(af ρ1 σ++l))):=ae.drop1 (s0.perm List.perm_middle)
   refine s1.perm ?_
   have p1:(its++(ios.zip vs++(af ρ1 σ++l))).Perm (its++(af ρ1 σ++(ios.zip vs++l))):=ak.append_left _
   have p2:(its++(af ρ1 σ++(ios.zip vs++l))).Perm (af ρ1 σ++(its++(ios.zip vs++l))):=ak
   exact p1.trans (p2.trans (ak.append_left _))
theorem Cv (M:Mk X.K (T.cls C) f) (F:FnOk X.prog X.w X.K X.mg X.base (L2.CX X.prog X.w) k f fd ps (bD T run)) (hΦ:Φ fi=⟨n,run⟩) (hr:Room (k+1) X.A) (hb:tN X.K fd ps (sp.length+1) ks (.inl 0::g) dv) (hdv:∀ d,.inr d∈g→∀ own hp,Dr T own hp d (dv d)) (hlen:sk.length=ks.length)
  (hg:Gl X x) (hm:X.mg x=some (.ref (T.cls C))) (tk:Takes X W) (hp:PA X es (tJ T B Φ W sp)) (hkw:PK X kws (tJ T B Φ W sk)) (h0:es = []→sp = []) (h1:uN X es)
  (hall:(backToKw pos (keywordEach kws X.env)).all (·.1.isSome)=true) (hks:(backToKw pos (keywordEach kws X.env)).filterMap (·.1)=ks) (hpl:((backTo pos (starEach es X.env)).any (·.1)||(backToKw pos (keywordEach kws X.env)).any (·.1.isNone))=false)
  (hdb:(x == ("__debug__" : Str))=false):PE X (.Call (.Name x p) es kws pos) (tE T B Φ W (.make C fi (sp++sk) (.inl 0::g))):=by
 refine⟨fun pins s σ H Q I ⟨ρ,l,a,h⟩=>?_⟩
 rw [ev,hΦ]at h
 have h:=h.rg.bind
 refine wpAny_Call_Name_kw (ld_glob I hg hm ?_ hdb)
 refine vS hp hkw M.kp h0 h1 hall hks hpl I a h fun as ρ' us ws s1 vs H1 kk I1 r l1 l2 a1 av=>?_
 obtain⟨as',e,kk⟩:=kk.bnd
 rw [arr]at e
 have e0:((Arg.val (.obj C [] [])::as)[0]?:Option Arg)=some (.val (.obj C [] [])):=rfl
 rw [e0]at e
 cases e1:arr (.val (.obj C [] [])::as) g with
 | none=>rw [e1]at e; cases e
 | some as2 =>
  rw [e1]at e
  injection e with e
  subst e
  refine y3 (E:=WE W) M F hr hb (passAt tk σ) I1 r l1 (l2.trans hlen) fun a0 dx n1 n2 ne=>?_
  -- the new object at hand
  have sd:ae T B (upd H1 dx (.own a0)) [] (af ρ' σ++(ay as vs++l)):=(ae.alloc a1.sat n2).letgo
  have n1':(upd H1 dx (.own a0)) a0=none:=by rw [upd_ne (Ne.symm ne)]; exact n1
  have sx:=ae.alloc (ob:=.ins (T.cls C) dx []) sd n1'
  have so:Sat T B (upd (upd H1 dx (.own a0)) a0 (.ins (T.cls C) dx [])) ((.obj C [] [],.ref a0)::(af ρ' σ++(ay as vs++l))):=ae.closeO (os:=[]) (vs:=[]) sx upd_same rfl rfl
  have a2:At T B (upd (upd H1 dx (.own a0)) a0 (.ins (T.cls C) dx [])) ρ' σ (ay (.val (.obj C [] [])::as) (.ref a0::vs)++l):=⟨a1.ok,so.perm (List.perm_middle.symm),a1.pr⟩
  have ea:arr (.val (.obj C [] [])::as) (.inl 0::g)=some (.val (.obj C [] [])::as2):=by rw [arr,e0,e1]
  obtain⟨xs,ex,a3,av3⟩:=yf hb.nd (fun d hd=>hdv d ((List.mem_cons.mp hd).resolve_left (fun z=>nomatch z))) a2 (show bY σ (.val (.obj C [] [])::as) (.ref a0::vs)from⟨trivial,av⟩) ea
  refine⟨xs,ex,?_⟩
  rw [jT]at ex
  have e2:((V.ref a0::vs)[0]?:Option V)=some (.ref a0):=rfl
  rw [e2]at ex
  cases e3:jT dv (.ref a0::vs) g with
  | none=>rw [e3]at ex; cases ex
  | some xs2 =>
   rw [e3]at ex
   injection ex with ex
   subst ex
   exact Cu (n:=n) kk a3 av3.2
end
def vT (T:Tab):qv→Value
 | .bool=>.type "bool"
 | .int=>.type "int"
 | .str=>.type "str"
 | .list=>.type "list"
 | .tuple=>.type "tuple"
 | .dict=>.type "dict"
 | .verr=>.type "ValueError"
 | .cls C=>.ref (T.cls C)
end
end PV
namespace PV
open PySem PySem.Spec PyProof.Rows L2
structure p8 (K:PySem.W.Frag) (T:Tab) (cs:List Nat):Prop where
 ci:∀ C∈cs,20≤C→EL K (T.cls C)
 cx:∀ C∈cs,C < 20→ExcC K (T.cls C)
 kb:∀ C∈cs,∀ b∈iS,PySem.W.kitOne K (.ref (T.cls C)) (.type b)=some (decide (C < 20)&&b == "ValueError")
 kc:∀ C∈cs,∀ a∈nu,PySem.W.kitOne K (.type a) (.ref (T.cls C))=some false
 cc:∀ C∈cs,∀ C'∈cs,PySem.W.kitOne K (.ref (T.cls C)) (.ref (T.cls C'))=some (BS C C')
def tyName:qv→String
 | .bool => "bool" | .int => "int" | .str => "str" | .list => "list" | .tuple => "tuple" | .dict => "dict" | .verr => "ValueError" | .cls _ => ""
def sG (T:Tab):qv→V
 | .cls C=>.ref (T.cls C)
 | t=>.ty (tyName t)
def Cw (cs:List Nat):qv→Bool
 | .cls C=>decide (C∈cs)
 | _=>true
theorem yi (T:Tab) (t:qv):ClsV (sG T t) (vT T t):=by
 cases t <;> first | exact .own _ | exact .ty _
theorem vU (T:Tab):∀ ts:List qv,Paired ClsV (ts.map (sG T)) (ts.map (vT T))
 | []=>.nil
 | t::r=>.cons (yi T t) (vU T r)
theorem ER:∀ a∈nu,∀ b∈iS,kitB a b=some (a == b||(a == "bool" && b == "int")):=by
 have h:(nu.all fun a=>iS.all fun b=>kitB a b == some (a == b||(a == "bool" && b == "int")))=true:=by decide +kernel
 intro a ha b hb
 exact eq_of_beq (List.all_eq_true.mp (List.all_eq_true.mp h a ha) b hb)
theorem Au {C C':Nat} (h:20≤C):BS C C'=(C' == C):=by
 have e:decide (C < 20)=false:=decide_eq_false (by omega)
 show(C == C'||(C' == 0&&decide (C < 20)))=_
 rw [e,Bool.and_false,Bool.or_false]
 by_cases q:C=C'
 ·subst q; rfl
 ·rw [beq_false_of_ne q,beq_false_of_ne (Ne.symm q)]
set_option maxHeartbeats 4000000 in
theorem yj {K:PySem.W.Frag}{T:Tab}{cs:List Nat} (F:p8 K T cs) {d:D}{t:qv} (hx:∀ C p,d = .exc C p→C∈cs∧C < 20∧p.length≠3) (ho:∀ C ns vs,d = .obj C ns vs→C∈cs∧20≤C) (ht:Cw cs t=true):PySem.W.kitOne K (tyV T d) (vT T t)=some (fD d t):=by
 have b:∀ (a b:String),a∈nu→b∈iS→PySem.W.kitOne K (.type a) (.type b)=some (a == b||(a == "bool" && b == "int")):=fun a b ha hb=>kit_ty (ER a ha b hb)
 cases d with
 | exc C p =>
  obtain⟨hc,hl,_⟩:=hx C p rfl
  have q:∀ b∈iS,PySem.W.kitOne K (.ref (T.cls C)) (.type b)=some (b == "ValueError"):=fun b hb=>(F.kb C hc b hb).trans (by rw [show decide (C < 20)=true from decide_eq_true hl,Bool.true_and])
  cases t with
  | cls C'=>exact F.cc C hc C' (of_decide_eq_true ht)
  | bool=>exact q "bool" (by decide)
  | int=>exact q "int" (by decide)
  | str=>exact q "str" (by decide)
  | list=>exact q "list" (by decide)
  | tuple=>exact q "tuple" (by decide)
  | dict=>exact q "dict" (by decide)
  | verr=>exact q "ValueError" (by decide)
 | obj C ns vs =>
  obtain⟨hc,hl⟩:=ho C ns vs rfl
  have q:∀ b∈iS,PySem.W.kitOne K (.ref (T.cls C)) (.type b)=some false:=fun b hb=>(F.kb C hc b hb).trans (by rw [show decide (C < 20)=false from decide_eq_false (by omega),Bool.false_and])
  cases t with
  | cls C' =>
   have e:=F.cc C hc C' (of_decide_eq_true ht)
   rw [Au hl]at e
   exact e
  | bool=>exact q "bool" (by decide)
  | int=>exact q "int" (by decide)
  | str=>exact q "str" (by decide)
  | list=>exact q "list" (by decide)
  | tuple=>exact q "tuple" (by decide)
  | dict=>exact q "dict" (by decide)
  | verr=>exact q "ValueError" (by decide)
 | non=>cases t <;> first | exact F.kc _ (of_decide_eq_true ht) _ (by decide) | exact b "NoneType" _ (by decide) (by decide)
 | bl _=>cases t <;> first | exact F.kc _ (of_decide_eq_true ht) _ (by decide) | exact b "bool" _ (by decide) (by decide)
 | int _=>cases t <;> first | exact F.kc _ (of_decide_eq_true ht) _ (by decide) | exact b "int" _ (by decide) (by decide)
 | str _=>cases t <;> first | exact F.kc _ (of_decide_eq_true ht) _ (by decide) | exact b "str" _ (by decide) (by decide)
 | tup _=>cases t <;> first | exact F.kc _ (of_decide_eq_true ht) _ (by decide) | exact b "tuple" _ (by decide) (by decide)
 | lst _=>cases t <;> first | exact F.kc _ (of_decide_eq_true ht) _ (by decide) | exact b "list" _ (by decide) (by decide)
 | dic _ _=>cases t <;> first | exact F.kc _ (of_decide_eq_true ht) _ (by decide) | exact b "dict" _ (by decide) (by decide)
theorem yk {K:PySem.W.Frag}{T:Tab}{cs:List Nat} (F:p8 K T cs) {d:D} (hx:∀ C p,d = .exc C p→C∈cs∧C < 20∧p.length≠3) (ho:∀ C ns vs,d = .obj C ns vs→C∈cs∧20≤C):∀ {ts:List qv},ts.all (Cw cs)=true→PySem.W.kitAny K (tyV T d) (ts.map (vT T))=some (ts.any (fD d))
 | [],_=>rfl
 | t::ts,h=>by
  rw [List.all_cons,Bool.and_eq_true]at h
  have ih:=yk F hx ho h.2
  refine kitAny_cons (yj F hx ho h.1) (fun hb=>?_) fun hb=>?_
  ·rw [List.any_cons,hb,Bool.false_or]; exact ih
  ·rw [List.any_cons,hb,Bool.true_or]
section
variable {T:Tab}{B:Base}{Φ:cW}{W:WX}{X:Cx}{σ:L2.St}{l m:List aW}{H:Hp}{ρ:Env}{pins:List (Addr×Obj)}{s:Shared}{e c o:Expr}{es:List Expr}{p pos apos cpos:Pos}{sa sb:SE}{ses:List SE}{cs:List Nat}
theorem yl {ts:List qv}{d:D}{r:O} (e:ji cs ts [d]=some r):(∀ C p,d = .exc C p→C∈cs∧C < 20∧p.length≠3)∧(∀ C ns vs,d = .obj C ns vs→C∈cs∧20≤C)∧r = .d (.bl (ts.any (fD d))):=by
 cases d with
 | exc C p =>
  have e:(if C∈cs∧C < 20∧p.length≠3 then some (O.d (.bl (ts.any (fD (.exc C p)))))else none)=some r:=e
  by_cases h:C∈cs∧C < 20∧p.length≠3
  ·rw [if_pos h]at e
   injection e with e
   exact⟨fun C' p' z=>by injection z with z z'; subst z z'; exact h,(fun _ _ _ z=>nomatch z),e.symm⟩
  ·rw [if_neg h]at e; cases e
 | obj C ns vs =>
  have e:(if C∈cs∧20≤C then some (O.d (.bl (ts.any (fD (.obj C ns vs)))))else none)=some r:=e
  by_cases h:C∈cs∧20≤C
  ·rw [if_pos h]at e
   injection e with e
   exact⟨(fun _ _ z=>nomatch z),fun C' ns' vs' z=>by injection z with z; subst z; exact h,e.symm⟩
  ·rw [if_neg h]at e; cases e
 | _=>injection e with e; exact⟨(fun _ _ z=>nomatch z),(fun _ _ _ z=>nomatch z),e.symm⟩
theorem l5 {t:qv} (hK:X.K=T.K) (F:p8 X.K T cs) (ht:Cw cs t=true) (hg:Gl X "isinstance") (hm:X.mg "isinstance" = none) (ha:PE X e (tA T B Φ W sa)) (hc:PE X c (tC (sG T t)))
  (h1:starEach [e,c] X.env=(false,eval e X.env)::starEach [c] X.env) (h2:starEach [c] X.env=(false,eval c X.env)::starEach [] X.env) (hpl:(backTo pos (starEach [c] X.env)).any (·.1)=false) :
  PE X (.Call (.Name "isinstance" p) [e,c] [] pos) (tE T B Φ W (.isa cs [t] sa)):=by
 have cr:CallR X (.builtin "isinstance") (fun xs H Q=>∃ x,xs = [x,sG T t]∧dW T B (ji cs [t]) false [x] H Q):=by
  intro pins s σ H xs us Q I r h
  obtain⟨x,rfl,h⟩:=h
  obtain⟨o,l,r0,sa,ee,q⟩:=oI h
  obtain⟨u1,u2,rfl,r1,r2⟩:=vals2 r
  have:=(yi T t).eq r2
  subst this
  obtain⟨g1,g2,rfl⟩:=yl ee
  obtain⟨P,Z,pp,hx⟩:=As hK I r1 sa (fun C ns xs z=>F.ci C (g2 C ns xs z).1 (g2 C ns xs z).2) fun C p z=>⟨F.cx C (g1 C p z).1 (g1 C p z).2.1,(g1 C p z).2.2⟩
  refine PySem.W.kia_one Z I.kIn pp (yj F g1 g2 ht) hx fun tk=>⟨.bl (fD o.frz t),H,I.tok tk,rfl,?_⟩
  have:=q (.bl ([t].any (fD o.frz))) H sa.bl
  rw [List.any_cons,List.any_nil,Bool.or_false]at this
  exact this
 refine(pe_callB cr hg hm (by decide +kernel) (pa_cons ha (pa_cons hc pa_nil h2) h1) (by decide) (by decide) h1 hpl).pv fun σ H Q ⟨ρ,l,a,h⟩=>?_
 rw [ev]at h
 exact⟨ρ,l,a,h.rg.bind.mono fun y ρ1 k v H1 a1 av=>⟨v,rfl,iD (as:=[y]) k (a1.perm jv) ⟨av,trivial⟩⟩⟩
def ES (T:Tab):List qv→TA
 | []=>tNil
 | t::r=>tCons (tC (sG T t)) (ES T r)
theorem vW {T:Tab}{σ:L2.St}{H:Hp}:∀ {ts:List qv}{Q:List V→Hp→Prop},Q (ts.map (sG T)) H→ES T ts σ H Q
 | [],Q,h=>h
 | t::r,Q,h=>vW (ts:=r) h
theorem ET {ts:List qv}{cs':List Expr}{kk:Nat}{tpos:Pos} (hK:X.K=T.K) (F:p8 X.K T cs) (ht:ts.all (Cw cs)=true) (hz:ts.length≤100) (hg:Gl X "isinstance") (hm:X.mg "isinstance" = none) (ha:PE X e (tA T B Φ W sa)) (hc:PA X cs' (ES T ts))
  (h1:starEach [e,.Tuple cs' kk tpos] X.env=(false,eval e X.env)::starEach [.Tuple cs' kk tpos] X.env) (h2:starEach [.Tuple cs' kk tpos] X.env=(false,eval (.Tuple cs' kk tpos) X.env)::starEach [] X.env) (hpl:(backTo pos (starEach [.Tuple cs' kk tpos] X.env)).any (·.1)=false) :
  PE X (.Call (.Name "isinstance" p) [e,.Tuple cs' kk tpos] [] pos) (tE T B Φ W (.isa cs ts sa)):=by
 have cr:CallR X (.builtin "isinstance") (fun xs H Q=>∃ x tp,xs = [x,.ref tp]∧H tp=some (.tup (ts.map (sG T)))∧dW T B (ji cs ts) false [x] H Q):=by
  intro pins s σ H xs us Q I r h
  obtain⟨x,tp,rfl,hT,h⟩:=h
  obtain⟨o,l,r0,sa,ee,q⟩:=oI h
  obtain⟨u1,u2,rfl,r1,r2⟩:=vals2 r
  cases (show u2=Value.ref tp from r2)
  obtain⟨g1,g2,rfl⟩:=yl ee
  obtain⟨P,Z,pp,hx⟩:=As hK I r1 sa (fun C ns xs z=>F.ci C (g2 C ns xs z).1 (g2 C ns xs z).2) fun C p z=>⟨F.cx C (g1 C p z).1 (g1 C p z).2.1,(g1 C p z).2.2⟩
  obtain⟨_,its,rv,o',h1,h2,n,h3⟩:=(show ObjOk X.prog X.w H s.heap tp (.tup (ts.map (sG T)))from I.hok tp _ hT)
  have pr:Paired ClsV (ts.map (sG T)) (ts.map (vT T)):=vU T ts
  have e3:=ClsV.all pr rv
  subst e3
  obtain⟨oc,od,dt,sl⟩:=o'
  simp only at h2 h3
  subst h2 h3
  exact PySem.W.kia_tup Z I.kIn pp h1 (yk F g1 g2 ht) hx fun tk=>⟨.bl (ts.any (fD o.frz)),H,I.tok tk,rfl,q _ _ sa.bl⟩
 refine(pe_callB cr hg hm (by decide +kernel) (pa_cons ha (pa_cons (pe_tup hc) pa_nil h2) h1) (by decide) (by decide) h1 hpl).pv fun σ H Q ⟨ρ,l,a,h⟩=>?_
 rw [ev]at h
 refine⟨ρ,l,a,h.rg.bind.mono fun y ρ1 k v H1 a1 av=>vW ⟨?_,fun tp hp=>⟨v,tp,rfl,upd_same,?_⟩⟩⟩
 ·rw [List.length_map,sizeLine_eq]; omega
 ·have a2:At T B (upd H1 tp (.tup (ts.map (sG T)))) ρ1 σ (ao y v++l):=⟨a1.ok,(a1.sat.alloc hp).letgo,a1.pr⟩
  exact iD (as:=[y]) k (a2.perm jv) ⟨av,trivial⟩
theorem EU {k:Mt}{Ty id:String}{nm:Str}{b1:Expr} (pa:PlainAttrs Ty) (slot:Slot Ty nm id) (hty:typeOf (.builtin id)=pure (.type "method_descriptor")) (hm:MtR X id (fun x xs H Q=>dW T B (zL k) true (x::xs) H Q))
  (ht:∀ d o v H m,o.frz=d→iV k d=some ()→Sat T B H ((o,v)::m)→L2.tyV X.K Ty v H) (ho:PE X o (tA T B Φ W sa)) (ha:PA X (b1::es) (tJ T B Φ W ses))
  (hbase:attributeBase o nm X.env (eval o X.env)=eval o X.env)
  (hfew:((backTo cpos (starEach (b1::es) X.env)).all (fun x=>! x.1)&&(backToKw cpos (keywordEach [] X.env)).all (fun x=>x.1.isSome)
   && decide ((b1::es).length+([]:List Keyword).length+(if([]:List Keyword).isEmpty then 0 else 1) < 30))=true)
  (hline:(apos.endLine == cpos.line)=true) (hs:starEach (b1::es) X.env=(false,eval b1 X.env)::starEach es X.env) (hplain:(backTo cpos (starEach es X.env)).any (·.1)=false) :
  PE X (.Call (.Attribute o nm apos) (b1::es) [] cpos) (tE T B Φ W (.mt k sa ses)) :=
 (pe_bm pa slot hty hm ho ha hbase hfew hline hs hplain).pv fun σ H Q ⟨ρ,l,a,h⟩=>by
  rw [ev]at h
  refine⟨ρ,l,a,h.rg.bind.mono fun y ρ1 k1 v H1 a1 av=>?_⟩
  obtain⟨o',eo,k1⟩:=k1.bnd
  obtain⟨uu,em,k1⟩:=k1.bnd
  obtain⟨m,sm⟩:=yg a1 av eo
  refine⟨ht _ o' v H1 m rfl em sm,ρ1,ao y v++l,a1,RG.more (k1.bind.mono fun as ρ2 k2 vs H2 a2 avs=>?_)⟩
  refine iD (as:=y::as) (vs:=v::vs) k2 (a2.perm ?_) ⟨av,avs⟩
  show(ay as vs++(ao y v++l)).Perm ((ao y v++ay as vs)++l)
  rw [List.append_assoc]
  exact ak
theorem mE {own:Addr→Prop}{h:Hp}:∀ {xs:List D}{ys:List Str}{vs:List V},fL xs=some ys→lP T own h xs vs→vs=ys.map V.str
 | [],ys,vs,e,d=>by
  injection e with e; subst e
  exact d
 | x::xs,ys,vs,e,d=>by
  cases x with
  | str z =>
   have e:(fL xs).map (z :: ·)=some ys:=e
   obtain⟨r,e1,e2⟩:=Option.map_eq_some_iff.mp e
   subst e2
   obtain⟨v,w,rfl,d1,d2⟩:=d
   have d1:v = .str z:=d1
   rw [d1,mE e1 d2]; rfl
  | _=>cases e
theorem Av (hK:X.K=T.K):MtR X "str.join" (fun x xs H Q=>dW T B (zL .join) true (x::xs) H Q):=by
 intro pins s σ H x xs v us Q I rx rs h
 obtain⟨os,l,r,hl,sa,e,q⟩:=h
 match os,hl with
 | o::os',hl =>
  match xs,os',hl with
  | [],[],_=>cases e1:o.frz <;> simp only [List.map_cons,List.map_nil,e1]at e <;> cases e
  | [y],[p],_ =>
   have sa:Sat T B H ((o,x)::(p,y)::l):=sa
   cases e1:o.frz with
   | str a =>
    cases e2:p.frz with
    | lst zs =>
     simp only [List.map_cons,List.map_nil,e1,e2]at e
     have e:(match fL zs with
      | some ys=>if(ys.map (·.length)).sum+ys.length * a.length≤16777216 then some (O.d (.str (Txt.join a ys)))else none
      | none=>none)=some r:=e
     cases e3:fL zs with
     | none=>rw [e3]at e; cases e
     | some ys =>
      rw [e3]at e
      have e:(if(ys.map (·.length)).sum+ys.length * a.length≤16777216 then some (O.d (.str (Txt.join a ys)))else none)=some r:=e
      by_cases hz:(ys.map (·.length)).sum+ys.length * a.length≤16777216
      ·rw [if_pos hz]at e
       injection e with e
       subst e
       have d1:=ae.read sa
       rw [e1]at d1
       have d1:x = .str a:=d1
       subst d1
       have s2:Sat T B H ((p,y)::(o,.str a)::l):=sa.perm (.swap _ _ _)
       have d2:=ae.read s2
       obtain⟨b,vs,rfl,hb,_,_⟩:=Sat.kidsL s2 e2
       have hv:vs=ys.map V.str:=by
        rw [e2]at d2
        obtain⟨b',vs',eb,h1,h2⟩:=d2
        injection eb with eb
        subst eb
        have hv':=mE e3 h2
        have hb':SqL T.K H b vs':=by
         rcases h1 with⟨_,h1⟩ | h1
         ·exact .inl (ny s2 (fun _ _ z=>nomatch z) h1)
         ·exact .inr h1
        rw [← hv']
        rw [← hK]at hb hb'
        exact I.list_inj hb hb'
       subst hv
       refine mt_join pins s σ H _ _ v us Q I rx rs ⟨a,b,ys,rfl,rfl,.inl (by rw [hK]; exact hb),hz,q _ _ ?_⟩
       have s3:ae T B H [] ((O.shal p,V.ref b)::(o,.str a)::l):=eX s2
       have s4:ae T B H [] ((O.shal o,V.str a)::(O.shal p,V.ref b)::l):=eX (s3.perm (.swap _ _ _))
       exact s4.str
      ·rw [if_neg hz]at e; cases e
    | _=>simp only [List.map_cons,List.map_nil,e1,e2]at e; cases e
   | _=>simp only [List.map_cons,List.map_nil,e1]at e; cases e
  | _::_::_,p::_::_,_ =>
   cases e1:o.frz <;> cases e2:p.frz <;> simp only [List.map_cons,e1,e2]at e <;> cases e
  | [],_::_,hl=>simp at hl
  | _::_,[],hl=>simp at hl
  | [_],_::_::_,hl=>simp at hl
  | _::_::_,[_],hl=>simp at hl
theorem m_split (hK:X.K=T.K):MtR X "str.split" (fun x xs H Q=>dW T B (zL .split) true (x::xs) H Q):=by
 intro pins s σ H x xs v us Q I rx rs h
 obtain⟨os,l,r,hl,sa,e,q⟩:=h
 match os,hl with
 | o::os',hl =>
  match xs,os',hl with
  | [],[],_=>cases e1:o.frz <;> simp only [List.map_cons,List.map_nil,e1]at e <;> cases e
  | [y],[p],_ =>
   have sa:Sat T B H ((o,x)::(p,y)::l):=sa
   cases e1:o.frz with
   | str a =>
    cases e2:p.frz with
    | str b =>
     simp only [List.map_cons,List.map_nil,e1,e2]at e
     have e:(if(b.length == 0)=false∧a.length+2≤sizeLine then some (O.lst ((Txt.split a b).map fun x=>.d (.str x)))else none)=some r:=e
     by_cases hz:(b.length == 0)=false∧a.length+2≤sizeLine
     ·rw [if_pos hz]at e
      injection e with e
      subst e
      have d1:=ae.read sa
      rw [e1]at d1
      have d1:x = .str a:=d1
      subst d1
      have s2:Sat T B H ((p,y)::(o,.str a)::l):=sa.perm (.swap _ _ _)
      have d2:=ae.read s2
      rw [e2]at d2
      have d2:y = .str b:=d2
      subst d2
      refine mt_split pins s σ H _ _ v us Q I rx rs ⟨a,b,rfl,rfl,hz.1,hz.2,fun pp hp=>q _ _ ?_⟩
      have s3:ae T B H [] ((O.shal p,V.str b)::(o,.str a)::l):=eX s2
      have s4:ae T B H [] ((O.shal o,V.str a)::(O.shal p,V.str b)::l):=eX (s3.perm (.swap _ _ _))
      refine Sat.newL (os:=(Txt.split a b).map fun x=>.d (.str x)) ?_ (by simp) hp
      have:∀ (zs:List Str) {m:List aW},ae T B H [] m→ae T B H [] ((zs.map fun x=>O.d (.str x)).zip (zs.map V.str)++m):=by
       intro zs
       induction zs with
       | nil=>intro m h; exact h
       | cons z zs ih=>intro m h; exact(ih h).str
      exact this _ s4
     ·rw [if_neg hz]at e; cases e
    | _=>simp only [List.map_cons,List.map_nil,e1,e2]at e; cases e
   | _=>simp only [List.map_cons,List.map_nil,e1]at e; cases e
  | _::_::_,p::_::_,_ =>
   cases e1:o.frz <;> cases e2:p.frz <;> simp only [List.map_cons,e1,e2]at e <;> cases e
  | [],_::_,hl=>simp at hl
  | _::_,[],hl=>simp at hl
  | [_],_::_::_,hl=>simp at hl
  | _::_::_,[_],hl=>simp at hl
theorem Aw {d:D}{o:O}{v:V}{H:Hp}{m:List aW} (k:Mt) (hk:k = .join∨k = .split) (ed:o.frz=d) (e:iV k d=some ()) (s:Sat T B H ((o,v)::m)):L2.tyV X.K "str" v H:=by
 have r:=ae.read s
 rw [ed]at r
 rcases hk with rfl | rfl
 ·cases d <;> first | (cases (r:v = .str _); exact rfl) | cases e
 ·cases d <;> first | (cases (r:v = .str _); exact rfl) | cases e
theorem ae.drop2' {hs:List Addr}{p q:aW} (s:ae T B H hs (p::q::l)):ae T B H hs (p::l):=(ae.drop1 (o:=q.1) (v:=q.2) (s.perm (.swap _ _ _)))
theorem qX {f:Str}{y:V}{v:O}:∀ {ns:List Str}{os:List O}{ws:List V},os.length=ns.length→ns.length=ws.length→∃ ws',putF f y (ns.zip ws)=(bA f v ns os).1.zip ws'∧(bA f v ns os).1.length=ws'.length∧(bA f v ns os).2.length=ws'.length ∧
  ∀ {T:Tab}{B:Base}{H:Hp}{hs:List Addr}{l:List aW},ae T B H hs ((v,y)::(os.zip ws++l))→ae T B H hs ((bA f v ns os).2.zip ws'++l)
 | [],[],[],_,_=>⟨[y],rfl,rfl,rfl,fun s=>s⟩
 | [],_::_,_,h,_=>by simp at h
 | _::_,[],_,h,_=>by simp at h
 | [],[],_::_,_,h=>by simp at h
 | _::_,_::_,[],_,h=>by simp at h
 | n::ns,o::os,w::ws,h1,h2=>by
  by_cases hn:n=f
  ·refine⟨y::ws,?_,?_,?_,fun {T B H hs l} s=>?_⟩
   ·show(if n=f then(n,y)::ns.zip ws else(n,w)::putF f y (ns.zip ws))=_
    unfold bA
    rw [if_pos hn,if_pos hn]; rfl
   ·unfold bA; rw [if_pos hn]; simpa using h2
   ·unfold bA; rw [if_pos hn]; simp at h1 h2 ⊢; omega
   ·unfold bA
    rw [if_pos hn]
    have s:ae T B H hs ((v,y)::(o,w)::(os.zip ws++l)):=s
    exact s.drop2'
  ·obtain⟨ws',e1,e2,e3,k⟩:=qX (f:=f) (y:=y) (v:=v) (ns:=ns) (os:=os) (ws:=ws) (by simpa using h1) (by simpa using h2)
   refine⟨w::ws',?_,?_,?_,fun {T B H hs l} s=>?_⟩
   ·show(if n=f then(n,y)::ns.zip ws else(n,w)::putF f y (ns.zip ws))=_
    unfold bA
    rw [if_neg hn,if_neg hn,e1]; rfl
   ·unfold bA; rw [if_neg hn]; simpa using e2
   ·unfold bA; rw [if_neg hn]; simpa using e3
   ·unfold bA
    rw [if_neg hn]
    have s:ae T B H hs ((v,y)::(o,w)::(os.zip ws++l)):=s
    have s1:ae T B H hs ((v,y)::(os.zip ws++(o,w)::l)):=s.perm ((List.perm_middle.symm).cons _)
    have s2:=k s1
    exact s2.perm List.perm_middle
theorem oP {i C:Nat}{f x:Str}{pos' p1:Pos} (cl:Cls X.K (T.cls C)∧NoAttr X.K (T.cls C) f) (hK:X.K=T.K) (he:PE X e (tE T B Φ W sa)) (hN:X.N[i]?=some x) (hv:Vis X.env.scope x) (hd:(x == ("__debug__" : Str))=false) (hc:(x == ("__classdict__" : Str))=false)
  (hs:swapsWith e (some (.Attribute (.Name x p1) f pos')) pos.line X.env=pure false):PS X (.Assign [.Attribute (.Name x p1) f pos'] e pos) (tS T B Φ W (.fld i C f sa)) :=
 (ps_fld (pe_var hN hv hd hc) he hs).pv fun D σ H ⟨ρ,l,at_,h⟩=>by
  rw [bZ]at h
  refine⟨ρ,l,at_,RG.rp (h.rg.mono fun ov ρ1 k1 w H1 a1=>?_)⟩
  obtain⟨o,eo,k1⟩:=k1.bnd
  obtain⟨o',es,k2⟩:=k1.bnd
  have k2:∀ σ H,At T B H (ρ1.set i (some o')) σ l→D.nx σ H:=k2
  obtain⟨v,evi⟩:=a1.ok.at eo
  have a0:=a1.take eo evi
  cases o with
  | obj C' ns os =>
   have es0:(if C'=C∧ns.length < 1000 then some (let r:=bA f ov ns os; O.obj C' r.1 r.2)else none)=some o':=es
   by_cases hC:C'=C∧ns.length < 1000
   ·rw [if_pos hC]at es0
    injection es0 with es0
    obtain⟨rfl,hlen⟩:=hC
    have s1:Sat T B H1 ((.obj C' ns os,v)::((ov,w)::(af (ρ1.set i none) σ++l))):=a0.sat.perm (List.perm_middle.trans (List.perm_middle.cons _))
    obtain⟨b,dx,ws,rfl,hb,hn,hl,s2⟩:=ae.openO s1
    refine⟨.ref b,evi,b,T.cls C',dx,ns.zip ws,rfl,hb,cl.1,cl.2,by rw [List.length_zip]; omega,?_⟩
    obtain⟨ws',e1,e2,e3,k⟩:=qX (f:=f) (y:=w) (v:=ov) (ns:=ns) (os:=os) (ws:=ws) (by omega) hn
    rw [e1]
    have s3:ae T B H1 [b] ((bA f ov ns os).2.zip ws'++(af (ρ1.set i none) σ++l)):=k (s2.perm List.perm_middle)
    have ne:(∀ xs,H1 b≠some (.tup xs))∧(∀ ob u,H1 b≠some (.frz ob u))∧∀ g,H1 b≠some (.ext g):=⟨(fun xs z=>by rw [hb]at z; cases z),(fun ob u z=>by rw [hb]at z; cases z),fun g z=>by rw [hb]at z; cases z⟩
    have s4:Sat T B (upd H1 b (.ins (T.cls C') dx ((bA f ov ns os).1.zip ws'))) ((.obj C' (bA f ov ns os).1 (bA f ov ns os).2,.ref b)::(af (ρ1.set i none) σ++l)):=ae.closeO (s3.write ne.1 ne.2.1 ne.2.2) upd_same e2 e3
    have a5:At T B (upd H1 b (.ins (T.cls C') dx ((bA f ov ns os).1.zip ws'))) (ρ1.set i none) σ ((o',.ref b)::l):=⟨a0.ok,by rw [← es0]; exact s4.perm List.perm_middle.symm,a0.pr⟩
    have hi2:i < (ρ1.set i none).length:=by rw [List.length_set]; exact iJ eo
    have t:=a5.fill (i:=i) (by unfold aq; rw [List.getElem?_set_self (iJ eo)]; rfl) hi2 evi
    rw [List.set_set]at t
    exact k2 σ _ t
   ·rw [if_neg hC]at es0; cases es0
  | _=>cases es
end
end PV
namespace PV
open PySem PySem.Spec PyProof.Rows L2
def ip:List (SE×SE)→List SE
 | []=>[]
 | (k,v)::r=>k::v::ip r
def flatV:List (V×V)→List V
 | []=>[]
 | (k,v)::r=>k::v::flatV r
def J2 (T:Tab) (B:Base) (Φ:cW) (W:WX) (kvs:List (SE×SE)):List (TE×TE):=kvs.map fun p=>(tE T B Φ W p.1,tE T B Φ W p.2)
section
variable {T:Tab}{B:Base}{Φ:cW}{W:WX}{X:Cx}{σ:L2.St}{l m:List aW}{H:Hp}{ρ:Env}{pins:List (Addr×Obj)}{s:Shared}{e c o:Expr}{es:List Expr}{p pos apos cpos:Pos}{sa sb:SE}{ses:List SE}
theorem pairs_of:∀ {kvs:List (SE×SE)}{ρ:Env}{l:List aW}{H:Hp}{Q:List (V×V)→Hp→Prop},At T B H ρ σ l→RG T B W σ l (jR Φ (ip kvs) ρ) (fun os ρ'=>∀ ps H',os.length=(flatV ps).length→At T B H' ρ' σ (os.zip (flatV ps)++l)→Q ps H')→tPairs (J2 T B Φ W kvs) σ H Q
 | [],ρ,l,H,Q,a,h=>by
  have h:RG T B W σ l (jR Φ [] ρ) (fun os ρ'=>∀ ps H',os.length=(flatV ps).length→At T B H' ρ' σ (os.zip (flatV ps)++l)→Q ps H'):=h
  rw [jR]at h
  exact h [] H rfl a
 | (k,v)::r,ρ,l,H,Q,a,h=>by
  have h:RG T B W σ l (jR Φ (k::v::ip r) ρ) (fun os ρ'=>∀ ps H',os.length=(flatV ps).length→At T B H' ρ' σ (os.zip (flatV ps)++l)→Q ps H'):=h
  rw [jR]at h
  refine⟨ρ,l,a,RG.rp (h.bind.mono fun ok ρ1 h1 y H1 a1=>⟨ρ1,(ok,y)::l,a1,RG.rp (RG.more1 ?_)⟩)⟩
  rw [jR]at h1
  refine h1.bind.bind.mono fun ov ρ2 h2 z H2 a2=>pairs_of (kvs:=r) a2 (RG.more1 (RG.more1 ?_))
  refine h2.bind.mono fun os ρ3 h3 ps H3 hl a3=>?_
  have h3:∀ ps' H',(ok::ov::os).length=(flatV ps').length→At T B H' ρ3 σ ((ok::ov::os).zip (flatV ps')++l)→Q ps' H':=h3
  refine h3 ((y,z)::ps) H3 (by simp [flatV,hl]) (a3.perm ?_)
  show(os.zip (flatV ps)++(ov,z)::(ok,y)::l).Perm ((ok,y)::(ov,z)::(os.zip (flatV ps)++l))
  exact(List.perm_middle.trans (List.perm_middle.cons _)).trans (.swap _ _ _)
theorem tQ:∀ {os:List O}{ps:List (V×V)},os.length=(flatV ps).length→(os.zip (flatV ps)).Perm ((fM os).zip (ps.map (·.1))++(jk os).zip (ps.map (·.2)))∧(fM os).length=ps.length∧(jk os).length=ps.length
 | [],[],_=>⟨.refl _,rfl,rfl⟩
 | [],_::_,h=>by simp [flatV]at h
 | _::_,[],h=>by simp [flatV]at h
 | [_],_::_,h=>by simp [flatV]at h
 | a::b::os,(k,v)::ps,h=>by
  obtain⟨h1,h2,h3⟩:=tQ (os:=os) (ps:=ps) (by simpa [flatV]using h)
  refine⟨?_,by simp [fM,h2],by simp [jk,h3]⟩
  show((a,k)::(b,v)::os.zip (flatV ps)).Perm ((a,k)::((fM os).zip (ps.map (·.1))++(b,v)::(jk os).zip (ps.map (·.2))))
  exact((h1.cons _).trans List.perm_middle.symm).cons _
theorem putK_new {kvs:List (Key×V)}{k:Key}{v:V} (h:∀ kv∈kvs,kv.1≠k):putK kvs k v=kvs++[(k,v)]:=by
 unfold putK
 rw [if_neg]
 intro z
 obtain⟨kv,h1,h2⟩:=List.any_eq_true.mp z
 exact h kv h1 (of_decide_eq_true h2)
theorem pK:∀ {js:List Key}{ws:List V}{acc:List (Key×V)},js.length=ws.length→js.Nodup→(∀ j∈js,∀ kv∈acc,kv.1≠j)→(js.zip ws).foldl (fun acc kv=>putK acc kv.1 kv.2) acc=acc++js.zip ws
 | [],[],acc,_,_,_=>by simp
 | [],_::_,_,h,_,_=>by simp at h
 | _::_,[],_,h,_,_=>by simp at h
 | j::js,w::ws,acc,hl,nd,h=>by
  obtain⟨n1,n2⟩:=List.nodup_cons.mp nd
  show(js.zip ws).foldl _ (putK acc j w)=_
  rw [putK_new (h j List.mem_cons_self),pK (by simpa using hl) n2 ?_]
  ·simp
  ·intro i hi kv hkv
   rcases List.mem_append.mp hkv with hkv | hkv
   ·exact h i (List.mem_cons_of_mem _ hi) kv hkv
   ·rw [List.mem_singleton]at hkv
    subst hkv
    exact fun e=>n1 (by rw [show j=i from e]; exact hi)
theorem Cy {ks vs:List O}{o:O} (e:dicO ks vs=some o):∃ js,keysOf (ks.map O.frz)=some js∧js.Nodup∧js.length≤15∧o = .dic (ks.map O.frz) vs:=by
 unfold dicO at e
 cases e1:keysOf (ks.map O.frz)with
 | none=>rw [e1]at e; cases e
 | some js =>
  rw [e1]at e
  have e:(if js.Nodup∧js.length≤15 then some (O.dic (ks.map O.frz) vs)else none)=some o:=e
  by_cases h:js.Nodup∧js.length≤15
  ·rw [if_pos h]at e
   injection e with e
   exact⟨js,rfl,h.1,h.2,e.symm⟩
  ·rw [if_neg h]at e; cases e
theorem freezeL:∀ {ks:List O}{vs:List V}{hs:List Addr}{m:List aW},ae T B H hs (ks.zip vs++m)→ae T B H hs (((ks.map O.frz).map O.d).zip vs++m)
 | [],vs,hs,m,s=>s
 | k::ks,[],hs,m,s=>by simpa using s
 | k::ks,v::vs,hs,m,s=>by
  have s1:ae T B H hs ((k,v)::(ks.zip vs++m)):=s
  have s2:ae T B H hs (ks.zip vs++((.d k.frz,v)::m)):=s1.freeze.perm List.perm_middle.symm
  exact(freezeL s2).perm List.perm_middle
theorem EV:PE X (.Dict [] [] pos) (tE T B Φ W (.dct [])):=pe_dnewK.pv fun σ H Q ⟨ρ,l,a,h⟩=>by
 have h:RG T B W σ l ((jR Φ [] ρ).bind fun os ρ=>bnd (dicO (fM os) (jk os)) fun o=>.ok o ρ) fun o ρ=>∀ v H,At T B H ρ σ ((o,v)::l)→Q v H:=by rw [ev]at h; exact h.rg
 rw [jR]at h
 have h:∀ v H,At T B H ρ σ ((.dic [] [],v)::l)→Q v H:=h
 intro p hp
 exact h _ _ ⟨a.ok,((ae.alloc a.sat hp).closeD (ks:=[]) (os:=[]) (vs:=[]) (.inl ⟨[],rfl,upd_same,rfl⟩) rfl).perm List.perm_middle.symm,a.pr⟩
theorem vX:∀ {ps:List (V×V)}{js:List Key},ps.map (·.1)=js.map kV→js.length=ps.length→ps=(js.zip (ps.map (·.2))).map fun kv=>(kV kv.1,kv.2)
 | [],[],_,_=>rfl
 | [],_::_,_,h=>by simp at h
 | _::_,[],_,h=>by simp at h
 | (k,v)::ps,j::js,e,h=>by
  simp only [List.map_cons,List.cons.injEq]at e
  rw [List.map_cons,List.zip_cons_cons,List.map_cons,← vX e.2 (by simpa using h),← e.1]
theorem Cz {keys:List (Option Expr)}{values:List Expr}{trs:List (TE×TE)}{p:Addr}{Q:VK} (h:PPs X pos keys values trs) (hall:keys.all (·.isSome)=true) (hl:keys.length=values.length) (h0:keys≠[]) (h15:keys.length≤15) (I:Inv X pins σ H s) (hp:s.heap.objs.size=p)
  (q:tPairs trs σ (upd H p (.dK [])) fun ps H2=>H2 p=some (.dK [])∧∃ kvs:List (Key×V),ps=kvs.map (fun kv=>(kV kv.1,kv.2))∧kvs.length≤15∧Q (.ref p) (upd H2 p (.dK (mergeK [] kvs)))):wpAny (model X.prog X.w) X.A (eval (.Dict keys values pos) X.env) (EP X pins σ Q) X.xe s:=by
 subst hp
 have I1:=I.laid (a:=s.heap.objs.size) (o:=.dK []) (h':=s.heap.push {cls:=.type "dict",data:=.dict #[]}) (t':=s.toks) (fun _ _ q=>Heap.get?_push_of_some _ q) (Nat.le_refl _) (dk_empty s.heap I.big)
 refine wpAny_Dict_walk (knd:=mixKind X.prog X.w) hall hl h0 h15 (thn (h.run pins _ σ _ _ I1 q) fun ws s2 ⟨ps,H2,I2,rel,e,kvs,ep,lk,q2⟩=>?_)
 subst ep
 obtain⟨rs,c,rk⟩:=carries_of (P:=X.prog) (w:=X.w) rel
 obtain⟨z,hd,vs0,r0,dd⟩:=dk_of I2.hok e
 cases r0
 refine⟨rs,c,dd,fun h' dd' hs=>⟨.ref s.heap.objs.size,_,?_,rfl,q2⟩⟩
 have hz:(mergeK [] kvs).length≤sizeLine:=by
  have h1:=length_mergeK kvs []
  rw [List.length_nil]at h1
  rw [sizeLine_eq]; omega
 have he:∃ q,h'.get? s.heap.objs.size=some q:=let ⟨q,_,_,hq,_⟩:=dd'; ⟨q,hq⟩
 exact d_write I2 (by rw [e]; exact True.intro) hs he (dk_new hz hd (rk.merge .nil) dd')
theorem GD {kvs:List (SE×SE)}{keys:List (Option Expr)}{values:List Expr} (hp:∀ B':Base,B'.pr=B.pr→PPs X pos keys values (J2 T B' Φ W kvs)) (hall:keys.all (·.isSome)=true) (hl:keys.length=values.length) (h0:keys≠[]) (h15:keys.length≤15) :
  PE X (.Dict keys values pos) (tE T B Φ W (.dct (ip kvs))):=by
 refine⟨fun pins s σ H Q I h=>?_⟩
 obtain⟨ρ,l,a,h⟩:=h
 have h:RG T B W σ l ((jR Φ (ip kvs) ρ).bind fun os ρ=>bnd (dicO (fM os) (jk os)) fun o=>.ok o ρ) fun o ρ=>∀ v H,At T B H ρ σ ((o,v)::l)→Q v H:=by rw [ev]at h; exact h.rg
 generalize hsz:s.heap.objs.size=p
 have hn:H p=none:=by rw [← hsz]; exact I.hok.fresh (Nat.le_refl s.heap.objs.size)
 have s0:Sat T B (upd H p (.dK [])) ((.dic [] [],.ref p)::(af ρ σ++l)):=(ae.alloc a.sat hn).closeD (ks:=[]) (os:=[]) (vs:=[]) (.inl ⟨[],rfl,upd_same,rfl⟩) rfl
 obtain⟨B',Fl,own,hZ,hpr,_,hr,sa,back⟩:=Sat.call (args:=af ρ σ++l) (l:=[(.dic [] [],.ref p)]) (s0.perm (by
  rw [← List.singleton_append]
  exact List.perm_append_comm))
 have hF:p∈Fl:=by
  obtain⟨F1,F2,rfl,⟨b,vs,G,eb,e1,_⟩,_⟩:=hr
  injection eb with eb
  rw [e1,eb]; simp
 have nz:¬ B.Z p:=ae.notZ a.sat hn
 have at':At T B' (upd H p (.dK [])) ρ σ l:=⟨a.ok,sa,by rw [hpr]; exact a.pr⟩
 have back2:∀ {H':Hp}{ρ':Env}{m:List aW},At T B' H' ρ' σ m→At T B H' ρ' σ ((.dic [] [],.ref p)::m)∧H' p=some (.dK []):=fun {H' ρ' m} a'=>by
  obtain⟨s1,k⟩:=back H' _ a'.sat
  refine⟨⟨a'.ok,s1.perm ?_,a.pr⟩,?_⟩
  ·rw [List.append_assoc]
   exact(List.perm_append_comm (l₁:=m)).append_left _
  ·have:=k _ hF
   rw [bU nz,bU nz,upd_same]at this
   exact this
 have hpp:=hp B' hpr
 refine Cz hpp hall hl h0 h15 I hsz (pairs_of at' (RG.held (o:=.dic [] []) (v:=.ref p) (fun q hq=>a.pr q hq) (fun H' ρ' m a'=>(back2 a').1) (RG.more1 h.bind) fun os ρ1 k1 ps H1 hlen a1=>?_))
 obtain⟨a2,e2⟩:=back2 a1
 obtain⟨o,eo,k1⟩:=k1.bnd
 have k1:∀ v H,At T B H ρ1 σ ((o,v)::l)→Q v H:=k1
 obtain⟨js,g1,g2,g3,rfl⟩:=Cy eo
 obtain⟨f1,f2,f3⟩:=tQ hlen
 have s3:Sat T B H1 ((fM os).zip (ps.map (·.1))++((jk os).zip (ps.map (·.2))++((.dic [] [],.ref p)::(af ρ1 σ++l)))):=a2.sat.perm (by
  have p1:(af ρ1 σ++((O.dic [] [],V.ref p)::(os.zip (flatV ps)++l))).Perm (os.zip (flatV ps)++((O.dic [] [],V.ref p)::(af ρ1 σ++l))):=by
   refine List.perm_middle.trans ?_
   refine(List.Perm.cons _ ak).trans List.perm_middle.symm
  refine p1.trans ?_
  rw [← List.append_assoc]
  exact f1.append_right _)
 have s4:=freezeL s3
 obtain⟨F,r,_,_⟩:=s4.reps
 obtain⟨F1,F2,_,r1,_⟩:=aO.split r
 have d1:=(zH (by rw [List.length_map,List.length_map]; exact f2) r1).2
 have ek:ps.map (·.1)=js.map kV:=oJ g1 d1
 refine⟨e2,js.zip (ps.map (·.2)),?_,?_,?_⟩
 ·have hjl:js.length=ps.length:=by
   have:=congrArg List.length ek
   simpa using this.symm
  exact vX ek hjl
 ·rw [List.length_zip]; omega
 ·have hjl:js.length=(ps.map (·.2)).length:=by
   have:=congrArg List.length ek
   simp only [List.length_map]at this ⊢
   omega
  have em:mergeK [] (js.zip (ps.map (·.2)))=js.zip (ps.map (·.2)):=by
   have:=pK (acc:=[]) hjl g2 (fun _ _ kv hkv=>by cases hkv)
   simpa [mergeK]using this
  rw [em]
  refine k1 _ _ ⟨a2.ok,?_,a2.pr⟩
  have s5:Sat T B H1 ((.dic [] [],.ref p)::((jk os).zip (ps.map (·.2))++(af ρ1 σ++l))):=(ae.dropL s3).perm List.perm_middle
  obtain⟨b,ws,eb,hb,hw,s6⟩:=ae.openD s5
  injection eb with eb
  subst eb
  have ne:(∀ xs,H1 p≠some (.tup xs))∧(∀ ob u,H1 p≠some (.frz ob u))∧∀ g,H1 p≠some (.ext g):=⟨(fun xs z=>by rw [e2]at z; cases z),(fun ob u z=>by rw [e2]at z; cases z),fun g z=>by rw [e2]at z; cases z⟩
  have s7:ae T B (upd H1 p (.dK (js.zip (ps.map (·.2))))) [p] ((jk os).zip (ps.map (·.2))++(af ρ1 σ++l)):=by
   have s6':ae T B H1 [p] ((jk os).zip (ps.map (·.2))++(af ρ1 σ++l)):=by
    have:ws = []:=by
     have:ws.length=0:=by simpa using hw.symm
     exact List.eq_nil_of_length_eq_zero this
    subst this
    exact s6
   exact s6'.write ne.1 ne.2.1 ne.2.2
  exact(s7.closeD (.inl ⟨js,g1,upd_same,hjl⟩) (by rw [List.length_map]; exact f3)).perm List.perm_middle.symm
end
end PV
namespace PV
open PySem PySem.Spec PyProof.Rows L2
def dD (B:Base) (L:List Nat):Prop:=∀ p∈B.pr,p.1∈L
theorem dD.ne {B:Base}{L:List Nat}{i:Nat} (h:dD B L) (hi:L.contains i=false):∀ p∈B.pr,p.1≠i:=fun p hp e=>by
 have:L.contains i=true:=List.contains_iff_mem.mpr (e ▸ h p hp)
 rw [hi]at this; cases this
theorem dD.nin {B:Base}{L own:List Nat} (h:dD B L) (hi:(L.all fun i=>! own.contains i)=true):∀ p∈B.pr,p.1∉own:=fun p hp e=>by
 have:=List.all_eq_true.mp hi _ (h p hp)
 have h2:own.contains p.1=true:=List.contains_iff_mem.mpr e
 rw [h2]at this; cases this
theorem dD.eq {B B':Base}{L:List Nat} (h:dD B L) (e:B'.pr=B.pr):dD B' L:=fun p hp=>h p (by rw [← e]; exact hp)
def ez:SE→List Nat
 | .var i=>[i]
 | _=>[]
def uO:IE→List Nat
 | .of e=>ez e
 | .enum e=>ez e
 | .zip a b=>ez a++ez b
 | .items e=>ez e
 | .vals e=>ez e
 | .rev e=>ez e
 | .range _=>[]
 | .keys _=>[]
 | .gen _ e=>ez e
 | .zipM a b=>ez a++ez b
section
variable {Φ:cW}
theorem gI {se:SE}{ρ ρ':Env}{a:Arg} (e:dB Φ se ρ = .ok a ρ'):∀ i,Arg.slot i=a→i∈ez se:=by
 intro i hi
 subst hi
 have val:∀ {se:SE},(∀ i,se≠.var i)→dB Φ se ρ=(ev Φ se ρ).bind fun o ρ=>Res.ok (Arg.val o) ρ:=by
  intro se h
  cases se <;> first | (exact absurd rfl (h _)) | (rw [dB]; intro i; exact h i)
 cases se with
 | var j =>
  rw [dB]at e
  cases q:aq ρ j with
  | none=>rw [q]at e; cases e
  | some o =>
   rw [q]at e
   injection e with e1 _
   injection e1 with e1
   subst e1
   exact List.mem_singleton.mpr rfl
 | _ =>
  rw [val (by intro i z; cases z)]at e
  obtain⟨o,ρ1,_,e⟩:=Res.bind_of e
  injection e with e1 _
  cases e1
theorem qY {ie:IE}{ρ ρ':Env}{p:List Arg×List O×List D} (e:kG Φ ie ρ = .ok p ρ'):(∀ i,Arg.slot i∈p.1→i∈uO ie)∧p.1.length=p.2.1.length:=by
 have bnd_of:∀ {α β:Type}{o:Option α}{f:α→Res β}{b:β}{ρ':Env},bnd o f = .ok b ρ'→∃ a,o=some a∧f a = .ok b ρ':=by
  intro α β o f b ρ' h
  cases o with
  | none=>cases h
  | some a=>exact⟨a,rfl,h⟩
 cases ie with
 | of se =>
  rw [kG]at e
  obtain⟨a,ρ1,e1,e⟩:=Res.bind_of e
  obtain⟨o,ρ2,e2,e⟩:=Res.bind_of e
  obtain⟨ds,ρ3,e3,e⟩:=Res.bind_of e
  injection e with e _
  subst e
  refine⟨fun i hi=>gI e1 i (List.mem_singleton.mp hi),rfl⟩
 | range es =>
  rw [kG]at e
  obtain⟨a,ρ1,e1,e⟩:=Res.bind_of e
  obtain⟨ds,ρ3,e3,e⟩:=Res.bind_of e
  injection e with e _
  subst e
  exact⟨(fun i hi=>by cases hi),rfl⟩
 | keys i =>
  rw [kG]at e
  obtain⟨a,e1,e⟩:=bnd_of e
  obtain⟨ds,e2,e⟩:=bnd_of e
  injection e with e _
  subst e
  exact⟨(fun i hi=>by cases hi),rfl⟩
 | enum se =>
  rw [kG]at e
  obtain⟨a,ρ1,e1,e⟩:=Res.bind_of e
  obtain⟨o,ρ2,e2,e⟩:=Res.bind_of e
  obtain⟨ds,ρ3,e3,e⟩:=Res.bind_of e
  injection e with e _
  subst e
  refine⟨fun i hi=>gI e1 i (List.mem_singleton.mp hi),rfl⟩
 | gen f se =>
  rw [kG]at e
  obtain⟨a,ρ1,e1,e⟩:=Res.bind_of e
  obtain⟨o,ρ2,e2,e⟩:=Res.bind_of e
  obtain⟨ds,ρ3,e3,e⟩:=Res.bind_of e
  injection e with e _
  subst e
  refine⟨fun i hi=>gI e1 i (List.mem_singleton.mp hi),rfl⟩
 | zip sa sb =>
  rw [kG]at e
  obtain⟨a,ρ1,e1,e⟩:=Res.bind_of e
  obtain⟨b,ρ2,e2,e⟩:=Res.bind_of e
  obtain⟨o,ρ3,e3,e⟩:=Res.bind_of e
  obtain⟨o2,ρ4,e4,e⟩:=Res.bind_of e
  obtain⟨ds,ρ5,e5,e⟩:=Res.bind_of e
  injection e with e _
  subst e
  refine⟨fun i hi=>?_,rfl⟩
  rcases List.mem_cons.mp hi with h | h
  ·exact List.mem_append_left _ (gI e1 i h)
  ·exact List.mem_append_right _ (gI e2 i (List.mem_singleton.mp h))
 | zipM sa sb =>
  rw [kG]at e
  obtain⟨a,ρ1,e1,e⟩:=Res.bind_of e
  obtain⟨b,ρ2,e2,e⟩:=Res.bind_of e
  obtain⟨o,ρ3,e3,e⟩:=Res.bind_of e
  obtain⟨o2,ρ4,e4,e⟩:=Res.bind_of e
  obtain⟨ds,ρ5,e5,e⟩:=Res.bind_of e
  injection e with e _
  subst e
  refine⟨fun i hi=>?_,rfl⟩
  rcases List.mem_cons.mp hi with h | h
  ·exact List.mem_append_left _ (gI e1 i h)
  ·exact List.mem_append_right _ (gI e2 i (List.mem_singleton.mp h))
 | items se=>rw [kG]at e; cases e
 | vals se=>rw [kG]at e; cases e
 | rev se=>rw [kG]at e; cases e
end
section
variable {T:Tab}{B:Base}{Φ:cW}{W:WX}{X:Cx}{L:List Nat}
theorem iK {tg iter:Expr}{body:List Stmt}{t:Tg}{ie:IE}{sb:List SS}{pos:Pos} (pr:dD B L) (hp:PassesOwn (model X.prog X.w) X.A X.env X.xe) (hc:X.calm=true) (hi:PI X tg iter (tI T B Φ W ie)) (hg:∀ B':Base,dD B' (uO ie++L)→PG X tg (gT T B' t))
  (hb:∀ B':Base,dD B' (uO ie++L)→PSs X body (yZ T B' Φ W sb)) (hs:∀ x,foldedSetIterable iter X.env x=pure x):PS X (.For tg iter body [] pos) (tS T B Φ W (.for t ie sb)) :=
 EI (uO ie) (fun ρ p ρ' e=>(qY e).1) (fun ρ p ρ' e=>(qY e).2) hp hc hi (fun B' c=>hg B' fun p hp=>List.mem_append.mpr ((c p hp).elim (fun z=>.inr (pr p z)) .inl)) (fun B' c=>hb B' fun p hp=>List.mem_append.mpr ((c p hp).elim (fun z=>.inr (pr p z)) .inl)) hs
theorem qi {elt tg iter:Expr}{ifs:List Expr}{scope:Scope}{own:List (Str×Nat)}{t:Tg}{ie:IE}{se:SE}{sifs:List SE}{pos:Pos}
  (pr:dD B L) (hc:X.calm=true) (hN:X.N.Nodup) (nd:(own.map (·.2)).Nodup) (hp:(L.all fun i=>!(own.map (·.2)).contains i)=true) (htg:∀ i∈ar t,i∈own.map (·.2))
  (hi:PI X tg iter (tI T B Φ W ie)) (ok:BlkOk X.N X.env.scope scope own)
  (hg:∀ (s:Shared) (H:Hp) (C:Addr) (cl:List (Str×Addr)) (fp:List Addr),PG (X.blk s H scope (compEnvC scope cl C X.env) fp) tg (gT T B t))
  (ht:∀ (s:Shared) (H:Hp) (C:Addr) (cl:List (Str×Addr)) (fp:List Addr),PTs (X.blk s H scope (compEnvC scope cl C X.env) fp) ifs (vi T B Φ sifs))
  (he:∀ (s:Shared) (H:Hp) (C:Addr) (cl:List (Str×Addr)) (fp:List Addr),PE (X.blk s H scope (compEnvC scope cl C X.env) fp) elt (tE T B Φ WF se)) (hs:∀ x,foldedSetIterable iter X.env x=pure x) :
  PE X (.ListComp elt [⟨tg,iter,ifs,0⟩] scope pos) (tE T B Φ W (.comp .lst se (own.map (·.2)) t ie sifs)) :=
 EJ (fun ρ p ρ' e=>(qY e).2) hc hN nd (pr.nin hp) htg hi ok hg ht he hs
end
def i7 (L:List Nat):Nat→List O→Bool
 | _,[]=>true
 | i,.d _::r=>i7 L (i+1) r
 | i,_::r=>L.contains i&&i7 L (i+1) r
theorem tR {L:List Nat}:∀ {os:List O}{n i:Nat}{o:O},i7 L n os=true→os[i]?=some o→mX o=none→n+i∈L
 | [],n,i,o,_,h,_=>by simp at h
 | a::os,n,i,o,e,h,hp=>by
  have e':i7 L (n+1) os=true∧(mX a=none→n∈L):=by
   cases a with
   | d x=>exact⟨e,fun z=>by cases z⟩
   | tup xs=>have e:(L.contains n&&i7 L (n+1) os)=true:=e; rw [Bool.and_eq_true]at e; exact⟨e.2,fun _=>List.contains_iff_mem.mp e.1⟩
   | lst xs=>have e:(L.contains n&&i7 L (n+1) os)=true:=e; rw [Bool.and_eq_true]at e; exact⟨e.2,fun _=>List.contains_iff_mem.mp e.1⟩
   | dic ks xs=>have e:(L.contains n&&i7 L (n+1) os)=true:=e; rw [Bool.and_eq_true]at e; exact⟨e.2,fun _=>List.contains_iff_mem.mp e.1⟩
   | obj C ns xs=>have e:(L.contains n&&i7 L (n+1) os)=true:=e; rw [Bool.and_eq_true]at e; exact⟨e.2,fun _=>List.contains_iff_mem.mp e.1⟩
  cases i with
  | zero =>
   simp at h
   subst h
   exact e'.2 hp
  | succ i =>
   have:=tR (i:=i) e'.1 (by simpa using h) hp
   rw [show n+(i+1)=n+1+i by omega]
   exact this
noncomputable def gJ (Φ:cW) (ss:List SS) (n m:Nat) (L:List Nat) (args:List O):bC :=
 if args.length=n∧i7 L 0 args=true then dU Φ ss m args else .bad
section
variable {T:Tab}{B:Base}{H:Hp}{l m:List aW}
def aN:List O→List V→List aW
 | .d x::os,v::vs=>(.d x,v)::aN os vs
 | _::os,_::vs=>aN os vs
 | _,_=>[]
theorem dupL:∀ {os:List O}{vs:List V}{m:List aW},ae T B H [] (os.zip vs++m)→ae T B H [] (os.zip vs++(aN os vs++m))
 | [],vs,m,s=>by cases vs <;> exact s
 | o::os,[],m,s=>by cases o <;> exact s
 | o::os,v::vs,m,s=>by
  have s:ae T B H [] ((o,v)::(os.zip vs++m)):=s
  have again:∀ {m':List aW},ae T B H [] (os.zip vs++m')→ae T B H [] (os.zip vs++(aN os vs++m')):=fun s=>dupL s
  cases o with
  | d x =>
   have s1:ae T B H [] (os.zip vs++((.d x,v)::(.d x,v)::m)):=s.dup.perm (by
    have p1:((O.d x,v)::(O.d x,v)::(os.zip vs++m)).Perm (os.zip vs++((O.d x,v)::(O.d x,v)::m)):=(List.Perm.cons _ List.perm_middle.symm).trans List.perm_middle.symm
    exact p1)
   have s2:=again s1
   refine s2.perm ?_
   show(os.zip vs++(aN os vs++((O.d x,v)::(O.d x,v)::m))).Perm ((O.d x,v)::(os.zip vs++((O.d x,v)::(aN os vs++m))))
   have p1:(aN os vs++((O.d x,v)::(O.d x,v)::m)).Perm ((O.d x,v)::(O.d x,v)::(aN os vs++m)):=List.perm_middle.trans (List.perm_middle.cons _)
   exact(p1.append_left _).trans List.perm_middle
  | tup xs =>
   have s2:=again (s.perm List.perm_middle.symm)
   refine s2.perm ?_
   show(os.zip vs++(aN os vs++((O.tup xs,v)::m))).Perm ((O.tup xs,v)::(os.zip vs++(aN os vs++m)))
   exact(List.perm_middle.append_left _).trans List.perm_middle
  | lst xs =>
   have s2:=again (s.perm List.perm_middle.symm)
   refine s2.perm ?_
   show(os.zip vs++(aN os vs++((O.lst xs,v)::m))).Perm ((O.lst xs,v)::(os.zip vs++(aN os vs++m)))
   exact(List.perm_middle.append_left _).trans List.perm_middle
  | dic ks xs =>
   have s2:=again (s.perm List.perm_middle.symm)
   refine s2.perm ?_
   show(os.zip vs++(aN os vs++((O.dic ks xs,v)::m))).Perm ((O.dic ks xs,v)::(os.zip vs++(aN os vs++m)))
   exact(List.perm_middle.append_left _).trans List.perm_middle
  | obj C ns xs =>
   have s2:=again (s.perm List.perm_middle.symm)
   refine s2.perm ?_
   show(os.zip vs++(aN os vs++((O.obj C ns xs,v)::m))).Perm ((O.obj C ns xs,v)::(os.zip vs++(aN os vs++m)))
   exact(List.perm_middle.append_left _).trans List.perm_middle
theorem oQ:∀ {os:List O}{vs:List V}{k:Nat},os.length=vs.length→bM (os.map some++List.replicate k none) (vs.map some++List.replicate k none)∧af (os.map some++List.replicate k none) (vs.map some++List.replicate k none)=os.zip vs
 | [],[],0,_=>⟨trivial,rfl⟩
 | [],[],k+1,_=>by
  obtain⟨h1,h2⟩:=oQ (os:=[]) (vs:=[]) (k:=k) rfl
  exact⟨h1,h2⟩
 | o::os,v::vs,k,h=>by
  obtain⟨h1,h2⟩:=oQ (os:=os) (vs:=vs) (k:=k) (by simpa using h)
  refine⟨h1,?_⟩
  show(o,v)::af (os.map some++List.replicate k none) (vs.map some++List.replicate k none)=(o,v)::os.zip vs
  rw [h2]
 | [],_::_,_,h=>by simp at h
 | _::_,[],_,h=>by simp at h
theorem uP:∀ {os:List O}{vs:List V}{ρ:Env}{σ:L2.St}{ios:List O}{m:List aW},bM ρ σ→os.length=vs.length→bj os ρ=some ios→(∀ (i:Nat) o v,os[i]?=some o→mX o=none→vs[i]?=some v→σ[i]?=some (some v)) →
  ae T B H [] (af ρ σ++(aN os vs++m))→ios.length=vs.length∧ae T B H [] (ios.zip vs++m)
 | [],[],ρ,σ,ios,m,_,_,e,_,s=>by
  injection e with e
  subst e
  exact⟨rfl,ae.dropL s⟩
 | [],_::_,_,_,_,_,_,h,_,_,_=>by simp at h
 | _::_,[],_,_,_,_,_,h,_,_,_=>by simp at h
 | o::os,v::vs,ρ,σ,ios,m,ek,hl,e,hp,s=>by
  have hp':∀ (i:Nat) o' v',os[i]?=some o'→mX o'=none→vs[i]?=some v'→(σ.drop 1)[i]?=some (some v'):=fun i o' v' h1 h2 h3=>by
   rw [List.getElem?_drop,Nat.add_comm]
   exact hp (i+1) o' v' (by simpa using h1) h2 (by simpa using h3)
  have own:(∀ x,o≠.d x)→∃ o' ρ' ios',ρ=some o'::ρ'∧bj os ρ'=some ios'∧ios=o'::ios'∧aN (o::os) (v::vs)=aN os vs∧mX o=none:=by
   intro hx
   cases ρ with
   | nil=>cases o <;> first | exact absurd rfl (hx _) | cases e
   | cons a ρ' =>
    cases a with
    | none=>cases o <;> first | exact absurd rfl (hx _) | cases e
    | some o' =>
     have e':(bj os ρ').map (o' :: ·)=some ios:=by cases o <;> first | exact absurd rfl (hx _) | exact e
     obtain⟨ios',e1,e2⟩:=Option.map_eq_some_iff.mp e'
     refine⟨o',ρ',ios',rfl,e1,e2.symm,?_,?_⟩ <;> cases o <;> first | exact absurd rfl (hx _) | rfl
  have go2:(∀ x,o≠.d x)→ios.length=(v::vs).length∧ae T B H [] (ios.zip (v::vs)++m):=fun hx=>by
   obtain⟨o',ρ',ios',rfl,e1,rfl,e3,e4⟩:=own hx
   have h0:=hp 0 o v rfl e4 rfl
   cases σ with
   | nil=>cases h0
   | cons a σ' =>
    simp at h0
    subst h0
    rw [e3]at s
    have s1:ae T B H [] ((o',v)::(af ρ' σ'++(aN os vs++m))):=s
    have s2:ae T B H [] (af ρ' σ'++(aN os vs++((o',v)::m))):=s1.perm (by
     rw [← List.append_assoc,← List.append_assoc]
     exact List.perm_middle.symm)
    obtain⟨h1,h2⟩:=uP (os:=os) (vs:=vs) (ρ:=ρ') (σ:=σ') ek (by simpa using hl) e1 hp' s2
    exact⟨by simp [h1],h2.perm List.perm_middle⟩
  cases o with
  | d x =>
   have e:(bj os (ρ.drop 1)).map (.d x :: ·)=some ios:=e
   obtain⟨ios',e1,e2⟩:=Option.map_eq_some_iff.mp e
   subst e2
   have s0:ae T B H [] (af ρ σ++((.d x,v)::(aN os vs++m))):=s
   have ek':bM (ρ.drop 1) (σ.drop 1)∧∃ pre,af ρ σ=pre++af (ρ.drop 1) (σ.drop 1):=by
    cases ρ with
    | nil=>cases σ with
     | nil=>exact⟨trivial,[],rfl⟩
     | cons _ _=>exact ek.elim
    | cons a ρ'=>cases σ with
     | nil=>cases a <;> exact ek.elim
     | cons b σ' =>
      cases a with
      | none=>exact⟨by cases b <;> exact ek,[],by cases b <;> rfl⟩
      | some o'=>cases b with
       | none=>exact ek.elim
       | some w=>exact⟨ek,[(o',w)],rfl⟩
   obtain⟨ek',pre,ep⟩:=ek'
   rw [ep]at s0
   have s1:ae T B H [] (pre++(af (ρ.drop 1) (σ.drop 1)++(aN os vs++((.d x,v)::m)))):=s0.perm (by
    rw [List.append_assoc]
    refine List.Perm.append_left _ (List.Perm.append_left _ ?_)
    exact List.perm_middle.symm)
   obtain⟨h1,h2⟩:=uP (os:=os) (vs:=vs) ek' (by simpa using hl) e1 hp' (ae.dropL s1)
   exact⟨by simp [h1],h2.perm List.perm_middle⟩
  | tup xs=>exact go2 fun x z=>nomatch z
  | lst xs=>exact go2 fun x z=>nomatch z
  | dic ks xs=>exact go2 fun x z=>nomatch z
  | obj C ns xs=>exact go2 fun x z=>nomatch z
end
def uQ (vs:List V):List Nat→List (Nat×V)
 | []=>[]
 | i::r=>match vs[i]? with
  | some v=>(i,v)::uQ vs r
  | none=>uQ vs r
theorem qj {vs:List V}:∀ {L:List Nat}{p:Nat×V},p∈uQ vs L→p.1∈L∧vs[p.1]?=some p.2
 | [],p,h=>by cases h
 | i::r,p,h=>by
  unfold uQ at h
  cases e:vs[i]? with
  | none =>
   rw [e]at h
   obtain⟨h1,h2⟩:=qj h
   exact⟨List.mem_cons_of_mem _ h1,h2⟩
  | some v =>
   rw [e]at h
   rcases List.mem_cons.mp h with rfl | h
   ·exact⟨List.mem_cons_self,e⟩
   ·obtain⟨h1,h2⟩:=qj h
    exact⟨List.mem_cons_of_mem _ h1,h2⟩
theorem uR {vs:List V}:∀ {L:List Nat}{i:Nat}{v:V},i∈L→vs[i]?=some v→(i,v)∈uQ vs L
 | [],i,v,h,_=>by cases h
 | j::r,i,v,h,e=>by
  unfold uQ
  rcases List.mem_cons.mp h with rfl | h
  ·rw [e]; exact List.mem_cons_self
  ·cases e2:vs[j]? with
   | none=>exact uR h e
   | some w=>exact List.mem_cons_of_mem _ (uR h e)
theorem eZ {T:Tab}{Φ:cW}{P:Program}{w:World}{K:PySem.W.Frag}{mg:Str→Option Value}{base:Heap}{x qual:Str}{params:Arguments}{body:List Stmt}{scope:Scope}{dvs:List V}{kws:List (Str×V)}{f:Addr}{fd:FuncData}{N ps:List Str}{k:Nat}{ss:List SS}{L:List Nat}
  (F:FunD K x qual params body scope dvs kws f fd) (S:FnScope N ps scope)
  (hb:∀ (cdv:Value) (A:Around) (outer:List PySem.Env) (s:Shared) (H:Hp) (E:XK) (B:Base),dD B L→Room k (A.deeper (envOfC qual scope s.heap.objs.size f cdv))→PSs (cxOf (L2.CX P w) P w K mg base N qual scope f cdv A outer s H E) body (yZ T B Φ (fun cls d _ H=>E cls d H) ss)) :
  FnOk P w K mg base (L2.CX P w) (k+1) f fd ps (bD T (gJ Φ ss ps.length N.length L)):=by
 have use:∀ {vs H Q E},bD T (gJ Φ ss ps.length N.length L) vs H Q E→∃ (B:Base) (os:List O) (l:List aW),os.length=vs.length∧vs.length=ps.length∧Sat T B H (os.zip vs++l)∧(∀ i o,os[i]?=some o→mX o=none→i∈L)∧xU T B (dU Φ ss N.length os) vs l Q E:=by
  intro vs H Q E ⟨B,os,l,hl,s,e⟩
  unfold gJ at e
  by_cases h:os.length=ps.length∧i7 L 0 os=true
  ·rw [if_pos h]at e
   exact⟨B,os,l,hl,by rw [← hl]; exact h.1,s,(fun i o h1 h2=>by have:=tR h.2 h1 h2; simpa using this),e⟩
  ·rw [if_neg h]at e; exact e.elim
 refine F.ok S (fun vs H Q E h=>?_) (fun cdv A outer s H vs Q E hr h=>?_)
 ·obtain⟨B,os,l,h1,h2,_⟩:=use h
  exact h2
 ·obtain⟨B,os,l,h1,h2,sa,hL,en⟩:=use h
  refine⟨_,hb cdv A outer s H E {B with pr:=uQ vs L} (fun p hp=>(qj hp).1) hr,?_⟩
  have sa':Sat T {B with pr:=uQ vs L} H (os.zip vs++(aN os vs++l)):=⟨(dupL sa).lk,(dupL sa).old,(dupL sa).oth,(dupL sa).io,(dupL sa).tb,(dupL sa).reps⟩
  obtain⟨e1,e2⟩:=oQ (os:=os) (vs:=vs) (k:=N.length - vs.length) h1
  refine⟨os.map some++List.replicate (N.length - os.length) none,aN os vs++l,⟨?_,?_,?_⟩,?_⟩
  ·rw [h1]; exact e1
  ·rw [h1]
   show Sat _ _ _ (af _ (vs.map some++List.replicate (N.length - vs.length) none)++_)
   rw [e2]
   exact sa'
  ·intro p hp
   obtain⟨_,q⟩:=qj hp
   show(vs.map some++List.replicate (N.length - vs.length) none)[p.1]?=_
   have hi:=(List.getElem?_eq_some_iff.mp q).1
   rw [List.getElem?_append_left (by simpa using hi),List.getElem?_map,q]; rfl
  ·unfold dU at en
   have back:∀ {ρ:Env}{σ:L2.St}{H':Hp}{ios:List O}{m:List aW},bj os ρ=some ios→At T {B with pr:=uQ vs L} H' ρ σ (m++(aN os vs++l))→ios.length=vs.length∧Sat T B H' (m++(ios.zip vs++l)):=by
    intro ρ σ H' ios m ei a
    have s1:Sat T B H' (af ρ σ++(m++(aN os vs++l))):=⟨a.sat.lk,a.sat.old,a.sat.oth,a.sat.io,a.sat.tb,a.sat.reps⟩
    obtain⟨g1,g2⟩:=uP (os:=os) (vs:=vs) (m:=m++l) a.ok h1 ei (fun i o v q1 q2 q3=>a.pr (i,v) (uR (hL i o q1 q2) q3)) (s1.perm (List.Perm.append_left _ ak))
    exact⟨g1,ae.perm g2 ak⟩
   generalize aG Φ ss (os.map some++List.replicate (N.length - os.length) none)=r at en
   cases r with
   | bad=>exact en.elim
   | exc C p ρ =>
    unfold Res.done at en
    cases ei:bj os ρ with
    | none=>simp only [ei]at en; exact en.elim
    | some ios =>
     simp only [ei]at en
     intro σ d H' its a e
     obtain⟨g1,g2⟩:=back ei a
     exact en d H' its g1 g2 e
   | ok fl ρ =>
    cases fl with
    | bk=>exact en.elim
    | ct=>exact en.elim
    | nx =>
     unfold Res.done at en
     cases ei:bj os ρ with
     | none=>simp only [ei]at en; exact en.elim
     | some ios =>
      simp only [ei]at en
      intro σ H' a
      obtain⟨g1,g2⟩:=back (m:=[]) ei a
      exact en .non H' g1 (ae.non g2)
    | rt o =>
     unfold Res.done at en
     cases ei:bj os ρ with
     | none=>simp only [ei]at en; exact en.elim
     | some ios =>
      simp only [ei]at en
      intro σ v H' a
      obtain⟨g1,g2⟩:=back (m:=[(o,v)]) ei a
      exact en v H' g1 g2
end PV
namespace PV
open PySem PySem.Spec PyProof.Rows L2
section
variable {T:Tab}{B:Base}{Φ:cW}{W:WX}{X:Cx}{σ:L2.St}{l m:List aW}{H H':Hp}{ρ:Env}{pins:List (Addr×Obj)}{s:Shared}{e a b:Expr}{pos:Pos}{sa sb:SE}{hs:List Addr}{o:O}{v w:V}
theorem vY {k:D}{r:O}:∀ {os:List O},(iI k r os).length=os.length
 | []=>rfl
 | o::os=>by simp [iI]
def CB (T:Tab) (B:Base) (f:List D→Option O) (kf:List D→D) (xs:List V) (H:Hp) (Q:VK):Prop:=∃ (os:List O) (l:List aW) (r:O),os.length=xs.length∧Sat T B H (os.zip xs++l)∧f (os.map O.frz)=some r ∧
 ∀ u H',Sat T B H' ((r,u)::((iI (kf (os.map O.frz)) r os).zip xs++l))→Q u H'
theorem EW {f:List D→Option O}{kf:List D→D}{as:List Arg}{vs:List V}{W:WX}{Q:VK} (s:At T B H ρ σ (ay as vs++l)) (av:bY σ as vs) (h:RP T B W σ l (w3 f kf as ρ) Q):CB T B f kf vs H Q:=by
 unfold w3 at h
 cases e:cX as ρ with
 | exc C p ρ1=>exact(m7 e).elim
 | bad=>rw [e]at h; exact h.elim
 | ok os ρ1 =>
  rw [e]at h
  obtain⟨hl,s1⟩:=kl s av e
  have h:RP T B W σ l ((Res.of (f (os.map O.frz)) ρ1).bind fun r ρ=>.ok r (aL as (iI (kf (os.map O.frz)) r os) ρ)) Q:=h
  cases er:f (os.map O.frz)with
  | none=>rw [er]at h; exact h.elim
  | some r =>
   rw [er]at h
   refine⟨os,af ρ1 σ++l,r,hl,s1.sat.perm ak,er,fun u H' q=>?_⟩
   have h:∀ v H,At T B H (aL as (iI (kf (os.map O.frz)) r os) ρ1) σ ((r,v)::l)→Q v H:=h
   refine h u H' (dC (os:=iI (kf (os.map O.frz)) r os) (vs:=vs) (by rw [vY]; exact hl) ⟨s1.ok,q.perm ?_,s1.pr⟩ av)
   generalize (iI (kf (os.map O.frz)) r os).zip vs=z
   have p1:((r,u)::(z++(af ρ1 σ++l))).Perm (z++(r,u)::(af ρ1 σ++l)):=List.perm_middle.symm
   have p2:(z++(r,u)::(af ρ1 σ++l)).Perm (z++(af ρ1 σ++(r,u)::l)):=List.perm_middle.symm.append_left z
   exact p1.trans (p2.trans ak)
theorem Ax {d:D}{T:Tab}{own:Addr→Prop}{h:Hp} (e:xM d=true) (x:Dr T own h d w):∀ own' h',Dr T own' h' d w:=by
 cases d <;> first | exact fun _ _=>x | cases e
theorem nT {k d:D} (s:ae T B H hs ((o,v)::m)) (full:ae T B H hs ((.d d,w)::(o.shal,v)::m)) (hst:∀ y g,dO o k=some (y,g)→jS T (vw B.Z H) v k w∧y.frz=d):ae T B H hs ((.d d,w)::(cb o k (.d d),v)::m):=by
 unfold cb
 by_cases hc:zM (.d d)=true
 ·rw [if_pos hc]
  exact s.lit (Ax hc full.read)
 ·rw [if_neg hc]
  cases e:dO o k with
  | none=>exact full
  | some p =>
   obtain⟨y,g⟩:=p
   obtain⟨st,ey⟩:=hst y g e
   obtain⟨a,ad,w',rest,rfl,st',s1,back⟩:=mC s e
   obtain rfl:=st.inj st'
   have s2:=s1.freeze.dup
   rw [ey]at s2
   have s3:ae T B H (ad++hs) ((.d d,w)::(rest++((.d d,w)::m))):=s2.perm ((List.perm_middle.symm).cons _)
   have s4:=back H (.d d) ((.d d,w)::m) ⟨fun _ _=>rfl,fun _ _ e=>e⟩ s3
   show ae T B H hs ((.d d,w)::(g (.d y.frz),.ref a)::m)
   rw [ey]
   exact s4.perm (.swap _ _ _)
theorem vZ:∀ {xs:List O}{j:Nat}{y:O},xs[j]?=some y→(O.frzL xs)[j]?=some y.frz:=by
 intro xs j y e
 rw [bu,List.getElem?_map,e]; rfl
theorem Ay {p:Addr}{y z1 z2:V} (a:DGet H p y (some z1)) (b:DGet H p y (some z2)):z1=z2:=by
 have rd:∀ {u u':HO},Rd H p u→Rd H p u'→(∀ o w,u≠.frz o w)→(∀ o w,u'≠.frz o w)→u=u':=by
  intro u u' h1 h2 n1 n2
  rcases h1 with h1 | ⟨o,h1⟩ <;> rcases h2 with h2 | ⟨o',h2⟩ <;> rw [h1]at h2 <;> injection h2 with h2
  ·exact(n1 _ _ h2).elim
  ·exact(n2 _ _ h2.symm).elim
  ·injection h2
 rcases a with⟨kvs,k,r1,e1,e2⟩ | ⟨kvs,k,c,r1,e1,c1,e2⟩ <;> rcases b with⟨kvs',k',r1',e1',e2'⟩ | ⟨kvs',k',c',r1',e1',c1',e2'⟩
 ·have:=rd r1 r1' (fun _ _ z=>nomatch z) (fun _ _ z=>nomatch z)
  injection this with this
  subst this
  rw [e1]at e1'
  rw [kV_inj e1']at e2
  rw [← e2]at e2'
  exact(Option.some.inj e2').symm
 ·have:=rd r1 r1' (fun _ _ z=>nomatch z) (fun _ _ z=>nomatch z); cases this
 ·have:=rd r1 r1' (fun _ _ z=>nomatch z) (fun _ _ z=>nomatch z); cases this
 ·have:=rd r1 r1' (fun _ _ z=>nomatch z) (fun _ _ z=>nomatch z)
  injection this with this
  subst this
  rw [e1]at e1'
  injection e1' with e1'
  subst e1'
  rw [c1]at c1'
  injection c1' with c1'
  injection c1' with c1'
  rw [kVs_inj c1']at e2
  rw [← e2]at e2'
  exact(Option.some.inj e2').symm
theorem Az {xs:List O}{k:D}{y:O}{g:O→O} (e:dO (.lst xs) k=some (y,g)):∃ i j,k = .int i∧ixN xs.length i=some j∧xs[j]?=some y:=by
 cases k with
 | int i =>
  have e:(match ixN xs.length i with
   | some j=>(match xs[j]? with
    | some y=>some (y,fun z=>O.lst (xs.set j z))
    | none=>none)
   | none=>none)=some (y,g):=e
  cases e1:ixN xs.length i with
  | none=>simp only [e1]at e; cases e
  | some j =>
   simp only [e1]at e
   cases e2:xs[j]? with
   | none=>simp only [e2]at e; cases e
   | some y0 =>
    simp only [e2]at e
    injection e with e
    injection e with e3 _
    exact⟨i,j,rfl,e1,by rw [← e3]; exact e2⟩
 | _=>cases e
theorem AA {xs:List O}{k:D}{y:O}{g:O→O} (e:dO (.tup xs) k=some (y,g)):∃ i j,k = .int i∧ixN xs.length i=some j∧xs[j]?=some y:=by
 cases k with
 | int i =>
  have e:(match ixN xs.length i with
   | some j=>(match xs[j]? with
    | some y=>some (y,fun z=>O.tup (xs.set j z))
    | none=>none)
   | none=>none)=some (y,g):=e
  cases e1:ixN xs.length i with
  | none=>simp only [e1]at e; cases e
  | some j =>
   simp only [e1]at e
   cases e2:xs[j]? with
   | none=>simp only [e2]at e; cases e
   | some y0 =>
    simp only [e2]at e
    injection e with e
    injection e with e3 _
    exact⟨i,j,rfl,e1,by rw [← e3]; exact e2⟩
 | _=>cases e
theorem tU {k:D}:∀ {ks:List D}{vs:List O}{j:Nat}{y:O},dG k ks=some j→vs[j]?=some y→bK k ks (O.frzL vs)=some y.frz
 | [],vs,j,y,e,_=>by cases e
 | a::ks,[],j,y,e,h=>by simp at h
 | a::ks,v::vs,j,y,e,h=>by
  unfold dG at e
  show(if keyOf a=keyOf k∧aI a=aI k then some (O.frz v)else bK k ks (O.frzL vs))=some y.frz
  by_cases hc:keyOf a=keyOf k∧aI a=aI k
  ·rw [if_pos hc]at e ⊢
   injection e with e
   subst e
   simp at h
   rw [h]
  ·rw [if_neg hc]at e ⊢
   obtain⟨i,e1,e2⟩:=Option.map_eq_some_iff.mp e
   subst e2
   exact tU e1 (by simpa using h)
theorem AB {ks:List D}{xs:List O}{k:D}{y:O}{g:O→O} (e:dO (.dic ks xs) k=some (y,g)):bK k ks (O.frzL xs)=some y.frz:=by
 have e:(if bG k ks=true then(match dG k ks with
  | some j=>(match xs[j]? with
   | some y=>some (y,fun z=>O.dic ks (xs.set j z))
   | none=>none)
  | none=>none)else none)=some (y,g):=e
 by_cases hk:bG k ks=true
 ·rw [if_pos hk]at e
  cases e1:dG k ks with
  | none=>simp only [e1]at e; cases e
  | some j =>
   simp only [e1]at e
   cases e2:xs[j]? with
   | none=>simp only [e2]at e; cases e
   | some y0 =>
    simp only [e2]at e
    injection e with e
    injection e with e3 _
    rw [← e3]
    exact tU e1 e2
 ·rw [if_neg hk]at e; cases e
theorem EX (hK:X.K=T.K) (hu:X.A.units+200 < cLine):IxR X (fun x y H Q=>CB T B kH p4 [x,y] H Q):=by
 intro value slice pins s σ H x y v u Q I rx ry h hsl
 obtain⟨os,l,r,hl,sa,e,q⟩:=h
 match os,hl with
 | [o,p],_ =>
 have sa:Sat T B H ((o,x)::(p,y)::l):=sa
 have e:kH [o.frz,p.frz]=some r:=e
 have q:∀ u H',Sat T B H' ((r,u)::(cb o p.frz r,x)::(p.shal,y)::l)→Q u H':=q
 have d2:=sa.read2
 have sp:Sat T B H ((o,x)::(p.shal,y)::l):=(eX (sa.swap)).swap
 cases ea:o.frz with
 | lst xs =>
  rw [ea]at e
  cases eb:p.frz with
  | int i =>
   rw [eb]at e d2 q
   have d2:y = .int i:=d2
   subst d2
   have e:(atI xs i).map O.d=some r:=e
   obtain⟨d,e1,e2⟩:=Option.map_eq_some_iff.mp e
   subst e2
   obtain⟨a,vs,rfl,ha,hl,s1⟩:=Sat.kidsL sp ea
   obtain⟨n,w,g1,g2,g3⟩:=xR hl e1
   refine ix_list value slice pins s σ H _ _ v u Q I rx ry ⟨a,vs,i,w,rfl,rfl,by rw [hK]; exact ha,g3,q _ _ (nT sp (ae.pick (zip_get g1 g2) s1) fun y0 g0 e0=>?_)⟩ hsl
   cases o with
   | lst os =>
    obtain⟨a',vs',ex,ha',hl',s2⟩:=ae.openL sp
    injection ex with ex
    subst ex
    have ev':vs'=vs:=I.list_inj (by rw [hK]; exact .inl (.inl ha')) (by rw [hK]; exact ha)
    subst ev'
    have nz:vw B.Z H a=H a:=by
     obtain⟨F,r,nd,c⟩:=s2.reps
     exact bU (c a List.mem_cons_self).2.2.1
    obtain⟨i',j,hi',hj,hy⟩:=Az e0
    injection hi' with hi'
    subst hi'
    refine⟨⟨a,rfl,.inl ⟨vs',i,.inl (by rw [nz]; exact ha'),rfl,g3⟩⟩,?_⟩
    have ea:O.frzL os=xs:=by injection ea
    rw [← ea]at e1
    have lx:(O.frzL os).length=os.length:=by rw [bu,List.length_map]
    unfold atI at e1
    rw [lx,hj]at e1
    have e1:(O.frzL os)[j]?=some d:=e1
    rw [vZ hy]at e1
    exact Option.some.inj e1
   | _=>first | cases e0 | cases ea
  | _=>rw [eb]at e; cases e
 | tup xs =>
  rw [ea]at e
  cases eb:p.frz with
  | int i =>
   rw [eb]at e d2 q
   have d2:y = .int i:=d2
   subst d2
   have e:(atI xs i).map O.d=some r:=e
   obtain⟨d,e1,e2⟩:=Option.map_eq_some_iff.mp e
   subst e2
   obtain⟨a,vs,rfl,ha,hl,s1⟩:=Sat.kidsT sp ea
   obtain⟨n,w,g1,g2,g3⟩:=xR hl e1
   refine ix_tup value slice pins s σ H _ _ v u Q I rx ry ⟨a,vs,i,w,rfl,rfl,by rw [hK]; exact ha,g3,q _ _ (nT sp (ae.pick (zip_get g1 g2) s1) fun y0 g0 e0=>?_)⟩ hsl
   cases o with
   | tup os =>
    obtain⟨a',vs',ex,ha',hl',s2⟩:=ae.openT sp
    injection ex with ex
    subst ex
    have ev':vs'=vs:=I.tuple_inj (.inl (.inl ha')) (by rw [hK]; exact ha)
    subst ev'
    have nz:vw B.Z H a=H a:=bU fun z=>by
     obtain⟨u2,e2,mu⟩:=s2.lk a z
     rw [ha']at e2
     cases e2
    obtain⟨i',j,hi',hj,hy⟩:=AA e0
    injection hi' with hi'
    subst hi'
    refine⟨⟨a,rfl,.inl ⟨vs',i,.inr (by rw [nz]; exact ha'),rfl,g3⟩⟩,?_⟩
    have ea:O.frzL os=xs:=by injection ea
    rw [← ea]at e1
    have lx:(O.frzL os).length=os.length:=by rw [bu,List.length_map]
    unfold atI at e1
    rw [lx,hj]at e1
    have e1:(O.frzL os)[j]?=some d:=e1
    rw [vZ hy]at e1
    exact Option.some.inj e1
   | _=>first | cases e0 | cases ea
  | _=>rw [eb]at e; cases e
 | str z =>
  have d1:=sa.read
  rw [ea]at e d1
  have d1:x = .str z:=d1
  subst d1
  cases eb:p.frz with
  | int i =>
   rw [eb]at e d2 q
   have d2:y = .int i:=d2
   subst d2
   have e:(if z.length≤sizeLine then(atI z.cps.toList i).map fun c=>O.d (.str ⟨#[c]⟩)else none)=some r:=e
   split at e
   ·rename_i hz
    obtain⟨c,e1,e2⟩:=Option.map_eq_some_iff.mp e
    subst e2
    refine ix_str value slice pins s σ H _ _ v u Q I rx ry ⟨z,i,c,rfl,rfl,hz,e1,q _ _ ?_⟩ hsl
    exact nT sp ((eX sp).str) fun y0 g0 e0=>by cases o <;> first | cases e0 | cases ea
   ·cases e
  | _=>rw [eb]at e; cases e
 | dic ks ds =>
  rw [ea]at e
  have e:(if bG p.frz ks=true then(bK p.frz ks ds).map O.d else none)=some r:=by
   cases hp:p.frz <;> rw [hp]at e <;> exact e
  split at e
  ·rename_i hk
   obtain⟨d,e1,e2⟩:=Option.map_eq_some_iff.mp e
   subst e2
   obtain⟨a,vs,rfl,ha,hl,s1⟩:=Sat.kidsD sp ea
   rcases xO sa ha hl d2 hk with⟨n,d',w,f1,f2,f3,f4⟩ | ⟨f1,_⟩
   ·rw [e1]at f1
    injection f1 with f1
    subst f1
    refine xS (by omega) value slice pins s σ H _ _ v u Q I rx ry ⟨a,w,rfl,f2,q _ _ (nT sp (ae.pick (zip_get f3 f4) s1) fun y0 g0 e0=>?_)⟩ hsl
    cases o with
    | dic ks' os =>
     have ek:ks'=ks∧O.frzL os=ds:=by injection ea with h1 h2; exact⟨h1,h2⟩
     obtain⟨rfl,rfl⟩:=ek
     have ey:=AB e0
     rw [e1]at ey
     injection ey with ey
     refine⟨?_,ey.symm⟩
     obtain⟨a',_,w',rest,ex,st',_,_⟩:=mC sp e0
     injection ex with ex
     subst ex
     obtain⟨a'',ex2,h2⟩:=vL sp st' d2
     injection ex2 with ex2
     subst ex2
     rcases h2 with⟨vs2,i2,hr,hy,_⟩ | h2
     ·exfalso
      rcases ha with⟨js,_,rd,_⟩ | ⟨js,_,rd,_⟩ <;> rcases hr with(hr | ⟨_,hr⟩) | hr <;> rcases rd with rd | ⟨_,rd⟩ <;> rw [hr]at rd <;> cases rd
     ·rw [Ay f2 h2]
      exact st'
    | _=>first | cases e0 | cases ea
   ·rw [e1]at f1; cases f1
  ·cases e
 | _=>rw [ea]at e; cases hp:p.frz <;> rw [hp]at e <;> cases e
theorem ym {f:List D→Option O}{kf:List D→D}{as:List Arg}{vs:List V}{σ:L2.St}{l:List aW}{H:Hp}{ρ:Env}{Q:VK} (h:RG T B W σ l (w3 f kf as ρ) fun o ρ=>∀ v H,At T B H ρ σ ((o,v)::l)→Q v H)
  (a:At T B H ρ σ (ay as vs++l)) (av:bY σ as vs):CB T B f kf vs H Q:=EW a av h.rp
theorem iq (hK:X.K=T.K) (hu:X.A.units+200 < cLine) (ha:PE X a (tA T B Φ W sa)) (hb:PE X b (tA T B Φ W sb)) (hs:PlainIx b):PE X (.Subscript a b pos) (tE T B Φ W (.idx sa sb)) :=
 (pe_ix (EX (T:=T) (B:=B) hK hu) ha hb hs).pv fun σ H Q ⟨ρ,l,at_,h⟩=>by
  rw [ev]at h
  refine⟨ρ,l,at_,h.rg.bind.mono fun a ρ1 k v H1 a1 av=>⟨ρ1,ao a v++l,a1,RG.more (k.bind.mono fun b ρ2 k2 w H2 a2 aw=>?_)⟩⟩
  exact ym (as:=[a,b]) k2 (a2.perm qh) ⟨av,aw,trivial⟩
theorem EY {C:Nat}{f:Str}{x:V}{Q:VK} (h:CB T B (BY C f) (fun _=>.exc C [.str f,.non]) [x] H Q) (cl:Cls X.K (T.cls C)∧NoAttr X.K (T.cls C) f):∃ a C dx fs v,x = .ref a∧H a=some (.ins C dx fs)∧Cls X.K C∧NoAttr X.K C f∧fs.lookup f=some v∧Q v H:=by
 obtain⟨os,l,r,hl,sa,e,q⟩:=h
 match os,hl with
 | [o],_ =>
 have sa:Sat T B H ((o,x)::l):=sa
 have q:∀ u H',Sat T B H' ((r,u)::(cb o (.exc C [.str f,.non]) r,x)::l)→Q u H':=q
 have e:BY C f [o.frz]=some r:=e
 cases ea:o.frz with
 | obj C' ns xs =>
  rw [ea]at e
  have e0:(if C'=C then(eV f ns xs).map O.d else none)=some r:=e
  by_cases hc:C'=C
  case neg=>rw [if_neg hc]at e0; cases e0
  rw [if_pos hc]at e0
  subst hc
  obtain⟨d,e1,e2⟩:=Option.map_eq_some_iff.mp e0
  subst e2
  obtain⟨a,dx,vs,rfl,ha,hn,hl,s1⟩:=Sat.kidsO sa ea
  obtain⟨n,w,g1,g2,g3⟩:=tH e1 hl
  refine⟨a,T.cls C',dx,ns.zip vs,w,rfl,ha,cl.1,cl.2,g3,q _ _ (nT sa (ae.pick (zip_get g1 g2) s1) fun y0 g0 est=>?_)⟩
  cases o with
  | obj C'' ns' os =>
   have ek:C''=C'∧ns'=ns∧O.frzL os=xs:=by injection ea with h1 h2 h3; exact⟨h1,h2,h3⟩
   obtain⟨rfl,rfl,rfl⟩:=ek
   obtain⟨f',j,y1,ef,ej,ey,rfl,_⟩:=qK est
   injection ef with _ ef
   injection ef with ef _
   injection ef with ef
   subst ef
   obtain⟨a',_,w',rest,ex,st',_,_⟩:=mC sa est
   injection ex with ex
   subst ex
   obtain⟨b,eb,st2⟩:=id st'
   injection eb with eb
   subst eb
   have nz:vw B.Z H a=H a:=by
    obtain⟨_,_,_,_,_,_,_,s2⟩:=ae.openO sa
    rename_i a2 _ _ e2 _ _ _
    obtain⟨F,r,nd,c⟩:=s2.reps
    injection e2 with e2
    subst e2
    exact bU (c a List.mem_cons_self).2.2.1
   have ew:w'=w:=by
    rcases st2 with⟨vs',i,h1,z,h2⟩ | (⟨kvs,kk,h1,z,h3⟩ | ⟨kvs,kk,h1,z,h3⟩) | ⟨C',dx,fs,f',h1,z,h2⟩
    ·cases z
    ·cases z
    ·cases z
    ·rw [nz,ha]at h1
     injection h1 with h1
     injection h1 with _ _ h1
     injection z with _ z
     injection z with z _
     injection z with z
     subst h1 z
     rw [g3]at h2
     exact(Option.some.inj h2).symm
   rw [ew]at st'
   refine⟨st',?_⟩
   have fl:∀ {ns:List Str}{os:List O}{j:Nat}{y:O},jP f ns=some j→os[j]?=some y→eV f ns (O.frzL os)=some y.frz:=by
    intro ns
    induction ns with
    | nil=>intro os j y h; cases h
    | cons n ns ih =>
     intro os j y h h2
     cases os with
     | nil=>simp at h2
     | cons o os =>
      unfold jP at h
      show(if n=f then some (O.frz o)else eV f ns (O.frzL os))=some y.frz
      by_cases hn:n=f
      ·rw [if_pos hn]at h ⊢
       injection h with h
       subst h
       simp at h2
       rw [h2]
      ·rw [if_neg hn]at h ⊢
       obtain⟨i,h1,h3⟩:=Option.map_eq_some_iff.mp h
       subst h3
       exact ih h1 (by simpa using h2)
   rw [fl ej ey]at e1
   exact Option.some.inj e1
  | _=>first | cases est | cases ea
 | _=>rw [ea]at e; cases e
theorem AD {C:Nat}{f:Str} (cl:Cls X.K (T.cls C)∧NoAttr X.K (T.cls C) f) (hb:attributeBase a f X.env (eval a X.env)=eval a X.env) (ha:PE X a (tA T B Φ W sa)):PE X (.Attribute a f pos) (tE T B Φ W (.fld C sa f)) :=
 (pe_fld ha hb).pv fun σ H Q ⟨ρ,l,at_,h⟩=>by
  rw [ev]at h
  refine⟨ρ,l,at_,h.rg.bind.mono fun a ρ1 k v H1 a1 av=>?_⟩
  exact EY (ym (as:=[a]) (vs:=[v]) k (a1.perm jv) ⟨av,trivial⟩) cl
theorem GF (ha:PE X e (tE T B Φ W sa)):PE X e (tE T B Φ W (.frz sa)):=ha.pv fun σ H Q ⟨ρ,l,a,h⟩=>by
 rw [ev]at h
 refine⟨ρ,l,a,RG.rp (h.rg.bind.mono fun o ρ1 k v H1 a1=>?_)⟩
 have k:∀ v H,At T B H ρ1 σ ((.d o.frz,v)::l)→Q v H:=k
 exact k v H1 ⟨a1.ok,((ae.perm a1.sat List.perm_middle).freeze).perm List.perm_middle.symm,a1.pr⟩
noncomputable def AE (B:Base) (H:Hp):Base:=⟨fun _=>False,B.Z,vw B.Z H,fun _=>False,[],B.zo⟩
theorem peek {ds:List D}{vs:List V} (s:ae T B H hs l) (hr:lP T (fun _=>False) (vw B.Z H) ds vs):Sat T (AE B H) H ((ds.map O.d).zip vs++[]):=by
 refine⟨s.lk,fun a o e _ _=>e,fun a z=>z.elim,fun a z=>z.elim,fun p hp=>JY (Q:=fun _=>False) s hp fun z=>z.elim,[],?_,List.nodup_nil,fun a ha=>by cases ha⟩
 show aO T (fun a=>(AE B H).G a∨a∈([]:List Addr)) (vw B.Z H) ((ds.map O.d).zip vs++[]) []
 rw [List.append_nil]
 have q:lP T (fun a=>(AE B H).G a∨a∈([]:List Addr)) (vw B.Z H) ds vs:=Dr.keepL fG.refl (fun a z=>.inl (z.elim id fun z=>by cases z)) ds vs hr
 exact lP.reps q
theorem y4 {res:List aW} (s:ae T B H hs l) (s2:Sat T (AE B H) H' res):ae T B H' hs l:=by
 obtain⟨F,r,nd,c⟩:=s.reps
 have old:∀ a o,vw B.Z H a=some o→(∀ q,(a,q)∉T.tabs)→vw B.Z H' a=some o:=fun a o e nt=>s2.old a o e (fun z=>z) nt
 have nn:∀ a,H a≠none→H' a≠none:=fun a h z=>by
  by_cases ht:∃ q,(a,q)∈T.tabs
  ·obtain⟨q,hq⟩:=ht
   obtain⟨_,_,ps,e1,_⟩:=s2.tb _ hq
   rw [show H' a=_ from e1]at z
   cases z
  ·cases e:vw B.Z H a with
   | none=>exact h (cQ.mp e)
   | some o =>
    have:=old a o e fun q hq=>ht ⟨q,hq⟩
    rw [cQ.mpr z]at this
    cases this
 refine⟨s2.lk,fun a o e hi nt=>old a o (s.old a o e hi nt) nt,s.oth,fun a ha=>nn a (s.io a ha),fun p hp=>⟨(s.tb p hp).1,(s.tb p hp).2.1,(s2.tb p hp).2.2⟩,F,aO.keep (fun a o e _ nt=>old a o e (s.tx e nt)) (fun a z=>.inl z) l F (fun a ha=>?_) r,nd,fun a ha=>?_⟩
 ·cases e:vw B.Z H a with
  | none=>exact((c a (List.mem_append_right _ ha)).2.2.2 (cQ.mp e)).elim
  | some o=>exact old a o e (s.tn (c a (List.mem_append_right _ ha)).2.1)
 ·obtain⟨c1,c2,c3,c4⟩:=c a ha
  exact⟨c1,c2,c3,nn a c4⟩
theorem EZ {k:Cm}{i:Nat}{rp:List SE}{b:SE}:xi Φ (.pkcm k i rp b):=by
 refine⟨fun ρ o ρ' e=>?_,fun ρ=>uD (by rw [kh] <;> simp) (by rw [dB]; simp)⟩
 rw [ev]at e
 obtain⟨_,_,e⟩:=Res.bnd_of e
 obtain⟨_,_,_,e⟩:=Res.bind_of e
 obtain⟨_,_,e⟩:=Res.bnd_of e
 obtain⟨_,_,_,e⟩:=Res.bind_of e
 obtain⟨_,_,e⟩:=Res.bnd_of e
 injection e with e _
 exact⟨_,e.symm⟩
theorem E6 {k:Cm}{i:Nat}{rp:List SE}{e1 e2:Expr} (hK:X.K=T.K) (hu:X.A.units+200 < cLine) (he:PE X e1 (BP T B Φ W i rp)) (hb:∀ B':Base,B'.pr=B.pr→PE X e2 (tE T B' Φ W sb)):GC T B Φ W X e1 (qI k) e2 (.pkcm k i rp sb):=by
 have hb':PE X e2 (fun σ H Q=>∃ B':Base,B'.pr=B.pr∧tE T B' Φ W sb σ H Q):=⟨fun pins s σ H Q I ⟨B',hpr,h⟩=>(hb B' hpr).run pins s σ H Q I h⟩
 have op:OpR X (compareOp (qI k)) (fun x y H Q=>∃ B2:Base,dW T B2 (zy k) false [x,y] H Q):=fun pins s σ H x y v u Q I rx ry ⟨B2,h⟩=>z4 (T:=T) (B:=B2) hK hu k pins s σ H x y v u Q I rx ry h
 refine⟨_,_,_,op,he,hb',fun σ H Q ⟨ρ,l,at_,h⟩=>?_⟩
 rw [ev]at h
 obtain⟨o,eo,h⟩:=h.rg.bnd
 obtain⟨v,evi⟩:=at_.ok.at eo
 have a0:=at_.take eo evi
 have hi:i < σ.length:=nJ evi
 refine⟨ρ.set i none,l,o,v,a0,evi,RG.more1 (h.bind.mono fun ks ρ1 k1=>?_)⟩
 obtain⟨p,ep,k1⟩:=k1.bnd
 refine⟨⟨p,ep⟩,fun H1 x a1 pa=>?_⟩
 obtain⟨B',hpr,a2,back⟩:=a1.hold
 refine⟨B',hpr,ρ1,l,a2,RG.rp (RG.held (o:=o) (v:=v) (fun p hp=>a1.pr p hp) (fun H' ρ' m a'=>(back H' ρ' σ m a1.pr a').1) (RG.more1 k1.bind) fun okk ρ3 k3=>?_)⟩
 intro y H3 a4
 obtain⟨a5,pres⟩:=back H3 ρ3 σ _ a1.pr a4
 obtain⟨r0,er,k4⟩:=k3.bnd
 have k4:∀ v H,At T B H (ρ3.set i (some o)) σ ((.d (.bl r0),v)::l)→Q v H:=k4
 have s5:Sat T B H3 ((o,v)::((okk,y)::(af ρ3 σ++l))):=a5.sat.perm (List.perm_middle.trans (List.perm_middle.cons _))
 obtain⟨p1,p2⟩:=p
 obtain⟨o',x',ad,rest,o1,px1,ef,s6,close⟩:=gG s5 ep
 have px:=pres ks _ _ x ep pa
 have ex:x=x':=px.inj px1
 subst ex
 injection ef with ef
 injection ef with ef _
 subst ef
 have d1:=s6.read
 have d2:Dr T (fun _=>False) (vw B.Z H3) okk.frz y:=(ae.perm s5 (.swap _ _ _)).read
 refine⟨AE B H3,[.d o'.frz,.d okk.frz],[],.d (.bl r0),rfl,peek (ds:=[o'.frz,okk.frz]) (vs:=[x,y]) s5 ⟨x,[y],rfl,d1,y,[],rfl,d2,rfl⟩,?_,fun u H' s7=>?_⟩
 ·show(au k o'.frz okk.frz).map (fun b=>O.d (.bl b))=some (.d (.bl r0))
  rw [er]; rfl
 ·have eu:u = .bl r0:=ae.read s7
  subst eu
  have s8:=y4 s5 s7
  have s9:Sat T B H' ((o,v)::(af ρ3 σ++l)):=(ae.drop1 (s8.perm (.swap _ _ _)))
  have a6:At T B H' ρ3 σ ((o,v)::l):=⟨a4.ok,s9.perm List.perm_middle.symm,a1.pr⟩
  have hi2:i < ρ3.length:=by rw [a4.ok.len]; exact hi
  have t:=(a6.clear i).fill (i:=i) (by unfold aq; rw [List.getElem?_set_self hi2]; rfl) (by simpa using hi2) evi
  rw [List.set_set]at t
  exact k4 _ H' t.blR
end
end PV
namespace PV
open PySem PySem.Spec PyProof.Rows
section
open L2
variable {T:Tab}{B:Base}{Φ:cW}{W:WX}{X:Cx}{e a b:Expr}{p p2 pos q:Pos}{sa sb:SE}
theorem AF (hK:X.K=T.K) (hc:X.calm=true) (hg:Gl X "len") (hm:X.mg "len" = none) (hg2:Gl X "set") (hm2:X.mg "set" = none) (ha:PE X a (tA T B Φ W sa)) (na:starEach [a] X.env=(false,eval a X.env)::starEach [] X.env)
  (na2:starEach [.Call (.Name "set" p2) [a] [] q] X.env=(false,eval (.Call (.Name "set" p2) [a] [] q) X.env)::starEach [] X.env) :
  PE X (.Call (.Name "len" p) [.Call (.Name "set" p2) [a] [] q] [] pos) (tE T B Φ W (.fn .lenset [sa])):=by
 have go:PE X (.Call (.Name "len" p) [.Call (.Name "set" p2) [a] [] q] [] pos) (fun σ H Q=>tA T B Φ W sa σ H fun x H1=>dW T B (w2 .lenset) false [x] H1 Q):=by
  refine⟨fun pins s σ H Q I h=>?_⟩
  refine Call_ (ld_blt I hg hm boot_len ?_)
  refine PyProof.Rows.callWith_builtin1 (PyProof.Rows.args_cons ?_ na2) rfl rfl
  refine Call_ (ld_blt I hg2 hm2 boot_set ?_)
  refine PyProof.Rows.callWith_type1 (PyProof.Rows.args_cons (thn (ha.run pins s σ H _ I h) fun v s1 hq=>PyProof.Rows.args_nil ?_) na) na rfl
  obtain⟨x,H1,I1,r1,q1⟩:=hq
  obtain⟨o,l,r,sa,e,q1⟩:=oI q1
  cases eo:o.frz with
  | lst xs =>
   rw [eo]at e
   have e:(match fL xs with
    | some ys=>if ys.length≤4000 then some (O.d (.int (met ys).length))else none
    | none=>none)=some r:=e
   cases es:fL xs with
   | none=>rw [es]at e; cases e
   | some ys =>
    rw [es]at e
    have e:(if ys.length≤4000 then some (O.d (.int (met ys).length))else none)=some r:=e
    by_cases hz:ys.length≤4000
    ·rw [if_pos hz]at e
     injection e with e
     subst e
     have d:=ae.read sa
     rw [eo]at d
     obtain⟨c,vs,rfl,h1,h2⟩:=d
     have hv:=mE es h2
     subst hv
     have hq:SqL X.K H1 c (ys.map V.str):=by
      rw [hK]
      rcases h1 with⟨_,h1⟩ | h1
      ·exact .inl (ny sa (fun _ _ z=>nomatch z) h1)
      ·exact .inr h1
     cases r1
     obtain⟨its,r,pl,_⟩:=I1.list hq
     have hi:=strsAre_of (us:=its) r
     have hlen:its.toArray.size=ys.length:=by rw [List.size_toArray,← r.length,List.length_map]
     refine qu (xs:=ys) (I1.ok.hd hc) pl.isList (by simpa using hi) (by unfold scanBound; omega) fun h' tk hS hk=>?_
     refine PyProof.Rows.args_nil ?_
     rw [hlen,List.take_length]at hS
     obtain⟨o,es,ep,t,ho,hex,hd,_,_,_,hf,hn⟩:=hS
     have I2:Inv X pins σ H1 {s1 with heap:=h',toks:=tk}:=I1.kept fun b o e=>hk b o (Heap.lt_size e) e
     have:=zJ ys
     exact call_len_set ho hex hd hf (by rw [hn]; omega) ⟨.int (met ys).length,H1,I2.tok _,⟨_,by rw [hn]⟩,q1 _ _ sa.int⟩
    ·rw [if_neg hz]at e; cases e
  | _=>rw [eo]at e; cases e
 refine go.pv fun σ H Q ⟨ρ,l,a,h⟩=>?_
 rw [ev,bN]at h
 have h:=h.rg.bind.bind
 refine⟨ρ,l,a,h.mono fun y ρ1 k v H1 a1 av=>?_⟩
 rw [bN]at k
 exact iD (as:=[y]) k.bind (a1.perm jv) ⟨av,trivial⟩
end
end PV
namespace PV
open PySem PySem.Spec PyProof.Rows L2
def fz (l:List (Nat×(List O→bC))):cW:=fun n=>⟨0,(l.lookup n).getD fun _=>.bad⟩
theorem bV {k:Nat}{A:Around} (h:Room k A):A.units+200 < cLine:=by have:=h.un; omega
theorem E7 {X:Cx}:Takes X WF:=takes0
section
variable {Φ:cW}
def AG:SE→Bool
 | .var _=>false
 | _=>true
theorem CC {se:SE} (h:AG se=true) (ρ:Env):dB Φ se ρ=(ev Φ se ρ).bind fun o ρ=>.ok (.val o) ρ:=by
 cases se <;> first | (cases h; done) | (rw [dB]; intro i z; cases z)
def AH:SE→Bool
 | .band _=>false
 | .bor _=>false
 | .bnot _=>false
 | _=>true
theorem CD {se:SE} (h:AH se=true) (ρ:Env):kh Φ se ρ=(dB Φ se ρ).bind fun a ρ=>(aB a ρ).bind fun o ρ=>(Res.of (qy o.frz) ρ).bind fun b ρ=>.ok b (back a o ρ):=by
 cases se <;> first | (cases h; done) | (rw [kh] <;> simp)
end
section
variable (P:Program) (w:World) (K:PySem.W.Frag) (mg:Str→Option Value) (base:Heap) (T:Tab)
structure Callee (x:Str) (ps:List Str) (k:Nat) (run:List O→bC):Prop where
 ex:∃ f fd,FnOk P w K mg base (L2.CX P w) k f fd ps (bD T run)∧mg x=some (.ref f)∧PySem.W.keepIn K (.ref f)=true∧Binds K fd ps []
structure AI (C:Nat) (m:Str) (ps:List Str) (k:Nat) (run:List O→bC):Prop where
 cl:Cls K (T.cls C)
 ex:∃ f fd,FnOk P w K mg base (L2.CX P w) k f fd ps (bD T run)∧Meth K (T.cls C) m f∧Binds K fd ps []
structure DP (C:Nat) (m:Str) (ps:List Str) (k:Nat) (run:List O→bC):Prop where
 cl:Cls K (T.cls C)
 ex:∃ q f fd,FnOk P w K mg base (L2.CX P w) k f fd ps (bD T run)∧PropOf K (T.cls C) m q f∧Binds K fd ps []
structure yn (C:Nat) (x:Str) (k:Nat) (run:List O→bC) (n:Nat) (ks:List Str) (g:List (Nat ⊕ D)):Prop where
 gm:mg x=some (.ref (T.cls C))
 ex:∃ f fd ps dv,FnOk P w K mg base (L2.CX P w) k f fd ps (bD T run)∧Mk K (T.cls C) f∧tN K fd ps (n+1) ks (.inl 0::g) dv∧∀ d,.inr d∈g→∀ own hp,Dr T own hp d (dv d)
end
def IC (n:Nat):List (Nat ⊕ D):=(List.range' 0 n).map .inl
section
variable {T:Tab}{B:Base}{Φ:cW}{W:WX}{X:Cx}{k fi n:Nat}{x m:Str}{ps ks:List Str}{run:List O→bC}{e o a b:Expr}{es:List Expr}{kws:List Keyword}{pos p apos:Pos}{sa sb se:SE}{ses sp sk:List SE}{C lv:Nat}{g:List (Nat ⊕ D)}
theorem ax (h:PE X e (tE T B Φ W se)) (hs:AG se=true):PE X e (tA T B Φ W se):=Ep h (CC hs)
theorem vj (hK:X.K=T.K) (ha:PE X a (tA T B Φ W sa)) (he:lV a=true) (hs:AH sa=true):PT X a (tT T B Φ W sa):=Eu hK ha he (CD hs)
theorem uS (F:Callee X.prog X.w X.K X.mg X.base T x ps k run) (hΦ:(Φ fi).run=run) (hr:Room lv X.A) (hl:k≤lv) (hg:Gl X x) (tk:Takes X W) (ha:PA X (e::es) (tJ T B Φ W ses)) (hdb:(x == ("__debug__" : Str))=false)
  (he:starEach (e::es) X.env=(false,eval e X.env)::starEach es X.env) (hpl:(backTo pos (starEach es X.env)).any (·.1)=false):PE X (.Call (.Name x p) (e::es) [] pos) (tE T B Φ W (.call fi ses)):=by
 obtain⟨f,fd,F,hm,hk,hb⟩:=F.ex
 exact s_call F (n:=(Φ fi).lvl) (by rw [← hΦ]) (hr.mono hl) hg hm hk hb tk ha hdb he hpl
theorem CF (M:DP X.prog X.w X.K X.mg X.base T C m ps k run) (hΦ:(Φ fi).run=run) (hr:Room lv X.A) (hl:k+1≤lv) (he:PE X e (tA T B Φ W sa)) (hab:attributeBase e m X.env (eval e X.env)=eval e X.env):PE X (.Attribute e m pos) (tE T B Φ W (.prop C m fi sa)):=by
 obtain⟨q,f,fd,F,hp,hb⟩:=M.ex
 exact EO M.cl hp F (n:=(Φ fi).lvl) (by rw [← hΦ]) (hr.mono hl) hb he hab
theorem uT (M:yn X.prog X.w X.K X.mg X.base T C x k run sp.length ks g) (hΦ:(Φ fi).run=run) (hr:Room lv X.A) (hl:k+1≤lv) (hlen:sk.length=ks.length)
  (hg:Gl X x) (tk:Takes X W) (hp:PA X es (tJ T B Φ W sp)) (hkw:PK X kws (tJ T B Φ W sk)) (h0:es = []→sp = []) (h1:uN X es)
  (hall:(backToKw pos (keywordEach kws X.env)).all (·.1.isSome)=true) (hks:(backToKw pos (keywordEach kws X.env)).filterMap (·.1)=ks) (hpl:((backTo pos (starEach es X.env)).any (·.1)||(backToKw pos (keywordEach kws X.env)).any (·.1.isNone))=false)
  (hdb:(x == ("__debug__" : Str))=false):PE X (.Call (.Name x p) es kws pos) (tE T B Φ W (.make C fi (sp++sk) (.inl 0::g))):=by
 obtain⟨f,fd,ps,dv,F,mk,hb,hd⟩:=M.ex
 exact Cv mk F (n:=(Φ fi).lvl) (by rw [← hΦ]) (hr.mono hl) hb hd hlen hg M.gm tk hp hkw h0 h1 hall hks hpl hdb
end
end PV
namespace PV
open PySem PySem.Spec PyProof.Rows L2
section
variable {T:Tab}{B:Base}{Φ:cW}{W:WX}{X:Cx}{x:Str}{p1 pos:Pos}{a:Expr}
theorem GG {i C:Nat}{f:Str} (cl:Cls X.K (T.cls C)∧NoAttr X.K (T.cls C) f) (hN:X.N[i]?=some x) (hv:Vis X.env.scope x) (hd:(x == ("__debug__" : Str))=false) (hc:(x == ("__classdict__" : Str))=false)
  (ha:∀ v,assign (.Attribute (.Name x p1) f pos) X.env v=(do
   let ov ← holding [v] (eval (.Name x p1) X.env)
   standAt pos.atName
   holding [v,ov] (setAttr ov f v)
   release [v,ov] [])):PG X (.Attribute (.Name x p1) f pos) (gO T B (.fl i C f)):=by
 refine⟨fun pins s σ H w u Q I r h=>?_⟩
 obtain⟨ov,ρ1,ρ2,l,a1,e,q⟩:=h
 rw [aF]at e
 cases eo:aq ρ1 i with
 | none=>rw [eo]at e; cases e
 | some o =>
  rw [eo]at e
  obtain⟨v,evi⟩:=a1.ok.at eo
  have a0:=a1.take eo evi
  cases o with
  | obj C' ns os =>
   have e:(match(if C'=C∧ns.length < 1000 then some (let r:=bA f ov ns os; O.obj C' r.1 r.2)else none)with
    | some b'=>some (ρ1.set i (some b'))
    | none=>none)=some ρ2:=e
   by_cases hC:C'=C∧ns.length < 1000
   ·rw [if_pos hC]at e
    have e:some (ρ1.set i (some (O.obj C' (bA f ov ns os).1 (bA f ov ns os).2)))=some ρ2:=e
    have e9:=Option.some.inj e
    obtain⟨rfl,hlen⟩:=hC
    have s1:Sat T B H ((.obj C' ns os,v)::((ov,w)::(af (ρ1.set i none) σ++l))):=a0.sat.perm (List.perm_middle.trans (List.perm_middle.cons _))
    obtain⟨b,dx,ws,rfl,hb,hn,hl,s2⟩:=ae.openO s1
    obtain⟨ws',e1,e2,e3,k⟩:=qX (f:=f) (y:=w) (v:=ov) (ns:=ns) (os:=os) (ws:=ws) (by omega) hn
    have s3:ae T B H [b] ((bA f ov ns os).2.zip ws'++(af (ρ1.set i none) σ++l)):=k (s2.perm List.perm_middle)
    have ne:(∀ xs,H b≠some (.tup xs))∧(∀ ob u,H b≠some (.frz ob u))∧∀ g,H b≠some (.ext g):=⟨(fun xs z=>by rw [hb]at z; cases z),(fun ob u z=>by rw [hb]at z; cases z),fun g z=>by rw [hb]at z; cases z⟩
    have s4:Sat T B (upd H b (.ins (T.cls C') dx ((bA f ov ns os).1.zip ws'))) ((.obj C' (bA f ov ns os).1 (bA f ov ns os).2,.ref b)::(af (ρ1.set i none) σ++l)):=ae.closeO (s3.write ne.1 ne.2.1 ne.2.2) upd_same e2 e3
    have a5:At T B (upd H b (.ins (T.cls C') dx ((bA f ov ns os).1.zip ws'))) (ρ1.set i none) σ ((.obj C' (bA f ov ns os).1 (bA f ov ns os).2,.ref b)::l):=⟨a0.ok,s4.perm List.perm_middle.symm,a0.pr⟩
    have hi2:i < (ρ1.set i none).length:=by rw [List.length_set]; exact iJ eo
    have t:=a5.fill (i:=i) (by unfold aq; rw [List.getElem?_set_self (iJ eo)]; rfl) hi2 evi
    rw [List.set_set]at t
    have t2:At T B (upd H b (.ins (T.cls C') dx (putF f w (ns.zip ws)))) ρ2 σ l:=by rw [e1,← e9]; exact t
    rw [ha]
    refine wpAny_bind (wpAny_holding (thn ((pe_var hN hv hd hc).run pins s σ H (fun x H1=>x = .ref b∧H1=H) I ⟨.ref b,evi,rfl,rfl⟩) fun oo s1 hq=>?_))
    obtain⟨x',H1,I1,rx,rfl,rfl⟩:=hq
    obtain rfl:oo=Value.ref b:=rx
    refine wpAny_bind (wpAny_standAt (wpAny_bind (wpAny_holding (setattr_ok I1 hb cl.1 cl.2 (by rw [List.length_zip]; omega) r fun s3 I3=>?_))))
    exact wpAny_release ⟨σ,_,I3,q σ _ t2⟩
   ·rw [if_neg hC]at e; cases e
  | _=>cases e
theorem qZ {i:Int} (hg:Gl X x) (hm:∃ t,X.mg x=some (.int i t)) (hdb:(x == ("__debug__" : Str))=false):PE X (.Name x pos) (tE T B Φ W (.glo x (.int i))):=by
 obtain⟨t,hm⟩:=hm
 exact J0 (v:=.int i) (pe_glob hg hm ⟨t,rfl⟩ hdb) fun _ _=>rfl
theorem AJ {z:Str} (hg:Gl X x) (hm:∃ t,X.mg x=some (.str z t)) (hdb:(x == ("__debug__" : Str))=false):PE X (.Name x pos) (tE T B Φ W (.glo x (.str z))):=by
 obtain⟨t,hm⟩:=hm
 exact J0 (v:=.str z) (pe_glob hg hm ⟨t,rfl⟩ hdb) fun _ _=>rfl
end
end PV
namespace PV
open PySem PySem.Spec PyProof.Rows L2
theorem GH {n:Nat} (h:n≤1000):n≤sizeLine:=by rw [sizeLine_eq]; omega
theorem E8 {i C:Nat}{f:Str}{ts:List Tg}{xs:List D}{ρ:Env}:aF.goD (.fl i C f::ts) xs ρ=none:=by
 cases xs with
 | nil=>rw [aF.goD] <;> simp
 | cons x xs =>
  rw [aF.goD]
  have:aE (.fl i C f) x ρ=none:=by rw [aE] <;> simp
  rw [this]
theorem E9 {P:Program}{w:World}{K:PySem.W.Frag}{mg:Str→Option Value}{base:Heap}{k:Nat}{f:Addr}{fd:FuncData}{ps:List Str}{T:Tab}:FnOk P w K mg base (L2.CX P w) k f fd ps (bD T fun _=>.bad) :=
 ⟨fun vs H Q E ⟨_,_,_,_,_,z⟩=>z.elim,fun A outer s H args us vs Q E _ _ _ _ ⟨_,_,_,_,_,z⟩=>z.elim⟩
section
variable {T:Tab}{B:Base}{Φ:cW}{W:WX}{X:Cx}{L:List Nat}
theorem tV {i:Nat}{y:Str}{py spos:Pos}{elt tg iter:Expr}{ifs:List Expr}{scope:Scope}{own:List (Str×Nat)}{t:Tg}{ie:IE}{se:SE}{sifs:List SE}{pos:Pos}
  (pr:dD B L) (hc:X.calm=true) (hN:X.N.Nodup) (hy:X.N[i]?=some y) (hyl:X.env.scope.names.lookup y=some .local) (hpi:L.contains i=false)
  (hsw:swapsWith (.ListComp elt [⟨tg,iter,ifs,0⟩] scope pos) (some (.Name y py)) spos.line X.env=pure true) (nd:(own.map (·.2)).Nodup) (hp:(L.all fun i=>!(own.map (·.2)).contains i)=true) (htg:∀ i∈ar t,i∈own.map (·.2))
  (hi:PI X tg iter (tI T B Φ W ie)) (ok:BlkOk X.N X.env.scope scope own)
  (hg:∀ (s:Shared) (H:Hp) (C:Addr) (cl:List (Str×Addr)) (fp:List Addr),PG (X.blk s H scope (compEnvC scope cl C X.env) fp) tg (gT T B t))
  (ht:∀ (s:Shared) (H:Hp) (C:Addr) (cl:List (Str×Addr)) (fp:List Addr),PTs (X.blk s H scope (compEnvC scope cl C X.env) fp) ifs (vi T B Φ sifs))
  (he:∀ (s:Shared) (H:Hp) (C:Addr) (cl:List (Str×Addr)) (fp:List Addr),PE (X.blk s H scope (compEnvC scope cl C X.env) fp) elt (tE T B Φ WF se)) (hs:∀ x,foldedSetIterable iter X.env x=pure x) :
  PS X (.Assign [.Name y py] (.ListComp elt [⟨tg,iter,ifs,0⟩] scope pos) spos) (tS T B Φ W (.asg (.nm i) (.comp .lst se (own.map (·.2)) t ie sifs))) :=
 Aq (fun ρ p ρ' e=>(qY e).2) hc hN hy hyl (pr.ne hpi) hsw nd (pr.nin hp) htg hi ok hg ht he hs
theorem Fb {es:List Expr}{k:Nat}{ts:List Tg}{pos:Pos} (hK:X.K=T.K) (hc:X.calm=true) (h:PGs X es (FU T B ts)) (hn:(assignEach es X.env).length=ts.length) (hst:(assignEach es X.env).findIdx? (·.1)=none) (hx:∀ xs ρ,aF.goD ts xs ρ=none):PG X (.Tuple es k pos) (gO T B (.tp ts)):=by
 refine(pg_tup (n:=ts.length) hc h hn hst).pv fun pins s v σ H Q I ⟨o,ρ,ρ',l,a,e,q⟩=>?_
 cases o with
 | d x =>
  cases x with
  | tup xs =>
   rw [aF,hx]at e
   cases e
  | _=>rw [aF]at e <;> first | cases e | simp
 | tup xs =>
  have e:aF.go ts xs ρ=some ρ':=by rw [aF]at e; exact e
  have s1:Sat T B H ((.tup xs,v)::(af ρ σ++l)):=a.sat.perm List.perm_middle
  obtain⟨b,vs,rfl,hb,hl,s2⟩:=ae.openT s1
  exact⟨b,vs,rfl,SqT.of hb,by rw [← hl,qP e],⟨xs,ρ,ρ',l,hl,⟨a.ok,s2.perm ak,a.pr⟩,e,q⟩⟩
 | _=>rw [aF]at e <;> first | cases e | simp
end
end PV
namespace PV
open PySem PySem.Spec PyProof.Rows L2
open He (ga ma fAd ba eqO eqO_ok)
theorem AK {n:Nat}{fa:List (iH→Bool)}{fn:List DefA}{g:Addr→Option Obj}{s:Shared} (h:∀ a,g a=s.heap.get? a):zB n fa fn g=(Du n fa fn).obs s:=by
 have e:g=s.heap.get?:=funext h
 rw [e] <;> rfl
section
variable {fa:List (iH→Bool)}{fn:List DefA}{K:iH}
theorem sX.fact (c:sX fa fn K) (i:Nat) {f:iH→Bool} (h:fa[i]?=some f:=by rfl):f K=true:=by
 have c1:=(ba (show((fa.all fun f=>f K)&&fn.all fun d=>d.ok K)=true from congrArg (fun z:He.AlD=>z.1) c)).1
 exact List.all_eq_true.mp c1 f (List.mem_of_getElem? h)
theorem sX.def_ (c:sX fa fn K) (i:Nat) {d:DefA} (h:fn[i]?=some d:=by rfl):∃ fd,L2.FunD K d.name d.qual d.params d.body d.scope (d.dvs K) (d.kws K) (d.at_ K) fd:=by
 have c2:=(ba (show((fa.all fun f=>f K)&&fn.all fun d=>d.ok K)=true from congrArg (fun z:He.AlD=>z.1) c)).2
 have e:fn.map (fun d=>He5.fnA K (d.at_ K))=fn.map He5.DefA.val:=congrArg (fun z:He.AlD=>z.2) c
 have e2:(fn.map fun d=>He5.fnA K (d.at_ K))[i]?=(fn.map He5.DefA.val)[i]?:=by rw [e]
 rw [List.getElem?_map,List.getElem?_map,h]at e2
 exact He5.DefA.funD (Option.some.inj e2) (List.all_eq_true.mp c2 d (List.mem_of_getElem? h))
end
theorem AL {K:iH}{x f:Str} (h:Dw x f K=true):PropOf K (ga K x) f (ma K (ga K x) f) (Im K x f):=by
 obtain⟨h1,h⟩:=ba h
 obtain⟨h2,h⟩:=ba h
 obtain⟨h3,h4⟩:=ba h
 refine⟨eqO_ok h1,eqO_ok h2,of_decide_eq_true h3,?_⟩
 unfold Im
 split at h4
 ·rename_i g r e
  exact⟨r,by rw [e]⟩
 ·cases h4
theorem AM {K:iH}{x:Str} (h:Dx x K=true):EL K (ga K x):=by
 obtain⟨h1,h⟩:=ba h
 obtain⟨h2,h⟩:=ba h
 obtain⟨h3,h⟩:=ba h
 obtain⟨h4,h5⟩:=ba h
 exact⟨He.cls_ok h1,eqO_ok h2,eqO_ok h3,of_decide_eq_true h4,of_decide_eq_true h5⟩
abbrev CG (nm:Nat→Str) (tbs:List (Addr×Str)) (K:iH):Tab:=⟨K,fun n=>ga K (nm n),tbs⟩
abbrev iE (nm:Nat→Str) (K:iH):Tab:=CG nm [] K
theorem AN {K:iH}{x:Str} (h:Dy x K=true):ExcC K (ga K x):=by
 obtain⟨h1,h⟩:=ba h
 obtain⟨h2,h⟩:=ba h
 obtain⟨h3,h⟩:=ba h
 obtain⟨h4,h⟩:=ba h
 obtain⟨h5,h⟩:=ba h
 obtain⟨h6,h⟩:=ba h
 obtain⟨h7,h8⟩:=ba h
 exact⟨eqO_ok h1,eqO_ok h2,of_decide_eq_true h3,h4,eqO_ok h5,eqO_ok h6,of_decide_eq_true h7,of_decide_eq_true h8⟩
theorem kM {tbs:List (Addr×Str)}{nm:Nat→Str}{cs:List Nat}{K:iH} (h:Ed nm cs K=true):p8 K (CG nm tbs K) cs:=by
 obtain⟨h1,h⟩:=ba h
 obtain⟨h2,h⟩:=ba h
 obtain⟨h3,h4⟩:=ba h
 refine⟨fun C hC hl=>?_,fun C hC hl=>?_,fun C hC b hb=>of_decide_eq_true (List.all_eq_true.mp (List.all_eq_true.mp h2 C hC) b hb),
  fun C hC b hb=>of_decide_eq_true (List.all_eq_true.mp (List.all_eq_true.mp h3 C hC) b hb),fun C hC b hb=>of_decide_eq_true (List.all_eq_true.mp (List.all_eq_true.mp h4 C hC) b hb)⟩
 ·have q:=List.all_eq_true.mp h1 C hC
  rw [if_neg (by omega)]at q
  exact AM q
 ·have q:=List.all_eq_true.mp h1 C hC
  rw [if_pos hl]at q
  exact AN q
section
variable {K:iH}{x qual:Str}{params:Arguments}{body:List Stmt}{scope:Scope}{dvs:List V}{kws:List (Str×V)}{f:Addr}{fd:FuncData}{ps:List Str}
theorem yo:∀ {dds:List D}{dv:D→V}{its:List Value},dds.Nodup→Vals (dds.map dv) its→∃ du:D→Value,its=dds.map du∧∀ d∈dds,RelV (dv d) (du d)
 | [],dv,its,_,r=>by
  cases r
  exact⟨fun _=>.none,rfl,fun d z=>nomatch z⟩
 | a::dds,dv,its,nd,r=>by
  cases r with
  | cons r0 r1 =>
   rename_i u us
   obtain⟨du,e,h⟩:=yo (List.nodup_cons.mp nd).2 r1
   classical
   refine⟨fun d=>if d=a then u else du d,?_,fun d hd=>?_⟩
   ·rw [List.map_cons,if_pos rfl,e]
    refine congrArg _ (List.map_congr_left fun d hd=>?_)
    rw [if_neg]
    intro z
    exact(List.nodup_cons.mp nd).1 (z ▸ hd)
   ·dsimp only
    split
    ·rename_i z
     subst z
     exact r0
    ·rename_i z
     exact h d ((List.mem_cons.mp hd).resolve_left z)
theorem oR {n:Nat}{ks:List Str}{g:List (Nat ⊕ D)}{dds:List D}{dv:D→V} (F:FunD K x qual params body scope dvs kws f fd) (hd:dvs≠[]) (hdd:dvs=dds.map dv) (hn:dds.Nodup) (nd:(qU g).Nodup) (hg:∀ d,.inr d∈g→d∈dds)
  (h:∀ (T:Addr) (kV doc pm:Value) (an:Option Addr) (cdv ct:Value) (us ws zs:List Value) (du:D→Value),us.length=n→ws.length=ks.length→jT du (us++ws) g=some zs →
   ∃ k,bindArgs (PySem.W.fnOf x qual params body scope (.ref T) kV doc pm an cdv ct) ⟨us,ks.zip ws⟩=seqItems? (.ref T) >>= k∧k (some (dds.map du).toArray)=pure (ps.zip zs)):tN K fd ps n ks g dv:=by
 obtain⟨oc,od,dV,kV,doc,pm,an,cdv,ct,osl,rfl,lk,hcd,hD,hK⟩:=F.ex
 rcases hD with⟨e,_⟩ | ⟨_,T,o,its,m,rfl,lT,oT,rT⟩
 ·exact absurd e hd
 ·subst hdd
  obtain⟨du,rfl,hr⟩:=yo hn rT
  refine⟨nd,du,fun d hd=>hr d (hg d hd),fun s us ws zs X l1 l2 e=>?_⟩
  obtain⟨k,e1,e2⟩:=h T kV doc pm an cdv ct us ws zs du l1 l2 e
  refine BindsTo.of_looks fun M=>?_
  rw [e1]
  exact looks_items X lT oT (.of_pure e2)
end
theorem yp {T:Tab}{own:Addr→Prop}{H:Hp}:∀ ns:List Int,lP T own H (ns.map .int) (ns.map V.int)
 | []=>rfl
 | n::ns=>⟨.int n,ns.map V.int,rfl,rfl,yp ns⟩
theorem CH {l:PySem.W.OpenLaw}{n k:Nat}{q:Program}{loose:List Str}{XP:(Str→Option Value)→Heap→Prop}{YP:World→Heap→Prop}{d:DefRec}{x:Str}
  (hn:l.most=some n) (hn2:n≤sizeLine) (hdf:d.params.defaults = []) (hr:Room k callerA)
  (F:∀ (w:World) (mg:Str→Option Value) (fa:Addr) (h:Heap),YP w h→h.Ns mainGlobals mg→mg d.name=some (.ref fa) →
   ∃ (K:iH) (fd:FuncData) (sp:Sp),K.In h∧(∀ (s:Shared) (u:Value),BindsTo s fd ⟨[u],[]⟩ [(x,u)]) ∧
    (∀ (H:Hp) (a:Addr) (ns:List Int),ns.length≤n→Only H→SqL K H a (ns.map V.int)→sp [.ref a] H (fun v _=>v = .bl true) fun _ _ _=>False) ∧
    ∀ base:Heap,K.In base→base.Ns mainGlobals mg→FnOk l.prog w K mg base (L2.CX l.prog w) k fa fd [x] sp) :
  PySem.W.WalkO q loose XP YP l.row.toRowW d [] (fun f vs=>PySem.call f vs):=by
 refine Att.attach_call hn hdf fun w s₀ s₁ mg mb fa o pm cd doc a vs ns G Y ho hd hcd hmg hobj hints hlen hg=>?_
 obtain⟨K,fd,sp,KX,hb,hsp,hF⟩:=F w mg fa _ Y G.T.g hmg
 exact law_call KX G.T.g G.T.b G.T.builtins G.T.nolimit hg hobj hints (Nat.le_trans hlen hn2) hr hF hb (fun H hO hS=>hsp H a ns hlen hO hS) fun H e s' ⟨_,_,_,_,_,_,_,_,_,_,_,_,z⟩=>z
theorem AO {K:iH}{x qual:Str}{params:Arguments}{body:List Stmt}{scope:Scope}{dvs:List V}{kws:List (Str×V)}{f:Addr}{fd:FuncData}{ps:List Str} (F:FunD K x qual params body scope dvs kws f fd) (hd:dvs≠[])
  (h:∀ (T:Addr) (kV doc pm:Value) (an:Option Addr) (cdv ct:Value) (us its:List Value),us.length=ps.length→its.length=dvs.length →
   ∃ k,bindArgs (PySem.W.fnOf x qual params body scope (.ref T) kV doc pm an cdv ct) ⟨us,[]⟩=seqItems? (.ref T) >>= k∧k (some its.toArray)=pure (ps.zip us)):Binds K fd ps []:=by
 obtain⟨ds,h1,h2⟩:=F.binds1 (ps:=ps) ps.length dvs.length hd (by omega) fun T kV doc pm an cdv ct us its l1 l2=>by
  obtain⟨k,e1,e2⟩:=h T kV doc pm an cdv ct us its l1 l2
  refine⟨k,e1,?_⟩
  rw [List.drop_of_length_le (by omega),List.append_nil]
  exact e2
 rw [List.drop_of_length_le (Nat.le_refl _)]at h1
 cases h1
 exact h2
theorem Fc {K:iH}{nm:Nat→Str}{run:List O→bC}{H:Hp}{a:Addr}{ns:List Int} (hO:Only H) (hS:SqL K H a (ns.map V.int)) (h:∃ o,run [.d (.lst (ns.map .int))] = .ok (.d (.bl true)) [o]):bD (iE nm K) run [.ref a] H (fun v _=>v = .bl true) fun _ _ _=>False:=by
 obtain⟨o,h⟩:=h
 have hv:∀ a,vw (fun _=>False) H a=H a:=fun a=>bU id
 have hD:Dr (iE nm K) (fun a=>False∨a∈([]:List Addr)++[]) (vw (fun _=>False) H) (.lst (ns.map .int)) (.ref a):=by
  refine⟨a,ns.map V.int,rfl,?_,yp ns⟩
  rcases hS with q | q
  ·exact .inl ⟨by simp,by rw [show vw (fun _=>False) H=H from funext hv]; exact q⟩
  ·exact .inr q
 refine⟨⟨fun _=>False,fun _=>False,H,fun _=>False,[],fun _=>default⟩,[.d (.lst (ns.map .int))],[],rfl,⟨fun a z=>z.elim,fun a u e _ _=>(hv a).trans e,fun a z=>z.elim,fun a z=>z.elim,fun p hp=>(by cases hp),[],⟨[],[],rfl,⟨rfl,hD⟩,rfl⟩,List.nodup_nil,fun a z=>by cases z⟩,?_⟩
 rw [h]
 intro u H' _ s
 have d:=s.read
 exact d
end PV
namespace PV
open PySem L2
@[simp] theorem DQ {o:O}{ρ:Env}:aB (.val o) ρ = .ok o ρ:=rfl
@[simp] theorem CI {i:Nat}{ρ:Env}:aB (.slot i) ρ=bnd (aq ρ i) fun o=>.ok o (aB.taken o i ρ):=rfl
@[simp] theorem FV {x:D}{i:Nat}{ρ:Env}:aB.taken (.d x) i ρ=ρ:=rfl
@[simp] theorem DR {x:List O}{i:Nat}{ρ:Env}:aB.taken (.lst x) i ρ=ρ.set i none:=rfl
@[simp] theorem DS {k:List D}{x:List O}{i:Nat}{ρ:Env}:aB.taken (.dic k x) i ρ=ρ.set i none:=rfl
@[simp] theorem DT {C:Nat}{k:List Str}{x:List O}{i:Nat}{ρ:Env}:aB.taken (.obj C k x) i ρ=ρ.set i none:=rfl
@[simp] theorem CJ {ρ:Env}:cX [] ρ = .ok [] ρ:=rfl
@[simp] theorem BQ {a:Arg}{as:List Arg}{ρ:Env}:cX (a::as) ρ=(aB a ρ).bind fun o ρ=>(cX as ρ).bind fun os ρ=>.ok (o::os) ρ:=rfl
@[simp] theorem cU {x:D}:(O.d x).frz=x:=by rw [O.frz]
@[simp] theorem oS {xs:List O}:(O.lst xs).frz = .lst (xs.map O.frz):=by rw [O.frz,bu]
@[simp] theorem FW {k:List D}{xs:List O}:(O.dic k xs).frz = .dic k (xs.map O.frz):=by rw [O.frz,bu]
@[simp] theorem FX {C:Nat}{k:List Str}{xs:List O}:(O.obj C k xs).frz = .obj C k (xs.map O.frz):=by rw [O.frz,bu]
@[simp] theorem FY {xs:List O}:(O.tup xs).frz = .tup (xs.map O.frz):=by rw [O.frz,bu]
@[simp] theorem GI {x:D}:(O.d x).shal = .d x:=rfl
@[simp] theorem xj {x:List O}:(O.lst x).shal = .lst (x.map fun o=>.d o.frz):=rfl
@[simp] theorem Fd {o p:O}{ρ:Env}:back (.val o) p ρ=ρ:=rfl
@[simp] theorem DU {i:Nat}{p:O}{ρ:Env}:back (.slot i) p ρ=ρ.set i (some p):=rfl
@[simp] theorem DV {os:List O}{ρ:Env}:aL [] os ρ=ρ:=by cases os <;> rfl
@[simp] theorem CK {a:Arg}{as:List Arg}{o:O}{os:List O}{ρ:Env}:aL (a::as) (o::os) ρ=aL as os (back a o ρ):=rfl
@[simp] theorem FZ {b:Bool}:qy (.bl b)=some b:=rfl
@[simp] theorem Fe {b:Bool}:vx (.d (.bl b))=some b:=rfl
@[simp] theorem F0 {i j:Int}:lL (.int i) (.int j)=true:=rfl
@[simp] theorem Ff {n:Nat}{i:Int}:ixN n i=ixN n i:=rfl
@[simp] theorem HK {o:O}{ρ:Env}{args:List O}:(Res.ok (.rt o) ρ).done args=match bj args ρ with
  | some ios=>.ok o ios
  | none=>.bad:=rfl
@[simp] theorem HL {ρ:Env}{args:List O}:(Res.ok .nx ρ).done args=match bj args ρ with
  | some ios=>.ok (.d .non) ios
  | none=>.bad:=rfl
@[simp] theorem HM {α β:Type}{o:Option α}{f:α→Res β}:(bnd o f).noX=bnd o fun a=>(f a).noX:=by cases o <;> rfl
section
variable {i C:Nat}{o:O}{os:List O}{ρ:Env}{ts:List Tg}{t:Tg}{d:D}{ds:List D}{f:Str}
@[simp] theorem gK:aE (.nm i) d ρ=some (ρ.set i (some (.d d))):=by rw [aE]
@[simp] theorem F5:aE (.tp ts) (.tup ds) ρ=aE.go ts ds ρ:=by rw [aE]
@[simp] theorem ID:aE.go [] [] ρ=some ρ:=by rw [aE.go]
@[simp] theorem IF:aE.go (t::ts) (d::ds) ρ=match aE t d ρ with
  | some ρ'=>aE.go ts ds ρ'
  | none=>none:=by first | (rw [aE.go]; done) | (rw [aE.go]; rfl)
@[simp] theorem F6:aF (.nm i) o ρ=some (ρ.set i (some o)):=by rw [aF]
@[simp] theorem Fg:aF (.tp ts) (.d (.tup ds)) ρ=aF.goD ts ds ρ:=by rw [aF]
@[simp] theorem Fh:aF (.tp ts) (.tup os) ρ=aF.go ts os ρ:=by rw [aF]
@[simp] theorem F7:aF (.fl i C f) o ρ=match aq ρ i with
  | some b=>match B0 C f o b with
   | some b'=>some (ρ.set i (some b'))
   | none=>none
  | none=>none:=by first | (rw [aF]; done) | (rw [aF]; rfl)
@[simp] theorem IG:aF.go [] [] ρ=some ρ:=by rw [aF.go]
@[simp] theorem IH:aF.go (t::ts) (o::os) ρ=match aF t o ρ with
  | some ρ'=>aF.go ts os ρ'
  | none=>none:=by first | (rw [aF.go]; done) | (rw [aF.go]; rfl)
@[simp] theorem II:aF.goD [] [] ρ=some ρ:=by rw [aF.goD]
@[simp] theorem IJ:aF.goD (t::ts) (d::ds) ρ=match aE t d ρ with
  | some ρ'=>aF.goD ts ds ρ'
  | none=>none:=by first | (rw [aF.goD]; done) | (rw [aF.goD]; rfl)
end
theorem aX {Φ:cW}{ss:List SS}{n m:Nat}{L:List Nat}{args:List O} (h1:args.length=n) (h2:i7 L 0 args=true):gJ Φ ss n m L args=dU Φ ss m args:=by
 unfold gJ
 rw [if_pos ⟨h1,h2⟩]
section
variable {i j:Int}{x y z:Str}{xs ys:List D}{u v:D}{os:List O}{o:O}{ks:List D}{b:Bool}{C:Nat}{ns:List Str}
@[simp] theorem eU:jO .add [u,v]=yT u v:=rfl
@[simp] theorem IK:yT (.int i) (.int j)=some (.d (.int (i+j))):=rfl
@[simp] theorem IL:yT (.str x) (.str y)=if x.length+y.length≤sizeLine then some (.d (.str (x++y)))else none:=rfl
@[simp] theorem IM:yT (.lst xs) (.lst ys)=if xs.length+ys.length≤sizeLine then some (.lst ((xs++ys).map .d))else none:=rfl
@[simp] theorem IP:yT (.tup xs) (.tup ys)=if xs.length+ys.length≤sizeLine then some (.d (.tup (xs++ys)))else none:=rfl
@[simp] theorem nU:jO .sub [.int i,.int j]=some (.d (.int (i - j))):=rfl
@[simp] theorem AQ:jO .mul [.int i,.int j]=if(-(2 ^ 64) < i∧i < 2 ^ 64)∨(-(2 ^ 64) < j∧j < 2 ^ 64)then some (.d (.int (i * j)))else none:=rfl
@[simp] theorem kN:jO .fdiv [.int i,.int j]=if 0 < j∧(j < 1073741824∨j < 2 ^ 200)then some (.d (.int (i / j)))else none:=rfl
@[simp] theorem J5:jO .mod [.int i,.int j]=if 0 < j then some (.d (.int (i % j)))else none:=rfl
@[simp] theorem J9:jO .pow [.int i,.int j]=if 0≤j∧j≤1000000∧i.natAbs < 2 ^ 64 then some (.d (.int (i ^ j.toNat)))else none:=rfl
@[simp] theorem Ka:Iq .neg [.int i]=some (.d (.int (-i))):=rfl
@[simp] theorem Kb {k:Cm}:zy k [u,v]=(au k u v).map fun b=>.d (.bl b):=rfl
@[simp] theorem cM:au .eq u v=if lL u v then some (D.eqd u v)else if vv u v then some (D.eqn 140 u v)else(qx u v).map fun _=>false:=rfl
@[simp] theorem lH:au .ne u v=if lL u v then some (! D.eqd u v)else if tm u v then some (! D.eqn 140 u v)else(qx u v).map fun _=>true:=rfl
@[simp] theorem y5:au .lt (.int i) (.int j)=some (decide (i < j)):=rfl
@[simp] theorem v3:au .le (.int i) (.int j)=some (decide (i≤j)):=rfl
@[simp] theorem KG:au .gt (.int i) (.int j)=some (decide (j < i)):=rfl
@[simp] theorem KH:au .ge (.int i) (.int j)=some (decide (j≤i)):=rfl
@[simp] theorem HP:au .is .non .non=some true:=rfl
@[simp] theorem HQ:au .is (.str x) .non=some false:=rfl
@[simp] theorem CL:au .isin u v=au.inD u v:=rfl
@[simp] theorem kO:au .notin u v=(au.inD u v).map (!·):=rfl
@[simp] theorem Kc:au.inD u (.lst ys)=if D.okd 150 u&&D.okdL 150 ys then some (ys.any fun y=>D.eqd y u)else qw u ys:=rfl
@[simp] theorem IQ:au.inD u (.tup ys)=if D.okd 150 u&&D.okdL 150 ys then some (ys.any fun y=>D.eqd y u)else qw u ys:=rfl
@[simp] theorem Kd {c:Nat}:au.inD (.str ⟨#[c]⟩) (.str y)=some (decide (c∈y.cps.toList)):=rfl
@[simp] theorem KI:kH [.lst xs,.int i]=(atI xs i).map .d:=rfl
@[simp] theorem KJ:kH [.tup xs,.int i]=(atI xs i).map .d:=rfl
@[simp] theorem KN:kH [.str x,.int i]=if x.length≤sizeLine then(atI x.cps.toList i).map fun c=>.d (.str ⟨#[c]⟩)else none:=rfl
@[simp] theorem KO:kH [.dic ks xs,v]=if bG v ks then(bK v ks xs).map .d else none:=rfl
@[simp] theorem jB {l h:D}:mW [u,l,h]=(match fH l,fH h with
  | some lo,some hi=>match u with
   | .lst xs=>some (.lst ((cutD xs lo hi).map .d))
   | .tup xs=>some (.d (.tup (cutD xs lo hi)))
   | .str z=>if z.length≤sizeLine then some (.d (.str ⟨((z.cps.toList.drop (HT.sIx z.length 0 lo)).take (HT.sIx z.length z.length hi - HT.sIx z.length 0 lo)).toArray⟩))else none
   | _=>none
  | _,_=>none):=rfl
@[simp] theorem Ke {k:Fn}:w2 k [u]=mL k u:=rfl
@[simp] theorem Kf {k:Fn}:w2 k [u,v]=Ei k u v:=rfl
@[simp] theorem IS:mL .len (.lst xs)=some (.d (.int xs.length)):=rfl
@[simp] theorem IT:mL .len (.tup xs)=some (.d (.int xs.length)):=rfl
@[simp] theorem IU:mL .len (.str x)=if x.length≤sizeLine then some (.d (.int x.length))else none:=rfl
@[simp] theorem IV:mL .len (.dic ks xs)=some (.d (.int ks.length)):=rfl
@[simp] theorem HR:mL .list (.lst xs)=some (.lst (xs.map .d)):=rfl
@[simp] theorem HS:mL .list (.tup xs)=some (.lst (xs.map .d)):=rfl
@[simp] theorem HU:mL .list (.dic ks xs)=if ks.all fun k=>(keyOf k).isSome then some (.lst (ks.map .d))else none:=rfl
@[simp] theorem IW:mL .tuple (.lst xs)=some (.d (.tup xs)):=rfl
@[simp] theorem IX:mL .tuple (.tup xs)=some (.d (.tup xs)):=rfl
@[simp] theorem Kg:mL .int (.int i)=some (.d (.int i)):=rfl
@[simp] theorem Kh:mL .all (.lst xs)=(fJ xs).map fun bs=>.d (.bl (bs.all id)):=rfl
@[simp] theorem Ki:mL .any (.lst xs)=(fJ xs).map fun bs=>.d (.bl (bs.any id)):=rfl
@[simp] theorem IY:mL .lenset (.lst xs)=(match fL xs with
   | some ys=>if ys.length≤4000 then some (.d (.int (met ys).length))else none
   | none=>none):=rfl
@[simp] theorem DW:Ei .min2 (.int i) (.int j)=some (.d (.int (if j < i then j else i))):=rfl
@[simp] theorem DX:Ei .max2 (.int i) (.int j)=some (.d (.int (if j > i then j else i))):=rfl
@[simp] theorem q7:zL .join [.str x,.lst xs]=(match fL xs with
  | some ys=>if(ys.map (·.length)).sum+ys.length * x.length≤16777216 then some (.d (.str (Txt.join x ys)))else none
  | none=>none):=rfl
@[simp] theorem HV:zL .split [.str x,.str y]=if(y.length == 0)=false∧x.length+2≤sizeLine then some (.lst ((Txt.split x y).map fun x=>.d (.str x)))else none:=rfl
@[simp] theorem GJ:oG .append (.lst os) [o]=if os.length < sizeLine then some (.d .non,.lst (os++[o]))else none:=rfl
@[simp] theorem GK {ps:List O}:oG .extend (.lst os) [.lst ps]=if os.length+ps.length≤sizeLine then some (.d .non,.lst (os++ps))else none:=rfl
@[simp] theorem Kj:oG .pop (.lst os) []=(match os[os.length - 1]? with
  | some y=>some (y,.lst os.dropLast)
  | none=>none):=rfl
@[simp] theorem HW:oG .popAt (.lst os) [.d (.int i)]=(match ixN os.length i with
  | some k=>match os[k]? with
   | some y=>some (y,.lst (os.eraseIdx k))
   | none=>none
  | none=>none):=rfl
@[simp] theorem HX:dO (.tup os) (.int i)=(match ixN os.length i with
 | some j=>(match os[j]? with
  | some y=>some (y,fun z=>.tup (os.set j z))
  | none=>none)
 | none=>none):=rfl
@[simp] theorem CM:dO (.lst os) (.int i)=(match ixN os.length i with
   | some j=>match os[j]? with
    | some y=>some (y,fun z:O=>O.lst (os.set j z))
    | none=>none
   | none=>none):=rfl
@[simp] theorem HY:dO (.dic ks os) v=(if bG v ks then(match dG v ks with
   | some j=>match os[j]? with
    | some y=>some (y,fun z:O=>O.dic ks (os.set j z))
    | none=>none
   | none=>none)else none):=rfl
@[simp] theorem HZ {C':Nat}{f:Str}:dO (.obj C ns os) (.exc C' [.str f,.non])=(if C'=C then(match jP f ns with
   | some j=>match os[j]? with
    | some y=>some (y,fun z:O=>O.obj C ns (os.set j z))
    | none=>none
   | none=>none)else none):=rfl
@[simp] theorem IZ:uw (.dic ks os) v o=if bG v ks&&decide (ks.length < sizeLine)then some (.dic (putD v o ks os).1 (putD v o ks os).2)else none:=rfl
@[simp] theorem I0:uw (.lst os) (.int i) o=(ixN os.length i).map fun j=>.lst (os.set j o):=rfl
@[simp] theorem Kk {k:D}{p:O}:iI k p (o::os)=cb o k p::os.map O.shal:=rfl
@[simp] theorem GL {k:D}:cb o k (.d (.int i))=o:=rfl
@[simp] theorem GN {k:D}:cb o k (.d (.str x))=o:=rfl
@[simp] theorem GO {k:D}:cb o k (.d .non)=o:=rfl
@[simp] theorem Ia {k:D}:cb o k (.d (.bl b))=o:=rfl
theorem oU {k:D} (h:xM u=false):cb o k (.d u)=(match dO o k with
 | some (y,g)=>g (.d y.frz)
 | none=>o.shal):=by
 unfold cb
 rw [show zM (.d u)=xM u from rfl,h]
 rfl
@[simp] theorem GP {k:D}:cb o k (.d (.tup xs))=(match dO o k with
 | some (y,g)=>g (.d y.frz)
 | none=>o.shal):=oU rfl
@[simp] theorem GQ {k:D}:cb o k (.d (.lst xs))=(match dO o k with
 | some (y,g)=>g (.d y.frz)
 | none=>o.shal):=oU rfl
@[simp] theorem GR {k:D}:cb o k (.d (.dic ks xs))=(match dO o k with
 | some (y,g)=>g (.d y.frz)
 | none=>o.shal):=oU rfl
@[simp] theorem AR {k:D}:dO (.d u) k=none:=rfl
@[simp] theorem Kl {C':Nat}{f:Str}:BY C f [.obj C' ns xs]=if C'=C then(eV f ns xs).map .d else none:=rfl
@[simp] theorem Ja {C:Nat}{cs:List Nat}{ts:List qv}:ji cs ts [.lst xs]=some (.d (.bl (ts.any (fD (.lst xs))))):=rfl
@[simp] theorem Jb {cs:List Nat}{ts:List qv}:ji cs ts [.tup xs]=some (.d (.bl (ts.any (fD (.tup xs))))):=rfl
@[simp] theorem Jc {cs:List Nat}{ts:List qv}:ji cs ts [.str x]=some (.d (.bl (ts.any (fD (.str x))))):=rfl
@[simp] theorem Jd {cs:List Nat}{ts:List qv}:ji cs ts [.non]=some (.d (.bl (ts.any (fD .non)))):=rfl
@[simp] theorem Je {cs:List Nat}{ts:List qv}:ji cs ts [.int i]=some (.d (.bl (ts.any (fD (.int i))))):=rfl
@[simp] theorem Jf {cs:List Nat}{ts:List qv}:ji cs ts [.obj C ns xs]=if C∈cs∧20≤C then some (.d (.bl (ts.any (fD (.obj C ns xs)))))else none:=rfl
@[simp] theorem KP:nA (.lst xs)=some xs:=rfl
@[simp] theorem KQ:nA (.tup xs)=some xs:=rfl
@[simp] theorem KR:nA (.str x)=if x.length≤sizeLine then some (x.cps.toList.map fun c=>.str ⟨#[c]⟩)else none:=rfl
@[simp] theorem Jg {C':Nat}:yU C (.obj C' ns xs)=if C'=C then some ()else none:=rfl
@[simp] theorem Jh {C':Nat}{f:Str}:B4 C f (.obj C' ns xs)=if C'=C∧f∉ns then some ()else none:=rfl
@[simp] theorem Ji {C':Nat}{f:Str}:B0 C f o (.obj C' ns os)=if C'=C∧ns.length < 1000 then some (.obj C' (bA f o ns os).1 (bA f o ns os).2)else none:=rfl
@[simp] theorem Km {n:Int}:Gm (.d (.int n))=if 0≤n∧n < 2 ^ 63 then some (.d (.int n))else none:=rfl
@[simp] theorem Jj {neg:Bool}:Ek neg (.d (.bl b))=some (.d (.bl (if neg then ! b else b))):=rfl
@[simp] theorem Jk {as:List Arg}:arr as []=some []:=rfl
@[simp] theorem Jl {as:List Arg}{n:Nat}{r:List (Nat ⊕ D)}:arr as (.inl n::r)=(match as[n]?,arr as r with
  | some a,some l=>some (a::l)
  | _,_=>none):=rfl
@[simp] theorem Jm {as:List Arg}{d:D}{r:List (Nat ⊕ D)}:arr as (.inr d::r)=(arr as r).map (.val (.d d) :: ·):=rfl
@[simp] theorem Jn:IC 1 = [.inl 0]:=rfl
@[simp] theorem Jo:IC 2 = [.inl 0,.inl 1]:=rfl
@[simp] theorem Jp:IC 3 = [.inl 0,.inl 1,.inl 2]:=rfl
@[simp] theorem Jq:oE.allD []=some []:=rfl
@[simp] theorem Jr:oE.allD (.d u::os)=(oE.allD os).map (u :: ·):=rfl
@[simp] theorem Js {ps:List O}:oE.allD (.lst ps::os)=none:=rfl
@[simp] theorem Jt {ps:List O}:oE.allD (.dic ks ps::os)=none:=rfl
@[simp] theorem Ju {ps:List O}:oE.allD (.obj C ns ps::os)=none:=rfl
theorem bO:D.eqd (.int i) (.int j)=(i == j):=by rw [D.eqd]
end
end PV
namespace PV
open PySem PySem.Spec PyProof.Rows L2
section
variable {X:Cx}{pins:List (Addr×Obj)}{σ:L2.St}{H:Hp}{s:Shared}
theorem _root_.L2.Inv.track {a:Addr}{oe:Obj}{o:HO} (I:Inv X pins σ H s) (hex:X.ex = []) (ha:s.heap.get? a=some oe) (hd:∃ vs,oe.data = .fields vs) (n0:X.s_0.heap.get? a=none) (na:H a=none) (np:∀ p∈X.pn++pins,p.1≠a) (nL:a≠X.env.locals)
  (new:ObjOk X.prog X.w (upd H a o) s.heap a o):Inv X pins σ (upd H a o) s:=by
 have ne0:∀ b o,X.s_0.heap.get? b=some o→b≠a:=fun b o e z=>by rw [z,n0]at e; cases e
 refine⟨I.ok,I.os,I.bare,⟨I.base.keep,I.base.slot,fun b o e n hx=>?_,I.base.there,fun b xs e=>?_,fun b o u e=>?_,fun b ps e=>?_⟩,I.loc,I.cell,?_,fun x c e=>?_,fun p hp=>?_,I.hok.laidN (fun _ _ z=>z) na new,I.len⟩
 ·rw [upd_ne (ne0 b o e)]
  exact I.base.free b o e n hx
 ·have q:=I.base.tups b xs e
  rw [upd_ne (ne_of_none q na)]
  exact q
 ·have q:=I.base.frzs b o u e
  rw [upd_ne (ne_of_none q na)]
  exact q
 ·obtain⟨m,q⟩:=I.base.tbls b ps e
  exact⟨m,by rw [upd_ne (ne_of_none q na)]; exact q⟩
 ·rw [upd_ne (Ne.symm nL)]
  exact I.free
 ·rw [upd_ne]
  ·exact I.freeC x c e
  ·rintro rfl
   obtain⟨v,o,e1,e2⟩:=I.cell x _ e
   obtain⟨vs,e3⟩:=hd
   rw [ha]at e1
   cases e1
   rw [e3]at e2
   cases e2
 ·obtain⟨q1,q2,q3⟩:=I.pin p hp
  exact⟨q1,by rw [upd_ne (np p hp)]; exact q2,q3⟩
theorem Fi {P:Program}{w:World}{h:Heap}{a C:Addr}{d:Option Addr}{oe:Obj} (e:h.get? a=some oe) (z:Zc (.ref C) d oe) (hd:∃ vs,oe.data = .fields vs):ObjOk P w H h a (vh a C d) :=
 ⟨⟨oe,e,z.1,z.2,hd⟩,⟨oe,e⟩,fun _ _ ⟨o,q,r⟩ k=>⟨o,k o q,r⟩⟩
end
def DY (K:PySem.W.Frag) (c:Value) (i j:Nat) (Wout:WX) (D:Ends):WX:=fun cls d σ H =>
 ∃ C,cls = .ref C∧PySem.W.exmOne K cls c=some true∧∀ a,H a=none→D.nx (((σ.set i (some (.ref a))).set j (some (.ref a))).set i none) (upd H a (vh a C d))
section
variable {X:Cx}{x n y:Str}{c:Value}{i j:Nat}{body:List Stmt}{np p1 p2 p3 pos pos':Pos}{tb:WX→TS}{Wout:WX}
theorem v5 (hs:X.stack=X.env::X.outer) (hf:X.env.frame=some X.env.locals) (hex:X.ex = []) (hN:X.N.Nodup) (hi:X.N[i]?=some n) (hj:X.N[j]?=some y) (hln:X.env.kindOf n=some .local)
  (hd:(n == ("__debug__" : Str))=false) (hdc:(n == ("__classdict__" : Str))=false) (hly:Loc X.env.scope y) (hfy:X.fn y=true∨X.env.scope.names.lookup y=some .local) (hc:Names X x c) (tk:Takes X Wout)
  (hb:∀ (W:WX) (pn:List (Addr×Obj)) (xe:Value→Shared→Prop),Takes (X.tr pn xe) W→PassesOwn (model X.prog X.w) X.A X.env xe→PSs (X.tr pn xe) body (tb W))
  (hsw:swapsWithSole [.Name y p1] (.Name n p2) p3.line X.env=pure false) (hst:swappedStores [.Name y p1] (.Name n p2) X.env=pure none) (ha1:(assignEach [.Name y p1] X.env).map (·.2) = [assign (.Name y p1) X.env]) :
  PS X (.Try body [.ExceptHandler (some (.Name x np)) (some n) [.Assign [.Name y p1] (.Name n p2) p3] pos'] [] [] pos) (fun D σ H=>tb (DY X.K c i j Wout D) D σ H):=by
 refine⟨fun pins s σ H D I h=>?_⟩
 have ok:=I.ok
 have hfr:X.A.frames=some (X.env::X.outer):=by rw [ok.frames,hs]
 have hloc:Loc X.env.scope n:=.inl hln
 refine wpAny_Try_except ?_
 refine wpAny_mono ((hb (DY X.K c i j Wout D) (X.pn++pins) (fun e s₁=>wpAny (model X.prog X.w) X.A (noteFrame e X.env) (fun _ s₂=>wpAny (model X.prog X.w) X.A (setFlight e none) (fun _ s₃ =>
  wpAny (model X.prog X.w) X.A (handleBy e X.env [.ExceptHandler (some (.Name x np)) (some n) [.Assign [.Name y p1] (.Name n p2) p3] pos']) (SP X pins D) X.xe s₃) X.xe s₂) X.xe s₁) (fun u s' xx=>?_) PassesOwn.looking).run [] s σ H D (I.toTry _) h) (fun f s1 hsp=>?_) (fun e s1 he=>he)
 ·obtain⟨a,B,sI,pins',σ',H',cls,d,rfl,J',nb,up,sky,na,os,ag,C,rfl,hb1,hyes⟩:=xx
  have J:Inv X pins σ' H' sI:=J'.ofTry ok
  have sky':Sky B (X.env::X.outer) a (Zc (.ref C) d) X.env.locals s'.heap:=by rw [← hs]; exact sky
  show wpAny (model X.prog X.w) X.A (noteFrame (.ref a) X.env) _ _ _
  refine Sky.land Zc.steady hfr hf sky' fun h3 fl3 up3=>?_
  have J3:Inv X pins σ' H' {s' with heap:=h3}:=J.landed nb fl3.1 (up.trans up3) os ag
  obtain⟨oe3,vs3,he3,hz3,hd3⟩:=fl3.there
  have notFr:∀ {h:Heap}{o:Obj}{vs:Array Value},h.FunFrames B (X.env::X.outer)→h.get? a=some o→o.data = .fields vs→a∉frs (X.env::X.outer):=fun {h o vs} ff e dd hm=>by
   obtain⟨_,o',e',hnf⟩:=ff.mem hm
   rw [e]at e'; cases e'
   exact hnf _ dd
  have nfr:=notFr fl3.2.2.1 he3 hd3
  have nL:a≠X.env.locals:=fun z=>nfr (List.mem_filterMap.mpr ⟨X.env,List.mem_cons_self,by rw [hf,z]⟩)
  have nF:a∉X.fs:=fun hm=>by
   obtain⟨e,he,q⟩:=List.mem_filterMap.mp hm
   exact nfr (List.mem_filterMap.mpr ⟨e,List.mem_cons_of_mem _ he,q⟩)
  have nI:sI.heap.get? a=none:=by
   cases e:sI.heap.get? a with
   | none=>rfl
   | some o =>
    have q:=nb a o e (by rw [hs]; exact nfr)
    rw [fl3.2.1]at q
    cases q
  have n0:X.s_0.heap.get? a=none:=by
   cases e:X.s_0.heap.get? a with
   | none=>rfl
   | some o =>
    obtain⟨o',q⟩:=J.base.there a o e (by rw [hex]; exact fun z=>nomatch z)
    rw [nI]at q
    cases q
  have npn:∀ p∈X.pn++pins,p.1≠a:=fun p hp z=>by
   have q:=(J.pin p hp).1
   rw [z,nI]at q
   cases q
  have S3:=J3.suite he3 hd3 na nL nF
  refine wpAny_handleBy_cons (codeAny_handlers_test ?_) (by intro q; cases q)
  have LT:PySem.W.Looks (model X.prog X.w) h3 (typeOf (.ref a)) (.ref C):=fun A Q E s k q=>wpAny_typeOf_ref (k _ _ he3) (by rw [hz3.1]; exact q)
  have LM:=PySem.W.exm_one (M:=model X.prog X.w) (J3.kIn) LT hb1
  have test:∀ {Q:Value→Shared→Prop}{E:Value→Shared→Prop},Q c {s' with heap:=h3}→wpAny (model X.prog X.w) (X.A.mark (some (.ref a))) (eval (.Name x np) X.env) Q E {s' with heap:=h3}:=fun {Q E} q=>by
   obtain⟨hg,hdbg,hm | ⟨hm,hv,hnn⟩⟩:=hc
   ·exact ld_glob (X:=X.suite a ((a,oe3)::(X.pn++pins))) S3 hg hm q hdbg
   ·exact ld_blt (X:=X.suite a ((a,oe3)::(X.pn++pins))) S3 hg hm hv q hnn hdbg
  refine test (LM.here ?_)
  refine codeAny_handlers_suite_as ?_
  refine HandSPX.lands_againZ fl3 fun h4 fl4 up4=>?_
  have J4:Inv X pins σ' H' {s' with heap:=h4}:=J.landed nb fl4.1 ((up.trans up3).trans up4) os ag
  obtain⟨oe4,vs4,he4,hz4,hd4⟩:=fl4.there
  have S4:=J4.suite he4 hd4 na nL nF
  refine store_ok (X:=X.suite a ((a,oe4)::(X.pn++pins))) (v:=.ref a) S4 hN hi hloc rfl (fun s5 S5=>?_) (.inr hln)
  have hsu:PSs (X.suite a ((a,oe4)::(X.pn++pins))) [.Assign [.Name y p1] (.Name n p2) p3] _:=pss_one (ps_asg (pe_var hi (.inl hln) hd hdc) (pg_name hN hj hly hfy) hsw hst ha1)
  have hlen:i < σ'.length:=by
   rw [J.len]
   exact(List.getElem?_eq_some_iff.mp hi).1
  refine wpAny_mono (hsu.run [] s5 _ H' {nx:=fun σ6 H6=>σ6=(σ'.set i (some (.ref a))).set j (some (.ref a))∧H6=H',rt:=fun _ _=>False,bk:=fun _ _=>False,ct:=fun _ _=>False} S5 ⟨.ref a,List.getElem?_set_self hlen,rfl,rfl⟩) (fun f s6 hsp=>?_) (fun _ _ z=>False.elim z)
  cases f with
  | next =>
   obtain⟨σ6,H6,S6,rfl,rfl⟩:=hsp
   have J6:Inv X pins ((σ'.set i (some (.ref a))).set j (some (.ref a))) H6 s6:=S6.unsuite ok
   have he6:s6.heap.get? a=some oe4:=(S6.pin (a,oe4) (List.mem_append_left _ List.mem_cons_self)).1
   have J7:=J6.track (o:=vh a C d) hex he6 ⟨_,hd4⟩ n0 na npn nL (Fi he6 hz4 ⟨_,hd4⟩)
   exact gone_ok J7 hN hi hln fun s7 J8=>⟨_,_,J8,hyes a na⟩
  | brk =>
   obtain⟨σ6,H6,S6,q6⟩:=hsp
   exact q6.elim
  | cont =>
   obtain⟨σ6,H6,S6,q6⟩:=hsp
   exact q6.elim
  | ret u =>
   obtain⟨v6,σ6,H6,S6,r6,q6⟩:=hsp
   exact q6.elim
 ·cases f with
  | next =>
   obtain⟨σ',H',J',q⟩:=hsp
   exact wpAny_execs_nil ⟨σ',H',J'.ofTry ok,q⟩
  | brk =>
   obtain⟨σ',H',J',q⟩:=hsp
   exact⟨σ',H',J'.ofTry ok,q⟩
  | cont =>
   obtain⟨σ',H',J',q⟩:=hsp
   exact⟨σ',H',J'.ofTry ok,q⟩
  | ret u =>
   obtain⟨v',σ',H',J',r,q⟩:=hsp
   exact⟨v',σ',H',J'.ofTry ok,r,q⟩
end
section
variable {T:Tab}{B:Base}{Φ:cW}{W:WX}{X:Cx}{σ:L2.St}{l m:List aW}{H:Hp}{ρ:Env}{pins:List (Addr×Obj)}{s:Shared}
theorem Fj {C:Nat}{p:List D}{d:Option Addr}{its:List aW}{a:Addr} (at_:At T B H ρ σ (its++l)) (e:pF T H C p d its) (na:H a=none):At T B (upd H a (vh a (T.cls C) d)) ρ σ ((.d (.exc C p),.ref a)::l):=by
 have s0:=at_.sat
 have nG:=s0.notG na
 have nZ:=s0.notZ na
 have s1:Sat T B (upd H a (vh a (T.cls C) d)) (af ρ σ++(its++l)):=(s0.alloc na).letgo
 have hv:vw B.Z (upd H a (vh a (T.cls C) d)) a=some (vh a (T.cls C) d):=by rw [bU nZ,upd_same]
 have hF:∀ {k:List aW}{F:List Addr},aO T (fun b=>B.G b∨b∈([]:List Addr)++F) (vw B.Z (upd H a (vh a (T.cls C) d))) k F→a∉F:=fun r z=>by
  obtain⟨o,e1,_,e2⟩:=aO.mut r a z
  rw [hv]at e1
  cases e1
  exact e2 _ rfl
 match p,e with
 | [],⟨e1,e2⟩ =>
  subst e1 e2
  refine⟨at_.ok,(ae.more (xs:=[.exc C []]) (vs:=[.ref a]) s1 fun F _ r=>⟨_,_,rfl,.inr ⟨a,none,[],rfl,fun z=>z.elim nG fun z=>hF r (by simpa using z),hv,rfl,rfl⟩,rfl⟩).perm ?_,at_.pr⟩
  show((O.d (.exc C []),V.ref a)::(af ρ σ++l)).Perm _
  exact List.perm_middle.symm
 | [x],⟨dx,v,e1,e2,e3⟩ =>
  subst e1 e3
  have nd:dx≠a:=ne_of_none e2 na
  have e2':upd H a (vh a (T.cls C) (some dx)) dx=some (.xd [(fj C,v)]):=by rw [upd_ne nd]; exact e2
  have hvd:vw B.Z (upd H a (vh a (T.cls C) (some dx))) dx=some (.xd [(fj C,v)]):=by
   unfold vw
   rw [e2']
  have nGd:¬ B.G dx:=fun z=>by
   obtain⟨h1,h2,h3⟩:=s1.oth dx z
   cases q:B.H0 dx with
   | none=>exact h2 q
   | some o =>
    have:=s1.old dx o q h1 (s1.tx hvd trivial)
    rw [hvd]at this
    cases this
    exact h3 _ q
  have s2:Sat T B (upd H a (vh a (T.cls C) (some dx))) ((.d x,v)::(af ρ σ++l)):=s1.perm List.perm_middle
  have s3:Sat T B (upd H a (vh a (T.cls C) (some dx))) ((.d (.exc C [x]),.ref a)::(.d x,v)::(af ρ σ++l)):=ae.more (xs:=[.exc C [x]]) (vs:=[.ref a]) s2 fun F _ r=>by
   refine⟨_,_,rfl,.inr ⟨a,some dx,[v],rfl,fun z=>z.elim nG fun z=>hF r (by simpa using z),hv,⟨dx,rfl,fun z=>z.elim nGd fun z=>?_,hvd⟩,?_⟩,rfl⟩
   ·obtain⟨o,g1,g2,_⟩:=aO.mut r dx (by simpa using z)
    rw [hvd]at g1
    cases g1
    exact g2
   ·obtain⟨F1,F2,rfl,⟨g1,g2⟩,_⟩:=r
    exact⟨v,[],rfl,g2,rfl⟩
  refine⟨at_.ok,(s3.perm (List.Perm.swap _ _ _)).drop1.perm List.perm_middle.symm,at_.pr⟩
theorem rb:∀ {ρ:Env}{σ:L2.St}{i:Nat}{u:Option V},bM ρ σ→bM (ρ.set i none) (σ.set i u)∧af (ρ.set i none) (σ.set i u)=af (ρ.set i none) σ
 | [],[],i,u,h=>⟨h,rfl⟩
 | some p::ρ,some v::σ,0,u,h=>⟨h,by cases u <;> rfl⟩
 | some p::ρ,some v::σ,i+1,u,h=>by
  obtain⟨h1,h2⟩:=rb (ρ:=ρ) (σ:=σ) (i:=i) (u:=u) h
  exact⟨h1,congrArg (_ :: ·) h2⟩
 | none::ρ,s::σ,0,u,h=>⟨h,by cases s <;> cases u <;> rfl⟩
 | none::ρ,s::σ,i+1,u,h=>by
  obtain⟨h1,h2⟩:=rb (ρ:=ρ) (σ:=σ) (i:=i) (u:=u) h
  exact⟨h1,by cases s <;> exact h2⟩
 | [],_::_,i,u,h=>h.elim
 | some _::_,none::_,i,u,h=>h.elim
 | some _::_,[],i,u,h=>h.elim
 | none::_,[],i,u,h=>h.elim
theorem At.free {i:Nat}{u:Option V} (a:At T B H ρ σ l) (hp:∀ p∈B.pr,p.1≠i):At T B H (ρ.set i none) (σ.set i u) l:=by
 obtain⟨h1,h2⟩:=rb (i:=i) (u:=u) a.ok
 exact⟨h1,by rw [h2]; exact(a.clear i).sat,fun p hp'=>by rw [List.getElem?_set_ne (Ne.symm (hp p hp'))]; exact a.pr p hp'⟩
theorem At.storeA {i:Nat}{o:O}{v:V} (a:At T B H ρ σ ((o,v)::l)) (hp:∀ p∈B.pr,p.1≠i):At T B H (ρ.set i (some o)) (σ.set i (some v)) l:=by
 by_cases hi:i < ρ.length
 ·exact a.store hi hp
 ·rw [List.set_eq_of_length_le (by omega),List.set_eq_of_length_le (by rw [← a.ok.len]; omega)]
  exact a.drop
theorem Fm {cs:List Nat}{sb:List SS}{i j:Nat}{body:List Stmt}{n y:Str}{np p1 p2 p3 pos pos':Pos} (hK:X.K=T.K) (hs:X.stack=X.env::X.outer) (hf:X.env.frame=some X.env.locals) (hex:X.ex = []) (hN:X.N.Nodup) (hi:X.N[i]?=some n) (hj:X.N[j]?=some y) (hln:X.env.kindOf n=some .local)
  (hd:(n == ("__debug__" : Str))=false) (hdc:(n == ("__classdict__" : Str))=false) (hly:Loc X.env.scope y) (hfy:X.fn y=true∨X.env.scope.names.lookup y=some .local) (hpi:∀ p∈B.pr,p.1≠i) (hpj:∀ p∈B.pr,p.1≠j) (hij:i≠j)
  (hg:Gl X "TreeError") (hm:X.mg "TreeError" = some (.ref (T.cls 0))) (hx:∀ C∈cs,PySem.W.exmOne X.K (.ref (T.cls C)) (.ref (T.cls 0))=some true) (tk:Takes X W)
  (hb:∀ (W:WX) (pn:List (Addr×Obj)) (xe:Value→Shared→Prop),Takes (X.tr pn xe) W→PassesOwn (model X.prog X.w) X.A X.env xe→PSs (X.tr pn xe) body (yZ T B Φ W sb))
  (hsw:swapsWithSole [.Name y p1] (.Name n p2) p3.line X.env=pure false) (hst:swappedStores [.Name y p1] (.Name n p2) X.env=pure none) (ha1:(assignEach [.Name y p1] X.env).map (·.2) = [assign (.Name y p1) X.env]) :
  PS X (.Try body [.ExceptHandler (some (.Name "TreeError" np)) (some n) [.Assign [.Name y p1] (.Name n p2) p3] pos'] [] [] pos) (tS T B Φ W (.try cs sb i j)):=by
 refine⟨fun pins s σ H D I ⟨ρ,l,at_,h⟩=>(v5 (tb:=fun W=>yZ T B Φ W sb) (c:=.ref (T.cls 0)) hs hf hex hN hi hj hln hd hdc hly hfy ⟨hg,by decide +kernel,.inl hm⟩ tk hb hsw hst ha1).run pins s σ H D I ⟨ρ,l,at_,?_⟩⟩
 rw [bZ]at h
 have hl:ρ.length=X.N.length:=by rw [at_.ok.len,I.len]
 cases e:aG Φ sb ρ with
 | bad=>rw [e]at h; exact h
 | ok f ρ'=>rw [e]at h; cases f <;> exact h
 | exc C p ρ' =>
  rw [e,Res.caught_exc]at h
  by_cases hC:C∈cs
  ·rw [if_pos hC]at h
   have h:∀ σ H,At T B H ((ρ'.set i none).set j (some (.d (.exc C p)))) σ l→D.nx σ H:=h
   intro σ2 d H2 its a2 ex
   refine⟨_,rfl,hx C hC,fun a na=>h _ _ ?_⟩
   have a3:=Fj a2 ex na
   have a4:=a3.free (i:=i) (u:=none) hpi
   have a5:=a4.storeA (i:=j) hpj
   have es:((σ2.set i (some (V.ref a))).set j (some (V.ref a))).set i none=(σ2.set i none).set j (some (V.ref a)):=by
    rw [List.set_comm _ _ (Ne.symm hij),List.set_set]
   rw [es]
   exact a5
  ·rw [if_neg hC]at h
   exact h.elim
structure CN (K:PySem.W.Frag) (mg:Str→Option Value) (x:Str) (C:Addr):Prop where
 g:mg x=some (.ref C)
 x:PySem.W.excIn K C [.type "ValueError",.type "Exception",.type "BaseException",.type "object"] "ValueError.__new__" = true
 k:PySem.W.keepIn K (.ref C)=true
 b:PySem.W.subIn K (.ref C) (.type "BaseException")=some true
 t:PySem.W.typeIn K (.ref C)=some (.type "type")
theorem uU {x:Str}{C:Nat}{e:Expr}{es:List Expr}{ses:List SE}{p p2 pos:Pos} (hfl:B5 C=false) (hc:X.calm=true) (tk:Takes X W) (E:CN X.K X.mg x (T.cls C)) (hg:Gl X x) (hz:ses.length≤sizeLine) (ha:PA X (e::es) (tL T B Φ W ses)) (hdb:(x == ("__debug__" : Str))=false)
  (he:starEach (e::es) X.env=(false,eval e X.env)::starEach es X.env) (hpl:(backTo p2 (starEach es X.env)).any (·.1)=false) :
  PS X (.Raise (some (.Call (.Name x p) (e::es) [] p2)) none pos) (tS T B Φ W (.rse C ses)) :=
 (ps_raise hc tk (pmk_ownA PySem.F.excBase_ValueError E.x E.g E.k (raises_own E.b E.t) hg ha hdb he hpl)).pv fun D σ H ⟨ρ,l,at_,h⟩=>by
  rw [bZ]at h
  refine⟨ρ,l,at_,h.rg.eq.mono fun os ρ1 ⟨eo,k⟩ vs H1 hl a1=>⟨by rw [← hl,mD eo]; exact hz,?_⟩⟩
  have k:RS T B W D l (.exc C (vy C os) ρ1):=k
  have ep:vy C os = []:=by
   unfold vy
   rw [hfl]
   rfl
  rw [ep]at k
  exact k σ none H1 [] a1.keepR ⟨rfl,rfl⟩
theorem y6 {C0:Addr}{mc:Value}{e:Expr}{es:List Expr}{ta:TA}{p1 p2 pos:Pos}{pl:Sem Bool} (hg:Gl X "TreeError") (hm:X.mg "TreeError" = some (.ref C0)) (r:ClX.CRead X.K C0 mc) (vV:PySem.W.findCls X.K (.ref C0) mc "__init__" = some (.val (.builtin "ValueError.__init__"))) (ha:PA X (e::es) ta)
  (hc:eval (.Call (.Attribute (.Name "TreeError" p1) "__init__" p2) (e::es) [] pos) X.env=(do
   let ov ← eval (.Name "TreeError" p1) X.env
   standAt p2.atName
   let (f,first) ← holding [ov] (getMethod ov "__init__" pl)
   callWith pos f first (backTo pos (starEach (e::es) X.env)) (backToKw pos (keywordEach [] X.env))):=by rfl)
  (he:starEach (e::es) X.env=(false,eval e X.env)::starEach es X.env:=by rfl) (hpl:(backTo pos (starEach es X.env)).any (·.1)=false:=by rfl) :
  PE X (.Call (.Attribute (.Name "TreeError" p1) "__init__" p2) (e::es) [] pos) (tVeI X.K ta):=by
 refine⟨fun pins s σ H Q I h=>?_⟩
 refine PySem.W.methodCall_KW (ld_glob I hg hm ?_ (by decide)) hc
 refine PySem.W.method_cls I.kIn r.ga (PySem.W.cls_value I.kIn r.rd vV (by decide +kernel) ?_)
 show wpAny _ _ (callWith pos (Value.builtin "ValueError.__init__") [] (backTo pos (starEach (e::es) X.env)) []) _ _ _
 refine PyProof.Rows.callWith_method1 (thn (ha.run pos pins _ σ H _ (I.tok _) h) fun us s1 ⟨vs,H1,I1,r1,a,C,ws,ev,hl,T,ea,q⟩=>?_) he hpl
 subst ev
 cases r1 with
 | @cons _ u0 _ ur ra rw' =>
  obtain rfl:u0=Value.ref a:=ra
  have hlen:ur.length≤sizeLine:=by
   rw [← Paired.length rw',sizeLine_eq]
   omega
  exact oinit_ok T I1 ea hlen fun s' J=>⟨.non,H1,J,rfl,q⟩
def yq (C:Addr) (f:Str):Sp:=fun vs H Q _=>∃ a v,vs = [.ref a,v]∧H a=some (exo a C none)∧∀ d,H d=none→d≠a→Q .non (upd (upd H d (exd d [(f,v)])) a (exo a C (some d)))
end
structure AS (P:Program) (w:World) (K:PySem.W.Frag) (mg:Str→Option Value) (base:Heap) (x:Str) (C:Addr) (fld:Str):Prop where
 T:OexC K C
 g:mg x=some (.ref C)
 fn:∃ fI fd p,PySem.W.findIn K (.ref C) "__init__" = some (some (.ref fI))∧PySem.W.typeIn K (.ref fI)=some (.type "function")∧FnOk P w K mg base (L2.CX P w) 1 fI fd ["self",p] (yq C fld)∧Binds K fd ["self",p] []
section
variable {T:Tab}{B:Base}{Φ:cW}{W:WX}{X:Cx}{σ:L2.St}{l m:List aW}{H:Hp}{ρ:Env}{pins:List (Addr×Obj)}{s:Shared}
theorem qk {x:Str}{C lv:Nat}{e:Expr}{se:SE}{p p2 pos:Pos} (hfl:B5 C=true) (hc:X.calm=true) (tk:Takes X W) (E:AS X.prog X.w X.K X.mg X.base x (T.cls C) (fj C)) (hg:Gl X x) (hr:Room lv X.A) (hlv:2≤lv) (ha:PA X [e] (tL T B Φ W [se])) (hdb:(x == ("__debug__" : Str))=false)
  (he:starEach [e] X.env=(false,eval e X.env)::starEach [] X.env) (hpl:(backTo p2 (starEach [] X.env)).any (·.1)=false) :
  PS X (.Raise (some (.Call (.Name x p) [e] [] p2)) none pos) (tS T B Φ W (.rse C [se])):=by
 obtain⟨fI,fd,pn,i1,i2,i3,i4⟩:=E.fn
 refine(ps_raise hc tk (pmk_oex (dvs:=[]) (ds:=[]) E.T i1 i2 i3 (hr.mono hlv) i4 .nil (passes_call tk fun _ _ _ _ z=>z.elim) hg E.g ha hdb he hpl)).pv fun D σ H ⟨ρ,l,at_,h⟩=>?_
 rw [bZ]at h
 refine⟨ρ,l,at_,h.rg.eq.mono fun os ρ1 ⟨eo,k⟩ vs H1 hl a1=>?_⟩
 have hlo:=mD eo
 match os,hlo,vs,hl with
 | [o],_,[v],_ =>
  have k:RS T B W D l (.exc C (vy C [o]) ρ1):=k
  have ep:vy C [o] = [o.frz]:=by
   unfold vy
   rw [hfl]
   rfl
  rw [ep]at k
  refine⟨by simp,fun a na=>⟨a,v,rfl,upd_same,fun d nd ne=>⟨rfl,d,[(fj C,v)],upd_same,?_,?_,?_⟩⟩⟩
  ·rw [upd_ne ne,upd_same]
  ·rw [upd_ne ne]at nd
   exact nd
  ·rw [upd_ne ne]at nd
   have eh:upd (L2.del (upd (upd (upd H1 a (exo a (T.cls C) none)) d (exd d [(fj C,v)])) a (exo a (T.cls C) (some d))) a) d (.xd [(fj C,v)])=upd H1 d (.xd [(fj C,v)]):=by
    funext b
    by_cases hb:b=d
    ·rw [hb,upd_same,upd_same]
    ·rw [upd_ne hb,upd_ne hb]
     by_cases hba:b=a
     ·rw [hba,del_same,na]
     ·rw [del_ne hba,upd_ne hba,upd_ne hb,upd_ne hba]
   rw [eh]
   have a2:At T B (upd H1 d (.xd [(fj C,v)])) ρ1 σ ([(.d o.frz,v)]++l):=by
    have s1:Sat T B H1 ((o,v)::(af ρ1 σ++l)):=a1.sat.perm List.perm_middle
    have s2:Sat T B H1 ((.d o.frz,v)::(af ρ1 σ++l)):=s1.freeze
    exact⟨a1.ok,((s2.alloc nd).letgo).perm List.perm_middle.symm,a1.pr⟩
   exact k σ (some d) _ [(.d o.frz,v)] a2 ⟨d,v,rfl,upd_same,rfl⟩
end
end PV
namespace PV
open PySem PySem.Spec PyProof.Rows L2
open He (ga ma ba eqO eqO_ok)
theorem yr {K:iH}{h:Heap}{mg:Str→Option Value}{x:Str} (X:K.In h) (G:h.Ns mainGlobals mg) (c:Ee x K=true):CN K mg x (ga K x):=by
 obtain⟨h1,c⟩:=ba c
 obtain⟨h2,c⟩:=ba c
 obtain⟨h3,c⟩:=ba c
 obtain⟨h4,h5⟩:=ba c
 exact⟨He.glo_ok X G h1,h2,h3,of_decide_eq_true h4,of_decide_eq_true h5⟩
theorem CO {tbs:List (Addr×Str)}{nm:Nat→Str}{cs:List Nat}{K:iH} (h:F9 nm cs K=true):∀ C∈cs,PySem.W.exmOne K (.ref ((CG nm tbs K).cls C)) (.ref ((CG nm tbs K).cls 0))=some true:=fun C hC=>of_decide_eq_true (List.all_eq_true.mp h C hC)
theorem yt {K:iH}{x:Str} (c:Ga x K=true):OexC K (ga K x):=by
 obtain⟨h1,c⟩:=ba c
 obtain⟨h2,c⟩:=ba c
 obtain⟨h3,c⟩:=ba c
 obtain⟨h4,h5⟩:=ba c
 refine⟨?_,eqO_ok h2,of_decide_eq_true h3,of_decide_eq_true h4,h5⟩
 split at h1
 ·rename_i dd cd sl ho
  split at h1
  ·rename_i C' bm k0 k1 k2 k3 n k5 hm hs
   simp only [Bool.and_eq_true,beq_iff_eq,Bool.not_eq_true']at h1
   obtain⟨rfl,rfl,hdel,ht,hhd⟩:=h1
   obtain⟨nm,bs,mro,ns,qn,hd,sn,sub,ab,col,del⟩:=cd
   dsimp only at hm hdel hhd
   subst hm hdel hhd
   have hsl:sl = #[k0,k1,k2,k3,some (.builtin "ValueError.__new__"),k5]:=by
    obtain⟨l⟩:=sl
    simp only at hs
    rw [hs]
   subst hsl
   exact⟨_,_,_,_,_,_,_,_,_,_,_,_,_,_,_,ho,ht⟩
  ·cases h1
 ·cases h1
theorem rf {P:Program}{w:World}{base:Heap}{K:iH}{h:Heap}{mg:Str→Option Value}{x f p:Str}{fd:FuncData} (X:K.In h) (G:h.Ns mainGlobals mg) (c:zC x f K=true) (F:FnOk P w K mg base (L2.CX P w) 1 (ma K (ga K x) "__init__") fd ["self",p] (yq (ga K x) f)) (b:Binds K fd ["self",p] []):AS P w K mg base x (ga K x) f:=by
 obtain⟨h1,c⟩:=ba c
 obtain⟨h2,c⟩:=ba c
 obtain⟨h3,c⟩:=ba c
 obtain⟨h4,h5⟩:=ba c
 exact⟨yt h1,He.glo_ok X G h2,_,fd,p,eqO_ok h4,of_decide_eq_true h5,F,b⟩
theorem CP {K:iH}{x f:Str} (c:zC x f K=true):OexC K (ga K x)∧PySem.W.findIn K (.ref (ga K x)) f=some none:=by
 obtain⟨h1,c⟩:=ba c
 obtain⟨h2,c⟩:=ba c
 obtain⟨h3,c⟩:=ba c
 exact⟨yt h1,eqO_ok h3⟩
structure Kn (K:PySem.W.Frag) (mg:Str→Option Value) (C0:Addr):Prop where
 g:mg "TreeError" = some (.ref C0)
 r:ClX.CRead K C0 (.type "type")
 v:PySem.W.findCls K (.ref C0) (.type "type") "__init__" = some (.val (.builtin "ValueError.__init__"))
theorem CQ {K:iH}{h:Heap}{mg:Str→Option Value} (X:K.In h) (G:h.Ns mainGlobals mg) (c:Gb K=true):Kn K mg (ga K "TreeError"):=by
 obtain⟨h1,c⟩:=ba c
 obtain⟨h2,c⟩:=ba c
 obtain⟨h3,h4⟩:=ba c
 refine⟨He.glo_ok X G h1,⟨h2,eqO_ok h3⟩,?_⟩
 split at h4
 ·rename_i n e
  rw [beq_iff_eq]at h4
  rw [e,h4]
 ·cases h4
end PV
namespace PV
open PySem L2
section
variable {i j:Int}{x y z:Str}{xs ys ks:List D}{u v:D}{b:Bool}{C:Nat}{cs:List Nat}{ts:List qv}{p:List D}{ns:List Str}
@[simp] theorem Ko:Gg [.lst xs]=some (.lst (xs.reverse.map .d)):=rfl
@[simp] theorem Jv:ji cs ts [.bl b]=some (.d (.bl (ts.any (fD (.bl b))))):=rfl
@[simp] theorem Jw:ji cs ts [.dic ks xs]=some (.d (.bl (ts.any (fD (.dic ks xs))))):=rfl
@[simp] theorem Jx:ji cs ts [.exc C p]=if C∈cs∧C < 20∧p.length≠3 then some (.d (.bl (ts.any (fD (.exc C p)))))else none:=rfl
@[simp] theorem Ib:au .is (.tup xs) .non=some false:=rfl
@[simp] theorem Ic:au .is (.lst xs) .non=some false:=rfl
@[simp] theorem Ie:au .is (.bl b) .non=some false:=rfl
@[simp] theorem Ig:au .is (.int i) .non=some false:=rfl
@[simp] theorem Ih:au .is (.dic ks xs) .non=some false:=rfl
@[simp] theorem Ii:au .is (.obj C ns xs) .non=some false:=rfl
@[simp] theorem Ij:au .is (.exc C p) .non=some false:=rfl
@[simp] theorem GU:au .isnot .non .non=some false:=rfl
@[simp] theorem GV:au .isnot (.str x) .non=some true:=rfl
@[simp] theorem GW:au .isnot (.tup xs) .non=some true:=rfl
@[simp] theorem GX:au .isnot (.lst xs) .non=some true:=rfl
@[simp] theorem GY:au .isnot (.bl b) .non=some true:=rfl
@[simp] theorem GZ:au .isnot (.int i) .non=some true:=rfl
@[simp] theorem G0:au .isnot (.dic ks xs) .non=some true:=rfl
@[simp] theorem G3:au .isnot (.obj C ns xs) .non=some true:=rfl
@[simp] theorem G4:au .isnot (.exc C p) .non=some true:=rfl
@[simp] theorem Kq:atI [u,v] 0=some u:=atI_nat (j:=0) rfl
@[simp] theorem Kr:atI [u,v] 1=some v:=atI_nat (j:=1) rfl
@[simp] theorem KS {k:D}{p:O}:cb (.d u) k p = .d u:=by
 unfold cb
 split
 ·rfl
 ·split
  ·rename_i e
   rw [AR]at e
   cases e
  ·rfl
end
end PV
namespace PV
open PySem PySem.Spec PyProof.Rows L2
section
variable {T:Tab}{B:Base}{Φ:cW}{W:WX}{X:Cx}{σ:L2.St}{l m:List aW}{H:Hp}{ρ:Env}
def KU (T:Tab) (B:Base) (i j:Nat):TG:=fun w σ H Q=>∃ (v:O) (ρ ρ':Env) (l:List aW),At T B H ρ σ ((v,w)::l)∧setAt i j v ρ=some ρ'∧i≠j∧∀ H',At T B H' ρ' σ l→Q σ H'
theorem KW {i j:Nat}{x y:Str}{p1 p2 pos:Pos} (hu:X.A.units+1 < cLine) (hi:X.N[i]?=some x) (hvx:Vis X.env.scope x) (hdx:(x == ("__debug__" : Str))=false) (hcx:(x == ("__classdict__" : Str))=false) (hj:X.N[j]?=some y) (hvy:Vis X.env.scope y) (hdy:(y == ("__debug__" : Str))=false) (hcy:(y == ("__classdict__" : Str))=false)
  (ha:∀ v,assign (.Subscript (.Name x p1) (.Name y p2) pos) X.env v=(do
   let ov ← holding [v] (eval (.Name x p1) X.env)
   let iv ← holding [v,ov] (eval (.Name y p2) X.env)
   standAt pos
   holding [v,ov,iv] (setItem ov iv v)
   release [v,ov,iv] [])):PG X (.Subscript (.Name x p1) (.Name y p2) pos) (KU T B i j) :=
 (pg_sub (pe_var hi hvx hdx hcx) (pe_var hj hvy hdy hcy) (Ao (T:=T) hu) ha).pv fun pins s w σ H Q I ⟨v,ρ,ρ',l,a,e,hij,q⟩=>by
  unfold setAt at e
  split at e
  ·rename_i o k e1 e2
   obtain⟨o',es,er⟩:=Option.map_eq_some_iff.mp e
   subst er
   obtain⟨xv,ex⟩:=a.ok.at e1
   obtain⟨yv,ey⟩:=a.ok.at e2
   refine⟨xv,ex,yv,ey,?_⟩
   have a1:=a.take e1 ex
   have e2':aq (ρ.set i none) j=some (.d k):=by
    unfold aq at e2 ⊢
    rw [List.getElem?_set_ne hij]
    exact e2
   have a2:=a1.take e2' ey
   have hjl:=iJ e2'
   have hil:=iJ e1
   have s3:Sat T B H ((.d k,yv)::(.d k,yv)::(af ((ρ.set i none).set j none) σ++((o,xv)::(v,w)::l))):=(a2.sat.perm List.perm_middle).dup
   have a3:At T B H ((ρ.set i none).set j none) σ ((.d k,yv)::(.d k,yv)::(o,xv)::(v,w)::l):=⟨a2.ok,s3.perm ((List.perm_middle.symm.cons _).trans List.perm_middle.symm),a2.pr⟩
   have a4:=a3.fill (i:=j) (by unfold aq; rw [List.getElem?_set_self hjl]; rfl) (by simpa using hjl) ey
   rw [List.set_set]at a4
   have er:(ρ.set i none).set j (some (.d k))=ρ.set i none:=by
    apply List.ext_getElem?
    intro z
    by_cases hz:z=j
    ·subst hz
     rw [List.getElem?_set_self hjl]
     unfold aq at e2'
     cases q:(ρ.set i none)[z]? with
     | none=>rw [q]at e2'; cases e2'
     | some u=>rw [q]at e2'; cases u with
      | none=>cases e2'
      | some u=>cases e2'; rfl
    ·rw [List.getElem?_set_ne (Ne.symm hz)]
   rw [er]at a4
   refine⟨B,o,.d k,v,af (ρ.set i none) σ++l,[],o',a4.sat.perm ?_,by rw [cU]; exact es,fun H' _ s'=>?_⟩
   ·have p1:(af (ρ.set i none) σ++((O.d k,yv)::(o,xv)::(v,w)::l)).Perm ((O.d k,yv)::(o,xv)::(v,w)::(af (ρ.set i none) σ++l)):=List.perm_middle.trans ((List.perm_middle.trans (List.perm_middle.cons _)).cons _)
    exact p1.trans (List.Perm.swap _ _ _)
   ·have a6:At T B H' (ρ.set i none) σ ((o',xv)::l):=⟨a1.ok,s'.perm List.perm_middle.symm,a1.pr⟩
    have t:=a6.fill (i:=i) (by unfold aq; rw [List.getElem?_set_self hil]; rfl) (by simpa using hil) ex
    rw [List.set_set]at t
    exact q H' t
  ·cases e
end
end PV
namespace PV
open PySem PySem.Spec PyProof.Rows L2
def zz (C:Nat) (f:Str) (as:List D):Option O:=match as with
 | [.exc C' [d]]=>if C'=C∧f=fj C then some (.d d)else none
 | _=>none
def Jy (C:Addr) (f:Str) (te:TE):TE:=fun σ H Q=>te σ H fun x H1=>∃ (a dd:Addr) (fs:List (Str×V)) (v:V),x = .ref a∧H1 a=some (vh a C (some dd))∧H1 dd=some (.xd fs)∧fs.lookup f=some v∧Q v H1
theorem Fo {X:Cx}{C:Addr}{e:Expr}{te:TE}{pos:Pos}{f:Str} (T:XfC X.K C) (hno:PySem.W.findIn X.K (.ref C) f=some none) (he:PE X e te) (hb:attributeBase e f X.env (eval e X.env)=eval e X.env):PE X (.Attribute e f pos) (Jy C f te):=by
 constructor
 intro pins s σ H Q I h
 refine attr_of hb (thn (he.run pins s σ H _ I h) ?_)
 rintro u s1 ⟨x,H1,I1,rx,a,dd,fs,v,ex,ea,ed,lk,q⟩
 subst ex
 cases (show u=Value.ref a from rx)
 obtain⟨oe,g1,g2,g3,vs,g4⟩:=(I1.hok a _ ea).1
 obtain⟨mA,hns,hr⟩:=(show ObjOk X.prog X.w H1 s1.heap dd (.xd fs)from I1.hok dd _ ed)
 obtain⟨od,ho,hl⟩:=lookIn_ns hns
 obtain⟨y,hy,ry⟩:=RelO.some_of (v:=v) (o:=mA f) (by rw [← lk]; exact hr f)
 have nc:PySem.W.notCls oe=true:=by unfold PySem.W.notCls; rw [g4]
 have J:PySem.W.InstAt s1.heap a oe C (some od):=⟨g1,g2,nc,by rw [g3]; exact ho⟩
 exact HandSPX.exc_get I1.kIn J T.ga T.gg T.exC (PySem.W.findObj_own T.hdC hno rfl (by rw [hl,hy])) (handed_of ry) ⟨v,H1,I1.tok _,ry,q⟩
section
variable {T:Tab}{B:Base}{Φ:cW}{W:WX}{X:Cx}{σ:L2.St}{l m:List aW}{H:Hp}{hs:List Addr}
theorem Fp (s:ae T B H hs l) {a C:Addr}{d:Option Addr} (e:vw B.Z H a=some (vh a C d)):H a=some (vh a C d):=by
 rcases jo e with e | ⟨z,o,e⟩
 ·exact e
 ·obtain⟨u,e2,k⟩:=s.lk a z
  rw [e2]at e
  cases e
  exact k.elim
theorem CS {C:Nat}{p:List D}:∀ {o:O},o.frz = .exc C p→o = .d (.exc C p)
 | .d x,e=>by rw [O.frz]at e; rw [e]
 | .tup _,e=>by rw [O.frz]at e; cases e
 | .lst _,e=>by rw [O.frz]at e; cases e
 | .dic _ _,e=>by rw [O.frz]at e; cases e
 | .obj _ _ _,e=>by rw [O.frz]at e; cases e
theorem Sat.kidX {C:Nat}{d:D}{v:V} (s:ae T B H hs ((.d (.exc C [d]),v)::l)):∃ (a dd:Addr) (w:V),v = .ref a∧H a=some (vh a (T.cls C) (some dd))∧H dd=some (.xd [(fj C,w)])∧ae T B H hs ((.d d,w)::(.d (.exc C [d]),v)::l):=by
 obtain⟨F,⟨F1,F2,rfl,⟨e1,r1⟩,r2⟩,nd,c⟩:=s.reps
 have e1:F1 = []:=e1
 subst e1
 rcases id r1 with⟨z,_⟩ | ⟨a,d',vs,rfl,n,ea,xa,dl⟩
 ·cases z
 ·obtain⟨w,r,rfl,dw,dr⟩:=dl
  cases (show r = []from dr)
  obtain⟨dd,rfl,nn,ed⟩:=xa
  exact⟨a,dd,w,rfl,Fp s ea,DO s ed,⟨s.lk,s.old,s.oth,s.io,s.tb,_,⟨[],_,rfl,⟨rfl,dw⟩,[],F2,rfl,⟨rfl,r1⟩,r2⟩,nd,c⟩⟩
theorem AU {se:SE}{ρ:Env}:bN Φ [se] ρ=(dB Φ se ρ).bind fun a ρ=>.ok [a] ρ:=by
 rw [bN]
 simp only [bN,Res.bind_ok]
theorem Jz {sh:Bool}{f:List D→Option O}{sa:SE}{ρ:Env}{Q:VK} (h:RP T B W σ l (ev Φ (.ofn sh f [sa]) ρ) Q):RG T B W σ l (dB Φ sa ρ) fun a ρ1=>∀ v H1,At T B H1 ρ1 σ (ao a v++l)→nK σ a v→dW T B f sh [v] H1 Q:=by
 rw [ev,AU]at h
 refine h.rg.bind.bind.mono fun a ρ1 k v H1 a1 av=>?_
 exact iD (f:=f) (sh:=sh) (as:=[a]) (vs:=[v]) k (a1.perm jv) ⟨av,trivial⟩
theorem DZ {C:Nat}{f:Str}{a:Expr}{sa:SE}{pos:Pos} (hX:XfC X.K (T.cls C)∧PySem.W.findIn X.K (.ref (T.cls C)) f=some none) (hb:attributeBase a f X.env (eval a X.env)=eval a X.env) (ha:PE X a (tA T B Φ W sa)):PE X (.Attribute a f pos) (tE T B Φ W (.ofn true (zz C f) [sa])) :=
 (Fo hX.1 hX.2 ha hb).pv fun σ H Q ⟨ρ,l,at_,h⟩=>by
  refine⟨ρ,l,at_,(Jz h).mono fun a ρ1 k v H1 a1 av=>?_⟩
  obtain⟨o,l',r,s1,e,q⟩:=oI (k v H1 a1 av)
  have e:zz C f [o.frz]=some r:=e
  cases eo:o.frz with
  | exc C' p =>
   rw [eo]at e
   match p,eo,e with
   | [d],eo,e =>
    have e:(if C'=C∧f=fj C then some (O.d d)else none)=some r:=e
    by_cases c:C'=C∧f=fj C
    ·rw [if_pos c]at e
     injection e with e
     subst e
     obtain⟨rfl,rfl⟩:=c
     have eo:=CS eo
     subst eo
     obtain⟨a,dd,w,rfl,ha,hd,s2⟩:=Sat.kidX s1
     exact⟨a,dd,_,w,rfl,ha,hd,by simp,q w H1 s2⟩
    ·rw [if_neg c]at e; cases e
   | [],_,e=>cases e
   | _::_::_,_,e=>cases e
  | _=>rw [eo]at e; cases e
end
open He (ga ma eqO eqO_ok)
theorem CT {K:iH}{x f:Str} (c:Ge x f K=true):XfC K (ga K x)∧PySem.W.findIn K (.ref (ga K x)) f=some none:=by
 obtain⟨h1,h2⟩:=Bool.and_eq_true_iff.mp c
 exact⟨xfB_ok h1,eqO_ok h2⟩
end PV
namespace PV
open PySem PySem.Spec PyProof.Rows L2
section
variable {T:Tab}{B:Base}{Φ:cW}{W:WX}{X:Cx}
theorem yu {i j k:Nat}{x y z:Str}{e1 e2 e3:Expr}{s1 s2 s3:SE}{px py pz pt:Pos}{kt k2:Nat}{pt2 pos:Pos} (hc:X.calm=true) (hN:X.N.Nodup) (hi:X.N[i]?=some x) (hj:X.N[j]?=some y) (hk:X.N[k]?=some z) (hij:i≠j) (hik:i≠k) (hjk:j≠k)
  (hx:X.env.scope.names.lookup x=some .local) (hy:X.env.scope.names.lookup y=some .local) (hz:X.env.scope.names.lookup z=some .local) (hpi:∀ p∈B.pr,p.1≠i) (hpj:∀ p∈B.pr,p.1≠j) (hpk:∀ p∈B.pr,p.1≠k) (ha:PA X [e1,e2,e3] (tL T B Φ W [s1,s2,s3]))
  (hw:swappedStores [.Tuple [.Name x px,.Name y py,.Name z pz] kt pt] (.Tuple [e1,e2,e3] k2 pt2) X.env=pure (some [x,y,z])) (hs:swapsWithSole [.Tuple [.Name x px,.Name y py,.Name z pz] kt pt] (.Tuple [e1,e2,e3] k2 pt2) pos.line X.env=pure false) :
  PS X (.Assign [.Tuple [.Name x px,.Name y py,.Name z pz] kt pt] (.Tuple [e1,e2,e3] k2 pt2) pos) (tS T B Φ W (.asg (.tp [.nm i,.nm j,.nm k]) (.tup [s1,s2,s3]))):=by
 refine⟨fun pins s σ H D I ⟨ρ,l,at_,h⟩=>(ps_par3 hc hN hi hj hk hij hik hjk hx hy hz ha hw hs).run pins s σ H D I ⟨ρ,l,at_,?_⟩⟩
 rw [bZ,ev]at h
 have h:=(h.rg (σ:=σ)).bind
 refine h.eq.mono fun os ρ1 ⟨eo,q⟩ vs H1 hl a1=>?_
 have hlo:=mD eo
 match os,hlo,vs,hl with
 | [o,p,r],_,[u,v,w],_ =>
  refine⟨u,v,w,rfl,?_⟩
  have q:RS T B W D l (bnd (aF (.tp [.nm i,.nm j,.nm k]) (oE [o,p,r]) ρ1) fun ρ=>.ok .nx ρ):=q
  have g1:∀ a b c:O,aF.go [.nm i,.nm j,.nm k] [a,b,c] ρ1=some (((ρ1.set i (some a)).set j (some b)).set k (some c)):=fun a b c=>by simp only [aF.go,aF]
  have g2:∀ a b c:PV.D,aF.goD [.nm i,.nm j,.nm k] [a,b,c] ρ1=some (((ρ1.set i (some (.d a))).set j (some (.d b))).set k (some (.d c))):=fun a b c=>by simp only [aF.goD,aE]
  have ea:aF (.tp [.nm i,.nm j,.nm k]) (oE [o,p,r]) ρ1=some (((ρ1.set i (some o)).set j (some p)).set k (some r)):=by
   by_cases hd:∃ a b c,o = .d a∧p = .d b∧r = .d c
   ·obtain⟨a,b,c,rfl,rfl,rfl⟩:=hd
    exact g2 a b c
   ·have:oE [o,p,r] = .tup [o,p,r]:=by
     cases o <;> cases p <;> cases r <;> first | rfl | exact(hd ⟨_,_,_,rfl,rfl,rfl⟩).elim
    rw [this]
    exact g1 o p r
  rw [ea]at q
  have q:∀ σ H,At T B H (((ρ1.set i (some o)).set j (some p)).set k (some r)) σ l→D.nx σ H:=q
  refine q _ _ ?_
  have b1:At T B H1 (ρ1.set i (some o)) (σ.set i (some u)) ((p,v)::(r,w)::l):=At.storeA (o:=o) (v:=u) a1 hpi
  exact At.storeA (At.storeA b1 hpj) hpk
end
end PV
namespace PV
open PySem PySem.Spec PyProof.Rows L2
section
variable {P:Program}{w:World}{A:Around}{E:Value→Shared→Prop}{s:Shared}
def dQ (w:World) (s:Shared):Shared:={s with heap:=s.heap.push {cls:=.type "set",dict:=none,data:=.set #[] 0 (.fresh 0 0 (! w.params.followText "set-order"))}}
theorem pL (w:World) (s:Shared):(dQ w s).heap.get? s.heap.objs.size=some {cls:=.type "set",dict:=none,data:=.set #[] 0 (.fresh 0 0 (! w.params.followText "set-order"))}:=Heap.get?_push_size _ rfl
theorem uV (w:World) (s:Shared):(dQ w s).heap.objs.size=s.heap.objs.size+1:=size_push' _ _
theorem pM (w:World) {s:Shared}{b:Addr}{o:Obj} (e:s.heap.get? b=some o):(dQ w s).heap.get? b=some o:=Heap.get?_push_of_some _ e
set_option maxHeartbeats 3200000 in
theorem Fq {l:Addr}{Q:Value→Shared→Prop}{G:Shared→Prop} (h:∀ s₂,G s₂→Q (.ref s.heap.objs.size) s₂)
  (go:wpAny (model P w) A.in1.in1 (Builtin.«set.__init__» ⟨[.ref s.heap.objs.size,.ref l],[]⟩) (fun fin s'=>match fin with | .done f=>wants (fun r s₂=>r = .none∧G s₂) E (.ok f) s' | .again c'=>c'.quiet=true∧codeAny (model P w) A.in1 c' (wants (fun r s₂=>r = .none∧G s₂) E) s')
   (fun e s'=>wants (fun r s₂=>r = .none∧G s₂) E (.error e) s') (dQ w s)):wpAny (model P w) A (call (.type "set") [.ref l]) Q E s:=by
 obtain⟨c,tl,hmro⟩:=F.called_set.mro
 have hmade:=F.called_set.made
 have hsub:=F.called_set.sub
 refine wpAny_call (codeAny_of_tree ?_)
 show wpAny _ _ (callAny (.type "set") _) _ _ _
 refine wpAny_pure ⟨Code.quiet_builtin _ (by decide +kernel),codeAny_builtin F.entry_type_call ?_⟩
 rw [Around.under_plain (weight_type_call_type "set" [.ref l] []) rfl]
 have h1:=F.called_set.notType
 have h2:=F.called_set.canCreate
 have hct:=F.typeCall_set_1 (.ref l)
 repeat (any_goals (first | assumption | wp_step))
 refine codeAny_mono (code_set_led1 (.ref l) (E:=E) (Q₁:=fun obj s₁=>obj = .ref s.heap.objs.size∧s₁=dQ w s) ⟨rfl,rfl⟩) fun r s₁ hr=>?_
 cases r with
 | error e=>exact hr
 | ok fl =>
  cases fl with
  | ret obj =>
   obtain⟨rfl,rfl⟩:=hr
   have hT:(dQ w s).TypeIs (.ref s.heap.objs.size) "set" := ⟨_,pL w s,rfl⟩
   have hli:=F.called_set.init.lookup
   have hbi:=F.called_set.init.bind (.ref s.heap.objs.size)
   repeat (any_goals (first | assumption | wp_step))
   refine codeAny_mono (codeAny_call_builtin (R:=wants (fun r s₂=>r = .none∧G s₂) E) F.called_set.init.plain F.entry_set_init (check_set_init_1 hT go)) fun r₂ s₂ hr₂=>?_
   cases r₂ with
   | error e=>exact hr₂
   | ok fl₂ =>
    cases fl₂ with
    | ret r =>
     obtain⟨rfl,g⟩:=hr₂
     repeat (any_goals (first | assumption | wp_step))
     exact h _ g
    | _=>exact hr₂.elim
  | _=>exact hr.elim
end
end PV
namespace PV
open PySem PySem.Spec PyProof.Rows L2
def xk (e:Int×Value):Str:=match e.2 with
 | .str x _=>x
 | _=>Str.empty
def yw (w:World) (e:Int×Value):Prop:=∃ x tk,e.2=Value.str x tk∧e.1=hashStr w x
structure AV (w:World) (o:Obj) (es:Array (Int×Value)) (ep:Nat) (t:SetTable) (xs:List Str):Prop where
 ex:o.ExactSet
 dat:o.data = .set es ep t
 good:∀ e∈es.toList,yw w e
 perm:(es.toList.map xk).Perm xs
 nd:xs.Nodup
 few:es.size < scanBound
 fit:t.fits es.size=true
 ris:Ris t.place.toList
 led:w.params.followText "set-order" = true∨t.led=true
def ir (w:World) (h:Heap) (a:Addr) (xs:List Str):Prop:=∃ o es ep t,h.get? a=some o∧AV w o es ep t xs
section
variable {P:Program}{w:World}{h h':Heap}{a:Addr}{xs:List Str}
theorem ir.at (R:ir w h a xs) (k:∀ o,h.get? a=some o→h'.get? a=some o):ir w h' a xs:=by
 obtain⟨o,es,ep,t,ho,r⟩:=R
 exact⟨o,es,ep,t,k o ho,r⟩
theorem ir.lt (R:ir w h a xs):a < h.objs.size:=by
 obtain⟨o,es,ep,t,ho,r⟩:=R
 exact Heap.lt_size ho
theorem v7 {l:List (Int×Value)} (g:∀ e∈l,yw w e):ElemsOf (PySem.strKind P w) l:=fun e he=>by
 obtain⟨x,tk,h1,h2⟩:=g e he
 exact⟨⟨x,by rw [h1]; exact strKind_is P w x tk,h2⟩,by rw [h1] <;> rfl⟩
theorem v8 {e:Int×Value} (g:yw w e) (k:Str):(PySem.strKind P w).is k e.2=true↔xk e=k:=by
 obtain⟨x,tk,h1,_⟩:=g
 unfold xk
 rw [h1]
 constructor
 ·intro q
  obtain⟨t,e⟩:=Value.isStrOf_shape (x:=k) (v:=.str x tk) q
  injection e
 ·rintro rfl
  exact strKind_is P w x tk
theorem v9 (ho:h.get? a=some {cls:=.type "set",dict:=none,data:=.set #[] 0 (.fresh 0 0 (! w.params.followText "set-order"))}):ir w h a [] :=
 ⟨_,#[],0,_,ho,⟨⟨rfl,rfl,rfl⟩,rfl,fun e he=>by simp at he,List.Perm.refl _,List.nodup_nil,by decide,by rfl,List.Pairwise.nil,by
  show _∨(! w.params.followText "set-order")=true
  cases w.params.followText "set-order"
  ·exact .inr rfl
  ·exact .inl rfl⟩⟩
end
section
variable {P:Program}{w:World}{A:Around}{E:Value→Shared→Prop}{s:Shared}{a:Addr}{xs:List Str}
theorem tW {g:Bool→Sem Unit} (hg:∀ (b:Bool) (s₁:Shared) (Q':Unit→Shared→Prop),Q' () s₁→wpAny (model P w) A (g b) Q' E s₁) {o:Obj}{es:Array (Int×Value)}{ep:Nat}{t:SetTable} (ho:s.heap.get? a=some o) (hd:o.data = .set es ep t)
  {es1:Array (Int×Value)}{t2:SetTable} (R1:∀ ep',AV w {o with data:=.set es1 ep' t2} es1 ep' t2 xs) {wasDummy:Bool}{R:Option Bool→Shared→Prop}
  (hR:∀ h',Heap.SameBut a s.heap h'→ir w h' a xs→R (some true) {s with heap:=h'}) :
  wpAny (model P w) A (do
    storeSet a es1 t2
    if(! wasDummy&&t2.tooFull)=true then do
      g (relayAll t2 es1 (SetTable.grown es1.size)).2.2
      storeSet a (relayAll t2 es1 (SetTable.grown es1.size)).1 (relayAll t2 es1 (SetTable.grown es1.size)).2.1
      pure (some true)
     else pure (some true)) R E s:=by
 have few:=(R1 0).few
 refine wpAny_bind (wpAny_storeSet_of ho hd ?_ (fits_of_scanBound few))
 have ho1:=store_at (es':=es1) (t':=t2) ho hd
 have sb1:=Heap.SameBut.update s.heap a (Obj.putSet es1 t2)
 split
 ·have pm:=relayAll_perm t2 es1 (SetTable.grown es1.size)
  have hf3:=relayAll_fits t2 es1 (SetTable.grown es1.size)
  have hr3:=relayAll_ris t2 es1 (SetTable.grown es1.size)
  have hl3:=relayAll_led t2 es1 (SetTable.grown es1.size)
  generalize relayAll t2 es1 (SetTable.grown es1.size)=Z at pm hf3 hr3 hl3 ⊢
  obtain⟨es2,t3,gave⟩:=Z
  dsimp only at pm hf3 hr3 hl3 ⊢
  have few2:es2.size < scanBound:=by rw [← Array.length_toList,pm.length_eq,Array.length_toList]; exact few
  refine wpAny_bind (hg _ _ _ ?_)
  refine wpAny_bind (wpAny_storeSet_of ho1 rfl ?_ (fits_of_scanBound few2))
  have ho2:=store_at (es':=es2) (t':=t3) ho1 rfl
  refine wpAny_pure (hR _ (sb1.trans (Heap.SameBut.update _ a _)) ?_)
  have z:=R1 0
  exact⟨_,es2,_,t3,ho2,z.ex,rfl,fun e he=>z.good e (pm.mem_iff.mp he),(pm.map xk).trans z.perm,z.nd,few2,hf3,hr3,z.led.imp id fun q=>by rw [hl3]; exact q⟩
 ·exact wpAny_pure (hR _ sb1 ⟨_,es1,_,t2,ho1,R1 _⟩)
theorem wa {k:Str}{tk:Tok}{Q:Bool→Shared→Prop} (R:ir w s.heap a xs) (room:xs.length+1 < scanBound)
  (hQ:∀ h' b,Heap.SameBut a s.heap h'→ir w h' a (if k∈xs then xs else k::xs)→Q b {s with heap:=h'}) :
  wpAny (model P w) A (setAddHashed a (.str k tk) ((PySem.strKind P w).hash k)) Q E s:=by
 obtain⟨o,es,ep,t,ho,z⟩:=R
 have hd:=z.dat
 have hkey:(PySem.strKind P w).is k (.str k tk)=true:=strKind_is P w k tk
 have hsc:(Value.str k tk).scannable=true:=rfl
 have hel:ElemsOf (PySem.strKind P w) es.toList:=v7 z.good
 have hlen:es.size=xs.length:=by rw [← z.perm.length_eq,List.length_map,Array.length_toList]
 unfold setAddHashed setAddHashedIn
 refine wpAny_holding (wpAny_bind (wpAny_setState_of ho hd z.fit ?_))
 dsimp only
 rw [byScan_of hsc z.few hel]
 simp only [↓reduceIte]
 unfold setAddByScan
 refine wpAny_bind (wpAny_bind (wpAny_rule (wpAny_bind (wpAny_setScan_of hkey ho hd z.fit hel ?_))))
 cases hfi:List.findIdx? (fun e=>(PySem.strKind P w).is k e.2) es.toList with
 | some j =>
  obtain⟨hj,pj,_⟩:=List.findIdx?_eq_some_iff_getElem.mp hfi
  have hm:k∈xs:=z.perm.mem_iff.mp (List.mem_map.mpr ⟨es.toList[j],List.getElem_mem hj,(v8 (P:=P) (z.good _ (List.getElem_mem hj)) k).mp pj⟩)
  have q:=hQ s.heap false (Heap.SameBut.refl a s.heap) (by rw [if_pos hm]; exact⟨o,es,ep,t,ho,z⟩)
  dsimp only
  exact wpAny_pure (wpAny_pure q)
 | none =>
  have hnk:k∉xs:=fun q=>by
   obtain⟨e,he,qe⟩:=List.mem_map.mp (z.perm.mem_iff.mpr q)
   have c:=List.findIdx?_eq_none_iff.mp hfi e he
   rw [(v8 (P:=P) (z.good e he) k).mpr qe]at c
   cases c
  dsimp only
  have hgw:∀ (b:Bool) {s₁:Shared}{Q':Unit→Shared→Prop},Q' () s₁→wpAny (model P w) A (match b with | true=>rule "set.scan.the-table-gave-way" | false=>pure ()) Q' E s₁ :=
   fun b s₁ Q' q=>by cases b <;> first | exact wpAny_pure q | exact wpAny_rule q
  have pm:=layNew_perm t es ((PySem.strKind P w).hash k) (.str k tk)
  have hf1:=layNew_fits t es ((PySem.strKind P w).hash k) (.str k tk)
  have hr1:=layNew_ris t es ((PySem.strKind P w).hash k) (.str k tk) z.ris
  have hl1:=layNew_led t es ((PySem.strKind P w).hash k) (.str k tk)
  generalize layNew t es ((PySem.strKind P w).hash k) (.str k tk)=Z at pm hf1 hr1 hl1 ⊢
  obtain⟨es1,t1,wasDummy,gave⟩:=Z
  dsimp only at pm hf1 hr1 hl1 ⊢
  rw [Array.toList_push]at pm
  have pc:es1.toList.Perm (((PySem.strKind P w).hash k,Value.str k tk)::es.toList):=pm.trans (List.perm_append_singleton _ _)
  have g1:∀ e∈es1.toList,yw w e:=fun e he=>by
   rcases List.mem_cons.mp (pc.mem_iff.mp he)with q | q
   ·rw [q]; exact⟨k,tk,rfl,rfl⟩
   ·exact z.good e q
  have hp1:(es1.toList.map xk).Perm (k::xs):=(pc.map xk).trans (by rw [List.map_cons]; exact z.perm.cons k)
  have hb1:es1.size < scanBound:=by rw [← Array.length_toList,pc.length_eq,List.length_cons,Array.length_toList,hlen]; exact room
  have hled:w.params.followText "set-order" = true∨t1.led=true:=z.led.imp id fun q=>by rw [hl1]; exact q
  have mk:∀ (t':SetTable),t'.fits es1.size=true→Ris t'.place.toList→(w.params.followText "set-order" = true∨t'.led=true)→∀ ep',AV w {o with data:=.set es1 ep' t'} es1 ep' t' (k::xs) :=
   fun t' f r l ep'=>⟨z.ex,rfl,g1,hp1,List.nodup_cons.mpr ⟨hnk,z.nd⟩,hb1,f,r,l⟩
  have fin:∀ h',Heap.SameBut a s.heap h'→ir w h' a (k::xs)→Q true {s with heap:=h'}:=fun h' sb r=>hQ h' true sb (by rw [if_neg hnk]; exact r)
  refine wpAny_bind (hgw _ ?_)
  split
  ·refine wpAny_bind ?_
   rw [hashByValue_scannable 8 hsc]
   refine wpAny_pure ?_
   refine tW ?_ ho hd (mk _ ?_ ?_ ?_) ?_
   ·intro b s₁ Q' q; cases b <;> first | exact wpAny_pure q | exact wpAny_rule q
   ·first | (split <;> first | exact hf1 | exact SetTable.fits_plain_off hf1) | exact hf1
   ·first | (split <;> exact hr1) | exact hr1
   ·first | (split <;> exact hled) | exact hled
   ·intro h' sb r; dsimp only; exact wpAny_pure (fin h' sb r)
  ·refine wpAny_bind (wpAny_pure ?_)
   simp only [↓reduceIte]
   refine tW ?_ ho hd (mk _ hf1 hr1 hled) ?_
   ·intro b s₁ Q' q; cases b <;> first | exact wpAny_pure q | exact wpAny_rule q
   ·intro h' sb r; dsimp only; exact wpAny_pure (fin h' sb r)
end
def putT (xs:List Str) (k:Str):List Str:=if k∈xs then xs else k::xs
section
variable {P:Program}{w:World}{A:Around}{E:Value→Shared→Prop}{s:Shared}
theorem AW {xs:List Str}{k:Str}:(putT xs k).length≤xs.length+1:=by
 unfold putT
 split <;> simp
theorem oV:∀ (ks xs:List Str),(ks.foldl putT xs).length≤xs.length+ks.length
 | [],xs=>by simp
 | k::ks,xs=>by
  have h1:=oV ks (putT xs k)
  have h2:=AW (xs:=xs) (k:=k)
  rw [List.foldl_cons,List.length_cons]
  omega
theorem G5 {I:Addr}{fp wr:List Addr}{G:Array GenState→Array GenState→Prop}{n:Nat}{Pv:Nat→Value→Prop}{St:Nat→Shared→Prop}{R:Result→Shared→Prop}
  (W:WalksS P w A.in1 I fp wr G n Pv St) (S:Addr) (hSf:S∉fp) (ks:List Str) (hn:n=ks.length) (hb:ks.length+1 < scanBound) (hval:∀ i v,Pv i v→∃ k t,ks[i]?=some k∧v = .str k t) :
  ∀ (m i:Nat) (s:Shared),n - i=m→i≤n→St i s→ir w s.heap S ((ks.take i).foldl putT []) →
   (∀ s',Moved (S::wr) G s s'→ir w s'.heap S (ks.foldl putT [])→R (.ok (.ret .none)) s') →
   codeAny (model P w) A (.builtin "set.update.loop" ⟨[.ref S,.ref I],[]⟩) R s:=by
 have hSw:S∉wr:=fun h=>hSf (W.sub _ h)
 have hsub:∀ b∈wr,b∈S::wr:=fun b hb=>List.mem_cons_of_mem _ hb
 intro m
 induction m with
 | zero =>
  intro i s hk hi hst hS hR
  have hin:i=n:=by omega
  subst hin
  refine codeAny_builtin F.entry_set_update_loop ?_
  rw [Around.under_plainId F.plain_set_update_loop _]
  refine wpAny_bind (W.done s _ _ hst fun s' hm=>wpAny_pure (hR s' (hm.mono hsub) ?_))
  rw [List.take_of_length_le (by omega)]at hS
  exact hS.at fun o e=>hm.heap S o hSw e
 | succ m ih =>
  intro i s hk hi hst hS hR
  have hlt:i < n:=by omega
  refine codeAny_builtin F.entry_set_update_loop ?_
  rw [Around.under_plainId F.plain_set_update_loop _]
  refine wpAny_bind (W.item i s _ _ hlt hst fun v s' hP hst' hm=>?_)
  obtain⟨z,t,hz,rfl⟩:=hval i v hP
  have hS':=hS.at (h':=s'.heap) fun o e=>hm.heap S o hSw e
  show wpAny _ A.in1 (holding [Value.str z t] (setAdd S (.str z t)) >>= _) _ _ s'
  refine wpAny_bind (wpAny_holding ?_)
  unfold setAdd
  refine wpAny_holding (wpAny_bind ((PySem.strKind P w).pyHash (k:=z) (strKind_is _ _ _ _) ?_))
  have hl:=oV (ks.take i) []
  rw [List.length_take]at hl
  refine wa (s:={s' with toks:=s'.toks+1}) hS' (by simp at hl; omega) fun h' b hsb hS2=>?_
  have hS3:ir w h' S ((ks.take (i+1)).foldl putT []):=by
   rw [List.take_add_one,hz,List.foldl_append]
   exact hS2
  refine wpAny_pure ⟨plainId_quiet F.plain_set_update_loop _,ih (i+1) _ (by omega) hlt (W.frame _ s' _ _ hst' (Nat.le_succ _) fun b hb o e=>?_) hS3 fun s'' hm'' hS''=>?_⟩
  ·rw [hsb.2 b fun h:b=S=>hSf (by rw [← h]; exact hb)]; exact e
  ·refine hR s'' (Moved.trans W.gtrans ((hm.mono hsub).then_heap (Nat.le_succ _) fun b o hb e=>?_) hm'') hS''
   rw [hsb.2 b fun h:b=S=>hb (by rw [h]; exact List.mem_cons_self)]; exact e
set_option maxHeartbeats 3200000 in
theorem y8 {l:Addr}{items:Array Value} (ks:List Str) {Q:Value→Shared→Prop} (hh:A.handled=none) (hl:s.heap.IsList l items) (hit:StrsAre items.toList ks) (hb:ks.length+1 < scanBound)
  (h:∀ (h':Heap) (tk:Nat),ir w h' s.heap.objs.size (ks.foldl putT [])→(∀ b o,s.heap.get? b=some o→h'.get? b=some o)→Q (.ref s.heap.objs.size) {s with heap:=h',toks:=tk}) :
  wpAny (model P w) A (call (.type "set") [.ref l]) Q E s:=by
 have hisz:ks.length=items.size:=by rw [← StrsAre.len_eq hit,Array.length_toList]
 refine Fq (G:=fun s₂=>∃ h' tk,s₂={s with heap:=h',toks:=tk}∧ir w h' s.heap.objs.size (ks.foldl putT [])∧∀ b o,s.heap.get? b=some o→h'.get? b=some o) (fun s₂ ⟨h',tk,e,r,k⟩=>by rw [e]; exact h h' tk r k) ?_
 have hlS:l < s.heap.objs.size:=by obtain⟨ol,hol,_⟩:=hl; exact Heap.lt_size hol
 have hl1:(dQ w s).heap.IsList l items:=hl.at fun o e=>pM w e
 obtain⟨ol,hol,hcl,nl,hdl⟩:=id hl1
 obtain⟨ocls,odict,odata,oslots⟩:=ol
 simp only at hcl hdl
 subst hcl; subst hdl
 have hS:=pL w s
 have hT:(dQ w s).TypeIs (.ref s.heap.objs.size) "set" := ⟨_,hS,rfl⟩
 have hsz:=uV w s
 have hback:∀ b o,s.heap.get? b=some o→(dQ w s).heap.get? b=some o:=fun b o e=>pM w e
 have hst:∀ h' tk,{dQ w s with heap:=h',toks:=tk}={s with heap:=h',toks:=tk}:=fun _ _=>rfl
 have hg:(dQ w s).gens=s.gens∧(dQ w s).drawn=s.drawn∧(dQ w s).os=s.os:=⟨rfl,rfl,rfl⟩
 generalize dQ w s=s1 at hl1 hol hS hT hsz hback hst hg ⊢
 have hsls:=F.sub_list_set
 have hslf:=F.sub_list_frozenset
 have hne:(Value.type "list" == Value.type "dict")=false:=by decide
 unfold Builtin.«set.__init__» noKeywords Builtin.Frozenset.updateFrom
 generalize hPI:pyIter=PI
 wp_walk
 subst hPI
 refine wpAny_pyIter_list hl1 ?_
 refine wpAny_bind (wpAny_runValue ?_)
 have hh3:A.in1.in1.in1.handled=none:=by simp [hh]
 have hneI:l≠s1.heap.objs.size:=Nat.ne_of_lt (by rw [hsz]; exact Nat.lt_succ_of_lt hlS)
 have hSf:s.heap.objs.size∉[s1.heap.objs.size,l]:=by
  simp only [List.mem_cons,List.not_mem_nil,or_false,not_or]
  exact⟨Nat.ne_of_lt (by rw [hsz]; exact Nat.lt_succ_self _),Nat.ne_of_gt hlS⟩
 have hval:∀ (i:Nat) (v:Value),items[i]?=some v→∃ k t,ks[i]?=some k∧v = .str k t:=fun i v hv=>by
  have hi:i < ks.length:=by rw [hisz]; exact(Array.getElem?_eq_some_iff.mp hv).1
  obtain⟨t,e⟩:=SS.strs_at hit i v (by rw [Array.getElem?_toList]; exact hv)
  refine⟨ks[i],t,List.getElem?_eq_getElem hi,?_⟩
  rw [e,List.getD_eq_getElem?_getD,List.getElem?_eq_getElem hi] <;> rfl
 refine G5 ((Walks.list hh3 _ l hneI items).toS) s.heap.objs.size hSf ks hisz.symm hb hval (items.size - 0) 0 _ (by omega) (Nat.zero_le _) ⟨⟨_,Heap.get?_push_size _ rfl,rfl,rfl⟩,(hl1.push _)⟩ (v9 (Heap.get?_push_of_some _ hS)) fun s' hm hS'=>?_
 obtain⟨h',g2,d',tk',os'⟩:=s'
 have eg:g2=s.gens:=(show g2=s1.gens from hm.gens).trans hg.1
 have ed:d'=s.drawn:=(show d'=s1.drawn from hm.drawn).trans hg.2.1
 have eo:os'=s.os:=(show os'=s1.os from hm.os).trans hg.2.2
 subst eg; subst ed; subst eo
 show wpAny _ _ _ _ _ _
 refine wpAny_pure ?_
 show wpAny _ _ (ret Value.none) _ _ _
 refine wpAny_pure ⟨rfl,h',tk',rfl,hS',fun b o e=>?_⟩
 have hb0:b < s.heap.objs.size:=Heap.lt_size e
 exact hm.heap b o (by simp only [List.mem_cons,List.not_mem_nil,or_false,not_or]; exact⟨Nat.ne_of_lt hb0,Nat.ne_of_lt (by rw [hsz]; exact Nat.lt_succ_of_lt hb0)⟩) (Heap.get?_push_of_some _ (hback b o e))
end
end PV
namespace PV
open PySem PySem.Spec PyProof.Rows L2
def vk (a b:Str):Bool:=decide (a.cps.toList≤b.cps.toList)
def xl (ks:List Str):List Str:=(ks.foldl putT []).mergeSort vk
theorem tX (a b:Str):(vk a b||vk b a)=true:=by
 unfold vk
 rw [Bool.or_eq_true,decide_eq_true_eq,decide_eq_true_eq]
 exact List.le_total _ _
theorem tY (a b c:Str) (h1:vk a b=true) (h2:vk b c=true):vk a c=true:=by
 unfold vk at *
 rw [decide_eq_true_eq]at *
 exact List.le_trans h1 h2
theorem AX {a b:Str} (h1:vk a b=true) (h2:vk b a=true):a=b:=by
 unfold vk at *
 rw [decide_eq_true_eq]at *
 exact PySem.W.str_of_cps (List.le_antisymm h1 h2)
theorem xm {xs ys:List Str} (h:xs.Perm ys):xs.mergeSort vk=ys.mergeSort vk:=by
 refine List.Perm.eq_of_pairwise (le:=fun a b=>vk a b=true) (fun a b _ _ h1 h2=>AX h1 h2) (List.pairwise_mergeSort tY tX xs) (List.pairwise_mergeSort tY tX ys) ?_
 exact(List.mergeSort_perm xs vk).trans (h.trans (List.mergeSort_perm ys vk).symm)
section
variable {P:Program}{w:World}{A:Around}{E:Value→Shared→Prop}{s:Shared}{a:Addr}{xs:List Str}
theorem wb {w:World}:∀ (vs:List Value),(∀ v∈vs,∃ x t,v=Value.str x t)→∃ ks:List Str,PySem.W.EachIs (fun v k=>∃ t,v=Value.str k t) vs ks
 | [],_=>⟨[],.nil⟩
 | v::vs,h=>by
  obtain⟨x,t,e⟩:=h v List.mem_cons_self
  obtain⟨ks,q⟩:=wb (w:=w) vs fun u hu=>h u (List.mem_cons_of_mem _ hu)
  exact⟨x::ks,.cons ⟨t,e⟩ q⟩
theorem each_keys:∀ {vs:List Value}{ks:List Str},PySem.W.EachIs (fun v k=>∃ t,v=Value.str k t) vs ks→vs.map (fun v=>xk (0,v))=ks
 | _,_,.nil=>rfl
 | _,_,.cons ⟨t,e⟩ h=>by
  rw [List.map_cons,each_keys h,e]
  rfl
theorem uW {Q:Value→Shared→Prop} (R:ir w s.heap a xs) (hh:A.handled=none) (hu:A.units+10 < cLine)
  (hQ:∀ s' p (out:List Value) (c:Nat),(∀ b o,s.heap.get? b=some o→s'.heap.get? b=some o)→s'.gens=s.gens→s'.os=s.os→s.heap.objs.size≤p →
   s'.heap.get? p=some (seqObj "list" out.toArray c)→PySem.W.EachIs (fun v k=>∃ t,v=Value.str k t) out (xs.mergeSort vk)→Q (.ref p) s') :
  wpAny (model P w) A (call (.builtin "sorted") [.ref a]) Q E s:=by
 obtain⟨o,es,ep,t,ho,z⟩:=R
 refine Calls.call_function_entry kind_sorted plain_sorted entry_sorted (args_sorted1 _) ?_
 unfold Builtin.«sorted»
 refine wpAny_bind (m:=checkCount "sorted" 1 1 _) (wpAny_pure ?_)
 refine wpAny_bind (collect_set (A:=A.in1) hh ⟨o,ho,z.ex.1,z.dat⟩ z.fit z.few z.ris z.led fun s1 vs k1 hz g1 o1 pm=>?_)
 obtain⟨ks,ek⟩:=wb (w:=w) vs fun v hv=>by
  obtain⟨e,he,q⟩:=List.mem_map.mp (pm.mem_iff.mp hv)
  obtain⟨x,tk,h1,_⟩:=z.good e he
  exact⟨x,tk,by rw [← q]; exact h1⟩
 have pk:ks.Perm xs:=by
  rw [← each_keys ek]
  refine(pm.map _).trans ?_
  rw [List.map_map]
  exact z.perm
 have hsl:vs.length≤sizeLine:=by
  rw [pm.length_eq,List.length_map,Array.length_toList]
  exact fits_of_scanBound z.few
 refine wpAny_bind (wpAny_newList ?_ hsl)
 have hoL:(s1.heap.push (seqObj "list" vs.toArray 0)).get? s1.heap.objs.size=some (seqObj "list" vs.toArray 0):=Heap.get?_push_size _ rfl
 have er:PySem.W.EachIs (fun v k=>∃ as,Reads (s1.heap.push (seqObj "list" vs.toArray 0)) v (PyData.str k) as∧s1.heap.objs.size∉as) vs ks:=ek.mono fun v k ⟨t,e⟩=>⟨[],by rw [e]; exact .str k t,by simp⟩
 refine wpAny_bind (wpAny_holding (PySem.W.list_sort_data (s:={s1 with heap:=s1.heap.push (seqObj "list" vs.toArray 0)}) (enc:=PyData.str) hoL ek er (.of fun _ _=>rfl) (.others fun b=>⟨by simp,by simp⟩) (by rw [← ek.length]; exact hsl) (fun b _=>?_) fun out hl eo=>?_))
 ·show _+1+0 < _
  have:A.in1.units=A.units+1:=rfl
  omega
 ·rw [PySem.W.dataLe_str (fun b:Str=>b)]at eo
  obtain⟨c,hc⟩:=sortedHeap_at (vs:=vs) (out:=out.toArray) hoL
  refine wpAny_pure ⟨_,rfl,hQ _ s1.heap.objs.size out c (fun b u e=>?_) g1 o1 hz hc ?_⟩
  ·have q:=k1 b u e
   have hlt:=Heap.lt_size q
   show(sortedHeap (s1.heap.push (seqObj "list" vs.toArray 0)) s1.heap.objs.size vs out.toArray).get? b=some u
   rw [sortedHeap_old (Nat.ne_of_lt hlt) (by rw [size_push']; exact Nat.lt_succ_of_lt hlt)]
   exact Heap.get?_push_of_some _ q
  ·have e2:(ks.mergeSort fun a b:Str=>decide (a.cps.toList≤b.cps.toList))=xs.mergeSort vk:=xm pk
   rw [e2]at eo
   exact eo
end
def AY:D→Option O
 | .lst xs=>match fL xs with
  | some ks=>if ks.length≤4000 then some (.lst ((xl ks).map fun x=>.d (.str x)))else none
  | none=>none
 | _=>none
def AZ:List D→Option O
 | [x]=>AY x
 | _=>none
section
variable {T:Tab}{B:Base}{Φ:cW}{W:WX}{X:Cx}{H:Hp}{l:List aW}{own:Addr→Prop}{h:Hp}
theorem rh:∀ {out:List Value}{ks:List Str},PySem.W.EachIs (fun v k=>∃ t,v=Value.str k t) out ks→Vals (ks.map V.str) out
 | _,_,.nil=>.nil
 | _,_,.cons ⟨t,e⟩ h=>.cons ⟨t,e⟩ (rh h)
theorem CU {a:Expr}{sa:SE}{p p2 pos q:Pos} (hK:X.K=T.K) (hc:X.calm=true) (hu:X.A.units+10 < cLine) (hg:Gl X "sorted") (hm:X.mg "sorted" = none) (hg2:Gl X "set") (hm2:X.mg "set" = none) (ha:PE X a (tA T B Φ W sa)) (na:starEach [a] X.env=(false,eval a X.env)::starEach [] X.env)
  (na2:starEach [.Call (.Name "set" p2) [a] [] q] X.env=(false,eval (.Call (.Name "set" p2) [a] [] q) X.env)::starEach [] X.env) :
  PE X (.Call (.Name "sorted" p) [.Call (.Name "set" p2) [a] [] q] [] pos) (tE T B Φ W (.ofn false AZ [sa])):=by
 have go:PE X (.Call (.Name "sorted" p) [.Call (.Name "set" p2) [a] [] q] [] pos) (fun σ H Q=>tA T B Φ W sa σ H fun x H1=>dW T B AZ false [x] H1 Q):=by
  refine⟨fun pins s σ H Q I h=>?_⟩
  refine Call_ (ld_blt I hg hm boot_sorted ?_)
  refine PyProof.Rows.callWith_builtin1 (PyProof.Rows.args_cons ?_ na2) rfl rfl
  refine Call_ (ld_blt I hg2 hm2 PyProof.Rows.boot_set ?_)
  refine PyProof.Rows.callWith_type1 (PyProof.Rows.args_cons (thn (ha.run pins s σ H _ I h) fun v s1 hq=>PyProof.Rows.args_nil ?_) na) na rfl
  obtain⟨x,H1,I1,r1,q1⟩:=hq
  obtain⟨o,l,r,sa,e,q1⟩:=oI q1
  have e:AY o.frz=some r:=e
  cases eo:o.frz with
  | lst xs =>
   rw [eo]at e
   have e:(match fL xs with | some ks=>if ks.length≤4000 then some (O.lst ((xl ks).map fun x=>.d (.str x)))else none | none=>none)=some r:=e
   cases es:fL xs with
   | none=>rw [es]at e; cases e
   | some ks =>
    rw [es]at e
    have e:(if ks.length≤4000 then some (O.lst ((xl ks).map fun x=>.d (.str x)))else none)=some r:=e
    by_cases hz:ks.length≤4000
    ·rw [if_pos hz]at e
     injection e with e
     subst e
     have d:=ae.read sa
     rw [eo]at d
     obtain⟨c,vs,rfl,h1,h2⟩:=d
     have hv:=mE es h2
     subst hv
     have hq:SqL X.K H1 c (ks.map V.str):=by
      rw [hK]
      rcases h1 with⟨_,h1⟩ | h1
      ·exact .inl (ny sa (fun _ _ z=>nomatch z) h1)
      ·exact .inr h1
     cases r1
     obtain⟨its,r,pl,_⟩:=I1.list hq
     have hi:=strsAre_of (us:=its) r
     refine y8 ks (I1.ok.hd hc) pl.isList (by simpa using hi) (by unfold scanBound; omega) fun h' tk R hk=>?_
     refine PyProof.Rows.args_nil ?_
     have I2:Inv X pins σ H1 {s1 with heap:=h',toks:=tk}:=I1.kept fun b o e=>hk b o e
     refine uW R (I2.ok.hd hc) (by omega) fun s' p out c2 k g o hp hg eo2=>?_
     have hf:=oV ks []
     have hlen:((xl ks).map V.str).length≤sizeLine:=by rw [List.length_map,xl,List.length_mergeSort,sizeLine_eq]; simp at hf; omega
     have hp1:s1.heap.objs.size≤p:=Nat.le_trans (Nat.le_of_lt (ir.lt R)) hp
     have hn2:H1 p=none:=I2.hok.fresh hp
     have J:Inv X pins σ (upd H1 p (.lst ((xl ks).map V.str))) {s1 with heap:=s'.heap,gens:=s'.gens,drawn:=s'.drawn,toks:=s'.toks} :=
      I1.call (ch:=[]) (Un.laid (fun b o e=>k b o (hk b o e)) hp1 hn2) (I1.hok.laid (fun b o e=>k b o (hk b o e)) hp1 ⟨hlen,out,c2,rh eo2,hg⟩) (by rw [g]; exact I1.bare) (fun _ z=>nomatch z)
     have e2:s'={s1 with heap:=s'.heap,gens:=s'.gens,drawn:=s'.drawn,toks:=s'.toks}:=by
      cases s'
      cases s1
      cases o
      rfl
     rw [e2]
     refine⟨.ref p,_,J,rfl,q1 _ _ ?_⟩
     refine Sat.newL (os:=(xl ks).map fun x=>O.d (.str x)) ?_ (by simp) hn2
     have sr:∀ (ms:List Str) {l:List aW},Sat T B H1 l→Sat T B H1 ((ms.map fun x=>O.d (.str x)).zip (ms.map V.str)++l):=by
      intro ms l sl
      induction ms with
      | nil=>exact sl
      | cons m ms ih=>exact ih.str
     exact sr _ sa
    ·rw [if_neg hz]at e; cases e
  | _=>rw [eo]at e; cases e
 refine go.pv fun σ H Q ⟨ρ,l,a,h⟩=>?_
 rw [ev,bN]at h
 have h:=h.rg.bind.bind
 refine⟨ρ,l,a,h.mono fun y ρ1 k v H1 a1 av=>?_⟩
 rw [bN]at k
 exact iD (as:=[y]) k.bind (a1.perm jv) ⟨av,trivial⟩
end
end PV
namespace PV
open PySem PySem.Spec PyProof.Rows L2
open PySem.W (alike EachIs dataLe AllAlike Sortable)
instance memU (k:BU) (xs:List BU):Decidable (k∈xs):=@List.instDecidableMemOfLawfulBEq BU instBEqOfDecidableEq inferInstance k xs
end PV
namespace PV
open PySem PySem.Spec PyProof.Rows L2
theorem A0 {J:It}{n:Nat}{G:Hp→Prop}{Y:Nat→Hp→V→Hp→Prop} (w:Walk J n G Y) {Stp:(Hp→Prop)→V→Hp→Prop}{Qd:Hp→Prop}{H1:Hp} (Pv:Nat→Hp→Prop) (h0:Pv 0 H1) (hG:∀ i H,i≤n→Pv i H→G H)
  (hs:∀ i x H H',i < n→Pv i H→Y i H x H'→Stp (Pv (i+1)) x H') (hd:∀ H,Pv n H→Qd H) :
  ∃ W:Nat→Nat→Hp→Prop,(∃ m,W 0 m H1)∧∀ i m H,W i m H→(J.stop i H∧Qd H)∨(J.go i H∧∃ Nx:Hp→Prop,(∀ H',Nx H'→∃ m',m' < m∧W (i+1) m' H')∧∀ x H',J.yld i H x H'→Stp Nx x H'):=by
 refine⟨fun i m H=>m=n - i∧i≤n∧Pv i H,⟨n,by simp,Nat.zero_le _,h0⟩,?_⟩
 rintro i m H ⟨rfl,hi,p⟩
 have q:=hG i H hi p
 by_cases hlt:i < n
 ·exact .inr ⟨w.goes i H hlt q,Pv (i+1),fun H' p'=>⟨n - (i+1),by omega,rfl,hlt,p'⟩,fun x H' y=>hs i x H H' hlt p (w.yields i H x H' hlt q y)⟩
 ·have e:i=n:=by omega
  subst e
  exact .inl ⟨w.stops H q,hd H p⟩
section
variable {T:Tab}{B:Base}{Φ:cW}{W:WX}{X:Cx}{H:Hp}{ρ:Env}{σ:L2.St}{l:List aW}
theorem kP (own:List Nat) (σ:L2.St):L2.wipe (L2.wipe σ own) own=L2.wipe σ own:=cn ⟨by rw [wipe_length],fun j hj=>wipe_out hj⟩ fun i hi=>hi
theorem A5 {own:List (Str×Nat)}{t t2:Tg}{ie ie2:IE}{se:SE}{sifs sifs2:List SE}{Q:VK}
  (nd:(own.map (·.2)).Nodup) (hp:∀ p∈B.pr,p.1∉own.map (·.2)) (htg:∀ i∈ar t,i∈own.map (·.2)) (htg2:∀ i∈ar t2,i∈own.map (·.2)) (h0:tE T B Φ W (.comp2 se (own.map (·.2)) t ie sifs t2 ie2 sifs2) σ H Q) :
  tLc2 (tI T B Φ W ie) (gT T B t) (vi T B Φ sifs) (tI T B Φ WF ie2) (gT T B t2) (vi T B Φ sifs2) (tE T B Φ WF se) (own.map (·.2)) (ar t2) σ H Q:=by
 obtain⟨ρ,l,at_,h⟩:=h0
 rw [ev]at h
 refine⟨ρ,l,at_,h.rg.bind.mono fun q ρ1 k vs J H1 hvl av a1 wk hz D hD=>?_⟩
 obtain⟨as,os,ds⟩:=q
 simp only at k hvl av a1 wk hz
 have hp2:∀ p∈B.pr,p.1∉ar t2:=fun p hq z=>hp p hq (htg2 _ z)
 generalize hf1:(fun(y:PV.D) (ρ:Env)=>PV.bnd (aE t2 y ρ) fun ρ=>(cZ Φ sifs2 ρ).bind fun b ρ=>kg b ((ev Φ se ρ).bind fun o ρ=>Res.ok (some o) (ai (ar t2) ρ)) (Res.ok none (ai (ar t2) ρ)))=f1 at k
 generalize hf:(fun(x:PV.D) (ρ:Env)=>PV.bnd (aE t x ρ) fun ρ=>(cZ Φ sifs ρ).bind fun b ρ=>kg b ((kG Φ ie2 ρ).bind fun q ρ=>(aK f1 q.2.2 (ai (ar t2) ρ)).bind fun os ρ=>Res.ok os (ai (own.map (·.2)) (aL q.1 q.2.1 ρ))) (Res.ok [] (ai (own.map (·.2)) ρ)))=f at k
 obtain⟨outs,a2,back⟩:=kq nd a1
 have hn0:∀ i∈own.map (·.2),aq (ai (own.map (·.2)) ρ1) i=none:=fun i hi=>bh (.inl hi)
 have a3:=a2.wipe hn0 hp
 -- what is left to be done: the rest r,behind the items oss
 let KK:Res (List O)→List O→Prop:=fun r oss=>RG T B W σ l ((r.bind fun rest ρ=>Res.ok (oss++rest) ρ).noX.bind fun os' ρ'=>PV.bnd (w4 os') fun o=>Res.ok o (aL as os (bB (own.map (·.2)) ρ1 ρ'))) (fun o ρ=>∀ v H,At T B H ρ σ ((o,v)::l)→Q v H)
 have kk_ok:∀ {r:Res (List O)}{oss:List O},KK r oss→∃ rest ρ',r = .ok rest ρ'∧oss.length+rest.length≤sizeLine:=by
  intro r oss k
  cases r with
  | bad=>exact k.elim
  | exc C p ρ=>exact k.elim
  | ok rest ρ' =>
   refine⟨rest,ρ',rfl,?_⟩
   have k:RG T B W σ l (PV.bnd (w4 (oss++rest)) fun o=>Res.ok o (aL as os (bB (own.map (·.2)) ρ1 ρ'))) (fun o ρ=>∀ v H,At T B H ρ σ ((o,v)::l)→Q v H):=k
   unfold w4 at k
   split at k
   ·rename_i hc
    rw [List.length_append]at hc
    exact hc
   ·exact k.elim
 have kk_step:∀ {r:Res (List O)}{g:Env→Res (List O)}{a oss:List O}{ρ2:Env},r = .ok a ρ2→KK (r.bind fun a ρ=>(g ρ).bind fun b ρ=>Res.ok (a++b) ρ) oss→KK (g ρ2) (oss++a):=by
  intro r g a oss ρ2 e k
  subst e
  have e2:(((g ρ2).bind fun b ρ=>Res.ok (a++b) ρ).bind fun rest ρ=>Res.ok (oss++rest) ρ)=(g ρ2).bind fun rest ρ=>Res.ok (oss++a++rest) ρ:=by
   generalize g ρ2=r
   cases r <;> simp
  have k:RG T B W σ l ((((g ρ2).bind fun b ρ=>Res.ok (a++b) ρ).bind fun rest ρ=>Res.ok (oss++rest) ρ).noX.bind fun os' ρ'=>PV.bnd (w4 os') fun o=>Res.ok o (aL as os (bB (own.map (·.2)) ρ1 ρ'))) (fun o ρ=>∀ v H,At T B H ρ σ ((o,v)::l)→Q v H):=k
  rw [e2]at k
  exact k
 have k0:KK (cy f ds (ai (own.map (·.2)) ρ1)) []:=by
  show RG T B W σ l (((cy f ds (ai (own.map (·.2)) ρ1)).bind fun rest ρ=>Res.ok ([]++rest) ρ).noX.bind _) _
  have:((cy f ds (ai (own.map (·.2)) ρ1)).bind fun rest ρ=>Res.ok ([]++rest) ρ)=cy f ds (ai (own.map (·.2)) ρ1):=by
   generalize cy f ds (ai (own.map (·.2)) ρ1)=r
   cases r <;> rfl
  rw [this]
  exact k
 have w:Walk J ds.length (fun H=>∃ l',Sat T B H (os.zip vs++l')) (fun i H v H'=>∀ l',Sat T B H (os.zip vs++l')→∃ d,ds[i]?=some d∧Sat T B H' ((.d d,v)::(os.zip vs++l'))) :=
  ⟨fun i H hi ⟨l',s⟩=>wk.goes i H l' hi s,fun H ⟨l',s⟩=>wk.stops H l' s,fun i H v H' hi _ y l' s=>wk.yields i H v H' l' hi s y⟩
 have hd:∀ {m:List aW}{H:Hp}{ρi:Env}{σ':L2.St},At T B H ρi σ' (m++(outs++(os.zip vs++l)))→Sat T B H (os.zip vs++(af ρi σ'++(m++(outs++l)))):=fun {m H ρi σ'} a=>a.sat.perm (by
  have p1:(m++(outs++(os.zip vs++l))).Perm (os.zip vs++(m++(outs++l))):=(ak.append_left m).trans ak
  exact(p1.append_left _).trans ak)
 refine A0 (Stp:=fun Nx x H'=>gT T B t x (L2.wipe σ (own.map (·.2))) H' fun σ2 H2=>L2.wipe σ2 (own.map (·.2))=L2.wipe σ (own.map (·.2))∧vi T B Φ sifs σ2 H2 fun b H3 =>
  if b=true then tI T B Φ WF ie2 σ2 H3 fun J1 H4=>∃ W1:Nat→Nat→Hp→Prop,(∃ m,W1 0 m H4)∧∀ j k H,W1 j k H →
   (J1.stop j H∧Nx H)∨(J1.go j H∧∃ Nx1:Hp→Prop,(∀ H',Nx1 H'→∃ k',k' < k∧W1 (j+1) k' H')∧∀ x H',J1.yld j H x H'→gT T B t2 x (L2.wipe σ2 (ar t2)) H' fun σ3 H5=>L2.wipe σ3 (ar t2)=L2.wipe σ2 (ar t2)∧vi T B Φ sifs2 σ3 H5 fun b H6 =>
    if b=true then tE T B Φ WF se σ3 H6 fun y H7=>∃ acc,H7 D=some (.lst acc)∧acc.length < sizeLine∧Nx1 (upd H7 D (.lst (acc++[y])))else Nx1 H6)
  else Nx H3) w (fun i H=>∃ ρi oss,(∀ j∈own.map (·.2),aq ρi j=none)∧At T B H ρi (L2.wipe σ (own.map (·.2))) ((.lst oss,.ref D)::(outs++(os.zip vs++l)))∧KK (cy f (ds.drop i) ρi) oss) ?_ ?_ ?_ ?_
 ·refine⟨ai (own.map (·.2)) ρ1,[],hn0,⟨a3.ok,?_,a3.pr⟩,by rw [List.drop_zero]; exact k0⟩
  have s1:Sat T B H1 (([]:List O).zip ([]:List V)++(af (ai (own.map (·.2)) ρ1) (L2.wipe σ (own.map (·.2)))++(outs++(os.zip vs++l)))):=a3.sat
  exact(Sat.newL s1 rfl hD).perm List.perm_middle.symm
 ·rintro i H2 _ ⟨ρi,oss,_,a4,_⟩
  exact⟨_,hd (m:=[_]) a4⟩
 ·rintro i x H2 H3 hi2 ⟨ρi,oss,hni,a4,k4⟩ y
  obtain⟨d,hdd,s5⟩:=y _ (hd (m:=[(.lst oss,.ref D)]) a4)
  have ed:ds.drop i=d::ds.drop (i+1):=by
   obtain⟨hj,hv⟩:=List.getElem?_eq_some_iff.mp hdd
   rw [← hv]
   exact List.drop_eq_getElem_cons hj
  rw [ed,cy]at k4
  have a5:At T B H3 ρi (L2.wipe σ (own.map (·.2))) ((.d d,x)::(.lst oss,.ref D)::(outs++(os.zip vs++l))):=⟨a4.ok,s5.perm (by
   have p0:((O.lst oss,V.ref D)::(outs++(os.zip vs++l))).Perm (os.zip vs++([(O.lst oss,V.ref D)]++(outs++l))):=by
    have p1:([(O.lst oss,V.ref D)]++(outs++(os.zip vs++l))).Perm (os.zip vs++([(O.lst oss,V.ref D)]++(outs++l))):=(ak.append_left _).trans ak
    exact p1
   have p2:(os.zip vs++(af ρi (L2.wipe σ (own.map (·.2)))++([(O.lst oss,V.ref D)]++(outs++l)))).Perm (af ρi (L2.wipe σ (own.map (·.2)))++((O.lst oss,V.ref D)::(outs++(os.zip vs++l)))):=ak.trans (p0.symm.append_left _)
   exact(p2.cons _).trans List.perm_middle.symm),a4.pr⟩
  obtain⟨rest0,ρr0,er0,_⟩:=kk_ok k4
  have ef:f d ρi=PV.bnd (aE t d ρi) fun ρ=>(cZ Φ sifs ρ).bind fun b ρ=>kg b ((kG Φ ie2 ρ).bind fun q ρ=>(aK f1 q.2.2 (ai (ar t2) ρ)).bind fun os ρ=>Res.ok os (ai (own.map (·.2)) (aL q.1 q.2.1 ρ))) (Res.ok [] (ai (own.map (·.2)) ρ)):=by rw [← hf]
  cases ea:aE t d ρi with
  | none=>rw [ef,ea]at er0; cases er0
  | some ρ2 =>
   rw [ea,cV]at ef
   refine⟨d,ρi,ρ2,_,a5,ea,fun σ' sm a6=>⟨(cn sm htg).trans (kP _ _),ρ2,_,a6,?_⟩⟩
   have turn:∀ {H':Hp}{ρ':Env}{m:List aW},At T B H' ρ' σ' m→At T B H' (ai (own.map (·.2)) ρ') (L2.wipe σ (own.map (·.2))) m:=fun {H' ρ' m} a=>by
    have b:=(a.kill (is:=own.map (·.2)))
    have b1:At T B H' (ai (own.map (·.2)) ρ') (L2.wipe σ' (own.map (·.2))) m:=b.wipe (fun i hi=>bh (.inl hi)) hp
    rw [(cn sm htg).trans (kP _ _)]at b1
    exact b1
   cases ec:cZ Φ sifs ρ2 with
   | bad=>rw [ef,ec]at er0; cases er0
   | exc C p ρ3=>rw [ef,ec]at er0; cases er0
   | ok b ρ3 =>
    rw [ec,Res.bind_ok]at ef
    intro H4 a7
    cases b with
    | false =>
     rw [if_neg Bool.false_ne_true]
     rw [oH]at ef
     refine⟨ai (own.map (·.2)) ρ3,oss,fun j hj=>bh (.inl hj),turn a7,?_⟩
     have k5:=kk_step (g:=fun ρ=>cy f (ds.drop (i+1)) ρ) ef k4
     rw [List.append_nil]at k5
     exact k5
    | true =>
     rw [if_pos rfl]
     rw [nD]at ef
     refine⟨ρ3,_,a7,?_⟩
     cases ei:kG Φ ie2 ρ3 with
     | bad=>rw [ef,ei]at er0; cases er0
     | exc C p ρ4=>rw [ef,ei]at er0; cases er0
     | ok q ρ4 =>
      obtain⟨as1,os1,ds1⟩:=q
      rw [ei,Res.bind_ok]at ef
      dsimp only at ef
      intro vs1 J1 H5 hvl1 av1 a8 wk1 hz1
      simp only at hvl1 av1 a8 wk1 hz1
      have w1:Walk J1 ds1.length (fun H=>∃ l',Sat T B H (os1.zip vs1++l')) (fun i H v H'=>∀ l',Sat T B H (os1.zip vs1++l')→∃ d,ds1[i]?=some d∧Sat T B H' ((.d d,v)::(os1.zip vs1++l'))) :=
       ⟨fun i H hi ⟨l',s⟩=>wk1.goes i H l' hi s,fun H ⟨l',s⟩=>wk1.stops H l' s,fun i H v H' hi _ y l' s=>wk1.yields i H v H' l' hi s y⟩
      have hd1:∀ {m r:List aW}{H:Hp}{ρi:Env}{σ':L2.St},At T B H ρi σ' (m++(os1.zip vs1++r))→Sat T B H (os1.zip vs1++(af ρi σ'++(m++r))):=fun {m r H ρi σ'} a=>a.sat.perm ((ak.append_left _).trans ak)
      -- what the inner walk holds
      have kin:KK ((aK f1 ds1 (ai (ar t2) ρ4)).bind fun a ρ=>(cy f (ds.drop (i+1)) (ai (own.map (·.2)) (aL as1 os1 ρ))).bind fun b ρ=>Res.ok (a++b) ρ) oss:=by
       rw [ef]at k4
       have e9:(((aK f1 ds1 (ai (ar t2) ρ4)).bind fun os ρ=>Res.ok os (ai (own.map (·.2)) (aL as1 os1 ρ))).bind fun os ρ=>(cy f (ds.drop (i+1)) ρ).bind fun os2 ρ=>Res.ok (os++os2) ρ)=((aK f1 ds1 (ai (ar t2) ρ4)).bind fun a ρ=>(cy f (ds.drop (i+1)) (ai (own.map (·.2)) (aL as1 os1 ρ))).bind fun b ρ=>Res.ok (a++b) ρ):=by
        generalize aK f1 ds1 (ai (ar t2) ρ4)=r
        cases r <;> rfl
       rw [e9]at k4
       exact k4
      refine A0 (Stp:=fun Nx1 x H'=>gT T B t2 x (L2.wipe σ' (ar t2)) H' fun σ3 H5=>L2.wipe σ3 (ar t2)=L2.wipe σ' (ar t2)∧vi T B Φ sifs2 σ3 H5 fun b H6 =>
       if b=true then tE T B Φ WF se σ3 H6 fun y H7=>∃ acc,H7 D=some (.lst acc)∧acc.length < sizeLine∧Nx1 (upd H7 D (.lst (acc++[y])))else Nx1 H6) w1 (fun j H=>∃ ρj oss',(∀ c∈ar t2,aq ρj c=none) ∧
        At T B H ρj (L2.wipe σ' (ar t2)) ((.lst oss',.ref D)::(os1.zip vs1++(outs++(os.zip vs++l))))∧KK ((aK f1 (ds1.drop j) ρj).bind fun a ρ=>(cy f (ds.drop (i+1)) (ai (own.map (·.2)) (aL as1 os1 ρ))).bind fun b ρ=>Res.ok (a++b) ρ) oss') ?_ ?_ ?_ ?_
      ·refine⟨ai (ar t2) ρ4,oss,fun c hc=>bh (.inl hc),?_,by rw [List.drop_zero]; exact kin⟩
       exact(a8.kill.perm List.perm_middle).wipe (fun c hc=>bh (.inl hc)) hp2
      ·rintro j H6 _ ⟨ρj,oss',_,a9,_⟩
       exact⟨_,hd1 (m:=[_]) a9⟩
      ·rintro j x1 H6 H7 hj2 ⟨ρj,oss',hnj,a9,k9⟩ y1
       obtain⟨d1,hdd1,s9⟩:=y1 _ (hd1 (m:=[(.lst oss',.ref D)]) a9)
       have ed1:ds1.drop j=d1::ds1.drop (j+1):=by
        obtain⟨hj,hv⟩:=List.getElem?_eq_some_iff.mp hdd1
        rw [← hv]
        exact List.drop_eq_getElem_cons hj
       have b5:At T B H7 ρj (L2.wipe σ' (ar t2)) ((.d d1,x1)::(.lst oss',.ref D)::(os1.zip vs1++(outs++(os.zip vs++l)))):=⟨a9.ok,s9.perm (by
        have p2:(os1.zip vs1++(af ρj (L2.wipe σ' (ar t2))++([(O.lst oss',V.ref D)]++(outs++(os.zip vs++l))))).Perm (af ρj (L2.wipe σ' (ar t2))++((O.lst oss',V.ref D)::(os1.zip vs1++(outs++(os.zip vs++l))))):=ak.trans (List.Perm.append_left _ List.perm_middle)
        exact(p2.cons _).trans List.perm_middle.symm),a9.pr⟩
       have ef1:f1 d1 ρj=PV.bnd (aE t2 d1 ρj) fun ρ=>(cZ Φ sifs2 ρ).bind fun b ρ=>kg b ((ev Φ se ρ).bind fun o ρ=>Res.ok (some o) (ai (ar t2) ρ)) (Res.ok none (ai (ar t2) ρ)):=by rw [← hf1]
       rw [ed1,aK]at k9
       obtain⟨rest1,ρr1,er1,hlen1⟩:=kk_ok k9
       cases ea1:aE t2 d1 ρj with
       | none=>rw [ef1,ea1]at er1; cases er1
       | some ρ5 =>
        rw [ea1,cV]at ef1
        refine⟨d1,ρj,ρ5,_,b5,ea1,fun σ3 sm1 a10=>⟨(cn sm1 fun c hc=>hc).trans (kP _ _),ρ5,_,a10,?_⟩⟩
        have turn1:∀ {H':Hp}{ρ':Env}{m:List aW},At T B H' ρ' σ3 m→At T B H' (ai (ar t2) ρ') (L2.wipe σ' (ar t2)) m:=fun {H' ρ' m} a=>by
         have b:=(a.kill (is:=ar t2))
         have b1:At T B H' (ai (ar t2) ρ') (L2.wipe σ3 (ar t2)) m:=b.wipe (fun i hi=>bh (.inl hi)) hp2
         rw [(cn sm1 fun c hc=>hc).trans (kP _ _)]at b1
         exact b1
        cases ec1:cZ Φ sifs2 ρ5 with
        | bad=>rw [ef1,ec1]at er1; cases er1
        | exc C p ρ6=>rw [ef1,ec1]at er1; cases er1
        | ok b1 ρ6 =>
         rw [ec1,Res.bind_ok]at ef1
         intro H8 a11
         cases b1 with
         | false =>
          rw [if_neg Bool.false_ne_true]
          rw [oH]at ef1
          refine⟨ai (ar t2) ρ6,oss',fun c hc=>bh (.inl hc),turn1 a11,?_⟩
          rw [ef1]at k9
          have e9:((((Res.ok none (ai (ar t2) ρ6):Res (Option O)).bind fun o ρ=>(aK f1 (ds1.drop (j+1)) ρ).bind fun os ρ=>Res.ok (match o with | some y=>y::os | none=>os) ρ).bind fun a ρ=>(cy f (ds.drop (i+1)) (ai (own.map (·.2)) (aL as1 os1 ρ))).bind fun b ρ=>Res.ok (a++b) ρ))=(aK f1 (ds1.drop (j+1)) (ai (ar t2) ρ6)).bind fun a ρ=>(cy f (ds.drop (i+1)) (ai (own.map (·.2)) (aL as1 os1 ρ))).bind fun b ρ=>Res.ok (a++b) ρ:=by
           rw [Res.bind_ok]
           generalize aK f1 (ds1.drop (j+1)) (ai (ar t2) ρ6)=r
           cases r <;> rfl
          rw [← e9]
          exact k9
         | true =>
          rw [if_pos rfl]
          rw [nD]at ef1
          refine⟨ρ6,_,a11,?_⟩
          cases ee:ev Φ se ρ6 with
          | bad=>rw [ef1,ee]at er1; cases er1
          | exc C p ρ7=>rw [ef1,ee]at er1; cases er1
          | ok o ρ7 =>
           rw [ee,Res.bind_ok]at ef1
           intro y H9 a12
           have s13:Sat T B H9 ((.lst oss',.ref D)::(af ρ7 σ3++((o,y)::(os1.zip vs1++(outs++(os.zip vs++l)))))):=a12.sat.perm (by
            have p1:((o,y)::(O.lst oss',V.ref D)::(os1.zip vs1++(outs++(os.zip vs++l)))).Perm ((O.lst oss',V.ref D)::(o,y)::(os1.zip vs1++(outs++(os.zip vs++l)))):=.swap _ _ _
            exact(p1.append_left _).trans List.perm_middle)
           obtain⟨D',acc,eD,hDa,hla,s10⟩:=s13.openL
           cases eD
           -- one more,by the length of what comes
           rw [ef1]at k9
           have e9:((((Res.ok (some o) (ai (ar t2) ρ7):Res (Option O)).bind fun o ρ=>(aK f1 (ds1.drop (j+1)) ρ).bind fun os ρ=>Res.ok (match o with | some y=>y::os | none=>os) ρ).bind fun a ρ=>(cy f (ds.drop (i+1)) (ai (own.map (·.2)) (aL as1 os1 ρ))).bind fun b ρ=>Res.ok (a++b) ρ))=(Res.ok [o] (ai (ar t2) ρ7):Res (List O)).bind fun a ρ=>((aK f1 (ds1.drop (j+1)) ρ).bind fun a ρ=>(cy f (ds.drop (i+1)) (ai (own.map (·.2)) (aL as1 os1 ρ))).bind fun b ρ=>Res.ok (a++b) ρ).bind fun b ρ=>Res.ok (a++b) ρ:=by
            rw [Res.bind_ok,Res.bind_ok]
            generalize aK f1 (ds1.drop (j+1)) (ai (ar t2) ρ7)=r
            cases r with
            | bad=>rfl
            | exc C p ρ=>rfl
            | ok a ρ =>
             simp only [Res.bind_ok]
             generalize cy f (ds.drop (i+1)) (ai (own.map (·.2)) (aL as1 os1 ρ))=r2
             cases r2 <;> rfl
           have k9:KK ((Res.ok [o] (ai (ar t2) ρ7):Res (List O)).bind fun a ρ=>((aK f1 (ds1.drop (j+1)) ρ).bind fun a ρ=>(cy f (ds.drop (i+1)) (ai (own.map (·.2)) (aL as1 os1 ρ))).bind fun b ρ=>Res.ok (a++b) ρ).bind fun b ρ=>Res.ok (a++b) ρ) oss':=by
            rw [← e9]
            exact k9
           have k10:=kk_step (g:=fun ρ=>(aK f1 (ds1.drop (j+1)) ρ).bind fun a ρ=>(cy f (ds.drop (i+1)) (ai (own.map (·.2)) (aL as1 os1 ρ))).bind fun b ρ=>Res.ok (a++b) ρ) rfl k9
           obtain⟨_,_,_,hl10⟩:=kk_ok k10
           refine⟨acc,hDa,by rw [List.length_append]at hl10; simp at hl10; omega,ai (ar t2) ρ7,oss'++[o],fun c hc=>bh (.inl hc),turn1 ⟨a12.ok,?_,a12.pr⟩,k10⟩
           have s11:ae T B H9 [D] ((oss'++[o]).zip (acc++[y])++(af ρ7 σ3++(os1.zip vs1++(outs++(os.zip vs++l))))):=by
            rw [List.zip_append hla,List.append_assoc]
            exact s10.perm (List.Perm.append_left _ List.perm_middle)
           exact((s11.write (cE hDa).1 (cE hDa).2.1 (cE hDa).2.2).closeL upd_same (by simp [hla])).perm List.perm_middle.symm
      ·rintro H6 ⟨ρj,oss',hnj,a9,k9⟩
       rw [List.drop_of_length_le (Nat.le_refl _),aK]at k9
       have k10:=kk_step (g:=fun ρ=>cy f (ds.drop (i+1)) (ai (own.map (·.2)) (aL as1 os1 ρ))) rfl k9
       rw [List.append_nil]at k10
       refine⟨ai (own.map (·.2)) (aL as1 os1 ρj),oss',fun c hc=>bh (.inl hc),?_,k10⟩
       have b1:=a9.unwipe hnj hp2
       have b2:At T B H6 ρj σ' (os1.zip vs1++((.lst oss',.ref D)::(outs++(os.zip vs++l)))):=b1.perm List.perm_middle.symm
       exact turn (dC (as:=as1) (os:=os1) (vs:=vs1) hvl1 b2 av1)
 ·rintro H2 ⟨ρi,oss,hni,a4,k4⟩
  rw [List.drop_of_length_le (Nat.le_refl _),cy]at k4
  have k4:RG T B W σ l (PV.bnd (w4 (oss++[])) fun o=>Res.ok o (aL as os (bB (own.map (·.2)) ρ1 ρi))) (fun o ρ=>∀ v H,At T B H ρ σ ((o,v)::l)→Q v H):=k4
  rw [List.append_nil]at k4
  unfold w4 at k4
  split at k4
  ·have k4:∀ v H,At T B H (aL as os (bB (own.map (·.2)) ρ1 ρi)) σ ((.lst oss,v)::l)→Q v H:=k4
   refine k4 _ H2 ?_
   have b1:=a4.unwipe hni hp
   have b2:At T B H2 ρi σ (outs++((.lst oss,.ref D)::(os.zip vs++l))):=b1.perm List.perm_middle.symm
   have hl:ρi.length=ρ1.length:=by rw [b1.ok.len,a1.ok.len]
   have b3:=back H2 ρi _ hl hni b2
   exact dC (as:=as) (os:=os) (vs:=vs) hvl (b3.perm List.perm_middle.symm) av
  ·exact k4.elim
theorem CV {elt tg iter tg1 iter1:Expr}{ifs ifs1:List Expr}{scope:Scope}{own:List (Str×Nat)}{t t2:Tg}{ie ie2:IE}{se:SE}{sifs sifs2:List SE}{pos:Pos}
  (hc:X.calm=true) (hN:X.N.Nodup) (nd:(own.map (·.2)).Nodup) (hp:∀ p∈B.pr,p.1∉own.map (·.2)) (htg:∀ i∈ar t,i∈own.map (·.2)) (htg2:∀ i∈ar t2,i∈own.map (·.2))
  (hi:PI X tg iter (tI T B Φ W ie)) (ok:BlkOk X.N X.env.scope scope own)
  (hg:∀ (s:Shared) (H:Hp) (C:Addr) (cl:List (Str×Addr)) (fp:List Addr),PG (X.blk s H scope (compEnvC scope cl C X.env) fp) tg (gT T B t))
  (ht:∀ (s:Shared) (H:Hp) (C:Addr) (cl:List (Str×Addr)) (fp:List Addr),PTs (X.blk s H scope (compEnvC scope cl C X.env) fp) ifs (vi T B Φ sifs))
  (hi1:∀ (s:Shared) (H:Hp) (C:Addr) (cl:List (Str×Addr)) (fp:List Addr),PI (X.blk s H scope (compEnvC scope cl C X.env) fp) tg1 iter1 (tI T B Φ WF ie2))
  (hg1:∀ (s:Shared) (H:Hp) (C:Addr) (cl:List (Str×Addr)) (fp:List Addr),PG (X.blk s H scope (compEnvC scope cl C X.env) fp) tg1 (gT T B t2))
  (ht1:∀ (s:Shared) (H:Hp) (C:Addr) (cl:List (Str×Addr)) (fp:List Addr),PTs (X.blk s H scope (compEnvC scope cl C X.env) fp) ifs1 (vi T B Φ sifs2))
  (he:∀ (s:Shared) (H:Hp) (C:Addr) (cl:List (Str×Addr)) (fp:List Addr),PE (X.blk s H scope (compEnvC scope cl C X.env) fp) elt (tE T B Φ WF se)) (hs:∀ x,foldedSetIterable iter X.env x=pure x) (hs1:∀ env x,foldedSetIterable iter1 env x=pure x) :
  PE X (.ListComp elt [⟨tg,iter,ifs,0⟩,⟨tg1,iter1,ifs1,0⟩] scope pos) (tE T B Φ W (.comp2 se (own.map (·.2)) t ie sifs t2 ie2 sifs2)) :=
 (pe_lc2 hc hN hi ok htg2 hg ht hi1 hg1 ht1 he hs hs1).pv fun σ H Q h=>A5 nd hp htg htg2 h
end
end PV
namespace PV
open PySem PySem.Spec PyProof.Rows L2
section
variable {T:Tab}{B:Base}{Φ:cW}{W:WX}{X:Cx}{L:List Nat}
theorem wc {elt tg iter tg1 iter1:Expr}{ifs ifs1:List Expr}{scope:Scope}{own:List (Str×Nat)}{t t2:Tg}{ie ie2:IE}{se:SE}{sifs sifs2:List SE}{pos:Pos}
  (pr:dD B L) (hc:X.calm=true) (hN:X.N.Nodup) (nd:(own.map (·.2)).Nodup) (hp:(L.all fun i=>!(own.map (·.2)).contains i)=true) (htg:∀ i∈ar t,i∈own.map (·.2)) (htg2:∀ i∈ar t2,i∈own.map (·.2))
  (hi:PI X tg iter (tI T B Φ W ie)) (ok:BlkOk X.N X.env.scope scope own)
  (hg:∀ (s:Shared) (H:Hp) (C:Addr) (cl:List (Str×Addr)) (fp:List Addr),PG (X.blk s H scope (compEnvC scope cl C X.env) fp) tg (gT T B t))
  (ht:∀ (s:Shared) (H:Hp) (C:Addr) (cl:List (Str×Addr)) (fp:List Addr),PTs (X.blk s H scope (compEnvC scope cl C X.env) fp) ifs (vi T B Φ sifs))
  (hi1:∀ (s:Shared) (H:Hp) (C:Addr) (cl:List (Str×Addr)) (fp:List Addr),PI (X.blk s H scope (compEnvC scope cl C X.env) fp) tg1 iter1 (tI T B Φ WF ie2))
  (hg1:∀ (s:Shared) (H:Hp) (C:Addr) (cl:List (Str×Addr)) (fp:List Addr),PG (X.blk s H scope (compEnvC scope cl C X.env) fp) tg1 (gT T B t2))
  (ht1:∀ (s:Shared) (H:Hp) (C:Addr) (cl:List (Str×Addr)) (fp:List Addr),PTs (X.blk s H scope (compEnvC scope cl C X.env) fp) ifs1 (vi T B Φ sifs2))
  (he:∀ (s:Shared) (H:Hp) (C:Addr) (cl:List (Str×Addr)) (fp:List Addr),PE (X.blk s H scope (compEnvC scope cl C X.env) fp) elt (tE T B Φ WF se)) (hs:∀ x,foldedSetIterable iter X.env x=pure x) (hs1:∀ env x,foldedSetIterable iter1 env x=pure x) :
  PE X (.ListComp elt [⟨tg,iter,ifs,0⟩,⟨tg1,iter1,ifs1,0⟩] scope pos) (tE T B Φ W (.comp2 se (own.map (·.2)) t ie sifs t2 ie2 sifs2)) :=
 CV hc hN nd (pr.nin hp) htg htg2 hi ok hg ht hi1 hg1 ht1 he hs hs1
end
end PV
namespace PV
open PySem PySem.Spec PyProof.Rows L2
noncomputable def kQ (Φ:cW) (g:Int→Int→Int) (i:Nat) (se:SE) (ρ:Env):Option Env:=match aq ρ i with
 | some (.d (.int a))=>(match ev Φ se ρ with
  | .ok (.d (.int b)) ρ'=>some (ρ'.set i (some (.d (.int (g a b)))))
  | _=>none)
 | _=>none
section
variable {T:Tab}{B:Base}{Φ:cW}{W:WX}{X:Cx}{i:Nat}{x:Str}{e:Expr}{se:SE}{pos p':Pos}
theorem Sat.isInt {H:Hp}{l:List aW}{v:V}{a:Int} (s:Sat T B H ((.d (.int a),v)::l)):v = .int a:=by
 obtain⟨F,⟨F1,F2,rfl,⟨rfl,hv⟩,r2⟩,nd,c⟩:=s.reps
 exact hv
theorem CW {g:Int→Int→Int}{ρ ρ2:Env} (h:kQ Φ g i se ρ=some ρ2):∃ a b ρ',aq ρ i=some (.d (.int a))∧ev Φ se ρ = .ok (.d (.int b)) ρ'∧ρ2=ρ'.set i (some (.d (.int (g a b)))):=by
 unfold kQ at h
 split at h
 ·rename_i a e1
  split at h
  ·rename_i b ρ' e2
   injection h with h
   exact⟨a,b,ρ',e1,e2,h.symm⟩
  ·cases h
 ·cases h
theorem ql {op:Operator}{g:Int→Int→Int} (ho:PIp X op (ipI g)) (hN:X.N.Nodup) (hi:X.N[i]?=some x) (hx:Loc X.env.scope x) (hf:X.fn x=true∨X.env.scope.names.lookup x=some .local) (hp:∀ p∈B.pr,p.1≠i) (he:PE X e (tE T B Φ W se)) :
  PS X (.AugAssign (.Name x p') op e pos) (tS T B Φ W (.osl (kQ Φ g i se))) :=
 (ps_aug hN hi hx he ho hf).pv fun D σ H ⟨ρ,l,at_,h⟩=>by
  rw [bZ]at h
  cases ef:kQ Φ g i se ρ with
  | none =>
   rw [ef]at h
   exact h.elim
  | some ρ2 =>
   rw [ef]at h
   obtain⟨a,b,ρ',e1,e2,rfl⟩:=CW ef
   obtain⟨v,ev1⟩:=at_.ok.at e1
   have hv:=Sat.isInt (a:=a) (v:=v) ((at_.take e1 ev1).sat.perm List.perm_middle)
   subst hv
   refine⟨.int a,ev1,ρ,l,at_,?_⟩
   rw [e2]
   intro w H1 a1
   have hw:=Sat.isInt (a:=b) (v:=w) (a1.sat.perm List.perm_middle)
   subst hw
   refine⟨a,b,rfl,rfl,?_⟩
   have hl:i < ρ'.length:=by
    rw [a1.ok.len]
    exact(List.getElem?_eq_some_iff.mp ev1).1
   have a2:At T B H1 ρ' σ ((.d (.int (g a b)),.int (g a b))::l):=⟨a1.ok,(a1.drop.sat.int).perm List.perm_middle.symm,a1.pr⟩
   exact h _ _ (a2.store hl hp)
end
end PV
namespace PV
open PySem PySem.Spec PyProof.Rows L2
open PySem.Builtin in
theorem y9 (l:Addr) (items:Array Value) (n:Nat) (dd:Option Addr) (sl:Array (Option Value)) (x:Int) (u:Tok) (hc0:¬(! Builtin.List.listFitsIndex x)=true) (hc1:¬items.size * x.toNat > (2 ^ 63 - 1) / 8) (hc2:¬Builtin.List.listTooLong (items.size * x.toNat)=true) :
  Meets (Builtin.«list.__mul__» ⟨[.ref l,.int x u],[]⟩) (fun _ R s=>s.heap.get? l=some {cls:=.type "list",dict:=dd,data:=.seq items n,slots:=sl}∧R (.ok (.ret (Value.ref s.heap.objs.size))) {s with heap:=s.heap.push {cls:=Value.type "list",data:=Data.seq (List.foldl (fun x1 x2=>x1++x2) #[] (List.replicate (if items.isEmpty=true then 0 else x.toNat) items))},toks:=s.toks}) :=
 .of_wp fun prog w A R s h=>by
  obtain⟨hp,g,d,tk,os⟩:=s; obtain⟨hl,h⟩:=h
  have hsz:=PySem.AutoListH.joined_fits hc2
  wp_walk; refine wpAny_ite_false (decide_eq_false (Nat.not_lt.mpr hsz)) ?_; wp_walk; exact⟨_,rfl,h⟩
theorem za (a:Int) (t:Tok) (l:Addr) (items:Array Value) (n:Nat) (dd:Option Addr) (sl:Array (Option Value)) :
  Meets (Builtin.«int.__rmul__» ⟨[.int a t,.ref l],[]⟩) (fun _ R s=>s.heap.get? l=some {cls:=.type "list",dict:=dd,data:=.seq items n,slots:=sl}∧R (.ok (.ret Value.notImplemented)) s) :=
 .of_wp fun prog w A R s h=>by obtain⟨hp,g,d,tk,os⟩:=s; obtain⟨hl,h⟩:=h; wp_walk; exact⟨_,rfl,h⟩
section
variable {X:Cx}{pins:List (Addr×Obj)}{σ:L2.St}{H:Hp}{s:Shared}
theorem CY:OpR X (binaryOp .Mult) (fun x y H Q=>∃ l k xs,x = .ref l∧y = .int k∧SqL X.K H l xs ∧ -(2 ^ 63)≤k∧k < 2 ^ 63∧xs.length * k.toNat≤sizeLine ∧
  ∀ p,H p=none→Q (.ref p) (upd H p (.lst (List.replicate k.toNat xs).flatten))):=by
 intro pins s σ H x y v u Q I rx ry h
 obtain⟨l,k,xs,rfl,rfl,hH,h1,h2,hz,q⟩:=h
 cases rx
 obtain⟨t,rfl⟩:=ry
 obtain⟨its,r,pl,_⟩:=I.list hH
 have hl:=r.length
 obtain⟨⟨cls,dd,data,sl⟩,n,e,hc,hd0,hd⟩:=pl
 simp only at hc hd hd0
 subst hc hd hd0
 have hlen:its.toArray.size * k.toNat≤sizeLine:=by rw [List.size_toArray,← hl]; exact hz
 have hcap:¬ its.toArray.size * k.toNat > (2 ^ 63 - 1) / 8:=by
  have:(sizeLine:Nat)≤(2 ^ 63 - 1) / 8:=by decide
  omega
 have hfit:¬ (! Builtin.List.listFitsIndex k)=true:=by
  rw [fitsIndex_both h1 h2]
  exact Bool.false_ne_true
 have hlong:¬ Builtin.List.listTooLong (its.toArray.size * k.toNat)=true:=by
  rw [notLongL hlen]
  exact Bool.false_ne_true
 have hnew:List.foldl (fun x1 x2=>x1++x2) #[] (List.replicate (if its.toArray.isEmpty=true then 0 else k.toNat) its.toArray)=(List.replicate k.toNat its).flatten.toArray:=by
  have f0:∀ m:Nat,List.foldl (fun x1 x2=>x1++x2) #[] (List.replicate m its.toArray)=(List.replicate m its).flatten.toArray:=fun m=>by
   have:=foldl_rep its m []
   rw [List.nil_append]at this
   exact this
  rw [f0]
  cases its with
  | nil=>simp
  | cons a r'=>rw [if_neg (by simp)]
 refine wpAny_binaryOp_repeat_ref (T := "list") (U := "int") (by decide) ⟨_,e,rfl⟩ (fun s'=>typeIs_int s' k t) noFill_list_mul F.fills_int_mul F.slot_int_rmul repeat_list F.slot_int_index.lookup
  (call_meets F.slot_int_rmul (typeIs_int s k t) F.entry_int_rmul (F.args_int_rmul_2 _ _) (za k t l its.toArray n none sl)
   ⟨e,rfl,⟨_,e,rfl⟩,call_meets F.slot_list_mul ⟨_,e,rfl⟩ F.entry_list_mul (F.args_list_mul_2 _ _) (y9 l its.toArray n none sl k t hfit hcap hlong) ⟨e,?_⟩⟩)
 rw [hnew]
 exact⟨.ref _,_,I.lnew (t':=s.toks) (r.rep k.toNat) (by rw [PyProof.Rows.lm_len_rep_flat,Nat.mul_comm]; exact hz),rfl,q _ I.fresh⟩
end
section
variable {T:Tab}{B:Base}{Φ:cW}{W:WX}{X:Cx}{σ:L2.St}{l m:List aW}{H:Hp}{ρ:Env}{pins:List (Addr×Obj)}{s:Shared}
theorem Sat.rep {ds:List D}{vs:List V} (hl:ds.length=vs.length):∀ (k:Nat) {l:List aW},Sat T B H ((ds.map O.d).zip vs++l)→Sat T B H (((List.replicate k ds).flatten.map O.d).zip (List.replicate k vs).flatten++((ds.map O.d).zip vs++l))
 | 0,l,s=>by simpa using s
 | k+1,l,s=>by
  have dupA:∀ {xs:List D}{ws:List V}{l:List aW},Sat T B H ((xs.map O.d).zip ws++l)→Sat T B H ((xs.map O.d).zip ws++((xs.map O.d).zip ws++l)):=by
   intro xs
   induction xs with
   | nil=>intro ws l s; simpa using s
   | cons x xs ih =>
    intro ws l s
    cases ws with
    | nil=>simpa using s
    | cons w ws =>
     have s:Sat T B H ((O.d x,w)::((xs.map O.d).zip ws++l)):=s
     have s1:=s.dup
     have s2:Sat T B H ((xs.map O.d).zip ws++((O.d x,w)::(O.d x,w)::l)):=s1.perm (by
      refine((List.perm_middle (l₁:=(xs.map O.d).zip ws) (a:=(O.d x,w)) (l₂:=(O.d x,w)::l)).trans ?_).symm
      exact .cons _ List.perm_middle)
     have s3:=ih s2
     refine s3.perm ?_
     show((xs.map O.d).zip ws++((xs.map O.d).zip ws++((O.d x,w)::(O.d x,w)::l))).Perm ((O.d x,w)::((xs.map O.d).zip ws++((O.d x,w)::((xs.map O.d).zip ws++l))))
     have p1:((xs.map O.d).zip ws++((O.d x,w)::(O.d x,w)::l)).Perm ((O.d x,w)::((O.d x,w)::((xs.map O.d).zip ws++l))):=List.perm_middle.trans (.cons _ List.perm_middle)
     refine(List.Perm.append_left _ p1).trans ?_
     exact List.perm_middle
  have s1:=Sat.rep hl k (dupA s)
  have e1:(List.replicate (k+1) ds).flatten=(List.replicate k ds).flatten++ds:=by rw [List.replicate_succ',List.flatten_append]; simp
  have e2:(List.replicate (k+1) vs).flatten=(List.replicate k vs).flatten++vs:=by rw [List.replicate_succ',List.flatten_append]; simp
  have hl2:((List.replicate k ds).flatten.map O.d).length=(List.replicate k vs).flatten.length:=by
   rw [List.length_map]
   simp [hl]
  rw [e1,e2,List.map_append,List.zip_append hl2,List.append_assoc]
  exact s1
theorem we {α:Type}{f:List Arg→Env→Res α}{sa sb:SE}{ρ:Env}:((bN Φ [sa,sb] ρ).bind fun as ρ=>f as ρ)=(dB Φ sa ρ).bind fun x ρ=>(dB Φ sb ρ).bind fun y ρ=>f [x,y] ρ:=by
 rw [bN]
 cases dB Φ sa ρ with
 | bad=>rfl
 | exc C p ρ'=>rfl
 | ok a ρ1 =>
  simp only [Res.bind_ok]
  rw [bN]
  cases dB Φ sb ρ1 with
  | bad=>rfl
  | exc C p ρ'=>rfl
  | ok b ρ2 =>
   simp only [Res.bind_ok]
   rw [bN]
   rfl
end
end PV
namespace PV
open PySem PySem.Spec PyProof.Rows L2
open He (ga ma fAd ba eqO eqO_ok)
theorem bo {k:Nat}{A:Around} (h:Room k A):A.units+1 < cLine:=by have:=h.un; omega
end PV
namespace PV
open PySem PySem.Spec PyProof.Rows L2
section
variable {T:Tab}{B:Base}{Φ:cW}{W:WX}{X:Cx}{x:Str}{pos:Pos}{e:Expr}{es:List Expr}{ses:List SE}{k fi lv:Nat}{ps:List Str}{run:List O→bC}{p:Pos}
theorem vA (i:Nat) (hN:X.N[i]?=some x:=by rfl) (hv:Vis X.env.scope x:=by exact .inl rfl) (hd:(x == ("__debug__" : Str))=false:=by rfl) (hc:(x == ("__classdict__" : Str))=false:=by rfl):PE X (.Name x pos) (tA T B Φ W (.var i)):=z8 hN hv hd hc
theorem vE (i:Nat) (hN:X.N[i]?=some x:=by rfl) (hv:Vis X.env.scope x:=by exact .inl rfl) (hd:(x == ("__debug__" : Str))=false:=by rfl) (hc:(x == ("__classdict__" : Str))=false:=by rfl):PE X (.Name x pos) (tE T B Φ W (.var i)):=Gy hN hv hd hc
theorem aV (i:Nat) (hs:PA X es (tJ T B Φ W ses)) (hN:X.N[i]?=some x:=by rfl) (hv:Vis X.env.scope x:=by exact .inl rfl) (hd:(x == ("__debug__" : Str))=false:=by rfl) (hc:(x == ("__classdict__" : Str))=false:=by rfl)
  (hst:starEach (.Name x pos::es) X.env=(false,eval (.Name x pos) X.env)::starEach es X.env:=by rfl):PA X (.Name x pos::es) (tJ T B Φ W (.var i::ses)):=bT (z8 hN hv hd hc) hs hst
theorem cInt {i:Int}{j:Nat}:PE X (.Constant (.int i) j pos) (tE T B Φ W (.lit (.int i))):=HI pe_int (fun _ _=>rfl)
theorem cS {i:Str}{j:Nat}:PE X (.Constant (.str i) j pos) (tE T B Φ W (.lit (.str i))):=HI pe_str (fun _ _=>rfl)
theorem cB {i:Bool}{j:Nat}:PE X (.Constant (.bool i) j pos) (tE T B Φ W (.lit (.bl i))):=HI pe_bl (fun _ _=>rfl)
theorem cN {j:Nat}:PE X (.Constant .none j pos) (tE T B Φ W (.lit .non)):=HI pe_non (fun _ _=>rfl)
theorem tO (i:Nat) (hN:X.N.Nodup) (hp:∀ p∈B.pr,p.1≠i) (hi:X.N[i]?=some x:=by rfl) (hx:Loc X.env.scope x:=by exact .inl rfl) (hf:X.fn x=true∨X.env.scope.names.lookup x=some .local:=by exact .inl rfl):PG X (.Name x pos) (gO T B (.nm i)):=GB hN hi hx hf hp
theorem tG (i:Nat) (hN:X.N.Nodup) (hp:∀ p∈B.pr,p.1≠i) (hi:X.N[i]?=some x:=by rfl) (hx:Loc X.env.scope x:=by exact .inl rfl) (hf:X.fn x=true∨X.env.scope.names.lookup x=some .local:=by exact .inl rfl):PG X (.Name x pos) (gT T B (.nm i)):=DM hN hi hx hf hp
theorem zA (i:Nat) (hN:X.N.Nodup) (hp:∀ p∈B.pr,p.1≠i) (hi:X.N[i]?=some x:=by rfl) (hx:Loc X.env.scope x:=by exact .inl rfl) (hf:X.fn x=true∨X.env.scope.names.lookup x=some .local:=by exact .inr rfl):PG X (.Name x pos) (gT T B (.nm i)):=DM hN hi hx hf hp
theorem cC (F:Callee X.prog X.w X.K X.mg X.base T x ps k run) (hr:Room lv X.A) (tk:Takes X W) (ha:PA X (e::es) (tJ T B Φ W ses)) (hΦ:(Φ fi).run=run:=by rfl) (hl:k≤lv:=by first | exact Nat.le_refl _ | omega) (hg:Gl X x:=by rfl) (hdb:(x == ("__debug__" : Str))=false:=by rfl)
  (he:starEach (e::es) X.env=(false,eval e X.env)::starEach es X.env:=by rfl) (hpl:(backTo pos (starEach es X.env)).any (·.1)=false:=by rfl):PE X (.Call (.Name x p) (e::es) [] pos) (tE T B Φ W (.call fi ses)):=uS F hΦ hr hl hg tk ha hdb he hpl
theorem hZ {n:Nat} (h:n≤1000:=by decide):n≤sizeLine:=GH h
end
theorem G6 {u n:Nat} (h:u+200 < cLine) (hn:n≤200:=by decide):u+n < cLine:=by omega
theorem sA {N P:List Str}{sc:Scope} (h1:sc.kind = .function:=by rfl) (h2:sc.isCoroutine=false:=by rfl) (h3:sc.isGenerator=false:=by rfl) (h4:N.Nodup:=by decide +kernel) (h5:N.take P.length=P:=by rfl) (h6:∀ x∈P,sc.names.lookup x=some .local∨sc.names.lookup x=some .cell:=by decide +kernel) (h7:∀ y∈sc.names,y.2≠.free:=by decide +kernel):FnScope N P sc:=⟨h1,h2,h3,h4,h5,h6,h7⟩
theorem lM {P:Program}{w:World}{K:PySem.W.Frag}{mg:Str→Option Value}{base:Heap}{N:List Str}{q:Str}{sc:Scope}{f:Addr}{c:Value}{A:Around}{o:List PySem.Env}{s:Shared}{H:Hp}{E:XK}:Takes (cxOf (L2.CX P w) P w K mg base N q sc f c A o s H E) (fun cls d _ H=>E cls d H):=takes_of rfl rfl rfl rfl
end PV
namespace PV
open PySem PySem.Spec PyProof.Rows L2
def kR (n:Nat):List D:=(List.range ((n+1) / 2)).map fun(i:Nat)=>D.int (2 * (i:Int))
def oW:D→Option (List D)
 | .int n=>if 0≤n∧n≤1000000 then some (kR n.toNat)else none
 | _=>none
theorem Fs {n:Int} (h0:0≤n) (h1:n≤1000000):RgC 0 n 2 ((n.toNat+1) / 2):=by
 refine⟨by decide,by decide,?_,?_⟩
 ·unfold Builtin.Range.small
  simp only [Builtin.Range.rangeFitsLong,Bool.and_eq_true,Bool.or_eq_true,decide_eq_true_eq,beq_iff_eq]
  unfold Builtin.Range.rangeSize
  simp only [show((2:Int) > 0)from by decide,if_true]
  by_cases c:0 < n
  ·simp only [c,if_true,Bool.and_eq_true,decide_eq_true_eq]
   omega
  ·simp only [c,if_false,Bool.and_eq_true,decide_eq_true_eq]
   simp
   omega
 ·unfold Builtin.Range.rangeSize
  rw [if_pos (by decide)]
  by_cases c:0 < n
  ·rw [if_pos c]
   omega
  ·rw [if_neg c]
   omega
theorem A6 {T:Tab}{B:Base}{n:Nat}{held:List aW}:Wk T B (Itc 0 2 ((n+1) / 2)) (kR n) held:=by
 have hl:(kR n).length=(n+1) / 2:=by simp [kR]
 refine⟨fun i H l hi s=>?_,fun H l s=>?_,fun i H v H' l hi s y=>?_⟩
 ·show i < _
  rw [← hl]; exact hi
 ·show _≤_
  rw [hl]
  exact Nat.le_refl _
 ·obtain⟨rfl,rfl⟩:=y
  refine⟨.int (0+(i:Nat) * 2),?_,s.int⟩
  rw [hl]at hi
  unfold kR
  rw [List.getElem?_map,List.getElem?_range hi]
  show some (D.int (2 * (i:Int)))=_
  rw [Int.zero_add,Int.mul_comm]
theorem CZ {T:Tab}{B:Base}{Φ:cW}{W:WX}{X:Cx}{tg e:Expr}{se:SE}{j0 j2:Nat}{p0 p2 p pos:Pos} (hg:Gl X "range") (hm:X.mg "range" = none) (he:PE X e (tA T B Φ W se))
  (hs:starEach [.Constant (.int 0) j0 p0,e,.Constant (.int 2) j2 p2] X.env=(false,eval (.Constant (.int 0) j0 p0) X.env)::starEach [e,.Constant (.int 2) j2 p2] X.env)
  (hs1:starEach [e,.Constant (.int 2) j2 p2] X.env=(false,eval e X.env)::starEach [.Constant (.int 2) j2 p2] X.env)
  (hs2:starEach [.Constant (.int 2) j2 p2] X.env=(false,eval (.Constant (.int 2) j2 p2) X.env)::starEach [] X.env)
  (hpl:(backTo pos (starEach [e,.Constant (.int 2) j2 p2] X.env)).any (·.1)=false) :
  PI X tg (.Call (.Name "range" p) [.Constant (.int 0) j0 p0,e,.Constant (.int 2) j2 p2] [] pos) (tI T B Φ W (.gen oW se)):=by
 refine⟨fun pins s σ H R I ⟨ρ,l,at_,h⟩=>(pi_range3 hg hm (pa_cons pe_int (pa_cons he (pa_cons pe_int pa_nil hs2) hs1) hs) hs hpl).run pins s σ H R I ?_⟩
 rw [kG]at h
 refine⟨ρ,l,at_,h.bind.mono fun α ρ1 k v H1 a1 av=>?_⟩
 cases ef:aB α ρ1 with
 | bad=>rw [ef]at k; exact k.elim
 | exc C p ρ' =>
  cases α with
  | val o=>cases ef
  | slot i =>
   have ef:bnd (aq ρ1 i) (fun o=>Res.ok o (aB.taken o i ρ1)) = .exc C p ρ':=ef
   cases q:aq ρ1 i <;> rw [q]at ef <;> cases ef
 | ok o ρ2 =>
  rw [ef]at k
  have a2:=lQ a1 av ef
  have k:RG T B W σ l ((Res.of (oW o.frz) ρ2).bind fun ds ρ=>Res.ok ([α],[o.shal],ds) ρ) _:=k
  obtain⟨ds,ed,k⟩:=k.bind.of
  have a3:At T B H1 ρ2 σ ([o.shal].zip [v]++l):=DL a2
  have k:∀ vs J H',[o.shal].length=vs.length→bY σ [α] vs→At T B H' ρ2 σ ([o.shal].zip vs++l)→Wk T B J ds ([o.shal].zip vs)→ds.length≤sizeLine→R J H':=k
  cases ea:o.frz with
  | int n =>
   rw [ea]at ed
   have ed:(if 0≤n∧n≤1000000 then some (kR n.toNat)else none)=some ds:=ed
   by_cases c:0≤n∧n≤1000000
   ·rw [if_pos c]at ed
    injection ed with ed; subst ed
    have s2:Sat T B H1 ((o,v)::(af ρ2 σ++l)):=a2.sat.perm List.perm_middle
    have d:=s2.read
    rw [ea]at d
    have d:v = .int n:=d
    subst d
    refine⟨0,n,2,_,rfl,Fs c.1 c.2,k [.int n] _ H1 rfl ⟨av,trivial⟩ a3 ?_ ?_⟩
    ·exact A6
    ·unfold kR
     rw [List.length_map,List.length_range,sizeLine_eq]
     omega
   ·rw [if_neg c]at ed; cases ed
  | _=>rw [ea]at ed; cases ed
end PV
namespace PV
open PySem PySem.Spec PyProof.Rows L2
def rj (x:Str) (n:Nat):Str:=⟨((List.replicate n x.cps.toList).flatten).toArray⟩
def c0 (as:List D):Option O:=match as with
 | [.str x,.int k]=>if 0≤k∧k≤100000∧x.length≤100 then some (.d (.str (rj x k.toNat)))else none
 | _=>none
def sH (as:List D):Option O:=match as with
 | [.lst ds,.int k]=>if 0≤k∧k≤100000∧ds.length≤100 then some (.lst ((List.replicate k.toNat ds).flatten.map .d))else none
 | _=>none
theorem tZ (x:Array Nat):∀ (n:Nat) (a:Array Nat),(List.replicate n x).foldl (· ++ ·) a=a++((List.replicate n x.toList).flatten).toArray
 | 0,a=>by simp
 | n+1,a=>by
  rw [List.replicate_succ,List.foldl_cons,tZ x n,List.replicate_succ,List.flatten_cons,Array.append_assoc]
  refine congrArg (a ++ ·) ?_
  apply Array.toList_inj.mp
  simp
section
variable {T:Tab}{B:Base}{Φ:cW}{W:WX}{X:Cx}{σ:L2.St}{l m:List aW}{H:Hp}{ρ:Env}{pins:List (Addr×Obj)}{s:Shared}
theorem A7 (hK:X.K=T.K):OpR X (binaryOp .Mult) (fun x y H Q=>dW T B c0 true [x,y] H Q):=by
 intro pins s σ H x y v u Q I rx ry h
 obtain⟨o,p,l,r,sa,e,q⟩:=zP h
 have d1:=sa.read
 have d2:=sa.read2
 cases ea:o.frz with
 | str a =>
  rw [ea]at e d1
  cases eb:p.frz with
  | int k =>
   rw [eb]at d2 e
   have d1:x = .str a:=d1
   have d2:y = .int k:=d2
   subst d1 d2
   have e:(if 0≤k∧k≤100000∧a.length≤100 then some (O.d (.str (rj a k.toNat)))else none)=some r:=e
   by_cases hc:0≤k∧k≤100000∧a.length≤100
   ·rw [if_pos hc]at e
    injection e with e
    subst e
    have pa:o.shal=o:=by cases o <;> first | rfl | cases ea
    have pb:p.shal=p:=by cases p <;> first | rfl | cases eb
    rw [if_pos rfl,if_pos rfl,pa,pb]at q
    obtain⟨t1,rfl⟩:=rx
    obtain⟨t2,rfl⟩:=ry
    have hm:a.length * k.toNat≤100 * 100000:=Nat.mul_le_mul hc.2.2 (by omega)
    have hlen:(rj a k.toNat).length=k.toNat * a.length:=by
     show((List.replicate k.toNat a.cps.toList).flatten).toArray.size=_
     rw [List.size_toArray]
     simp
     rfl
    have hfin:=q (.str (rj a k.toNat)) H sa.str
    have hr:(decide (k < -(2 ^ 63:Int))||decide (k ≥ 2 ^ 63))=false:=by
     rw [decide_eq_false (by omega),decide_eq_false (by omega)]
     rfl
    have hb:¬ k < 1→(k == 1||a.length == 0)=false→¬ ((a.length:Int) > (2 ^ 63 - 1) / k):=fun h1 h2=>by
     have h4:(a.length:Int)≤100:=by omega
     have h3:(92233720368547:Int)≤(2 ^ 63 - 1) / k:=Int.le_ediv_of_mul_le (by omega) (by omega)
     generalize (2 ^ 63 - 1) / k=g at h3 ⊢
     omega
    have hl:¬ k < 1→(k == 1||a.length == 0)=false→Builtin.Str.tooLong (a.length * k.toNat)=false:=fun h1 h2=>by
     unfold Builtin.Str.tooLong
     exact decide_eq_false (by rw [sizeLine_eq]; omega)
    refine P.mul_str hr hb hl ?_
    by_cases h1:k < 1
    ·rw [if_pos h1]
     have h0:k=0:=by omega
     subst h0
     exact⟨by decide,.str Str.empty,H,I.tok _,⟨_,rfl⟩,hfin⟩
    ·rw [if_neg h1]
     by_cases h2:(k == 1||a.length == 0)=true
     ·rw [if_pos h2]
      have h3:rj a k.toNat=a:=by
       rcases(Bool.or_eq_true _ _).mp h2 with h | h
       ·have h:k=1:=by simpa using h
        subst h
        unfold rj
        simp
       ·have h:a.length=0:=by simpa using h
        have h:a.cps.size=0:=h
        have:a.cps = #[]:=Array.eq_empty_of_size_eq_zero h
        cases a
        subst this
        unfold rj
        simp
      rw [h3]at hfin
      exact⟨.str a,H,I,⟨_,rfl⟩,hfin⟩
     ·rw [if_neg h2,tZ]
      have h3:(⟨#[]++((List.replicate k.toNat a.cps.toList).flatten).toArray⟩:Str)=rj a k.toNat:=by
       unfold rj
       simp
      rw [h3]
      exact⟨by rw [hlen,sizeLine_eq,Nat.mul_comm]; omega,.str (rj a k.toNat),H,I.tok _,⟨_,rfl⟩,hfin⟩
   ·rw [if_neg hc]at e; cases e
  | _=>rw [eb]at e; cases e
 | _=>rw [ea]at e; cases e
theorem C1 (hK:X.K=T.K):OpR X (binaryOp .Mult) (fun x y H Q=>dW T B sH true [x,y] H Q):=by
 intro pins s σ H x y v u Q I rx ry h
 obtain⟨o,p,l,r,sa,e,q⟩:=zP h
 have d2:=sa.read2
 cases ea:o.frz with
 | lst ds =>
  rw [ea]at e
  cases eb:p.frz with
  | int k =>
   rw [eb]at d2 e
   have d2:y = .int k:=d2
   subst d2
   have e:(if 0≤k∧k≤100000∧ds.length≤100 then some (O.lst ((List.replicate k.toNat ds).flatten.map .d))else none)=some r:=e
   by_cases hc:0≤k∧k≤100000∧ds.length≤100
   ·rw [if_pos hc]at e
    injection e with e
    subst e
    have pc:p.shal=p:=by cases p <;> first | rfl | cases eb
    obtain⟨a,vs,rfl,hq,hl,s1⟩:=Sat.kidsL sa ea
    refine CY pins s σ H _ _ v u Q I rx ry ⟨a,k,vs,rfl,rfl,by rw [hK]; exact hq,by omega,by omega,?_,fun pp hp=>q _ _ ?_⟩
    ·rw [← hl,sizeLine_eq]
     have:ds.length * k.toNat≤100 * 100000:=Nat.mul_le_mul hc.2.2 (by omega)
     omega
    ·have s2:=Sat.rep hl k.toNat s1
     have s3:Sat T B H (((List.replicate k.toNat ds).flatten.map O.d).zip (List.replicate k.toNat vs).flatten++((o.shal,V.ref a)::(p,V.int k)::l)):=(s2.perm (by
      exact(List.perm_append_comm_assoc _ _ _))).dropL
     rw [if_pos rfl,if_pos rfl,pc]
     exact Sat.newL s3 (by rw [List.length_map]; simp [hl]) hp
   ·rw [if_neg hc]at e; cases e
  | _=>rw [eb]at e; cases e
 | _=>rw [ea]at e; cases e
theorem A8 (hK:X.K=T.K) {a b:Expr}{sa sb:SE}{pos:Pos} (ha:PE X a (tA T B Φ W sa)) (hb:PE X b (tA T B Φ W sb)):PE X (.BinOp a .Mult b pos) (tE T B Φ W (.ofn true sH [sa,sb])) :=
 (pe_op (C1 (T:=T) (B:=B) hK) ha hb).pv fun σ H Q ⟨ρ,l,at_,h⟩=>vH at_ (by
  have h:RP T B W σ l ((bN Φ [sa,sb] ρ).bind fun as ρ=>mN sH true as ρ) Q:=by rwa [ev]at h
  rw [we]at h
  exact h.rg)
theorem ng (hK:X.K=T.K) {a b:Expr}{sa sb:SE}{pos:Pos} (ha:PE X a (tA T B Φ W sa)) (hb:PE X b (tA T B Φ W sb)):PE X (.BinOp a .Mult b pos) (tE T B Φ W (.ofn true c0 [sa,sb])) :=
 (pe_op (A7 (T:=T) (B:=B) hK) ha hb).pv fun σ H Q ⟨ρ,l,at_,h⟩=>vH at_ (by
  have h:RP T B W σ l ((bN Φ [sa,sb] ρ).bind fun as ρ=>mN c0 true as ρ) Q:=by rwa [ev]at h
  rw [we]at h
  exact h.rg)
end
end PV
namespace PV
open PySem PySem.Spec PyProof.Rows L2
section
variable {M:Model}{A:Around}{E:Value→Shared→Prop}{s:Shared}{Z:Obj→Prop}{base:Heap}{env:Env}{outer l:List PySem.Env}{L L' e:Addr}
open HandSPX in
theorem wg {env:PySem.Env}{Q:Unit→Shared→Prop} (hZ:Steady Z) (hne:L'≠L) (hfr:A.frames=some (env::outer)) (hf:env.frame=some L) (hfl:HeldZ base (env::outer) e Z L' s.heap)
  (hQ:∀ h',HeldZ base (env::outer) e Z L h'→s.heap.UpToSlots h'→Q () {s with heap:=h'}):wpAny M A (noteFrame (.ref e) env) Q E s:=by
 obtain⟨hkb,hen,hl,oe,vs,T,oT,ts,he,hz,hd,h1,hnT,hTe,hT,hdT,h3⟩:=hfl
 unfold noteFrame
 simp only [hf]
 refine wpAny_bind (wpAny_field he hd h1 ?_)
 rw [if_pos (show(Value.ref T != Value.none)=true from by simp)]
 refine wpAny_bind (wpAny_field hT hdT h3 ?_)
 rw [if_neg (show ¬ ((rawInt L' == rawInt L)=true)from by simp [rawInt]; exact fun h=>hne (Int.ofNat_inj.mp h))]
 refine wpAny_bind (wpAny_setField hT hdT (Array.getElem?_eq_some_iff.mp h3).1 ?_)
 have other:∀ b,b≠T→(s.heap.update T (Obj.mapFields (·.setIfInBounds 3 Value.none))).get? b=s.heap.get? b:=fun b hb=>Heap.get?_update_other _ _ (Ne.symm hb)
 have noRecord:∀ b o,s.heap.get? b=some o→(∀ vs,o.data≠.fields vs)→b≠T:=fun b o hb hnf q=>by
  rw [q,hT]at hb; injection hb with hb; subst hb; exact hnf ts hdT
 refine wpAny_entryZ hZ hfr (hl.of_keeps fun b o hb hnf=>⟨o,(other b (noRecord b o hb hnf)).trans hb,rfl⟩) hf ((other e (Ne.symm hTe)).trans he)
  (fun b o hbo=>(other b fun q=>by rw [q,hnT]at hbo; cases hbo).trans (hkb b o hbo)) hen hd (Array.getElem?_eq_some_iff.mp h1).1 hz fun h' hN=>?_
 obtain⟨x1,x2,x3,x4⟩:=hN
 exact hQ h' ⟨x1,hen,x2,x3⟩ fun b o hb hnf=>x4 b o ((other b (noRecord b o hb hnf)).trans hb) hnf
end
section
variable {X:Cx}{pins:List (Addr×Obj)}{σ:L2.St}{H3:Hp}{s3:Shared}{W Wb:WX}
theorem zb {scope:Scope}{ce:PySem.Env}{fp:List Addr} (tk:Takes X W) (hs:X.stack=X.env::X.outer) (hf:X.env.frame=some X.env.locals) (hW:∀ c d σ' H,Wb c d σ' H→W c d σ H)
  (I3:L2.Inv X pins σ H3 s3) (f3:∀ b∈fp,FpOk X pins H3 b∧b < s3.heap.objs.size) (cL:ce.locals=s3.heap.objs.size) (cF:ce.frame=X.env.frame) :
  Takes ((X.blk s3 H3 scope ce fp).wish (notedBy (model X.prog X.w) X.A ce (CompFails (model X.prog X.w) X.A X.xe ce))) Wb:=by
 intro u s' ⟨a,B,sI,pins',σb,Hb,cls,d,eu,I,nb,up,sky,na,os,ag,w⟩
 subst eu
 have I:=I.unwish
 have I7:L2.Inv X pins σ Hb sI:=I3.call' (ch:=fp) I.os I.base I.hok I.bare fun b hb=>⟨(f3 b hb).1.2.2.2.1,(f3 b hb).1.2.1,(f3 b hb).1.2.2.2.2.1,(f3 b hb).1.2.2.2.2.2⟩
 have nC:Hb ce.locals=none:=I.free
 obtain⟨m,hn,_⟩:=I.loc
 have hn:sI.heap.Ns ce.locals m:=hn
 have hn1:s'.heap.Ns ce.locals m:=hn.upToSlots up
 have fC:FpOk X pins Hb ce.locals:=I3.fpOk (by rw [cL]; exact Nat.le_refl _) nC
 have hfr:X.A.frames=some (X.env::X.outer):=by rw [I3.ok.frames,hs]
 have hCL:ce.locals≠X.env.locals:=fC.2.1
 have nb:∀ b o,sI.heap.get? b=some o→b∉frs X.stack→B.get? b=some o:=nb
 have sky:Sky B X.stack a (Zc cls d) ce.locals s'.heap:=sky
 have fin:∀ h1,HandSPX.HeldZ B (X.env::X.outer) a (Zc cls d) X.env.locals h1→s'.heap.UpToSlots h1→CompFails (model X.prog X.w) X.A X.xe ce (.ref a) {s' with heap:=h1}:=fun h1 hh up1=>by
  have hn2:h1.Ns ce.locals m:=hn1.upToSlots up1
  refine⟨m,hn2,fun h2 m2 hn3 hs2=>?_⟩
  obtain⟨b1,b0,f1,t1⟩:=hh
  have hB:∀ b o,(PySem.W.hideAll B [ce.locals]).get? b=some o→b≠ce.locals∧B.get? b=some o:=fun b o q=>by
   have q2:=PySem.W.of_hideAll _ q
   refine⟨fun z=>?_,q2⟩
   rw [PySem.W.hideAll_none [ce.locals] (by rw [z]; exact List.mem_singleton.mpr rfl)]at q
   cases q
  have k1:(PySem.W.hideAll B [ce.locals]).StaysIn h2:=fun b o q=>(hs2.2 b (hB b o q).1).trans (b1 b o (hB b o q).2)
  have gone:∀ {b:Addr},B.get? b=none→(PySem.W.hideAll B [ce.locals]).get? b=none:=fun {b} q=>by
   cases z:(PySem.W.hideAll B [ce.locals]).get? b with
   | none=>rfl
   | some o =>
    have:=(hB b o z).2
    rw [q]at this
    cases this
  have k3:h2.FunFrames (PySem.W.hideAll B [ce.locals]) (X.env::X.outer):=funFrames_none (Heap.FunFrames.sameBut hs2 hn3 f1) fun L hL=>gone (by
   obtain⟨q,_⟩:=f1.mem hL
   exact q)
  have k4:HandSPX.TracedZ h2 (PySem.W.hideAll B [ce.locals]) a (Zc cls d) (rawInt X.env.locals):=by
   obtain⟨oe,vs,T,oT,ts,he,hz,hd,h1',hnT,hTe,hT,hdT,h3'⟩:=t1
   obtain⟨oL,es,ep,hoL,hdL,_⟩:=hn2
   have ne:∀ {b:Addr}{o:Obj}{vs:Array Value},h1.get? b=some o→o.data = .fields vs→b≠ce.locals:=fun {b o vs} q1 q2 z=>by
    rw [z,hoL]at q1
    injection q1 with q1
    subst q1
    rw [hdL]at q2
    cases q2
   exact⟨oe,vs,T,oT,ts,(hs2.2 a (ne he hd)).trans he,hz,hd,h1',gone hnT,hTe,(hs2.2 T (ne hT hdT)).trans hT,hdT,h3'⟩
  have held:HandSPX.HeldZ (PySem.W.hideAll B [ce.locals]) (X.env::X.outer) a (Zc cls d) X.env.locals h2:=⟨k1,gone b0,k3,k4⟩
  unfold PySem.passOn
  have k4':=k4
  obtain⟨oe,vs,T,oT,ts,he,hz,hd,h1',hnT,hTe,hT,hdT,h3'⟩:=k4'
  refine wpAny_bind (wpAny_field he hd h1' ?_)
  rw [if_neg (show ¬ ((Value.ref T == Value.none)=true)from by simp)]
  rw [cF,hf]
  refine wpAny_bind (HandSPX.setFlight_onZ (s:={s' with heap:=h2}) held fun h4 hh4 up4=>?_)
  refine wpAny_throw (tk _ _ ?_)
  refine⟨a,PySem.W.hideAll B [ce.locals],{sI with heap:=PySem.W.hideAll sI.heap [ce.locals],toks:=sI.toks},pins,σ,Hb,cls,d,rfl,?_,?_,?_,?_,na,os,ag,hW _ _ _ _ w⟩
  ·refine I7.turned (it:=ce.locals) (fun b o hb q=>PySem.W.hideAll_get _ q (by simpa using hb)) fC.1 fC.2.1 fC.2.2.2.1 fC.2.2.2.2.1 fC.2.2.2.2.2
  ·intro b o q hb
   have q2:=PySem.W.of_hideAll _ q
   have hbC:b≠ce.locals:=fun z=>by
    rw [PySem.W.hideAll_none [ce.locals] (by rw [z]; exact List.mem_singleton.mpr rfl)]at q
    cases q
   exact PySem.W.hideAll_get _ (nb b o q2 hb) (by simpa using hbC)
  ·intro b o q hnf
   have q2:=PySem.W.of_hideAll _ q
   have hbC:b≠ce.locals:=fun z=>by
    rw [PySem.W.hideAll_none [ce.locals] (by rw [z]; exact List.mem_singleton.mpr rfl)]at q
    cases q
   obtain⟨sl1,q3⟩:=up b o q2 hnf
   obtain⟨sl2,q4⟩:=up1 b _ q3 hnf
   have q5:h2.get? b=_:=(hs2.2 b hbC).trans q4
   obtain⟨sl3,q6⟩:=up4 b _ q5 hnf
   exact⟨sl3,q6⟩
  ·rw [hs]
   exact .inr (.inr hh4)
 show wpAny (model X.prog X.w) X.A (noteFrame (.ref a) ce) (fun _ s''=>CompFails (model X.prog X.w) X.A X.xe ce (.ref a) s'') (CompFails (model X.prog X.w) X.A X.xe ce) s'
 rw [noteFrame_env _ cF]
 rw [hs]at sky
 rcases sky with⟨hB,hn,hl,oe,vs,he,hz,hd,h1⟩ | fl | hd
 ·exact HandSPX.look_newZ Zc.steady hfr hl hf he hB hn hd h1 hz fin
 ·exact HandSPX.looks_onZ Zc.steady hfr hf fl fin
 ·exact wg Zc.steady hCL hfr hf hd fin
end
end PV
namespace PV
open PySem PySem.Spec PyProof.Rows L2
section
variable {X:Cx}{W Wb:WX}
theorem Ft {elt tg iter:Expr}{scope:Scope}{own:List (Str×Nat)}{pos:Pos}{wi:TI}{g:TG}{te:WX→TE} (tk:Takes X W) (hstk:X.stack=X.env::X.outer) (hfrm:X.env.frame=some X.env.locals)
  (hc:X.calm=true) (hN:X.N.Nodup) (hi:PI X tg iter wi) (ok:BlkOk X.N X.env.scope scope own)
  (hg:∀ (s:Shared) (H:Hp) (C:Addr) (cl:List (Str×Addr)) (fp:List Addr),PG (X.blk s H scope (compEnvC scope cl C X.env) fp) tg g)
  (he:∀ (s:Shared) (H:Hp) (C:Addr) (cl:List (Str×Addr)) (fp:List Addr) (E:Value→Shared→Prop) (Wb:WX),Takes ((X.blk s H scope (compEnvC scope cl C X.env) fp).wish E) Wb→PE ((X.blk s H scope (compEnvC scope cl C X.env) fp).wish E) elt (te Wb)) (hs:∀ x,foldedSetIterable iter X.env x=pure x) :
  PE X (.ListComp elt [⟨tg,iter,[],0⟩] scope pos) (fun σ H Q=>tLc wi g tYes (te fun c d _ H=>W c d σ H) (own.map (·.2)) σ H Q):=by
 refine⟨fun pins s σ H Q I h=>?_⟩
 rw [eval_ListComp]
 have hfree:∀ y∈scope.names,y.2 = .free→∃ c,X.env.cells.lookup y.1=some c:=fun y hy e=>by
  rcases ok.free y hy e with k | k
  ·exact I.ok.has _ (.inl k)
  ·exact I.ok.has _ (.inr k)
 refine comprehension_at (use:=none) rfl hs (closure_ok hfree) ok.kind (fun y hy e=>by rw [ok.uniq y hy,e])
  (thn (hi.run pins s σ H _ I h) fun xv s1 hx=>thn hx fun itv s2 h2=>?_)
 obtain⟨it,fp,tn,J,H2,e,I2,T,st2,f2,q⟩:=h2
 subst e
 refine wpAny_newObj_type (newEnv_comp ?_) (by show 0≤sizeLine; decide)
 generalize hD:s2.heap.objs.size=D
 have hDn:H2 D=none:=I2.hok.fresh (Nat.le_of_eq hD)
 obtain⟨Wn,⟨m0,w0⟩,turn⟩:=q D hDn
 -- the new list
 generalize hs3:({s2 with heap:=s2.heap.push {cls:=.type "list",data:=.seq ([]:List Value).toArray}}:Shared)=s3
 have I3:L2.Inv X pins σ (upd H2 D (.lst [])) s3:=by
  rw [← hs3]
  refine I2.laid (t':=s2.toks) (fun b o e=>Heap.get?_push_of_some _ e) (Nat.le_of_eq hD) ⟨Nat.zero_le _,[],0,.nil,?_⟩
  rw [← hD]
  exact Heap.get?_push_size _ rfl
 have h3:s3.heap=s2.heap.push {cls:=.type "list",data:=.seq ([]:List Value).toArray}:=by rw [← hs3]
 have sz:∀ b∈fp,b < s2.heap.objs.size:=fun b hb=>by
  obtain⟨o,e,_⟩:=T.obj _ _ st2 b hb
  exact Heap.lt_size e
 have f3:∀ b∈fp,FpOk X pins (upd H2 D (.lst [])) b∧b < s3.heap.objs.size:=fun b hb=>by
  have hlt:=sz b hb
  refine⟨⟨?_,(f2 b hb).2⟩,by rw [h3,Heap.size_push]; exact Nat.lt_succ_of_lt hlt⟩
  rw [upd_ne (by rw [← hD]; exact Nat.ne_of_lt hlt)]
  exact(f2 b hb).1
 have st3:tn 0 s3.heap:=T.keep _ _ _ st2 fun b _ o e=>by rw [h3]; exact Heap.get?_push_of_some _ e
 have I4:=block_start I3 ok hN f3
 have pg:=hg s3 (upd H2 D (.lst [])) s3.heap.objs.size (cellsFrom (s3.heap.objs.size+1) scope.names (cloFrom X.env.cells scope.names [])) fp
 have pe:=fun E=>he s3 (upd H2 D (.lst [])) s3.heap.objs.size (cellsFrom (s3.heap.objs.size+1) scope.names (cloFrom X.env.cells scope.names [])) fp E fun c d _ H=>W c d σ H
 show codeAny _ _ (.compStart (.ListComp elt [⟨tg,iter,[],0⟩] scope pos) 0 (.ref it) (.ref D) (compEnvC scope (cellsFrom (s3.heap.objs.size+1) scope.names (cloFrom X.env.cells scope.names [])) s3.heap.objs.size X.env)) (compEnds (model X.prog X.w) X.A X.xe none (EP X pins σ Q) (.ref D) (compEnvC scope (cellsFrom (s3.heap.objs.size+1) scope.names (cloFrom X.env.cells scope.names [])) s3.heap.objs.size X.env)) {s3 with heap:=pushCells (s3.heap.push {cls:=.type "dict",data:=.dict #[]}) scope.names}
 have nfp:∀ b∈fp,(upd H2 D (.lst [])) b=none:=fun b hb=>(f3 b hb).1.1
 generalize hce:compEnvC scope (cellsFrom (s3.heap.objs.size+1) scope.names (cloFrom X.env.cells scope.names [])) s3.heap.objs.size X.env=ce at I4 pg pe ⊢
 have cL:ce.locals=s3.heap.objs.size:=by subst hce; rfl
 have cF:ce.frame=X.env.frame:=by subst hce; rfl
 generalize hH3:upd H2 D (.lst [])=H3 at I3 I4 pg pe w0 nfp f3
 generalize hs4:({s3 with heap:=pushCells (s3.heap.push {cls:=.type "dict",data:=.dict #[]}) scope.names}:Shared)=s4 at I4 ⊢
 have st4:tn 0 s4.heap:=T.keep _ _ _ st3 fun b _ o e=>by rw [← hs4]; exact pushCells_keeps _ _ _ _ (Heap.get?_push_of_some _ e)
 have stat:∀ {σ':L2.St}{H':Hp}{s':Shared},L2.Inv (X.blk s3 H3 scope ce fp) [] σ' H' s'→(∀ b∈fp,H' b=none)→∀ b∈fp,FpOk (X.blk s3 H3 scope ce fp) [] H' b:=fun {σ' H' s'} I' hn b hb =>
  ⟨hn b hb,(I'.ok.exf b hb).1,I'.ok.exfs b hb,.inl hb,fun x c e=>(I'.ok.exf b hb).2 x c e,fun p hp=>absurd (show p∈([]:List (Addr×Obj))++[]from hp) (by simp)⟩
 have loop:codeAny (model X.prog X.w) X.A (.compLoop (.ListComp elt [⟨tg,iter,[],0⟩] scope pos) 0 (.ref it) (.ref D) ce) (compEnds (model X.prog X.w) X.A X.xe none (EP X pins σ Q) (.ref D) ce) s4:=by
  refine compLoop_any (fun n s'=>∃ i H',L2.Inv (X.blk s3 H3 scope ce fp) [] (L2.wipe σ (own.map (·.2))) H' s'∧tn i s'.heap∧(∀ b∈fp,H' b=none)∧Wn i n H') ?_ m0 ⟨0,H3,I4,st4,nfp,w0⟩
  rintro n s5 ⟨i,H5,I5,st5,n5,w5⟩
  rcases turn i n H5 w5 with⟨stop,qq⟩ | ⟨go,Nx,hNx,step⟩
  ·have td:=T.done (X.blk s3 H3 scope ce fp) rfl rfl rfl hc i [] s5 _ H5 (fun _ _=>False) I5 (stat I5 n5) st5 stop
   refine thnF td fun r s6 ⟨hr,I6⟩=>?_
   subst hr
   -- back in the def's context
   have I7:L2.Inv X pins σ H5 s6:=I3.call' (ch:=fp) I6.os I6.base I6.hok I6.bare fun b hb=>⟨(f3 b hb).1.2.2.2.1,(f3 b hb).1.2.1,(f3 b hb).1.2.2.2.2.1,(f3 b hb).1.2.2.2.2.2⟩
   have nC:H5 ce.locals=none:=I6.free
   obtain⟨m,hn,_⟩:=I6.loc
   have hn:s6.heap.Ns ce.locals m:=hn
   have fC:FpOk X pins H5 ce.locals:=I3.fpOk (by rw [cL]; exact Nat.le_refl _) nC
   exact⟨m,hn,fun h'' sb=>⟨.ref D,H5,I7.turned (t':=s6.toks) (fun b o hb e=>(sb.2 b hb).trans e) fC.1 fC.2.1 fC.2.2.2.1 fC.2.2.2.2.1 fC.2.2.2.2.2,rfl,qq⟩⟩
  ·have ti:=T.item (X.blk s3 H3 scope ce fp) rfl rfl rfl hc i [] s5 _ H5 (fun _ _=>False) I5 (stat I5 n5) st5 go
   refine thnF ti fun r s6 ⟨u,hr,h6⟩=>?_
   subst hr
   refine thnF h6 fun _ s7 ⟨x,H7,I7,r7,y7,st7,n7⟩=>?_
   have I7':=I7.pinned (stat I7 n7) (T.obj _ _ st7)
   refine thnF (pg.run _ s7 _ H7 x u _ I7' r7 (step x H7 y7)) fun _ s8 ⟨σ8,H8,I8,hw8,q8⟩=>?_
   refine thnF ((pts_nil (X:=X.blk s3 H3 scope ce fp)).run _ s8 σ8 H8 _ I8 q8) fun b s9 ⟨H9,I9,q9⟩=>?_
   -- the turn's end
   have fin:∀ {s':Shared}{H':Hp},L2.Inv (X.blk s3 H3 scope ce fp) ([]++pinsAt fp s7.heap) σ8 H' s'→Nx H'→∃ m,m < n∧∃ i H',L2.Inv (X.blk s3 H3 scope ce fp) [] (L2.wipe σ (own.map (·.2))) H' s'∧tn i s'.heap∧(∀ b∈fp,H' b=none)∧Wn i m H':=fun {s' H'} I' nx=>by
    obtain⟨m',hm,w'⟩:=hNx H' nx
    have pin':∀ b∈fp,∀ o,s7.heap.get? b=some o→s'.heap.get? b=some o∧H' b=none:=fun b hb o e =>
     let z:=I'.pin (b,o) (List.mem_append_right _ (List.mem_append_right _ (mem_pinsAt hb e)))
     ⟨z.1,z.2.1⟩
    have hl:(L2.wipe σ (own.map (·.2))).length=σ8.length:=by rw [← hw8,L2.wipe_length]
    refine⟨m',hm,i+1,H',(I'.unpinned (pins:=[])).weak hl (fun j v e=>?_),T.keep _ _ _ st7 fun b hb o e=>(pin' b hb o e).1,fun b hb=>?_,w'⟩
    ·rw [← hw8]at e
     exact(wipe_some e).1
    ·obtain⟨o,e,_⟩:=T.obj _ _ st7 b hb
     exact(pin' b hb o e).2
   cases b with
   | false =>
    simp only [Bool.false_eq_true,if_false]at q9 ⊢
    exact fin I9 q9
   | true =>
    simp only [if_true]at q9 ⊢
    have pe:=pe _ (zb (σ:=σ) (scope:=scope) (fp:=fp) tk hstk hfrm (fun _ _ _ _ z=>z) I3 f3 cL cF)
    refine wpAny_mono (pe.run _ s9 σ8 H9 _ (I9.wish _) q9) (fun z s10 ⟨yv,H10,I10,r10,acc,hD10,hz10,nx⟩=>?_) fun _ _ z=>z
    exact app_ok (X:=X.blk s3 H3 scope ce fp) I10.unwish hD10 hz10 r10 fun s11 I11=>fin I11 nx
 exact codeAny_compStart_list loop (T.self X.A 0 _ _ _ st4 loop)
end
end PV
namespace PV
open PySem PySem.Spec PyProof.Rows L2
section
variable {T:Tab}{B:Base}{Φ:cW}{W:WX}{X:Cx}{H:Hp}{ρ:Env}{σ:L2.St}{l:List aW}{L:List Nat}
theorem oX:∀ {own:List Nat}{ρ0 ρ:Env} (j:Nat),(bB own ρ0 ρ)[j]?=if j∈own then(if j < ρ.length then some (aq ρ0 j)else none)else ρ[j]?
 | [],ρ0,ρ,j=>by simp [bB]
 | i::r,ρ0,ρ,j=>by
  unfold bB
  rw [oX (own:=r) j,List.length_set]
  by_cases hr:j∈r
  ·rw [if_pos hr,if_pos (List.mem_cons_of_mem _ hr)]
  ·rw [if_neg hr]
   by_cases e:j=i
   ·subst e
    rw [if_pos List.mem_cons_self]
    by_cases hl:j < ρ.length
    ·rw [if_pos hl,List.getElem?_set_self hl]
    ·rw [if_neg hl,List.getElem?_eq_none (by simpa using hl)]
   ·rw [if_neg (fun z=>(List.mem_cons.mp z).elim e hr),List.getElem?_set_ne (Ne.symm e)]
theorem oY:∀ {own:List Nat}{ρ:Env} (j:Nat),(ai own ρ).length=ρ.length∧(j∉own→(ai own ρ)[j]?=ρ[j]?)
 | [],ρ,j=>⟨rfl,fun _=>rfl⟩
 | i::r,ρ,j=>by
  unfold ai
  obtain⟨h1,h2⟩:=oY (own:=r) (ρ:=ρ.set i none) j
  refine⟨by rw [h1,List.length_set],fun h=>?_⟩
  rw [h2 fun z=>h (List.mem_cons_of_mem _ z),List.getElem?_set_ne fun z=>h (by rw [← z]; exact List.mem_cons_self)]
theorem xn {own:List Nat}{ρ0 ρ:Env}:bB own ρ0 (ai own ρ)=bB own ρ0 ρ:=by
 apply List.ext_getElem?
 intro j
 rw [oX,oX,(oY (own:=own) (ρ:=ρ) j).1]
 by_cases h:j∈own
 ·rw [if_pos h,if_pos h]
 ·rw [if_neg h,if_neg h,(oY j).2 h]
theorem A9 {own:List (Str×Nat)}{t:Tg}{ie:IE}{se:SE}{Q:VK}
  (hlen:∀ ρ p ρ',kG Φ ie ρ = .ok p ρ'→p.1.length=p.2.1.length) (nd:(own.map (·.2)).Nodup) (hp:∀ p∈B.pr,p.1∉own.map (·.2)) (htg:∀ i∈ar t,i∈own.map (·.2)) (h0:tE T B Φ W (.comp .set se (own.map (·.2)) t ie []) σ H Q) :
  tLc (tI T B Φ W ie) (gT T B t) tYes (tE T B Φ (fun c d _ H=>W c d σ H) se) (own.map (·.2)) σ H Q:=by
  obtain⟨ρ,l,at_,h⟩:=h0
  rw [ev]at h
  refine⟨ρ,l,at_,h.rg.bind.eq.mono fun q ρ1 ⟨eq_,k⟩ vs J H1 hvl av a1 wk hz D hD=>?_⟩
  obtain⟨as,os,ds⟩:=q
  have hal:as.length=os.length:=hlen _ _ _ eq_
  simp only at k hvl av a1 wk hz
  generalize hf:(fun(x:PV.D) (ρ:Env)=>bnd (aE t x ρ) fun ρ=>(cZ Φ [] ρ).bind fun b ρ=>kg b ((ev Φ se ρ).bind fun o ρ=>Res.ok (some o) (ai (own.map (·.2)) ρ)) (Res.ok none (ai (own.map (·.2)) ρ)))=f at k
  obtain⟨outs,a2,back⟩:=kq nd a1
  have hn0:∀ i∈own.map (·.2),aq (ai (own.map (·.2)) ρ1) i=none:=fun i hi=>bh (.inl hi)
  have a3:=a2.wipe hn0 hp
  have put:∀ {ρe:Env}{m:List aW}{H2:Hp},(∀ i∈own.map (·.2),aq ρe i=none)→At T B H2 ρe (L2.wipe σ (own.map (·.2))) (m++(outs++(os.zip vs++l)))→At T B H2 (aL as os (bB (own.map (·.2)) ρ1 ρe)) σ (m++l):=by
   intro ρe m H2 hn a
   have b1:=a.unwipe hn hp
   have b2:At T B H2 ρe σ (outs++(os.zip vs++(m++l))):=b1.perm (ak.trans (ak.append_left _))
   have hl:ρe.length=ρ1.length:=by rw [b1.ok.len,a1.ok.len]
   have b3:=back H2 ρe _ hl hn b2
   exact dC (as:=as) (os:=os) (vs:=vs) hvl b3 av
  have w:Walk J ds.length (fun H=>∃ l',Sat T B H (os.zip vs++l')) (fun i H v H'=>∀ l',Sat T B H (os.zip vs++l')→∃ d,ds[i]?=some d∧Sat T B H' ((.d d,v)::(os.zip vs++l'))) :=
   ⟨fun i H hi ⟨l',s⟩=>wk.goes i H l' hi s,fun H ⟨l',s⟩=>wk.stops H l' s,fun i H v H' hi _ y l' s=>wk.yields i H v H' l' hi s y⟩
  have hd:∀ {m:List aW}{H:Hp}{ρi:Env}{σ':L2.St},At T B H ρi σ' (m++(outs++(os.zip vs++l)))→Sat T B H (os.zip vs++(af ρi σ'++(m++(outs++l)))):=fun {m H ρi σ'} a=>a.sat.perm (by
   have p1:(m++(outs++(os.zip vs++l))).Perm (os.zip vs++(m++(outs++l))):=(ak.append_left m).trans ak
   exact(p1.append_left _).trans ak)
  refine lc_it (g:=gT T B t) (tt:=tYes) (te:=tE T B Φ (fun c d _ H=>W c d σ H) se) w (fun i H=>∃ ρi oss,(∀ j∈own.map (·.2),aq ρi j=none)∧oss.length≤i∧At T B H ρi (L2.wipe σ (own.map (·.2))) ((.lst oss,.ref D)::(outs++(os.zip vs++l))) ∧
   RG T B W σ l (((aK f (ds.drop i) ρi).bind fun rest ρ=>Res.ok (oss++rest) ρ).outL fun ρ'=>aL as os (bB (own.map (·.2)) ρ1 ρ')) (fun o ρ=>∀ v H,At T B H ρ σ ((o,v)::l)→Q v H)) ?_ ?_ ?_ ?_
  ·refine⟨ai (own.map (·.2)) ρ1,[],hn0,Nat.le_refl _,⟨a3.ok,?_,a3.pr⟩,?_⟩
   ·have s1:Sat T B H1 (([]:List O).zip ([]:List V)++(af (ai (own.map (·.2)) ρ1) (L2.wipe σ (own.map (·.2)))++(outs++(os.zip vs++l)))):=a3.sat
    exact(Sat.newL s1 rfl hD).perm List.perm_middle.symm
   ·rw [List.drop_zero]
    have:((aK f ds (ai (own.map (·.2)) ρ1)).bind fun rest ρ=>Res.ok ([]++rest) ρ)=aK f ds (ai (own.map (·.2)) ρ1):=by
     generalize aK f ds (ai (own.map (·.2)) ρ1)=r
     cases r <;> rfl
    rw [this]
    exact k
  ·rintro i H2 _ ⟨ρi,oss,_,_,a4,_⟩
   exact⟨_,hd (m:=[_]) a4⟩
  ·rintro i x H2 H3 hi2 ⟨ρi,oss,hni,hoi,a4,k4⟩ y
   obtain⟨d,hdd,s5⟩:=y _ (hd (m:=[(.lst oss,.ref D)]) a4)
   have ed:ds.drop i=d::ds.drop (i+1):=by
    obtain⟨hj,hv⟩:=List.getElem?_eq_some_iff.mp hdd
    rw [← hv]
    exact List.drop_eq_getElem_cons hj
   rw [ed,aK]at k4
   have a5:At T B H3 ρi (L2.wipe σ (own.map (·.2))) ((.d d,x)::(.lst oss,.ref D)::(outs++(os.zip vs++l))):=⟨a4.ok,s5.perm (by
    have p0:((O.lst oss,V.ref D)::(outs++(os.zip vs++l))).Perm (os.zip vs++([(O.lst oss,V.ref D)]++(outs++l))):=by
     have p1:([(O.lst oss,V.ref D)]++(outs++(os.zip vs++l))).Perm (os.zip vs++([(O.lst oss,V.ref D)]++(outs++l))):=(ak.append_left _).trans ak
     exact p1
    have p2:(os.zip vs++(af ρi (L2.wipe σ (own.map (·.2)))++([(O.lst oss,V.ref D)]++(outs++l)))).Perm (af ρi (L2.wipe σ (own.map (·.2)))++((O.lst oss,V.ref D)::(outs++(os.zip vs++l)))):=ak.trans (p0.symm.append_left _)
    exact(p2.cons _).trans List.perm_middle.symm),a4.pr⟩
   have ef:f d ρi=bnd (aE t d ρi) fun ρ=>(cZ Φ [] ρ).bind fun b ρ=>kg b ((ev Φ se ρ).bind fun o ρ=>Res.ok (some o) (ai (own.map (·.2)) ρ)) (Res.ok none (ai (own.map (·.2)) ρ)):=by rw [← hf]
   rw [ef]at k4
   cases ea:aE t d ρi with
   | none=>rw [ea]at k4; exact k4.elim
   | some ρ2 =>
    rw [ea]at k4
    refine⟨d,ρi,ρ2,_,a5,ea,fun σ' sm a6=>⟨(cn sm htg).trans (by
     have key:∀ (own:List Nat),L2.wipe (L2.wipe σ own) own=L2.wipe σ own:=fun own=>cn ⟨by rw [wipe_length],fun j hj=>wipe_out hj⟩ fun i hi=>hi
     exact key _),?_⟩⟩
    have turn:∀ {H':Hp}{ρ':Env}{m:List aW},At T B H' ρ' σ' m→At T B H' (ai (own.map (·.2)) ρ') (L2.wipe σ (own.map (·.2))) m:=fun {H' ρ' m} a=>by
     have b:=(a.kill (is:=own.map (·.2)))
     have b1:At T B H' (ai (own.map (·.2)) ρ') (L2.wipe σ' (own.map (·.2))) m:=b.wipe (fun i hi=>bh (.inl hi)) hp
     have e1:L2.wipe σ' (own.map (·.2))=L2.wipe σ (own.map (·.2)):=(cn sm htg).trans (cn ⟨by rw [wipe_length],fun j hj=>wipe_out hj⟩ fun i hi=>hi)
     rw [e1]at b1
     exact b1
    have e0:cZ Φ [] ρ2 = .ok true ρ2:=by rw [cZ]
    simp only [cV,e0,Res.bind_ok,nD]at k4
    unfold tYes
    dsimp only
    rw [if_pos rfl]
    refine⟨ρ2,_,a6,?_⟩
    cases ee:ev Φ se ρ2 with
    | bad=>simp only [ee]at k4; exact k4.elim
    | exc C p ρ4 =>
     simp only [ee]at k4
     have k4:∀ d H its,At T B H (aL as os (bB (own.map (·.2)) ρ1 ρ4)) σ (its++l)→pF T H C p d its→W (.ref (T.cls C)) d σ H:=k4
     intro dx H5 its a8 ex
     have hk:aL as os (bB (own.map (·.2)) ρ1 (ai (own.map (·.2)) ρ4))=aL as os (bB (own.map (·.2)) ρ1 ρ4):=by rw [xn]
     refine k4 dx H5 its ?_ ex
     rw [← hk]
     refine put (fun i hi=>bh (.inl hi)) (turn ?_)
     exact(a8.perm List.perm_middle).drop
    | ok o ρ4 =>
     simp only [ee,Res.bind_ok]at k4
     intro y H5 a8
     have s9:Sat T B H5 ((.lst oss,.ref D)::(af ρ4 σ'++((o,y)::(outs++(os.zip vs++l))))):=a8.sat.perm (by
      have p1:((o,y)::(O.lst oss,V.ref D)::(outs++(os.zip vs++l))).Perm ((O.lst oss,V.ref D)::(o,y)::(outs++(os.zip vs++l))):=.swap _ _ _
      exact(p1.append_left _).trans List.perm_middle)
     obtain⟨D',acc,eD,hDa,hla,s10⟩:=s9.openL
     cases eD
     refine⟨acc,hDa,by omega,ai (own.map (·.2)) ρ4,oss++[o],fun j hj=>bh (.inl hj),by simp; omega,turn ⟨a8.ok,?_,a8.pr⟩,?_⟩
     ·have s11:ae T B H5 [D] ((oss++[o]).zip (acc++[y])++(af ρ4 σ'++(outs++(os.zip vs++l)))):=by
       rw [List.zip_append hla,List.append_assoc]
       exact s10.perm (List.Perm.append_left _ List.perm_middle)
      exact((s11.write (cE hDa).1 (cE hDa).2.1 (cE hDa).2.2).closeL upd_same (by simp [hla])).perm List.perm_middle.symm
     ·have e2:(((aK f (ds.drop (i+1)) (ai (own.map (·.2)) ρ4)).bind fun os ρ=>Res.ok (o::os) ρ).bind fun rest ρ=>Res.ok (oss++rest) ρ)=(aK f (ds.drop (i+1)) (ai (own.map (·.2)) ρ4)).bind fun rest ρ=>Res.ok (oss++[o]++rest) ρ:=by
       generalize aK f (ds.drop (i+1)) (ai (own.map (·.2)) ρ4)=r
       cases r <;> simp
      rw [e2]at k4
      exact k4
  ·rintro H2 ⟨ρi,oss,hni,_,a4,k4⟩
   rw [List.drop_of_length_le (Nat.le_refl _),aK]at k4
   have k4:∀ v H,At T B H (aL as os (bB (own.map (·.2)) ρ1 ρi)) σ ((.lst (oss++[]),v)::l)→Q v H:=k4
   rw [List.append_nil]at k4
   exact k4 _ H2 (put (m:=[_]) hni a4)
theorem C2 {elt tg iter:Expr}{scope:Scope}{own:List (Str×Nat)}{t:Tg}{ie:IE}{se:SE}{pos:Pos}
  (pr:dD B L) (hc:X.calm=true) (hN:X.N.Nodup) (nd:(own.map (·.2)).Nodup) (hp:(L.all fun i=>!(own.map (·.2)).contains i)=true) (htg:∀ i∈ar t,i∈own.map (·.2))
  (hi:PI X tg iter (tI T B Φ W ie)) (ok:BlkOk X.N X.env.scope scope own)
  (hg:∀ (s:Shared) (H:Hp) (C:Addr) (cl:List (Str×Addr)) (fp:List Addr),PG (X.blk s H scope (compEnvC scope cl C X.env) fp) tg (gT T B t))
  (he:∀ (s:Shared) (H:Hp) (C:Addr) (cl:List (Str×Addr)) (fp:List Addr) (E:Value→Shared→Prop) (Wb:WX),Takes ((X.blk s H scope (compEnvC scope cl C X.env) fp).wish E) Wb→PE ((X.blk s H scope (compEnvC scope cl C X.env) fp).wish E) elt (tE T B Φ Wb se)) (hs:∀ x,foldedSetIterable iter X.env x=pure x) (tk:Takes X W) (hstk:X.stack=X.env::X.outer) (hfrm:X.env.frame=some X.env.locals) :
  PE X (.ListComp elt [⟨tg,iter,[],0⟩] scope pos) (tE T B Φ W (.comp .set se (own.map (·.2)) t ie [])) :=
 (Ft (te:=fun W=>tE T B Φ W se) tk hstk hfrm hc hN hi ok hg he hs).pv fun σ H Q h=>A9 (fun ρ p ρ' e=>(qY e).2) nd (pr.nin hp) htg h
end
end PV
namespace PL
open PySem PySem.Spec PyProof.Rows L2 PV
def kr:List SS:=[.ite (.bor [.bnot (.isa [20] [.str] (.var 0)),.bnot (.cm2 .le .le (.lit (.int 1)) (.fn .len [.var 0]) (.glo "MOST_LETTERS" (.int 8)))]) [.ret (.lit (.bl false))] [],.ret (.fn .all [.comp .lst (.cm .isin (.var 1) (.glo "LETTERS" (.str "abcdefghijklmnopqrstuvwxyz"))) [1] (.nm 1) (.of (.var 0)) []])]
noncomputable def aS:List O→bC:=gJ (fz []) kr 1 2 [0]
def mF:List SS:=[.asg (.nm 1) (.comp .lst (.bi .sub (.var 2) (.bi .pow (.lit (.int 10)) (.lit (.int 18)))) [2] (.nm 2) (.of (.var 0)) [.cm .ge (.var 2) (.bi .pow (.lit (.int 10)) (.lit (.int 18)))]),.ret (.dct (ip [(.lit (.str "large"),.mv 1),(.lit (.str "cells"),.frz (.fn .list [.var 0])),(.lit (.str "rest"),.lit (.int 0)),(.lit (.str "turn"),.lit (.int 0))]))]
noncomputable def gL:List O→bC:=gJ (fz []) mF 1 3 [0]
def mG:List SS:=[.sub 0 [.lit (.str "turn")] (.bi .add (.idx (.var 0) (.lit (.str "turn"))) (.lit (.int 1))),.asg (.nm 1) (.lit (.int 0)),.for (.nm 2) (.of (.lst [.lit (.int 2147483629),.lit (.int 2147483587),.lit (.int 2147483579),.lit (.int 2147483563),.lit (.int 2147483549),.lit (.int 2147483543)])) [.asg (.nm 3) (.bi .add (.bi .mul (.lit (.int 104729)) (.idx (.var 0) (.lit (.str "turn")))) (.bi .fdiv (.var 2) (.lit (.int 7)))),.for (.nm 4) (.of (.idx (.var 0) (.lit (.str "cells")))) [.asg (.nm 3) (.bi .mod (.fn .int [.bi .add (.bi .mul (.var 3) (.lit (.int 48271))) (.var 4)]) (.var 2))],.asg (.nm 1) (.bi .add (.bi .mul (.var 1) (.lit (.int 2147483647))) (.bi .mod (.fn .int [.bi .pow (.var 3) (.lit (.int 5))]) (.var 2)))],.ret (.mv 1)]
noncomputable def iP:List O→bC:=gJ (fz []) mG 1 5 [0]
def i8:List SS:=[.ite (.cm .eq (.idx (.var 0) (.lit (.str "rest"))) (.lit (.int 0))) [.sub 0 [.lit (.str "rest")] (.ite (.pkcm .ne 0 [.lit (.str "large")] (.lst [])) (.mu .popAt 0 [.lit (.str "large")] [.lit (.int 0)]) (.call 21 [.var 0]))] [],.asg (.nm 2) (.bi .mod (.fn .int [.idx (.var 0) (.lit (.str "rest"))]) (.var 1)),.sub 0 [.lit (.str "rest")] (.bi .fdiv (.idx (.var 0) (.lit (.str "rest"))) (.var 1)),.ret (.mv 2)]
noncomputable def bH:List O→bC:=gJ (fz [(21,iP)]) i8 2 3 [0,1]
def l6:List SS:=[.ret (.idx (.var 1) (.call 22 [.var 0,.fn .len [.var 1]]))]
noncomputable def dc:List O→bC:=gJ (fz [(22,bH)]) l6 2 2 [0,1]
def i9:List SS:=[.asg (.tp [.nm 1,.nm 2]) (.tup [.lst [],.lst [.var 0]]),.whl (.cm .ne (.var 2) (.lst [])) [.asg (.nm 3) (.mu .pop 2 [] []),.ite (.bnot (.isa [20] [.tuple] (.var 3))) [.ret (.lit (.bl false))] [],.for (.nm 4) (.of (.var 3)) [.ite (.bor [.bnot (.isa [20] [.tuple] (.var 4)),.cm .ne (.fn .len [.var 4]) (.lit (.int 2)),.bnot (.call 2 [.idx (.var 4) (.lit (.int 0))])]) [.ret (.lit (.bl false))] [],.exp (.mu .append 1 [] [.idx (.var 4) (.lit (.int 0))]),.ite (.cm .gt (.fn .len [.var 1]) (.glo "MOST_NAMES" (.int 12))) [.ret (.lit (.bl false))] [],.exp (.mu .append 2 [] [.idx (.var 4) (.lit (.int 1))])]],.ret (.cm .eq (.fn .lenset [.var 1]) (.fn .len [.var 1]))]
noncomputable def fq:List O→bC:=gJ (fz [(2,aS)]) i9 1 5 [0]
def ku:List SS:=[.asg (.nm 1) (.lst []),.for (.tp [.nm 2,.nm 3]) (.of (.var 0)) [.exp (.mu .append 1 [] [.tup [.var 2,.lit (.int 0)]]),.exp (.mu .extend 1 [] [.call 4 [.var 3]]),.exp (.mu .append 1 [] [.tup [.var 2,.lit (.int 1)]])],.ret (.mv 1)]
noncomputable def gM:Nat→List O→bC
 | 0=>fun _=>.bad
 | n+1=>gJ (fz [(4,gM n)]) ku 1 4 [0]
noncomputable def iQ:List O→bC:=gM 40
def fb:List SS:=[.ite (.bnot (.call 3 [.var 1])) [.rse 1 [.lit (.str "not the shape of a tree")]] [],.fld 0 20 "own_shape" (.var 1),.fld 0 20 "own_walk" (.fn .tuple [.call 4 [.var 1]]),.fld 0 20 "own_names" (.fn .tuple [.comp .lst (.var 3) [3,4] (.tp [.nm 3,.nm 4]) (.of (.fld 20 (.var 0) "own_walk")) [.cm .eq (.var 4) (.lit (.int 0))]]),.asg (.tp [.fl 0 20 "above",.nm 2]) (.tup [.dct [],.lst []]),.for (.tp [.nm 3,.nm 4]) (.of (.fld 20 (.var 0) "own_walk")) [.ite (.cm .eq (.var 4) (.lit (.int 0))) [.sub 0 [.var 3,.lit (.exc 20 [.str "above",.non])] (.ite (.cm .ne (.var 2) (.lst [])) (.idx (.var 2) (.un .neg (.lit (.int 1)))) (.lit .non)),.exp (.mu .append 2 [] [.var 3])] [.exp (.mu .pop 2 [] [])]]]
noncomputable def aH:List O→bC:=gJ (fz [(3,fq),(4,iQ)]) fb 2 5 [0,1]
def kS:List SS:=[.ret (.fld 20 (.var 0) "own_names")]
noncomputable def iL:List O→bC:=gJ (fz []) kS 1 1 [0]
end PL
namespace PM
open PySem PySem.Spec PyProof.Rows L2 PV PL
def jC:List SS:=[.ite (.bor [.bnot (.isa [20] [.str] (.var 0)),.bnot (.cm2 .le .le (.lit (.int 1)) (.fn .len [.var 0]) (.lit (.int 8)))]) [.ret (.lit (.bl false))] [],.ret (.cm .eq (.comp .lst (.var 1) [1] (.nm 1) (.of (.var 0)) [.cm .notin (.var 1) (.lit (.str "abcdefghijklmnopqrstuvwxyz"))]) (.lst []))]
noncomputable def dj:List O→bC:=gJ (fz []) jC 1 2 [0]
end PM
namespace K09
open PySem PySem.Spec PyProof.Rows L2 PV PL PM PN K61
noncomputable section
def gN:List SS:=[.ite (.bor [.bnot (.isa [20] [.list,.tuple] (.var 1)),.cm .gt (.fn .len [.var 1]) (.glo "MOST_TREES" (.int 16))]) [.rse 4 [.lit (.str "not a list of at most sixteen trees")]] [],.ite (.bnot (.fn .all [.comp .lst (.isa [20] [.cls 20] (.var 3)) [3] (.nm 3) (.of (.var 1)) []])) [.rse 4 [.lit (.str "not a list of trees")]] [],.asg (.nm 2) (.ofn false AZ [.comp2 (.var 4) [3,4] (.nm 3) (.of (.var 1)) [] (.nm 4) (.of (.prop 20 "names" 9 (.var 3))) []]),.ite (.cm .gt (.fn .len [.var 2]) (.glo "MOST_IN_ALL" (.int 20))) [.rse 4 [.lit (.str "more than twenty names")]] [],.fld 0 21 "own_trees" (.fn .tuple [.var 1]),.fld 0 21 "all_names" (.fn .tuple [.var 2]),.fld 0 21 "all_ends" (.fn .tuple [.comp2 (.tup [.var 4,.var 5]) [4,5] (.nm 4) (.of (.var 2)) [] (.nm 5) (.of (.tup [.lit (.int 0),.lit (.int 1)])) []])]
noncomputable def cq:List O→bC:=gJ (fz [(9,iL)]) gN 2 6 [0,1]
end
end K09
namespace K72
open PySem PySem.Spec PyProof.Rows L2 PV PL PM PN K61 K09
noncomputable section
def mH:List SS:=[.asg (.nm 2) (.var 1),.whl (.band [.cm .lt (.var 2) (.fn .len [.var 0]),.cm .notin (.idx (.var 0) (.var 2)) (.glo "MARKS" (.str "(),"))]) [.osl (kQ (fz []) (fun i j=>i+j) 2 (.lit (.int 1)))],.ret (.slc (.var 0) (.var 1) (.var 2))]
noncomputable def bJ:List O→bC:=gJ (fz []) mH 2 3 [0,1]
def kT:List SS:=[.asg (.tp [.nm 1,.nm 2,.nm 3]) (.tup [.lst [.lst []],.lst [],.lit (.int 0)]),.whl (.lit (.bl true)) [.asg (.nm 4) (.call 475 [.var 0,.var 3]),.osl (kQ (fz [(2,aS),(475,bJ)]) (fun i j=>i+j) 3 (.fn .len [.var 4])),.asg (.nm 5) (.slc (.var 0) (.var 3) (.bi .add (.var 3) (.lit (.int 1)))),.ite (.bnot (.call 2 [.var 4])) [.ret (.lit .non)] [],.ite (.cm .eq (.var 5) (.lit (.str "("))) [.exp (.mu .append 2 [] [.var 4]),.exp (.mu .append 1 [] [.lst []])] [.exp (.mu .append 1 [.un .neg (.lit (.int 1))] [.tup [.var 4,.tup []]])],.whl (.cm .eq (.var 5) (.lit (.str ")"))) [.ite (.cm .eq (.var 2) (.lst [])) [.ret (.lit .non)] [],.asg (.nm 6) (.fn .tuple [.mu .pop 1 [] []]),.exp (.mu .append 1 [.un .neg (.lit (.int 1))] [.tup [.mu .pop 2 [] [],.var 6]]),.osl (kQ (fz [(2,aS),(475,bJ)]) (fun i j=>i+j) 3 (.lit (.int 1))),.asg (.nm 5) (.slc (.var 0) (.var 3) (.bi .add (.var 3) (.lit (.int 1)))),.ite (.cm .notin (.var 5) (.tup [.lit (.str ")"),.lit (.str ","),.lit (.str "")])) [.ret (.lit .non)] []],.ite (.cm .eq (.var 5) (.lit (.str ""))) [.ret (.ite (.cm .eq (.var 2) (.lst [])) (.fn .tuple [.idx (.var 1) (.lit (.int 0))]) (.lit .non))] [],.osl (kQ (fz [(2,aS),(475,bJ)]) (fun i j=>i+j) 3 (.lit (.int 1)))]]
noncomputable def gQ:List O→bC:=gJ (fz [(2,aS),(475,bJ)]) kT 1 7 [0]
def dE:List SS:=[.ite (.cm .eq (.var 0) (.lit (.str "-"))) [.ret (.tup [])] [],.ret (.ite (.cm .le (.fn .len [.var 0]) (.glo "MOST_SIGNS" (.int 400))) (.call 476 [.var 0]) (.lit .non))]
noncomputable def aC:List O→bC:=gJ (fz [(476,gQ)]) dE 1 1 [0]
def jD:List SS:=[.asg (.nm 1) (.ite (.isa [20] [.str] (.var 0)) (.call 477 [.var 0]) (.lit .non)),.ite (.cm .is (.var 1) (.lit .non)) [.rse 14 [.lit (.int 0)]] [],.ret (.make 20 5 ([.var 1]++[]) (.inl 0::[.inl 1]))]
noncomputable def eA:List O→bC:=gJ (fz [(5,aH),(477,aC)]) jD 1 2 [0]
def kU:List SS:=[.ite (.bnot (.isa [20] [.str] (.var 0))) [.rse 14 [.lit (.int 0)]] [],.asg (.nm 1) (.mt .split (.var 0) [.lit (.str "\n")]),.ite (.cm .eq (.idx (.var 1) (.un .neg (.lit (.int 1)))) (.lit (.str ""))) [.exp (.mu .pop 1 [] []),.ret (.tup [.var 1,.lit (.bl true)])] [],.ret (.tup [.var 1,.lit (.bl false)])]
noncomputable def ft:List O→bC:=gJ (fz []) kU 1 2 [0]
def fZ:List SS:=[.asg (.tp [.nm 1,.nm 2]) (.call 482 [.var 0]),.asg (.nm 3) (.comp .lst (.call 477 [.var 6]) [6] (.nm 6) (.of (.var 1)) []),.for (.tp [.nm 4,.nm 5]) (.enum (.var 3)) [.ite (.cm .is (.var 5) (.lit .non)) [.rse 14 [.var 4]] []],.ite (.bnot (.var 2)) [.rse 14 [.bi .sub (.fn .len [.var 1]) (.lit (.int 1))]] [],.ret (.make 21 259 ([.comp .set (.make 20 5 ([.var 5]++[]) (.inl 0::[.inl 1])) [5] (.nm 5) (.of (.var 3)) []]++[]) (.inl 0::[.inl 1]))]
noncomputable def cz:List O→bC:=gJ (fz [(5,aH),(259,cq),(477,aC),(482,ft)]) fZ 1 7 [0]
def nV:List SS:=[.asg (.nm 1) (.bi .add (.call 23 [.var 0,.lst [.lit (.int 380),.lit (.int 395),.lit (.int 399),.lit (.int 400),.lit (.int 401),.lit (.int 402),.lit (.int 410),.lit (.int 1500),.lit (.int 4000)]]) (.call 22 [.var 0,.lit (.int 3)])),.asg (.tp [.nm 2,.nm 3,.nm 4]) (.tup [.bi .add (.lit (.int 1)) (.call 22 [.var 0,.lit (.int 8)]),.call 22 [.var 0,.lit (.int 3)],.lit (.str "")]),.ite (.cm .eq (.var 3) (.lit (.int 0))) [.asg (.nm 5) (.bi .fdiv (.var 1) (.bi .add (.var 2) (.lit (.int 1)))),.asg (.nm 4) (.mt .join (.lit (.str ",")) [.ofn true sH [.lst [.slc (.lit (.str "abcdefgh")) (.lit .non) (.var 2)],.var 5]]),.ret (.bi .add (.var 4) (.ofn true c0 [.lit (.str ",a"),.bi .fdiv (.bi .sub (.var 1) (.fn .len [.var 4])) (.lit (.int 2))]))] [],.ite (.cm .eq (.var 3) (.lit (.int 1))) [.asg (.nm 5) (.bi .fdiv (.var 1) (.bi .add (.var 2) (.lit (.int 2)))),.ret (.bi .add (.bi .add (.ofn true c0 [.bi .add (.slc (.lit (.str "abcdefgh")) (.lit .non) (.var 2)) (.lit (.str "(")),.bi .sub (.var 5) (.lit (.int 1))]) (.lit (.str "b"))) (.ofn true c0 [.lit (.str ")"),.bi .sub (.var 5) (.lit (.int 1))]))] [],.asg (.nm 5) (.bi .fdiv (.var 1) (.bi .add (.bi .mul (.lit (.int 2)) (.var 2)) (.lit (.int 5)))),.asg (.nm 4) (.mt .join (.lit (.str ",")) [.ofn true sH [.lst [.bi .add (.bi .add (.bi .add (.slc (.lit (.str "abcdefgh")) (.lit .non) (.var 2)) (.lit (.str "("))) (.ofn true c0 [.lit (.str "c"),.var 2])) (.lit (.str ",d)"))],.var 5]]),.ret (.bi .add (.var 4) (.ofn true c0 [.lit (.str ",b"),.bi .fdiv (.bi .sub (.var 1) (.fn .len [.var 4])) (.lit (.int 2))]))]
noncomputable def iu:List O→bC:=gJ (fz [(22,bH),(23,dc)]) nV 1 6 [0]
def dR:List SS:=[.ite (.cm .eq (.var 0) (.lit (.str "-"))) [.ret (.lst [])] [],.asg (.tp [.nm 1,.nm 2,.nm 3,.nm 4]) (.tup [.lst [.lit (.str "")],.lit (.int 0),.lst [],.lit (.str ",")]),.for (.nm 5) (.of (.var 0)) [.ite (.cm .isin (.var 5) (.lit (.str "(),"))) [.asg (.nm 1) (.bi .add (.var 1) (.lst [.var 5,.lit (.str "")]))] [.sub 1 [.un .neg (.lit (.int 1))] (.bi .add (.idx (.var 1) (.un .neg (.lit (.int 1)))) (.var 5))]],.for (.nm 6) (.gen oW (.fn .len [.var 1])) [.asg (.tp [.nm 7,.nm 8]) (.tup [.idx (.var 1) (.var 6),.idx (.bi .add (.var 1) (.lst [.lit (.str ""),.lit (.str "")])) (.bi .add (.var 6) (.lit (.int 1)))]),.ite (.bor [.band [.cm .eq (.var 4) (.lit (.str ")")),.bor [.cm .ne (.var 7) (.lit (.str "")),.cm .eq (.var 8) (.lit (.str "("))]],.band [.cm .ne (.var 4) (.lit (.str ")")),.bnot (.call 201 [.var 7])]]) [.ret (.lit .non)] [],.ite (.cm .ne (.var 4) (.lit (.str ")"))) [.exp (.mu .append 3 [] [.var 7])] [],.asg (.nm 2) (.bi .sub (.bi .add (.var 2) (.fn .int [.cm .eq (.var 8) (.lit (.str "("))])) (.fn .int [.cm .eq (.var 8) (.lit (.str ")"))])),.ite (.cm .lt (.var 2) (.lit (.int 0))) [.ret (.lit .non)] [],.asg (.nm 4) (.var 8)],.ret (.ite (.band [.cm .eq (.var 2) (.lit (.int 0)),.cm .le (.fn .len [.var 0]) (.lit (.int 400))]) (.var 3) (.lit .non))]
noncomputable def bg:List O→bC:=gJ (fz [(201,dj)]) dR 1 9 [0]
def nW:List SS:=[.asg (.nm 2) (.lit .non),.try [0,1,4,5,14] [.asg (.nm 2) (.ite (.cm .eq (.var 1) (.lit (.int 0))) (.call 478 [.var 0]) (.call 483 [.var 0]))] 3 2,.ret (.mv 2)]
noncomputable def eB:List O→bC:=gJ (fz [(478,eA),(483,cz)]) nW 2 4 [0,1]
def Ba:List SS:=[.for (.nm 1) (.range [.fn .max2 [.lit (.int 1),.fn .min2 [.lit (.int 6),.fn .len [.var 0]]]]) [.asg (.nm 2) (.call 20 [.bi .add (.slc (.var 0) (.var 1) (.lit .non)) (.slc (.var 0) (.lit .non) (.var 1))]),.asg (.nm 3) (.call 434 [.var 2]),.ite (.cm .eq (.call 22 [.var 2,.lit (.int 3)]) (.lit (.int 0))) [.asg (.nm 4) (.call 22 [.var 2,.fn .len [.var 3]]),.asg (.nm 3) (.bi .add (.bi .add (.slc (.var 3) (.lit .non) (.var 4)) (.call 23 [.var 2,.lst [.lit (.str "("),.lit (.str ")"),.lit (.str ","),.lit (.str ""),.lit (.str "A"),.lit (.str " ")]])) (.slc (.var 3) (.bi .add (.var 4) (.lit (.int 1))) (.lit .non)))] [],.asg (.tp [.nm 5,.nm 6]) (.tup [.call 480 [.var 3],.call 481 [.var 3,.lit (.int 0)]]),.ite (.band [.cm .is (.var 5) (.lit .non),.bor [.bnot (.isa [0,1,4,14,5] [.cls 14] (.var 6)),.cm .ne (.ofn true (zz 14 "line") [.var 6]) (.lit (.int 0))]]) [.ret (.lit (.bl false))] [],.ite (.band [.cm .isnot (.var 5) (.lit .non),.bnot (.isa [0,1,4,14,5] [.cls 1] (.var 6))]) [.ret (.lit (.bl false))] [],.asg (.nm 7) (.call 22 [.var 2,.lit (.int 5)]),.asg (.nm 6) (.call 481 [.bi .add (.bi .add (.bi .add (.ofn true c0 [.lit (.str "a(b)\n"),.var 7]) (.var 3)) (.lit (.str "\n"))) (.ofn true c0 [.lit (.str "-\n"),.call 22 [.var 2,.lit (.int 3)]]),.lit (.int 1)]),.ite (.band [.cm .is (.var 5) (.lit .non),.bor [.bnot (.isa [0,1,4,14,5] [.cls 14] (.var 6)),.cm .ne (.ofn true (zz 14 "line") [.var 6]) (.var 7)]]) [.ret (.lit (.bl false))] [],.ite (.band [.cm .isnot (.var 5) (.lit .non),.bnot (.isa [0,1,4,14,5] [.cls 1] (.var 6))]) [.ret (.lit (.bl false))] []],.ret (.lit (.bl true))]
noncomputable def yx:List O→bC:=gJ (fz [(20,gL),(22,bH),(23,dc),(434,iu),(480,bg),(481,eB)]) Ba 1 8 [0]
end
end K72
namespace K72
open PySem PySem.Spec PyProof.Rows L2 PV PL PM PN K61 K09
variable {P:Program}{w:World}{K:PySem.W.Frag}{mg:Str→Option Value}{base:Heap}{cls:Nat→Addr}{tbs:List (Addr×Str)}{dvs:List V}{kws:List (Str×V)}{f:Addr}{fd:FuncData}
theorem rm:FnScope ["value", "sign"] ["value"] (defScope dX):=sA
theorem zc (F:FunD K "is_name" "is_name" (defArgs dX) (defBody dX) (defScope dX) dvs kws f fd) (de:p8 K ⟨K,cls,tbs⟩ [20]) (kW:mg "str" = none) (aA:mg "isinstance" = none) (aR:mg "len" = none) (oZ:∃ t,mg "MOST_LETTERS" = some (.int 8 t)) (wj:∃ t,mg "LETTERS" = some (.str "abcdefghijklmnopqrstuvwxyz" t)) (uX:mg "all" = none):FnOk P w K mg base (L2.CX P w) 1 f fd ["value"] (bD ⟨K,cls,tbs⟩ aS) :=
 eZ F rm fun cdv A outer s H E B pr hr=>by
  have hu:=bV hr
  have hu1:=bo hr
  have nd:=rm.nd
  exact(aa (b6 (lY (nQ (dI (vj rfl (ax (l5 (t:=.str) rfl de rfl rfl aA (vA 0) (pe_bltn rfl kW (by decide +kernel) rfl) rfl rfl rfl) rfl) rfl rfl)) (lW (dI (Ab rfl (by exact hu) (k:=.le) (j:=.le) (ax cInt rfl) (ax (d8 (k:=.len) rfl rfl rfl rfl rfl aR (aV 0 aD) rfl rfl) rfl) (ax (qZ rfl oZ rfl) rfl) (by with_unfolding_all rfl)))))) (aa (aQ cB) aj) aj) (aa (aQ (d8 (k:=.all) rfl rfl rfl rfl rfl uX (bT (ax (qi pr rfl nd (own:=[("sign",1)]) (se:=.cm .isin (.var 1) (.glo "LETTERS" (.str "abcdefghijklmnopqrstuvwxyz"))) (t:=.nm 1) (ie:=.of (.var 0)) (sifs:=[]) (by decide) rfl (by decide) (l0 rfl (vA 0)) (blkOk_by (N:=["value", "sign"]) (sc:=defScope dX) (by decide +kernel)) (fun s H C cl fp=>(zA 1 nd (pr.ne rfl))) (fun s H C cl fp=>qT) (fun s H C cl fp=>(z9 rfl (by exact hu) (k:=.isin) (vA 1) (ax (AJ rfl wj rfl) rfl) rfl)) (fun _=>rfl)) rfl) aD rfl) rfl rfl)) aj))
theorem pN:FnScope ["value", "found", "pending", "level", "node"] ["value"] (defScope dY):=sA
theorem xo (F:FunD K "is_shape" "is_shape" (defArgs dY) (defBody dY) (defScope dY) dvs kws f fd) (de:p8 K ⟨K,cls,tbs⟩ [20]) (cu:mg "tuple" = none) (aA:mg "isinstance" = none) (aR:mg "len" = none) (l7:Callee P w K mg base ⟨K,cls,tbs⟩ "is_name" ["value"] 1 aS) (rn:∃ t,mg "MOST_NAMES" = some (.int 12 t)) (uY:mg "set" = none):FnOk P w K mg base (L2.CX P w) 2 f fd ["value"] (bD ⟨K,cls,tbs⟩ fq) :=
 eZ F pN fun cdv A outer s H E B pr hr=>by
  have hu:=bV hr
  have hu1:=bo hr
  have nd:=pN.nd
  exact(aa (uJ (i:=1) (j:=2) rfl nd rfl rfl (by decide) rfl rfl (pr.ne rfl) (pr.ne rfl) (aJ (dP hZ bt) (aJ (dP hZ (aJ (vE 0) bt rfl)) bt rfl) rfl) rfl rfl) (aa (uI (passes_of rfl) (bf rfl (by exact hu) (k:=.ne) (vA 2) (ax (dP hZ bt) rfl) rfl) (aa (aY (vM rfl PySem.F.slot_list_pop PySem.F.type_list_pop vK (d9 rfl (.inl rfl) rfl rfl) rfl rfl) (tO 3 nd (pr.ne rfl)) rfl rfl rfl) (aa (b6 (dI (vj rfl (ax (l5 (t:=.tuple) rfl de rfl rfl aA (vA 3) (pe_bltn rfl cu (by decide +kernel) rfl) rfl rfl rfl) rfl) rfl rfl)) (aa (aQ cB) aj) aj) (aa (iK pr (passes_of rfl) rfl (l0 rfl (vA 3)) (fun B pr=>(tG 4 nd (pr.ne rfl))) (fun B pr=>(aa (b6 (lY (nQ (dI (vj rfl (ax (l5 (t:=.tuple) rfl de rfl rfl aA (vA 4) (pe_bltn rfl cu (by decide +kernel) rfl) rfl rfl rfl) rfl) rfl rfl)) (nQ (bf rfl (by exact hu) (k:=.ne) (ax (d8 (k:=.len) rfl rfl rfl rfl rfl aR (aV 4 aD) rfl rfl) rfl) (ax cInt rfl) rfl) (lW (dI (vj rfl (ax (cC l7 (by exact hr) lM (bT (ax (iq rfl (by exact hu) (vA 4) (ax cInt rfl) (fun _ _=>rfl)) rfl) aD rfl)) rfl) rfl rfl)))))) (aa (aQ cB) aj) aj) (aa (gH (p6 rfl PySem.F.slot_list_append PySem.F.type_list_append eY (d9 rfl (.inl rfl) rfl rfl) (fun B e=>by have pr:=dD.eq pr e; exact(aJ (iq rfl (by exact hu) (vA 4) (ax cInt rfl) (fun _ _=>rfl)) bt rfl)) rfl rfl rfl rfl rfl) rfl) (aa (b6 (bf rfl (by exact hu) (k:=.gt) (ax (d8 (k:=.len) rfl rfl rfl rfl rfl aR (aV 1 aD) rfl rfl) rfl) (ax (qZ rfl rn rfl) rfl) rfl) (aa (aQ cB) aj) aj) (aa (gH (p6 rfl PySem.F.slot_list_append PySem.F.type_list_append eY (d9 rfl (.inl rfl) rfl rfl) (fun B e=>by have pr:=dD.eq pr e; exact(aJ (iq rfl (by exact hu) (vA 4) (ax cInt rfl) (fun _ _=>rfl)) bt rfl)) rfl rfl rfl rfl rfl) rfl) aj))))) (fun _=>rfl)) aj)))) (aa (aQ (z9 rfl (by exact hu) (k:=.eq) (ax (AF rfl rfl rfl aR rfl uY (vA 1) rfl rfl) rfl) (ax (d8 (k:=.len) rfl rfl rfl rfl rfl aR (aV 1 aD) rfl rfl) rfl) rfl)) aj)))
theorem rq:FnScope ["shape", "found", "name", "inner"] ["shape"] (defScope cJ):=sA
theorem rA {P:Program}{w:World}{K:PySem.W.Frag}{mg:Str→Option Value}{base:Heap}{cls:Nat→Addr}{tbs:List (Addr×Str)}{dvs:List V}{kws:List (Str×V)}{f:Addr}{fd:FuncData} (F:FunD K "walk_of" "walk_of" (defArgs cJ) (defBody cJ) (defScope cJ) dvs kws f fd) (gm:mg "walk_of" = some (.ref f)) (hb:Binds K fd ["shape"] []):∀ n,FnOk P w K mg base (L2.CX P w) (n+0) f fd ["shape"] (bD ⟨K,cls,tbs⟩ (gM n))
 | 0=>E9
 | n+1=>eZ F rq fun cdv A outer s H E B pr hr=>by
  have l8:Callee P w K mg base ⟨K,cls,tbs⟩ "walk_of" ["shape"] (n+0) (gM n):=⟨_,_,rA F gm hb  n,gm,F.kp,hb⟩
  have hu:=bV hr
  have hu1:=bo hr
  have nd:=rq.nd
  exact(aa (aY (dP hZ bt) (tO 1 nd (pr.ne rfl)) rfl rfl rfl) (aa (iK pr (passes_of rfl) rfl (l0 rfl (vA 0)) (fun B pr=>(x9 rfl rfl (fY (tG 2 nd (pr.ne rfl)) (fY (tG 3 nd (pr.ne rfl)) oN rfl) rfl) rfl rfl)) (fun B pr=>(aa (gH (p6 rfl PySem.F.slot_list_append PySem.F.type_list_append eY (d9 rfl (.inl rfl) rfl rfl) (fun B e=>by have pr:=dD.eq pr e; exact(aJ (ko hZ (aJ (vE 2) (aJ cInt bt rfl) rfl)) bt rfl)) rfl rfl rfl rfl rfl) rfl) (aa (gH (p6 rfl PySem.F.slot_list_extend PySem.F.type_list_extend (Ag rfl) (d9 rfl (.inl rfl) rfl rfl) (fun B e=>by have pr:=dD.eq pr e; exact(aJ (cC l8 (by exact hr) lM (aV 3 aD)) bt rfl)) rfl rfl rfl rfl rfl) rfl) (aa (gH (p6 rfl PySem.F.slot_list_append PySem.F.type_list_append eY (d9 rfl (.inl rfl) rfl rfl) (fun B e=>by have pr:=dD.eq pr e; exact(aJ (ko hZ (aJ (vE 2) (aJ cInt bt rfl) rfl)) bt rfl)) rfl rfl rfl rfl rfl) rfl) aj)))) (fun _=>rfl)) (aa (aQ (z7 (i:=1) rfl (.inl rfl) rfl rfl)) aj)))
theorem zd (F:FunD K "walk_of" "walk_of" (defArgs cJ) (defBody cJ) (defScope cJ) dvs kws f fd) (gm:mg "walk_of" = some (.ref f)) (hb:Binds K fd ["shape"] []):FnOk P w K mg base (L2.CX P w) 40 f fd ["shape"] (bD ⟨K,cls,tbs⟩ iQ):=rA F gm hb  40
theorem l9:FnScope ["self", "shape", "opened", "name", "side"] ["self", "shape"] (defScope bX):=sA
theorem sJ (F:FunD K "__init__" "Tree.__init__" (defArgs bX) (defBody bX) (defScope bX) dvs kws f fd) (uZ:Callee P w K mg base ⟨K,cls,tbs⟩ "is_shape" ["value"] 2 fq) (sL:CN K mg "BadTree" (cls 1)) (nh:Cls K (cls 20)∧NoAttr K (cls 20) "own_shape") (f6:Cls K (cls 20)∧NoAttr K (cls 20) "own_walk") (l8:Callee P w K mg base ⟨K,cls,tbs⟩ "walk_of" ["shape"] 40 iQ) (cu:mg "tuple" = none) (fu:Cls K (cls 20)∧NoAttr K (cls 20) "own_names") (md:Cls K (cls 20)∧NoAttr K (cls 20) "above"):FnOk P w K mg base (L2.CX P w) 41 f fd ["self", "shape"] (bD ⟨K,cls,tbs⟩ aH) :=
 eZ F l9 fun cdv A outer s H E B pr hr=>by
  have hu:=bV hr
  have hu1:=bo hr
  have nd:=l9.nd
  exact(aa (b6 (dI (vj rfl (ax (cC uZ (by exact hr) lM (aV 1 aD)) rfl) rfl rfl)) (aa (uU rfl rfl lM sL rfl hZ (aJ cS bt rfl) rfl rfl rfl) aj) aj) (aa (oP (i:=0) nh rfl (vE 1) rfl (.inl rfl) rfl rfl rfl) (aa (oP (i:=0) f6 rfl (d8 (k:=.tuple) rfl rfl rfl rfl rfl cu (bT (ax (cC l8 (by exact hr) lM (aV 1 aD)) rfl) aD rfl) rfl rfl) rfl (.inl rfl) rfl rfl rfl) (aa (oP (i:=0) fu rfl (d8 (k:=.tuple) rfl rfl rfl rfl rfl cu (bT (ax (qi pr rfl nd (own:=[("name",3),("side",4)]) (se:=.var 3) (t:=.tp [.nm 3,.nm 4]) (ie:=.of (.fld 20 (.var 0) "own_walk")) (sifs:=[.cm .eq (.var 4) (.lit (.int 0))]) (by decide) rfl (by decide) (l0 rfl (ax (AD f6 rfl (vA 0)) rfl)) (blkOk_by (N:=["self", "shape", "opened", "name", "side"]) (sc:=defScope bX) (by decide +kernel)) (fun s H C cl fp=>(x9 rfl rfl (fY (zA 3 nd (pr.ne rfl)) (fY (zA 4 nd (pr.ne rfl)) oN rfl) rfl) rfl rfl)) (fun s H C cl fp=>(Ap (bf rfl (by exact hu) (k:=.eq) (vA 4) (ax cInt rfl) rfl))) (fun s H C cl fp=>(vE 3)) (fun _=>rfl)) rfl) aD rfl) rfl rfl) rfl (.inl rfl) rfl rfl rfl) (aa (aY (ko hZ (aJ EV (aJ (dP hZ bt) bt rfl) rfl)) (Fb rfl rfl (l4 (GG (i:=0) md rfl (.inl rfl) rfl rfl (fun _=>rfl)) (l4 (tO 2 nd (pr.ne rfl)) xf rfl) rfl) rfl rfl (fun _ _=>E8)) rfl rfl rfl) (aa (iK pr (passes_of rfl) rfl (l0 rfl (ax (AD f6 rfl (vA 0)) rfl)) (fun B pr=>(x9 rfl rfl (fY (tG 3 nd (pr.ne rfl)) (fY (tG 4 nd (pr.ne rfl)) oN rfl) rfl) rfl rfl)) (fun B pr=>(aa (b6 (bf rfl (by exact hu) (k:=.eq) (vA 4) (ax cInt rfl) rfl) (aa (qQ rfl (by exact hu1) (qJ (bf rfl (by exact hu) (k:=.ne) (vA 2) (ax (dP hZ bt) rfl) rfl) (iq rfl (by exact hu) (vA 2) (ax (tK (ax cInt rfl)) rfl) (fun _ _=>rfl)) cN) (GA md rfl (d9 rfl (.inl rfl) rfl rfl)) (fun B e=>by have pr:=dD.eq pr e; exact(vE 3)) rfl rfl rfl (fun _=>rfl)) (aa (gH (p6 rfl PySem.F.slot_list_append PySem.F.type_list_append eY (d9 rfl (.inl rfl) rfl rfl) (fun B e=>by have pr:=dD.eq pr e; exact(aJ (vE 3) bt rfl)) rfl rfl rfl rfl rfl) rfl) aj)) (aa (gH (vM rfl PySem.F.slot_list_pop PySem.F.type_list_pop vK (d9 rfl (.inl rfl) rfl rfl) rfl rfl) rfl) aj)) aj)) (fun _=>rfl)) aj))))))
theorem mQ:FnScope ["self"] ["self"] (defScope cK):=sA
theorem u3 (F:FunD K "names" "Tree.names" (defArgs cK) (defBody cK) (defScope cK) dvs kws f fd) (fu:Cls K (cls 20)∧NoAttr K (cls 20) "own_names"):FnOk P w K mg base (L2.CX P w) 1 f fd ["self"] (bD ⟨K,cls,tbs⟩ iL) :=
 eZ F mQ fun cdv A outer s H E B pr hr=>by
  have hu:=bV hr
  have hu1:=bo hr
  have nd:=mQ.nd
  exact(aa (aQ (AD fu rfl (vA 0))) aj)
theorem jE:FnScope ["self", "trees", "found", "tree", "name", "side"] ["self", "trees"] (defScope aP):=sA
theorem o5 (F:FunD K "__init__" "History.__init__" (defArgs aP) (defBody aP) (defScope aP) dvs kws f fd) (de:p8 K ⟨K,cls,tbs⟩ [20]) (rB:mg "list" = none) (cu:mg "tuple" = none) (aA:mg "isinstance" = none) (aR:mg "len" = none) (rC:∃ t,mg "MOST_TREES" = some (.int 16 t)) (gR:CN K mg "BadHistory" (cls 4)) (Bb:mg "Tree" = some (.ref (cls 20))) (uX:mg "all" = none) (rD:DP P w K mg base ⟨K,cls,tbs⟩ 20 "names" ["self"] 1 iL) (xp:mg "sorted" = none) (uY:mg "set" = none) (p9:∃ t,mg "MOST_IN_ALL" = some (.int 20 t)) (lI:Cls K (cls 21)∧NoAttr K (cls 21) "own_trees") (lJ:Cls K (cls 21)∧NoAttr K (cls 21) "all_names") (mf:Cls K (cls 21)∧NoAttr K (cls 21) "all_ends"):FnOk P w K mg base (L2.CX P w) 3 f fd ["self", "trees"] (bD ⟨K,cls,tbs⟩ cq) :=
 eZ F jE fun cdv A outer s H E B pr hr=>by
  have hu:=bV hr
  have hu1:=bo hr
  have nd:=jE.nd
  exact(aa (b6 (lY (nQ (dI (vj rfl (ax (ET (ts:=[.list,.tuple]) rfl de rfl (by decide) rfl aA (vA 1) (pa_cons (pe_bltn rfl rB (by decide +kernel) rfl) (pa_cons (pe_bltn rfl cu (by decide +kernel) rfl) pa_nil rfl) rfl) rfl rfl rfl) rfl) rfl rfl)) (lW (bf rfl (by exact hu) (k:=.gt) (ax (d8 (k:=.len) rfl rfl rfl rfl rfl aR (aV 1 aD) rfl rfl) rfl) (ax (qZ rfl rC rfl) rfl) rfl)))) (aa (uU rfl rfl lM gR rfl hZ (aJ cS bt rfl) rfl rfl rfl) aj) aj) (aa (b6 (dI (vj rfl (ax (d8 (k:=.all) rfl rfl rfl rfl rfl uX (bT (ax (qi pr rfl nd (own:=[("tree",3)]) (se:=.isa [20] [.cls 20] (.var 3)) (t:=.nm 3) (ie:=.of (.var 1)) (sifs:=[]) (by decide) rfl (by decide) (l0 rfl (vA 1)) (blkOk_by (N:=["self", "trees", "found", "tree", "name", "side"]) (sc:=defScope aP) (by decide +kernel)) (fun s H C cl fp=>(zA 3 nd (pr.ne rfl))) (fun s H C cl fp=>qT) (fun s H C cl fp=>(l5 (t:=.cls 20) rfl de rfl rfl aA (vA 3) (pe_glob rfl Bb rfl) rfl rfl rfl)) (fun _=>rfl)) rfl) aD rfl) rfl rfl) rfl) rfl rfl)) (aa (uU rfl rfl lM gR rfl hZ (aJ cS bt rfl) rfl rfl rfl) aj) aj) (aa (aY (CU rfl rfl (by exact G6 hu) rfl xp rfl uY (ax (wc pr rfl nd (own:=[("tree",3),("name",4)]) (se:=.var 4) (t:=.nm 3) (ie:=.of (.var 1)) (sifs:=[]) (t2:=.nm 4) (ie2:=.of (.prop 20 "names" 9 (.var 3))) (sifs2:=[]) (by decide) rfl (by decide) (by decide) (l0 rfl (vA 1)) (blkOk_by (N:=["self", "trees", "found", "tree", "name", "side"]) (sc:=defScope aP) (by decide +kernel)) (fun s H C cl fp=>(zA 3 nd (pr.ne rfl))) (fun s H C cl fp=>qT) (fun s H C cl fp=>(l0 rfl (ax (CF rD rfl (by exact hr) (by first | exact Nat.le_refl _ | omega) (vA 3) rfl) rfl))) (fun s H C cl fp=>(zA 4 nd (pr.ne rfl))) (fun s H C cl fp=>qT) (fun s H C cl fp=>(vE 4)) (fun _=>rfl) (fun _ _=>rfl)) rfl) rfl rfl) (tO 2 nd (pr.ne rfl)) rfl rfl rfl) (aa (b6 (bf rfl (by exact hu) (k:=.gt) (ax (d8 (k:=.len) rfl rfl rfl rfl rfl aR (aV 2 aD) rfl rfl) rfl) (ax (qZ rfl p9 rfl) rfl) rfl) (aa (uU rfl rfl lM gR rfl hZ (aJ cS bt rfl) rfl rfl rfl) aj) aj) (aa (oP (i:=0) lI rfl (d8 (k:=.tuple) rfl rfl rfl rfl rfl cu (aV 1 aD) rfl rfl) rfl (.inl rfl) rfl rfl rfl) (aa (oP (i:=0) lJ rfl (d8 (k:=.tuple) rfl rfl rfl rfl rfl cu (aV 2 aD) rfl rfl) rfl (.inl rfl) rfl rfl rfl) (aa (oP (i:=0) mf rfl (d8 (k:=.tuple) rfl rfl rfl rfl rfl cu (bT (ax (wc pr rfl nd (own:=[("name",4),("side",5)]) (se:=.tup [.var 4,.var 5]) (t:=.nm 4) (ie:=.of (.var 2)) (sifs:=[]) (t2:=.nm 5) (ie2:=.of (.tup [.lit (.int 0),.lit (.int 1)])) (sifs2:=[]) (by decide) rfl (by decide) (by decide) (l0 rfl (vA 2)) (blkOk_by (N:=["self", "trees", "found", "tree", "name", "side"]) (sc:=defScope aP) (by decide +kernel)) (fun s H C cl fp=>(zA 4 nd (pr.ne rfl))) (fun s H C cl fp=>qT) (fun s H C cl fp=>(l0 rfl (ax (ko hZ (aJ cInt (aJ cInt bt rfl) rfl)) rfl))) (fun s H C cl fp=>(zA 5 nd (pr.ne rfl))) (fun s H C cl fp=>qT) (fun s H C cl fp=>(ko hZ (aJ (vE 4) (aJ (vE 5) bt rfl) rfl))) (fun _=>rfl) (fun _ _=>rfl)) rfl) aD rfl) rfl rfl) rfl (.inl rfl) rfl rfl rfl) aj)))))))
theorem nX:FnScope ["self", "line"] ["self", "line"] (defScope bF):=sA
theorem o6 {P:Program}{w:World}{K:PySem.W.Frag}{mg:Str→Option Value}{base:Heap}{cls:Nat→Addr}{dvs:List V}{kws:List (Str×V)}{f:Addr}{fd:FuncData} (F:FunD K "__init__" "BadText.__init__" (defArgs bF) (defBody bF) (defScope bF) dvs kws f fd) (h0:Kn K mg (cls 0)) (hC:OexC K (cls 14)∧PySem.W.findIn K (.ref (cls 14)) "line" = some none):FnOk P w K mg base (L2.CX P w) 1 f fd ["self", "line"] (yq (cls 14) "line") :=
 F.ok nX (fun vs H Q E ⟨a,v,e,_⟩=>by rw [e]; rfl) fun cdv A outer s H vs Q E hr h=>by
  obtain⟨a,v,rfl,ha,qq⟩:=h
  refine⟨_,pss_cons (ps_expr (y6 rfl h0.g h0.r h0.v (pa_cons (pe_var (i:=0) rfl (.inl rfl)) (pa_cons pe_str pa_nil)))) (pss_one (ps_ost (pe_var (i:=0) rfl (.inl rfl)) (pe_var (i:=1) rfl (.inl rfl)))),?_⟩
  exact⟨.ref a,rfl,a,_,[.str _],rfl,by simp,hC.1,ha,v,rfl,.ref a,rfl,a,_,rfl,hC.1,hC.2,.inl ⟨ha,qq⟩⟩
theorem rE:FnScope ["text", "at", "end"] ["text", "at"] (defScope fg):=sA
theorem ze (F:FunD K "word_at" "word_at" (defArgs fg) (defBody fg) (defScope fg) dvs kws f fd) (aR:mg "len" = none) (zf:∃ t,mg "MARKS" = some (.str "()," t)):FnOk P w K mg base (L2.CX P w) 1 f fd ["text", "at"] (bD ⟨K,cls,tbs⟩ bJ) :=
 eZ F rE fun cdv A outer s H E B pr hr=>by
  have hu:=bV hr
  have hu1:=bo hr
  have nd:=rE.nd
  exact(aa (aY (vE 1) (tO 2 nd (pr.ne rfl)) rfl rfl rfl) (aa (uI (passes_of rfl) (jz (lX (bf rfl (by exact hu) (k:=.lt) (vA 2) (ax (d8 (k:=.len) rfl rfl rfl rfl rfl aR (aV 0 aD) rfl rfl) rfl) rfl) (jw (bf rfl (by exact hu) (k:=.notin) (ax (iq rfl (by exact hu) (vA 0) (vA 2) (fun _ _=>rfl)) rfl) (ax (AJ rfl zf rfl) rfl) rfl)))) (aa (ql ip_add nd rfl (.inl rfl) (.inl rfl) (pr.ne rfl) cInt) aj)) (aa (aQ (mP rfl (vA 0) (gF rfl (vA 1)) (gF rfl (vA 2)))) aj)))
theorem pO:FnScope ["text", "levels", "opened", "at", "word", "sign", "inner"] ["text"] (defScope dZ):=sA
theorem xq (F:FunD K "shape_in" "shape_in" (defArgs dZ) (defBody dZ) (defScope dZ) dvs kws f fd) (wm:Callee P w K mg base ⟨K,cls,tbs⟩ "word_at" ["text", "at"] 1 bJ) (aR:mg "len" = none) (l7:Callee P w K mg base ⟨K,cls,tbs⟩ "is_name" ["value"] 1 aS) (cu:mg "tuple" = none):FnOk P w K mg base (L2.CX P w) 2 f fd ["text"] (bD ⟨K,cls,tbs⟩ gQ) :=
 eZ F pO fun cdv A outer s H E B pr hr=>by
  have hu:=bV hr
  have hu1:=bo hr
  have nd:=pO.nd
  exact(aa (yu (i:=1) (j:=2) (k:=3) rfl nd rfl rfl rfl (by decide) (by decide) (by decide) rfl rfl rfl (pr.ne rfl) (pr.ne rfl) (pr.ne rfl) (aJ (dP hZ (aJ (dP hZ bt) bt rfl)) (aJ (dP hZ bt) (aJ cInt bt rfl) rfl) rfl) rfl rfl) (aa (uI (passes_of rfl) (vj rfl (ax cB rfl) rfl rfl) (aa (aY (cC wm (by exact hr) lM (aV 0 (aV 3 aD))) (tO 4 nd (pr.ne rfl)) rfl rfl rfl) (aa (ql ip_add nd rfl (.inl rfl) (.inl rfl) (pr.ne rfl) (d8 (k:=.len) rfl rfl rfl rfl rfl aR (aV 4 aD) rfl rfl)) (aa (aY (mP rfl (vA 0) (gF rfl (vA 3)) (gF rfl (ax (bR rfl (k:=.add) (vA 3) (ax cInt rfl)) rfl))) (tO 5 nd (pr.ne rfl)) rfl rfl rfl) (aa (b6 (dI (vj rfl (ax (cC l7 (by exact hr) lM (aV 4 aD)) rfl) rfl rfl)) (aa (aQ cN) aj) aj) (aa (b6 (bf rfl (by exact hu) (k:=.eq) (vA 5) (ax cS rfl) rfl) (aa (gH (p6 rfl PySem.F.slot_list_append PySem.F.type_list_append eY (d9 rfl (.inl rfl) rfl rfl) (fun B e=>by have pr:=dD.eq pr e; exact(aJ (vE 4) bt rfl)) rfl rfl rfl rfl rfl) rfl) (aa (gH (p6 rfl PySem.F.slot_list_append PySem.F.type_list_append eY (d9 rfl (.inl rfl) rfl rfl) (fun B e=>by have pr:=dD.eq pr e; exact(aJ (dP hZ bt) bt rfl)) rfl rfl rfl rfl rfl) rfl) aj)) (aa (gH (p6 rfl PySem.F.slot_list_append PySem.F.type_list_append eY (xZ (by exact hu) (d9 rfl (.inl rfl) rfl rfl) (fun B e=>by have pr:=dD.eq pr e; exact(tK (ax cInt rfl))) (fun _ _=>rfl)) (fun B e=>by have pr:=dD.eq pr e; exact(aJ (ko hZ (aJ (vE 4) (aJ (ko hZ bt) bt rfl) rfl)) bt rfl)) rfl rfl rfl rfl rfl) rfl) aj)) (aa (uI (passes_of rfl) (bf rfl (by exact hu) (k:=.eq) (vA 5) (ax cS rfl) rfl) (aa (b6 (bf rfl (by exact hu) (k:=.eq) (vA 2) (ax (dP hZ bt) rfl) rfl) (aa (aQ cN) aj) aj) (aa (aY (d8 (k:=.tuple) rfl rfl rfl rfl rfl cu (bT (ax (vM rfl PySem.F.slot_list_pop PySem.F.type_list_pop vK (d9 rfl (.inl rfl) rfl rfl) rfl rfl) rfl) aD rfl) rfl rfl) (tO 6 nd (pr.ne rfl)) rfl rfl rfl) (aa (gH (p6 rfl PySem.F.slot_list_append PySem.F.type_list_append eY (xZ (by exact hu) (d9 rfl (.inl rfl) rfl rfl) (fun B e=>by have pr:=dD.eq pr e; exact(tK (ax cInt rfl))) (fun _ _=>rfl)) (fun B e=>by have pr:=dD.eq pr e; exact(aJ (ko hZ (aJ (vM rfl PySem.F.slot_list_pop PySem.F.type_list_pop vK (d9 rfl (.inl rfl) rfl rfl) rfl rfl) (aJ (vE 6) bt rfl) rfl)) bt rfl)) rfl rfl rfl rfl rfl) rfl) (aa (ql ip_add nd rfl (.inl rfl) (.inl rfl) (pr.ne rfl) cInt) (aa (aY (mP rfl (vA 0) (gF rfl (vA 3)) (gF rfl (ax (bR rfl (k:=.add) (vA 3) (ax cInt rfl)) rfl))) (tO 5 nd (pr.ne rfl)) rfl rfl rfl) (aa (b6 (bf rfl (by exact hu) (k:=.notin) (vA 5) (ax (ko hZ (aJ cS (aJ cS (aJ cS bt rfl) rfl) rfl)) rfl) rfl) (aa (aQ cN) aj) aj) aj))))))) (aa (b6 (bf rfl (by exact hu) (k:=.eq) (vA 5) (ax cS rfl) rfl) (aa (aQ (qJ (bf rfl (by exact hu) (k:=.eq) (vA 2) (ax (dP hZ bt) rfl) rfl) (d8 (k:=.tuple) rfl rfl rfl rfl rfl cu (bT (ax (iq rfl (by exact hu) (vA 1) (ax cInt rfl) (fun _ _=>rfl)) rfl) aD rfl) rfl rfl) cN)) aj) aj) (aa (ql ip_add nd rfl (.inl rfl) (.inl rfl) (pr.ne rfl) cInt) aj))))))))) aj))
theorem kx:FnScope ["text"] ["text"] (defScope bQ):=sA
theorem qa (F:FunD K "shape_or_none" "shape_or_none" (defArgs bQ) (defBody bQ) (defScope bQ) dvs kws f fd) (aR:mg "len" = none) (rF:∃ t,mg "MOST_SIGNS" = some (.int 400 t)) (u4:Callee P w K mg base ⟨K,cls,tbs⟩ "shape_in" ["text"] 2 gQ):FnOk P w K mg base (L2.CX P w) 3 f fd ["text"] (bD ⟨K,cls,tbs⟩ aC) :=
 eZ F kx fun cdv A outer s H E B pr hr=>by
  have hu:=bV hr
  have hu1:=bo hr
  have nd:=kx.nd
  exact(aa (b6 (bf rfl (by exact hu) (k:=.eq) (vA 0) (ax cS rfl) rfl) (aa (aQ (ko hZ bt)) aj) aj) (aa (aQ (qJ (bf rfl (by exact hu) (k:=.le) (ax (d8 (k:=.len) rfl rfl rfl rfl rfl aR (aV 0 aD) rfl rfl) rfl) (ax (qZ rfl rF rfl) rfl) rfl) (cC u4 (by exact hr) lM (aV 0 aD)) cN)) aj))
theorem nY:FnScope ["text", "shape"] ["text"] (defScope dy):=sA
theorem wo (F:FunD K "read_tree" "read_tree" (defArgs dy) (defBody dy) (defScope dy) dvs kws f fd) (de:p8 K ⟨K,cls,tbs⟩ [20]) (kW:mg "str" = none) (aA:mg "isinstance" = none) (f7:Callee P w K mg base ⟨K,cls,tbs⟩ "shape_or_none" ["text"] 3 aC) (df:AS P w K mg base "BadText" (cls 14) "line") (sM:AI P w K mg base ⟨K,cls,tbs⟩ 20 "__init__" ["self", "shape"] 41 aH) (kX:yn P w K mg base ⟨K,cls,tbs⟩ 20 "Tree" 41 aH 1 [] [.inl 1]):FnOk P w K mg base (L2.CX P w) 43 f fd ["text"] (bD ⟨K,cls,tbs⟩ eA) :=
 eZ F nY fun cdv A outer s H E B pr hr=>by
  have hu:=bV hr
  have hu1:=bo hr
  have nd:=nY.nd
  exact(aa (aY (qJ (vj rfl (ax (l5 (t:=.str) rfl de rfl rfl aA (vA 0) (pe_bltn rfl kW (by decide +kernel) rfl) rfl rfl rfl) rfl) rfl rfl) (cC f7 (by exact hr) lM (aV 0 aD)) cN) (tO 1 nd (pr.ne rfl)) rfl rfl rfl) (aa (b6 (bf rfl (by exact hu) (k:=.is) (vA 1) (ax cN rfl) rfl) (aa (qk rfl rfl lM df rfl (by exact hr) (by first | exact Nat.le_refl _ | omega) (aJ cInt bt rfl) rfl rfl rfl) aj) aj) (aa (aQ (uT (sp:=[.var 1]) (sk:=[]) (g:=[.inl 1]) kX (by rfl) (by exact hr) (by first | exact Nat.le_refl _ | omega) (by rfl) (by rfl) lM (aV 1 aD) EK (by intro z; cases z) (by rfl) (by rfl) (by rfl) (by rfl) (by rfl))) aj)))
theorem pP:FnScope ["text", "lines"] ["text"] (defScope d5):=sA
theorem xr (F:FunD K "lines_of" "lines_of" (defArgs d5) (defBody d5) (defScope d5) dvs kws f fd) (de:p8 K ⟨K,cls,tbs⟩ [20]) (kW:mg "str" = none) (aA:mg "isinstance" = none) (df:AS P w K mg base "BadText" (cls 14) "line"):FnOk P w K mg base (L2.CX P w) 3 f fd ["text"] (bD ⟨K,cls,tbs⟩ ft) :=
 eZ F pP fun cdv A outer s H E B pr hr=>by
  have hu:=bV hr
  have hu1:=bo hr
  have nd:=pP.nd
  exact(aa (b6 (dI (vj rfl (ax (l5 (t:=.str) rfl de rfl rfl aA (vA 0) (pe_bltn rfl kW (by decide +kernel) rfl) rfl rfl rfl) rfl) rfl rfl)) (aa (qk rfl rfl lM df rfl (by exact hr) (by first | exact Nat.le_refl _ | omega) (aJ cInt bt rfl) rfl rfl rfl) aj) aj) (aa (aY (EU (k:=.split) PySem.F.plainAttrs_str PySem.F.slot_str_split PySem.F.type_str_split (m_split rfl) (fun d o v H m e1 e2 s=>Aw .split (.inr rfl) e1 e2 s) (vA 0) (bT (ax cS rfl) aD rfl) rfl rfl rfl rfl rfl) (tO 1 nd (pr.ne rfl)) rfl rfl rfl) (aa (b6 (bf rfl (by exact hu) (k:=.eq) (ax (iq rfl (by exact hu) (vA 1) (ax (tK (ax cInt rfl)) rfl) (fun _ _=>rfl)) rfl) (ax cS rfl) rfl) (aa (gH (vM rfl PySem.F.slot_list_pop PySem.F.type_list_pop vK (d9 rfl (.inl rfl) rfl rfl) rfl rfl) rfl) (aa (aQ (ko hZ (aJ (vE 1) (aJ cB bt rfl) rfl))) aj)) aj) (aa (aQ (ko hZ (aJ (vE 1) (aJ cB bt rfl) rfl))) aj))))
theorem lE:FnScope ["text", "lines", "is_ended", "shapes", "at", "shape", "line"] ["text"] (defScope bb):=sA
theorem rG (F:FunD K "read_history" "read_history" (defArgs bb) (defBody bb) (defScope bb) dvs kws f fd) (u5:Callee P w K mg base ⟨K,cls,tbs⟩ "lines_of" ["text"] 3 ft) (f7:Callee P w K mg base ⟨K,cls,tbs⟩ "shape_or_none" ["text"] 3 aC) (sN:mg "enumerate" = none) (df:AS P w K mg base "BadText" (cls 14) "line") (aR:mg "len" = none) (zg:AI P w K mg base ⟨K,cls,tbs⟩ 21 "__init__" ["self", "trees"] 3 cq) (qb:yn P w K mg base ⟨K,cls,tbs⟩ 21 "History" 3 cq 1 [] [.inl 1]) (sM:AI P w K mg base ⟨K,cls,tbs⟩ 20 "__init__" ["self", "shape"] 41 aH) (kX:yn P w K mg base ⟨K,cls,tbs⟩ 20 "Tree" 41 aH 1 [] [.inl 1]):FnOk P w K mg base (L2.CX P w) 43 f fd ["text"] (bD ⟨K,cls,tbs⟩ cz) :=
 eZ F lE fun cdv A outer s H E B pr hr=>by
  have hu:=bV hr
  have hu1:=bo hr
  have nd:=lE.nd
  have tkL:Takes (cxOf (L2.CX P w) P w K mg base ["text", "lines", "is_ended", "shapes", "at", "shape", "line"] "read_history" (defScope bb) f cdv A outer s H E) (fun cls d _ H=>E cls d H):=takes_of rfl rfl rfl rfl
  exact(aa (aY (uS u5 rfl (by exact hr) (by first | exact Nat.le_refl _ | omega) rfl tkL (aV 0 aD) rfl rfl rfl) (DN rfl rfl (l4 (tO 1 nd (pr.ne rfl)) (l4 (tO 2 nd (pr.ne rfl)) xf rfl) rfl) (fY (tG 1 nd (pr.ne rfl)) (fY (tG 2 nd (pr.ne rfl)) oN rfl) rfl) rfl rfl) rfl rfl rfl) (aa (tV pr (i:=3) (own:=[("line",6)]) (se:=.call 477 [.var 6]) (t:=.nm 6) (ie:=.of (.var 1)) (sifs:=[]) rfl nd rfl rfl rfl (sw_true rfl rfl rfl (by decide +kernel)) (by decide) rfl (by decide) (l0 rfl (vA 1)) (blkOk_by (N:=["text", "lines", "is_ended", "shapes", "at", "shape", "line"]) (sc:=defScope bb) (by decide +kernel)) (fun s H C cl fp=>(zA 6 nd (pr.ne rfl))) (fun s H C cl fp=>qT) (fun s H C cl fp=>(uS f7 rfl (by exact hr) (by first | exact Nat.le_refl _ | omega) rfl E7 (aV 6 aD) rfl rfl rfl)) (fun _=>rfl)) (aa (iK pr (passes_of rfl) rfl (EH rfl rfl sN (vA 3) rfl) (fun B pr=>(x9 rfl rfl (fY (tG 4 nd (pr.ne rfl)) (fY (tG 5 nd (pr.ne rfl)) oN rfl) rfl) rfl rfl)) (fun B pr=>(aa (b6 (bf rfl (by exact hu) (k:=.is) (vA 5) (ax cN rfl) rfl) (aa (qk rfl rfl tkL df rfl (by exact hr) (by first | exact Nat.le_refl _ | omega) (aJ (vE 4) bt rfl) rfl rfl rfl) aj) aj) aj)) (fun _=>rfl)) (aa (b6 (dI (vj rfl (vA 2) rfl rfl)) (aa (qk rfl rfl tkL df rfl (by exact hr) (by first | exact Nat.le_refl _ | omega) (aJ (bR rfl (k:=.sub) (ax (d8 (k:=.len) rfl rfl rfl rfl rfl aR (aV 1 aD) rfl rfl) rfl) (ax cInt rfl)) bt rfl) rfl rfl rfl) aj) aj) (aa (aQ (uT (sp:=[.comp .set (.make 20 5 ([.var 5]++[]) (.inl 0::[.inl 1])) [5] (.nm 5) (.of (.var 3)) []]) (sk:=[]) (g:=[.inl 1]) qb (by rfl) (by exact hr) (by first | exact Nat.le_refl _ | omega) (by rfl) (by rfl) tkL (bT (ax (C2 (own:=[("shape",5)]) (se:=.make 20 5 ([.var 5]++[]) (.inl 0::[.inl 1])) (t:=.nm 5) (ie:=.of (.var 3)) pr rfl nd (by decide) rfl (by decide) (l0 rfl (vA 3)) (blkOk_by (N:=["text", "lines", "is_ended", "shapes", "at", "shape", "line"]) (sc:=defScope bb) (by decide +kernel)) (fun s H C cl fp=>(zA 5 nd (pr.ne rfl))) (fun s H C cl fp E Wb tkb=>(uT (sp:=[.var 5]) (sk:=[]) (g:=[.inl 1]) kX (by rfl) (by exact hr) (by first | exact Nat.le_refl _ | omega) (by rfl) (by rfl) tkb (aV 5 aD) EK (by intro z; cases z) (by rfl) (by rfl) (by rfl) (by rfl) (by rfl))) (fun _=>rfl) tkL (by rfl) (by rfl)) rfl) aD rfl) EK (by intro z; cases z) (by rfl) (by rfl) (by rfl) (by rfl) (by rfl))) aj)))))
theorem rH:FnScope ["_law_script", "_law_large", "_law_cell"] ["_law_script"] (defScope d6):=sA
theorem zh (F:FunD K "_law_begun" "_law_begun" (defArgs d6) (defBody d6) (defScope d6) dvs kws f fd) (rB:mg "list" = none):FnOk P w K mg base (L2.CX P w) 1 f fd ["_law_script"] (bD ⟨K,cls,tbs⟩ gL) :=
 eZ F rH fun cdv A outer s H E B pr hr=>by
  have hu:=bV hr
  have hu1:=bo hr
  have nd:=rH.nd
  exact(aa (tV pr (i:=1) (own:=[("_law_cell",2)]) (se:=.bi .sub (.var 2) (.bi .pow (.lit (.int 10)) (.lit (.int 18)))) (t:=.nm 2) (ie:=.of (.var 0)) (sifs:=[.cm .ge (.var 2) (.bi .pow (.lit (.int 10)) (.lit (.int 18)))]) rfl nd rfl rfl rfl (sw_true rfl rfl rfl (by decide +kernel)) (by decide) rfl (by decide) (l0 rfl (vA 0)) (blkOk_by (N:=["_law_script", "_law_large", "_law_cell"]) (sc:=defScope d6) (by decide +kernel)) (fun s H C cl fp=>(zA 2 nd (pr.ne rfl))) (fun s H C cl fp=>(Ap (bf rfl (by exact hu) (k:=.ge) (vA 2) (ax (bR rfl (k:=.pow) (ax cInt rfl) (ax cInt rfl)) rfl) rfl))) (fun s H C cl fp=>(bR rfl (k:=.sub) (vA 2) (ax (bR rfl (k:=.pow) (ax cInt rfl) (ax cInt rfl)) rfl))) (fun _=>rfl)) (aa (aQ (GD (kvs:=[(.lit (.str "large"),.mv 1),(.lit (.str "cells"),.frz (.fn .list [.var 0])),(.lit (.str "rest"),.lit (.int 0)),(.lit (.str "turn"),.lit (.int 0))]) (fun B e=>by have pr:=dD.eq pr e; exact(pps_cons cS (z7 (i:=1) rfl (.inl rfl) rfl rfl) (pps_cons cS (GF (d8 (k:=.list) rfl rfl rfl rfl rfl rB (aV 0 aD) rfl rfl)) (pps_cons cS cInt (pps_cons cS cInt pps_nil))))) rfl rfl (by simp) (by decide))) aj))
theorem rJ:FnScope ["_law_state", "_law_found", "_law_prime", "_law_blend", "_law_cell"] ["_law_state"] (defScope fh):=sA
theorem zj (F:FunD K "_law_mixed" "_law_mixed" (defArgs fh) (defBody fh) (defScope fh) dvs kws f fd) (kY:mg "int" = none):FnOk P w K mg base (L2.CX P w) 1 f fd ["_law_state"] (bD ⟨K,cls,tbs⟩ iP) :=
 eZ F rJ fun cdv A outer s H E B pr hr=>by
  have hu:=bV hr
  have hu1:=bo hr
  have nd:=rJ.nd
  exact(aa (qQ rfl (by exact hu1) (bR rfl (k:=.add) (ax (iq rfl (by exact hu) (vA 0) (ax cS rfl) (fun _ _=>rfl)) rfl) (ax cInt rfl)) (d9 rfl (.inl rfl) rfl rfl) (fun B e=>by have pr:=dD.eq pr e; exact cS) rfl rfl rfl (fun _=>rfl)) (aa (aY cInt (tO 1 nd (pr.ne rfl)) rfl rfl rfl) (aa (iK pr (passes_of rfl) rfl (l0 rfl (ax (dP hZ (aJ cInt (aJ cInt (aJ cInt (aJ cInt (aJ cInt (aJ cInt bt rfl) rfl) rfl) rfl) rfl) rfl)) rfl)) (fun B pr=>(tG 2 nd (pr.ne rfl))) (fun B pr=>(aa (aY (bR rfl (k:=.add) (ax (bR rfl (k:=.mul) (ax cInt rfl) (ax (iq rfl (by exact hu) (vA 0) (ax cS rfl) (fun _ _=>rfl)) rfl)) rfl) (ax (bR rfl (k:=.fdiv) (vA 2) (ax cInt rfl)) rfl)) (tO 3 nd (pr.ne rfl)) rfl rfl rfl) (aa (iK pr (passes_of rfl) rfl (l0 rfl (ax (iq rfl (by exact hu) (vA 0) (ax cS rfl) (fun _ _=>rfl)) rfl)) (fun B pr=>(tG 4 nd (pr.ne rfl))) (fun B pr=>(aa (aY (bR rfl (k:=.mod) (ax (d8 (k:=.int) rfl rfl rfl rfl rfl kY (bT (ax (bR rfl (k:=.add) (ax (bR rfl (k:=.mul) (vA 3) (ax cInt rfl)) rfl) (vA 4)) rfl) aD rfl) rfl rfl) rfl) (vA 2)) (tO 3 nd (pr.ne rfl)) rfl rfl rfl) aj)) (fun _=>rfl)) (aa (aY (bR rfl (k:=.add) (ax (bR rfl (k:=.mul) (vA 1) (ax cInt rfl)) rfl) (ax (bR rfl (k:=.mod) (ax (d8 (k:=.int) rfl rfl rfl rfl rfl kY (bT (ax (bR rfl (k:=.pow) (vA 3) (ax cInt rfl)) rfl) aD rfl) rfl rfl) rfl) (vA 2)) rfl)) (tO 1 nd (pr.ne rfl)) rfl rfl rfl) aj)))) (fun _=>rfl)) (aa (aQ (z7 (i:=1) rfl (.inl rfl) rfl rfl)) aj))))
theorem t9:FnScope ["_law_state", "_law_size", "_law_found"] ["_law_state", "_law_size"] (defScope gz):=sA
theorem Bc (F:FunD K "_law_take" "_law_take" (defArgs gz) (defBody gz) (defScope gz) dvs kws f fd) (rK:Callee P w K mg base ⟨K,cls,tbs⟩ "_law_mixed" ["_law_state"] 1 iP) (kY:mg "int" = none):FnOk P w K mg base (L2.CX P w) 2 f fd ["_law_state", "_law_size"] (bD ⟨K,cls,tbs⟩ bH) :=
 eZ F t9 fun cdv A outer s H E B pr hr=>by
  have hu:=bV hr
  have hu1:=bo hr
  have nd:=t9.nd
  exact(aa (b6 (bf rfl (by exact hu) (k:=.eq) (ax (iq rfl (by exact hu) (vA 0) (ax cS rfl) (fun _ _=>rfl)) rfl) (ax cInt rfl) rfl) (aa (qQ rfl (by exact hu1) (qJ (IB EZ (E6 (k:=.ne) rfl (by exact hu) (xZ (by exact hu) (d9 rfl (.inl rfl) rfl rfl) (fun B e=>by have pr:=dD.eq pr e; exact cS) (fun _ _=>rfl)) (fun B e=>by have pr:=dD.eq pr e; exact(dP hZ bt))) rfl) (p6 rfl PySem.F.slot_list_pop PySem.F.type_list_pop Ci (xZ (by exact hu) (d9 rfl (.inl rfl) rfl rfl) (fun B e=>by have pr:=dD.eq pr e; exact cS) (fun _ _=>rfl)) (fun B e=>by have pr:=dD.eq pr e; exact(aJ cInt bt rfl)) rfl rfl rfl rfl rfl) (cC rK (by exact hr) lM (aV 0 aD))) (d9 rfl (.inl rfl) rfl rfl) (fun B e=>by have pr:=dD.eq pr e; exact cS) rfl rfl rfl (fun _=>rfl)) aj) aj) (aa (aY (bR rfl (k:=.mod) (ax (d8 (k:=.int) rfl rfl rfl rfl rfl kY (bT (ax (iq rfl (by exact hu) (vA 0) (ax cS rfl) (fun _ _=>rfl)) rfl) aD rfl) rfl rfl) rfl) (vA 1)) (tO 2 nd (pr.ne rfl)) rfl rfl rfl) (aa (qQ rfl (by exact hu1) (bR rfl (k:=.fdiv) (ax (iq rfl (by exact hu) (vA 0) (ax cS rfl) (fun _ _=>rfl)) rfl) (vA 1)) (d9 rfl (.inl rfl) rfl rfl) (fun B e=>by have pr:=dD.eq pr e; exact cS) rfl rfl rfl (fun _=>rfl)) (aa (aQ (z7 (i:=2) rfl (.inl rfl) rfl rfl)) aj))))
theorem ua:FnScope ["_law_state", "_law_some"] ["_law_state", "_law_some"] (defScope gA):=sA
theorem Be (F:FunD K "_law_pick" "_law_pick" (defArgs gA) (defBody gA) (defScope gA) dvs kws f fd) (bE:Callee P w K mg base ⟨K,cls,tbs⟩ "_law_take" ["_law_state", "_law_size"] 2 bH) (aR:mg "len" = none):FnOk P w K mg base (L2.CX P w) 3 f fd ["_law_state", "_law_some"] (bD ⟨K,cls,tbs⟩ dc) :=
 eZ F ua fun cdv A outer s H E B pr hr=>by
  have hu:=bV hr
  have hu1:=bo hr
  have nd:=ua.nd
  exact(aa (aQ (iq rfl (by exact hu) (vA 1) (ax (cC bE (by exact hr) lM (aV 0 (bT (ax (d8 (k:=.len) rfl rfl rfl rfl rfl aR (aV 1 aD) rfl rfl) rfl) aD rfl))) rfl) (fun _ _=>rfl))) aj)
theorem ub:FnScope ["_law_state", "_law_goal", "_law_size", "_law_way", "_law_text_here", "_law_many"] ["_law_state"] (defScope gB):=sA
theorem Bf (F:FunD K "_law_long" "_law_long" (defArgs gB) (defBody gB) (defScope gB) dvs kws f fd) (jU:Callee P w K mg base ⟨K,cls,tbs⟩ "_law_pick" ["_law_state", "_law_some"] 3 dc) (bE:Callee P w K mg base ⟨K,cls,tbs⟩ "_law_take" ["_law_state", "_law_size"] 2 bH) (aR:mg "len" = none):FnOk P w K mg base (L2.CX P w) 4 f fd ["_law_state"] (bD ⟨K,cls,tbs⟩ iu) :=
 eZ F ub fun cdv A outer s H E B pr hr=>by
  have hu:=bV hr
  have hu1:=bo hr
  have nd:=ub.nd
  exact(aa (aY (bR rfl (k:=.add) (ax (cC jU (by exact hr) lM (aV 0 (bT (ax (dP hZ (aJ cInt (aJ cInt (aJ cInt (aJ cInt (aJ cInt (aJ cInt (aJ cInt (aJ cInt (aJ cInt bt rfl) rfl) rfl) rfl) rfl) rfl) rfl) rfl) rfl)) rfl) aD rfl))) rfl) (ax (cC bE (by exact hr) lM (aV 0 (bT (ax cInt rfl) aD rfl))) rfl)) (tO 1 nd (pr.ne rfl)) rfl rfl rfl) (aa (yu (i:=2) (j:=3) (k:=4) rfl nd rfl rfl rfl (by decide) (by decide) (by decide) rfl rfl rfl (pr.ne rfl) (pr.ne rfl) (pr.ne rfl) (aJ (bR rfl (k:=.add) (ax cInt rfl) (ax (cC bE (by exact hr) lM (aV 0 (bT (ax cInt rfl) aD rfl))) rfl)) (aJ (cC bE (by exact hr) lM (aV 0 (bT (ax cInt rfl) aD rfl))) (aJ cS bt rfl) rfl) rfl) rfl rfl) (aa (b6 (bf rfl (by exact hu) (k:=.eq) (vA 3) (ax cInt rfl) rfl) (aa (aY (bR rfl (k:=.fdiv) (vA 1) (ax (bR rfl (k:=.add) (vA 2) (ax cInt rfl)) rfl)) (tO 5 nd (pr.ne rfl)) rfl rfl rfl) (aa (aY (EU (k:=.join) PySem.F.plainAttrs_str PySem.F.slot_str_join PySem.F.type_str_join (Av rfl) (fun d o v H m e1 e2 s=>Aw .join (.inl rfl) e1 e2 s) (ax cS rfl) (bT (ax (A8 rfl (ax (dP hZ (aJ (mP rfl (ax cS rfl) iY (gF rfl (vA 2))) bt rfl)) rfl) (vA 5)) rfl) aD rfl) rfl rfl rfl rfl rfl) (tO 4 nd (pr.ne rfl)) rfl rfl rfl) (aa (aQ (bR rfl (k:=.add) (vA 4) (ax (ng rfl (ax cS rfl) (ax (bR rfl (k:=.fdiv) (ax (bR rfl (k:=.sub) (vA 1) (ax (d8 (k:=.len) rfl rfl rfl rfl rfl aR (aV 4 aD) rfl rfl) rfl)) rfl) (ax cInt rfl)) rfl)) rfl))) aj))) aj) (aa (b6 (bf rfl (by exact hu) (k:=.eq) (vA 3) (ax cInt rfl) rfl) (aa (aY (bR rfl (k:=.fdiv) (vA 1) (ax (bR rfl (k:=.add) (vA 2) (ax cInt rfl)) rfl)) (tO 5 nd (pr.ne rfl)) rfl rfl rfl) (aa (aQ (bR rfl (k:=.add) (ax (bR rfl (k:=.add) (ax (ng rfl (ax (bR rfl (k:=.add) (ax (mP rfl (ax cS rfl) iY (gF rfl (vA 2))) rfl) (ax cS rfl)) rfl) (ax (bR rfl (k:=.sub) (vA 5) (ax cInt rfl)) rfl)) rfl) (ax cS rfl)) rfl) (ax (ng rfl (ax cS rfl) (ax (bR rfl (k:=.sub) (vA 5) (ax cInt rfl)) rfl)) rfl))) aj)) aj) (aa (aY (bR rfl (k:=.fdiv) (vA 1) (ax (bR rfl (k:=.add) (ax (bR rfl (k:=.mul) (ax cInt rfl) (vA 2)) rfl) (ax cInt rfl)) rfl)) (tO 5 nd (pr.ne rfl)) rfl rfl rfl) (aa (aY (EU (k:=.join) PySem.F.plainAttrs_str PySem.F.slot_str_join PySem.F.type_str_join (Av rfl) (fun d o v H m e1 e2 s=>Aw .join (.inl rfl) e1 e2 s) (ax cS rfl) (bT (ax (A8 rfl (ax (dP hZ (aJ (bR rfl (k:=.add) (ax (bR rfl (k:=.add) (ax (bR rfl (k:=.add) (ax (mP rfl (ax cS rfl) iY (gF rfl (vA 2))) rfl) (ax cS rfl)) rfl) (ax (ng rfl (ax cS rfl) (vA 2)) rfl)) rfl) (ax cS rfl)) bt rfl)) rfl) (vA 5)) rfl) aD rfl) rfl rfl rfl rfl rfl) (tO 4 nd (pr.ne rfl)) rfl rfl rfl) (aa (aQ (bR rfl (k:=.add) (vA 4) (ax (ng rfl (ax cS rfl) (ax (bR rfl (k:=.fdiv) (ax (bR rfl (k:=.sub) (vA 1) (ax (d8 (k:=.len) rfl rfl rfl rfl rfl aR (aV 4 aD) rfl rfl) rfl)) rfl) (ax cInt rfl)) rfl)) rfl))) aj)))))))
theorem n6:FnScope ["_law_value", "_law_sign"] ["_law_value"] (defScope cD):=sA
theorem wq (F:FunD K "_law_is_name" "_law_is_name" (defArgs cD) (defBody cD) (defScope cD) dvs kws f fd) (de:p8 K ⟨K,cls,tbs⟩ [20]) (kW:mg "str" = none) (aA:mg "isinstance" = none) (aR:mg "len" = none):FnOk P w K mg base (L2.CX P w) 1 f fd ["_law_value"] (bD ⟨K,cls,tbs⟩ dj) :=
 eZ F n6 fun cdv A outer s H E B pr hr=>by
  have hu:=bV hr
  have hu1:=bo hr
  have nd:=n6.nd
  exact(aa (b6 (lY (nQ (dI (vj rfl (ax (l5 (t:=.str) rfl de rfl rfl aA (vA 0) (pe_bltn rfl kW (by decide +kernel) rfl) rfl rfl rfl) rfl) rfl rfl)) (lW (dI (Ab rfl (by exact hu) (k:=.le) (j:=.le) (ax cInt rfl) (ax (d8 (k:=.len) rfl rfl rfl rfl rfl aR (aV 0 aD) rfl rfl) rfl) (ax cInt rfl) (by with_unfolding_all rfl)))))) (aa (aQ cB) aj) aj) (aa (aQ (z9 rfl (by exact hu) (k:=.eq) (ax (qi pr rfl nd (own:=[("_law_sign",1)]) (se:=.var 1) (t:=.nm 1) (ie:=.of (.var 0)) (sifs:=[.cm .notin (.var 1) (.lit (.str "abcdefghijklmnopqrstuvwxyz"))]) (by decide) rfl (by decide) (l0 rfl (vA 0)) (blkOk_by (N:=["_law_value", "_law_sign"]) (sc:=defScope cD) (by decide +kernel)) (fun s H C cl fp=>(zA 1 nd (pr.ne rfl))) (fun s H C cl fp=>(Ap (bf rfl (by exact hu) (k:=.notin) (vA 1) (ax cS rfl) rfl))) (fun s H C cl fp=>(vE 1)) (fun _=>rfl)) rfl) (ax (dP hZ bt) rfl) rfl)) aj))
theorem ja:FnScope ["_law_text_here", "_law_parts", "_law_depth", "_law_names", "_law_before", "_law_sign", "_law_at", "_law_word", "_law_mark"] ["_law_text_here"] (defScope br):=sA
theorem n8 (F:FunD K "_law_names_or_none" "_law_names_or_none" (defArgs br) (defBody br) (defScope br) dvs kws f fd) (o7:mg "range" = none) (aR:mg "len" = none) (o8:Callee P w K mg base ⟨K,cls,tbs⟩ "_law_is_name" ["_law_value"] 1 dj) (kY:mg "int" = none):FnOk P w K mg base (L2.CX P w) 2 f fd ["_law_text_here"] (bD ⟨K,cls,tbs⟩ bg) :=
 eZ F ja fun cdv A outer s H E B pr hr=>by
  have hu:=bV hr
  have hu1:=bo hr
  have nd:=ja.nd
  exact(aa (b6 (bf rfl (by exact hu) (k:=.eq) (vA 0) (ax cS rfl) rfl) (aa (aQ (dP hZ bt)) aj) aj) (aa (aY (ko hZ (aJ (dP hZ (aJ cS bt rfl)) (aJ cInt (aJ (dP hZ bt) (aJ cS bt rfl) rfl) rfl) rfl)) (DN rfl rfl (l4 (tO 1 nd (pr.ne rfl)) (l4 (tO 2 nd (pr.ne rfl)) (l4 (tO 3 nd (pr.ne rfl)) (l4 (tO 4 nd (pr.ne rfl)) xf rfl) rfl) rfl) rfl) (fY (tG 1 nd (pr.ne rfl)) (fY (tG 2 nd (pr.ne rfl)) (fY (tG 3 nd (pr.ne rfl)) (fY (tG 4 nd (pr.ne rfl)) oN rfl) rfl) rfl) rfl) rfl rfl) rfl rfl rfl) (aa (iK pr (passes_of rfl) rfl (l0 rfl (vA 0)) (fun B pr=>(tG 5 nd (pr.ne rfl))) (fun B pr=>(aa (b6 (bf rfl (by exact hu) (k:=.isin) (vA 5) (ax cS rfl) rfl) (aa (aY (bR rfl (k:=.add) (vA 1) (ax (dP hZ (aJ (vE 5) (aJ cS bt rfl) rfl)) rfl)) (tO 1 nd (pr.ne rfl)) rfl rfl rfl) aj) (aa (qQ rfl (by exact hu1) (bR rfl (k:=.add) (ax (iq rfl (by exact hu) (vA 1) (ax (tK (ax cInt rfl)) rfl) (fun _ _=>rfl)) rfl) (vA 5)) (d9 rfl (.inl rfl) rfl rfl) (fun B e=>by have pr:=dD.eq pr e; exact(tK (ax cInt rfl))) rfl rfl rfl (fun _=>rfl)) aj)) aj)) (fun _=>rfl)) (aa (iK pr (passes_of rfl) rfl (CZ rfl o7 (ax (d8 (k:=.len) rfl rfl rfl rfl rfl aR (aV 1 aD) rfl rfl) rfl) rfl rfl rfl rfl) (fun B pr=>(tG 6 nd (pr.ne rfl))) (fun B pr=>(aa (uJ (i:=7) (j:=8) rfl nd rfl rfl (by decide) rfl rfl (pr.ne rfl) (pr.ne rfl) (aJ (iq rfl (by exact hu) (vA 1) (vA 6) (fun _ _=>rfl)) (aJ (iq rfl (by exact hu) (ax (bR rfl (k:=.add) (vA 1) (ax (dP hZ (aJ cS (aJ cS bt rfl) rfl)) rfl)) rfl) (ax (bR rfl (k:=.add) (vA 6) (ax cInt rfl)) rfl) (fun _ _=>rfl)) bt rfl) rfl) rfl rfl) (aa (b6 (lY (nQ (jz (lX (bf rfl (by exact hu) (k:=.eq) (vA 4) (ax cS rfl) rfl) (jw (lY (nQ (bf rfl (by exact hu) (k:=.ne) (vA 7) (ax cS rfl) rfl) (lW (bf rfl (by exact hu) (k:=.eq) (vA 8) (ax cS rfl) rfl))))))) (lW (jz (lX (bf rfl (by exact hu) (k:=.ne) (vA 4) (ax cS rfl) rfl) (jw (dI (vj rfl (ax (cC o8 (by exact hr) lM (aV 7 aD)) rfl) rfl rfl)))))))) (aa (aQ cN) aj) aj) (aa (b6 (bf rfl (by exact hu) (k:=.ne) (vA 4) (ax cS rfl) rfl) (aa (gH (p6 rfl PySem.F.slot_list_append PySem.F.type_list_append eY (d9 rfl (.inl rfl) rfl rfl) (fun B e=>by have pr:=dD.eq pr e; exact(aJ (vE 7) bt rfl)) rfl rfl rfl rfl rfl) rfl) aj) aj) (aa (aY (bR rfl (k:=.sub) (ax (bR rfl (k:=.add) (vA 2) (ax (d8 (k:=.int) rfl rfl rfl rfl rfl kY (bT (ax (z9 rfl (by exact hu) (k:=.eq) (vA 8) (ax cS rfl) rfl) rfl) aD rfl) rfl rfl) rfl)) rfl) (ax (d8 (k:=.int) rfl rfl rfl rfl rfl kY (bT (ax (z9 rfl (by exact hu) (k:=.eq) (vA 8) (ax cS rfl) rfl) rfl) aD rfl) rfl rfl) rfl)) (tO 2 nd (pr.ne rfl)) rfl rfl rfl) (aa (b6 (bf rfl (by exact hu) (k:=.lt) (vA 2) (ax cInt rfl) rfl) (aa (aQ cN) aj) aj) (aa (aY (vE 8) (tO 4 nd (pr.ne rfl)) rfl rfl rfl) aj))))))) (fun _=>rfl)) (aa (aQ (qJ (jz (lX (bf rfl (by exact hu) (k:=.eq) (vA 2) (ax cInt rfl) rfl) (jw (bf rfl (by exact hu) (k:=.le) (ax (d8 (k:=.len) rfl rfl rfl rfl rfl aR (aV 0 aD) rfl rfl) rfl) (ax cInt rfl) rfl)))) (vE 3) cN)) aj)))))
theorem uc:FnScope ["_law_text_here", "_law_way", "_law_found", "e"] ["_law_text_here", "_law_way"] (defScope gC):=sA
theorem Bg (F:FunD K "_law_read" "_law_read" (defArgs gC) (defBody gC) (defScope gC) dvs kws f fd) (h_exm:∀ C∈[0,1,4,5,14],PySem.W.exmOne K (.ref (cls C)) (.ref (cls 0))=some true) (sO:mg "TreeError" = some (.ref (cls 0))) (sP:Callee P w K mg base ⟨K,cls,tbs⟩ "read_tree" ["text"] 43 eA) (o9:Callee P w K mg base ⟨K,cls,tbs⟩ "read_history" ["text"] 43 cz):FnOk P w K mg base (L2.CX P w) 44 f fd ["_law_text_here", "_law_way"] (bD ⟨K,cls,tbs⟩ eB) :=
 eZ F uc fun cdv A outer s H E B pr hr=>by
  have hu:=bV hr
  have hu1:=bo hr
  have nd:=uc.nd
  exact(aa (aY cN (tO 2 nd (pr.ne rfl)) rfl rfl rfl) (aa (Fm (cs:=[0,1,4,5,14]) (i:=3) (j:=2) rfl rfl rfl rfl nd rfl rfl rfl rfl rfl (.inl rfl) (.inl rfl) (pr.ne rfl) (pr.ne rfl) (by decide) rfl sO h_exm lM (fun W pn xe lM po=>(aa (aY (qJ (bf rfl (by exact hu) (k:=.eq) (vA 1) (ax cInt rfl) rfl) (cC sP (by exact hr) lM (aV 0 aD)) (cC o9 (by exact hr) lM (aV 0 aD))) (tO 2 nd (pr.ne rfl)) rfl rfl rfl) aj)) rfl rfl rfl) (aa (aQ (z7 (i:=2) rfl (.inl rfl) rfl rfl)) aj)))
theorem Bh:FnScope ["_law_script", "_law_k", "_law_state", "_law_text_here", "_law_at", "_law_names", "_law_found", "_law_many"] ["_law_script"] (defScope mV):=sA
theorem G7 (F:FunD K "law" "law" (defArgs mV) (defBody mV) (defScope mV) dvs kws f fd) (o7:mg "range" = none) (aR:mg "len" = none) (C3:mg "min" = none) (C4:mg "max" = none) (rL:Callee P w K mg base ⟨K,cls,tbs⟩ "_law_begun" ["_law_script"] 1 gL) (sQ:Callee P w K mg base ⟨K,cls,tbs⟩ "_law_long" ["_law_state"] 4 iu) (bE:Callee P w K mg base ⟨K,cls,tbs⟩ "_law_take" ["_law_state", "_law_size"] 2 bH) (jU:Callee P w K mg base ⟨K,cls,tbs⟩ "_law_pick" ["_law_state", "_law_some"] 3 dc) (kZ:Callee P w K mg base ⟨K,cls,tbs⟩ "_law_names_or_none" ["_law_text_here"] 2 bg) (mR:Callee P w K mg base ⟨K,cls,tbs⟩ "_law_read" ["_law_text_here", "_law_way"] 44 eB) (eO:p8 K ⟨K,cls,tbs⟩ [0,1,4,14,5]) (pQ:mg "BadText" = some (.ref (cls 14))) (aA:mg "isinstance" = none) (jd:XfC K (cls 14)∧PySem.W.findIn K (.ref (cls 14)) "line" = some none) (pR:mg "BadTree" = some (.ref (cls 1))):FnOk P w K mg base (L2.CX P w) 45 f fd ["_law_script"] (bD ⟨K,cls,tbs⟩ yx) :=
 eZ F Bh fun cdv A outer s H E B pr hr=>by
  have hu:=bV hr
  have hu1:=bo hr
  have nd:=Bh.nd
  exact(aa (iK pr (passes_of rfl) rfl (Am rfl o7 (aJ (d8 (k:=.max2) rfl rfl rfl rfl rfl C4 (bT (ax cInt rfl) (bT (ax (d8 (k:=.min2) rfl rfl rfl rfl rfl C3 (bT (ax cInt rfl) (bT (ax (d8 (k:=.len) rfl rfl rfl rfl rfl aR (aV 0 aD) rfl rfl) rfl) aD rfl) rfl) rfl rfl) rfl) aD rfl) rfl) rfl rfl) bt rfl) rfl) (fun B pr=>(tG 1 nd (pr.ne rfl))) (fun B pr=>(aa (aY (cC rL (by exact hr) lM (bT (ax (bR rfl (k:=.add) (ax (mP rfl (vA 0) (gF rfl (vA 1)) iY) rfl) (ax (mP rfl (vA 0) iY (gF rfl (vA 1))) rfl)) rfl) aD rfl)) (tO 2 nd (pr.ne rfl)) rfl rfl rfl) (aa (aY (cC sQ (by exact hr) lM (aV 2 aD)) (tO 3 nd (pr.ne rfl)) rfl rfl rfl) (aa (b6 (bf rfl (by exact hu) (k:=.eq) (ax (cC bE (by exact hr) lM (aV 2 (bT (ax cInt rfl) aD rfl))) rfl) (ax cInt rfl) rfl) (aa (aY (cC bE (by exact hr) lM (aV 2 (bT (ax (d8 (k:=.len) rfl rfl rfl rfl rfl aR (aV 3 aD) rfl rfl) rfl) aD rfl))) (tO 4 nd (pr.ne rfl)) rfl rfl rfl) (aa (aY (bR rfl (k:=.add) (ax (bR rfl (k:=.add) (ax (mP rfl (vA 3) iY (gF rfl (vA 4))) rfl) (ax (cC jU (by exact hr) lM (aV 2 (bT (ax (dP hZ (aJ cS (aJ cS (aJ cS (aJ cS (aJ cS (aJ cS bt rfl) rfl) rfl) rfl) rfl) rfl)) rfl) aD rfl))) rfl)) rfl) (ax (mP rfl (vA 3) (gF rfl (ax (bR rfl (k:=.add) (vA 4) (ax cInt rfl)) rfl)) iY) rfl)) (tO 3 nd (pr.ne rfl)) rfl rfl rfl) aj)) aj) (aa (uJ (i:=5) (j:=6) rfl nd rfl rfl (by decide) rfl rfl (pr.ne rfl) (pr.ne rfl) (aJ (cC kZ (by exact hr) lM (aV 3 aD)) (aJ (cC mR (by exact hr) lM (aV 3 (bT (ax cInt rfl) aD rfl))) bt rfl) rfl) rfl rfl) (aa (b6 (jz (lX (bf rfl (by exact hu) (k:=.is) (vA 5) (ax cN rfl) rfl) (jw (lY (nQ (dI (vj rfl (ax (l5 (t:=.cls 14) rfl eO rfl rfl aA (vA 6) (pe_glob rfl pQ rfl) rfl rfl rfl) rfl) rfl rfl)) (lW (bf rfl (by exact hu) (k:=.ne) (ax (DZ jd rfl (vA 6)) rfl) (ax cInt rfl) rfl))))))) (aa (aQ cB) aj) aj) (aa (b6 (jz (lX (bf rfl (by exact hu) (k:=.isnot) (vA 5) (ax cN rfl) rfl) (jw (dI (vj rfl (ax (l5 (t:=.cls 1) rfl eO rfl rfl aA (vA 6) (pe_glob rfl pR rfl) rfl rfl rfl) rfl) rfl rfl))))) (aa (aQ cB) aj) aj) (aa (aY (cC bE (by exact hr) lM (aV 2 (bT (ax cInt rfl) aD rfl))) (tO 7 nd (pr.ne rfl)) rfl rfl rfl) (aa (aY (cC mR (by exact hr) lM (bT (ax (bR rfl (k:=.add) (ax (bR rfl (k:=.add) (ax (bR rfl (k:=.add) (ax (ng rfl (ax cS rfl) (vA 7)) rfl) (vA 3)) rfl) (ax cS rfl)) rfl) (ax (ng rfl (ax cS rfl) (ax (cC bE (by exact hr) lM (aV 2 (bT (ax cInt rfl) aD rfl))) rfl)) rfl)) rfl) (bT (ax cInt rfl) aD rfl) rfl)) (tO 6 nd (pr.ne rfl)) rfl rfl rfl) (aa (b6 (jz (lX (bf rfl (by exact hu) (k:=.is) (vA 5) (ax cN rfl) rfl) (jw (lY (nQ (dI (vj rfl (ax (l5 (t:=.cls 14) rfl eO rfl rfl aA (vA 6) (pe_glob rfl pQ rfl) rfl rfl rfl) rfl) rfl rfl)) (lW (bf rfl (by exact hu) (k:=.ne) (ax (DZ jd rfl (vA 6)) rfl) (vA 7) rfl))))))) (aa (aQ cB) aj) aj) (aa (b6 (jz (lX (bf rfl (by exact hu) (k:=.isnot) (vA 5) (ax cN rfl) rfl) (jw (dI (vj rfl (ax (l5 (t:=.cls 1) rfl eO rfl rfl aA (vA 6) (pe_glob rfl pR rfl) rfl rfl rfl) rfl) rfl rfl))))) (aa (aQ cB) aj) aj) aj))))))))))) (fun _=>rfl)) (aa (aQ cB) aj))
end K72
noncomputable section
namespace K72
open PySem PySem.Spec PyProof.Rows L2 PV PL PM PN K61 K09
open He (ga ma)
def f9 (K:iH):D→V
 | .tup _=>V.ref (He.dflAt ("Tree",some "__init__") 0 K)
 | _=>.non
def jF (K:iH):D→V
 | .tup _=>V.ref (He.dflAt ("History",some "__init__") 0 K)
 | _=>.non
theorem G8 (s:PySem.W.SharedT):ob s=hk.obs s.abs:=AK (HandSHeadRun.getT_eq s)
end K72
namespace K72
open PySem PySem.Spec PyProof.Rows L2 PV PL PM PN K61 K09
noncomputable section
def k8:List SS:=[.osl (kQ (fz []) (fun i j=>i+j) 2 (.lit (.int 1)))]
def lg:SS:=.asg (.nm 2) (.var 1)
def u7:SS:=.whl (.band [.cm .lt (.var 2) (.fn .len [.var 0]),.cm .notin (.idx (.var 0) (.var 2)) (.glo "MARKS" (.str "(),"))]) k8
def lh:SS:=.ret (.slc (.var 0) (.var 1) (.var 2))
theorem xt:mH = [lg,u7,lh]:=rfl
def bW:List SS:=[.ite (.cm .eq (.var 2) (.lst [])) [.ret (.lit .non)] [],.asg (.nm 6) (.fn .tuple [.mu .pop 1 [] []]),.exp (.mu .append 1 [.un .neg (.lit (.int 1))] [.tup [.mu .pop 2 [] [],.var 6]]),.osl (kQ (fz [(2,aS),(475,bJ)]) (fun i j=>i+j) 3 (.lit (.int 1))),.asg (.nm 5) (.slc (.var 0) (.var 3) (.bi .add (.var 3) (.lit (.int 1)))),.ite (.cm .notin (.var 5) (.tup [.lit (.str ")"),.lit (.str ","),.lit (.str "")])) [.ret (.lit .non)] []]
def gS:SS:=.ite (.cm .eq (.var 2) (.lst [])) [.ret (.lit .non)] []
def gU:SS:=.asg (.nm 6) (.fn .tuple [.mu .pop 1 [] []])
def gV:SS:=.exp (.mu .append 1 [.un .neg (.lit (.int 1))] [.tup [.mu .pop 2 [] [],.var 6]])
def gW:SS:=.osl (kQ (fz [(2,aS),(475,bJ)]) (fun i j=>i+j) 3 (.lit (.int 1)))
def gX:SS:=.asg (.nm 5) (.slc (.var 0) (.var 3) (.bi .add (.var 3) (.lit (.int 1))))
def gY:SS:=.ite (.cm .notin (.var 5) (.tup [.lit (.str ")"),.lit (.str ","),.lit (.str "")])) [.ret (.lit .non)] []
theorem je:bW = [gS,gU,gV,gW,gX,gY]:=rfl
def bp:List SS:=[.asg (.nm 4) (.call 475 [.var 0,.var 3]),.osl (kQ (fz [(2,aS),(475,bJ)]) (fun i j=>i+j) 3 (.fn .len [.var 4])),.asg (.nm 5) (.slc (.var 0) (.var 3) (.bi .add (.var 3) (.lit (.int 1)))),.ite (.bnot (.call 2 [.var 4])) [.ret (.lit .non)] [],.ite (.cm .eq (.var 5) (.lit (.str "("))) [.exp (.mu .append 2 [] [.var 4]),.exp (.mu .append 1 [] [.lst []])] [.exp (.mu .append 1 [.un .neg (.lit (.int 1))] [.tup [.var 4,.tup []]])],.whl (.cm .eq (.var 5) (.lit (.str ")"))) bW,.ite (.cm .eq (.var 5) (.lit (.str ""))) [.ret (.ite (.cm .eq (.var 2) (.lst [])) (.fn .tuple [.idx (.var 1) (.lit (.int 0))]) (.lit .non))] [],.osl (kQ (fz [(2,aS),(475,bJ)]) (fun i j=>i+j) 3 (.lit (.int 1)))]
def gZ:SS:=.asg (.nm 4) (.call 475 [.var 0,.var 3])
def g9:SS:=.osl (kQ (fz [(2,aS),(475,bJ)]) (fun i j=>i+j) 3 (.fn .len [.var 4]))
def hE:SS:=.asg (.nm 5) (.slc (.var 0) (.var 3) (.bi .add (.var 3) (.lit (.int 1))))
def hM:SS:=.ite (.bnot (.call 2 [.var 4])) [.ret (.lit .non)] []
def dg:SS:=.ite (.cm .eq (.var 5) (.lit (.str "("))) [.exp (.mu .append 2 [] [.var 4]),.exp (.mu .append 1 [] [.lst []])] [.exp (.mu .append 1 [.un .neg (.lit (.int 1))] [.tup [.var 4,.tup []]])]
def bS:SS:=.whl (.cm .eq (.var 5) (.lit (.str ")"))) bW
def aT:SS:=.ite (.cm .eq (.var 5) (.lit (.str ""))) [.ret (.ite (.cm .eq (.var 2) (.lst [])) (.fn .tuple [.idx (.var 1) (.lit (.int 0))]) (.lit .non))] []
def cw:SS:=.osl (kQ (fz [(2,aS),(475,bJ)]) (fun i j=>i+j) 3 (.lit (.int 1)))
theorem dh:bp = [gZ,g9,hE,hM,dg,bS,aT,cw]:=rfl
theorem wt:kT = [.asg (.tp [.nm 1,.nm 2,.nm 3]) (.tup [.lst [.lst []],.lst [],.lit (.int 0)]),.whl (.lit (.bl true)) bp]:=rfl
theorem ky:dE = [.ite (.cm .eq (.var 0) (.lit (.str "-"))) [.ret (.tup [])] [],.ret (.ite (.cm .le (.fn .len [.var 0]) (.glo "MOST_SIGNS" (.int 400))) (.call 476 [.var 0]) (.lit .non))]:=rfl
theorem n9:jD = [.asg (.nm 1) (.ite (.isa [20] [.str] (.var 0)) (.call 477 [.var 0]) (.lit .non)),.ite (.cm .is (.var 1) (.lit .non)) [.rse 14 [.lit (.int 0)]] [],.ret (.make 20 5 ([.var 1]++[]) (.inl 0::[.inl 1]))]:=rfl
def jV:SS:=.ite (.bnot (.isa [20] [.str] (.var 0))) [.rse 14 [.lit (.int 0)]] []
def jW:SS:=.asg (.nm 1) (.mt .split (.var 0) [.lit (.str "\n")])
def jX:SS:=.ite (.cm .eq (.idx (.var 1) (.un .neg (.lit (.int 1)))) (.lit (.str ""))) [.exp (.mu .pop 1 [] []),.ret (.tup [.var 1,.lit (.bl true)])] []
def sR:SS:=.ret (.tup [.var 1,.lit (.bl false)])
theorem wu:kU = [jV,jW,jX,sR]:=rfl
def dS:SE:=(.call 477 [.var 6])
def aU:List SS:=[.ite (.cm .is (.var 5) (.lit .non)) [.rse 14 [.var 4]] []]
def bI:SE:=(.make 20 5 ([.var 5]++[]) (.inl 0::[.inl 1]))
def gb:SS:=.asg (.tp [.nm 1,.nm 2]) (.call 482 [.var 0])
def gd:SS:=.asg (.nm 3) (.comp .lst dS [6] (.nm 6) (.of (.var 1)) [])
def cG:SS:=.for (.tp [.nm 4,.nm 5]) (.enum (.var 3)) aU
def gh:SS:=.ite (.bnot (.var 2)) [.rse 14 [.bi .sub (.fn .len [.var 1]) (.lit (.int 1))]] []
def gi:SS:=.ret (.make 21 259 ([.comp .set bI [5] (.nm 5) (.of (.var 3)) []]++[]) (.inl 0::[.inl 1]))
theorem lF:fZ = [gb,gd,cG,gh,gi]:=rfl
def jG:SS:=.asg (.nm 1) (.bi .add (.call 23 [.var 0,.lst [.lit (.int 380),.lit (.int 395),.lit (.int 399),.lit (.int 400),.lit (.int 401),.lit (.int 402),.lit (.int 410),.lit (.int 1500),.lit (.int 4000)]]) (.call 22 [.var 0,.lit (.int 3)]))
def jH:SS:=.asg (.tp [.nm 2,.nm 3,.nm 4]) (.tup [.bi .add (.lit (.int 1)) (.call 22 [.var 0,.lit (.int 8)]),.call 22 [.var 0,.lit (.int 3)],.lit (.str "")])
def fA:SS:=.ite (.cm .eq (.var 3) (.lit (.int 0))) [.asg (.nm 5) (.bi .fdiv (.var 1) (.bi .add (.var 2) (.lit (.int 1)))),.asg (.nm 4) (.mt .join (.lit (.str ",")) [.ofn true sH [.lst [.slc (.lit (.str "abcdefgh")) (.lit .non) (.var 2)],.var 5]]),.ret (.bi .add (.var 4) (.ofn true c0 [.lit (.str ",a"),.bi .fdiv (.bi .sub (.var 1) (.fn .len [.var 4])) (.lit (.int 2))]))] []
def fB:SS:=.ite (.cm .eq (.var 3) (.lit (.int 1))) [.asg (.nm 5) (.bi .fdiv (.var 1) (.bi .add (.var 2) (.lit (.int 2)))),.ret (.bi .add (.bi .add (.ofn true c0 [.bi .add (.slc (.lit (.str "abcdefgh")) (.lit .non) (.var 2)) (.lit (.str "(")),.bi .sub (.var 5) (.lit (.int 1))]) (.lit (.str "b"))) (.ofn true c0 [.lit (.str ")"),.bi .sub (.var 5) (.lit (.int 1))]))] []
def jI:SS:=.asg (.nm 5) (.bi .fdiv (.var 1) (.bi .add (.bi .mul (.lit (.int 2)) (.var 2)) (.lit (.int 5))))
def jJ:SS:=.asg (.nm 4) (.mt .join (.lit (.str ",")) [.ofn true sH [.lst [.bi .add (.bi .add (.bi .add (.slc (.lit (.str "abcdefgh")) (.lit .non) (.var 2)) (.lit (.str "("))) (.ofn true c0 [.lit (.str "c"),.var 2])) (.lit (.str ",d)"))],.var 5]])
def jK:SS:=.ret (.bi .add (.var 4) (.ofn true c0 [.lit (.str ",b"),.bi .fdiv (.bi .sub (.var 1) (.fn .len [.var 4])) (.lit (.int 2))]))
theorem zk:nV = [jG,jH,fA,fB,jI,jJ,jK]:=rfl
def aZ:List SS:=[.ite (.cm .isin (.var 5) (.lit (.str "(),"))) [.asg (.nm 1) (.bi .add (.var 1) (.lst [.var 5,.lit (.str "")]))] [.sub 1 [.un .neg (.lit (.int 1))] (.bi .add (.idx (.var 1) (.un .neg (.lit (.int 1)))) (.var 5))]]
def cH:List SS:=[.asg (.tp [.nm 7,.nm 8]) (.tup [.idx (.var 1) (.var 6),.idx (.bi .add (.var 1) (.lst [.lit (.str ""),.lit (.str "")])) (.bi .add (.var 6) (.lit (.int 1)))]),.ite (.bor [.band [.cm .eq (.var 4) (.lit (.str ")")),.bor [.cm .ne (.var 7) (.lit (.str "")),.cm .eq (.var 8) (.lit (.str "("))]],.band [.cm .ne (.var 4) (.lit (.str ")")),.bnot (.call 201 [.var 7])]]) [.ret (.lit .non)] [],.ite (.cm .ne (.var 4) (.lit (.str ")"))) [.exp (.mu .append 3 [] [.var 7])] [],.asg (.nm 2) (.bi .sub (.bi .add (.var 2) (.fn .int [.cm .eq (.var 8) (.lit (.str "("))])) (.fn .int [.cm .eq (.var 8) (.lit (.str ")"))])),.ite (.cm .lt (.var 2) (.lit (.int 0))) [.ret (.lit .non)] [],.asg (.nm 4) (.var 8)]
def di:SS:=.asg (.tp [.nm 7,.nm 8]) (.tup [.idx (.var 1) (.var 6),.idx (.bi .add (.var 1) (.lst [.lit (.str ""),.lit (.str "")])) (.bi .add (.var 6) (.lit (.int 1)))])
def bw:SS:=.ite (.bor [.band [.cm .eq (.var 4) (.lit (.str ")")),.bor [.cm .ne (.var 7) (.lit (.str "")),.cm .eq (.var 8) (.lit (.str "("))]],.band [.cm .ne (.var 4) (.lit (.str ")")),.bnot (.call 201 [.var 7])]]) [.ret (.lit .non)] []
def bx:SS:=.ite (.cm .ne (.var 4) (.lit (.str ")"))) [.exp (.mu .append 3 [] [.var 7])] []
def b7:SS:=.asg (.nm 2) (.bi .sub (.bi .add (.var 2) (.fn .int [.cm .eq (.var 8) (.lit (.str "("))])) (.fn .int [.cm .eq (.var 8) (.lit (.str ")"))]))
def b8:SS:=.ite (.cm .lt (.var 2) (.lit (.int 0))) [.ret (.lit .non)] []
def b9:SS:=.asg (.nm 4) (.var 8)
theorem lK:cH = [di,bw,bx,b7,b8,b9]:=rfl
def eC:SS:=.ite (.cm .eq (.var 0) (.lit (.str "-"))) [.ret (.lst [])] []
def eE:SS:=.asg (.tp [.nm 1,.nm 2,.nm 3,.nm 4]) (.tup [.lst [.lit (.str "")],.lit (.int 0),.lst [],.lit (.str ",")])
def eF:SS:=.for (.nm 5) (.of (.var 0)) aZ
def eG:SS:=.for (.nm 6) (.gen oW (.fn .len [.var 1])) cH
def eH:SS:=.ret (.ite (.band [.cm .eq (.var 2) (.lit (.int 0)),.cm .le (.fn .len [.var 0]) (.lit (.int 400))]) (.var 3) (.lit .non))
theorem jf:dR = [eC,eE,eF,eG,eH]:=rfl
theorem ud:nW = [.asg (.nm 2) (.lit .non),.try [0,1,4,5,14] [.asg (.nm 2) (.ite (.cm .eq (.var 1) (.lit (.int 0))) (.call 478 [.var 0]) (.call 483 [.var 0]))] 3 2,.ret (.mv 2)]:=rfl
def rM:List SS:=[.asg (.nm 2) (.call 20 [.bi .add (.slc (.var 0) (.var 1) (.lit .non)) (.slc (.var 0) (.lit .non) (.var 1))]),.asg (.nm 3) (.call 434 [.var 2]),.ite (.cm .eq (.call 22 [.var 2,.lit (.int 3)]) (.lit (.int 0))) [.asg (.nm 4) (.call 22 [.var 2,.fn .len [.var 3]]),.asg (.nm 3) (.bi .add (.bi .add (.slc (.var 3) (.lit .non) (.var 4)) (.call 23 [.var 2,.lst [.lit (.str "("),.lit (.str ")"),.lit (.str ","),.lit (.str ""),.lit (.str "A"),.lit (.str " ")]])) (.slc (.var 3) (.bi .add (.var 4) (.lit (.int 1))) (.lit .non)))] [],.asg (.tp [.nm 5,.nm 6]) (.tup [.call 480 [.var 3],.call 481 [.var 3,.lit (.int 0)]]),.ite (.band [.cm .is (.var 5) (.lit .non),.bor [.bnot (.isa [0,1,4,14,5] [.cls 14] (.var 6)),.cm .ne (.ofn true (zz 14 "line") [.var 6]) (.lit (.int 0))]]) [.ret (.lit (.bl false))] [],.ite (.band [.cm .isnot (.var 5) (.lit .non),.bnot (.isa [0,1,4,14,5] [.cls 1] (.var 6))]) [.ret (.lit (.bl false))] [],.asg (.nm 7) (.call 22 [.var 2,.lit (.int 5)]),.asg (.nm 6) (.call 481 [.bi .add (.bi .add (.bi .add (.ofn true c0 [.lit (.str "a(b)\n"),.var 7]) (.var 3)) (.lit (.str "\n"))) (.ofn true c0 [.lit (.str "-\n"),.call 22 [.var 2,.lit (.int 3)]]),.lit (.int 1)]),.ite (.band [.cm .is (.var 5) (.lit .non),.bor [.bnot (.isa [0,1,4,14,5] [.cls 14] (.var 6)),.cm .ne (.ofn true (zz 14 "line") [.var 6]) (.var 7)]]) [.ret (.lit (.bl false))] [],.ite (.band [.cm .isnot (.var 5) (.lit .non),.bnot (.isa [0,1,4,14,5] [.cls 1] (.var 6))]) [.ret (.lit (.bl false))] []]
def wx:SS:=.asg (.nm 2) (.call 20 [.bi .add (.slc (.var 0) (.var 1) (.lit .non)) (.slc (.var 0) (.lit .non) (.var 1))])
def eI:SS:=.asg (.nm 3) (.call 434 [.var 2])
def cI:SS:=.ite (.cm .eq (.call 22 [.var 2,.lit (.int 3)]) (.lit (.int 0))) [.asg (.nm 4) (.call 22 [.var 2,.fn .len [.var 3]]),.asg (.nm 3) (.bi .add (.bi .add (.slc (.var 3) (.lit .non) (.var 4)) (.call 23 [.var 2,.lst [.lit (.str "("),.lit (.str ")"),.lit (.str ","),.lit (.str ""),.lit (.str "A"),.lit (.str " ")]])) (.slc (.var 3) (.bi .add (.var 4) (.lit (.int 1))) (.lit .non)))] []
def mh:SS:=.asg (.tp [.nm 5,.nm 6]) (.tup [.call 480 [.var 3],.call 481 [.var 3,.lit (.int 0)]])
def iw:SS:=.ite (.band [.cm .is (.var 5) (.lit .non),.bor [.bnot (.isa [0,1,4,14,5] [.cls 14] (.var 6)),.cm .ne (.ofn true (zz 14 "line") [.var 6]) (.lit (.int 0))]]) [.ret (.lit (.bl false))] []
def iy:SS:=.ite (.band [.cm .isnot (.var 5) (.lit .non),.bnot (.isa [0,1,4,14,5] [.cls 1] (.var 6))]) [.ret (.lit (.bl false))] []
def mi:SS:=.asg (.nm 7) (.call 22 [.var 2,.lit (.int 5)])
def mj:SS:=.asg (.nm 6) (.call 481 [.bi .add (.bi .add (.bi .add (.ofn true c0 [.lit (.str "a(b)\n"),.var 7]) (.var 3)) (.lit (.str "\n"))) (.ofn true c0 [.lit (.str "-\n"),.call 22 [.var 2,.lit (.int 3)]]),.lit (.int 1)])
def iz:SS:=.ite (.band [.cm .is (.var 5) (.lit .non),.bor [.bnot (.isa [0,1,4,14,5] [.cls 14] (.var 6)),.cm .ne (.ofn true (zz 14 "line") [.var 6]) (.var 7)]]) [.ret (.lit (.bl false))] []
def u9:SS:=.ite (.band [.cm .isnot (.var 5) (.lit .non),.bnot (.isa [0,1,4,14,5] [.cls 1] (.var 6))]) [.ret (.lit (.bl false))] []
theorem ue:rM = [wx,eI,cI,mh,iw,iy,mi,mj,iz,u9]:=rfl
theorem Fu:Ba = [.for (.nm 1) (.range [.fn .max2 [.lit (.int 1),.fn .min2 [.lit (.int 6),.fn .len [.var 0]]]]) rM,.ret (.lit (.bl true))]:=rfl
end
end K72
namespace PL
open PySem PySem.Spec PyProof.Rows L2 PV
def gj:SE:=(.cm .isin (.var 1) (.glo "LETTERS" (.str "abcdefghijklmnopqrstuvwxyz")))
theorem rN:kr = [.ite (.bor [.bnot (.isa [20] [.str] (.var 0)),.bnot (.cm2 .le .le (.lit (.int 1)) (.fn .len [.var 0]) (.glo "MOST_LETTERS" (.int 8)))]) [.ret (.lit (.bl false))] [],.ret (.fn .all [.comp .lst gj [1] (.nm 1) (.of (.var 0)) []])]:=rfl
def lj:SE:=(.bi .sub (.var 2) (.bi .pow (.lit (.int 10)) (.lit (.int 18))))
def ll:List SE:=[.cm .ge (.var 2) (.bi .pow (.lit (.int 10)) (.lit (.int 18)))]
theorem xu:mF = [.asg (.nm 1) (.comp .lst lj [2] (.nm 2) (.of (.var 0)) ll),.ret (.dct (ip [(.lit (.str "large"),.mv 1),(.lit (.str "cells"),.frz (.fn .list [.var 0])),(.lit (.str "rest"),.lit (.int 0)),(.lit (.str "turn"),.lit (.int 0))]))]:=rfl
def lr:List SS:=[.asg (.nm 3) (.bi .mod (.fn .int [.bi .add (.bi .mul (.var 3) (.lit (.int 48271))) (.var 4)]) (.var 2))]
def iM:List SS:=[.asg (.nm 3) (.bi .add (.bi .mul (.lit (.int 104729)) (.idx (.var 0) (.lit (.str "turn")))) (.bi .fdiv (.var 2) (.lit (.int 7)))),.for (.nm 4) (.of (.idx (.var 0) (.lit (.str "cells")))) lr,.asg (.nm 1) (.bi .add (.bi .mul (.var 1) (.lit (.int 2147483647))) (.bi .mod (.fn .int [.bi .pow (.var 3) (.lit (.int 5))]) (.var 2)))]
theorem xw:mG = [.sub 0 [.lit (.str "turn")] (.bi .add (.idx (.var 0) (.lit (.str "turn"))) (.lit (.int 1))),.asg (.nm 1) (.lit (.int 0)),.for (.nm 2) (.of (.lst [.lit (.int 2147483629),.lit (.int 2147483587),.lit (.int 2147483579),.lit (.int 2147483563),.lit (.int 2147483549),.lit (.int 2147483543)])) iM,.ret (.mv 1)]:=rfl
theorem zl:i8 = [.ite (.cm .eq (.idx (.var 0) (.lit (.str "rest"))) (.lit (.int 0))) [.sub 0 [.lit (.str "rest")] (.ite (.pkcm .ne 0 [.lit (.str "large")] (.lst [])) (.mu .popAt 0 [.lit (.str "large")] [.lit (.int 0)]) (.call 21 [.var 0]))] [],.asg (.nm 2) (.bi .mod (.fn .int [.idx (.var 0) (.lit (.str "rest"))]) (.var 1)),.sub 0 [.lit (.str "rest")] (.bi .fdiv (.idx (.var 0) (.lit (.str "rest"))) (.var 1)),.ret (.mv 2)]:=rfl
theorem uf:l6 = [.ret (.idx (.var 1) (.call 22 [.var 0,.fn .len [.var 1]]))]:=rfl
def bc:List SS:=[.ite (.bor [.bnot (.isa [20] [.tuple] (.var 4)),.cm .ne (.fn .len [.var 4]) (.lit (.int 2)),.bnot (.call 2 [.idx (.var 4) (.lit (.int 0))])]) [.ret (.lit (.bl false))] [],.exp (.mu .append 1 [] [.idx (.var 4) (.lit (.int 0))]),.ite (.cm .gt (.fn .len [.var 1]) (.glo "MOST_NAMES" (.int 12))) [.ret (.lit (.bl false))] [],.exp (.mu .append 2 [] [.idx (.var 4) (.lit (.int 1))])]
def cj:List SS:=[.asg (.nm 3) (.mu .pop 2 [] []),.ite (.bnot (.isa [20] [.tuple] (.var 3))) [.ret (.lit (.bl false))] [],.for (.nm 4) (.of (.var 3)) bc]
def mS:SS:=.asg (.tp [.nm 1,.nm 2]) (.tup [.lst [],.lst [.var 0]])
def sS:SS:=.whl (.cm .ne (.var 2) (.lst [])) cj
def sU:SS:=.ret (.cm .eq (.fn .lenset [.var 1]) (.fn .len [.var 1]))
theorem wy:i9 = [mS,sS,sU]:=rfl
theorem wz:i9 = [.asg (.tp [.nm 1,.nm 2]) (.tup [.lst [],.lst [.var 0]]),.whl (.cm .ne (.var 2) (.lst [])) cj,.ret (.cm .eq (.fn .lenset [.var 1]) (.fn .len [.var 1]))]:=rfl
def lu:List SS:=[.exp (.mu .append 1 [] [.tup [.var 2,.lit (.int 0)]]),.exp (.mu .extend 1 [] [.call 4 [.var 3]]),.exp (.mu .append 1 [] [.tup [.var 2,.lit (.int 1)]])]
theorem xy:ku = [.asg (.nm 1) (.lst []),.for (.tp [.nm 2,.nm 3]) (.of (.var 0)) lu,.ret (.mv 1)]:=rfl
def hU:SE:=(.var 3)
def hV:List SE:=[.cm .eq (.var 4) (.lit (.int 0))]
def bz:List SS:=[.ite (.cm .eq (.var 4) (.lit (.int 0))) [.sub 0 [.var 3,.lit (.exc 20 [.str "above",.non])] (.ite (.cm .ne (.var 2) (.lst [])) (.idx (.var 2) (.un .neg (.lit (.int 1)))) (.lit .non)),.exp (.mu .append 2 [] [.var 3])] [.exp (.mu .pop 2 [] [])]]
theorem ml:fb = [.ite (.bnot (.call 3 [.var 1])) [.rse 1 [.lit (.str "not the shape of a tree")]] [],.fld 0 20 "own_shape" (.var 1),.fld 0 20 "own_walk" (.fn .tuple [.call 4 [.var 1]]),.fld 0 20 "own_names" (.fn .tuple [.comp .lst hU [3,4] (.tp [.nm 3,.nm 4]) (.of (.fld 20 (.var 0) "own_walk")) hV]),.asg (.tp [.fl 0 20 "above",.nm 2]) (.tup [.dct [],.lst []]),.for (.tp [.nm 3,.nm 4]) (.of (.fld 20 (.var 0) "own_walk")) bz]:=rfl
end PL
local macro_rules | `(tactic| simp_arith $c:optConfig [$xs,*] $[$l:location]?) => `(tactic| simp $c:optConfig [PV.dU, PV.aG, PV.bZ, PV.kG, PV.dB, PV.jR, PV.bN, PV.kh, PV.cZ, PV.il, PV.d7, PV.lC, PV.p5, PV.ki, PV.ev, PV.ai, PV.bB, PV.mN, PV.w3, PV.eW, PV.fH, PV.iU, PV.iB, PV.pZ, PV.fD, PV.iV, PV.dH, PV.bL, PV.setPath, PV.p4, PV.qz, PV.eT, PV.jq, PV.oE, PV.bj, PV.fM, PV.jk, PV.ip, PV.Res.noX, PV.jQ, PV.Fl.whl, PV.fz, List.lookup, PV.putD, PySem.sizeLine_eq, $xs,*] $[$l:location]?)
local macro_rules | `(tactic| simp_arith! $c:optConfig [$xs,*] $[$l:location]?) => `(tactic| simp $c:optConfig [PV.dU, PV.aG, PV.bZ, PV.kG, PV.dB, PV.jR, PV.bN, PV.kh, PV.cZ, PV.il, PV.d7, PV.lC, PV.p5, PV.ki, PV.ev, PV.ai, PV.bB, PV.mN, PV.w3, PV.eW, PV.fH, PV.iU, PV.iB, PV.pZ, PV.fD, PV.iV, PV.dH, PV.bL, PV.setPath, PV.p4, PV.qz, PV.eT, PV.jq, PV.oE, PV.bj, PV.fM, PV.jk, PV.ip, PV.Res.noX, PV.Fl.whl, PV.fz, List.lookup, PV.putD, PySem.sizeLine_eq, $xs,*] $[$l:location]?)
local macro_rules | `(tactic| simp! $c:optConfig [$xs,*] $[$l:location]?) => `(tactic| simp $c:optConfig [PV.dU, PV.aG, PV.bZ, PV.kG, PV.dB, PV.jR, PV.bN, PV.kh, PV.cZ, PV.il, PV.d7, PV.lC, PV.p5, PV.ki, PV.ev, PV.ai, PV.bB, PV.mN, PV.w3, PV.eW, PV.fH, PV.iU, PV.iB, PV.pZ, PV.fD, PV.iV, PV.dH, PV.bL, PV.setPath, PV.p4, PV.bA, PV.jP, PV.eV, PV.qz, PV.eT, PV.jq, PV.oE, PV.bj, PV.fM, PV.jk, PV.ip, PV.Res.noX, PV.jQ, PV.Fl.whl, PV.fz, List.lookup, PV.putD, PySem.sizeLine_eq, $xs,*] $[$l:location]?)
namespace PV.K1
open PySem L2 PL
abbrev stK:List D:=[.str "large",.str "cells",.str "rest",.str "turn"]
def sC (ls cs:List Int) (r t:Int):O:=.dic stK [.lst (ls.map fun i=>.d (.int i)),.d (.lst (cs.map .int)),.d (.int r),.d (.int t)]
theorem dz:bG (.str "large") stK=true:=rfl
theorem dA:bG (.str "cells") stK=true:=rfl
theorem eP:bG (.str "rest") stK=true:=rfl
theorem eQ:bG (.str "turn") stK=true:=rfl
theorem eR:dG (.str "large") stK=some 0:=by decide +kernel
theorem eS:dG (.str "cells") stK=some 1:=by decide +kernel
theorem gk:dG (.str "rest") stK=some 2:=by decide +kernel
theorem gn:dG (.str "turn") stK=some 3:=by decide +kernel
theorem fc:∀ {ks vs:List D}{k:D},bK k ks vs=(dG k ks).bind fun n=>vs[n]?
 | [],vs,k=>by cases vs <;> rfl
 | j::ks,[],k=>by
  show none=_
  unfold dG
  split
  ·rfl
  ·cases dG k ks <;> rfl
 | j::ks,v::vs,k=>by
  show(if keyOf j=keyOf k∧aI j=aI k then some v else bK k ks vs)=_
  unfold dG
  split
  ·rfl
  ·rw [fc]
   cases dG k ks <;> rfl
theorem pS {f:D→Env→Res (Option O)}{p:Int→Bool}{g:Int→O}{ρ:Env}:∀ {xs:List Int},(∀ x,f (.int x) ρ = .ok (if p x then some (g x)else none) ρ)→aK f (xs.map .int) ρ = .ok ((xs.filter p).map g) ρ
 | [],_=>rfl
 | x::xs,h=>by
  rw [List.map_cons,aK,h x]
  simp only [Res.bind_ok]
  rw [pS h,List.filter_cons]
  cases p x <;> rfl
theorem C5:keysOf stK=some [.inr "large",.inr "cells",.inr "rest",.inr "turn"]:=rfl
def Gd (n:Nat) (o:O):Prop:=∃ ls cs r t,o=sC ls cs r t∧0≤t∧t≤(n:Int)
theorem Gd.mono {n m:Nat}{o:O} (h:Gd n o) (l:n≤m):Gd m o:=by
 obtain⟨ls,cs,r,t,e,h1,h2⟩:=h
 exact⟨ls,cs,r,t,e,h1,by omega⟩
theorem rO {f:D→Env→Res Fl}{st found prime:Option O}{p:Int} (hp:0 < p) (hp2:p < 2 ^ 40)
  (h:∀ c b x:Int,∀ y,f (.int c) [st,found,prime,some (.d (.int b)),y] = .ok .nx [st,found,prime,some (.d (.int ((b * 48271+c) % p))),some (.d (.int c))]) :
  ∀ (cs:List Int) (b:Int) (y:Option O),b.natAbs < 2 ^ 60→∃ b' y',forL f (cs.map .int) [st,found,prime,some (.d (.int b)),y] = .ok .nx [st,found,prime,some (.d (.int b')),y']∧b'.natAbs < 2 ^ 60
 | [],b,y,hb=>⟨b,y,rfl,hb⟩
 | c::cs,b,y,hb=>by
  have l1:0≤(b * 48271+c) % p:=Int.emod_nonneg _ (by omega)
  have l2:(b * 48271+c) % p < p:=Int.emod_lt_of_pos _ hp
  obtain⟨b',y',e,hb'⟩:=rO hp hp2 h cs ((b * 48271+c) % p) (some (.d (.int c))) (by omega)
  exact⟨b',y',by rw [List.map_cons,forL,h c b 0]; simpa using e,hb'⟩
theorem Bj {Φ:cW}{ls cs:List Int}{r t:Int} (h0:0≤t) (h1:t < 2 ^ 40) {p fo:Int} (hp:0 < p) (hp2:p < 2 ^ 32) {y b c:Option O} :
  ∃ fo' b' c',(bnd (aE (.nm 2) (.int p) [some (sC ls cs r t),some (.d (.int fo)),y,b,c]) fun ρ=>aG Φ iM ρ) = .ok .nx [some (sC ls cs r t),some (.d (.int fo')),some (.d (.int p)),b',c']:=by
 obtain⟨b',c',e,hb⟩:=rO (f:=fun x ρ=>bnd (aE (.nm 4) x ρ) fun ρ=>aG Φ lr ρ) (st:=some (sC ls cs r t)) (found:=some (.d (.int fo))) (prime:=some (.d (.int p))) (p:=p) hp (by omega)
  (fun c b x y=>by simp! [lr,hp]) cs (104729 * t+p / 7) c (by omega)
 refine⟨fo * 2147483647+b' ^ 5 % p,some (.d (.int b')),c',?_⟩
 have hd:(0:Int) < p∧p < 18446744073709551616:=by omega
 have hb':b'.natAbs < 18446744073709551616:=by omega
 simp! [iM,sC,fc,dz,dA,eP,eQ,eR,eS,gk,gn]at e ⊢
 simp! [e,fc,dz,dA,eP,eQ,eR,eS,gk,gn,hd.1,hb']
theorem wA {Φ:cW}{ls cs:List Int}{r t:Int} (h0:0≤t) (h1:t < 2 ^ 40):∀ (ps:List Int),(∀ p∈ps,0 < p∧p < 2 ^ 32)→∀ (fo:Int) (y b c:Option O), 
  ∃ fo' y' b' c',forL (fun x ρ=>bnd (aE (.nm 2) x ρ) fun ρ=>aG Φ iM ρ) (ps.map .int) [some (sC ls cs r t),some (.d (.int fo)),y,b,c] = .ok .nx [some (sC ls cs r t),some (.d (.int fo')),y',b',c']
 | [],_,fo,y,b,c=>⟨fo,y,b,c,rfl⟩
 | p::ps,hp,fo,y,b,c=>by
  obtain⟨f1,b1,c1,e1⟩:=Bj (Φ:=Φ) (ls:=ls) (cs:=cs) (r:=r) h0 h1 (hp p List.mem_cons_self).1 (hp p List.mem_cons_self).2 (fo:=fo) (y:=y) (b:=b) (c:=c)
  obtain⟨f2,y2,b2,c2,e2⟩:=wA h0 h1 ps (fun q hq=>hp q (List.mem_cons_of_mem _ hq)) f1 (some (.d (.int p))) b1 c1
  exact⟨f2,y2,b2,c2,by rw [List.map_cons,forL,e1]; exact e2⟩
theorem mixed {ls cs:List Int}{r t:Int} (h0:0≤t) (h1:t < 2 ^ 32):∃ v:Int,iP [sC ls cs r t] = .ok (.d (.int v)) [sC ls cs r (t+1)]:=by
 obtain⟨v,y,b,c,e⟩:=wA (Φ:=fz []) (ls:=ls) (cs:=cs) (r:=r) (t:=t+1) (by omega) (by omega) [2147483629,2147483587,2147483579,2147483563,2147483549,2147483543] (by decide) 0 none none none
 refine⟨v,(aX (by rfl) (by rfl)).trans ?_⟩
 rw [xw]
 simp! [sC,fc,dz,dA,eP,eQ,eR,eS,gk,gn]at e ⊢
 simp! [e]
theorem wB (n:Nat):∀ xs:List Int,D.okdL n (xs.map .int)=true
 | []=>by rw [List.map_nil,D.okdL]
 | x::xs=>by
  rw [List.map_cons,D.okdL,wB n xs]
  cases n <;> simp [D.okd]
theorem take {n:Nat}{o:O}{s:Int} (g:Gd n o) (hn:n < 2 ^ 31) (h0:0 < s) (h1:s < 1073741824):∃ (v:Int) (o':O),bH [o,.d (.int s)] = .ok (.d (.int v)) [o',.d (.int s)]∧0≤v∧v < s∧Gd (n+1) o':=by
 obtain⟨ls,cs,r,t,rfl,t0,t1⟩:=g
 have key:∃ (v:Int) (o':O),dU (fz [(21,iP)]) i8 3 [sC ls cs r t,.d (.int s)] = .ok (.d (.int v)) [o',.d (.int s)]∧0≤v∧v < s∧Gd (n+1) o':=by
  rw [zl]
  by_cases hr:r=0
  ·cases ls with
   | nil =>
    obtain⟨v,e⟩:=mixed (ls:=[]) (cs:=cs) (r:=r) t0 (by omega)
    refine⟨v % s,sC [] cs (v / s) (t+1),?_,Int.emod_nonneg _ (by omega),Int.emod_lt_of_pos _ h0,_,_,_,_,rfl,by omega,by omega⟩
    simp! [sC,fc,dz,dA,eP,eQ,eR,eS,gk,gn,hr,bO]at e ⊢
    simp! [e,fc,dz,dA,eP,eQ,eR,eS,gk,gn,h0,h1,lL,D.okd,D.okdL,D.eqd,D.eqdL]
   | cons l ls =>
    refine⟨l % s,sC ls cs (l / s) t,?_,Int.emod_nonneg _ (by omega),Int.emod_lt_of_pos _ h0,_,_,_,_,rfl,by omega,by omega⟩
    have ho:D.okdL 149 (ls.map D.int)=true:=wB _ _
    simp! [sC,fc,dz,dA,eP,eQ,eR,eS,gk,gn,hr,bO]
    simp! [fc,dz,dA,eP,eQ,eR,eS,gk,gn,h0,h1,lL,D.okd,D.okdL,D.eqd,D.eqdL,ho,Function.comp_def,ixN]
  ·refine⟨r % s,sC ls cs (r / s) t,?_,Int.emod_nonneg _ (by omega),Int.emod_lt_of_pos _ h0,_,_,_,_,rfl,by omega,by omega⟩
   have hr':(r == 0)=false:=by simpa using hr
   simp! [sC,fc,dz,dA,eP,eQ,eR,eS,gk,gn,hr',bO]
   simp! [fc,dz,dA,eP,eQ,eR,eS,gk,gn,h0,h1]
 obtain⟨v,o',e,q⟩:=key
 exact⟨v,o',(aX (by rfl) (by rfl)).trans e,q⟩
end PV.K1
namespace PV.K1
open PySem L2 PL
@[simp] theorem wC {ls cs:List Int}{r t:Int}{i:Nat}{ρ:Env}:aB.taken (sC ls cs r t) i ρ=ρ.set i none:=rfl
@[simp] theorem JA {ls cs:List Int}{r t:Int}{os:List O}{o:O}{ρ:Env}:bj (sC ls cs r t::os) (some o::ρ)=(bj os ρ).map (o :: ·):=rfl
@[simp] theorem Ik {xs:List O}{os:List O}{o:O}{ρ:Env}:bj (.lst xs::os) (some o::ρ)=(bj os ρ).map (o :: ·):=rfl
theorem Gd.st {n:Nat}{o:O} (g:Gd n o):∃ ls cs r t,o=sC ls cs r t:=by
 obtain⟨ls,cs,r,t,e,_⟩:=g
 exact⟨ls,cs,r,t,e⟩
abbrev wD (e:Int):O:=.d (.int e)
theorem yy {α:Type}{xs:List α}{v:Int} (h0:0≤v) (h1:v < xs.length):∃ x∈xs,atI xs v=some x:=by
 have hl:v.toNat < xs.length:=by omega
 refine⟨xs[v.toNat],List.getElem_mem _,?_⟩
 have:=atI_nat (xs:=xs) (j:=v.toNat) (v:=xs[v.toNat]) (List.getElem?_eq_getElem hl)
 rwa [show((v.toNat:Nat):Int)=v by omega]at this
theorem yz {α β:Type}{f:α→β}{xs:List α}{v:Int}:atI (xs.map f) v=(atI xs v).map f:=by
 unfold atI
 rw [List.length_map]
 cases ixN xs.length v <;> simp
theorem pick {n:Nat}{o:O}{es:List Int} (g:Gd n o) (hn:n < 2 ^ 31) (he:es≠[]) (hl:es.length < 1000):∃ (e:Int) (o':O),dc [o,.lst (es.map wD)] = .ok (.d (.int e)) [o',.lst (es.map wD)]∧e∈es∧Gd (n+1) o':=by
 have hp:0 < es.length:=List.length_pos_iff.mpr he
 obtain⟨v,o',e,v0,v1,g'⟩:=take (s:=(es.length:Int)) g hn (by omega) (by omega)
 obtain⟨ls,cs,r,t,rfl⟩:=g.st
 obtain⟨x,hx,e2⟩:=yy (xs:=es) v0 v1
 refine⟨x,o',(aX (by rfl) (by rfl)).trans ?_,hx,g'⟩
 rw [uf]
 simp! [Function.comp_def,wD]
 simp! [e,wD,yz,e2]
abbrev C6:Str := "abcdefghijklmnopqrstuvwxyz"
structure dJ (s:Str):Prop where
 lo:1≤s.length
 hi:s.length≤8
 ab:∀ c∈s.cps.toList,c∈C6.cps.toList
def cO (s:Str):Bool:=decide (1≤s.length)&&(decide (s.length≤8)&&s.cps.toList.all fun c=>decide (c∈C6.cps.toList))
theorem mm {s:Str} (h:cO s=true):dJ s:=by
 unfold cO at h
 simp only [Bool.and_eq_true,decide_eq_true_eq,List.all_eq_true]at h
 exact⟨h.1,h.2.1,h.2.2⟩
abbrev w1:Str := "tree drop undo lasting ring room range periods fewest trees none ok no row"
abbrev ch (c:Nat):Str:=⟨#[c]⟩
abbrev cP (s:Str):O:=.d (.str s)
theorem strs_map:∀ xs:List Str,fL (xs.map .str)=some xs
 | []=>rfl
 | x::xs=>by rw [List.map_cons,fL,strs_map xs]; rfl
end PV.K1
namespace PV.K1
open PySem L2 PL
theorem og {α:Type}{f:D→Env→Res (Option O)}{a:α→D}{p:α→Bool}{g:α→O}{ρ:Env}:∀ {xs:List α},(∀ x∈xs,f (a x) ρ = .ok (if p x then some (g x)else none) ρ)→aK f (xs.map a) ρ = .ok ((xs.filter p).map g) ρ
 | [],_=>rfl
 | x::xs,h=>by
  rw [List.map_cons,aK,h x List.mem_cons_self]
  simp only [Res.bind_ok]
  rw [og fun y hy=>h y (List.mem_cons_of_mem _ hy),List.filter_cons]
  cases p x <;> rfl
theorem comp_map {α:Type}{f:D→Env→Res (Option O)}{a:α→D}{g:α→O}{ρ:Env}{xs:List α} (h:∀ x∈xs,f (a x) ρ = .ok (some (g x)) ρ):aK f (xs.map a) ρ = .ok (xs.map g) ρ:=by
 have:=og (f:=f) (a:=a) (p:=fun _=>true) (g:=g) (ρ:=ρ) (xs:=xs) (by simpa using h)
 rwa [List.filter_eq_self.mpr (by simp)]at this
@[simp] theorem G9 {α:Type}{x:α}{xs:List α}:atI (x::xs) 0=some x:=atI_nat (j:=0) rfl
theorem ig {n:Nat}{s:Str}:D.okd n (.str s)=true:=by cases n <;> rw [D.okd]
theorem wF {n:Nat}:∀ xs:List Str,D.okdL n (xs.map .str)=true
 | []=>by rw [List.map_nil,D.okdL]
 | x::xs=>by rw [List.map_cons,D.okdL,wF xs,ig]; rfl
theorem xA {s t:Str}:D.eqd (.str s) (.str t)=decide (s=t):=by
 rw [D.eqd]
 rfl
end PV.K1
namespace PV.K1
open PySem L2 PL
abbrev Ent:Type:=Str×Bool
def iF (e:Ent):D:=.tup [.str e.1,.int (if e.2 then 1 else 0)]
def kz (w:List Ent):O:=.lst (w.map fun e=>.d (iF e))
def dl (e:Ent):Int:=if e.2 then -1 else 1
def opens (w:List Ent):List Str:=(w.filter fun e=>! e.2).map (·.1)
theorem Bk {α:Type}{f:α→D}{w:List α}{k:D}{r:O}:cb (.lst (w.map fun e=>.d (f e))) k r = .lst (w.map fun e=>.d (f e)):=by
 have hs:O.shal (.lst (w.map fun e=>.d (f e))) = .lst (w.map fun e=>.d (f e)):=by
  show O.lst _=_
  rw [List.map_map]
  refine congrArg O.lst (List.map_congr_left fun e _=>?_)
  exact congrArg O.d cU
 unfold cb
 split
 ·rfl
 ·cases k with
  | int i =>
   rw [CM]
   cases q:ixN (w.map fun e=>O.d (f e)).length i with
   | none=>exact hs
   | some j =>
    cases q2:(w.map fun e=>O.d (f e))[j]? with
    | none=>simp only [q2]; exact hs
    | some y =>
     simp only [q2]
     have hm:=List.mem_of_getElem? q2
     obtain⟨e,_,rfl⟩:=List.mem_map.mp hm
     refine congrArg O.lst ?_
     rw [cU]
     obtain⟨hl,he⟩:=List.getElem?_eq_some_iff.mp q2
     rw [← he]
     exact List.set_getElem_self hl
  | _=>exact hs
theorem wG {lo:Int}{n:Nat}:fK lo (n+1) = .int lo::fK (lo+1) n:=by
 unfold fK
 rw [List.range_succ_eq_map,List.map_cons,List.map_map]
 refine congr (congrArg List.cons (by simp)) (List.map_congr_left fun i _=>?_)
 show D.int (lo+((i+1:Nat):Int))=D.int (lo+1+(i:Int))
 congr 1
 omega
end PV.K1
namespace PV.K1
open PySem L2 PL
@[simp] theorem Il {w:List Ent}{i:Nat}{ρ:Env}:aB.taken (kz w) i ρ=ρ.set i none:=rfl
@[simp] theorem Ks {w:List Ent}{os:List O}{o:O}{ρ:Env}:bj (kz w::os) (some o::ρ)=(bj os ρ).map (o :: ·):=rfl
theorem Ha {w:List Ent}:(kz w).frz = .lst (w.map iF):=by
 unfold kz
 rw [oS,List.map_map]
 refine congrArg D.lst (List.map_congr_left fun e _=>cU)
end PV.K1
namespace PV.K1
open PySem L2 PL
inductive F where
 | nil
 | node (x:Str) (a b:F)
def F.walk:F→List Ent
 | .nil=>[]
 | .node x a b=>(x,false)::(a.walk++(x,true)::b.walk)
def F.shape:F→List D
 | .nil=>[]
 | .node x a b=>.tup [.str x,.tup a.shape]::b.shape
def F.names:F→List Str
 | .nil=>[]
 | .node x a b=>x::(a.names++b.names)
def F.size:F→Nat
 | .nil=>0
 | .node _ a b=>1+a.size+b.size
def F.pars (p:D):F→List D
 | .nil=>[]
 | .node x a b=>p::(a.pars (.str x)++b.pars p)
theorem F.opens_walk:∀ f:F,opens f.walk=f.names
 | .nil=>rfl
 | .node x a b=>by
  show opens ((x,false)::(a.walk++(x,true)::b.walk))=x::(a.names++b.names)
  rw [← F.opens_walk a,← F.opens_walk b]
  unfold opens
  simp
theorem F.names_len:∀ f:F,f.names.length=f.size
 | .nil=>rfl
 | .node x a b=>by
  show(x::(a.names++b.names)).length=1+a.size+b.size
  rw [List.length_cons,List.length_append,F.names_len a,F.names_len b]
  omega
theorem F.walk_len:∀ f:F,f.walk.length=2 * f.size
 | .nil=>rfl
 | .node x a b=>by
  show((x,false)::(a.walk++(x,true)::b.walk)).length=2 * (1+a.size+b.size)
  rw [List.length_cons,List.length_append,List.length_cons,F.walk_len a,F.walk_len b]
  omega
@[simp] theorem zm {xs:List D}:xs.map (O.frz∘O.d)=xs:=by
 rw [show O.frz∘O.d=id from funext fun x=>cU,List.map_id]
end PV.K1
namespace PV.K1
open PySem L2 PL
theorem ug {x:Str}:∀ {ns:List Str},bG (.str x) (ns.map .str)=true:=by
 intro ns
 have h:((ns.map D.str).all fun j=>(keyOf j).isSome)=true:=by
  rw [List.all_eq_true]
  intro j hj
  obtain⟨s,_,rfl⟩:=List.mem_map.mp hj
  rfl
 show(((keyOf (.str x)).isSome&&(ns.map D.str).all fun j=>(keyOf j).isSome)||_)=true
 rw [h]
 rfl
theorem C7 {x y:Str}:(keyOf (.str x)=keyOf (.str y)∧aI (.str x)=aI (.str y))↔x=y:=by
 constructor
 ·intro h
  have h1:(some (Sum.inr x):Option Key)=some (Sum.inr y):=h.1
  injection h1 with h1
  injection h1
 ·rintro rfl
  exact⟨rfl,rfl⟩
theorem rP {x:Str}:∀ {ns:List Str},x∉ns→dG (.str x) (ns.map .str)=none
 | [],_=>rfl
 | y::ns,h=>by
  rw [List.map_cons]
  show(if keyOf (.str y)=keyOf (.str x)∧aI (.str y)=aI (.str x)then some 0 else(dG (.str x) (ns.map .str)).map (· + 1))=none
  rw [if_neg (fun z=>h (by rw [C7.mp z]; exact List.mem_cons_self)),rP fun z=>h (List.mem_cons_of_mem _ z)]
  rfl
abbrev F.dicD (f:F):D:=.dic (f.names.map .str) (f.pars .non)
abbrev F.dicO (f:F):O:=.dic (f.names.map .str) ((f.pars .non).map .d)
theorem pT {α:Type}:∀ xs:List α,fJ (xs.map fun _=>D.bl true)=some (xs.map fun _=>true)
 | []=>rfl
 | x::xs=>by rw [List.map_cons,fJ,pT xs]; rfl
theorem va {s:Str} (h:dJ s):aS [.d (.str s)] = .ok (.d (.bl true)) [.d (.str s)]:=by
 refine(aX (by rfl) (by rfl)).trans ?_
 rw [rN]
 have h1:(1:Int)≤s.length∧(s.length:Int)≤8∧s.length≤16777216:=by
  have:=h.lo
  have:=h.hi
  omega
 have e:aK (fun x ρ=>bnd (aE (.nm 1) x ρ) fun ρ=>(cZ (fz []) [] ρ).bind fun b ρ=>kg b ((ev (fz []) gj ρ).bind fun o ρ=>.ok (some o) (ai [1] ρ)) (.ok none (ai [1] ρ))) (s.cps.toList.map fun c=>.str ⟨#[c]⟩) [some (.d (.str s)),none] = .ok (s.cps.toList.map fun _=>.d (.bl true)) [some (.d (.str s)),none]:=by
  refine comp_map fun c hc=>?_
  have:=h.ab c hc
  simp! [gj,this]
 simp! [dU]at e
 simp! [h1.1,h1.2.1,h1.2.2]
 simp! [e,h1.1,h1.2.1,h1.2.2,Function.comp_def,pT]
end PV.K1
namespace PV.K1
open PySem L2 PL
theorem oh {f:Env→Res (Option Fl)}:∀ {n:Nat}{ρ:Env}{r:Res Fl} (m:Nat),cY f n ρ=some r→cY f (n+m) ρ=some r
 | 0,ρ,r,m,h=>by cases h
 | n+1,ρ,r,m,h=>by
  rw [show n+1+m=(n+m)+1 by omega]
  unfold cY at h ⊢
  split at h
  ·exact oh m h
  ·exact h
  ·exact h
  ·exact h
theorem ni {f:Env→Res (Option Fl)}{n:Nat}{ρ:Env}{r:Res Fl} (h:cY f n ρ=some r):B3 f ρ=r:=by
 have ex:∃ n r,cY f n ρ=some r:=⟨n,r,h⟩
 unfold B3
 rw [dif_pos ex]
 have q:=(Classical.choose_spec ex).choose_spec
 have e1:=oh (f:=f) n q
 have e2:=oh (f:=f) (Classical.choose ex) h
 rw [Nat.add_comm]at e1
 rw [e1]at e2
 exact Option.some.inj e2
theorem zr:∀ {xs:List Str},xs.Nodup→met xs=xs:=by
 have key:∀ (xs acc:List Str),(acc++xs).Nodup→xs.foldl iT acc=acc++xs:=by
  intro xs
  induction xs with
  | nil=>intro acc _; simp
  | cons x xs ih =>
   intro acc nd
   have hx:x∉acc:=fun z=>(List.nodup_append.mp nd).2.2 x z x List.mem_cons_self rfl
   have hs:iT acc x=acc++[x]:=by
    unfold iT
    rw [if_neg]
    intro z
    obtain⟨y,hy,e⟩:=List.any_eq_true.mp z
    exact hx (eq_of_beq e ▸ hy)
   rw [List.foldl_cons,hs,ih (acc++[x]) (by simpa using nd)]
   simp
 intro xs nd
 exact key xs [] (by simpa using nd)
def F.heads:F→List Str
 | .nil=>[]
 | .node x _ b=>x::b.heads
def F.inners:F→List F
 | .nil=>[]
 | .node _ a b=>a::b.inners
def ck:List F→Nat
 | []=>0
 | f::fs=>f.size+ck fs
def bq:List F→List Str
 | []=>[]
 | f::fs=>f.names++bq fs
theorem cf:∀ a b:List F,ck (a++b)=ck a+ck b
 | [],b=>by simp [ck]
 | f::a,b=>by rw [List.cons_append,ck,ck,cf a b]; omega
theorem cA:∀ a b:List F,bq (a++b)=bq a++bq b
 | [],b=>rfl
 | f::a,b=>by rw [List.cons_append,bq,bq,cA a b,List.append_assoc]
theorem F.size_heads:∀ f:F,f.size=f.heads.length+ck f.inners
 | .nil=>rfl
 | .node x a b=>by
  show 1+a.size+b.size=(x::b.heads).length+ck (a::b.inners)
  rw [List.length_cons,ck,F.size_heads b]
  omega
theorem F.inners_len:∀ f:F,f.inners.length=f.heads.length
 | .nil=>rfl
 | .node x a b=>by
  show(a::b.inners).length=(x::b.heads).length
  rw [List.length_cons,List.length_cons,F.inners_len b]
theorem F.names_heads:∀ f:F,(f.heads++bq f.inners).Perm f.names
 | .nil=>.refl _
 | .node x a b=>by
  show(x::(b.heads++(a.names++bq b.inners))).Perm (x::(a.names++b.names))
  refine .cons x ?_
  have h:=F.names_heads b
  refine List.Perm.trans ?_ (h.append_left a.names)
  rw [← List.append_assoc,← List.append_assoc]
  exact List.perm_append_comm.append_right _
abbrev j8 (f:F):O:=.d (.tup f.shape)
noncomputable abbrev ΦS:cW:=fz [(2,aS)]
theorem ij {n:Nat}{i:Int}:D.okd n (.int i)=true:=by cases n <;> rw [D.okd]
theorem oi:∀ (f:F) (fs:List Str) (ps:List F) (v lv nd:Option O),(∀ s∈f.heads,dJ s)→fs.length+f.heads.length≤12→ps.length+f.heads.length≤200 →
  ∃ nd',forL (fun x ρ=>bnd (aE (.nm 4) x ρ) fun ρ=>aG ΦS bc ρ) f.shape [v,some (.lst (fs.map cP)),some (.lst (ps.map j8)),lv,nd] = .ok .nx [v,some (.lst ((fs++f.heads).map cP)),some (.lst ((ps++f.inners).map j8)),lv,nd']
 | .nil,fs,ps,v,lv,nd,_,_,_=>⟨nd,by rw [show fs++F.nil.heads=fs from List.append_nil _,show ps++F.nil.inners=ps from List.append_nil _]; rfl⟩
 | .node x a b,fs,ps,v,lv,nd,hn,h1,h2=>by
  have hh:(F.node x a b).heads=x::b.heads:=rfl
  have hi:(F.node x a b).inners=a::b.inners:=rfl
  rw [hh]at hn h1 h2
  rw [List.length_cons]at h1 h2
  obtain⟨nd',e⟩:=oi b (fs++[x]) (ps++[a]) v lv (some (.d (.tup [.str x,.tup a.shape]))) (fun s hs=>hn s (List.mem_cons_of_mem _ hs)) (by simp; omega) (by simp; omega)
  refine⟨nd',?_⟩
  have step:(bnd (aE (.nm 4) (.tup [.str x,.tup a.shape]) [v,some (.lst (fs.map cP)),some (.lst (ps.map j8)),lv,nd]) fun ρ=>aG ΦS bc ρ) = .ok .nx [v,some (.lst ((fs++[x]).map cP)),some (.lst ((ps++[a]).map j8)),lv,some (.d (.tup [.str x,.tup a.shape]))]:=by
   have k0:=va (hn x List.mem_cons_self)
   have k1:fs.length < 16777216:=by omega
   have k2:ps.length < 16777216:=by omega
   have k3:¬ (12:Int) < (fs.length:Int)+1:=by omega
   have k4:atI [D.str x,.tup a.shape] 1=some (.tup a.shape):=atI_nat (j:=1) rfl
   simp! [bc]
   simp! [k0,k1,k2,k3,k4,lL,ij,bO]
  show forL _ (D.tup [.str x,.tup a.shape]::b.shape) _=_
  rw [forL,step,hh,hi]
  refine Eq.trans (b:=forL _ b.shape _) rfl (e.trans ?_)
  simp
theorem kA {n:Nat}:∀ {xs:List D},(∀ x∈xs,D.okd n x=true)→D.okdL n xs=true
 | [],_=>by rw [D.okdL]
 | x::xs,h=>by
  rw [D.okdL,h x List.mem_cons_self,kA fun y hy=>h y (List.mem_cons_of_mem _ hy)]
  rfl
theorem wH {n:Nat}{xs ys:List D} (h1:D.okdL n xs=true) (h2:D.okdL n ys=true):D.okdL n (xs++ys)=true:=by
 induction xs with
 | nil=>exact h2
 | cons x xs ih =>
  rw [List.cons_append,D.okdL]at *
  rw [Bool.and_eq_true]at h1
  rw [h1.1,ih h1.2]
  rfl
theorem pd:∀ (f:F) (n:Nat),2 * f.size≤n→D.okdL n f.shape=true
 | .nil,n,_=>by rw [F.shape,D.okdL]
 | .node x a b,n,h=>by
  have hs:(F.node x a b).size=1+a.size+b.size:=rfl
  obtain⟨m,rfl⟩:∃ m,n=m+2:=⟨n - 2,by omega⟩
  rw [F.shape,D.okdL,pd b (m+2) (by omega),D.okd,D.okdL,ig,D.okdL,D.okd,pd a m (by omega),D.okdL]
  rfl
theorem Bl {f:F}{n:Nat} (h:2 * f.size+1≤n):D.okd n (.tup f.shape)=true:=by
 obtain⟨m,rfl⟩:∃ m,n=m+1:=⟨n - 1,by omega⟩
 rw [D.okd]
 exact pd f m (by omega)
theorem yA:∀ {ps:List F}{f:F},f∈ps→f.size≤ck ps
 | g::ps,f,h=>by
  rw [ck]
  rcases List.mem_cons.mp h with rfl | q
  ·omega
  ·have:=yA q
   omega
theorem oj {f:F}{s:Str} (h:s∈f.heads):s∈f.names:=(F.names_heads f).mem_iff.mp (List.mem_append_left _ h)
theorem uh:∀ (k:Nat) (ps:List F) (fs:List Str) (v lv nd:Option O),ps.length+ck ps=k→fs.length+ck ps≤12→ps.length+ck ps≤100→(∀ s∈bq ps,dJ s) →
  ∃ (fs':List Str) (lv' nd':Option O),cY (fun ρ=>(kh ΦS (.cm .ne (.var 2) (.lst [])) ρ).bind fun t ρ=>kg t ((aG ΦS cj ρ).bind fun f ρ=>.ok f.whl ρ) (.ok (some .nx) ρ)) (k+1) [v,some (.lst (fs.map cP)),some (.lst (ps.map j8)),lv,nd] =
   some (.ok .nx [v,some (.lst (fs'.map cP)),some (.lst []),lv',nd'])∧fs'.Perm (fs++bq ps)
 | 0,ps,fs,v,lv,nd,hk,_,_,_=>by
  have:ps = []:=List.eq_nil_of_length_eq_zero (by omega)
  subst this
  refine⟨fs,lv,nd,?_,by simp [bq]⟩
  unfold cY
  simp! [lL,D.okd,D.okdL,D.eqd,D.eqdL]
 | k+1,ps,fs,v,lv,nd,hk,h1,h2,hn=>by
  rcases List.eq_nil_or_concat ps with rfl | ⟨qs,g,rfl⟩
  ·simp [ck]at hk
  ·rw [List.concat_eq_append]at *
   have hsz:ck (qs++[g])=ck qs+g.size:=by rw [cf]; simp [ck]
   have hal:bq (qs++[g])=bq qs++g.names:=by rw [cA]; simp [bq]
   have hgh:=F.size_heads g
   have hgi:=F.inners_len g
   rw [hsz]at hk h1 h2
   rw [List.length_append,List.length_singleton]at hk h2
   rw [hal]at hn
   obtain⟨nd1,e1⟩:=oi g fs qs v (some (j8 g)) nd (fun s hs=>hn s (List.mem_append_right _ (oj hs))) (by omega) (by omega)
   obtain⟨Io,lv2,nd2,e2,h3⟩:=uh k (qs++g.inners) (fs++g.heads) v (some (j8 g)) nd1 (by rw [cf,List.length_append]; omega) (by rw [cf,List.length_append]; omega) (by rw [cf,List.length_append]; omega) (fun s hs=>by
    rw [cA]at hs
    rcases List.mem_append.mp hs with q | q
    ·exact hn s (List.mem_append_left _ q)
    ·exact hn s (List.mem_append_right _ ((F.names_heads g).mem_iff.mp (List.mem_append_right _ q))))
   refine⟨Io,lv2,nd2,?_,h3.trans ?_⟩
   ·have step:(kh ΦS (.cm .ne (.var 2) (.lst [])) [v,some (.lst (fs.map cP)),some (.lst ((qs++[g]).map j8)),lv,nd]).bind (fun t ρ=>kg t ((aG ΦS cj ρ).bind fun f ρ=>.ok f.whl ρ) (.ok (some .nx) ρ)) = .ok none [v,some (.lst ((fs++g.heads).map cP)),some (.lst ((qs++g.inners).map j8)),some (j8 g),nd1]:=by
     have ho:D.okdL 149 (qs.map (O.frz∘j8)++[D.tup g.shape])=true:=wH (kA fun x hx=>by
      obtain⟨f,hf,rfl⟩:=List.mem_map.mp hx
      have:=yA hf
      exact Bl (by omega)) (kA fun x hx=>by
      rw [List.mem_singleton.mp hx]
      exact Bl (by omega))
     simp! [dU]at e1
     simp! [lL,D.okd,D.okdL,D.eqd,D.eqdL]
     simp! [ho,cj,e1]
    unfold cY
    rw [step]
    exact e2
   ·rw [cA,hal]
    have h5:=F.names_heads g
    rw [List.append_assoc]
    refine List.Perm.append_left fs ?_
    refine List.Perm.trans (List.perm_append_comm_assoc _ _ _) ?_
    exact h5.append_left _
structure JB (f:F):Prop where
 nd:f.names.Nodup
 ok:∀ s∈f.names,dJ s
 sz:f.size≤12
theorem Bm {f:F} (h:JB f):fq [.d (.tup f.shape)] = .ok (.d (.bl true)) [.d (.tup f.shape)]:=by
 obtain⟨fs,lv,nd,e,hp⟩:=uh (1+f.size) [f] [] (some (.d (.tup f.shape))) none none (by simp [ck]) (by simpa [ck]using h.sz) (by have:=h.sz; simp [ck]; omega) (by simpa [bq]using h.ok)
 have hp2:fs.Perm f.names:=by simpa [bq]using hp
 have hnd:fs.Nodup:=hp2.nodup_iff.mpr h.nd
 have hl:fs.length≤12:=by rw [hp2.length_eq,F.names_len]; exact h.sz
 have e2:=ni e
 have hst:fL (fs.map D.str)=some fs:=strs_map fs
 have k1:fs.length≤4000:=by omega
 refine(aX (by rfl) (by rfl)).trans ?_
 rw [wz]
 rw [List.map_nil,List.map_cons,List.map_nil]at e2
 simp! [dU]at e2
 simp! [dU]
 simp! [e2,Function.comp_def,hst,zr hnd,k1,bO,lL,ij]
end PV.K1
namespace PV.K1
open PySem L2 PL
noncomputable abbrev ΦR (n:Nat):cW:=fz [(4,gM n)]
noncomputable abbrev fR (n:Nat):D→Env→Res Fl:=fun x ρ=>bnd (aE (.tp [.nm 2,.nm 3]) x ρ) fun ρ=>aG (ΦR n) lu ρ
theorem D0 {n:Nat}{f:F}{i j:Option O} (e:forL (fR n) f.shape [some (.d (.tup f.shape)),some (.lst []),none,none] = .ok .nx [some (.d (.tup f.shape)),some (kz f.walk),i,j]):gM (n+1) [.d (.tup f.shape)] = .ok (kz f.walk) [.d (.tup f.shape)]:=by
 refine(aX (by rfl) (by rfl)).trans ?_
 rw [xy]
 delta fR at e
 simp! [dU]
 simp! [e]
theorem lz:∀ (f:F) (n:Nat) (acc:List Ent) (v i j:Option O),f.size≤n→acc.length+2 * f.size≤1000 →
  ∃ i' j',forL (fR n) f.shape [v,some (kz acc),i,j] = .ok .nx [v,some (kz (acc++f.walk)),i',j']
 | .nil,n,acc,v,i,j,_,_=>⟨i,j,by rw [show acc++F.nil.walk=acc from List.append_nil _]; rfl⟩
 | .node x a b,n,acc,v,i,j,h,hl=>by
  have hs:(F.node x a b).size=1+a.size+b.size:=rfl
  rw [hs]at h hl
  obtain⟨m,rfl⟩:∃ m,n=m+1:=⟨n - 1,by omega⟩
  obtain⟨i1,j1,e1⟩:=lz a m [] (some (.d (.tup a.shape))) none none (by omega) (by simp; omega)
  have e2:=D0 e1
  have hw:=F.walk_len a
  obtain⟨i2,j2,e3⟩:=lz b (m+1) (acc++((x,false)::(a.walk++[(x,true)]))) v (some (.d (.str x))) (some (.d (.tup a.shape))) (by omega) (by simp; omega)
  refine⟨i2,j2,?_⟩
  have step:fR (m+1) (.tup [.str x,.tup a.shape]) [v,some (kz acc),i,j] = .ok .nx [v,some (kz (acc++((x,false)::(a.walk++[(x,true)])))),some (.d (.str x)),some (.d (.tup a.shape))]:=by
   have k1:acc.length < 16777216:=by omega
   have k2:acc.length+1+a.walk.length≤16777216:=by omega
   have k3:acc.length+(a.walk.length+1) < 16777216:=by omega
   have k4:iF (x,false) = .tup [.str x,.int 0]:=rfl
   have k5:iF (x,true) = .tup [.str x,.int 1]:=rfl
   simp [fR,dU,aG,bZ,kG,dB,jR,bN,kh,cZ,il,d7,lC,p5,ki,ev,ai,bB,mN,w3,eW,fH,iU,iB,pZ,fD,iV,dH,bL,setPath,p4,bA,jP,eV,qz,eT,jq,oE,bj,fM,jk,ip,Res.noX,jQ,Fl.whl,fz,List.lookup,putD,PySem.sizeLine_eq,lu,kz]
   simp [kz]at e2
   simp! [e2,k1,k2,k3,k4,k5]
  show forL _ (D.tup [.str x,.tup a.shape]::b.shape) _=_
  rw [forL,step]
  refine Eq.trans (b:=forL _ b.shape _) rfl (e3.trans ?_)
  have hw2:acc++(F.node x a b).walk=acc++((x,false)::(a.walk++[(x,true)]))++b.walk:=by
   show acc++((x,false)::(a.walk++(x,true)::b.walk))=_
   simp
  rw [hw2]
theorem walk_of {f:F} (h:f.size≤12):iQ [.d (.tup f.shape)] = .ok (kz f.walk) [.d (.tup f.shape)]:=by
 obtain⟨i,j,e⟩:=lz f 39 [] (some (.d (.tup f.shape))) none none (by omega) (by simp; omega)
 exact D0 e
end PV.K1
namespace PV.K1
open PySem L2 PL
abbrev D1:List Str:=["own_shape", "own_walk", "own_names", "above"]
abbrev F.nmD (f:F):D:=.tup (f.names.map .str)
abbrev F.wkD (f:F):D:=.tup (f.walk.map iF)
abbrev F.shD (f:F):D:=.tup f.shape
abbrev F.tr (f:F) (a:O):O:=.obj 20 D1 [.d f.shD,.d f.wkD,.d f.nmD,a]
theorem KY:jP "own_walk" D1=some 1:=by decide +kernel
theorem KZ:jP "own_names" D1=some 2:=by decide +kernel
theorem Hf:jP "above" D1=some 3:=by decide +kernel
def kB (os:List Str):D:=match os.getLast? with
 | some x=>.str x
 | none=>.non
theorem rQ {os:List Str}{x:Str}:kB (os++[x]) = .str x:=by
 unfold kB
 simp
theorem Bn {xs:List D}{y:D}:D.eqd (.lst (xs++[y])) (.lst [])=false:=by
 rw [D.eqd]
 cases xs <;> simp [D.eqdL]
theorem C9 {Φ:cW}{a b c v:O}{ns:List Str}{vs:List D}{os:List Str}{x:Str}{n s:Option O} (h1:x∉ns) (h2:ns.length < 1000) (h3:os.length < 1000) :
  (bnd (aE (.tp [.nm 3,.nm 4]) (iF (x,false)) [some (.obj 20 D1 [a,b,c,.dic (ns.map .str) (vs.map .d)]),some v,some (.lst (os.map cP)),n,s]) fun ρ=>aG Φ bz ρ) = .ok .nx [some (.obj 20 D1 [a,b,c,.dic ((ns++[x]).map .str) ((vs++[kB os]).map .d)]),some v,some (.lst ((os++[x]).map cP)),some (.d (.str x)),some (.d (.int 0))]:=by
 have k1:ns.length < 16777216:=by omega
 have k2:os.length < 16777216:=by omega
 rcases List.eq_nil_or_concat os with rfl | ⟨qs,y,rfl⟩
 ·simp_arith [bz,iF]
  simp_arith [bO,lL,D.okd,D.okdL,D.eqd,D.eqdL,ug,rP h1,k1,Hf,kB]
 ·rw [List.concat_eq_append]at *
  simp at k2
  have ho:D.okdL 149 (qs.map (O.frz∘cP)++[D.str y])=true:=wH (kA fun x hx=>by
   obtain⟨f,hf,rfl⟩:=List.mem_map.mp hx
   exact ig) (kA fun x hx=>by rw [List.mem_singleton.mp hx]; exact ig)
  simp_arith [bz,iF]
  simp_arith [bO,lL,D.okd,D.okdL,ho,Bn,atI_last,ug,rP h1,k1,k2,Hf,rQ]
theorem Bo {Φ:cW}{o v:Option O}{os:List Str}{y x:Str}{n s:Option O} :
  (bnd (aE (.tp [.nm 3,.nm 4]) (iF (x,true)) [o,v,some (.lst ((os++[y]).map cP)),n,s]) fun ρ=>aG Φ bz ρ) = .ok .nx [o,v,some (.lst (os.map cP)),some (.d (.str x)),some (.d (.int 1))]:=by
 simp_arith [bz,iF]
 simp_arith [bO,lL,ij]
theorem vb {Φ:cW}{oa ob oc v:O}:∀ (f:F) (rest:List D) (ns:List Str) (vs:List D) (os:List Str) (n s:Option O),(ns++f.names).Nodup→ns.length+f.size < 1000→os.length+f.size < 1000 →
  ∃ n' s',forL (fun x ρ=>bnd (aE (.tp [.nm 3,.nm 4]) x ρ) fun ρ=>aG Φ bz ρ) (f.walk.map iF++rest) [some (.obj 20 D1 [oa,ob,oc,.dic (ns.map .str) (vs.map .d)]),some v,some (.lst (os.map cP)),n,s] =
   forL (fun x ρ=>bnd (aE (.tp [.nm 3,.nm 4]) x ρ) fun ρ=>aG Φ bz ρ) rest [some (.obj 20 D1 [oa,ob,oc,.dic ((ns++f.names).map .str) ((vs++f.pars (kB os)).map .d)]),some v,some (.lst (os.map cP)),n',s']
 | .nil,rest,ns,vs,os,n,s,_,_,_=>⟨n,s,by show forL _ rest _=_; rw [show ns++F.nil.names=ns from List.append_nil _,show vs++F.nil.pars (kB os)=vs from List.append_nil _]⟩
 | .node x a b,rest,ns,vs,os,n,s,nd,h1,h2=>by
  have hs:(F.node x a b).size=1+a.size+b.size:=rfl
  have hn:ns++(F.node x a b).names=(ns++[x]++a.names)++b.names:=by
   show ns++(x::(a.names++b.names))=_
   simp
  have hv:vs++(F.node x a b).pars (kB os)=(vs++[kB os]++a.pars (.str x))++b.pars (kB os):=by
   show vs++(kB os::(a.pars (.str x)++b.pars (kB os)))=_
   simp
  rw [hn]at nd
  rw [hs]at h1 h2
  have nda:=(List.nodup_append.mp nd).1
  have nx:x∉ns:=fun z=>(List.nodup_append.mp (List.nodup_append.mp nda).1).2.2 x z x (List.mem_singleton.mpr rfl) rfl
  have la:=F.names_len a
  obtain⟨n1,s1,e1⟩:=vb (Φ:=Φ) a (iF (x,true)::(b.walk.map iF++rest)) (ns++[x]) (vs++[kB os]) (os++[x]) (some (.d (.str x))) (some (.d (.int 0))) nda (by simp; omega) (by simp; omega)
  obtain⟨n2,s2,e2⟩:=vb (Φ:=Φ) b rest (ns++[x]++a.names) (vs++[kB os]++a.pars (.str x)) os (some (.d (.str x))) (some (.d (.int 1))) nd (by simp; omega) (by omega)
  refine⟨n2,s2,?_⟩
  have hw:(F.node x a b).walk.map iF++rest=iF (x,false)::(a.walk.map iF++(iF (x,true)::(b.walk.map iF++rest))):=by
   show((x,false)::(a.walk++(x,true)::b.walk)).map iF++rest=_
   simp
  rw [rQ]at e1
  rw [hw,forL,C9 nx (by omega) (by omega)]
  refine Eq.trans (b:=forL _ (a.walk.map iF++(iF (x,true)::(b.walk.map iF++rest))) _) rfl (e1.trans ?_)
  rw [forL,Bo]
  refine Eq.trans (b:=forL _ (b.walk.map iF++rest) _) rfl (e2.trans ?_)
  rw [hn,hv]
noncomputable abbrev ΦI:cW:=fz [(3,fq),(4,iQ)]
theorem init {f:F} (h:JB f):aH [.obj 20 [] [],.d (.tup f.shape)] = .ok (.d .non) [f.tr f.dicO,.d (.tup f.shape)]:=by
 have e1:=Bm h
 have e2:=walk_of h.sz
 obtain⟨n,s,e3⟩:=vb (Φ:=ΦI) (oa:=.d f.shD) (ob:=.d f.wkD) (oc:=.d f.nmD) (v:=.d (.tup f.shape)) f [] [] [] [] none none (by simpa using h.nd) (by have:=h.sz; simp; omega) (by have:=h.sz; simp; omega)
 have e4:∀ o1 o2,aK (fun x ρ=>bnd (aE (.tp [.nm 3,.nm 4]) x ρ) fun ρ=>(cZ ΦI hV ρ).bind fun b ρ=>kg b ((ev ΦI hU ρ).bind fun o ρ=>.ok (some o) (ai [3,4] ρ)) (.ok none (ai [3,4] ρ))) (f.walk.map iF) [o1,o2,none,none,none] = .ok (f.names.map cP) [o1,o2,none,none,none]:=by
  intro o1 o2
  rw [og (p:=fun e=>! e.2) (g:=fun e=>cP e.1),← F.opens_walk f]
  ·unfold opens
   rw [List.map_map]
   rfl
  ·intro e _
   obtain⟨x,b⟩:=e
   cases b <;> simp_arith [hU,hV,iF] <;> simp_arith [bO,lL,ij]
 refine(aX (by rfl) (by rfl)).trans ?_
 rw [ml]
 simp_arith [dU]at e3 e4
 simp_arith [e1]
 have hd:PV.dicO [] []=some (.dic [] []):=by simp [PV.dicO,keysOf]
 simp! (decide:=true) [e2,e4,Ha,Function.comp_def,hd]
 simp only [forL]at e3
 simp! [e3]
 rfl
end PV.K1
namespace PV.K1
open PySem L2 PL
@[simp] theorem JC {f:F}{a:O}{os:List O}{o:O}{ρ:Env}:bj (f.tr a::os) (some o::ρ)=(bj os ρ).map (o :: ·):=rfl
end PV.K1
namespace PV.K1
open PySem L2 PL
def TI (f:F) (rest:List (Option O)) (ρ:Env):Prop:=∃ a:O,a.frz=f.dicD∧ρ=some (f.tr a)::rest
end PV.K1
namespace PM
open PySem PySem.Spec PyProof.Rows L2 PV
def gp:SE:=(.var 1)
def gq:List SE:=[.cm .notin (.var 1) (.lit (.str "abcdefghijklmnopqrstuvwxyz"))]
theorem oq:jC = [.ite (.bor [.bnot (.isa [20] [.str] (.var 0)),.bnot (.cm2 .le .le (.lit (.int 1)) (.fn .len [.var 0]) (.lit (.int 8)))]) [.ret (.lit (.bl false))] [],.ret (.cm .eq (.comp .lst gp [1] (.nm 1) (.of (.var 0)) gq) (.lst []))]:=rfl
end PM
namespace PV.M1
open PySem L2 PL PM K1
mutual
def Bp:D→Bool
 | .non=>true
 | .bl _=>true
 | .int _=>true
 | .str x=>decide (x.length≤1000)
 | .tup xs=>Hg xs
 | .lst xs=>Hg xs
 | .dic ks vs=>Hg ks&&Hg vs
 | .obj _ _ _=>false
 | .exc _ _=>false
def Hg:List D→Bool
 | []=>true
 | x::xs=>Bp x&&Hg xs
end
def isNm:D→Bool
 | .str s=>cO s
 | _=>false
def wI (c:Nat):Bool:=decide (c∉C6.cps.toList)
def zt (s:Str):List Nat:=s.cps.toList.filter wI
theorem Bq {s:Str}:(zt s).isEmpty=s.cps.toList.all fun c=>decide (c∈C6.cps.toList):=by
 unfold zt
 generalize s.cps.toList=l
 induction l with
 | nil=>rfl
 | cons c l ih =>
  rw [List.filter_cons,List.all_cons,← ih]
  by_cases hc:c∈C6.cps.toList
  ·have e:wI c=false:=by simp only [wI,hc,not_true_eq_false,decide_false]
   rw [e,decide_eq_true hc]; rfl
  ·have e:wI c=true:=by simp only [wI,hc,not_false_eq_true,decide_true]
   rw [e,decide_eq_false hc]; rfl
theorem qm:∀ xs:List D,D.eqd (.lst xs) (.lst [])=xs.isEmpty
 | []=>by rw [D.eqd,D.eqdL]; rfl
 | x::xs=>by rw [D.eqd,D.eqdL] <;> simp
theorem yB:D.okd 150 (.lst [])=true:=by rw [D.okd,D.okdL]
theorem zu {v:D} (h:Bp v=true):dj [.d v] = .ok (.d (.bl (isNm v))) [.d v]:=by
 refine(aX (by rfl) (by rfl)).trans ?_
 rw [oq]
 cases v with
 | str s =>
  have hl:s.length≤1000:=by simpa [Bp]using h
  have hl2:s.length≤16777216:=by omega
  have ec:aK (fun x ρ=>bnd (aE (.nm 1) x ρ) fun ρ=>(cZ (fz []) gq ρ).bind fun b ρ=>kg b ((ev (fz []) gp ρ).bind fun o ρ=>.ok (some o) (ai [1] ρ)) (.ok none (ai [1] ρ))) (s.cps.toList.map fun c=>.str ⟨#[c]⟩) [some (.d (.str s)),none] = .ok ((zt s).map fun c=>cP (ch c)) [some (.d (.str s)),none]:=by
   rw [og (p:=wI) (g:=fun c=>cP (ch c))]
   ·rfl
   intro c _
   by_cases hc:c∈C6.cps.toList
   ·have hc':c∈C6.cps:=by simpa using hc
    simp! [gq,gp,wI,hc']
   ·have hc':c∉C6.cps:=by simpa using hc
    simp! [gq,gp,wI,hc']
  have ho:D.okd 150 (.lst ((zt s).map fun c=>D.str (ch c)))=true:=by
   have:=wF (n:=149) ((zt s).map ch)
   rw [List.map_map]at this
   rw [D.okd]
   exact this
  have hi:isNm (.str s)=(decide (1≤s.length)&&(decide (s.length≤8)&&(zt s).isEmpty)):=by
   rw [Bq]; rfl
  by_cases h1:(1:Int)≤s.length
  ·by_cases h2:(s.length:Int)≤8
   ·have k1:1≤s.length:=by omega
    have k2:s.length≤8:=by omega
    rw [decide_eq_true k1,decide_eq_true k2]at hi
    simp! [dU]at ec
    simp! [hl2,h1,h2]
    simp! [ec,hl2,h1,h2,Function.comp_def,lL,ho,yB,qm,hi]
   ·have k2:¬ s.length≤8:=by omega
    rw [decide_eq_false k2]at hi
    simp! [hl2,h1,h2,hi]
  ·have k1:¬ 1≤s.length:=by omega
   rw [decide_eq_false k1]at hi
   simp! [hl2,h1,hi]
 | obj C ns vs=>simp [Bp]at h
 | exc C p=>simp [Bp]at h
 | _=>simp! [isNm]
theorem rR {α:Type}{p:α→Bool}:∀ xs:List α,fJ (xs.map fun x=>D.bl (p x))=some (xs.map p)
 | []=>rfl
 | x::xs=>by rw [List.map_cons,fJ,rR xs]; rfl
def wJ (c:Nat):Bool:=decide (c∈C6.cps.toList)
theorem zv {v:D} (h:Bp v=true):aS [.d v] = .ok (.d (.bl (isNm v))) [.d v]:=by
 refine(aX (by rfl) (by rfl)).trans ?_
 rw [rN]
 cases v with
 | str s =>
  have hl:s.length≤1000:=by simpa [Bp]using h
  have hl2:s.length≤16777216:=by omega
  have e:aK (fun x ρ=>bnd (aE (.nm 1) x ρ) fun ρ=>(cZ (fz []) [] ρ).bind fun b ρ=>kg b ((ev (fz []) gj ρ).bind fun o ρ=>.ok (some o) (ai [1] ρ)) (.ok none (ai [1] ρ))) (s.cps.toList.map fun c=>.str ⟨#[c]⟩) [some (.d (.str s)),none] = .ok (s.cps.toList.map fun c=>.d (.bl (wJ c))) [some (.d (.str s)),none]:=by
   refine comp_map fun c hc=>?_
   simp! [gj,wJ]
  have hi:isNm (.str s)=(decide (1≤s.length)&&(decide (s.length≤8)&&s.cps.toList.all wJ)):=rfl
  by_cases h1:(1:Int)≤s.length
  ·by_cases h2:(s.length:Int)≤8
   ·have k1:1≤s.length:=by omega
    have k2:s.length≤8:=by omega
    rw [decide_eq_true k1,decide_eq_true k2]at hi
    simp! [dU]at e
    simp! [hl2,h1,h2]
    have hb:fJ (s.cps.toList.map fun c=>D.bl (wJ c))=some (s.cps.toList.map wJ):=rR _
    simp! [e,hl2,h1,h2,Function.comp_def,hb,hi]
   ·have k2:¬ s.length≤8:=by omega
    rw [decide_eq_false k2]at hi
    simp! [hl2,h1,h2,hi]
  ·have k1:¬ 1≤s.length:=by omega
   rw [decide_eq_false k1]at hi
   simp! [hl2,h1,hi]
 | obj C ns vs=>simp [Bp]at h
 | exc C p=>simp [Bp]at h
 | _=>simp! [isNm]
@[simp] theorem Hh {C:Nat}{p:List D}{ρ:Env}{args:List O}:(Res.exc C p ρ:Res Fl).done args=match bj args ρ with
  | some ios=>.exc C p ios
  | none=>.bad:=rfl
theorem ah {Φ:cW}{s:SS}{ss:List SS}{ρ ρ':Env}{r:Res Fl} (h:bZ Φ s ρ = .ok .nx ρ') (h2:aG Φ ss ρ'=r):aG Φ (s::ss) ρ=r:=by
 rw [aG,h]
 exact h2
theorem cg {Φ:cW}{s:SS}{ss:List SS}{ρ ρ':Env}{o:O} (h:bZ Φ s ρ = .ok (.rt o) ρ'):aG Φ (s::ss) ρ = .ok (.rt o) ρ':=by
 rw [aG,h]
 rfl
theorem Hi {n:Nat}{o:O}{es:List Str} (g:Gd n o) (hn:n < 2 ^ 31) (he:es≠[]) (hl:es.length < 1000):∃ (e:Str) (o':O),dc [o,.lst (es.map cP)] = .ok (cP e) [o',.lst (es.map cP)]∧e∈es∧Gd (n+1) o':=by
 have hp:0 < es.length:=List.length_pos_iff.mpr he
 obtain⟨v,o',e,v0,v1,g'⟩:=take (s:=(es.length:Int)) g hn (by omega) (by omega)
 obtain⟨ls,cs,r,t,rfl⟩:=g.st
 obtain⟨x,hx,e2⟩:=yy (xs:=es) v0 v1
 refine⟨x,o',(aX (by rfl) (by rfl)).trans ?_,hx,g'⟩
 rw [uf]
 simp! [Function.comp_def]
 simp! [e,yz,e2]
end PV.M1
namespace PV.M1
open PySem L2 PL PM K1
theorem frzL {xs:List D}:(O.lst (xs.map .d)).frz = .lst xs:=by
 rw [oS,List.map_map,zm]
theorem Kt {xs:List D}:(O.lst (xs.map .d)).shal = .lst (xs.map .d):=by
 rw [xj,List.map_map]
 refine congrArg O.lst (List.map_congr_left fun e _=>?_)
 exact congrArg O.d cU
@[simp] theorem Fv {xs:List D}:xs.map ((fun o=>O.d o.frz)∘O.d)=xs.map O.d:=List.map_congr_left fun e _=>congrArg O.d cU
end PV.M1
namespace PV.M1
open PySem L2 PL PM K1
abbrev K0:O:=.d (Gj 20)
theorem JD:Gk 20 K0=some ():=rfl
end PV.M1
namespace PV.N1
open PySem L2 PL PM PN K1 M1
theorem mn {Φ:cW}{b ss:List SS}{m:Nat}{args ios:List O}{o:O}{ρ ρ':Env} (hb:b=ss) (e0:args.map some++List.replicate (m - args.length) none=ρ) (h:aG Φ ss ρ = .ok (.rt o) ρ') (hi:bj args ρ'=some ios):dU Φ b m args = .ok o ios:=by
 unfold dU
 rw [hb,e0,h]
 show(match bj args ρ' with
  | some ios=>bC.ok o ios
  | none=>.bad)=_
 rw [hi]
theorem Br {Φ:cW}{b ss:List SS}{m C:Nat}{p:List D}{args ios:List O}{ρ ρ':Env} (hb:b=ss) (e0:args.map some++List.replicate (m - args.length) none=ρ) (h:aG Φ ss ρ = .exc C p ρ') (hi:bj args ρ'=some ios):dU Φ b m args = .exc C p ios:=by
 unfold dU
 rw [hb,e0,h]
 show(match bj args ρ' with
  | some ios=>bC.exc C p ios
  | none=>.bad)=_
 rw [hi]
end PV.N1
namespace PV.K72
open PySem L2 PL PM PN _root_.K72 PV.K1 PV.M1 PV.N1
variable {T:Str}{l r:List Nat}{a e:Nat}
abbrev sT (l:List Nat):Str:=⟨l.toArray⟩
def mk (c:Nat):Bool:=decide (c∈[40,41,44])
def wd (l:List Nat):List Nat:=l.takeWhile fun c=>! mk c
theorem dM:(sT l).length=l.length:=by
 show l.toArray.size=_
 simp
theorem Hj:sT T.cps.toList=T:=by
 cases T
 simp
theorem Hk {c:Nat} (hz:l.length≤1000000) (h:l[e]?=some c):kH [.str (sT l),.int (e:Int)]=some (.d (.str (sT [c]))):=by
 show(if(sT l).length≤sizeLine then(atI (sT l).cps.toList (e:Int)).map fun c=>O.d (.str ⟨#[c]⟩)else none)=_
 rw [dM,if_pos (by rw [PySem.sizeLine_eq]; omega)]
 have hi:=(List.getElem?_eq_some_iff.mp h).1
 have:atI l (e:Int)=some c:=by
  unfold L2.atI L2.ixN
  rw [if_pos (by omega),if_pos (by omega)]
  show l[(e:Int).toNat]?=_
  rw [Int.toNat_natCast,h]
 show(atI l.toArray.toList (e:Int)).map _=_
 rw [List.toList_toArray,this]
 rfl
theorem Hl (hz:l.length≤1000000) (h1:a≤e) (h2:e≤l.length):mW [.str (sT l),.int (a:Int),.int (e:Int)]=some (.d (.str (sT ((l.drop a).take (e - a))))):=by
 show(if(sT l).length≤sizeLine then some (O.d (.str ⟨(((sT l).cps.toList.drop (HT.sIx (sT l).length 0 (some (a:Int)))).take (HT.sIx (sT l).length (sT l).length (some (e:Int)) - HT.sIx (sT l).length 0 (some (a:Int)))).toArray⟩))else none)=_
 rw [dM,if_pos (by rw [PySem.sizeLine_eq]; omega),HT.sIx_nat,HT.sIx_nat,Nat.min_eq_left h2,Nat.min_eq_left (Nat.le_trans h1 h2)]
theorem Dc {c:Nat}:au .notin (.str (sT [c])) (.str "(),")=some (! mk c):=by
 show(au.inD (.str (sT [c])) (.str "(),")).map (! ·)=_
 have h:au.inD (.str (sT [c])) (.str "(),")=some (decide (c∈[40,41,44])):=rfl
 rw [h]
 rfl
theorem pU (hz:l.length≤1000000):mL .len (.str (sT l))=some (.d (.int (l.length:Int))):=by
 show(if(sT l).length≤sizeLine then some (O.d (.int ((sT l).length:Int)))else none)=_
 rw [dM,if_pos (by rw [PySem.sizeLine_eq]; omega)]
variable {s0 s1 s2:Option O}
noncomputable abbrev ΦW:cW:=fz []
noncomputable abbrev fW:Env→Res (Option Fl):=fun ρ=>(kh ΦW (.band [.cm .lt (.var 2) (.fn .len [.var 0]),.cm .notin (.idx (.var 0) (.var 2)) (.glo "MARKS" (.str "(),"))]) ρ).bind fun t ρ=>kg t ((aG ΦW k8 ρ).bind fun f ρ=>.ok f.whl ρ) (.ok (some .nx) ρ)
theorem JE {TD:D}{E N:Int} (h1:mL .len TD=some (.d (.int N))) (h2:au .lt (.int E) (.int N)=some false):fW [some (.d TD),s1,some (.d (.int E))] = .ok (some .nx) [some (.d TD),s1,some (.d (.int E))]:=by
 simp_arith [fW,-y5,-kO]
 try simp_arith [h1,h2,-y5,-kO]
theorem JF {TD C:D}{E N:Int} (h1:mL .len TD=some (.d (.int N))) (h2:au .lt (.int E) (.int N)=some true) (h3:kH [TD,.int E]=some (.d C)) (h4:au .notin C (.str "(),")=some false):fW [some (.d TD),s1,some (.d (.int E))] = .ok (some .nx) [some (.d TD),s1,some (.d (.int E))]:=by
 simp_arith [fW,-y5,-kO]
 try simp_arith [h1,h2,h3,h4,-y5,-kO]
theorem JG {TD C:D}{E N:Int} (h1:mL .len TD=some (.d (.int N))) (h2:au .lt (.int E) (.int N)=some true) (h3:kH [TD,.int E]=some (.d C)) (h4:au .notin C (.str "(),")=some true):fW [some (.d TD),s1,some (.d (.int E))] = .ok none [some (.d TD),s1,some (.d (.int (E+1)))]:=by
 simp_arith [fW,-y5,-kO]
 try simp_arith [h1,h2,h3,h4,k8,kQ,aq,-y5,-kO]
theorem D2 (hz:l.length≤1000000):∀ (n e:Nat),l.length - e≤n→e≤l.length→cY fW (n+1) [some (.d (.str (sT l))),s1,some (.d (.int (e:Int)))]=some (.ok .nx [some (.d (.str (sT l))),s1,some (.d (.int ((e+(wd (l.drop e)).length:Nat):Int)))])
 | n,e,hn,he=>by
  have h1:=pU hz
  by_cases c:e < l.length
  ·have hc:au .lt (.int (e:Int)) (.int (l.length:Int))=some true:=by simp [c]
   have hx:l[e]?=some l[e]:=List.getElem?_eq_getElem c
   have hd:l.drop e=l[e]::l.drop (e+1):=List.drop_eq_getElem_cons c
   have h3:=Hk hz hx
   have h4:=Dc (c:=l[e])
   rw [hd]
   by_cases m:mk l[e]=true
   ·rw [m]at h4
    unfold cY
    rw [JF h1 hc h3 h4]
    unfold wd
    rw [List.takeWhile_cons,m]
    rfl
   ·have m:mk l[e]=false:=by simpa using m
    rw [m]at h4
    obtain⟨n,rfl⟩:∃ k,n=k+1:=⟨n - 1,by omega⟩
    have ih:=D2 hz n (e+1) (by omega) (by omega)
    unfold cY
    rw [JG h1 hc h3 h4]
    have hw:wd (l[e]::l.drop (e+1))=l[e]::wd (l.drop (e+1)):=by
     unfold wd
     rw [List.takeWhile_cons,m]
     rfl
    rw [hw,List.length_cons]
    have h5:((e:Int)+1)=((e+1:Nat):Int):=by omega
    rw [h5]
    rw [show e+((wd (l.drop (e+1))).length+1)=e+1+(wd (l.drop (e+1))).length by omega]
    exact ih
  ·have hc:au .lt (.int (e:Int)) (.int (l.length:Int))=some false:=by
    have:¬ ((e:Int) < (l.length:Int)):=by omega
    simp [this]
   unfold cY
   rw [JE h1 hc,List.drop_of_length_le (by omega)]
   rfl
theorem Bs (l:List Nat):(wd l).length≤l.length:=(List.takeWhile_prefix _).length_le
theorem Dd (l:List Nat):l.take (wd l).length=wd l:=(List.prefix_iff_eq_take.mp (List.takeWhile_prefix _)).symm
theorem De (hz:l.length≤1000000) (ha:a≤l.length):bJ [.d (.str (sT l)),.d (.int (a:Int))] = .ok (.d (.str (sT (wd (l.drop a))))) [.d (.str (sT l)),.d (.int (a:Int))]:=by
 have h:=D2 hz l.length a (by omega) ha (s1:=some (.d (.int (a:Int))))
 have hw:=Bs (l.drop a)
 rw [List.length_drop]at hw
 have h2:=Hl hz (a:=a) (e:=a+(wd (l.drop a)).length) (by omega) (by omega)
 rw [Nat.add_sub_cancel_left,Dd]at h2
 have hio:∀ {x:Option O},bj [.d (.str (sT l)),.d (.int (a:Int))] [some (.d (.str (sT l))),some (.d (.int (a:Int))),x]=some [.d (.str (sT l)),.d (.int (a:Int))]:=fun {x}=>rfl
 have c1:bZ ΦW lg [some (.d (.str (sT l))),some (.d (.int (a:Int))),none] = .ok .nx [some (.d (.str (sT l))),some (.d (.int (a:Int))),some (.d (.int (a:Int)))]:=by
  simp_arith [lg]
 have c3:bZ ΦW lh [some (.d (.str (sT l))),some (.d (.int (a:Int))),some (.d (.int ((a+(wd (l.drop a)).length:Nat):Int)))] = .ok (.rt (.d (.str (sT (wd (l.drop a)))))) [some (.d (.str (sT l))),some (.d (.int (a:Int))),some (.d (.int ((a+(wd (l.drop a)).length:Nat):Int)))]:=by
  generalize ((a+(wd (l.drop a)).length:Nat):Int)=E at h2 ⊢
  generalize D.str (sT (wd (l.drop a)))=R at h2 ⊢
  generalize D.str (sT l)=TD at h2 ⊢
  generalize (a:Int)=A at h2 ⊢
  simp_arith [lh,-jB]
  try simp_arith [h2,-jB]
 refine(aX (by rfl) (by rfl)).trans ?_
 exact mn xt rfl (ah c1 (ah (ni h) (cg c3))) hio
end PV.K72
namespace PV.K72
open PySem L2 PL PM PN _root_.K72 PV.K1 PV.M1 PV.N1
variable {l r:List Nat}{a e:Nat}
theorem Fw:∀ xs:List D,au .ne (.lst xs) (.lst [])=some (! xs.isEmpty)
 | []=>by rw [lH,show lL (.lst []) (.lst [])=true from rfl,if_pos rfl,qm]
 | x::xs=>by
  rw [lH]
  by_cases h1:lL (.lst (x::xs)) (.lst [])=true
  ·rw [if_pos h1,qm]
  ·rw [if_neg h1]
   by_cases h2:tm (.lst (x::xs)) (.lst [])=true
   ·rw [if_pos h2]
    have:D.eqn 140 (.lst (x::xs)) (.lst [])=false:=by
     rw [D.eqn]
     rfl
    rw [this]
    rfl
   ·rw [if_neg h2]
    rfl
theorem Bt:∀ (f:F) (fs:List Str) (ps:List F) (v lv nd:Option O),(∀ s∈f.heads,dJ s)→fs.length≤12→12 < fs.length+f.heads.length→ps.length+f.heads.length≤20000 →
  ∃ a1 b1 c1:Option O,forL (fun x ρ=>bnd (aE (.nm 4) x ρ) fun ρ=>aG ΦS bc ρ) f.shape [v,some (.lst (fs.map cP)),some (.lst (ps.map j8)),lv,nd] = .ok (.rt (.d (.bl false))) [v,a1,b1,lv,c1]
 | .nil,fs,ps,v,lv,nd,_,h0,h1,_=>by
  have h1:12 < fs.length+0:=h1
  omega
 | .node x a b,fs,ps,v,lv,nd,hn,h0,h1,h2=>by
  have hh:(F.node x a b).heads=x::b.heads:=rfl
  rw [hh]at hn h1 h2
  rw [List.length_cons]at h1 h2
  have k0:=va (hn x List.mem_cons_self)
  have k1:fs.length < 16777216:=by omega
  have k2:ps.length < 16777216:=by omega
  have k4:atI [D.str x,.tup a.shape] 1=some (.tup a.shape):=atI_nat (j:=1) rfl
  by_cases c:fs.length+1≤12
  ·obtain⟨a1,b1,c1,e⟩:=Bt b (fs++[x]) (ps++[a]) v lv (some (.d (.tup [.str x,.tup a.shape]))) (fun s hs=>hn s (List.mem_cons_of_mem _ hs)) (by simp; omega) (by simp; omega) (by simp; omega)
   refine⟨a1,b1,c1,?_⟩
   have step:(bnd (aE (.nm 4) (.tup [.str x,.tup a.shape]) [v,some (.lst (fs.map cP)),some (.lst (ps.map j8)),lv,nd]) fun ρ=>aG ΦS bc ρ) = .ok .nx [v,some (.lst ((fs++[x]).map cP)),some (.lst ((ps++[a]).map j8)),lv,some (.d (.tup [.str x,.tup a.shape]))]:=by
    have k3:¬ (12:Int) < (fs.length:Int)+1:=by omega
    simp! [bc]
    simp! [k0,k1,k2,k3,k4,lL,ij,bO]
   show forL _ (D.tup [.str x,.tup a.shape]::b.shape) _=_
   rw [forL,step]
   exact e
  ·have step:∃ a1 b1 c1:Option O,(bnd (aE (.nm 4) (.tup [.str x,.tup a.shape]) [v,some (.lst (fs.map cP)),some (.lst (ps.map j8)),lv,nd]) fun ρ=>aG ΦS bc ρ) = .ok (.rt (.d (.bl false))) [v,a1,b1,lv,c1]:=by
    have k3:(12:Int) < (fs.length:Int)+1:=by omega
    refine⟨some (.lst ((fs++[x]).map cP)),some (.lst (ps.map j8)),some (.d (.tup [.str x,.tup a.shape])),?_⟩
    simp! [bc]
    simp! [k0,k1,k2,k3,k4,lL,ij,bO]
   obtain⟨a1,b1,c1,e⟩:=step
   refine⟨a1,b1,c1,?_⟩
   show forL _ (D.tup [.str x,.tup a.shape]::b.shape) _=_
   rw [forL,e]
   rfl
theorem ui:∀ (f:F) (fs:List Str) (ps:List F) (v lv nd:Option O),(∀ s∈f.heads,dJ s)→fs.length+f.heads.length≤12→ps.length+f.heads.length≤20000 →
  ∃ nd',forL (fun x ρ=>bnd (aE (.nm 4) x ρ) fun ρ=>aG ΦS bc ρ) f.shape [v,some (.lst (fs.map cP)),some (.lst (ps.map j8)),lv,nd] = .ok .nx [v,some (.lst ((fs++f.heads).map cP)),some (.lst ((ps++f.inners).map j8)),lv,nd']
 | .nil,fs,ps,v,lv,nd,_,_,_=>⟨nd,by rw [show fs++F.nil.heads=fs from List.append_nil _,show ps++F.nil.inners=ps from List.append_nil _]; rfl⟩
 | .node x a b,fs,ps,v,lv,nd,hn,h1,h2=>by
  have hh:(F.node x a b).heads=x::b.heads:=rfl
  have hi:(F.node x a b).inners=a::b.inners:=rfl
  rw [hh]at hn h1 h2
  rw [List.length_cons]at h1 h2
  obtain⟨nd',e⟩:=ui b (fs++[x]) (ps++[a]) v lv (some (.d (.tup [.str x,.tup a.shape]))) (fun s hs=>hn s (List.mem_cons_of_mem _ hs)) (by simp; omega) (by simp; omega)
  refine⟨nd',?_⟩
  have step:(bnd (aE (.nm 4) (.tup [.str x,.tup a.shape]) [v,some (.lst (fs.map cP)),some (.lst (ps.map j8)),lv,nd]) fun ρ=>aG ΦS bc ρ) = .ok .nx [v,some (.lst ((fs++[x]).map cP)),some (.lst ((ps++[a]).map j8)),lv,some (.d (.tup [.str x,.tup a.shape]))]:=by
   have k0:=va (hn x List.mem_cons_self)
   have k1:fs.length < 16777216:=by omega
   have k2:ps.length < 16777216:=by omega
   have k3:¬ (12:Int) < (fs.length:Int)+1:=by omega
   have k4:atI [D.str x,.tup a.shape] 1=some (.tup a.shape):=atI_nat (j:=1) rfl
   simp! [bc]
   simp! [k0,k1,k2,k3,k4,lL,ij,bO]
  show forL _ (D.tup [.str x,.tup a.shape]::b.shape) _=_
  rw [forL,step,hh,hi]
  refine Eq.trans (b:=forL _ b.shape _) rfl (e.trans ?_)
  simp
noncomputable abbrev fS:Env→Res (Option Fl):=fun ρ=>(kh ΦS (.cm .ne (.var 2) (.lst [])) ρ).bind fun t ρ=>kg t ((aG ΦS cj ρ).bind fun f ρ=>.ok f.whl ρ) (.ok (some .nx) ρ)
theorem Fx (qs:List F) (g:F):oG .pop (.lst ((qs++[g]).map j8)) []=some (j8 g,.lst (qs.map j8)):=by
 rw [List.map_append]
 simp [oG]
theorem wK:∀ (k:Nat) (ps:List F) (fs:List Str) (v lv nd:Option O),ps.length+ck ps≤k→fs.length≤12→12 < fs.length+ck ps→ps.length+ck ps≤20000→(∀ s∈bq ps,dJ s) →
  ∃ a b c d:Option O,cY fS (k+1) [v,some (.lst (fs.map cP)),some (.lst (ps.map j8)),lv,nd]=some (.ok (.rt (.d (.bl false))) [v,a,b,c,d])
 | k,ps,fs,v,lv,nd,hk,h0,h1,h2,hn=>by
  rcases List.eq_nil_or_concat ps with rfl | ⟨qs,g,rfl⟩
  ·simp [ck]at h1
   omega
  ·rw [List.concat_eq_append]at *
   have hsz:ck (qs++[g])=ck qs+g.size:=by rw [cf]; simp [ck]
   have hal:bq (qs++[g])=bq qs++g.names:=by rw [cA]; simp [bq]
   have hgh:=F.size_heads g
   have hgi:=F.inners_len g
   rw [hsz]at hk h1 h2
   rw [List.length_append,List.length_singleton]at hk h2
   rw [hal]at hn
   have hnm:∀ s∈g.heads,dJ s:=fun s hs=>hn s (List.mem_append_right _ (oj hs))
   have hc:au .ne (.lst ((qs++[g]).map fun f=>D.tup f.shape)) (.lst [])=some true:=by
    rw [Fw]
    cases qs <;> rfl
   have hfz:(O.lst ((qs++[g]).map j8)).frz = .lst ((qs++[g]).map fun f=>D.tup f.shape):=by
    show D.lst (O.frzL _)=_
    rw [bu,List.map_map]
    exact congrArg D.lst (List.map_congr_left fun a _=>cU)
   have hsl:(O.lst ((qs++[g]).map j8)).shal = .lst ((qs++[g]).map j8):=by
    show O.lst _=_
    rw [List.map_map]
    refine congrArg O.lst (List.map_congr_left fun a _=>?_)
    show O.d (O.d _).frz=_
    rw [cU]
   have hp:=Fx qs g
   have hmt:dH .pop (.lst ((qs++[g]).map j8))=some ():=rfl
   have hw:nA (.tup g.shape)=some g.shape:=rfl
   by_cases c:fs.length+g.heads.length≤12
   ·obtain⟨k,rfl⟩:∃ j,k=j+1:=⟨k - 1,by omega⟩
    have hbig:qs.length+g.heads.length≤20000:=by omega
    obtain⟨nd1,e1⟩:=ui g fs qs v (some (j8 g)) nd hnm c hbig
    obtain⟨x1,x2,x3,x4,e2⟩:=wK k (qs++g.inners) (fs++g.heads) v (some (j8 g)) nd1 (by rw [cf,List.length_append]; omega) (by rw [List.length_append]; omega) (by rw [cf,List.length_append]; omega) (by rw [cf,List.length_append]; omega) (fun s hs=>by
     rw [cA]at hs
     rcases List.mem_append.mp hs with q | q
     ·exact hn s (List.mem_append_left _ q)
     ·exact hn s (List.mem_append_right _ ((F.names_heads g).mem_iff.mp (List.mem_append_right _ q))))
    refine⟨x1,x2,x3,x4,?_⟩
    have step:fS [v,some (.lst (fs.map cP)),some (.lst ((qs++[g]).map j8)),lv,nd] = .ok none [v,some (.lst ((fs++g.heads).map cP)),some (.lst ((qs++g.inners).map j8)),some (j8 g),nd1]:=by
     have tk:∀ {i ρ},aB.taken (O.lst ((qs++[g]).map j8)) i ρ=ρ.set i none:=fun {i ρ}=>rfl
     have hsg:(j8 g).frz = .tup g.shape:=cU
     unfold j8 at *
     generalize O.lst ((qs++[g]).map fun f=>O.d (.tup f.shape))=PS at hfz hsl hp hmt tk ⊢
     generalize O.lst (qs.map fun f=>O.d (.tup f.shape))=QS at hp e1
     generalize O.lst ((qs++g.inners).map fun f=>O.d (.tup f.shape))=RS at e1 ⊢
     generalize D.lst ((qs++[g]).map fun f=>D.tup f.shape)=PD at hfz hc
     generalize O.lst (fs.map cP)=FS at e1 ⊢
     generalize O.lst ((fs++g.heads).map cP)=FS2 at e1 ⊢
     generalize g.shape=GS at *
     simp only [gK,cV]at e1
     simp_arith [fS,cj,hfz,hsl,tk,hc,-lH,-dH]
     try simp_arith [hfz,hsl,tk,hc,hp,hmt,e1,-lH,-dH]
    unfold cY
    rw [step]
    exact e2
   ·obtain⟨a1,b1,c1,e1⟩:=Bt g fs qs v (some (j8 g)) nd hnm h0 (by omega) (by omega)
    have step:fS [v,some (.lst (fs.map cP)),some (.lst ((qs++[g]).map j8)),lv,nd] = .ok (some (.rt (.d (.bl false)))) [v,a1,b1,some (j8 g),c1]:=by
     have tk:∀ {i ρ},aB.taken (O.lst ((qs++[g]).map j8)) i ρ=ρ.set i none:=fun {i ρ}=>rfl
     unfold j8 at *
     generalize O.lst ((qs++[g]).map fun f=>O.d (.tup f.shape))=PS at hfz hsl hp hmt tk ⊢
     generalize O.lst (qs.map fun f=>O.d (.tup f.shape))=QS at hp e1
     generalize D.lst ((qs++[g]).map fun f=>D.tup f.shape)=PD at hfz hc
     generalize O.lst (fs.map cP)=FS at e1 ⊢
     generalize g.shape=GS at *
     simp only [gK,cV]at e1
     simp_arith [fS,cj,hfz,hsl,tk,hc,-lH,-dH]
     try simp_arith [hfz,hsl,tk,hc,hp,hmt,e1,-lH,-dH]
    refine⟨a1,b1,some (j8 g),c1,?_⟩
    unfold cY
    rw [step]
theorem xB {f:F} (hn:∀ s∈f.names,dJ s) (h1:12 < f.size) (h2:f.size≤10000):fq [.d (.tup f.shape)] = .ok (.d (.bl false)) [.d (.tup f.shape)]:=by
 obtain⟨a,b,c,d,e⟩:=wK (1+f.size) [f] [] (some (.d (.tup f.shape))) none none (by simp [ck]) (by simp) (by simpa [ck]using h1) (by simp [ck]; omega) (by simpa [bq]using hn)
 have e2:=ni e
 refine(aX (by rfl) (by rfl)).trans ?_
 refine mn (ρ':=[some (.d (.tup f.shape)),a,b,c,d]) wy rfl (ah (ρ':=[some (.d (.tup f.shape)),some (.lst []),some (.lst [.d (.tup f.shape)]),none,none]) ?_ (cg e2)) rfl
 generalize D.tup f.shape=X
 simp! [mS]
theorem zw {f:F} (hn:∀ s∈f.names,dJ s) (h1:12 < f.size) (h2:f.size≤10000):aH [.obj 20 [] [],.d (.tup f.shape)] = .exc 1 [] [.obj 20 [] [],.d (.tup f.shape)]:=by
 have e1:=xB hn h1 h2
 refine(aX (by rfl) (by rfl)).trans ?_
 rw [ml]
 generalize D.tup f.shape=X at e1 ⊢
 simp_arith [e1,vy,B5]
end PV.K72
namespace PV.K72
open PySem L2 PL PM PN _root_.K72 PV.K1 PV.M1 PV.N1
def snoc:F→Str→F→F
 | .nil,w,g=>.node w g .nil
 | .node x a b,w,g=>.node x a (snoc b w g)
theorem rS:∀ {f:F}{w:Str}{g:F},(snoc f w g).shape=f.shape++[.tup [.str w,.tup g.shape]]
 | .nil,w,g=>rfl
 | .node x a b,w,g=>by
  show D.tup [.str x,.tup a.shape]::(snoc b w g).shape=_
  rw [rS]
  rfl
theorem iR:∀ {f:F}{w:Str}{g:F},(snoc f w g).size=f.size+1+g.size
 | .nil,w,g=>by
  show 1+g.size+0=0+1+g.size
  omega
 | .node x a b,w,g=>by
  show 1+a.size+(snoc b w g).size=1+a.size+b.size+1+g.size
  rw [iR]
  omega
theorem lA:∀ {f:F}{w:Str}{g:F}{s:Str},s∈(snoc f w g).names↔s∈f.names∨s=w∨s∈g.names
 | .nil,w,g,s=>by
  show s∈w::(g.names++[])↔s∈[]∨_
  simp
 | .node x a b,w,g,s=>by
  show s∈x::(a.names++(snoc b w g).names)↔s∈x::(a.names++b.names)∨_
  rw [List.mem_cons,List.mem_append,lA,List.mem_cons,List.mem_append]
  constructor
  ·rintro(h | h | h | h | h) <;> simp [h]
  ·rintro((h | h | h) | h | h) <;> simp [h]
abbrev vm:=List (Str×F)
def j9 (l:List Nat):List Nat:=l.drop (wd l).length
theorem ot (l:List Nat):(j9 l).length+(wd l).length=l.length:=by
 unfold j9
 have:=Bs l
 rw [List.length_drop]
 omega
def mT:Nat→vm→F→Bool→List Nat→Option F
 | 0,_,_,_,_=>none
 | n+1,st,cur,true,l=>match l with
  | []=>if st.isEmpty then some cur else none
  | c::r=>if c=41 then(match st with
    | []=>none
    | (w,p)::st'=>mT n st' (snoc p w cur) true r)
   else if c=44 then mT n st cur false r else none
 | n+1,st,cur,false,l=>if cO (sT (wd l))then(match j9 l with
   | []=>if st.isEmpty then some (snoc cur (sT (wd l)) .nil)else none
   | c::r=>if c=40 then mT n ((sT (wd l),cur)::st) .nil false r
    else if c=41 then(match st with
     | []=>none
     | (w,p)::st'=>mT n st' (snoc p w (snoc cur (sT (wd l)) .nil)) true r)
    else mT n st (snoc cur (sT (wd l)) .nil) false r)
  else none
def vc {α:Type} (d:Nat) (f:Nat→Option α):Option α:=match d with
 | 0=>none
 | d+1=>f d
def jl:Nat→Nat→Bool→List Nat→Option (List Str)
 | 0,_,_,_=>none
 | n+1,d,true,l=>match l with
  | []=>if d=0 then some []else none
  | c::r=>if c=41 then vc d (fun d=>jl n d true r)
   else if c=44 then jl n d false r else none
 | n+1,d,false,l=>if cO (sT (wd l))then(match j9 l with
   | []=>if d=0 then some [sT (wd l)]else none
   | c::r=>(if c=40 then jl n (d+1) false r
    else if c=41 then vc d (fun d=>jl n d true r)
    else jl n d false r).map (sT (wd l) :: ·))
  else none
def fv:vm→Nat
 | []=>0
 | (_,p)::st=>p.size+1+fv st
def Hm:vm→Prop
 | []=>True
 | (w,p)::st=>dJ w∧(∀ s∈p.names,dJ s)∧Hm st
theorem mI:∀ (n:Nat) (st:vm) (cur:F) (b:Bool) (l:List Nat),(mT n st cur b l).isSome=(jl n st.length b l).isSome∧∀ f ns,mT n st cur b l=some f→jl n st.length b l=some ns→Hm st→(∀ s∈cur.names,dJ s)→f.size=cur.size+fv st+ns.length∧∀ s∈f.names,dJ s
 | 0,st,cur,b,l=>⟨rfl,fun f ns h=>by cases h⟩
 | n+1,st,cur,true,l=>by
  cases l with
  | nil =>
   cases st with
   | nil =>
    refine⟨rfl,fun f ns h1 h2 h3 h4=>?_⟩
    have h1:some cur=some f:=h1
    have h2:some []=some ns:=h2
    cases h1
    cases h2
    exact⟨rfl,h4⟩
   | cons p st=>exact⟨rfl,fun f ns h=>by cases h⟩
  | cons c r =>
   by_cases h41:c=41
   ·subst h41
    cases st with
    | nil=>exact⟨rfl,fun f ns h=>by cases h⟩
    | cons p st =>
     obtain⟨w,p⟩:=p
     obtain⟨i1,i2⟩:=mI n st (snoc p w cur) true r
     refine⟨i1,fun f ns h1 h2 h3 h4=>?_⟩
     obtain⟨o1,o2,o3⟩:=h3
     obtain⟨j1,j2⟩:=i2 f ns h1 h2 o3 fun s hs=>by
      rcases lA.mp hs with q | q | q
      ·exact o2 s q
      ·rw [q]; exact o1
      ·exact h4 s q
     rw [iR]at j1
     exact⟨by show _=cur.size+(p.size+1+fv st)+_; omega,j2⟩
   ·by_cases h44:c=44
    ·subst h44
     exact mI n st cur false r
    ·have e1:mT (n+1) st cur true (c::r)=none:=by
      show(if c=41 then _ else if c=44 then _ else none)=none
      rw [if_neg h41,if_neg h44]
     have e2:jl (n+1) st.length true (c::r)=none:=by
      show(if c=41 then _ else if c=44 then _ else none)=none
      rw [if_neg h41,if_neg h44]
     rw [e1,e2]
     exact⟨rfl,fun f ns h=>by cases h⟩
 | n+1,st,cur,false,l=>by
  by_cases hn:cO (sT (wd l))=true
  ·have hok:=mm hn
   have hcur:∀ {cur:F},(∀ s∈cur.names,dJ s)→∀ s∈(snoc cur (sT (wd l)) .nil).names,dJ s:=fun {cur} h s hs=>by
    rcases lA.mp hs with q | q | q
    ·exact h s q
    ·rw [q]; exact hok
    ·cases q
   have hz:(snoc cur (sT (wd l)) .nil).size=cur.size+1:=iR
   have e1:mT (n+1) st cur false l=(match j9 l with
    | []=>if st.isEmpty then some (snoc cur (sT (wd l)) .nil)else none
    | c::r=>if c=40 then mT n ((sT (wd l),cur)::st) .nil false r
     else if c=41 then(match st with
      | []=>none
      | (w,p)::st'=>mT n st' (snoc p w (snoc cur (sT (wd l)) .nil)) true r)
     else mT n st (snoc cur (sT (wd l)) .nil) false r):=if_pos hn
   have e2:jl (n+1) st.length false l=(match j9 l with
    | []=>if st.length=0 then some [sT (wd l)]else none
    | c::r=>(if c=40 then jl n (st.length+1) false r
     else if c=41 then vc st.length (fun d=>jl n d true r)
     else jl n st.length false r).map (sT (wd l) :: ·)):=if_pos hn
   rw [e1,e2]
   cases hr:j9 l with
   | nil =>
    cases st with
    | nil =>
     refine⟨rfl,fun f ns h1 h2 h3 h4=>?_⟩
     have h1:some (snoc cur (sT (wd l)) .nil)=some f:=h1
     have h2:some [sT (wd l)]=some ns:=h2
     cases h1
     cases h2
     exact⟨by rw [hz]; rfl,hcur h4⟩
    | cons p st=>exact⟨rfl,fun f ns h=>by cases h⟩
   | cons c r =>
    dsimp only
    by_cases h40:c=40
    ·rw [if_pos h40,if_pos h40]
     obtain⟨i1,i2⟩:=mI n ((sT (wd l),cur)::st) .nil false r
     refine⟨by rw [i1]; show _=(Option.map _ (jl n (st.length+1) false r)).isSome; rw [Option.isSome_map]; rfl,fun f ns h1 h2 h3 h4=>?_⟩
     obtain⟨ns',e,rfl⟩:=Option.map_eq_some_iff.mp h2
     obtain⟨j1,j2⟩:=i2 f ns' h1 e ⟨hok,h4,h3⟩ fun s hs=>by cases hs
     refine⟨?_,j2⟩
     have j1:f.size=0+(cur.size+1+fv st)+ns'.length:=j1
     rw [List.length_cons]
     omega
    ·rw [if_neg h40,if_neg h40]
     by_cases h41:c=41
     ·rw [if_pos h41,if_pos h41]
      cases st with
      | nil=>exact⟨rfl,fun f ns h=>by cases h⟩
      | cons p st =>
       obtain⟨w,p⟩:=p
       obtain⟨i1,i2⟩:=mI n st (snoc p w (snoc cur (sT (wd l)) .nil)) true r
       refine⟨by show(mT n st _ true r).isSome=(Option.map _ (jl n st.length true r)).isSome; rw [i1,Option.isSome_map],fun f ns h1 h2 h3 h4=>?_⟩
       have h2:Option.map (sT (wd l) :: ·) (jl n st.length true r)=some ns:=h2
       obtain⟨ns',e,rfl⟩:=Option.map_eq_some_iff.mp h2
       obtain⟨o1,o2,o3⟩:=h3
       obtain⟨j1,j2⟩:=i2 f ns' h1 e o3 fun s hs=>by
        rcases lA.mp hs with q | q | q
        ·exact o2 s q
        ·rw [q]; exact o1
        ·exact hcur h4 s q
       rw [iR,hz]at j1
       refine⟨?_,j2⟩
       rw [List.length_cons]
       show _=cur.size+(p.size+1+fv st)+_
       omega
     ·rw [if_neg h41,if_neg h41]
      obtain⟨i1,i2⟩:=mI n st (snoc cur (sT (wd l)) .nil) false r
      refine⟨by rw [i1,Option.isSome_map],fun f ns h1 h2 h3 h4=>?_⟩
      obtain⟨ns',e,rfl⟩:=Option.map_eq_some_iff.mp h2
      obtain⟨j1,j2⟩:=i2 f ns' h1 e h3 (hcur h4)
      rw [hz]at j1
      refine⟨?_,j2⟩
      rw [List.length_cons]
      omega
  ·have hn:cO (sT (wd l))=false:=by simpa using hn
   have e1:mT (n+1) st cur false l=none:=if_neg (by rw [hn]; decide)
   have e2:jl (n+1) st.length false l=none:=if_neg (by rw [hn]; decide)
   rw [e1,e2]
   exact⟨rfl,fun f ns h=>by cases h⟩
theorem mJ:∀ (n d:Nat) (b:Bool) (l:List Nat) (ns:List Str),jl n d b l=some ns→l.length≤10 * ns.length+d+(if b then 1 else 0)
 | 0,d,b,l,ns,h=>by cases h
 | n+1,d,true,l,ns,h=>by
  show _≤10 * ns.length+d+1
  cases l with
  | nil=>simp
  | cons c r =>
   have h:(if c=41 then vc d (fun d=>jl n d true r)
    else if c=44 then jl n d false r else none)=some ns:=h
   rw [List.length_cons]
   by_cases h41:c=41
   ·rw [if_pos h41]at h
    cases d with
    | zero=>cases h
    | succ d =>
     have:=mJ n d true r ns h
     simp at this
     omega
   ·rw [if_neg h41]at h
    by_cases h44:c=44
    ·rw [if_pos h44]at h
     have:=mJ n d false r ns h
     simp at this
     omega
    ·rw [if_neg h44]at h
     cases h
 | n+1,d,false,l,ns,h=>by
  show _≤10 * ns.length+d+0
  by_cases hn:cO (sT (wd l))=true
  ·have hw:(wd l).length≤8:=by
    have:=(mm hn).hi
    rw [dM]at this
    exact this
   have hl:=ot l
   have h:(match j9 l with
    | []=>if d=0 then some [sT (wd l)]else none
    | c::r=>(if c=40 then jl n (d+1) false r
     else if c=41 then vc d (fun d=>jl n d true r)
     else jl n d false r).map (sT (wd l) :: ·))=some ns:=by
    rw [← h]
    exact(if_pos hn).symm
   cases hr:j9 l with
   | nil =>
    rw [hr]at h hl
    dsimp only at h
    by_cases hd:d=0
    ·rw [if_pos hd]at h
     cases h
     simp at hl ⊢
     omega
    ·rw [if_neg hd]at h
     cases h
   | cons c r =>
    rw [hr]at h hl
    rw [List.length_cons]at hl
    obtain⟨ns',e,rfl⟩:=Option.map_eq_some_iff.mp h
    rw [List.length_cons]
    by_cases h40:c=40
    ·rw [if_pos h40]at e
     have:=mJ n (d+1) false r ns' e
     simp at this
     omega
    ·rw [if_neg h40]at e
     by_cases h41:c=41
     ·rw [if_pos h41]at e
      cases d with
      | zero=>cases e
      | succ d =>
       have:=mJ n d true r ns' e
       simp at this
       omega
     ·rw [if_neg h41]at e
      have:=mJ n d false r ns' e
      simp at this
      omega
  ·have:jl (n+1) d false l=none:=if_neg hn
   rw [this]at h
   cases h
end PV.K72
namespace PV.K72
open PySem L2 PL PM PN _root_.K72 PV.K1 PV.M1 PV.N1
variable {l r:List Nat}{a e:Nat}{st:vm}{cur:F}{w:Str}
abbrev lO (f:F):O:=.lst (f.shape.map .d)
def fE (st:vm) (cur:F):O:=.lst ((st.reverse.map fun p=>lO p.2)++[lO cur])
def fF (st:vm):O:=.lst (st.reverse.map fun p=>.d (.str p.1))
theorem yC {A:List O}{o:O}{f:O→Option (O×O)}:bL [.int (-1)] (.lst (A++[o])) f=(f o).map fun p=>(p.1,.lst (A++[p.2])):=by
 have h:dO (.lst (A++[o])) (.int (-1))=some (o,fun z=>.lst ((A++[o]).set A.length z)):=by
  show(match ixN (A++[o]).length (-1)with
   | some j=>match(A++[o])[j]? with
    | some y=>some (y,fun z=>O.lst ((A++[o]).set j z))
    | none=>none
   | none=>none)=_
  have:ixN (A++[o]).length (-1)=some A.length:=by
   unfold L2.ixN
   rw [if_neg (by omega),if_pos (by rw [List.length_append,List.length_singleton]; omega),List.length_append,List.length_singleton]
   congr 1
   omega
  rw [this]
  dsimp only
  rw [List.getElem?_append_right (Nat.le_refl _),Nat.sub_self]
  rfl
 rw [bL,h]
 show(bL [] o f).map _=_
 rw [bL]
 congr 1
 funext p
 show(p.1,O.lst ((A++[o]).set A.length p.2))=_
 rw [List.set_append_right _ _ (Nat.le_refl _),Nat.sub_self]
 rfl
theorem Bu {A:List O}{o:O}{f:O→Option Unit}:bL [.int (-1)] (.lst (A++[o])) (fun o=>(f o).map fun _=>(O.d .non,o))=(f o).map fun _=>(O.d .non,.lst (A++[o])):=by
 rw [yC,Option.map_map]
 rfl
theorem Df (hs:st.length≤1000):oG .append (fE st cur) [.lst []]=some (.d .non,fE ((w,cur)::st) .nil):=by
 unfold fE
 show(if((st.reverse.map fun p=>lO p.2)++[lO cur]).length < sizeLine then _ else _)=_
 rw [if_pos (by rw [PySem.sizeLine_eq]; simp; omega)]
 rw [List.reverse_cons,List.map_append]
 rfl
theorem Dg (hs:st.length≤1000):oG .append (fF st) [.d (.str w)]=some (.d .non,fF ((w,cur)::st)):=by
 unfold fF
 show(if(st.reverse.map fun p=>O.d (.str p.1)).length < sizeLine then _ else _)=_
 rw [if_pos (by rw [PySem.sizeLine_eq]; simp; omega)]
 rw [List.reverse_cons,List.map_append]
 rfl
theorem Bv:∀ f:F,f.shape.length≤f.size
 | .nil=>Nat.le_refl _
 | .node x a b=>by
  have:=Bv b
  show b.shape.length+1≤1+a.size+b.size
  omega
theorem Dh {A:List O}{g:F} (hs:cur.size≤1000):oG .append (lO cur) [.d (.tup [.str w,.tup g.shape])]=some (.d .non,lO (snoc cur w g)):=by
 have:=Bv cur
 show(if(cur.shape.map O.d).length < sizeLine then _ else _)=_
 rw [if_pos (by rw [PySem.sizeLine_eq,List.length_map]; omega)]
 show some (O.d .non,O.lst _)=some (O.d .non,O.lst _)
 rw [rS,List.map_append]
 rfl
theorem Bw {g:F} (hs:cur.size≤1000):bL [.int (-1)] (fE st cur) (fun o=>oG .append o [.d (.tup [.str w,.tup g.shape])])=some (.d .non,fE st (snoc cur w g)):=by
 unfold fE
 rw [yC,Dh (A:=[]) hs]
 rfl
theorem D3:bL [.int (-1)] (fE st cur) (fun o=>(dH .append o).map fun _=>(O.d .non,o))=some (.d .non,fE st cur):=by
 unfold fE
 rw [Bu]
 rfl
theorem Fy {p:F}:oG .pop (fE ((w,p)::st) cur) []=some (lO cur,fE st p):=by
 unfold fE
 simp [oG]
theorem Fz {p:F}:oG .pop (fF ((w,p)::st)) []=some (.d (.str w),fF st):=by
 unfold fF
 simp [oG]
theorem D4 (hz:l.length≤1000000) (ha:a≤l.length):mW [.str (sT l),.int (a:Int),.int ((a:Int)+1)]=some (.d (.str (sT ((l.drop a).take 1)))):=by
 show(if(sT l).length≤sizeLine then some (O.d (.str ⟨(((sT l).cps.toList.drop (HT.sIx (sT l).length 0 (some (a:Int)))).take (HT.sIx (sT l).length (sT l).length (some ((a+1:Nat):Int)) - HT.sIx (sT l).length 0 (some (a:Int)))).toArray⟩))else none)=_
 rw [dM,if_pos (by rw [PySem.sizeLine_eq]; omega),HT.sIx_nat,HT.sIx_nat,Nat.min_eq_left ha]
 show some (O.d (.str (sT ((l.drop a).take (min (a+1) l.length - a)))))=_
 congr 4
 rcases Nat.lt_or_ge a l.length with h | h
 ·rw [show min (a+1) l.length - a=1 by omega]
 ·rw [List.drop_of_length_le h]
  simp
theorem xC {x y:List Nat} (h:sT x=sT y):x=y:=by
 have:(sT x).cps.toList=(sT y).cps.toList:=by rw [h]
 simpa using this
theorem sV {x y:List Nat}:au .eq (.str (sT x)) (.str (sT y))=some (decide (x=y)):=by
 rw [cM,if_pos (show lL (.str (sT x)) (.str (sT y))=true by unfold lL; rw [ig,ig]; rfl),xA]
 exact congrArg some (decide_eq_decide.mpr ⟨xC,fun h=>by rw [h]⟩)
theorem Hn {x:List Nat}:au .notin (.str (sT x)) (.tup [.str ")",.str ",",.str ""])=some (! decide (x = [41]∨x = [44]∨x = [])):=by
 show(au.inD (.str (sT x)) (.tup [.str (sT [41]),.str (sT [44]),.str (sT [])])).map (! ·)=_
 have h:au.inD (.str (sT x)) (.tup [.str (sT [41]),.str (sT [44]),.str (sT [])])=some (decide (x = [41]∨x = [44]∨x = [])):=by
  show(if(D.okd 150 (.str (sT x))&&D.okdL 150 [.str (sT [41]),.str (sT [44]),.str (sT [])])=true then some ([D.str (sT [41]),.str (sT [44]),.str (sT [])].any fun y=>D.eqd y (.str (sT x)))else qw (.str (sT x)) [.str (sT [41]),.str (sT [44]),.str (sT [])])=_
  rw [if_pos (by rw [ig]; rfl)]
  refine congrArg some ?_
  simp only [List.any_cons,List.any_nil,xA]
  have e:∀ y:List Nat,decide (sT y=sT x)=decide (x=y):=fun y=>decide_eq_decide.mpr ⟨fun h=>(xC h).symm,fun h=>by rw [h]⟩
  rw [e,e,e]
  by_cases h1:x = [41]
  ·simp [h1]
  ·by_cases h2:x = [44]
   ·simp [h2]
   ·simp [h1,h2]
 rw [h]
 rfl
theorem vd:au .eq (fF st).frz (.lst [])=some st.isEmpty:=by
 have hf:(fF st).frz = .lst (st.reverse.map fun p=>.str p.1):=by
  unfold fF
  show D.lst (O.frzL _)=_
  rw [bu,List.map_map]
  exact congrArg D.lst (List.map_congr_left fun a _=>cU)
 rw [hf]
 have h1:lL (.lst (st.reverse.map fun p=>.str p.1)) (.lst [])=true:=by
  unfold lL
  rw [yB,D.okd]
  have:D.okdL 149 (st.reverse.map fun p=>D.str p.1)=true:=kA fun x hx=>by
   obtain⟨p,_,rfl⟩:=List.mem_map.mp hx
   exact ig
  rw [this]
  rfl
 rw [cM,h1,if_pos rfl,qm]
 cases st with
 | nil=>rfl
 | cons p st=>simp
end PV.K72
namespace PV.K72
open PySem L2 PL PM PN _root_.K72 PV.K1 PV.M1 PV.N1
variable {l r:List Nat}{a e:Nat}{st:vm}{cur p:F}{w:Str}{TD W S LD OD:D}{A N:Int}{LV LV2 OP OP2:O}{B:Bool}
variable {s0 s1 s2 s3 s4 s5 s6:Option O}
noncomputable abbrev ΦI:cW:=fz [(2,aS),(475,bJ)]
theorem q1 (h:bJ [.d TD,.d (.int A)] = .ok (.d W) [.d TD,.d (.int A)]):bZ ΦI gZ [some (.d TD),s1,s2,some (.d (.int A)),s4,s5,s6] = .ok .nx [some (.d TD),s1,s2,some (.d (.int A)),some (.d W),s5,s6]:=by
 simp_arith [gZ,h]
theorem q2 (h:mL .len W=some (.d (.int N))):bZ ΦI g9 [s0,s1,s2,some (.d (.int A)),some (.d W),s5,s6] = .ok .nx [s0,s1,s2,some (.d (.int (A+N))),some (.d W),s5,s6]:=by
 simp_arith [g9,kQ,aq,h]
theorem q3 (h:mW [TD,.int A,.int (A+1)]=some (.d S)):bZ ΦI hE [some (.d TD),s1,s2,some (.d (.int A)),s4,s5,s6] = .ok .nx [some (.d TD),s1,s2,some (.d (.int A)),s4,some (.d S),s6]:=by
 simp_arith [hE,-jB]
 try simp_arith [h,-jB]
theorem q4 (h:aS [.d W] = .ok (.d (.bl B)) [.d W]):bZ ΦI hM [s0,s1,s2,s3,some (.d W),s5,s6] = .ok (if B then .nx else .rt (.d .non)) [s0,s1,s2,s3,some (.d W),s5,s6]:=by
 cases B <;> simp_arith [hM,h]
theorem K3 (h1:au .eq S (.str "(")=some true) (h2:oG .append OP [.d W]=some (.d .non,OP2)) (h3:dH .append OP=some ()) (h4:oG .append LV [.lst []]=some (.d .non,LV2)) (h5:dH .append LV=some ()):bZ ΦI dg [s0,some (LV),some (OP),s3,some (.d W),some (.d S),s6] = .ok .nx [s0,some (LV2),some (OP2),s3,some (.d W),some (.d S),s6]:=by
 simp_arith [dg,h1,-cM,-dH]
 try simp_arith [h1,h2,h3,h4,h5,-cM,-dH]
theorem K4 (h1:au .eq S (.str "(")=some false) (h2:bL [.int (-1)] LV (fun o=>oG .append o [.d (.tup [W,.tup []])])=some (.d .non,LV2)) (h3:bL [.int (-1)] LV (fun o=>(dH .append o).map fun _=>(O.d .non,o))=some (.d .non,LV)):bZ ΦI dg [s0,some (LV),s2,s3,some (.d W),some (.d S),s6] = .ok .nx [s0,some (LV2),s2,s3,some (.d W),some (.d S),s6]:=by
 simp [dU,aG,bZ,kG,dB,jR,bN,kh,cZ,il,d7,lC,p5,ki,ev,ai,bB,mN,w3,eW,fH,iU,iB,pZ,fD,iV,dH,p4,bA,jP,eV,qz,eT,jq,oE,bj,fM,jk,ip,Res.noX,jQ,Fl.whl,fz,List.lookup,putD,PySem.sizeLine_eq,dg,h1,-cM,-dH]
 try simp [dU,aG,bZ,kG,dB,jR,bN,kh,cZ,il,d7,lC,p5,ki,ev,ai,bB,mN,w3,eW,fH,iU,iB,pZ,fD,iV,dH,p4,bA,jP,eV,qz,eT,jq,oE,bj,fM,jk,ip,Res.noX,jQ,Fl.whl,fz,List.lookup,putD,PySem.sizeLine_eq,h1,h2,h3,-cM,-dH]
theorem K5 (h1:au .eq S (.str "")=some true) (h2:OP.frz=OD) (h3:OP.shal=OP) (tk:∀ {i ρ},aB.taken OP i ρ=ρ.set i none) (h4:au .eq OD (.lst [])=some false):bZ ΦI aT [s0,s1,some (OP),s3,s4,some (.d S),s6] = .ok (.rt (.d .non)) [s0,s1,some (OP),s3,s4,some (.d S),s6]:=by
 simp_arith [aT,h1,h2,h3,tk,-cM]
 try simp_arith [h1,h2,h3,tk,h4,-cM]
theorem K6 {X:List D} (h1:au .eq S (.str "")=some true) (h2:OP.frz=OD) (h3:OP.shal=OP) (tk:∀ {i ρ},aB.taken OP i ρ=ρ.set i none) (h4:au .eq OD (.lst [])=some true) (h5:LV.frz=LD) (tk2:∀ {i ρ},aB.taken LV i ρ=ρ.set i none) (h6:kH [LD,.int 0]=some (.d (.lst X))):∃ t1,bZ ΦI aT [s0,some (LV),some (OP),s3,s4,some (.d S),s6] = .ok (.rt (.d (.tup X))) [s0,t1,some (OP),s3,s4,some (.d S),s6]:=by
 have h7:mL .tuple (.lst X)=some (.d (.tup X)):=rfl
 refine⟨some (cb LV (.int 0) (.d (.lst X))),?_⟩
 simp_arith [aT,h1,h2,h3,tk,h4,h5,tk2,-cM]
 try simp_arith [h1,h2,h3,tk,h4,h5,tk2,h6,h7,-cM]
theorem K7 (h1:au .eq S (.str "")=some false):bZ ΦI aT [s0,s1,s2,s3,s4,some (.d S),s6] = .ok .nx [s0,s1,s2,s3,s4,some (.d S),s6]:=by
 simp_arith [aT,h1,-cM]
theorem q8:bZ ΦI cw [s0,s1,s2,some (.d (.int A)),s4,s5,s6] = .ok .nx [s0,s1,s2,some (.d (.int (A+1))),s4,s5,s6]:=by
 simp_arith [cw,kQ,aq]
theorem Ku (h2:OP.frz=OD) (h3:OP.shal=OP) (tk:∀ {i ρ},aB.taken OP i ρ=ρ.set i none) (h4:au .eq OD (.lst [])=some B):bZ ΦI gS [s0,s1,some (OP),s3,s4,s5,s6] = .ok (if B then .rt (.d .non)else .nx) [s0,s1,some (OP),s3,s4,s5,s6]:=by
 cases B <;> (simp_arith [gS,h2,h3,tk,-cM]; try simp_arith [h2,h3,tk,h4,-cM])
theorem i2 {X:List D}{Y:O} (h1:oG .pop LV []=some (Y,LV2)) (h2:dH .pop LV=some ()) (h3:Y.frz = .lst X):bZ ΦI gU [s0,some (LV),s2,s3,s4,s5,s6] = .ok .nx [s0,some (LV2),s2,s3,s4,s5,some (.d (.tup X))]:=by
 have h7:mL .tuple (.lst X)=some (.d (.tup X)):=rfl
 simp_arith [gU,h1,h2,h3,-dH]
 try simp_arith [h1,h2,h3,h7,-dH]
theorem i3 {X:D} (h1:oG .pop OP []=some (.d W,OP2)) (h2:dH .pop OP=some ()) (h3:bL [.int (-1)] LV (fun o=>oG .append o [.d (.tup [W,X])])=some (.d .non,LV2)) (h4:bL [.int (-1)] LV (fun o=>(dH .append o).map fun _=>(O.d .non,o))=some (.d .non,LV)):bZ ΦI gV [s0,some (LV),some (OP),s3,s4,s5,some (.d X)] = .ok .nx [s0,some (LV2),some (OP2),s3,s4,s5,some (.d X)]:=by
 have p_nil:∀ {o:O}{f:O→Option (O×O)},bL [] o f=f o:=fun {o f}=>rfl
 simp [dU,aG,bZ,kG,dB,jR,bN,kh,cZ,il,d7,lC,p5,ki,ev,ai,bB,mN,w3,eW,fH,iU,iB,pZ,fD,iV,dH,p4,bA,jP,eV,qz,eT,jq,oE,bj,fM,jk,ip,Res.noX,jQ,Fl.whl,fz,List.lookup,putD,PySem.sizeLine_eq,gV,h4,p_nil,h1,h2,-dH]
 try simp [dU,aG,bZ,kG,dB,jR,bN,kh,cZ,il,d7,lC,p5,ki,ev,ai,bB,mN,w3,eW,fH,iU,iB,pZ,fD,iV,dH,p4,bA,jP,eV,qz,eT,jq,oE,bj,fM,jk,ip,Res.noX,jQ,Fl.whl,fz,List.lookup,putD,PySem.sizeLine_eq,h4,p_nil,h1,h2,h3,-dH]
theorem i4:bZ ΦI gW [s0,s1,s2,some (.d (.int A)),s4,s5,s6] = .ok .nx [s0,s1,s2,some (.d (.int (A+1))),s4,s5,s6]:=by
 simp_arith [gW,kQ,aq]
theorem i5 (h:mW [TD,.int A,.int (A+1)]=some (.d S)):bZ ΦI gX [some (.d TD),s1,s2,some (.d (.int A)),s4,s5,s6] = .ok .nx [some (.d TD),s1,s2,some (.d (.int A)),s4,some (.d S),s6]:=by
 simp_arith [gX,-jB]
 try simp_arith [h,-jB]
theorem i6 (h:au .notin S (.tup [.str ")",.str ",",.str ""])=some B):bZ ΦI gY [s0,s1,s2,s3,s4,some (.d S),s6] = .ok (if B then .rt (.d .non)else .nx) [s0,s1,s2,s3,s4,some (.d S),s6]:=by
 cases B <;> simp_arith [gY,h,-kO]
end PV.K72
namespace PV.K72
open PySem L2 PL PM PN _root_.K72 PV.K1 PV.M1 PV.N1
variable {L l r:List Nat}{a e:Nat}{st:vm}{cur p:F}{w:Str}{TD S:D}
variable {s0 s1 s2 s3 s4 s5 s6:Option O}
noncomputable abbrev fI:Env→Res (Option Fl):=fun ρ=>(kh ΦI (.cm .eq (.var 5) (.lit (.str ")"))) ρ).bind fun t ρ=>kg t ((aG ΦI bW ρ).bind fun f ρ=>.ok f.whl ρ) (.ok (some .nx) ρ)
noncomputable abbrev fO:Env→Res (Option Fl):=fun ρ=>(kh ΦI (.lit (.bl true)) ρ).bind fun t ρ=>kg t ((aG ΦI bp ρ).bind fun f ρ=>.ok f.whl ρ) (.ok (some .nx) ρ)
theorem Ho {B:Bool} (h:au .eq S (.str ")")=some B):kh ΦI (.cm .eq (.var 5) (.lit (.str ")"))) [s0,s1,s2,s3,s4,some (.d S),s6] = .ok B [s0,s1,s2,s3,s4,some (.d S),s6]:=by
 simp_arith [-cM]
 try simp_arith [h,-cM]
theorem D5 (h:au .eq S (.str ")")=some false):fI [s0,s1,s2,s3,s4,some (.d S),s6] = .ok (some .nx) [s0,s1,s2,s3,s4,some (.d S),s6]:=by
 dsimp only [fI]
 rw [Ho h]
 rfl
theorem rV {ρ':Env}{f:Fl} (h:au .eq S (.str ")")=some true) (e:aG ΦI bW [s0,s1,s2,s3,s4,some (.d S),s6] = .ok f ρ'):fI [s0,s1,s2,s3,s4,some (.d S),s6] = .ok f.whl ρ':=by
 dsimp only [fI]
 rw [Ho h]
 show(aG ΦI bW _).bind _=_
 rw [e]
 rfl
theorem rW {ρ ρ':Env}{f:Fl} (e:aG ΦI bp ρ = .ok f ρ'):fO ρ = .ok f.whl ρ':=by
 have h:kh ΦI (.lit (.bl true)) ρ = .ok true ρ:=by simp_arith [dU]
 dsimp only [fO]
 rw [h]
 show(aG ΦI bp _).bind _=_
 rw [e]
 rfl
theorem iA {Φ:cW}{ρ:Env}:aG Φ [] ρ = .ok .nx ρ:=by rw [aG]
theorem yD {i:Nat}{ρ:Env}:aB.taken (fF st) i ρ=ρ.set i none:=rfl
theorem Hq {i:Nat}{ρ:Env}:aB.taken (fE st cur) i ρ=ρ.set i none:=rfl
theorem yE:(fF st).shal=fF st:=by
 unfold fF
 show O.lst _=_
 rw [List.map_map]
 refine congrArg O.lst (List.map_congr_left fun a _=>?_)
 show O.d (O.d _).frz=_
 rw [cU]
theorem Bx:(lO cur).frz = .lst cur.shape:=by
 show D.lst (O.frzL _)=_
 rw [bu,List.map_map]
 exact congrArg D.lst ((List.map_congr_left fun a _=>cU).trans (List.map_id _))
theorem wL {x:List Nat}:au .eq (.str (sT x)) (.str ")")=some (decide (x = [41])):=sV (y:=[41])
theorem D6 {x:List Nat}:au .eq (.str (sT x)) (.str "(")=some (decide (x = [40])):=sV (y:=[40])
theorem D7 {x:List Nat}:au .eq (.str (sT x)) (.str "")=some (decide (x = [])):=sV (y:=[])
theorem yF {c:Nat} (h:L.drop a=c::r):L.drop (a+1)=r∧a < L.length:=by
 refine⟨?_,?_⟩
 ·rw [← List.drop_drop,h]
  rfl
 ·rcases Nat.lt_or_ge a L.length with q | q
  ·exact q
  ·rw [List.drop_of_length_le q]at h
   cases h
theorem By:∀ st:vm,st.length≤fv st
 | []=>Nat.le_refl _
 | (w,p)::st=>by
  have:=By st
  show st.length+1≤p.size+1+fv st
  omega
theorem inner (hz:L.length≤900):∀ (n:Nat) (st:vm) (cur:F) (a:Nat) (r:List Nat) (s6:Option O),L.drop a=41::r→r.length+1 < n→cur.size+fv st≤a →
  (mT n st cur true (41::r)=none∧∃ t1 t2 t3 t5 t6,cY fI n [some (.d (.str (sT L))),some (fE st cur),some (fF st),some (.d (.int (a:Int))),s4,some (.d (.str (sT [41]))),s6]=some (.ok (.rt (.d .non)) [some (.d (.str (sT L))),t1,t2,t3,s4,t5,t6])) ∨
  (∃ (m:Nat) (st':vm) (cur':F) (a':Nat) (l':List Nat) (t6:Option O),m < n∧l'.length < m∧L.drop a'=l'∧(l' = []∨∃ r',l'=44::r')∧cur'.size+fv st'≤a'∧a'≤L.length∧mT n st cur true (41::r)=mT m st' cur' true l' ∧
   cY fI n [some (.d (.str (sT L))),some (fE st cur),some (fF st),some (.d (.int (a:Int))),s4,some (.d (.str (sT [41]))),s6]=some (.ok .nx [some (.d (.str (sT L))),some (fE st' cur'),some (fF st'),some (.d (.int (a':Int))),s4,some (.d (.str (sT (l'.take 1)))),t6]))
 | 0,st,cur,a,r,s6,hd,hn,hi=>by omega
 | k+1,st,cur,a,r,s6,hd,hn,hi=>by
  obtain⟨hd2,ha⟩:=yF hd
  have hc:au .eq (.str (sT [41])) (.str ")")=some true:=wL
  cases st with
  | nil =>
   have c1:=Ku (s0:=some (.d (.str (sT L)))) (s1:=some (fE [] cur)) (s3:=some (.d (.int (a:Int)))) (s4:=s4) (s5:=some (.d (.str (sT [41])))) (s6:=s6) (OP:=fF []) rfl yE (fun {i ρ}=>yD) vd
   have e:aG ΦI bW [some (.d (.str (sT L))),some (fE [] cur),some (fF []),some (.d (.int (a:Int))),s4,some (.d (.str (sT [41]))),s6] = .ok (.rt (.d .non)) [some (.d (.str (sT L))),some (fE [] cur),some (fF []),some (.d (.int (a:Int))),s4,some (.d (.str (sT [41]))),s6]:=by
    rw [je]
    exact cg c1
   refine .inl ⟨rfl,some (fE [] cur),some (fF []),some (.d (.int (a:Int))),some (.d (.str (sT [41]))),s6,?_⟩
   unfold cY
   rw [rV hc e]
   rfl
  | cons q st =>
   obtain⟨w,p⟩:=q
   have hi2:cur.size+(p.size+1+fv st)≤a:=hi
   have hsl:=By st
   have c1:=Ku (s0:=some (.d (.str (sT L)))) (s1:=some (fE ((w,p)::st) cur)) (s3:=some (.d (.int (a:Int)))) (s4:=s4) (s5:=some (.d (.str (sT [41])))) (s6:=s6) (OP:=fF ((w,p)::st)) rfl yE (fun {i ρ}=>yD) vd
   have c2:=i2 (s0:=some (.d (.str (sT L)))) (s2:=some (fF ((w,p)::st))) (s3:=some (.d (.int (a:Int)))) (s4:=s4) (s5:=some (.d (.str (sT [41])))) (s6:=s6) (Fy (st:=st) (cur:=cur) (w:=w) (p:=p)) rfl Bx
   have c3:=i3 (s0:=some (.d (.str (sT L)))) (s3:=some (.d (.int (a:Int)))) (s4:=s4) (s5:=some (.d (.str (sT [41])))) (Fz (st:=st) (w:=w) (p:=p)) rfl (Bw (st:=st) (cur:=p) (w:=w) (g:=cur) (by omega)) D3
   have c4:=i4 (A:=(a:Int)) (s0:=some (.d (.str (sT L)))) (s1:=some (fE st (snoc p w cur))) (s2:=some (fF st)) (s4:=s4) (s5:=some (.d (.str (sT [41])))) (s6:=some (.d (.tup cur.shape)))
   have h5:=D4 (l:=L) (a:=a+1) (by omega) (by omega)
   rw [hd2]at h5
   have hcast:((a+1:Nat):Int)=(a:Int)+1:=by omega
   rw [hcast]at h5
   have c5:=i5 (s1:=some (fE st (snoc p w cur))) (s2:=some (fF st)) (s4:=s4) (s5:=some (.d (.str (sT [41])))) (s6:=some (.d (.tup cur.shape))) h5
   have c6:=i6 (s0:=some (.d (.str (sT L)))) (s1:=some (fE st (snoc p w cur))) (s2:=some (fF st)) (s3:=some (.d (.int ((a:Int)+1)))) (s4:=s4) (s6:=some (.d (.tup cur.shape))) (Hn (x:=r.take 1))
   have hrd:mT (k+1) ((w,p)::st) cur true (41::r)=mT k st (snoc p w cur) true r:=rfl
   have hsz:(snoc p w cur).size+fv st≤a+1:=by
    rw [iR]
    omega
   by_cases ho:r.take 1 = [41]∨r.take 1 = [44]∨r.take 1 = []
   ·rw [decide_eq_true ho]at c6
    have e:aG ΦI bW [some (.d (.str (sT L))),some (fE ((w,p)::st) cur),some (fF ((w,p)::st)),some (.d (.int (a:Int))),s4,some (.d (.str (sT [41]))),s6] = .ok .nx [some (.d (.str (sT L))),some (fE st (snoc p w cur)),some (fF st),some (.d (.int ((a+1:Nat):Int))),s4,some (.d (.str (sT (r.take 1)))),some (.d (.tup cur.shape))]:=by
     rw [je,hcast]
     exact ah c1 (ah c2 (ah c3 (ah c4 (ah c5 (ah c6 iA)))))
    by_cases h41:r.take 1 = [41]
    ·obtain⟨r2,rfl⟩:∃ r2,r=41::r2:=by
      cases r with
      | nil=>cases h41
      | cons c r2 =>
       have:c=41:=by simpa using h41
       exact⟨r2,by rw [this]⟩
     rw [List.length_cons]at hn
     rcases inner hz k st (snoc p w cur) (a+1) r2 (some (.d (.tup cur.shape))) hd2 (by omega) hsz with⟨j1,t1,t2,t3,t5,t6,j2⟩ | ⟨m,st',cur',a',l',t6,j0,j1,j2,j3,j4,j5,j6,j7⟩
     ·refine .inl ⟨hrd.trans j1,t1,t2,t3,t5,t6,?_⟩
      unfold cY
      rw [rV hc e]
      exact j2
     ·refine .inr ⟨m,st',cur',a',l',t6,by omega,j1,j2,j3,j4,j5,hrd.trans j6,?_⟩
      unfold cY
      rw [rV hc e]
      exact j7
    ·refine .inr ⟨k,st,snoc p w cur,a+1,r,some (.d (.tup cur.shape)),by omega,by omega,hd2,?_,hsz,by omega,hrd,?_⟩
     ·cases r with
      | nil=>exact .inl rfl
      | cons c r2 =>
       refine .inr ⟨r2,?_⟩
       have:c=44:=by
        rcases ho with q | q | q
        ·exact absurd q h41
        ·simpa using q
        ·cases q
       rw [this]
     ·unfold cY
      rw [rV hc e]
      show cY fI k _=_
      obtain⟨j,rfl⟩:∃ j,k=j+1:=⟨k - 1,by omega⟩
      unfold cY
      rw [D5 (by rw [wL,decide_eq_false h41])]
   ·rw [decide_eq_false ho]at c6
    have e:aG ΦI bW [some (.d (.str (sT L))),some (fE ((w,p)::st) cur),some (fF ((w,p)::st)),some (.d (.int (a:Int))),s4,some (.d (.str (sT [41]))),s6] = .ok (.rt (.d .non)) [some (.d (.str (sT L))),some (fE st (snoc p w cur)),some (fF st),some (.d (.int ((a:Int)+1))),s4,some (.d (.str (sT (r.take 1)))),some (.d (.tup cur.shape))]:=by
     rw [je]
     exact ah c1 (ah c2 (ah c3 (ah c4 (ah c5 (cg c6)))))
    refine .inl ⟨hrd.trans ?_,some (fE st (snoc p w cur)),some (fF st),some (.d (.int ((a:Int)+1))),some (.d (.str (sT (r.take 1)))),some (.d (.tup cur.shape)),?_⟩
    ·obtain⟨j,rfl⟩:∃ j,k=j+1:=⟨k - 1,by omega⟩
     cases r with
     | nil=>exact absurd (.inr (.inr rfl)) ho
     | cons c r2 =>
      have h1:¬ c=41:=fun z=>ho (.inl (by rw [z]; rfl))
      have h2:¬ c=44:=fun z=>ho (.inr (.inl (by rw [z]; rfl)))
      show(if c=41 then _ else if c=44 then _ else none)=none
      rw [if_neg h1,if_neg h2]
    ·unfold cY
     rw [rV hc e]
     rfl
def xD:Option F→O
 | some f=>.d (.tup f.shape)
 | none=>.d .non
theorem JH {l:List Nat} (h:l.length≤900):aS [.d (.str (sT l))] = .ok (.d (.bl (cO (sT l)))) [.d (.str (sT l))]:=by
 have hp:PV.M1.Bp (.str (sT l))=true:=by
  show decide ((sT l).length≤1000)=true
  rw [dM]
  exact decide_eq_true (by omega)
 exact zv hp
theorem Di (h:L.drop a=l):L.drop (a+(wd l).length)=j9 l:=by
 rw [← List.drop_drop,h]
 rfl
theorem Dj {cur:F}:kH [(fE [] cur).frz,.int 0]=some (.d (.lst cur.shape)):=by
 have:(fE [] cur).frz = .lst [.lst cur.shape]:=by
  unfold fE
  show D.lst (O.frzL [lO cur])=_
  rw [bu,List.map_cons,Bx]
  rfl
 rw [this]
 rfl
theorem Bz (h:au .eq S (.str ")")=some false):bZ ΦI bS [s0,s1,s2,s3,s4,some (.d S),s6] = .ok .nx [s0,s1,s2,s3,s4,some (.d S),s6]:=ni (n:=1) (f:=fI) (by
 have e:cY fI 1 [s0,s1,s2,s3,s4,some (.d S),s6]=some (.ok .nx [s0,s1,s2,s3,s4,some (.d S),s6]):=by
  unfold cY
  rw [D5 h]
 exact e)
def Hr (n:Nat) (st:vm) (x:F) (r:List Nat):Option F:=match st with
 | []=>none
 | (w,p)::st'=>mT n st' (snoc p w x) true r
theorem Hs {k:Nat} (h:cO (sT (wd l))=true):mT (k+1) st cur false l=(match j9 l with
   | []=>if st.isEmpty then some (snoc cur (sT (wd l)) .nil)else none
   | c::r=>if c=40 then mT k ((sT (wd l),cur)::st) .nil false r
    else if c=41 then Hr k st (snoc cur (sT (wd l)) .nil) r
    else mT k st (snoc cur (sT (wd l)) .nil) false r):=(if_pos h).trans (by
 cases j9 l with
 | nil=>rfl
 | cons c r=>cases st <;> rfl)
theorem outer (hz:L.length≤900):∀ (n:Nat) (st:vm) (cur:F) (a:Nat) (l:List Nat) (s4 s5 s6:Option O),L.drop a=l→a≤L.length→l.length < n→cur.size+fv st≤a →
  ∃ t1 t2 t3 t4 t5 t6,cY fO n [some (.d (.str (sT L))),some (fE st cur),some (fF st),some (.d (.int (a:Int))),s4,s5,s6]=some (.ok (.rt (xD (mT n st cur false l))) [some (.d (.str (sT L))),t1,t2,t3,t4,t5,t6]):=by
 intro n
 induction n using Nat.strongRecOn with
 | _ n ih =>
 intro st cur a l s4 s5 s6 hd ha hn hi
 obtain⟨k,rfl⟩:∃ k,n=k+1:=⟨n - 1,by omega⟩
 have hlen:l.length+a=L.length:=by
  rw [← hd,List.length_drop]
  omega
 have hrl:=ot l
 have hsl:=By st
 have hd2:=Di hd
 have hw:=De (l:=L) (a:=a) (by omega) ha
 rw [hd]at hw
 have c1:=q1 (s1:=some (fE st cur)) (s2:=some (fF st)) (s4:=s4) (s5:=s5) (s6:=s6) hw
 have c2:=q2 (A:=(a:Int)) (s0:=some (.d (.str (sT L)))) (s1:=some (fE st cur)) (s2:=some (fF st)) (s5:=s5) (s6:=s6) (pU (l:=wd l) (by omega))
 have hcast:((a+(wd l).length:Nat):Int)=(a:Int)+((wd l).length:Int):=by omega
 rw [← hcast]at c2
 have h3:=D4 (l:=L) (a:=a+(wd l).length) (by omega) (by omega)
 rw [hd2]at h3
 have c3:=q3 (s1:=some (fE st cur)) (s2:=some (fF st)) (s4:=some (.d (.str (sT (wd l))))) (s5:=s5) (s6:=s6) h3
 have c4:=q4 (s0:=some (.d (.str (sT L)))) (s1:=some (fE st cur)) (s2:=some (fF st)) (s3:=some (.d (.int ((a+(wd l).length:Nat):Int)))) (s5:=some (.d (.str (sT ((j9 l).take 1))))) (s6:=s6) (JH (l:=wd l) (by omega))
 by_cases hnm:cO (sT (wd l))=true
 ·rw [hnm,if_pos rfl]at c4
  have hw1:1≤(wd l).length:=by
   have:=(mm hnm).lo
   rw [dM]at this
   exact this
  have hrd:=Hs (k:=k) (st:=st) (cur:=cur) hnm
  have hsz:(snoc cur (sT (wd l)) .nil).size+fv st≤a+(wd l).length:=by
   rw [iR]
   show cur.size+1+0+_≤_
   omega
  -- a leaf
  have c5:=fun(h:¬ (j9 l).take 1 = [40])=>K4 (s0:=some (.d (.str (sT L)))) (s2:=some (fF st)) (s3:=some (.d (.int ((a+(wd l).length:Nat):Int)))) (s6:=s6) (by rw [D6,decide_eq_false h]) (Bw (st:=st) (cur:=cur) (w:=sT (wd l)) (g:=.nil) (by omega)) D3 (S:=.str (sT ((j9 l).take 1)))
  -- the end,or the next word
  have fin:∀ (st':vm) (cur':F) (t6:Option O) (a':Nat),aG ΦI bp [some (.d (.str (sT L))),some (fE st cur),some (fF st),some (.d (.int (a:Int))),s4,s5,s6]=aG ΦI [aT,cw] [some (.d (.str (sT L))),some (fE st' cur'),some (fF st'),some (.d (.int (a':Int))),some (.d (.str (sT (wd l)))),some (.d (.str (sT []))),t6] →
    ∃ t1 t2 t3 t4 t5 t6,cY fO (k+1) [some (.d (.str (sT L))),some (fE st cur),some (fF st),some (.d (.int (a:Int))),s4,s5,s6]=some (.ok (.rt (xD (if st'.isEmpty then some cur' else none))) [some (.d (.str (sT L))),t1,t2,t3,t4,t5,t6]):=fun st' cur' t6 a' e=>by
   have he:au .eq (.str (sT [])) (.str "")=some true:=D7
   cases st' with
   | nil =>
    obtain⟨t1,c7⟩:=K6 (s0:=some (.d (.str (sT L)))) (s3:=some (.d (.int (a':Int)))) (s4:=some (.d (.str (sT (wd l))))) (s6:=t6) he rfl yE (fun {i ρ}=>yD (st:=[])) vd rfl (fun {i ρ}=>Hq (st:=[]) (cur:=cur')) Dj
    refine⟨t1,some (fF []),some (.d (.int (a':Int))),some (.d (.str (sT (wd l)))),some (.d (.str (sT []))),t6,?_⟩
    unfold cY
    rw [rW (e.trans (cg c7))]
    rfl
   | cons q st' =>
    have c7:=K5 (s0:=some (.d (.str (sT L)))) (s1:=some (fE (q::st') cur')) (s3:=some (.d (.int (a':Int)))) (s4:=some (.d (.str (sT (wd l))))) (s6:=t6) he rfl yE (fun {i ρ}=>yD (st:=q::st')) vd
    refine⟨some (fE (q::st') cur'),some (fF (q::st')),some (.d (.int (a':Int))),some (.d (.str (sT (wd l)))),some (.d (.str (sT []))),t6,?_⟩
    unfold cY
    rw [rW (e.trans (cg c7))]
    rfl
  have nxt:∀ (m:Nat) (st':vm) (cur':F) (t6:Option O) (a' c:Nat) (r':List Nat),m≤k→r'.length < m→L.drop a'=c::r'→cur'.size+fv st'≤a'→aG ΦI bp [some (.d (.str (sT L))),some (fE st cur),some (fF st),some (.d (.int (a:Int))),s4,s5,s6]=aG ΦI [aT,cw] [some (.d (.str (sT L))),some (fE st' cur'),some (fF st'),some (.d (.int (a':Int))),some (.d (.str (sT (wd l)))),some (.d (.str (sT [c]))),t6] →
    ∃ t1 t2 t3 t4 t5 t6,cY fO (k+1) [some (.d (.str (sT L))),some (fE st cur),some (fF st),some (.d (.int (a:Int))),s4,s5,s6]=some (.ok (.rt (xD (mT m st' cur' false r'))) [some (.d (.str (sT L))),t1,t2,t3,t4,t5,t6]):=fun m st' cur' t6 a' c r' hm hr hda hs e=>by
   obtain⟨hd3,ha3⟩:=yF hda
   have c7:=K7 (s0:=some (.d (.str (sT L)))) (s1:=some (fE st' cur')) (s2:=some (fF st')) (s3:=some (.d (.int (a':Int)))) (s4:=some (.d (.str (sT (wd l))))) (s6:=t6) (S:=.str (sT [c])) (by rw [D7]; rfl)
   have c8:=q8 (A:=(a':Int)) (s0:=some (.d (.str (sT L)))) (s1:=some (fE st' cur')) (s2:=some (fF st')) (s4:=some (.d (.str (sT (wd l))))) (s5:=some (.d (.str (sT [c])))) (s6:=t6)
   have hc8:(a':Int)+1=((a'+1:Nat):Int):=by omega
   rw [hc8]at c8
   obtain⟨t1,t2,t3,t4,t5,u6,e2⟩:=ih m (by omega) st' cur' (a'+1) r' (some (.d (.str (sT (wd l))))) (some (.d (.str (sT [c])))) t6 hd3 (by omega) hr (by omega)
   obtain⟨j,rfl⟩:∃ j,k=m+j:=⟨k - m,by omega⟩
   refine⟨t1,t2,t3,t4,t5,u6,?_⟩
   unfold cY
   rw [rW (e.trans (ah c7 (ah c8 iA)))]
   exact oh j e2
  cases hr:j9 l with
  | nil =>
   rw [hr]at c3 c4 c5
   have c5:=c5 (by simp)
   have c6:bZ ΦI bS [some (.d (.str (sT L))),some (fE st (snoc cur (sT (wd l)) .nil)),some (fF st),some (.d (.int ((a+(wd l).length:Nat):Int))),some (.d (.str (sT (wd l)))),some (.d (.str (sT []))),s6] = .ok .nx _:=Bz (by rw [wL]; rfl)
   rw [hrd,hr]
   exact fin st (snoc cur (sT (wd l)) .nil) s6 (a+(wd l).length) (by
    rw [dh]
    exact ah c1 (ah c2 (ah c3 (ah c4 (ah c5 (ah c6 rfl))))))
  | cons c r =>
   rw [hr]at c3 c4 c5 hd2 hrl
   rw [List.length_cons]at hrl
   have ht:(c::r).take 1 = [c]:=rfl
   rw [ht]at c3 c4 c5
   rw [hrd,hr]
   dsimp only
   by_cases h40:c=40
   ·subst h40
    rw [if_pos rfl]
    have c5:=K3 (s0:=some (.d (.str (sT L)))) (s3:=some (.d (.int ((a+(wd l).length:Nat):Int)))) (s6:=s6) (S:=.str (sT [40])) D6 (Dg (st:=st) (cur:=cur) (w:=sT (wd l)) (by omega)) rfl (Df (st:=st) (cur:=cur) (w:=sT (wd l)) (by omega)) rfl
    have c6:bZ ΦI bS [some (.d (.str (sT L))),some (fE ((sT (wd l),cur)::st) .nil),some (fF ((sT (wd l),cur)::st)),some (.d (.int ((a+(wd l).length:Nat):Int))),some (.d (.str (sT (wd l)))),some (.d (.str (sT [40]))),s6] = .ok .nx _:=Bz (by rw [wL]; rfl)
    refine nxt k ((sT (wd l),cur)::st) .nil s6 (a+(wd l).length) 40 r (Nat.le_refl _) (by omega) hd2 (by show 0+(cur.size+1+fv st)≤_; omega) ?_
    rw [dh]
    exact ah c1 (ah c2 (ah c3 (ah c4 (ah c5 (ah c6 rfl)))))
   ·rw [if_neg h40]
    have c5:=c5 (by simpa using h40)
    by_cases h41:c=41
    ·subst h41
     rw [if_pos rfl]
     have hrd2:Hr k st (snoc cur (sT (wd l)) .nil) r=mT (k+1) st (snoc cur (sT (wd l)) .nil) true (41::r):=by
      cases st <;> rfl
     rw [hrd2]
     rcases inner hz (k+1) st (snoc cur (sT (wd l)) .nil) (a+(wd l).length) r s6 hd2 (by omega) hsz (s4:=some (.d (.str (sT (wd l)))))with⟨j1,t1,t2,t3,t5,t6,j2⟩ | ⟨m,st',cur',a',l',t6,j0,j1,j2,j3,j4,j5,j6,j7⟩
     ·have c6:bZ ΦI bS [some (.d (.str (sT L))),some (fE st (snoc cur (sT (wd l)) .nil)),some (fF st),some (.d (.int ((a+(wd l).length:Nat):Int))),some (.d (.str (sT (wd l)))),some (.d (.str (sT [41]))),s6] = .ok (.rt (.d .non)) _:=ni j2
      have e:aG ΦI bp [some (.d (.str (sT L))),some (fE st cur),some (fF st),some (.d (.int (a:Int))),s4,s5,s6] = .ok (.rt (.d .non)) [some (.d (.str (sT L))),t1,t2,t3,some (.d (.str (sT (wd l)))),t5,t6]:=by
       rw [dh]
       exact ah c1 (ah c2 (ah c3 (ah c4 (ah c5 (cg c6)))))
      rw [j1]
      refine⟨t1,t2,t3,some (.d (.str (sT (wd l)))),t5,t6,?_⟩
      unfold cY
      rw [rW e]
      rfl
     ·have c6:bZ ΦI bS [some (.d (.str (sT L))),some (fE st (snoc cur (sT (wd l)) .nil)),some (fF st),some (.d (.int ((a+(wd l).length:Nat):Int))),some (.d (.str (sT (wd l)))),some (.d (.str (sT [41]))),s6] = .ok .nx _:=ni j7
      have e:aG ΦI bp [some (.d (.str (sT L))),some (fE st cur),some (fF st),some (.d (.int (a:Int))),s4,s5,s6]=aG ΦI [aT,cw] [some (.d (.str (sT L))),some (fE st' cur'),some (fF st'),some (.d (.int (a':Int))),some (.d (.str (sT (wd l)))),some (.d (.str (sT (l'.take 1)))),t6]:=by
       rw [dh]
       exact ah c1 (ah c2 (ah c3 (ah c4 (ah c5 (ah c6 rfl)))))
      rw [j6]
      obtain⟨m,rfl⟩:∃ j,m=j+1:=⟨m - 1,by omega⟩
      rcases j3 with rfl | ⟨r',rfl⟩
      ·exact fin st' cur' t6 a' e
      ·have hrd3:mT (m+1) st' cur' true (44::r')=mT m st' cur' false r':=rfl
       rw [hrd3]
       rw [List.length_cons]at j1
       exact nxt m st' cur' t6 a' 44 r' (by omega) (by omega) j2 j4 e
    ·rw [if_neg h41]
     have c6:bZ ΦI bS [some (.d (.str (sT L))),some (fE st (snoc cur (sT (wd l)) .nil)),some (fF st),some (.d (.int ((a+(wd l).length:Nat):Int))),some (.d (.str (sT (wd l)))),some (.d (.str (sT [c]))),s6] = .ok .nx _:=Bz (by rw [wL,decide_eq_false (by simpa using h41)])
     refine nxt k st (snoc cur (sT (wd l)) .nil) s6 (a+(wd l).length) c r (Nat.le_refl _) (by omega) hd2 hsz ?_
     rw [dh]
     exact ah c1 (ah c2 (ah c3 (ah c4 (ah c5 (ah c6 rfl)))))
 ·have hnm:cO (sT (wd l))=false:=by simpa using hnm
  rw [hnm,if_neg (by decide)]at c4
  have e:aG ΦI bp [some (.d (.str (sT L))),some (fE st cur),some (fF st),some (.d (.int (a:Int))),s4,s5,s6] = .ok (.rt (.d .non)) [some (.d (.str (sT L))),some (fE st cur),some (fF st),some (.d (.int ((a+(wd l).length:Nat):Int))),some (.d (.str (sT (wd l)))),some (.d (.str (sT ((j9 l).take 1)))),s6]:=by
   rw [dh]
   exact ah c1 (ah c2 (ah c3 (cg c4)))
  have hrd:mT (k+1) st cur false l=none:=if_neg (by rw [hnm]; decide)
  rw [hrd]
  refine⟨some (fE st cur),some (fF st),some (.d (.int ((a+(wd l).length:Nat):Int))),some (.d (.str (sT (wd l)))),some (.d (.str (sT ((j9 l).take 1)))),s6,?_⟩
  unfold cY
  rw [rW e]
  rfl
def pV (L:List Nat):Option F:=mT (L.length+1) [] .nil false L
theorem oi (hz:L.length≤900):gQ [.d (.str (sT L))] = .ok (xD (pV L)) [.d (.str (sT L))]:=by
 obtain⟨t1,t2,t3,t4,t5,t6,e⟩:=outer hz (L.length+1) [] .nil 0 L none none none rfl (Nat.zero_le _) (by omega) (by decide)
 have c1:bZ ΦI (.asg (.tp [.nm 1,.nm 2,.nm 3]) (.tup [.lst [.lst []],.lst [],.lit (.int 0)])) [some (.d (.str (sT L))),none,none,none,none,none,none] = .ok .nx [some (.d (.str (sT L))),some (fE [] .nil),some (fF []),some (.d (.int ((0:Nat):Int))),none,none,none]:=by
  have h1:fE [] .nil=O.lst [.lst []]:=rfl
  have h2:fF []=O.lst []:=rfl
  rw [h1,h2]
  generalize D.str (sT L)=TD
  simp! [dU]
 have c2:bZ ΦI (.whl (.lit (.bl true)) bp) [some (.d (.str (sT L))),some (fE [] .nil),some (fF []),some (.d (.int ((0:Nat):Int))),none,none,none] = .ok (.rt (xD (pV L))) _:=ni e
 refine(aX (by rfl) (by rfl)).trans ?_
 exact mn wt rfl (ah c1 (cg c2)) rfl
end PV.K72
namespace PV.K72
open PySem L2 PL PM PN _root_.K72 PV.K1 PV.M1 PV.N1
variable {L l r:List Nat}{a e:Nat}{w:Str}{TD S C W W2 PD ND:D}{P P2:O}{ps A:List (List Nat)}{x y:List Nat}
abbrev tD (w:List Nat):D:=.str (sT w)
def iG (ps:List (List Nat)):O:=.lst (ps.map fun w=>.d (tD w))
theorem jY:(iG ps).frz = .lst (ps.map tD):=by
 unfold iG
 show D.lst (O.frzL _)=_
 rw [bu,List.map_map]
 exact congrArg D.lst (List.map_congr_left fun a _=>cU)
theorem yG:(iG ps).shal=iG ps:=by
 unfold iG
 show O.lst _=_
 rw [List.map_map]
 refine congrArg O.lst (List.map_congr_left fun a _=>?_)
 show O.d (O.d _).frz=_
 rw [cU]
theorem rX {i:Nat}{ρ:Env}:aB.taken (iG ps) i ρ=ρ.set i none:=rfl
theorem BA {k:D}{r:O}:cb (iG ps) k r=iG ps:=Bk
theorem BB {qs:List (List Nat)} (h:ps.length+qs.length≤100000):jO .add [.lst (ps.map tD),.lst (qs.map tD)]=some (iG (ps++qs)):=by
 rw [eU]
 show(if(ps.map tD).length+(qs.map tD).length≤sizeLine then some (O.lst ((ps.map tD++qs.map tD).map .d))else none)=_
 rw [if_pos (by rw [PySem.sizeLine_eq,List.length_map,List.length_map]; omega),← List.map_append,List.map_map]
 rfl
theorem jL (h:x.length+y.length≤1000000):jO .add [tD x,tD y]=some (.d (tD (x++y))):=by
 rw [eU]
 show(if(sT x).length+(sT y).length≤sizeLine then some (O.d (.str (sT x++sT y)))else none)=_
 rw [dM,dM,if_pos (by rw [PySem.sizeLine_eq]; omega)]
 refine congrArg (fun z=>some (O.d (D.str z))) ?_
 show(⟨x.toArray++y.toArray⟩:Str)=⟨(x++y).toArray⟩
 simp
theorem yH:kH [.lst ((A++[x]).map tD),.int (-1)]=some (.d (tD x)):=by
 show(atI ((A++[x]).map tD) (-1)).map O.d=_
 have:atI ((A++[x]).map tD) (-1)=some (tD x):=by
  unfold L2.atI L2.ixN
  rw [if_neg (by omega),if_pos (by rw [List.length_map,List.length_append,List.length_singleton]; omega)]
  show((A++[x]).map tD)[((-1:Int)+(((A++[x]).map tD).length:Int)).toNat]?=_
  have:((-1:Int)+(((A++[x]).map tD).length:Int)).toNat=A.length:=by
   rw [List.length_map,List.length_append,List.length_singleton]
   omega
  rw [this,List.map_append,List.getElem?_append_right (by rw [List.length_map]; exact Nat.le_refl _),List.length_map,Nat.sub_self]
  rfl
 rw [this]
 rfl
theorem FA:setPath [.int (-1)] (iG (A++[x])) (.d (tD y))=some (iG (A++[y])):=by
 have h:uw (iG (A++[x])) (.int (-1)) (.d (tD y))=some (iG (A++[y])):=by
  unfold iG
  show(ixN ((A++[x]).map fun w=>O.d (tD w)).length (-1)).map _=_
  have:ixN ((A++[x]).map fun w=>O.d (tD w)).length (-1)=some A.length:=by
   unfold L2.ixN
   rw [if_neg (by omega),if_pos (by rw [List.length_map,List.length_append,List.length_singleton]; omega),List.length_map,List.length_append,List.length_singleton]
   congr 1
   omega
  rw [this]
  show some (O.lst (((A++[x]).map fun w=>O.d (tD w)).set A.length (.d (tD y))))=_
  rw [List.map_append,List.set_append_right _ _ (by rw [List.length_map]; exact Nat.le_refl _),List.length_map,Nat.sub_self,List.map_append]
  rfl
 show((uw (iG (A++[x])) (.int (-1)) (.d (tD y))).map fun o'=>(O.d .non,o')).map (·.2)=_
 rw [h]
 rfl
theorem Ht {c:Nat}:au .isin (tD [c]) (.str "(),")=some (mk c):=rfl
variable {s0 s1 s2 s3 s4 s5 s6 s7 s8:Option O}
noncomputable abbrev ΦN:cW:=fz [(201,dj)]
theorem K8 (h:au .isin C (.str "(),")=some true) (hf:P.frz=PD) (hs:P.shal=P) (tk:∀ {i ρ},aB.taken P i ρ=ρ.set i none) (h2:jO .add [PD,.lst [C,.str ""]]=some P2):(bnd (aE (.nm 5) C [s0,some (P),s2,s3,s4,s5,s6,s7,s8]) fun ρ=>aG ΦN aZ ρ) = .ok .nx [s0,some (P2),s2,s3,s4,some (.d C),s6,s7,s8]:=by
 simp_arith [aZ,h,-CL,-eU]
 try simp_arith [h,hf,hs,tk,h2,-CL,-eU]
theorem K9 (h:au .isin C (.str "(),")=some false) (hf:P.frz=PD) (tk:∀ {i ρ},aB.taken P i ρ=ρ.set i none) (h1:kH [PD,.int (-1)]=some (.d W)) (hix:cb P (.int (-1)) (.d W)=P) (h2:jO .add [W,C]=some (.d W2)) (h3:setPath [.int (-1)] P (.d W2)=some P2):(bnd (aE (.nm 5) C [s0,some (P),s2,s3,s4,s5,s6,s7,s8]) fun ρ=>aG ΦN aZ ρ) = .ok .nx [s0,some (P2),s2,s3,s4,some (.d C),s6,s7,s8]:=by
 simp [dU,aG,bZ,kG,dB,jR,bN,kh,cZ,il,d7,lC,p5,ki,ev,ai,bB,mN,w3,eW,fH,iU,iB,pZ,fD,iV,dH,p4,bA,jP,eV,qz,eT,jq,oE,bj,fM,jk,ip,Res.noX,jQ,Fl.whl,fz,List.lookup,putD,PySem.sizeLine_eq,aZ,h,-CL,-eU]
 try simp [dU,aG,bZ,kG,dB,jR,bN,kh,cZ,il,d7,lC,p5,ki,ev,ai,bB,mN,w3,eW,fH,iU,iB,pZ,fD,iV,dH,p4,bA,jP,eV,qz,eT,jq,oE,bj,fM,jk,ip,Res.noX,jQ,Fl.whl,fz,List.lookup,putD,PySem.sizeLine_eq,h,hf,tk,h1,hix,h2,h3,-CL,-eU]
def ou:List Nat→List Nat→List (List Nat)
 | x,[]=>[x]
 | x,c::l=>if mk c then x::[c]::ou [] l else ou (x++[c]) l
theorem xE:∀ (l:List Nat) (A:List (List Nat)) (x:List Nat) (s5:Option O),A.length+2 * l.length≤20000→x.length+l.length≤20000→∃ t5,forL (fun x ρ=>bnd (aE (.nm 5) x ρ) fun ρ=>aG ΦN aZ ρ) (l.map fun c=>tD [c]) [s0,some (iG (A++[x])),s2,s3,s4,s5,s6,s7,s8] = .ok .nx [s0,some (iG (A++ou x l)),s2,s3,s4,t5,s6,s7,s8]
 | [],A,x,s5,h1,h2=>⟨s5,rfl⟩
 | c::l,A,x,s5,h1,h2=>by
  rw [List.length_cons]at h1 h2
  rw [List.map_cons,forL]
  unfold ou
  cases m:mk c with
  | true =>
   have hi:au .isin (tD [c]) (.str "(),")=some true:=by rw [Ht,m]
   have e:=K8 (s0:=s0) (s2:=s2) (s3:=s3) (s4:=s4) (s5:=s5) (s6:=s6) (s7:=s7) (s8:=s8) hi jY yG (fun {i ρ}=>rX) (BB (ps:=A++[x]) (qs:=[[c],[]]) (by simp; omega))
   obtain⟨t5,e2⟩:=xE l (A++[x,[c]]) [] (some (.d (tD [c]))) (by simp; omega) (by simp; omega)
   refine⟨t5,?_⟩
   rw [e]
   have hA:A++[x]++[[c],[]]=A++[x,[c]]++[[]]:=by simp
   rw [hA]
   have hB:A++(x::[c]::ou [] l)=A++[x,[c]]++ou [] l:=by simp
   rw [if_pos rfl,hB]
   exact e2
  | false =>
   have hi:au .isin (tD [c]) (.str "(),")=some false:=by rw [Ht,m]
   have e:=K9 (s0:=s0) (s2:=s2) (s3:=s3) (s4:=s4) (s5:=s5) (s6:=s6) (s7:=s7) (s8:=s8) hi jY (fun {i ρ}=>rX) (yH (A:=A) (x:=x)) BA (jL (x:=x) (y:=[c]) (by simp; omega)) FA
   obtain⟨t5,e2⟩:=xE l A (x++[c]) (some (.d (tD [c]))) (by omega) (by simp; omega)
   refine⟨t5,?_⟩
   rw [e,if_neg (by decide)]
   exact e2
theorem wM {x:List Nat}{c:Nat}{l:List Nat}:ou x (c::l)=if mk c then x::[c]::ou [] l else ou (x++[c]) l:=by
 rw [ou]
theorem BC:∀ (l x:List Nat),ou x l=(x++wd l)::(match j9 l with
  | []=>[]
  | c::r=>[c]::ou [] r)
 | [],x=>by
  have:wd [] = []:=rfl
  unfold j9
  rw [this,List.append_nil]
  rfl
 | c::l,x=>by
  rw [wM]
  cases m:mk c with
  | true =>
   have h1:wd (c::l) = []:=by
    unfold wd
    rw [List.takeWhile_cons,m]
    rfl
   have h2:j9 (c::l)=c::l:=by
    unfold j9
    rw [h1]
    rfl
   rw [if_pos rfl,h1,h2,List.append_nil]
  | false =>
   have h1:wd (c::l)=c::wd l:=by
    unfold wd
    rw [List.takeWhile_cons,m]
    rfl
   have h2:j9 (c::l)=j9 l:=by
    unfold j9
    rw [h1,List.length_cons]
    rfl
   rw [if_neg (by decide),BC l (x++[c]),h1,h2,List.append_assoc,List.singleton_append]
end PV.K72
namespace PV.K72
open PySem L2 PL PM PN _root_.K72 PV.K1 PV.M1 PV.N1
variable {L l r:List Nat}{a e:Nat}{TD S C W M B PD PD2 ND:D}{P P2:O}{ps A:List (List Nat)}{x y:List Nat}{I d d2:Int}{b1 b2 b3:Bool}{NM NM2:O}
theorem JI (h:l.length≤100000):dj [.d (tD l)] = .ok (.d (.bl (cO (sT l)))) [.d (tD l)]:=by
 by_cases c:l.length≤1000
 ·have hp:PV.M1.Bp (tD l)=true:=by
   show decide ((sT l).length≤1000)=true
   rw [dM]
   exact decide_eq_true c
  exact PV.M1.zu hp
 ·have hn:cO (sT l)=false:=by
   unfold cO
   rw [dM,decide_eq_false (by omega:¬ l.length≤8)]
   simp
  rw [hn]
  have h1:mL .len (tD l)=some (.d (.int (l.length:Int))):=pU (l:=l) (by omega)
  have h4:ji [20] [.str] [tD l]=some (.d (.bl true)):=rfl
  have h2:au .le (.int 1) (.int (l.length:Int))=some true:=by
   have:(1:Int)≤(l.length:Int):=by omega
   simp [this]
  have h3:au .le (.int (l.length:Int)) (.int 8)=some false:=by
   have:¬ (l.length:Int)≤8:=by omega
   simp [this]
  refine(aX (by rfl) (by rfl)).trans ?_
  rw [PM.oq]
  generalize tD l=X at h1 h4 ⊢
  generalize (l.length:Int)=N at h1 h2 h3
  simp_arith [h4,-v3]
  try simp_arith [h4,h1,h2,h3,-v3]
variable {s0 s1 s2 s3 s4 s5 s6 s7 s8:Option O}
theorem m1 (hf:P.frz=PD) (hs:P.shal=P) (tk:∀ {i ρ},aB.taken P i ρ=ρ.set i none) (h1:kH [PD,.int I]=some (.d W)) (hix:cb P (.int I) (.d W)=P) (h2:jO .add [PD,.lst [.str "",.str ""]]=some P2) (hf2:P2.frz=PD2) (h3:kH [PD2,.int (I+1)]=some (.d M)):bZ ΦN di [s0,some (P),s2,s3,s4,s5,some (.d (.int I)),s7,s8] = .ok .nx [s0,some (P),s2,s3,s4,s5,some (.d (.int I)),some (.d W),some (.d M)]:=by
 have hI:jO .add [.int I,.int 1]=some (.d (.int (I+1))):=rfl
 simp_arith [di,hf,hs,tk,-eU]
 try simp_arith [hf,hs,tk,h1,hix,h2,hf2,hI,h3,-eU]
theorem La (h1:au .eq B (.str ")")=some true) (h2:au .ne B (.str ")")=some false) (h3:au .ne W (.str "")=some b1) (h4:au .eq M (.str "(")=some b2):bZ ΦN bw [s0,s1,s2,s3,some (.d B),s5,s6,some (.d W),some (.d M)] = .ok (if b1||b2 then .rt (.d .non)else .nx) [s0,s1,s2,s3,some (.d B),s5,s6,some (.d W),some (.d M)]:=by
 cases b1 <;> cases b2 <;> (simp_arith [bw,h1,h2,h3,h4,-cM,-lH]; try simp_arith [h1,h2,h3,h4,-cM,-lH])
theorem Lb (h1:au .eq B (.str ")")=some false) (h2:au .ne B (.str ")")=some true) (h3:dj [.d W] = .ok (.d (.bl b3)) [.d W]):bZ ΦN bw [s0,s1,s2,s3,some (.d B),s5,s6,some (.d W),s8] = .ok (if b3 then .nx else .rt (.d .non)) [s0,s1,s2,s3,some (.d B),s5,s6,some (.d W),s8]:=by
 cases b3 <;> (simp_arith [bw,h1,h2,-cM,-lH]; try simp_arith [h1,h2,h3,-cM,-lH])
theorem Lc (h2:au .ne B (.str ")")=some false):bZ ΦN bx [s0,s1,s2,s3,some (.d B),s5,s6,s7,s8] = .ok .nx [s0,s1,s2,s3,some (.d B),s5,s6,s7,s8]:=by
 simp_arith [bx,h2,-lH]
theorem Ld (h2:au .ne B (.str ")")=some true) (h3:oG .append NM [.d W]=some (.d .non,NM2)) (h4:dH .append NM=some ()):bZ ΦN bx [s0,s1,s2,some (NM),some (.d B),s5,s6,some (.d W),s8] = .ok .nx [s0,s1,s2,some (NM2),some (.d B),s5,s6,some (.d W),s8]:=by
 simp_arith [bx,h2,-lH,-dH]
 try simp_arith [h2,h3,h4,-lH,-dH]
theorem m4 (h1:au .eq M (.str "(")=some b1) (h2:au .eq M (.str ")")=some b2):bZ ΦN b7 [s0,s1,some (.d (.int d)),s3,s4,s5,s6,s7,some (.d M)] = .ok .nx [s0,s1,some (.d (.int (d+(if b1 then 1 else 0) - (if b2 then 1 else 0)))),s3,s4,s5,s6,s7,some (.d M)]:=by
 have h3:mL .int (.bl b1)=some (.d (.int (if b1 then 1 else 0))):=rfl
 have h4:mL .int (.bl b2)=some (.d (.int (if b2 then 1 else 0))):=rfl
 generalize (if b1 then(1:Int)else 0)=x at h3 ⊢
 generalize (if b2 then(1:Int)else 0)=y at h4 ⊢
 simp_arith [b7,h1,h2,h3,h4,-cM]
theorem m5:bZ ΦN b8 [s0,s1,some (.d (.int d)),s3,s4,s5,s6,s7,s8] = .ok (if d < 0 then .rt (.d .non)else .nx) [s0,s1,some (.d (.int d)),s3,s4,s5,s6,s7,s8]:=by
 by_cases c:d < 0 <;> simp_arith [b8,c]
theorem m6:bZ ΦN b9 [s0,s1,s2,s3,s4,s5,s6,s7,some (.d M)] = .ok .nx [s0,s1,s2,s3,some (.d M),s5,s6,s7,some (.d M)]:=by
 simp_arith [b9]
def rY (ns:List Str):O:=.lst (ns.map fun s=>.d (.str s))
theorem FC {ns:List Str}{s:Str} (h:ns.length≤100000):oG .append (rY ns) [.d (.str s)]=some (.d .non,rY (ns++[s])):=by
 unfold rY
 show(if(ns.map fun s=>O.d (.str s)).length < sizeLine then _ else _)=_
 rw [if_pos (by rw [PySem.sizeLine_eq,List.length_map]; omega),List.map_append]
 rfl
theorem Hu {x y:List Nat}:au .ne (tD x) (tD y)=some (! decide (x=y)):=by
 rw [lH,if_pos (show lL (tD x) (tD y)=true by unfold lL; rw [ig,ig]; rfl),xA]
 refine congrArg (fun b=>some (! b)) (decide_eq_decide.mpr ⟨xC,fun h=>by rw [h]⟩)
def dN (l:List Nat):List Nat:=(j9 l).take 1
theorem wN (l:List Nat):ou [] l=wd l::(match j9 l with
  | []=>[]
  | c::r=>[c]::ou [] r):=by
 have:=BC l []
 rwa [List.nil_append]at this
theorem FD {parts:List (List Nat)}{i d:Nat}{b:Bool}{bef:List Nat}{ns:List Str} (hp:parts.drop (2 * i)=ou [] l) (hz:parts.length≤20000) (hl:l.length≤20000) (hb:decide (bef = [41])=b) (hns:ns.length≤20000) (hd:d≤20000) :
  (bnd (aE (.nm 6) (.int (2 * (i:Int))) [s0,some (iG parts),some (.d (.int (d:Int))),some (rY ns),some (.d (tD bef)),s5,s6,s7,s8]) fun ρ=>aG ΦN cH ρ) =
   (if(if b then decide (wd l = [])&&! decide (dN l = [40])else cO (sT (wd l)))&&!(decide (dN l = [41])&&decide (d=0))then
    .ok .nx [s0,some (iG parts),some (.d (.int (((d+(if dN l = [40]then 1 else 0):Nat):Int) - (if dN l = [41]then 1 else 0)))),some (rY (if b then ns else ns++[sT (wd l)])),some (.d (tD (dN l))),s5,some (.d (.int (2 * (i:Int)))),some (.d (tD (wd l))),some (.d (tD (dN l)))]
   else .ok (.rt (.d .non)) (if(if b then decide (wd l = [])&&! decide (dN l = [40])else cO (sT (wd l)))then [s0,some (iG parts),some (.d (.int (((d+(if dN l = [40]then 1 else 0):Nat):Int) - (if dN l = [41]then 1 else 0)))),some (rY (if b then ns else ns++[sT (wd l)])),some (.d (tD bef)),s5,some (.d (.int (2 * (i:Int)))),some (.d (tD (wd l))),some (.d (tD (dN l)))]
    else [s0,some (iG parts),some (.d (.int (d:Int))),some (rY ns),some (.d (tD bef)),s5,some (.d (.int (2 * (i:Int)))),some (.d (tD (wd l))),some (.d (tD (dN l)))])):=by
 have hps:=wN l
 have hlt:2 * i < parts.length:=by
  rcases Nat.lt_or_ge (2 * i) parts.length with q | q
  ·exact q
  ·rw [List.drop_of_length_le q,hps]at hp
   cases hp
 have hw:parts[2 * i]?=some (wd l):=by
  have:parts[2 * i]?=(parts.drop (2 * i))[0]?:=by rw [List.getElem?_drop]; rfl
  rw [this,hp,hps]
  rfl
 have hm:(parts++[[],[]])[2 * i+1]?=some (dN l):=by
  unfold dN
  cases hr:j9 l with
  | nil =>
   rw [hr]at hps
   have hlen:parts.length=2 * i+1:=by
    have:=congrArg List.length (hp.trans hps)
    rw [List.length_drop]at this
    simp at this
    omega
   rw [List.getElem?_append_right (by omega),hlen,Nat.sub_self]
   rfl
  | cons c r =>
   rw [hr]at hps
   have:parts[2 * i+1]?=(parts.drop (2 * i))[1]?:=by rw [List.getElem?_drop]
   have hlen:2 * i+1 < parts.length:=by
    have:=congrArg List.length (hp.trans hps)
    rw [List.length_drop]at this
    simp at this
    omega
   rw [List.getElem?_append_left hlen,this,hp,hps]
   rfl
 have idx:∀ {qs:List (List Nat)}{j:Nat}{x:List Nat},qs[j]?=some x→kH [.lst (qs.map tD),.int (j:Int)]=some (.d (tD x)):=fun {qs j x} h=>by
  have hi:=(List.getElem?_eq_some_iff.mp h).1
  have:atI (qs.map tD) (j:Int)=some (tD x):=by
   unfold L2.atI L2.ixN
   rw [if_pos (by omega),if_pos (by rw [List.length_map]; omega)]
   show(qs.map tD)[(j:Int).toNat]?=_
   rw [Int.toNat_natCast,List.getElem?_map,h]
   rfl
  show(atI (qs.map tD) (j:Int)).map O.d=_
  rw [this]
  rfl
 have h1:=idx hw
 have h3:=idx hm
 rw [show((2 * i:Nat):Int)=2 * (i:Int)by omega]at h1
 rw [show((2 * i+1:Nat):Int)=2 * (i:Int)+1 by omega]at h3
 have c1:=m1 (s0:=s0) (s2:=some (.d (.int (d:Int)))) (s3:=some (rY ns)) (s4:=some (.d (tD bef))) (s5:=s5) (s7:=s7) (s8:=s8) (P:=iG parts) (I:=2 * (i:Int)) jY yG (fun {i ρ}=>rX) h1 BA (BB (ps:=parts) (qs:=[[],[]]) (by simp; omega)) jY h3
 have e1:au .eq (tD bef) (.str ")")=some b:=by rw [← hb]; exact sV (y:=[41])
 have e2:au .ne (tD bef) (.str ")")=some (! b):=by rw [← hb]; exact Hu (y:=[41])
 have e3:au .ne (tD (wd l)) (.str "")=some (! decide (wd l = [])):=Hu (y:=[])
 have e4:au .eq (tD (dN l)) (.str "(")=some (decide (dN l = [40])):=sV (y:=[40])
 have e5:au .eq (tD (dN l)) (.str ")")=some (decide (dN l = [41])):=sV (y:=[41])
 have hwl:=Bs l
 have e6:=JI (l:=wd l) (by omega)
 have c4:=fun(s3:Option O)=>m4 (d:=(d:Int)) (s0:=s0) (s1:=some (iG parts)) (s3:=s3) (s4:=some (.d (tD bef))) (s5:=s5) (s6:=some (.d (.int (2 * (i:Int))))) (s7:=some (.d (tD (wd l)))) e4 e5
 have hD:(d:Int)+(if decide (dN l = [40])then 1 else 0) - (if decide (dN l = [41])then 1 else 0)=((d+(if dN l = [40]then 1 else 0):Nat):Int) - (if dN l = [41]then 1 else 0):=by
  by_cases q:dN l = [40] <;> by_cases q2:dN l = [41] <;> simp [q,q2]
 rw [hD]at c4
 have hneg:(((d+(if dN l = [40]then 1 else 0):Nat):Int) - (if dN l = [41]then 1 else 0) < 0)↔(dN l = [41]∧d=0):=by
  by_cases q2:dN l = [41]
  ·have q:¬ dN l = [40]:=by rw [q2]; decide
   simp [q2]
   omega
  ·rw [if_neg q2]
   constructor
   ·intro h
    omega
   ·rintro⟨h,_⟩
    exact absurd h q2
 have c5:=fun(s3:Option O)=>m5 (d:=((d+(if dN l = [40]then 1 else 0):Nat):Int) - (if dN l = [41]then 1 else 0)) (s0:=s0) (s1:=some (iG parts)) (s3:=s3) (s4:=some (.d (tD bef))) (s5:=s5) (s6:=some (.d (.int (2 * (i:Int))))) (s7:=some (.d (tD (wd l)))) (s8:=some (.d (tD (dN l))))
 have c6:=fun(s2 s3:Option O)=>m6 (M:=tD (dN l)) (s0:=s0) (s1:=some (iG parts)) (s2:=s2) (s3:=s3) (s4:=some (.d (tD bef))) (s5:=s5) (s6:=some (.d (.int (2 * (i:Int))))) (s7:=some (.d (tD (wd l))))
 rw [gK,cV,lK]
 have tail:∀ (s3:Option O),aG ΦN [b7,b8,b9] [s0,some (iG parts),some (.d (.int (d:Int))),s3,some (.d (tD bef)),s5,some (.d (.int (2 * (i:Int)))),some (.d (tD (wd l))),some (.d (tD (dN l)))] =
   (if decide (dN l = [41])&&decide (d=0)then .ok (.rt (.d .non)) [s0,some (iG parts),some (.d (.int (((d+(if dN l = [40]then 1 else 0):Nat):Int) - (if dN l = [41]then 1 else 0)))),s3,some (.d (tD bef)),s5,some (.d (.int (2 * (i:Int)))),some (.d (tD (wd l))),some (.d (tD (dN l)))]
    else .ok .nx [s0,some (iG parts),some (.d (.int (((d+(if dN l = [40]then 1 else 0):Nat):Int) - (if dN l = [41]then 1 else 0)))),s3,some (.d (tD (dN l))),s5,some (.d (.int (2 * (i:Int)))),some (.d (tD (wd l))),some (.d (tD (dN l)))]):=fun s3=>by
  have c5:=c5 s3
  by_cases q:dN l = [41]∧d=0
  ·rw [if_pos (hneg.mpr q)]at c5
   rw [decide_eq_true q.1,decide_eq_true q.2]
   exact ah (c4 s3) (cg c5)
  ·rw [if_neg fun z=>q (hneg.mp z)]at c5
   rw [if_neg (by simpa using q)]
   exact ah (c4 s3) (ah c5 (ah (c6 _ s3) iA))
 cases b with
 | true =>
  have c2:=La (s0:=s0) (s1:=some (iG parts)) (s2:=some (.d (.int (d:Int)))) (s3:=some (rY ns)) (s5:=s5) (s6:=some (.d (.int (2 * (i:Int))))) e1 e2 e3 e4
  by_cases q:wd l = []∧¬ dN l = [40]
  ·have hq:(! decide (wd l = [])||decide (dN l = [40]))=false:=by simp [q.1,q.2]
   rw [hq]at c2
   have hq2:(decide (wd l = [])&&! decide (dN l = [40]))=true:=by simp [q.1,q.2]
   have c3:=Lc (s0:=s0) (s1:=some (iG parts)) (s2:=some (.d (.int (d:Int)))) (s3:=some (rY ns)) (s5:=s5) (s6:=some (.d (.int (2 * (i:Int))))) (s7:=some (.d (tD (wd l)))) (s8:=some (.d (tD (dN l)))) e2
   refine(ah c1 (ah c2 (ah c3 rfl))).trans ((tail _).trans ?_)
   simp only [if_true,hq2,Bool.true_and]
   cases decide (dN l = [41])&&decide (d=0) <;> rfl
  ·have hq:(! decide (wd l = [])||decide (dN l = [40]))=true:=by
    by_cases q1:wd l = []
    ·by_cases q2:dN l = [40]
     ·simp [q2]
     ·exact absurd ⟨q1,q2⟩ q
    ·simp [q1]
   rw [hq]at c2
   have hq2:(decide (wd l = [])&&! decide (dN l = [40]))=false:=by
    by_cases q1:wd l = []
    ·by_cases q2:dN l = [40]
     ·simp [q2]
     ·exact absurd ⟨q1,q2⟩ q
    ·simp [q1]
   refine(ah c1 (cg c2)).trans ?_
   simp only [if_true,hq2,Bool.false_and]
   rfl
 | false =>
  have c2:=Lb (s0:=s0) (s1:=some (iG parts)) (s2:=some (.d (.int (d:Int)))) (s3:=some (rY ns)) (s5:=s5) (s6:=some (.d (.int (2 * (i:Int))))) (s8:=some (.d (tD (dN l)))) e1 e2 e6
  cases hn:cO (sT (wd l))with
  | true =>
   rw [hn]at c2
   have c3:=Ld (s0:=s0) (s1:=some (iG parts)) (s2:=some (.d (.int (d:Int)))) (s5:=s5) (s6:=some (.d (.int (2 * (i:Int))))) (s8:=some (.d (tD (dN l)))) (W:=tD (wd l)) e2 (FC (ns:=ns) (by omega)) rfl
   refine(ah c1 (ah c2 (ah c3 rfl))).trans ((tail _).trans ?_)
   simp only [Bool.false_eq_true,if_false,Bool.true_and]
   cases decide (dN l = [41])&&decide (d=0) <;> rfl
  | false =>
   rw [hn]at c2
   refine(ah c1 (cg c2)).trans ?_
   simp only [Bool.false_eq_true,if_false,Bool.false_and]
end PV.K72
namespace PV.K72
open PySem L2 PL PM PN _root_.K72 PV.K1 PV.M1 PV.N1
variable {L l r:List Nat}{a e:Nat}{x y:List Nat}
theorem BD:∀ {l:List Nat}{c:Nat}{r:List Nat},j9 l=c::r→mk c=true
 | [],c,r,h=>by cases h
 | a::l,c,r,h=>by
  cases m:mk a with
  | true =>
   have h1:wd (a::l) = []:=by
    unfold wd
    rw [List.takeWhile_cons,m]
    rfl
   unfold j9 at h
   rw [h1]at h
   cases h
   exact m
  | false =>
   have h1:wd (a::l)=a::wd l:=by
    unfold wd
    rw [List.takeWhile_cons,m]
    rfl
   have h2:j9 (a::l)=j9 l:=by
    unfold j9
    rw [h1,List.length_cons]
    rfl
   rw [h2]at h
   exact BD h
def BE (d:Nat) (b:Bool) (l:List Nat):Bool:=(if b then decide (wd l = [])&&! decide (dN l = [40])else cO (sT (wd l)))&&!(decide (dN l = [41])&&decide (d=0))
def BR (d:Nat) (l:List Nat):Nat:=d+(if dN l = [40]then 1 else 0) - (if dN l = [41]then 1 else 0)
def pf (b:Bool) (l:List Nat):List Str:=if b then []else [sT (wd l)]
theorem wO {n d:Nat}{b:Bool}{l:List Nat}:jl (n+1) d b l=if BE d b l then(match j9 l with
  | []=>if d=0 then some (pf b l)else none
  | c::r=>(jl n (BR d l) (decide (c=41)) r).map (pf b l ++ ·))else none:=by
 have hrl:=ot l
 cases b with
 | true =>
  cases l with
  | nil =>
   show(if d=0 then some []else none)=if BE d true []then(if d=0 then some []else none)else none
   have:BE d true []=true:=rfl
   rw [this,if_pos rfl]
  | cons c r =>
   cases m:mk c with
   | false =>
    have h1:wd (c::r)=c::wd r:=by
     unfold wd
     rw [List.takeWhile_cons,m]
     rfl
    have hk:BE d true (c::r)=false:=by
     unfold BE
     rw [h1]
     simp
    rw [hk,if_neg (by decide)]
    show(if c=41 then _ else if c=44 then _ else none)=none
    have n1:c≠41:=fun q=>by rw [q]at m; exact absurd m (by decide)
    have n2:c≠44:=fun q=>by rw [q]at m; exact absurd m (by decide)
    rw [if_neg n1,if_neg n2]
   | true =>
    have h1:wd (c::r) = []:=by
     unfold wd
     rw [List.takeWhile_cons,m]
     rfl
    have h2:j9 (c::r)=c::r:=by
     unfold j9
     rw [h1]
     rfl
    have h3:dN (c::r) = [c]:=by
     unfold dN
     rw [h2]
     rfl
    have hm:c=40∨c=41∨c=44:=by
     unfold mk at m
     simpa using m
    have hl:jl (n+1) d true (c::r)=if c=41 then vc d (fun d=>jl n d true r)else if c=44 then jl n d false r else none:=rfl
    rw [hl,h2]
    unfold BE BR pf
    rw [h1,h3]
    rcases hm with rfl | rfl | rfl
    ·rfl
    ·cases d with
     | zero=>rfl
     | succ d =>
      show jl n d true r=Option.map _ (jl n d true r)
      simp
    ·show jl n d false r=if true&&!(false&&decide (d=0))then Option.map _ (jl n (d+0 - 0) false r)else none
     simp
 | false =>
  have hl:jl (n+1) d false l=if cO (sT (wd l))then(match j9 l with
   | []=>if d=0 then some [sT (wd l)]else none
   | c::r=>(if c=40 then jl n (d+1) false r
    else if c=41 then vc d (fun d=>jl n d true r)
    else jl n d false r).map (sT (wd l) :: ·))else none:=by
   cases l <;> rfl
  rw [hl]
  unfold BE BR pf dN
  cases hn:cO (sT (wd l))with
  | false=>simp
  | true =>
   cases hr:j9 l with
   | nil=>simp
   | cons c r =>
    have hm:c=40∨c=41∨c=44:=by
     have:=BD hr
     unfold mk at this
     simpa using this
    rcases hm with rfl | rfl | rfl
    ·simp
    ·cases d with
     | zero=>simp [vc]
     | succ d=>simp [vc]
    ·simp
variable {s0 s1 s2 s3 s4 s5 s6 s7 s8:Option O}
noncomputable abbrev fN:D→Env→Res Fl:=fun x ρ=>bnd (aE (.nm 6) x ρ) fun ρ=>aG ΦN cH ρ
theorem yI {parts:List (List Nat)} (hz:parts.length≤20000):∀ (n i d:Nat) (b:Bool) (bef:List Nat) (ns:List Str) (l:List Nat) (s6 s7 s8:Option O),l.length < n→parts.drop (2 * i)=ou [] l→decide (bef = [41])=b→ns.length+l.length≤19000→d+l.length≤19000 →
  ∃ t4 t6 t7 t8,(jl n d b l=none∧∃ t2 t3,forL fN ((List.range' i (((ou [] l).length+1) / 2)).map fun(j:Nat)=>D.int (2 * (j:Int))) [s0,some (iG parts),some (.d (.int (d:Int))),some (rY ns),some (.d (tD bef)),s5,s6,s7,s8] = .ok (.rt (.d .non)) [s0,some (iG parts),t2,t3,t4,s5,t6,t7,t8]) ∨
   ∃ (ns':List Str) (d':Nat),jl n d b l=(if d'=0 then some ns' else none)∧ns'.length≤l.length+1∧forL fN ((List.range' i (((ou [] l).length+1) / 2)).map fun(j:Nat)=>D.int (2 * (j:Int))) [s0,some (iG parts),some (.d (.int (d:Int))),some (rY ns),some (.d (tD bef)),s5,s6,s7,s8] = .ok .nx [s0,some (iG parts),some (.d (.int (d':Int))),some (rY (ns++ns')),t4,s5,t6,t7,t8]
 | 0,i,d,b,bef,ns,l,s6,s7,s8,h1,h2,h3,h4,h5=>absurd h1 (Nat.not_lt_zero _)
 | n+1,i,d,b,bef,ns,l,s6,s7,s8,h1,h2,h3,h4,h5=>by
  have hrl:=ot l
  have e:fN (.int (2 * (i:Int))) [s0,some (iG parts),some (.d (.int (d:Int))),some (rY ns),some (.d (tD bef)),s5,s6,s7,s8]=_:=FD (l:=l) (s0:=s0) (s5:=s5) (s6:=s6) (s7:=s7) (s8:=s8) h2 hz (by omega) h3 (ns:=ns) (by omega) (d:=d) (by omega)
  have hst:=wO (n:=n) (d:=d) (b:=b) (l:=l)
  have hps:=wN l
  have hone:((ou [] l).length+1) / 2=(match j9 l with
    | []=>0
    | c::r=>((ou [] r).length+1) / 2)+1:=by
   rw [hps]
   cases j9 l with
   | nil=>simp
   | cons c r =>
    simp only [List.length_cons]
    omega
  rw [hone,List.range'_succ,List.map_cons,forL]
  cases hk:BE d b l with
  | false =>
   rw [hk]at hst
   unfold BE at hk
   rw [hk,if_neg (by decide)]at e
   have hno:jl (n+1) d b l=none:=hst
   cases hc:(if b=true then decide (wd l = [])&&! decide (dN l = [40])else cO (sT (wd l)))with
   | false =>
    rw [hc]at e
    exact⟨some (.d (tD bef)),some (.d (.int (2 * (i:Int)))),some (.d (tD (wd l))),some (.d (tD (dN l))),Or.inl ⟨hno,_,_,by rw [e]; rfl⟩⟩
   | true =>
    rw [hc]at e
    exact⟨some (.d (tD bef)),some (.d (.int (2 * (i:Int)))),some (.d (tD (wd l))),some (.d (tD (dN l))),Or.inl ⟨hno,_,_,by rw [e]; rfl⟩⟩
  | true =>
   rw [hk,if_pos rfl]at hst
   have hk2:=hk
   unfold BE at hk
   rw [hk,if_pos rfl]at e
   have hd1:(((d+(if dN l = [40]then 1 else 0):Nat):Int) - (if dN l = [41]then 1 else 0))=((BR d l:Nat):Int):=by
    unfold BR
    by_cases q:dN l = [41]
    ·have:d≠0:=by
      rintro rfl
      rw [q]at hk
      simp at hk
     rw [if_pos q,if_pos q]
     omega
    ·rw [if_neg q,if_neg q]
     omega
   have hnm:(if b then ns else ns++[sT (wd l)])=ns++pf b l:=by
    unfold pf
    cases b <;> simp
   have hpl:(pf b l).length≤1:=by
    unfold pf
    cases b <;> simp
   rw [hd1,hnm]at e
   cases hr:j9 l with
   | nil =>
    rw [hr]at hst
    have hm:dN l = []:=by
     unfold dN
     rw [hr]
     rfl
    have hdd:BR d l=d:=by
     unfold BR
     rw [hm]
     simp
    refine⟨some (.d (tD (dN l))),some (.d (.int (2 * (i:Int)))),some (.d (tD (wd l))),some (.d (tD (dN l))),Or.inr ⟨pf b l,d,hst,by omega,?_⟩⟩
    rw [e,hdd]
    rfl
   | cons c r =>
    rw [hr]at hst hrl hps
    rw [List.length_cons]at hrl
    have hm:dN l = [c]:=by
     unfold dN
     rw [hr]
     rfl
    have hdr:parts.drop (2 * (i+1))=ou [] r:=by
     rw [show 2 * (i+1)=2 * i+2 by omega,← List.drop_drop,h2,hps]
     rfl
    have hd2:BR d l≤d+1:=by
     unfold BR
     split <;> split <;> omega
    obtain⟨t4,t6,t7,t8,ih⟩:=yI hz n (i+1) (BR d l) (decide (c=41)) (dN l) (ns++pf b l) r (some (.d (.int (2 * (i:Int))))) (some (.d (tD (wd l)))) (some (.d (tD (dN l)))) (by omega) hdr (by rw [hm]; simp) (by rw [List.length_append]; omega) (by omega)
    refine⟨t4,t6,t7,t8,?_⟩
    rcases ih with⟨j1,t2,t3,j2⟩ | ⟨ns',d',j1,j0,j2⟩
    ·refine Or.inl ⟨by rw [hst]; dsimp only; rw [j1]; rfl,t2,t3,?_⟩
     rw [e]
     exact j2
    ·refine Or.inr ⟨pf b l++ns',d',?_,?_,?_⟩
     ·rw [hst]
      dsimp only
      rw [j1]
      split <;> rfl
     ·rw [List.length_append]
      omega
     ·rw [e,← List.append_assoc]
      exact j2
end PV.K72
namespace PV.K72
open PySem L2 PL PM PN _root_.K72 PV.K1 PV.M1 PV.N1
variable {L l r:List Nat}{a e:Nat}{x y:List Nat}{TD PD:D}{P NM R:O}
theorem wQ {n:Nat} (h:n≤1000000):oW (.int (n:Int))=some ((List.range' 0 ((n+1) / 2)).map fun(j:Nat)=>D.int (2 * (j:Int))):=by
 show(if 0≤(n:Int)∧(n:Int)≤1000000 then some (kR (n:Int).toNat)else none)=_
 rw [if_pos (by omega),Int.toNat_natCast]
 unfold kR
 rw [List.range_eq_range']
theorem FE {ns:List Str}:(rY ns).frz = .lst (ns.map .str):=by
 unfold rY
 show D.lst (O.frzL _)=_
 rw [bu,List.map_map]
 exact congrArg D.lst (List.map_congr_left fun a _=>cU)
theorem ve:∀ (l x:List Nat),(ou x l).length≤2 * l.length+1
 | [],x=>Nat.le_refl _
 | c::l,x=>by
  rw [wM]
  have h1:=ve l []
  have h2:=ve l (x++[c])
  split
  ·simp only [List.length_cons]
   omega
  ·simp only [List.length_cons]
   omega
variable {s0 s1 s2 s3 s4 s5 s6 s7 s8:Option O}
theorem Le (h:au .eq TD (.str "-")=some false):bZ ΦN eC [some (.d TD),s1,s2,s3,s4,s5,s6,s7,s8] = .ok .nx [some (.d TD),s1,s2,s3,s4,s5,s6,s7,s8]:=by
 simp_arith [eC,h,-cM]
theorem JZ:bZ ΦN eE [s0,s1,s2,s3,s4,s5,s6,s7,s8] = .ok .nx [s0,some (iG [[]]),some (.d (.int 0)),some (rY []),some (.d (.str ",")),s5,s6,s7,s8]:=by
 have h1:iG [[]] = .lst [.d (.str "")]:=rfl
 have h2:rY [] = .lst []:=rfl
 rw [h1,h2]
 simp! [eE]
theorem Lf {XS:List D}{t1 t5:Option O} (hx:nA TD=some XS) (hf:forL (fun x ρ=>bnd (aE (.nm 5) x ρ) fun ρ=>aG ΦN aZ ρ) XS [some (.d TD),s1,s2,s3,s4,s5,s6,s7,s8] = .ok .nx [some (.d TD),t1,s2,s3,s4,t5,s6,s7,s8]):bZ ΦN eF [some (.d TD),s1,s2,s3,s4,s5,s6,s7,s8] = .ok .nx [some (.d TD),t1,s2,s3,s4,t5,s6,s7,s8]:=by
 simp only [gK,cV]at hf
 simp_arith [eF]
 try simp_arith [hx,hf]
theorem Kv {XS:List D}{r:Fl}{N:Int}{ρ':Env} (hf1:P.frz=PD) (tk:∀ {i ρ},aB.taken P i ρ=ρ.set i none) (hs:P.shal=P) (hn:mL .len PD=some (.d (.int N))) (hx:oW (.int N)=some XS) (hf:forL fN XS [s0,some (P),s2,s3,s4,s5,s6,s7,s8] = .ok r ρ'):bZ ΦN eG [s0,some (P),s2,s3,s4,s5,s6,s7,s8] = .ok r ρ':=by
 unfold fN at hf
 simp only [gK,cV]at hf
 simp_arith [eG,hf1,hs,tk]
 try simp_arith [hf1,hs,tk,hn,hx,hf]
theorem Lg {d n:Int}{b1 b2:Bool} (h1:au .eq (.int d) (.int 0)=some b1) (h2:mL .len TD=some (.d (.int n))) (h3:au .le (.int n) (.int 400)=some b2) (tk:∀ {i ρ},aB.taken NM i ρ=ρ.set i none):∃ t3,bZ ΦN eH [some (.d TD),s1,some (.d (.int d)),some (NM),s4,s5,s6,s7,s8] = .ok (.rt (.d (if b1&&b2 then NM.frz else .non))) [some (.d TD),s1,some (.d (.int d)),t3,s4,s5,s6,s7,s8]:=by
 cases b1 <;> cases b2
 all_goals
  refine⟨?_,?_⟩
  rotate_left
  simp_arith [eH,h1,-cM,-v3]
  try simp_arith [h1,h2,h3,tk,-cM,-v3]
  try rfl
 done
end PV.K72
namespace PV.K72
open PySem L2 PL PM PN _root_.K72 PV.K1 PV.M1 PV.N1
variable {L l r:List Nat}{a e:Nat}{x y:List Nat}{TD PD R:D}{P NM:O}{N:Int}
def wR (L:List Nat):D:=match jl (L.length+1) 0 false L with
 | some ns=>if L.length≤400 then .lst (ns.map .str)else .non
 | none=>.non
theorem FF (hz:L.length≤1000000):nA (tD L)=some (L.map fun c=>tD [c]):=by
 show(if(sT L).length≤sizeLine then some ((sT L).cps.toList.map fun c=>D.str ⟨#[c]⟩)else none)=_
 rw [dM,if_pos (by rw [PySem.sizeLine_eq]; omega)]
theorem sW (h2:2≤L.length) (hz:L.length≤9000):bg [.d (tD L)] = .ok (.d (wR L)) [.d (tD L)]:=by
 have hio:∀ {x1 x2 x3 x4 x5 x6 x7 x8:Option O},bj [.d (tD L)] [some (.d (tD L)),x1,x2,x3,x4,x5,x6,x7,x8]=some [.d (tD L)]:=fun {_ _ _ _ _ _ _ _}=>rfl
 have hne:au .eq (tD L) (.str "-")=some false:=by
  rw [show(D.str "-" : D)=tD [45]from rfl,sV,decide_eq_false]
  rintro rfl
  simp at h2
 have c1:=Le (s1:=none) (s2:=none) (s3:=none) (s4:=none) (s5:=none) (s6:=none) (s7:=none) (s8:=none) hne
 have c2:=JZ (s0:=some (.d (tD L))) (s1:=none) (s2:=none) (s3:=none) (s4:=none) (s5:=none) (s6:=none) (s7:=none) (s8:=none)
 obtain⟨t5,e3⟩:=xE (s0:=some (.d (tD L))) (s2:=some (.d (.int 0))) (s3:=some (rY [])) (s4:=some (.d (.str ","))) (s6:=none) (s7:=none) (s8:=none) L [] [] none (by simp; omega) (by simp; omega)
 have c3:=Lf (s1:=some (iG [[]])) (s2:=some (.d (.int 0))) (s3:=some (rY [])) (s4:=some (.d (.str ","))) (s5:=none) (s6:=none) (s7:=none) (s8:=none) (FF (L:=L) (by omega)) e3
 have hpl:=ve L []
 have h0:mL .len (.lst ((ou [] L).map tD))=some (.d (.int ((ou [] L).length:Int))):=by
  show some (O.d (.int (((ou [] L).map tD).length:Int)))=_
  rw [List.length_map]
 have hd:decide (([44]:List Nat) = [41])=false:=rfl
 obtain⟨t4,t6,t7,t8,h⟩:=yI (s0:=some (.d (tD L))) (s5:=t5) (parts:=ou [] L) (by omega) (L.length+1) 0 0 false [44] [] L none none none (by omega) rfl hd (by simp; omega) (by omega)
 refine(aX (by rfl) (by rfl)).trans ?_
 rcases h with⟨j1,t2,t3,j2⟩ | ⟨ns',d',j1,j0,j2⟩
 ·have hr:wR L = .non:=by
   unfold wR
   rw [j1]
  have c4:=Kv (P:=iG (ou [] L)) jY (fun {i ρ}=>rX) yG h0 (wQ (by omega)) j2
  rw [hr]
  exact mn jf rfl (ah c1 (ah c2 (ah c3 (cg c4)))) hio
 ·have c4:=Kv (P:=iG (ou [] L)) jY (fun {i ρ}=>rX) yG h0 (wQ (by omega)) j2
  have q1:au .eq (.int (d':Int)) (.int 0)=some (decide (d'=0)):=by
   by_cases q:d'=0
   ·subst q; rfl
   ·have:¬ (d':Int)=0:=by omega
    simp [q,this,bO]
  have q3:au .le (.int (L.length:Int)) (.int 400)=some (decide (L.length≤400)):=by
   by_cases q:L.length≤400
   ·have:(L.length:Int)≤400:=by omega
    simp [q,this]
   ·have:¬ (L.length:Int)≤400:=by omega
    simp [q,this]
  obtain⟨t3,c5⟩:=Lg (TD:=tD L) (NM:=rY ([]++ns')) (s1:=some (iG (ou [] L))) (s4:=t4) (s5:=t5) (s6:=t6) (s7:=t7) (s8:=t8) q1 (pU (l:=L) (by omega)) q3 (fun {i ρ}=>rfl)
  have hr:(if(decide (d'=0)&&decide (L.length≤400))=true then(rY ([]++ns')).frz else .non)=wR L:=by
   unfold wR
   rw [j1,FE,List.nil_append]
   by_cases q:d'=0
   ·by_cases q2:L.length≤400
    ·simp [q,q2]
    ·simp [q,q2]
   ·simp [q]
  rw [hr]at c5
  exact mn jf rfl (ah c1 (ah c2 (ah c3 (ah c4 (cg c5))))) hio
def rZ (L:List Nat):D:=if L.length≤400 then(xD (pV L)).frz else .non
theorem FG {b:Bool} (h1:au .eq TD (.str "-")=some false) (h2:mL .len TD=some (.d (.int N))) (h3:au .le (.int N) (.int 400)=some b) (h4:b=true→gQ [.d TD] = .ok (.d R) [.d TD]):aC [.d TD] = .ok (.d (if b then R else .non)) [.d TD]:=by
 refine(aX (by rfl) (by rfl)).trans ?_
 rw [ky]
 cases b with
 | true =>
  have h4:=h4 rfl
  simp_arith [h1,-cM,-v3]
  try simp_arith [h1,h2,h3,h4,-cM,-v3]
 | false =>
  simp_arith [h1,-cM,-v3]
  try simp_arith [h1,h2,h3,-cM,-v3]
theorem jZ (h2:2≤L.length) (hz:L.length≤9000):aC [.d (tD L)] = .ok (.d (rZ L)) [.d (tD L)]:=by
 have hne:au .eq (tD L) (.str "-")=some false:=by
  rw [show(D.str "-" : D)=tD [45]from rfl,sV,decide_eq_false]
  rintro rfl
  simp at h2
 have q3:au .le (.int (L.length:Int)) (.int 400)=some (decide (L.length≤400)):=by
  by_cases q:L.length≤400
  ·have:(L.length:Int)≤400:=by omega
   simp [q,this]
  ·have:¬ (L.length:Int)≤400:=by omega
   simp [q,this]
 have h:=FG (TD:=tD L) (R:=(xD (pV L)).frz) hne (pU (l:=L) (by omega)) q3 (fun h=>by
  have:=of_decide_eq_true h
  rw [oi (L:=L) (by omega)]
  cases pV L <;> rfl)
 rw [h]
 unfold rZ
 by_cases q:L.length≤400
 ·simp only [q,decide_true,if_true]
 ·simp only [q,decide_false,Bool.false_eq_true,if_false]
theorem xF:aC [.d (.str "-")] = .ok (.d (.tup [])) [.d (.str "-")]:=by
 have h1:au .eq (.str "-") (.str "-")=some true:=sV (x:=[45]) (y:=[45])
 refine(aX (by rfl) (by rfl)).trans ?_
 rw [ky]
 simp_arith [-cM]
 try simp_arith [h1,-cM]
theorem BF:∀ (n d:Nat) (b:Bool) (l:List Nat) (ns:List Str),jl n d b l=some ns→ns.length≤l.length+1
 | 0,d,b,l,ns,h=>by cases h
 | n+1,d,b,l,ns,h=>by
  rw [wO]at h
  have hrl:=ot l
  have hpl:(pf b l).length≤1:=by
   unfold pf
   cases b <;> simp
  cases hk:BE d b l with
  | false =>
   rw [hk,if_neg (by decide)]at h
   cases h
  | true =>
   rw [hk,if_pos rfl]at h
   cases hr:j9 l with
   | nil =>
    rw [hr]at h
    dsimp only at h
    by_cases q:d=0
    ·rw [if_pos q]at h
     cases h
     omega
    ·rw [if_neg q]at h
     cases h
   | cons c r =>
    rw [hr]at h hrl
    rw [List.length_cons]at hrl
    obtain⟨ns',e,rfl⟩:=Option.map_eq_some_iff.mp h
    have:=BF n _ _ r ns' e
    rw [List.length_append]
    omega
theorem BG (h:L.length ≥ 150):(wR L = .non∧rZ L = .non)∨(∃ ns,wR L = .lst ns)∧∃ f:F,rZ L = .tup f.shape∧12 < f.size∧f.size≤10000∧∀ s∈f.names,dJ s:=by
 unfold wR rZ pV
 obtain⟨h1,h2⟩:=mI (L.length+1) [] .nil false L
 by_cases q:L.length≤400
 ·rw [if_pos q]
  cases hL:jl (L.length+1) 0 false L with
  | none =>
   have hn:jl (L.length+1) ([]:vm).length false L=none:=hL
   rw [hn]at h1
   cases hP:mT (L.length+1) [] .nil false L with
   | none=>exact Or.inl ⟨rfl,rfl⟩
   | some f=>rw [hP]at h1; cases h1
  | some ns =>
   have hn:jl (L.length+1) ([]:vm).length false L=some ns:=hL
   rw [hn]at h1
   cases hP:mT (L.length+1) [] .nil false L with
   | none=>rw [hP]at h1; cases h1
   | some f =>
    obtain⟨j1,j2⟩:=h2 f ns hP hn trivial (fun s hs=>by cases hs)
    have j3:=mJ _ _ _ _ _ hL
    have j4:=BF _ _ _ _ _ hL
    have j1:f.size=0+0+ns.length:=j1
    simp at j3
    refine Or.inr ⟨⟨ns.map .str,if_pos q⟩,f,rfl,by omega,by omega,j2⟩
 ·rw [if_neg q]
  cases jl (L.length+1) 0 false L with
  | none=>exact Or.inl ⟨rfl,rfl⟩
  | some ns=>exact Or.inl ⟨if_neg q,rfl⟩
end PV.K72
namespace PV.K72
open PySem L2 PL PM PN _root_.K72 PV.K1 PV.M1 PV.N1
variable {L l r:List Nat}{a e:Nat}{x y:List Nat}{TD PD R:D}{P NM:O}{N:Int}
def jn:List (List Nat)→List Nat
 | []=>[]
 | [x]=>x
 | x::y::r=>x++10::jn (y::r)
def cut:List Nat→List (List Nat)
 | []=>[[]]
 | c::l=>if c=10 then []::cut l else match cut l with
  | []=>[[c]]
  | p::ps=>(c::p)::ps
theorem wU:∀ {x:List Nat},10∉x→cut x = [x]
 | [],h=>rfl
 | c::x,h=>by
  have h1:c≠10:=fun q=>h (by rw [q]; exact List.mem_cons_self)
  have h2:=wU (x:=x) fun q=>h (List.mem_cons_of_mem _ q)
  unfold cut
  rw [if_neg h1,h2]
theorem ow:∀ {x:List Nat}{l:List Nat},10∉x→cut (x++10::l)=x::cut l
 | [],l,h=>by
  show cut (10::l)=_
  rw [cut,if_pos rfl]
 | c::x,l,h=>by
  have h1:c≠10:=fun q=>h (by rw [q]; exact List.mem_cons_self)
  have h2:=ow (x:=x) (l:=l) fun q=>h (List.mem_cons_of_mem _ q)
  show cut (c::(x++10::l))=_
  rw [cut,if_neg h1,h2]
theorem BH:∀ {ps:List (List Nat)},ps≠[]→(∀ p∈ps,10∉p)→cut (jn ps)=ps
 | [],h,_=>absurd rfl h
 | [x],_,h=>wU (h x List.mem_cons_self)
 | x::y::r,_,h=>by
  show cut (x++10::jn (y::r))=_
  rw [ow (h x List.mem_cons_self),BH (by simp) fun p hp=>h p (List.mem_cons_of_mem _ hp)]
theorem yJ:∀ ps:List Str,(Str.join (sT [10]) ps).cps.toList=jn (ps.map fun p=>p.cps.toList)
 | []=>rfl
 | [x]=>rfl
 | x::y::r=>by
  have h:=yJ (y::r)
  show(x++sT [10]++Str.join (sT [10]) (y::r)).cps.toList=x.cps.toList++10::jn ((y::r).map fun p=>p.cps.toList)
  rw [← h]
  show((x.cps ++ #[10])++(Str.join (sT [10]) (y::r)).cps).toList=_
  simp
theorem Dk (L:List Nat):Txt.split (sT L) (sT [10])=(cut L).map sT:=by
 have h1:=StrLaws.join_split (sT L) (sT [10])
 have h2:=StrLaws.split_free (sT L) 10
 have h3:=PyProof.Rows.split_pos (sT L) (sT [10])
 have h2:∀ p∈Txt.split (sT L) (sT [10]),10∉p.cps.toList:=h2
 generalize Txt.split (sT L) (sT [10])=ps at h1 h2 h3
 have h4:jn (ps.map fun p=>p.cps.toList)=L:=by
  rw [← yJ,h1]
 have h5:ps.map (fun p=>p.cps.toList)≠[]:=by
  intro q
  have:=congrArg List.length q
  rw [List.length_map]at this
  simp at this
  rw [this]at h3
  simp at h3
 have h6:=BH h5 fun p hp=>by
  obtain⟨q,hq,rfl⟩:=List.mem_map.mp hp
  exact h2 q hq
 rw [h4]at h6
 rw [h6,List.map_map]
 exact(List.map_id ps).symm.trans (List.map_congr_left fun p _=>(Hj (T:=p)).symm)
def sD (m k:Nat) (T:List Nat):List Nat:=(List.replicate m [97,40,98,41,10]).flatten++T++[10]++(List.replicate k [45,10]).flatten
def sE (m k:Nat) (T:List Nat):List (List Nat):=List.replicate m [97,40,98,41]++T::List.replicate k [45]
theorem xG {T:List Nat} (hT:10∉T):∀ (m k:Nat),cut (sD m k T)=sE m k T++[[]]
 | 0,k=>by
  unfold sD sE
  have h:∀ k:Nat,cut (List.replicate k [45,10]).flatten=List.replicate k [45]++[[]]:=fun k=>by
   induction k with
   | zero=>rfl
   | succ k ih =>
    rw [List.replicate_succ,List.flatten_cons]
    show cut ([45]++10::(List.replicate k [45,10]).flatten)=_
    rw [ow (by decide),ih,List.replicate_succ]
    rfl
  show cut (T++[10]++_)=_
  rw [List.append_assoc]
  show cut (T++10::_)=_
  rw [ow hT]
  show T::cut (List.replicate k [45,10]).flatten=_
  rw [h]
  rfl
 | m+1,k=>by
  have ih:=xG hT m k
  have:sD (m+1) k T = [97,40,98,41]++10::sD m k T:=by
   unfold sD
   rw [List.replicate_succ,List.flatten_cons]
   simp
  rw [this,ow (by decide),ih]
  unfold sE
  rw [List.replicate_succ]
  rfl
variable {s0 s1:Option O}
noncomputable abbrev ΦL:cW:=fz []
theorem Lh (h:ji [20] [.str] [TD]=some (.d (.bl true))):bZ ΦL jV [some (.d TD),s1] = .ok .nx [some (.d TD),s1]:=by
 simp_arith [jV,h]
theorem Li (h:zL .split [TD,.str "\n"]=some P) (h2:iV .split TD=some ()):bZ ΦL jW [some (.d TD),s1] = .ok .nx [some (.d TD),some (P)]:=by
 simp_arith [jW,-iV]
 try simp_arith [h,h2,-iV]
theorem Lj {W:D}{P2:O} (hf:P.frz=PD) (tk:∀ {i ρ},aB.taken P i ρ=ρ.set i none) (h1:kH [PD,.int (-1)]=some (.d W)) (hix:cb P (.int (-1)) (.d W)=P) (h2:au .eq W (.str "")=some true) (h3:oG .pop P []=some (.d W,P2)) (h4:dH .pop P=some ()) (tk2:∀ {i ρ},aB.taken P2 i ρ=ρ.set i none):bZ ΦL jX [s0,some (P)] = .ok (.rt (.d (.tup [P2.frz,.bl true]))) [s0,some (.d P2.frz)]:=by
 simp_arith [jX,hf,tk,-cM,-dH]
 try simp_arith [hf,tk,h1,hix,h2,h3,h4,tk2,-cM,-dH]
theorem FH {A:List (List Nat)}:oG .pop (iG (A++[x])) []=some (.d (tD x),iG A):=by
 unfold iG
 simp [oG]
theorem wV {A:List (List Nat)} (hz:L.length≤100000) (hc:cut L=A++[[]]):ft [.d (tD L)] = .ok (.d (.tup [.lst (A.map tD),.bl true])) [.d (tD L)]:=by
 have hio:∀ {x1:Option O},bj [.d (tD L)] [some (.d (tD L)),x1]=some [.d (tD L)]:=fun {_}=>rfl
 have h4:ji [20] [.str] [tD L]=some (.d (.bl true)):=rfl
 have h5:zL .split [tD L,.str "\n"]=some (iG (A++[[]])):=by
  show(if((sT [10]).length == 0)=false∧(sT L).length+2≤sizeLine then some (O.lst ((Txt.split (sT L) (sT [10])).map fun x=>.d (.str x)))else none)=_
  rw [if_pos ⟨rfl,by rw [dM,PySem.sizeLine_eq]; omega⟩,Dk,hc,List.map_map]
  rfl
 have c1:=Lh (s1:=none) h4
 have c2:=Li (s1:=none) h5 rfl
 have c3:=Lj (s0:=some (.d (tD L))) (P:=iG (A++[[]])) (P2:=iG A) jY (fun {i ρ}=>rX) (yH (A:=A) (x:=[])) BA (sV (x:=[]) (y:=[])) FH rfl (fun {i ρ}=>rX)
 rw [jY]at c3
 refine(aX (by rfl) (by rfl)).trans ?_
 exact mn wu rfl (ah c1 (ah c2 (cg c3))) hio
end PV.K72
namespace PV.K72
open PySem L2 PL PM PN _root_.K72 PV.K1 PV.M1 PV.N1
variable {L l r:List Nat}{a e:Nat}{x y:List Nat}{TD PD R S:D}{P NM:O}{N:Int}
theorem FI (h1:ji [20] [.str] [TD]=some (.d (.bl true))) (h:aC [.d TD] = .ok (.d .non) [.d TD]):eA [.d TD] = .exc 14 [.int 0] [.d TD]:=by
 refine(aX (by rfl) (by rfl)).trans ?_
 rw [n9]
 simp_arith [h1]
 try simp_arith [h1,h]
 try rfl
theorem Dl (h1:ji [20] [.str] [TD]=some (.d (.bl true))) (h:aC [.d TD] = .ok (.d S) [.d TD]) (h2:au .is S .non=some false) (h3:aH [.obj 20 [] [],.d S] = .exc 1 [] [.obj 20 [] [],.d S]):eA [.d TD] = .exc 1 [] [.d TD]:=by
 refine(aX (by rfl) (by rfl)).trans ?_
 rw [n9]
 simp_arith [h1]
 try simp_arith [h1,h,h2,h3]
variable {s0 s1 s2 s3 s4 s5 s6:Option O}
noncomputable abbrev ΦH:cW:=fz [(5,aH),(259,_root_.K09.cq),(477,aC),(482,ft)]
theorem Kw (h:ft [.d TD] = .ok (.d (.tup [PD,.bl true])) [.d TD]):bZ ΦH gb [some (.d TD),s1,s2,s3,s4,s5,s6] = .ok .nx [some (.d TD),some (.d PD),some (.d (.bl true)),s3,s4,s5,s6]:=by
 simp_arith [gb,h]
theorem Hv (h:aC [.d TD] = .ok (.d R) [.d TD]):(bnd (aE (.nm 6) TD [s0,s1,s2,s3,s4,s5,s6]) fun ρ=>(cZ ΦH [] ρ).bind fun b ρ=>kg b ((ev ΦH dS ρ).bind fun o ρ=>.ok (some o) (ai [6] ρ)) (.ok none (ai [6] ρ))) = .ok (some (.d R)) [s0,s1,s2,s3,s4,s5,none]:=by
 simp_arith [dS,h]
theorem Kx {XS:List D}{os:List O} (hx:nA PD=some XS) (he:aK (fun x ρ=>bnd (aE (.nm 6) x ρ) fun ρ=>(cZ ΦH [] ρ).bind fun b ρ=>kg b ((ev ΦH dS ρ).bind fun o ρ=>.ok (some o) (ai [6] ρ)) (.ok none (ai [6] ρ))) XS [s0,some (.d PD),s2,s3,s4,s5,none] = .ok os [s0,some (.d PD),s2,s3,s4,s5,none]):bZ ΦH gd [s0,some (.d PD),s2,s3,s4,s5,none] = .ok .nx [s0,some (.d PD),s2,some (.lst os),s4,s5,none]:=by
 simp_arith [dU]at he
 simp_arith [gd]
 try simp_arith [hx,he]
theorem JK {j:Int} (h:au .is R .non=some true):(bnd (aE (.tp [.nm 4,.nm 5]) (.tup [.int j,R]) [s0,s1,s2,s3,s4,s5,s6]) fun ρ=>aG ΦH aU ρ) = .exc 14 [.int j] [s0,s1,s2,s3,some (.d (.int j)),some (.d R),s6]:=by
 simp_arith [aU]
 try simp_arith [h]
 try rfl
theorem Hw {j:Int} (h:au .is R .non=some false):(bnd (aE (.tp [.nm 4,.nm 5]) (.tup [.int j,R]) [s0,s1,s2,s3,s4,s5,s6]) fun ρ=>aG ΦH aU ρ) = .ok .nx [s0,s1,s2,s3,some (.d (.int j)),some (.d R),s6]:=by
 simp_arith [aU]
 try simp_arith [h]
theorem Lk {XS:List D} (hf:P.frz = .lst XS) (hs:P.shal=P) (tk:∀ {i ρ},aB.taken P i ρ=ρ.set i none) {t4 t5:Option O} (he:forL (fun x ρ=>bnd (aE (.tp [.nm 4,.nm 5]) x ρ) fun ρ=>aG ΦH aU ρ) (fw 0 XS) [s0,s1,s2,none,s4,s5,s6] = .ok .nx [s0,s1,s2,none,t4,t5,s6]):bZ ΦH cG [s0,s1,s2,some (P),s4,s5,s6] = .ok .nx [s0,s1,s2,some (P),t4,t5,s6]:=by
 have hl:BZ (.lst XS)=some XS:=rfl
 simp_arith [cG,hf,hs,tk]
 try simp_arith [hf,hs,tk,hl,he]
theorem JL {XS:List D}{q:List D} (hf:P.frz = .lst XS) (hs:P.shal=P) (tk:∀ {i ρ},aB.taken P i ρ=ρ.set i none) {t4 t5:Option O} (he:forL (fun x ρ=>bnd (aE (.tp [.nm 4,.nm 5]) x ρ) fun ρ=>aG ΦH aU ρ) (fw 0 XS) [s0,s1,s2,none,s4,s5,s6] = .exc 14 q [s0,s1,s2,none,t4,t5,s6]):bZ ΦH cG [s0,s1,s2,some (P),s4,s5,s6] = .exc 14 q [s0,s1,s2,some (P),t4,t5,s6]:=by
 have hl:BZ (.lst XS)=some XS:=rfl
 simp_arith [cG,hf,hs,tk]
 try simp_arith [hf,hs,tk,hl,he]
theorem Ll:bZ ΦH gh [s0,s1,some (.d (.bl true)),s3,s4,s5,s6] = .ok .nx [s0,s1,some (.d (.bl true)),s3,s4,s5,s6]:=by
 simp_arith [gh]
theorem JM {o:O} (h:aH [.obj 20 [] [],.d S] = .ok (.d .non) [o,.d S]):(bnd (aE (.nm 5) S [s0,s1,s2,s3,s4,s5,s6]) fun ρ=>(cZ ΦH [] ρ).bind fun b ρ=>kg b ((ev ΦH bI ρ).bind fun o ρ=>.ok (some o) (ai [5] ρ)) (.ok none (ai [5] ρ))) = .ok (some o) [s0,s1,s2,s3,s4,none,s6]:=by
 simp_arith [bI,h]
theorem JN (h:aH [.obj 20 [] [],.d S] = .exc 1 [] [.obj 20 [] [],.d S]):(bnd (aE (.nm 5) S [s0,s1,s2,s3,s4,s5,s6]) fun ρ=>(cZ ΦH [] ρ).bind fun b ρ=>kg b ((ev ΦH bI ρ).bind fun o ρ=>.ok (some o) (ai [5] ρ)) (.ok none (ai [5] ρ))) = .exc 1 [] [s0,s1,s2,s3,s4,some (.d S),s6]:=by
 simp_arith [bI,h]
theorem Lm {XS:List D}{t5:Option O} (hf:P.frz = .lst XS) (hs:P.shal=P) (tk:∀ {i ρ},aB.taken P i ρ=ρ.set i none) (he:aK (fun x ρ=>bnd (aE (.nm 5) x ρ) fun ρ=>(cZ ΦH [] ρ).bind fun b ρ=>kg b ((ev ΦH bI ρ).bind fun o ρ=>.ok (some o) (ai [5] ρ)) (.ok none (ai [5] ρ))) XS [s0,s1,s2,none,s4,none,s6] = .exc 1 [] [s0,s1,s2,none,s4,t5,s6]):bZ ΦH gi [s0,s1,s2,some (P),s4,s5,s6] = .exc 1 [] [s0,s1,s2,some (P),s4,s5,s6]:=by
 simp_arith [dU]at he
 simp_arith [gi,hf,hs,tk]
 try simp_arith [hf,hs,tk,he]
end PV.K72
namespace PV.K72
open PySem L2 PL PM PN _root_.K72 PV.K1 PV.M1 PV.N1
variable {L l r:List Nat}{a e:Nat}{x y:List Nat}{TD PD R S:D}{P NM:O}{N:Int}
theorem yK {Φ:cW}{s:SS}{ss:List SS}{ρ ρ':Env}{C:Nat}{q:List D} (h:bZ Φ s ρ = .exc C q ρ'):aG Φ (s::ss) ρ = .exc C q ρ':=by
 rw [aG,h]
 rfl
def Dm:F:=.node (sT [97]) (.node (sT [98]) .nil .nil) .nil
theorem FJ:JB Dm:=by
 have h1:cO (sT [97])=true:=by decide +kernel
 have h2:cO (sT [98])=true:=by decide +kernel
 have hn:(sT [97])≠sT [98]:=by decide +kernel
 have hs:Dm.names = [sT [97],sT [98]]:=rfl
 refine⟨by rw [hs]; simp [hn],fun s hs2=>?_,by decide⟩
 rw [hs]at hs2
 simp only [List.mem_cons,List.not_mem_nil,or_false]at hs2
 rcases hs2 with rfl | rfl
 ·exact mm h1
 ·exact mm h2
theorem Hx:aC [.d (tD [97,40,98,41])] = .ok (.d (.tup Dm.shape)) [.d (tD [97,40,98,41])]:=by
 have h:=jZ (L:=[97,40,98,41]) (by simp) (by simp)
 rw [h]
 have h2:rZ [97,40,98,41] = .tup Dm.shape:=by
  have h1:cO (sT [97])=true:=by decide +kernel
  have h2:cO (sT [98])=true:=by decide +kernel
  have e:pV [97,40,98,41]=some Dm:=by
   unfold pV
   show(if cO (sT [97])then _ else none)=_
   rw [if_pos h1]
   show(if cO (sT [98])then _ else none)=_
   rw [if_pos h2]
   rfl
  unfold rZ
  rw [if_pos (by simp),e]
  rfl
 rw [h2]
def gl (x:List Nat):D:=if x = [45]then .tup []else if x = [97,40,98,41]then .tup Dm.shape else rZ x
theorem Hy (h:x = [45]∨(2≤x.length∧x.length≤9000)):aC [.d (tD x)] = .ok (.d (gl x)) [.d (tD x)]:=by
 unfold gl
 by_cases h1:x = [45]
 ·rw [if_pos h1,h1]
  exact xF
 ·rw [if_neg h1]
  by_cases h2:x = [97,40,98,41]
  ·rw [if_pos h2,h2]
   exact Hx
  ·rw [if_neg h2]
   obtain⟨h3,h4⟩:=h.resolve_left h1
   exact jZ h3 h4
def D8 (A:List (List Nat)):O:=.lst (A.map fun x=>.d (gl x))
theorem vf {A:List (List Nat)}:(D8 A).frz = .lst (A.map gl):=by
 unfold D8
 rw [oS,List.map_map]
 rfl
theorem xH {A:List (List Nat)}:(D8 A).shal=D8 A:=by
 unfold D8
 show O.lst _=_
 rw [List.map_map]
 rfl
theorem yL:∀ (A:List (List Nat)) (j:Nat) (s0 s1 s2 s3 s4 s5 s6:Option O),(∀ x∈A,au .is (gl x) .non=some false)→∃ t4 t5:Option O,forL (fun x ρ=>bnd (aE (.tp [.nm 4,.nm 5]) x ρ) fun ρ=>aG ΦH aU ρ) (fw j (A.map gl)) [s0,s1,s2,s3,s4,s5,s6] = .ok .nx [s0,s1,s2,s3,t4,t5,s6]
 | [],j,s0,s1,s2,s3,s4,s5,s6,_=>⟨s4,s5,rfl⟩
 | x::A,j,s0,s1,s2,s3,s4,s5,s6,h=>by
  obtain⟨t4,t5,e⟩:=yL A (j+1) s0 s1 s2 s3 (some (.d (.int (j:Int)))) (some (.d (gl x))) s6 fun y hy=>h y (List.mem_cons_of_mem _ hy)
  refine⟨t4,t5,?_⟩
  have e1:=Hw (s0:=s0) (s1:=s1) (s2:=s2) (s3:=s3) (s4:=s4) (s5:=s5) (s6:=s6) (j:=(j:Int)) (h x List.mem_cons_self)
  show forL _ (D.tup [.int (j:Int),gl x]::fw (j+1) (A.map gl)) _=_
  rw [forL,e1]
  exact e
theorem wW {T:List Nat}{B:List (List Nat)} (hT:gl T = .non):∀ (A:List (List Nat)) (j:Nat) (s0 s1 s2 s3 s4 s5 s6:Option O),(∀ x∈A,au .is (gl x) .non=some false)→∃ t4 t5:Option O,forL (fun x ρ=>bnd (aE (.tp [.nm 4,.nm 5]) x ρ) fun ρ=>aG ΦH aU ρ) (fw j ((A++T::B).map gl)) [s0,s1,s2,s3,s4,s5,s6] = .exc 14 [.int ((j+A.length:Nat):Int)] [s0,s1,s2,s3,t4,t5,s6]
 | [],j,s0,s1,s2,s3,s4,s5,s6,_=>by
  have e1:=JK (R:=gl T) (s0:=s0) (s1:=s1) (s2:=s2) (s3:=s3) (s4:=s4) (s5:=s5) (s6:=s6) (j:=(j:Int)) (by rw [hT]; rfl)
  refine⟨some (.d (.int (j:Int))),some (.d (gl T)),?_⟩
  show forL _ (D.tup [.int (j:Int),gl T]::fw (j+1) (B.map gl)) _=_
  rw [forL,e1]
  rfl
 | x::A,j,s0,s1,s2,s3,s4,s5,s6,h=>by
  obtain⟨t4,t5,e⟩:=wW hT (B:=B) A (j+1) s0 s1 s2 s3 (some (.d (.int (j:Int)))) (some (.d (gl x))) s6 fun y hy=>h y (List.mem_cons_of_mem _ hy)
  refine⟨t4,t5,?_⟩
  have e1:=Hw (s0:=s0) (s1:=s1) (s2:=s2) (s3:=s3) (s4:=s4) (s5:=s5) (s6:=s6) (j:=(j:Int)) (h x List.mem_cons_self)
  show forL _ (D.tup [.int (j:Int),gl x]::fw (j+1) ((A++T::B).map gl)) _=_
  rw [forL,e1]
  have:j+1+A.length=j+(x::A).length:=by
   rw [List.length_cons]
   omega
  rw [← this]
  exact e
theorem yM {B:List D} (h:aH [.obj 20 [] [],.d S] = .exc 1 [] [.obj 20 [] [],.d S]) {s0 s1 s2 s3 s4 s6:Option O}:∀ (m:Nat),aK (fun x ρ=>bnd (aE (.nm 5) x ρ) fun ρ=>(cZ ΦH [] ρ).bind fun b ρ=>kg b ((ev ΦH bI ρ).bind fun o ρ=>.ok (some o) (ai [5] ρ)) (.ok none (ai [5] ρ))) (List.replicate m (.tup Dm.shape)++S::B) [s0,s1,s2,s3,s4,none,s6] = .exc 1 [] [s0,s1,s2,s3,s4,some (.d S),s6]
 | 0=>by
  show aK _ (S::B) _=_
  rw [aK,JN h]
  rfl
 | m+1=>by
  rw [List.replicate_succ,List.cons_append,aK,JM (init FJ),Res.bind_ok,yM h m]
  rfl
variable {s0 s1 s2 s3 s4 s5 s6:Option O}
theorem BI {T:List Nat}{m k:Nat} (h1:150≤T.length) (h2:T.length≤8000):∀ x∈sE m k T,aC [.d (tD x)] = .ok (.d (gl x)) [.d (tD x)]:=by
 intro x hx
 refine Hy ?_
 unfold sE at hx
 rcases List.mem_append.mp hx with h | h
 ·rw [List.eq_of_mem_replicate h]
  exact Or.inr (by simp)
 ·rcases List.mem_cons.mp h with h | h
  ·rw [h]
   exact Or.inr ⟨by omega,by omega⟩
  ·exact Or.inl (List.eq_of_mem_replicate h)
theorem FL {T:List Nat} (h1:150≤T.length):gl T=rZ T:=by
 unfold gl
 rw [if_neg (by rintro rfl; simp at h1),if_neg (by rintro rfl; simp at h1)]
theorem D9:gl [97,40,98,41] = .tup Dm.shape:=by
 unfold gl
 rw [if_neg (by simp),if_pos rfl]
theorem JO:gl [45] = .tup []:=if_pos rfl
theorem Ea {m:Nat}:∀ x∈List.replicate m [97,40,98,41],au .is (gl x) .non=some false:=by
 intro x hx
 rw [List.eq_of_mem_replicate hx,D9]
 rfl
theorem ph {T:List Nat}{m k:Nat} (h1:150≤T.length) (h2:T.length≤8000) (hm:m≤10) (hk:k≤10) (hT:10∉T) (hr:rZ T = .non):cz [.d (tD (sD m k T))] = .exc 14 [.int (m:Int)] [.d (tD (sD m k T))]:=by
 have hz:(sD m k T).length≤100000:=by
  unfold sD
  simp
  omega
 have c1:=Kw (s1:=none) (s2:=none) (s3:=none) (s4:=none) (s5:=none) (s6:=none) (wV hz (xG hT m k))
 have c2:=Kx (s0:=some (.d (tD (sD m k T)))) (s2:=some (.d (.bl true))) (s3:=none) (s4:=none) (s5:=none) (PD:=.lst ((sE m k T).map tD)) (XS:=(sE m k T).map tD) rfl (comp_map (a:=tD) (g:=fun x=>.d (gl x)) fun x hx=>Hv (BI h1 h2 x hx))
 obtain⟨t4,t5,e⟩:=wW (T:=T) (B:=List.replicate k [45]) (by rw [FL h1,hr]) (List.replicate m [97,40,98,41]) 0 (some (.d (tD (sD m k T)))) (some (.d (.lst ((sE m k T).map tD)))) (some (.d (.bl true))) none none none none Ea
 have c3:=JL (s0:=some (.d (tD (sD m k T)))) (s1:=some (.d (.lst ((sE m k T).map tD)))) (s2:=some (.d (.bl true))) (s4:=none) (s5:=none) (s6:=none) (P:=D8 (sE m k T)) vf xH (fun {i ρ}=>rfl) e
 rw [List.length_replicate,Nat.zero_add]at c3
 refine(aX (by rfl) (by rfl)).trans ?_
 exact Br lF rfl (ah c1 (ah c2 (yK c3))) rfl
theorem oz {T:List Nat}{m k:Nat}{f:F} (h1:150≤T.length) (h2:T.length≤8000) (hm:m≤10) (hk:k≤10) (hT:10∉T) (hr:rZ T = .tup f.shape) (hi:aH [.obj 20 [] [],.d (.tup f.shape)] = .exc 1 [] [.obj 20 [] [],.d (.tup f.shape)]):cz [.d (tD (sD m k T))] = .exc 1 [] [.d (tD (sD m k T))]:=by
 have hz:(sD m k T).length≤100000:=by
  unfold sD
  simp
  omega
 have c1:=Kw (s1:=none) (s2:=none) (s3:=none) (s4:=none) (s5:=none) (s6:=none) (wV hz (xG hT m k))
 have c2:=Kx (s0:=some (.d (tD (sD m k T)))) (s2:=some (.d (.bl true))) (s3:=none) (s4:=none) (s5:=none) (PD:=.lst ((sE m k T).map tD)) (XS:=(sE m k T).map tD) rfl (comp_map (a:=tD) (g:=fun x=>.d (gl x)) fun x hx=>Hv (BI h1 h2 x hx))
 have hall:∀ x∈sE m k T,au .is (gl x) .non=some false:=fun x hx=>by
  unfold sE at hx
  rcases List.mem_append.mp hx with h | h
  ·exact Ea x h
  ·rcases List.mem_cons.mp h with h | h
   ·rw [h,FL h1,hr]
    rfl
   ·rw [List.eq_of_mem_replicate h,JO]
    rfl
 obtain⟨t4,t5,e⟩:=yL (sE m k T) 0 (some (.d (tD (sD m k T)))) (some (.d (.lst ((sE m k T).map tD)))) (some (.d (.bl true))) none none none none hall
 have c3:=Lk (s0:=some (.d (tD (sD m k T)))) (s1:=some (.d (.lst ((sE m k T).map tD)))) (s2:=some (.d (.bl true))) (s4:=none) (s5:=none) (s6:=none) (P:=D8 (sE m k T)) vf xH (fun {i ρ}=>rfl) e
 have hx:(sE m k T).map gl=List.replicate m (.tup Dm.shape) ++ .tup f.shape::(List.replicate k [45]).map gl:=by
  unfold sE
  rw [List.map_append,List.map_replicate,D9,List.map_cons,FL h1,hr]
 have c5:=Lm (s0:=some (.d (tD (sD m k T)))) (s1:=some (.d (.lst ((sE m k T).map tD)))) (s2:=some (.d (.bl true))) (s4:=t4) (s5:=t5) (s6:=none) (P:=D8 (sE m k T)) vf xH (fun {i ρ}=>rfl) (by
  rw [hx]
  exact yM hi m)
 refine(aX (by rfl) (by rfl)).trans ?_
 exact Br lF rfl (ah c1 (ah c2 (ah c3 (ah Ll (yK c5))))) rfl
end PV.K72
namespace PV.K72
open PySem L2 PL PM PN _root_.K72 PV.K1 PV.M1 PV.N1
variable {L l r:List Nat}{a e:Nat}{x y:List Nat}{TD PD R S:D}{P NM:O}{N:Int}
theorem yN {C:Nat}{p:List D} (h:eA [.d TD] = .exc C p [.d TD]) (hC:C∈[0,1,4,5,14]):eB [.d TD,.d (.int 0)] = .ok (.d (.exc C p)) [.d TD,.d (.int 0)]:=by
 refine(aX (by rfl) (by rfl)).trans ?_
 rw [ud]
 simp_arith [dU]
 try simp_arith [h,hC,bO]
theorem yO {C:Nat}{p:List D} (h:cz [.d TD] = .exc C p [.d TD]) (hC:C∈[0,1,4,5,14]):eB [.d TD,.d (.int 1)] = .ok (.d (.exc C p)) [.d TD,.d (.int 1)]:=by
 refine(aX (by rfl) (by rfl)).trans ?_
 rw [ud]
 simp_arith [dU]
 try simp_arith [h,hC,bO]
structure Hz (T:List Nat):Prop where
 lo:150≤T.length
 hi:T.length≤8000
 nl:10∉T
theorem both {T:List Nat} (h:Hz T):∃ (R:D) (C:Nat) (q:Int→List D),bg [.d (tD T)] = .ok (.d R) [.d (tD T)] ∧
  eB [.d (tD T),.d (.int 0)] = .ok (.d (.exc C (q 0))) [.d (tD T),.d (.int 0)] ∧
  (∀ m k:Nat,m≤10→k≤10→eB [.d (tD (sD m k T)),.d (.int 1)] = .ok (.d (.exc C (q (m:Int)))) [.d (tD (sD m k T)),.d (.int 1)]) ∧
  ((au .is R .non=some true∧au .isnot R .non=some false∧C=14∧q=fun i=>[.int i])∨(au .is R .non=some false∧au .isnot R .non=some true∧C=1∧q=fun _=>[])):=by
 have e1:=sW (L:=T) (by have:=h.lo; omega) (by have:=h.hi; omega)
 have hs:=jZ (L:=T) (by have:=h.lo; omega) (by have:=h.hi; omega)
 have hi:ji [20] [.str] [tD T]=some (.d (.bl true)):=rfl
 rcases BG (L:=T) h.lo with⟨q1,q2⟩ | ⟨⟨ns,q1⟩,f,q2,q3,q4,q5⟩
 ·rw [q2]at hs
  refine⟨_,14,fun i=>[.int i],e1,yN (FI hi hs) (by simp),fun m k hm hk=>yO (ph h.lo h.hi hm hk h.nl q2) (by simp),Or.inl ⟨by rw [q1]; rfl,by rw [q1]; rfl,rfl,rfl⟩⟩
 ·rw [q2]at hs
  have hin:=zw q5 q3 q4
  refine⟨_,1,fun _=>[],e1,yN (Dl hi hs rfl hin) (by simp),fun m k hm hk=>yO (oz h.lo h.hi hm hk h.nl q2 hin) (by simp),Or.inr ⟨by rw [q1]; rfl,by rw [q1]; rfl,rfl,rfl⟩⟩
end PV.K72
namespace PV.K72
open PySem L2 PL PM PN _root_.K72 PV.K1 PV.M1 PV.N1
variable {L l r:List Nat}{a e:Nat}{x y:List Nat}
def jc (c:Nat):List (List Nat)→List Nat
 | []=>[]
 | [x]=>x
 | x::y::r=>x++c::jc c (y::r)
theorem yP (c:Nat):∀ ps:List (List Nat),PySem.Str.join (sT [c]) (ps.map sT)=sT (jc c ps)
 | []=>rfl
 | [x]=>rfl
 | x::y::r=>by
  have h:=yP c (y::r)
  show sT x++sT [c]++PySem.Str.join (sT [c]) ((y::r).map sT)=_
  rw [h]
  show(⟨(x.toArray ++ #[c])++(jc c (y::r)).toArray⟩:Str)=_
  congr 1
  show _=(x++c::jc c (y::r)).toArray
  simp
theorem xI {c:Nat}{w:List Nat}:∀ n:Nat,(jc c (List.replicate (n+1) w)).length+1=(n+1) * (w.length+1)
 | 0=>by
  show w.length+1=_
  omega
 | n+1=>by
  have h:=xI (c:=c) (w:=w) n
  show(w++c::jc c (List.replicate (n+1) w)).length+1=_
  rw [List.length_append,List.length_cons]
  rw [Nat.add_mul (n+1) 1]
  omega
theorem xJ {c z:Nat}:∀ {ps:List (List Nat)},z∈jc c ps→z=c∨∃ p∈ps,z∈p
 | [x],h=>Or.inr ⟨x,List.mem_cons_self,h⟩
 | x::y::r,h=>by
  have h:z∈x++c::jc c (y::r):=h
  rcases List.mem_append.mp h with h | h
  ·exact Or.inr ⟨x,List.mem_cons_self,h⟩
  ·rcases List.mem_cons.mp h with h | h
   ·exact Or.inl h
   ·rcases xJ h with h | ⟨p,hp,h⟩
    ·exact Or.inl h
    ·exact Or.inr ⟨p,List.mem_cons_of_mem _ hp,h⟩
theorem BJ:∀ ps:List (List Nat),fL (ps.map tD)=some (ps.map sT)
 | []=>rfl
 | x::ps=>by
  show(fL (ps.map tD)).map (sT x :: ·)=_
  rw [BJ ps]
  rfl
theorem len_rep {w:List Nat}:∀ n:Nat,(((List.replicate n w).map sT).map (·.length)).sum=n * w.length
 | 0=>by simp
 | n+1=>by
  rw [List.replicate_succ,List.map_cons,List.map_cons,List.sum_cons,len_rep n,dM,Nat.add_mul]
  omega
theorem comma:("," : Str)=sT [44]:=rfl
theorem BK {w:List Nat}{n:Nat} (h1:n≤10000) (h2:w.length≤100):zL .join [.str ",",.lst ((List.replicate n w).map tD)]=some (.d (tD (jc 44 (List.replicate n w)))):=by
 rw [q7,BJ]
 dsimp only
 have hm:n * w.length≤10000 * 100:=Nat.mul_le_mul h1 h2
 rw [len_rep,comma,dM,List.length_map,List.length_replicate,if_pos (by simp; omega)]
 unfold Txt.join
 rw [StrLaws.glued_eq_join,yP]
theorem nj {x:List Nat}{k:Nat} (hk:k≤100000) (hx:x.length≤100):c0 [tD x,.int (k:Int)]=some (.d (tD (List.replicate k x).flatten)):=by
 show(if 0≤(k:Int)∧(k:Int)≤100000∧(sT x).length≤100 then some (O.d (.str (rj (sT x) (k:Int).toNat)))else none)=_
 rw [if_pos ⟨by omega,by omega,by rw [dM]; exact hx⟩,Int.toNat_natCast]
 rfl
theorem Eb {w:List Nat}{k:Nat} (hk:k≤100000):sH [.lst [tD w],.int (k:Int)]=some (iG (List.replicate k w)):=by
 show(if 0≤(k:Int)∧(k:Int)≤100000∧[tD w].length≤100 then some (O.lst ((List.replicate (k:Int).toNat [tD w]).flatten.map .d))else none)=_
 rw [if_pos ⟨by omega,by omega,by simp⟩,Int.toNat_natCast]
 unfold iG
 congr 2
 induction k with
 | zero=>rfl
 | succ k ih=>rw [List.replicate_succ,List.flatten_cons,List.map_append,ih (by omega),List.replicate_succ]; rfl
theorem bP {x:List Nat}:∀ k:Nat,(List.replicate k x).flatten.length=k * x.length
 | 0=>by simp
 | k+1=>by
  rw [List.replicate_succ,List.flatten_cons,List.length_append,bP k,Nat.add_mul]
  omega
theorem mq {x:List Nat}{z k:Nat} (h:z∈(List.replicate k x).flatten):z∈x:=by
 obtain⟨p,hp,hz⟩:=List.mem_flatten.mp h
 rw [List.eq_of_mem_replicate hp]at hz
 exact hz
theorem wX (hz:l.length≤1000000) (ha:a≤l.length):mW [tD l,.non,.int (a:Int)]=some (.d (tD (l.take a))):=by
 show(if(sT l).length≤sizeLine then some (O.d (.str ⟨(((sT l).cps.toList.drop (HT.sIx (sT l).length 0 none)).take (HT.sIx (sT l).length (sT l).length (some (a:Int)) - HT.sIx (sT l).length 0 none)).toArray⟩))else none)=_
 rw [dM,if_pos (by rw [PySem.sizeLine_eq]; omega),HT.sIx_nat,HT.sIx_none,Nat.min_eq_left ha,Nat.sub_zero,List.drop_zero]
theorem BL (hz:l.length≤1000000) (ha:a≤l.length):mW [tD l,.int (a:Int),.non]=some (.d (tD (l.drop a))):=by
 show(if(sT l).length≤sizeLine then some (O.d (.str ⟨(((sT l).cps.toList.drop (HT.sIx (sT l).length 0 (some (a:Int)))).take (HT.sIx (sT l).length (sT l).length none - HT.sIx (sT l).length 0 (some (a:Int)))).toArray⟩))else none)=_
 rw [dM,if_pos (by rw [PySem.sizeLine_eq]; omega),HT.sIx_nat,HT.sIx_none,Nat.min_eq_left ha]
 have:((sT l).cps.toList.drop a).take (l.length - a)=l.drop a:=by
  show(l.drop a).take (l.length - a)=l.drop a
  rw [List.take_of_length_le (by rw [List.length_drop]; exact Nat.le_refl _)]
 rw [this]
abbrev r8:List Nat:=[97,98,99,100,101,102,103,104]
theorem vg {a:Nat}:∀ z∈r8.take a,z≠10:=fun z hz=>by
 have:=List.mem_of_mem_take hz
 rintro rfl
 revert this
 decide
theorem r9 {g s:Nat} (h:0 < s) (h2:s < 1073741824):jO .fdiv [.int (g:Int),.int (s:Int)]=some (.d (.int ((g / s:Nat):Int))):=by
 rw [kN,if_pos ⟨by omega,Or.inl (by omega)⟩]
 rfl
structure Dq (T:List Nat):Prop where
 lo:200≤T.length
 hi:T.length≤6000
 nl:10∉T
theorem JP {g s:Nat} (hg:380≤g) (hg2:g≤4002) (hs:1≤s) (hs2:s≤8) {w:List Nat} (hw:w.length=s) (hn:∀ z∈w,z≠10) {tl:List Nat} (ht:tl.length=2) (htn:∀ z∈tl,z≠10) :
  (jc 44 (List.replicate (g / (s+1)) w)).length≤g∧Dq (jc 44 (List.replicate (g / (s+1)) w)++(List.replicate ((g - (jc 44 (List.replicate (g / (s+1)) w)).length) / 2) tl).flatten):=by
 have h1:0 < g / (s+1):=Nat.div_pos (by omega) (by omega)
 obtain⟨n,hn'⟩:∃ n,g / (s+1)=n+1:=⟨g / (s+1) - 1,by omega⟩
 have h2:(g / (s+1)) * (s+1)≤g:=Nat.div_mul_le_self _ _
 have h3:g < (g / (s+1)+1) * (s+1):=by
  have:=Nat.lt_div_mul_add (a:=g) (b:=s+1) (by omega)
  rw [Nat.add_mul]
  omega
 rw [hn']at h2 h3 ⊢
 have h4:=xI (c:=44) (w:=w) n
 rw [hw]at h4
 have h5:(n+1+1) * (s+1)=(n+1) * (s+1)+(s+1):=by rw [Nat.add_mul (n+1) 1]; omega
 generalize (n+1) * (s+1)=M at h2 h3 h4 h5
 refine⟨by omega,?_,?_,?_⟩
 ·rw [List.length_append,bP,ht]
  omega
 ·rw [List.length_append,bP,ht]
  omega
 ·intro h
  rcases List.mem_append.mp h with h | h
  ·rcases xJ h with h | ⟨p,hp,h⟩
   ·cases h
   ·rw [List.eq_of_mem_replicate hp]at h
    exact hn _ h rfl
  ·exact htn _ (mq h) rfl
theorem JQ {g s:Nat} (hg:380≤g) (hg2:g≤4002) (hs:1≤s) (hs2:s≤8) {w:List Nat} (hw:w.length=2 * s+4) (hn:∀ z∈w,z≠10) {tl:List Nat} (ht:tl.length=2) (htn:∀ z∈tl,z≠10) :
  (jc 44 (List.replicate (g / (2 * s+5)) w)).length≤g∧Dq (jc 44 (List.replicate (g / (2 * s+5)) w)++(List.replicate ((g - (jc 44 (List.replicate (g / (2 * s+5)) w)).length) / 2) tl).flatten):=by
 have h1:0 < g / (2 * s+5):=Nat.div_pos (by omega) (by omega)
 obtain⟨n,hn'⟩:∃ n,g / (2 * s+5)=n+1:=⟨g / (2 * s+5) - 1,by omega⟩
 have h2:(g / (2 * s+5)) * (2 * s+5)≤g:=Nat.div_mul_le_self _ _
 have h3:g < (g / (2 * s+5)+1) * (2 * s+5):=by
  have:=Nat.lt_div_mul_add (a:=g) (b:=2 * s+5) (by omega)
  rw [Nat.add_mul]
  omega
 rw [hn']at h2 h3 ⊢
 have h4:=xI (c:=44) (w:=w) n
 rw [hw]at h4
 have h5:(n+1+1) * (2 * s+5)=(n+1) * (2 * s+5)+(2 * s+5):=by rw [Nat.add_mul (n+1) 1]; omega
 generalize (n+1) * (2 * s+5)=M at h2 h3 h4 h5
 refine⟨by omega,?_,?_,?_⟩
 ·rw [List.length_append,bP,ht]
  omega
 ·rw [List.length_append,bP,ht]
  omega
 ·intro h
  rcases List.mem_append.mp h with h | h
  ·rcases xJ h with h | ⟨p,hp,h⟩
   ·cases h
   ·rw [List.eq_of_mem_replicate hp]at h
    exact hn _ h rfl
  ·exact htn _ (mq h) rfl
theorem JR {g s:Nat} (hg:380≤g) (hg2:g≤4002) (hs:1≤s) (hs2:s≤8) {w:List Nat} (hw:w.length=s) (hn:∀ z∈w,z≠10) :
  1≤g / (s+2)∧g / (s+2)≤4002∧Dq ((List.replicate (g / (s+2) - 1) (w++[40])).flatten++[98]++(List.replicate (g / (s+2) - 1) [41]).flatten):=by
 have h1:0 < g / (s+2):=Nat.div_pos (by omega) (by omega)
 obtain⟨n,hn'⟩:∃ n,g / (s+2)=n+1:=⟨g / (s+2) - 1,by omega⟩
 have h2:(g / (s+2)) * (s+2)≤g:=Nat.div_mul_le_self _ _
 have h3:g < (g / (s+2)+1) * (s+2):=by
  have:=Nat.lt_div_mul_add (a:=g) (b:=s+2) (by omega)
  rw [Nat.add_mul]
  omega
 have h6:g / (s+2)≤g:=Nat.div_le_self _ _
 rw [hn']at h2 h3 h6 ⊢
 have h5:(n+1+1) * (s+2)=n * (s+1)+n+(s+2)+(s+2):=by
  rw [Nat.add_mul (n+1) 1,Nat.add_mul n 1,Nat.mul_add n s 2,Nat.mul_add n s 1]
  omega
 have h7:(n+1) * (s+2)=n * (s+1)+n+(s+2):=by
  rw [Nat.add_mul n 1,Nat.mul_add n s 2,Nat.mul_add n s 1]
  omega
 have e1:(n+1 - 1)=n:=by omega
 rw [e1]
 refine⟨by omega,by omega,?_,?_,?_⟩
 ·rw [List.length_append,List.length_append,bP,bP,List.length_append,hw]
  show 200≤n * (s+1)+1+n * 1
  omega
 ·rw [List.length_append,List.length_append,bP,bP,List.length_append,hw]
  show n * (s+1)+1+n * 1≤6000
  omega
 ·intro h
  rcases List.mem_append.mp h with h | h
  ·rcases List.mem_append.mp h with h | h
   ·rcases List.mem_append.mp (mq h)with h | h
    ·exact hn _ h rfl
    ·revert h; decide
   ·revert h; decide
  ·have:=mq h
   revert this; decide
end PV.K72
namespace PV.K72
open PySem L2 PL PM PN _root_.K72 PV.K1 PV.M1 PV.N1
variable {L l r:List Nat}{a e:Nat}{x y:List Nat}{o o1 o2:O}{W J R E1 E2 E3 E4 PLD:D}{PLO:O}{G S S1 K K2 N M:Int}
noncomputable abbrev ΦG:cW:=fz [(22,bH),(23,dc)]
abbrev HA:List Int:=[380,395,399,400,401,402,410,1500,4000]
variable {s0 s1 s2 s3 s4 s5:Option O}
theorem g1 {p t:Int} (h1:dc [o,.lst (HA.map wD)] = .ok (.d (.int p)) [o1,.lst (HA.map wD)]) (h2:bH [o1,.d (.int 3)] = .ok (.d (.int t)) [o2,.d (.int 3)]) (tk:∀ {i ρ},aB.taken o i ρ=ρ.set i none) (tk1:∀ {i ρ},aB.taken o1 i ρ=ρ.set i none):bZ ΦG jG [some (o),s1,s2,s3,s4,s5] = .ok .nx [some (o2),some (.d (.int (p+t))),s2,s3,s4,s5]:=by
 simp [HA]at h1
 simp_arith [jG,tk]
 try simp_arith [h1,h2,tk,tk1]
theorem g2 {p t:Int} (h1:bH [o,.d (.int 8)] = .ok (.d (.int p)) [o1,.d (.int 8)]) (h2:bH [o1,.d (.int 3)] = .ok (.d (.int t)) [o2,.d (.int 3)]) (tk:∀ {i ρ},aB.taken o i ρ=ρ.set i none) (tk1:∀ {i ρ},aB.taken o1 i ρ=ρ.set i none):bZ ΦG jH [some (o),s1,s2,s3,s4,s5] = .ok .nx [some (o2),s1,some (.d (.int (1+p))),some (.d (.int t)),some (.d (.str "")),s5]:=by
 simp_arith [jH,tk]
 try simp_arith [h1,h2,tk,tk1]
theorem g3 (h0:au .eq W (.int 0)=some true) (h1:jO .add [.int S,.int 1]=some (.d (.int S1))) (h2:jO .fdiv [.int G,.int S1]=some (.d (.int K))) (h3:mW [.str "abcdefgh",.non,.int S]=some (.d E1)) (h4:sH [.lst [E1],.int K]=some PLO) (hf:PLO.frz=PLD) (h5:zL .join [.str ",",PLD]=some (.d J)) (hj:iV .join (.str ",")=some ())
  (h6:mL .len J=some (.d (.int N))) (h7:jO .sub [.int G,.int N]=some (.d (.int M))) (h8:jO .fdiv [.int M,.int 2]=some (.d (.int K2))) (h9:c0 [.str ",a",.int K2]=some (.d E2)) (h10:jO .add [J,E2]=some (.d R)) :
  bZ ΦG fA [s0,some (.d (.int G)),some (.d (.int S)),some (.d W),s4,s5] = .ok (.rt (.d R)) [s0,some (.d (.int G)),some (.d (.int S)),some (.d W),some (.d J),some (.d (.int K))]:=by
 simp_arith [fA,hf,-cM,-eU,-kN,-nU,-q7,-jB,-iV]
 try simp_arith [h0,h1,h2,h3,h4,hf,h5,hj,h6,h7,h8,h9,h10,-cM,-eU,-kN,-nU,-q7,-jB,-iV]
theorem Ln (h0:au .eq W (.int 0)=some false):bZ ΦG fA [s0,s1,s2,some (.d W),s4,s5] = .ok .nx [s0,s1,s2,some (.d W),s4,s5]:=by
 simp_arith [fA,-cM]
 try simp_arith [h0,-cM]
theorem g4 (h0:au .eq W (.int 1)=some true) (h1:jO .add [.int S,.int 2]=some (.d (.int S1))) (h2:jO .fdiv [.int G,.int S1]=some (.d (.int K))) (h3:mW [.str "abcdefgh",.non,.int S]=some (.d E1)) (h4:jO .add [E1,.str "("]=some (.d E2)) (h5:jO .sub [.int K,.int 1]=some (.d (.int K2))) (h6:c0 [E2,.int K2]=some (.d E3)) (h7:jO .add [E3,.str "b"]=some (.d E4)) (h8:c0 [.str ")",.int K2]=some (.d J)) (h9:jO .add [E4,J]=some (.d R)) :
  bZ ΦG fB [s0,some (.d (.int G)),some (.d (.int S)),some (.d W),s4,s5] = .ok (.rt (.d R)) [s0,some (.d (.int G)),some (.d (.int S)),some (.d W),s4,some (.d (.int K))]:=by
 simp_arith [fB,-cM,-eU,-kN,-nU,-jB]
 try simp_arith [h0,h1,h2,h3,h4,h5,h6,h7,h8,h9,-cM,-eU,-kN,-nU,-jB]
theorem Lo (h0:au .eq W (.int 1)=some false):bZ ΦG fB [s0,s1,s2,some (.d W),s4,s5] = .ok .nx [s0,s1,s2,some (.d W),s4,s5]:=by
 simp_arith [fB,-cM]
 try simp_arith [h0,-cM]
theorem g5 (h1:jO .mul [.int 2,.int S]=some (.d (.int M))) (h2:jO .add [.int M,.int 5]=some (.d (.int S1))) (h3:jO .fdiv [.int G,.int S1]=some (.d (.int K))):bZ ΦG jI [s0,some (.d (.int G)),some (.d (.int S)),s3,s4,s5] = .ok .nx [s0,some (.d (.int G)),some (.d (.int S)),s3,s4,some (.d (.int K))]:=by
 simp_arith [jI,-AQ,-eU,-kN]
 try simp_arith [h1,h2,h3,-AQ,-eU,-kN]
theorem g6 {A1 A2 A3 A4:D} (h1:mW [.str "abcdefgh",.non,.int S]=some (.d E1)) (h2:jO .add [E1,.str "("]=some (.d A1)) (h3:c0 [.str "c",.int S]=some (.d A2)) (h4:jO .add [A1,A2]=some (.d A3)) (h5:jO .add [A3,.str ",d)"]=some (.d A4)) (h6:sH [.lst [A4],.int K]=some PLO) (hf:PLO.frz=PLD) (h7:zL .join [.str ",",PLD]=some (.d J)) (hj:iV .join (.str ",")=some ()) :
  bZ ΦG jJ [s0,s1,some (.d (.int S)),s3,s4,some (.d (.int K))] = .ok .nx [s0,s1,some (.d (.int S)),s3,some (.d J),some (.d (.int K))]:=by
 simp_arith [jJ,hf,-eU,-q7,-jB,-iV]
 try simp_arith [h1,h2,h3,h4,h5,h6,hf,h7,hj,-eU,-q7,-jB,-iV]
theorem g7 (h6:mL .len J=some (.d (.int N))) (h7:jO .sub [.int G,.int N]=some (.d (.int M))) (h8:jO .fdiv [.int M,.int 2]=some (.d (.int K2))) (h9:c0 [.str ",b",.int K2]=some (.d E2)) (h10:jO .add [J,E2]=some (.d R)) :
  bZ ΦG jK [s0,some (.d (.int G)),s2,s3,some (.d J),s5] = .ok (.rt (.d R)) [s0,some (.d (.int G)),s2,s3,some (.d J),s5]:=by
 simp_arith [jK,-eU,-kN,-nU]
 try simp_arith [h6,h7,h8,h9,h10,-eU,-kN,-nU]
theorem FN {n:Nat} (g:Gd n o) (hn:n < 2 ^ 30):∃ (T:List Nat) (o':O),Dq T∧Gd (n+4) o'∧iu [o] = .ok (.d (tD T)) [o']:=by
 obtain⟨p,o1,e1,hp,gd1⟩:=pick (es:=HA) g (by omega) (by simp) (by simp)
 obtain⟨t,o2,e2,t0,t1,gd2⟩:=take (s:=3) gd1 (by omega) (by omega) (by omega)
 obtain⟨s,o3,e3,s0,s1,gd3⟩:=take (s:=8) gd2 (by omega) (by omega) (by omega)
 obtain⟨w,o4,e4,w0,w1,gd4⟩:=take (s:=3) gd3 (by omega) (by omega) (by omega)
 have tk:∀ {m:Nat}{o:O},Gd m o→∀ {i ρ},aB.taken o i ρ=ρ.set i none:=fun {m o} g {i ρ}=>by
  obtain⟨ls,cs,r,t,rfl⟩:=g.st
  exact wC
 have hp2:380≤p∧p≤4000:=by
  simp only [HA,List.mem_cons,List.not_mem_nil,or_false]at hp
  omega
 obtain⟨G,hG⟩:∃ G:Nat,p+t=(G:Int):=⟨(p+t).toNat,by omega⟩
 obtain⟨S,hS⟩:∃ S:Nat,1+s=(S:Int):=⟨(1+s).toNat,by omega⟩
 have c1:=g1 e1 e2 (tk g) (tk gd1) (s1:=none) (s2:=none) (s3:=none) (s4:=none) (s5:=none)
 have c2:=g2 e3 e4 (tk gd2) (tk gd3) (s1:=some (.d (.int (p+t)))) (s2:=none) (s3:=none) (s4:=none) (s5:=none)
 rw [hG]at c1 c2
 rw [hS]at c2
 have hG1:380≤G:=by omega
 have hG2:G≤4002:=by omega
 have hS1:1≤S:=by omega
 have hS2:S≤8:=by omega
 have hw:(r8.take S).length=S:=by simp; omega
 have h3:mW [.str "abcdefgh",.non,.int (S:Int)]=some (.d (tD (r8.take S))):=wX (l:=r8) (by simp) (by simp; omega)
 have hio:∀ {x1 x2 x3 x4 x5:Option O},bj [o] [some o4,x1,x2,x3,x4,x5]=some [o4]:=fun {_ _ _ _ _}=>by
  obtain⟨ls,cs,r,t,rfl⟩:=g.st
  rfl
 have hj:iV .join (.str ",")=some ():=rfl
 have hd:∀ {k:Nat},au .eq (.int w) (.int (k:Int))=some (decide (w=(k:Int))):=fun {k}=>by
  simp [lL,ij,bO]
  exact Bool.eq_iff_iff.mpr (by simp)
 have hrun:∀ {T:List Nat}{ρ':Env},(∀ {x1 x2 x3 x4 x5:Option O},True)→aG ΦG [jG,jH,fA,fB,jI,jJ,jK] [some o,none,none,none,none,none] = .ok (.rt (.d (tD T))) ρ'→bj [o] ρ'=some [o4]→iu [o] = .ok (.d (tD T)) [o4]:=fun {T ρ'} _ h hi=>by
  refine(aX (by rfl) (by
   obtain⟨ls,cs,r,t,rfl⟩:=g.st
   rfl)).trans ?_
  exact mn zk rfl h hi
 by_cases q0:w=0
 ·have h0:au .eq (.int w) (.int 0)=some true:=by
   have:=hd (k:=0)
   rw [decide_eq_true (by omega)]at this
   exact this
  obtain⟨m1,m2⟩:=JP hG1 hG2 hS1 hS2 hw (vg) (tl:=[44,97]) rfl (by decide)
  have m3:=m2.hi
  generalize hJ:jc 44 (List.replicate (G / (S+1)) (r8.take S))=JJ at m1 m2 m3
  have hkk:G / (S+1)≤10000:=Nat.le_trans (Nat.div_le_self _ _) (by omega)
  have h5:=BK (w:=r8.take S) (n:=G / (S+1)) hkk (by omega)
  rw [hJ]at h5
  have c3:=g3 (s0:=some o4) (s4:=some (.d (.str ""))) (s5:=none) (G:=(G:Int)) (S:=(S:Int)) (S1:=((S+1:Nat):Int)) (M:=((G - JJ.length:Nat):Int)) h0 rfl (r9 (by omega) (by omega)) h3 (Eb (w:=r8.take S) (by omega)) jY h5 hj (pU (l:=JJ) (by omega)) (by rw [nU]; congr 3; omega) (r9 (s:=2) (by omega) (by omega)) (nj (x:=[44,97]) (by omega) (by simp)) (jL (by
   rw [bP]
   show JJ.length+_ * 2≤1000000
   omega))
  exact⟨_,o4,m2,gd4.mono (by omega),hrun trivial (ah c1 (ah c2 (cg c3))) hio⟩
 ·have h0:au .eq (.int w) (.int 0)=some false:=by
   have:=hd (k:=0)
   rw [decide_eq_false (by omega)]at this
   exact this
  have c3:=Ln (s0:=some o4) (s1:=some (.d (.int (G:Int)))) (s2:=some (.d (.int (S:Int)))) (s4:=some (.d (.str ""))) (s5:=none) h0
  by_cases q1:w=1
  ·have h1:au .eq (.int w) (.int 1)=some true:=by
    have:=hd (k:=1)
    rw [decide_eq_true (by omega)]at this
    exact this
   obtain⟨m1,m4,m2⟩:=JR hG1 hG2 hS1 hS2 hw (vg)
   have c4:=g4 (s0:=some o4) (s4:=some (.d (.str ""))) (s5:=none) (G:=(G:Int)) (S:=(S:Int)) (S1:=((S+2:Nat):Int)) (K2:=((G / (S+2) - 1:Nat):Int)) h1 rfl (r9 (by omega) (by omega)) h3 (jL (x:=r8.take S) (y:=[40]) (by simp; omega)) (by rw [nU]; congr 3; omega) (nj (by omega) (by rw [List.length_append,hw]; simp; omega)) (jL (y:=[98]) (by
    have:=m2.hi
    rw [List.length_append,List.length_append]at this
    rw [show([98]:List Nat).length=1 from rfl]at this ⊢
    omega)) (nj (x:=[41]) (by omega) (by simp)) (jL (by
    have:=m2.hi
    rw [List.length_append]at this
    omega))
   exact⟨_,o4,m2,gd4.mono (by omega),hrun trivial (ah c1 (ah c2 (ah c3 (cg c4)))) hio⟩
  ·have h1:au .eq (.int w) (.int 1)=some false:=by
    have:=hd (k:=1)
    rw [decide_eq_false (by omega)]at this
    exact this
   have c4:=Lo (s0:=some o4) (s1:=some (.d (.int (G:Int)))) (s2:=some (.d (.int (S:Int)))) (s4:=some (.d (.str ""))) (s5:=none) h1
   let A4:List Nat:=r8.take S++[40]++(List.replicate S [99]).flatten++[44,100,41]
   have hA:A4.length=2 * S+4:=by
    show(r8.take S++[40]++(List.replicate S [99]).flatten++[44,100,41]).length=_
    rw [List.length_append,List.length_append,List.length_append,hw,bP]
    simp
    omega
   have hAn:∀ z∈A4,z≠10:=by
    intro z hz
    rcases List.mem_append.mp hz with hz | hz
    ·rcases List.mem_append.mp hz with hz | hz
     ·rcases List.mem_append.mp hz with hz | hz
      ·exact vg z hz
      ·rintro rfl; revert hz; decide
     ·have:=mq hz
      rintro rfl; revert this; decide
    ·rintro rfl; revert hz; decide
   obtain⟨m1,m2⟩:=JQ hG1 hG2 hS1 hS2 hA hAn (tl:=[44,98]) rfl (by decide)
   have m3:=m2.hi
   generalize hJ:jc 44 (List.replicate (G / (2 * S+5)) A4)=JJ at m1 m2 m3
   have hkk:G / (2 * S+5)≤10000:=Nat.le_trans (Nat.div_le_self _ _) (by omega)
   have h5:=BK (w:=A4) (n:=G / (2 * S+5)) hkk (by omega)
   rw [hJ]at h5
   have c5:=g5 (s0:=some o4) (s3:=some (.d (.int w))) (s4:=some (.d (.str ""))) (s5:=none) (G:=(G:Int)) (S:=(S:Int)) (M:=((2 * S:Nat):Int)) (S1:=((2 * S+5:Nat):Int)) (by rw [AQ,if_pos (Or.inl (by omega))]; rfl) rfl (r9 (by omega) (by omega))
   have c6:=g6 (s0:=some o4) (s1:=some (.d (.int (G:Int)))) (s3:=some (.d (.int w))) (s4:=some (.d (.str ""))) (S:=(S:Int)) h3 (jL (x:=r8.take S) (y:=[40]) (by simp; omega)) (nj (x:=[99]) (by omega) (by simp)) (jL (by rw [bP,List.length_append,hw]; simp; omega)) (jL (y:=[44,100,41]) (by rw [List.length_append,bP,List.length_append,hw]; simp; omega)) (Eb (w:=A4) (k:=G / (2 * S+5)) (by omega)) jY h5 hj
   have c7:=g7 (s0:=some o4) (s2:=some (.d (.int (S:Int)))) (s3:=some (.d (.int w))) (s5:=some (.d (.int ((G / (2 * S+5):Nat):Int)))) (G:=(G:Int)) (M:=((G - JJ.length:Nat):Int)) (pU (l:=JJ) (by omega)) (by rw [nU]; congr 3; omega) (r9 (s:=2) (by omega) (by omega)) (nj (x:=[44,98]) (by omega) (by simp)) (jL (by
    rw [bP]
    show JJ.length+_ * 2≤1000000
    omega))
   exact⟨_,o4,m2,gd4.mono (by omega),hrun trivial (ah c1 (ah c2 (ah c3 (ah c4 (ah c5 (ah c6 (cg c7))))))) hio⟩
end PV.K72
namespace PV.Q1
open PySem L2 PL PM PN K1 M1 N1
theorem yQ {α:Type}{g:α→D}{xs:List α}{lo hi:Option Int}:∃ ys:List α,cutD (xs.map g) lo hi=ys.map g∧(∀ y∈ys,y∈xs)∧ys.length≤xs.length:=by
 refine⟨(xs.drop (HT.sIx xs.length 0 lo)).take (HT.sIx xs.length xs.length hi - HT.sIx xs.length 0 lo),?_,fun y hy=>List.mem_of_mem_drop (List.mem_of_mem_take hy),?_⟩
 ·unfold cutD
  rw [List.length_map,List.map_take,List.map_drop]
 ·rw [List.length_take,List.length_drop]
  omega
abbrev qo (ns:List Int):Option O:=some (.d (.lst (ns.map .int)))
theorem FO (ns:List Int):∃ ls,gL [.lst (ns.map wD)] = .ok (sC ls ns 0 0) [.lst (ns.map wD)]:=by
 refine⟨(ns.filter fun x=>decide (10 ^ 18≤x)).map fun x=>x - 10 ^ 18,?_⟩
 refine(aX (by rfl) (by rfl)).trans ?_
 rw [xu]
 have e:∀ o2,aK (fun x ρ=>bnd (aE (.nm 2) x ρ) fun ρ=>(cZ (fz []) ll ρ).bind fun b ρ=>kg b ((ev (fz []) lj ρ).bind fun o ρ=>.ok (some o) (ai [2] ρ)) (.ok none (ai [2] ρ))) (ns.map .int) [none,o2,none] = .ok (((ns.filter fun x=>decide (10 ^ 18≤x)).map fun x=>.d (.int (x - 10 ^ 18)))) [none,o2,none]:=by
  intro o2
  rw [pS (p:=fun x=>decide (10 ^ 18≤x)) (g:=fun x=>.d (.int (x - 10 ^ 18)))]
  intro x
  simp! [lj,ll]
  by_cases h:(10 ^ 18:Int)≤x
  ·have h':(1000000000000000000:Int)≤x:=h
   simp [h',ai]
  ·have h':¬ (1000000000000000000:Int)≤x:=h
   simp [h',ai]
 simp! [dU]at e
 simp! [Function.comp_def]
 simp! [e]
 simp! (decide:=true) [sC,C5,Function.comp_def,dicO]
theorem Ds {Φ:cW}{ns:List Int} (hΦ:(Φ 20).run=gL) (hn:ns.length≤63) {k:Int}{s2:Option O}{ρ:Env}:∃ o,Gd 0 o∧bZ Φ (.asg (.nm 2) (.call 20 [.bi .add (.slc (.var 0) (.var 1) (.lit .non)) (.slc (.var 0) (.lit .non) (.var 1))])) (qo ns::some (.d (.int k))::s2::ρ) = .ok .nx (qo ns::some (.d (.int k))::some o::ρ):=by
 obtain⟨m1,c1,_,l1⟩:=yQ (g:=D.int) (xs:=ns) (lo:=some k) (hi:=none)
 obtain⟨m2,c2,_,l2⟩:=yQ (g:=D.int) (xs:=ns) (lo:=none) (hi:=some k)
 obtain⟨ls,e⟩:=FO (m1++m2)
 refine⟨_,⟨ls,m1++m2,0,0,rfl,by omega,by omega⟩,?_⟩
 have hl:m1.length+m2.length≤16777216:=by omega
 rw [List.map_append]at e
 simp! [dU]
 simp! [c1,c2,hl,Function.comp_def,hΦ,e]
theorem uj {Φ:cW}{b:List SS}{s:Option O}{m:Nat} (h:∀ (k:Int) (ρ:Env),ρ.length=m→∃ ρ',ρ'.length=m∧(bnd (aE (.nm 1) (.int k) (s::ρ)) fun ρ=>aG Φ b ρ) = .ok .nx (s::ρ')):∀ (n:Nat) (lo:Int) (ρ:Env),ρ.length=m→∃ ρ',ρ'.length=m∧forL (fun x ρ=>bnd (aE (.nm 1) x ρ) fun ρ=>aG Φ b ρ) (fK lo n) (s::ρ) = .ok .nx (s::ρ')
 | 0,lo,ρ,hm=>⟨ρ,hm,rfl⟩
 | n+1,lo,ρ,hm=>by
  obtain⟨ρ1,h1,e1⟩:=h lo ρ hm
  obtain⟨ρ2,h2,e2⟩:=uj h n (lo+1) ρ1 h1
  exact⟨ρ2,h2,by rw [wG,forL,e1]; exact e2⟩
theorem Dt {Φ:cW}{b:List SS}{ns:List Int}{m:Nat}{top:Int} (ht:1≤top∧top≤100) (h:∀ (k:Int) (ρ:Env),ρ.length=m→∃ ρ',ρ'.length=m∧(bnd (aE (.nm 1) (.int k) (qo ns::ρ)) fun ρ=>aG Φ b ρ) = .ok .nx (qo ns::ρ')) (ρ:Env) (hm:ρ.length=m) :
  ∃ ρ',bZ Φ (.for (.nm 1) (.range [.fn .max2 [.lit (.int 1),.fn .min2 [.lit (.int top),.fn .len [.var 0]]]]) b) (qo ns::ρ) = .ok .nx (qo ns::ρ'):=by
 obtain⟨m,hm1⟩:∃ m:Int,Ei .min2 (.int top) (.int (ns.length:Int))=some (.d (.int m))∧m≤top:=by
  rw [DW]
  by_cases h:(ns.length:Int) < top
  ·exact⟨_,rfl,by rw [if_pos h]; omega⟩
  ·exact⟨_,rfl,by rw [if_neg h]; omega⟩
 obtain⟨j,hj⟩:∃ j:Int,Ei .max2 (.int 1) (.int m)=some (.d (.int j))∧1≤j∧j≤100:=by
  rw [DX]
  by_cases h:m > 1
  ·exact⟨_,rfl,by rw [if_pos h]; omega⟩
  ·exact⟨_,rfl,by rw [if_neg h]; omega⟩
 obtain⟨ρ',_,e⟩:=uj h j.toNat 0 ρ hm
 refine⟨ρ',?_⟩
 have hr:-4611686018427387904≤j∧j≤16777216:=by omega
 simp! [dU]at e
 simp! [hm1.1,hj.1,-DW,-DX]
 simp! [hr,e]
theorem FP {Φ:cW}{b:List SS}{bl:List SS}{m:Nat}{top:Int}{ns:List Int} (hb:bl = [.for (.nm 1) (.range [.fn .max2 [.lit (.int 1),.fn .min2 [.lit (.int top),.fn .len [.var 0]]]]) b,.ret (.lit (.bl true))]) (ht:1≤top∧top≤100)
  (h:∀ (k:Int) (ρ:Env),ρ.length=m→∃ ρ',ρ'.length=m∧(bnd (aE (.nm 1) (.int k) (qo ns::ρ)) fun ρ=>aG Φ b ρ) = .ok .nx (qo ns::ρ')):∃ o,gJ Φ bl 1 (m+1) [0] [.d (.lst (ns.map .int))] = .ok (.d (.bl true)) [o]:=by
 obtain⟨ρ',e⟩:=Dt ht h (List.replicate m none) (List.length_replicate ..)
 refine⟨.d (.lst (ns.map .int)),(aX (by rfl) (by rfl)).trans (mn hb ?_ (ah e (cg (ρ':=qo ns::ρ') (o:=.d (.bl true)) (by simp [bZ,ev]))) rfl)⟩
 show qo ns::List.replicate (m+1 - 1) none=_
 rw [Nat.add_sub_cancel]
end PV.Q1
namespace PV.K72
open PySem L2 PL PM PN _root_.K72 PV.K1 PV.M1 PV.N1 PV.Q1
variable {L l r:List Nat}{a e:Nat}{x y:List Nat}{o o1 o2:O}{TD UD W J R X E1 E2 E3 E4 E5:D}{I A N M:Int}
noncomputable abbrev sF:cW:=fz [(20,gL),(22,bH),(23,dc),(434,iu),(480,bg),(481,eB)]
abbrev Ec:List Str:=["(", ")", ",", "", "A", " "]
variable {s0 s1 s2 s3 s4 s5 s6 s7:Option O}
theorem Lp (h:iu [o] = .ok (.d TD) [o1]) (tk:∀ {i ρ},aB.taken o i ρ=ρ.set i none):bZ sF eI [s0,s1,some (o),s3,s4,s5,s6,s7] = .ok .nx [s0,s1,some (o1),some (.d TD),s4,s5,s6,s7]:=by
 simp_arith [eI,tk]
 try simp_arith [h,tk]
theorem JS (h:bH [o,.d (.int 3)] = .ok (.d (.int I)) [o1,.d (.int 3)]) (tk:∀ {i ρ},aB.taken o i ρ=ρ.set i none) (h0:au .eq (.int I) (.int 0)=some false):bZ sF cI [s0,s1,some (o),s3,s4,s5,s6,s7] = .ok .nx [s0,s1,some (o1),s3,s4,s5,s6,s7]:=by
 simp_arith [cI,tk,-cM]
 try simp_arith [h,h0,tk,-cM]
theorem JT {o3:O} (h:bH [o,.d (.int 3)] = .ok (.d (.int I)) [o1,.d (.int 3)]) (tk:∀ {i ρ},aB.taken o i ρ=ρ.set i none) (h0:au .eq (.int I) (.int 0)=some true) (tk1:∀ {i ρ},aB.taken o1 i ρ=ρ.set i none) (tk2:∀ {i ρ},aB.taken o2 i ρ=ρ.set i none)
  (h1:mL .len TD=some (.d (.int N))) (h2:bH [o1,.d (.int N)] = .ok (.d (.int A)) [o2,.d (.int N)]) (h3:mW [TD,.non,.int A]=some (.d E1)) (h4:dc [o2,.lst (Ec.map cP)] = .ok (.d E2) [o3,.lst (Ec.map cP)]) (h5:jO .add [E1,E2]=some (.d E3)) (h6:jO .add [.int A,.int 1]=some (.d (.int M))) (h7:mW [TD,.int M,.non]=some (.d E4)) (h8:jO .add [E3,E4]=some (.d E5)) :
  bZ sF cI [s0,s1,some (o),some (.d TD),s4,s5,s6,s7] = .ok .nx [s0,s1,some (o3),some (.d E5),some (.d (.int A)),s5,s6,s7]:=by
 simp [Ec]at h4
 simp_arith [cI,tk,-cM,-eU,-jB]
 try simp_arith [h,h0,tk,tk1,tk2,h1,h2,h3,h4,h5,h6,h7,h8,-cM,-eU,-jB]
theorem Lq (h1:bg [.d TD] = .ok (.d R) [.d TD]) (h2:eB [.d TD,.d (.int 0)] = .ok (.d X) [.d TD,.d (.int 0)]):bZ sF mh [s0,s1,s2,some (.d TD),s4,s5,s6,s7] = .ok .nx [s0,s1,s2,some (.d TD),s4,some (.d R),some (.d X),s7]:=by
 simp_arith [mh]
 try simp_arith [h1,h2]
theorem JU (h1:au .is R .non=some true) (h2:ji [0,1,4,14,5] [.cls 14] [X]=some (.d (.bl true))) (h3:zz 14 "line" [X]=some (.d (.int I))) (h4:au .ne (.int I) (.int 0)=some false):bZ sF iw [s0,s1,s2,s3,s4,some (.d R),some (.d X),s7] = .ok .nx [s0,s1,s2,s3,s4,some (.d R),some (.d X),s7]:=by
 simp_arith [iw,-lH]
 try simp_arith [h1,h2,h3,h4,-lH]
theorem JV (h1:au .is R .non=some false):bZ sF iw [s0,s1,s2,s3,s4,some (.d R),s6,s7] = .ok .nx [s0,s1,s2,s3,s4,some (.d R),s6,s7]:=by
 simp_arith [iw]
 try simp_arith [h1]
theorem HB (h1:au .isnot R .non=some false):bZ sF iy [s0,s1,s2,s3,s4,some (.d R),s6,s7] = .ok .nx [s0,s1,s2,s3,s4,some (.d R),s6,s7]:=by
 simp_arith [iy]
 try simp_arith [h1]
theorem HC (h1:au .isnot R .non=some true) (h2:ji [0,1,4,14,5] [.cls 1] [X]=some (.d (.bl true))):bZ sF iy [s0,s1,s2,s3,s4,some (.d R),some (.d X),s7] = .ok .nx [s0,s1,s2,s3,s4,some (.d R),some (.d X),s7]:=by
 simp_arith [iy]
 try simp_arith [h1,h2]
theorem Lr (h:bH [o,.d (.int 5)] = .ok (.d (.int I)) [o1,.d (.int 5)]) (tk:∀ {i ρ},aB.taken o i ρ=ρ.set i none):bZ sF mi [s0,s1,some (o),s3,s4,s5,s6,s7] = .ok .nx [s0,s1,some (o1),s3,s4,s5,s6,some (.d (.int I))]:=by
 simp_arith [mi,tk]
 try simp_arith [h,tk]
theorem Ls {K:Int} (h1:c0 [.str "a(b)\n",.int I]=some (.d E1)) (h2:jO .add [E1,TD]=some (.d E2)) (h3:jO .add [E2,.str "\n"]=some (.d E3)) (h4:bH [o,.d (.int 3)] = .ok (.d (.int K)) [o1,.d (.int 3)]) (tk:∀ {i ρ},aB.taken o i ρ=ρ.set i none) (h5:c0 [.str "-\n",.int K]=some (.d E4)) (h6:jO .add [E3,E4]=some (.d E5)) (h7:eB [.d E5,.d (.int 1)] = .ok (.d X) [.d E5,.d (.int 1)]) :
  bZ sF mj [s0,s1,some (o),some (.d TD),s4,s5,s6,some (.d (.int I))] = .ok .nx [s0,s1,some (o1),some (.d TD),s4,s5,some (.d X),some (.d (.int I))]:=by
 simp_arith [mj,tk,-eU]
 try simp_arith [h1,h2,h3,h4,h5,h6,h7,tk,-eU]
theorem JW (h1:au .is R .non=some true) (h2:ji [0,1,4,14,5] [.cls 14] [X]=some (.d (.bl true))) (h3:zz 14 "line" [X]=some (.d (.int I))) (h4:au .ne (.int I) (.int I)=some false):bZ sF iz [s0,s1,s2,s3,s4,some (.d R),some (.d X),some (.d (.int I))] = .ok .nx [s0,s1,s2,s3,s4,some (.d R),some (.d X),some (.d (.int I))]:=by
 simp_arith [iz,-lH]
 try simp_arith [h1,h2,h3,h4,-lH]
theorem JX (h1:au .is R .non=some false):bZ sF iz [s0,s1,s2,s3,s4,some (.d R),s6,s7] = .ok .nx [s0,s1,s2,s3,s4,some (.d R),s6,s7]:=by
 simp_arith [iz]
 try simp_arith [h1]
theorem HD {e:Str} (h:e∈Ec):∃ z:List Nat,D.str e=tD z∧z.length≤1∧10∉z:=by
 simp only [Ec,List.mem_cons,List.not_mem_nil,or_false]at h
 rcases h with rfl | rfl | rfl | rfl | rfl | rfl
 ·exact⟨[40],rfl,by simp,by decide⟩
 ·exact⟨[41],rfl,by simp,by decide⟩
 ·exact⟨[44],rfl,by simp,by decide⟩
 ·exact⟨[],rfl,by simp,by decide⟩
 ·exact⟨[65],rfl,by simp,by decide⟩
 ·exact⟨[32],rfl,by simp,by decide⟩
theorem FQ {m:Nat}{o:O} (g:Gd m o) {i:Nat}{ρ:Env}:aB.taken o i ρ=ρ.set i none:=by
 obtain⟨ls,cs,r,t,rfl⟩:=g.st
 exact wC
theorem HE {i j:Int}:au .eq (.int i) (.int j)=some (decide (i=j)):=by
 simp [lL,ij,bO]
 exact Bool.eq_iff_iff.mpr (by simp)
theorem HF {i:Int}:au .ne (.int i) (.int i)=some false:=by
 simp [lL,ij,bO]
theorem text_of {n:Nat} (g:Gd n o) (hn:n < 2 ^ 29):∃ (T:List Nat) (o':O) (t4:Option O),Hz T∧Gd (n+7) o'∧aG sF [eI,cI] [s0,s1,some (o),s3,s4,s5,s6,s7] = .ok .nx [s0,s1,some (o'),some (.d (tD T)),t4,s5,s6,s7]:=by
 obtain⟨T,o1,hT,gd1,e1⟩:=FN g (by omega)
 obtain⟨v,o2,e2,v0,v1,gd2⟩:=take (s:=3) gd1 (by omega) (by omega) (by omega)
 have c1:=Lp (s0:=s0) (s1:=s1) (s3:=s3) (s4:=s4) (s5:=s5) (s6:=s6) (s7:=s7) e1 (FQ g)
 have hlo:=hT.lo
 have hhi:=hT.hi
 by_cases q:v=0
 ·obtain⟨A,o3,e3,a0,a1,gd3⟩:=take (s:=(T.length:Int)) gd2 (by omega) (by omega) (by omega)
  obtain⟨e,o4,e4,he,gd4⟩:=Hi (es:=Ec) gd3 (by omega) (by simp) (by simp)
  obtain⟨z,z1,z2,z3⟩:=HD he
  obtain⟨B,rfl⟩:∃ B:Nat,A=(B:Int):=⟨A.toNat,by omega⟩
  have e4:dc [o3,.lst (Ec.map cP)] = .ok (.d (tD z)) [o4,.lst (Ec.map cP)]:=by
   rw [← z1]
   exact e4
  have c2:=JT (s0:=s0) (s1:=s1) (s4:=s4) (s5:=s5) (s6:=s6) (s7:=s7) (M:=((B+1:Nat):Int)) e2 (FQ gd1) (by rw [HE,decide_eq_true q]) (FQ gd2) (FQ gd3) (pU (l:=T) (by omega)) e3 (wX (by omega) (by omega)) e4 (jL (by rw [List.length_take]; omega)) rfl (BL (by omega) (by omega)) (jL (by rw [List.length_append,List.length_take,List.length_drop]; omega))
  refine⟨_,o4,_,⟨?_,?_,?_⟩,gd4.mono (by omega),ah c1 (ah c2 (iA))⟩
  ·rw [List.length_append,List.length_append,List.length_take,List.length_drop]
   omega
  ·rw [List.length_append,List.length_append,List.length_take,List.length_drop]
   omega
  ·intro h
   rcases List.mem_append.mp h with h | h
   ·rcases List.mem_append.mp h with h | h
    ·exact hT.nl (List.mem_of_mem_take h)
    ·exact z3 h
   ·exact hT.nl (List.mem_of_mem_drop h)
 ·have c2:=JS (s0:=s0) (s1:=s1) (s3:=some (.d (tD T))) (s4:=s4) (s5:=s5) (s6:=s6) (s7:=s7) e2 (FQ gd1) (by rw [HE,decide_eq_false q])
  exact⟨T,o2,s4,⟨by omega,by omega,hT.nl⟩,gd2.mono (by omega),ah c1 (ah c2 (iA))⟩
theorem HG {i:Int}:zz 14 "line" [.exc 14 [.int i]]=some (.d (.int i)):=by
 simp [zz,fj]
theorem BM {ns:List Int} (hn:ns.length≤63) {k:Int}:∃ ρ':Env,ρ'.length=7∧(bnd (aE (.nm 1) (.int k) [qo ns,s1,s2,s3,s4,s5,s6,s7]) fun ρ=>aG sF rM ρ) = .ok .nx (qo ns::ρ'):=by
 obtain⟨o,g,e1⟩:=Ds (Φ:=sF) (ns:=ns) rfl hn (k:=k) (s2:=s2) (ρ:=[s3,s4,s5,s6,s7])
 obtain⟨T,o1,t4,hT,g1,e2⟩:=text_of g (by omega) (s0:=qo ns) (s1:=some (.d (.int k))) (s3:=s3) (s4:=s4) (s5:=s5) (s6:=s6) (s7:=s7)
 obtain⟨I,o2,e7,i0,i1,g2⟩:=take (s:=5) g1 (by omega) (by omega) (by omega)
 obtain⟨J,o3,e8,j0,j1,g3⟩:=take (s:=3) g2 (by omega) (by omega) (by omega)
 obtain⟨m,rfl⟩:∃ m:Nat,I=(m:Int):=⟨I.toNat,by omega⟩
 obtain⟨kk,rfl⟩:∃ kk:Nat,J=(kk:Int):=⟨J.toNat,by omega⟩
 obtain⟨R,C,q,b1,b2,b3,b4⟩:=both hT
 have b3:=b3 m kk (by omega) (by omega)
 have hlo:=hT.lo
 have hhi:=hT.hi
 have c4:=Lq (s0:=qo ns) (s1:=some (.d (.int k))) (s2:=some o1) (s4:=t4) (s5:=s5) (s6:=s6) (s7:=s7) b1 b2
 have c7:=Lr (s0:=qo ns) (s1:=some (.d (.int k))) (s3:=some (.d (tD T))) (s4:=t4) (s5:=some (.d R)) (s6:=some (.d (.exc C (q 0)))) (s7:=s7) e7 (FQ g1)
 have c8:=Ls (s0:=qo ns) (s1:=some (.d (.int k))) (s4:=t4) (s5:=some (.d R)) (s6:=some (.d (.exc C (q 0)))) (nj (x:=[97,40,98,41,10]) (k:=m) (by omega) (by simp)) (jL (y:=T) (by rw [bP]; simp; omega)) (jL (y:=[10]) (by rw [List.length_append,bP]; simp; omega)) e8 (FQ g2) (nj (x:=[45,10]) (k:=kk) (by omega) (by simp)) (jL (by rw [List.length_append,List.length_append,bP,bP]; simp; omega)) b3
 have hk:∀ {ρ1 ρ2:Env}{ss:List SS}{r:Res Fl},aG sF [eI,cI] ρ1 = .ok .nx ρ2→aG sF ss ρ2=r→aG sF (eI::cI::ss) ρ1=r:=fun {ρ1 ρ2 ss r} h1 h2=>by
  rw [aG]at h1 ⊢
  cases hA:bZ sF eI ρ1 with
  | bad=>rw [hA]at h1; cases h1
  | exc C p ρ=>rw [hA]at h1; cases h1
  | ok f ρ =>
   rw [hA]at h1
   rw [Res.bind_ok]at h1 ⊢
   cases f with
   | nx =>
    rw [Fl.seq_nx]at h1 ⊢
    rw [aG]at h1 ⊢
    cases hB:bZ sF cI ρ with
    | bad=>rw [hB]at h1; cases h1
    | exc C p ρ=>rw [hB]at h1; cases h1
    | ok f ρ =>
     rw [hB]at h1
     rw [Res.bind_ok]at h1 ⊢
     cases f with
     | nx =>
      rw [Fl.seq_nx]at h1 ⊢
      rw [iA]at h1
      cases h1
      exact h2
     | rt o=>cases h1
     | bk=>cases h1
     | ct=>cases h1
   | rt o=>cases h1
   | bk=>cases h1
   | ct=>cases h1
 rcases b4 with⟨p1,p2,rfl,rfl⟩ | ⟨p1,p2,rfl,rfl⟩
 ·have c5:=JU (s0:=qo ns) (s1:=some (.d (.int k))) (s2:=some o1) (s3:=some (.d (tD T))) (s4:=t4) (s7:=s7) p1 (X:=.exc 14 [.int 0]) (I:=0) rfl HG HF
  have c6:=HB (s0:=qo ns) (s1:=some (.d (.int k))) (s2:=some o1) (s3:=some (.d (tD T))) (s4:=t4) (s6:=some (.d (.exc 14 [.int 0]))) (s7:=s7) p2
  have c9:=JW (s0:=qo ns) (s1:=some (.d (.int k))) (s2:=some o3) (s3:=some (.d (tD T))) (s4:=t4) p1 (X:=.exc 14 [.int (m:Int)]) (I:=(m:Int)) rfl HG HF
  have c10:=HB (s0:=qo ns) (s1:=some (.d (.int k))) (s2:=some o3) (s3:=some (.d (tD T))) (s4:=t4) (s6:=some (.d (.exc 14 [.int (m:Int)]))) (s7:=some (.d (.int (m:Int)))) p2
  have E:=ah e1 (hk e2 (ah c4 (ah c5 (ah c6 (ah c7 (ah c8 (ah c9 (ah c10 (iA (Φ:=sF))))))))))
  refine⟨_,?_,by
   rw [gK,cV,ue]
   exact E⟩
  rfl
 ·have c5:=JV (s0:=qo ns) (s1:=some (.d (.int k))) (s2:=some o1) (s3:=some (.d (tD T))) (s4:=t4) (s6:=some (.d (.exc 1 []))) (s7:=s7) p1
  have c6:=HC (s0:=qo ns) (s1:=some (.d (.int k))) (s2:=some o1) (s3:=some (.d (tD T))) (s4:=t4) (s7:=s7) p2 (X:=.exc 1 []) rfl
  have c9:=JX (s0:=qo ns) (s1:=some (.d (.int k))) (s2:=some o3) (s3:=some (.d (tD T))) (s4:=t4) (s6:=some (.d (.exc 1 []))) (s7:=some (.d (.int (m:Int)))) p1
  have c10:=HC (s0:=qo ns) (s1:=some (.d (.int k))) (s2:=some o3) (s3:=some (.d (tD T))) (s4:=t4) (s7:=some (.d (.int (m:Int)))) p2 (X:=.exc 1 []) rfl
  have E:=ah e1 (hk e2 (ah c4 (ah c5 (ah c6 (ah c7 (ah c8 (ah c9 (ah c10 (iA (Φ:=sF))))))))))
  refine⟨_,?_,by
   rw [gK,cV,ue]
   exact E⟩
  rfl
end PV.K72
namespace K72
open PySem L2 PV PV.K72 PV.M1 PV.N1 PV.Q1
theorem BN (ns:List Int) (h:ns.length≤63):∃ o,yx [.d (.lst (ns.map .int))] = .ok (.d (.bl true)) [o] :=
 FP (m:=7) (top:=6) Fu (by decide) fun k ρ hm=>by
  match ρ,hm with
  | [s1,s2,s3,s4,s5,s6,s7],_=>exact BM h
end K72
namespace K72
open PySem PySem.Spec PyProof.Rows L2 PV PL PM PN K61 K09
open He (ga ma)
theorem facts {P:Program}{w:World}{K:PySem.W.Frag}{h:Heap}{mg:Str→Option Value}{f:Addr} (X:K.In h) (G:h.Ns mainGlobals mg) (hfa:mg ("law" : Str)=some (.ref f)) (c:sX fs fn K):∃ fd:FuncData,(∀ (s:Shared) (v:Value),BindsTo s fd ⟨[v],[]⟩ [("_law_script",v)])∧∀ base:Heap,K.In base→base.Ns mainGlobals mg→FnOk P w K mg base (L2.CX P w) 45 f fd ["_law_script"] (bD (iE nm K) yx):=by
 obtain⟨sf,mK⟩:=c.def_ 0 (d:=sY) rfl
 obtain⟨pW,nk⟩:=c.def_ 1 (d:=qp) rfl
 obtain⟨sg,pq⟩:=c.def_ 2 (d:=sZ) rfl
 obtain⟨mr,ik⟩:=c.def_ 3 (d:=mM) rfl
 obtain⟨mU,oA⟩:=c.def_ 4 (d:=nv) rfl
 obtain⟨jM,hY⟩:=c.def_ 5 (d:=kd) rfl
 obtain⟨jN,kE⟩:=c.def_ 6 (d:=ke) rfl
 obtain⟨si,pA⟩:=c.def_ 7 (d:=tc) rfl
 obtain⟨pX,nq⟩:=c.def_ 8 (d:=qr) rfl
 obtain⟨kF,fe⟩:=c.def_ 9 (d:=lB) rfl
 obtain⟨oB,mw⟩:=c.def_ 10 (d:=pD) rfl
 obtain⟨pY,nr⟩:=c.def_ 11 (d:=qt) rfl
 obtain⟨lG,jg⟩:=c.def_ 12 (d:=lN) rfl
 obtain⟨sj,pB⟩:=c.def_ 13 (d:=tf) rfl
 obtain⟨su,pC⟩:=c.def_ 14 (d:=tj) rfl
 obtain⟨uk,mx⟩:=c.def_ 15 (d:=vn) rfl
 obtain⟨um,oC⟩:=c.def_ 16 (d:=vo) rfl
 obtain⟨uo,sv⟩:=c.def_ 17 (d:=vp) rfl
 obtain⟨oD,my⟩:=c.def_ 18 (d:=pE) rfl
 obtain⟨jh,gr⟩:=c.def_ 19 (d:=jm) rfl
 obtain⟨uq,sy⟩:=c.def_ 20 (d:=vq) rfl
 obtain⟨xK,BO⟩:=c.def_ 21 (d:=DA) rfl
 have kr:Binds K sf ["value"] []:=FunD.bindsN mK fun _ _ _ _ _ _ us hl=>match us,hl with | [_],_=>rfl
 have i9:Binds K pW ["value"] []:=FunD.bindsN nk fun _ _ _ _ _ _ us hl=>match us,hl with | [_],_=>rfl
 have ku:Binds K sg ["shape"] []:=FunD.bindsN pq fun _ _ _ _ _ _ us hl=>match us,hl with | [_],_=>rfl
 have fb:Binds K mr ["self", "shape"] []:=AO ik (by intro z; cases z) fun _ _ _ _ _ _ _ us its l1 l2=>match us,its,l1,l2 with | [_,_],[_],_,_=>⟨_,rfl,rfl⟩
 have kS:Binds K mU ["self"] []:=FunD.bindsN oA fun _ _ _ _ _ _ us hl=>match us,hl with | [_],_=>rfl
 have gN:Binds K jM ["self", "trees"] []:=AO hY (by intro z; cases z) fun _ _ _ _ _ _ _ us its l1 l2=>match us,its,l1,l2 with | [_,_],[_],_,_=>⟨_,rfl,rfl⟩
 have b_BadText__init_:Binds K jN ["self", "line"] []:=FunD.bindsN kE fun _ _ _ _ _ _ us hl=>match us,hl with | [_,_],_=>rfl
 have mH:Binds K si ["text", "at"] []:=FunD.bindsN pA fun _ _ _ _ _ _ us hl=>match us,hl with | [_,_],_=>rfl
 have kT:Binds K pX ["text"] []:=FunD.bindsN nq fun _ _ _ _ _ _ us hl=>match us,hl with | [_],_=>rfl
 have dE:Binds K kF ["text"] []:=FunD.bindsN fe fun _ _ _ _ _ _ us hl=>match us,hl with | [_],_=>rfl
 have jD:Binds K oB ["text"] []:=FunD.bindsN mw fun _ _ _ _ _ _ us hl=>match us,hl with | [_],_=>rfl
 have kU:Binds K pY ["text"] []:=FunD.bindsN nr fun _ _ _ _ _ _ us hl=>match us,hl with | [_],_=>rfl
 have fZ:Binds K lG ["text"] []:=FunD.bindsN jg fun _ _ _ _ _ _ us hl=>match us,hl with | [_],_=>rfl
 have mF:Binds K sj ["_law_script"] []:=FunD.bindsN pB fun _ _ _ _ _ _ us hl=>match us,hl with | [_],_=>rfl
 have mG:Binds K su ["_law_state"] []:=FunD.bindsN pC fun _ _ _ _ _ _ us hl=>match us,hl with | [_],_=>rfl
 have i8:Binds K uk ["_law_state", "_law_size"] []:=FunD.bindsN mx fun _ _ _ _ _ _ us hl=>match us,hl with | [_,_],_=>rfl
 have l6:Binds K um ["_law_state", "_law_some"] []:=FunD.bindsN oC fun _ _ _ _ _ _ us hl=>match us,hl with | [_,_],_=>rfl
 have nV:Binds K uo ["_law_state"] []:=FunD.bindsN sv fun _ _ _ _ _ _ us hl=>match us,hl with | [_],_=>rfl
 have jC:Binds K oD ["_law_value"] []:=FunD.bindsN my fun _ _ _ _ _ _ us hl=>match us,hl with | [_],_=>rfl
 have dR:Binds K jh ["_law_text_here"] []:=FunD.bindsN gr fun _ _ _ _ _ _ us hl=>match us,hl with | [_],_=>rfl
 have nW:Binds K uq ["_law_text_here", "_law_way"] []:=FunD.bindsN sy fun _ _ _ _ _ _ us hl=>match us,hl with | [_,_],_=>rfl
 have Ba:Binds K xK ["_law_script"] []:=FunD.bindsN BO fun _ _ _ _ _ _ us hl=>match us,hl with | [_],_=>rfl
 have e:=hfa.symm.trans (He.glo_ok X G (c.fact 66))
 cases e
 have b:=FunD.bindsA (ps:=["_law_script"]) BO fun _ _ _ _ _ _ us hl=>match us,hl with | [_],_=>rfl
 refine⟨xK,fun s v=>b s [v] rfl,fun base _ _=>?_⟩
 have v_is_name:FnOk P w K mg base (L2.CX P w) 1 _ sf ["value"] (bD (iE nm K) aS):=zc mK (kM (nm:=nm) (c.fact 0)) (He.free_ok X G (c.fact 1)) (He.free_ok X G (c.fact 2)) (He.free_ok X G (c.fact 3)) (He.int_ok X G (c.fact 4)) (He.str_ok X G (c.fact 5)) (He.free_ok X G (c.fact 6))
 have v_is_shape:FnOk P w K mg base (L2.CX P w) 2 _ pW ["value"] (bD (iE nm K) fq):=xo nk (kM (nm:=nm) (c.fact 0)) (He.free_ok X G (c.fact 7)) (He.free_ok X G (c.fact 2)) (He.free_ok X G (c.fact 3)) ⟨_,_,v_is_name,(He.glo_ok X G (c.fact 8)),mK.kp,kr⟩ (He.int_ok X G (c.fact 9)) (He.free_ok X G (c.fact 10))
 have v_walk_of:FnOk P w K mg base (L2.CX P w) 40 _ sg ["shape"] (bD (iE nm K) iQ):=zd pq (He.glo_ok X G (c.fact 11)) ku 
 have v_Tree__init_:FnOk P w K mg base (L2.CX P w) 41 _ mr ["self", "shape"] (bD (iE nm K) aH):=sJ ik ⟨_,_,v_is_shape,(He.glo_ok X G (c.fact 12)),nk.kp,i9⟩ (yr X G (c.fact 13)) ⟨He.cls_ok (c.fact 14),He.noat_ok (c.fact 15)⟩ ⟨He.cls_ok (c.fact 14),He.noat_ok (c.fact 16)⟩ ⟨_,_,v_walk_of,(He.glo_ok X G (c.fact 11)),pq.kp,ku⟩ (He.free_ok X G (c.fact 7)) ⟨He.cls_ok (c.fact 14),He.noat_ok (c.fact 17)⟩ ⟨He.cls_ok (c.fact 14),He.noat_ok (c.fact 18)⟩
 have v_Tree_names:FnOk P w K mg base (L2.CX P w) 1 _ mU ["self"] (bD (iE nm K) iL):=u3 oA ⟨He.cls_ok (c.fact 14),He.noat_ok (c.fact 17)⟩
 have v_History__init_:FnOk P w K mg base (L2.CX P w) 3 _ jM ["self", "trees"] (bD (iE nm K) cq):=o5 hY (kM (nm:=nm) (c.fact 0)) (He.free_ok X G (c.fact 19)) (He.free_ok X G (c.fact 7)) (He.free_ok X G (c.fact 2)) (He.free_ok X G (c.fact 3)) (He.int_ok X G (c.fact 20)) (yr X G (c.fact 21)) (He.glo_ok X G (c.fact 22)) (He.free_ok X G (c.fact 6)) ⟨He.cls_ok (c.fact 14),_,_,_,v_Tree_names,AL (c.fact 23),kS⟩ (He.free_ok X G (c.fact 24)) (He.free_ok X G (c.fact 10)) (He.int_ok X G (c.fact 25)) ⟨He.cls_ok (c.fact 26),He.noat_ok (c.fact 27)⟩ ⟨He.cls_ok (c.fact 26),He.noat_ok (c.fact 28)⟩ ⟨He.cls_ok (c.fact 26),He.noat_ok (c.fact 29)⟩
 have v_BadText__init_:FnOk P w K mg base (L2.CX P w) 1 _ jN ["self", "line"] (yq ((iE nm K).cls 14) "line"):=o6 kE (CQ X G (c.fact 30)) (CP (c.fact 31))
 have v_word_at:FnOk P w K mg base (L2.CX P w) 1 _ si ["text", "at"] (bD (iE nm K) bJ):=ze pA (He.free_ok X G (c.fact 3)) (He.str_ok X G (c.fact 32))
 have v_shape_in:FnOk P w K mg base (L2.CX P w) 2 _ pX ["text"] (bD (iE nm K) gQ):=xq nq ⟨_,_,v_word_at,(He.glo_ok X G (c.fact 33)),pA.kp,mH⟩ (He.free_ok X G (c.fact 3)) ⟨_,_,v_is_name,(He.glo_ok X G (c.fact 8)),mK.kp,kr⟩ (He.free_ok X G (c.fact 7))
 have v_shape_or_none:FnOk P w K mg base (L2.CX P w) 3 _ kF ["text"] (bD (iE nm K) aC):=qa fe (He.free_ok X G (c.fact 3)) (He.int_ok X G (c.fact 34)) ⟨_,_,v_shape_in,(He.glo_ok X G (c.fact 35)),nq.kp,kT⟩
 have v_read_tree:FnOk P w K mg base (L2.CX P w) 43 _ oB ["text"] (bD (iE nm K) eA):=wo mw (kM (nm:=nm) (c.fact 0)) (He.free_ok X G (c.fact 1)) (He.free_ok X G (c.fact 2)) ⟨_,_,v_shape_or_none,(He.glo_ok X G (c.fact 36)),fe.kp,dE⟩ (rf X G (c.fact 31) v_BadText__init_ b_BadText__init_) ⟨He.cls_ok (c.fact 14),_,_,v_Tree__init_,He.meth_ok (c.fact 37),fb⟩ ⟨(He.glo_ok X G (c.fact 22)),_,_,_,f9 K,v_Tree__init_,He.mkr_ok (c.fact 38),oR (dds:=[.tup []]) (dv:=f9 K) ik (by intro z; cases z) rfl (by simp) (by decide) (by simp) fun _ _ _ _ _ _ _ us ws zs du l1 l2 e=>match us,ws,l1,l2,e with | [_,_],[],_,_,rfl=>⟨_,rfl,rfl⟩,fun d hd own hp=>by simp at hd⟩
 have v_lines_of:FnOk P w K mg base (L2.CX P w) 3 _ pY ["text"] (bD (iE nm K) ft):=xr nr (kM (nm:=nm) (c.fact 0)) (He.free_ok X G (c.fact 1)) (He.free_ok X G (c.fact 2)) (rf X G (c.fact 31) v_BadText__init_ b_BadText__init_)
 have v_read_history:FnOk P w K mg base (L2.CX P w) 43 _ lG ["text"] (bD (iE nm K) cz):=rG jg ⟨_,_,v_lines_of,(He.glo_ok X G (c.fact 40)),nr.kp,kU⟩ ⟨_,_,v_shape_or_none,(He.glo_ok X G (c.fact 36)),fe.kp,dE⟩ (He.free_ok X G (c.fact 41)) (rf X G (c.fact 31) v_BadText__init_ b_BadText__init_) (He.free_ok X G (c.fact 3)) ⟨He.cls_ok (c.fact 26),_,_,v_History__init_,He.meth_ok (c.fact 42),gN⟩ ⟨(He.glo_ok X G (c.fact 45)),_,_,_,jF K,v_History__init_,He.mkr_ok (c.fact 43),oR (dds:=[.tup []]) (dv:=jF K) hY (by intro z; cases z) rfl (by simp) (by decide) (by simp) fun _ _ _ _ _ _ _ us ws zs du l1 l2 e=>match us,ws,l1,l2,e with | [_,_],[],_,_,rfl=>⟨_,rfl,rfl⟩,fun d hd own hp=>by simp at hd⟩ ⟨He.cls_ok (c.fact 14),_,_,v_Tree__init_,He.meth_ok (c.fact 37),fb⟩ ⟨(He.glo_ok X G (c.fact 22)),_,_,_,f9 K,v_Tree__init_,He.mkr_ok (c.fact 38),oR (dds:=[.tup []]) (dv:=f9 K) ik (by intro z; cases z) rfl (by simp) (by decide) (by simp) fun _ _ _ _ _ _ _ us ws zs du l1 l2 e=>match us,ws,l1,l2,e with | [_,_],[],_,_,rfl=>⟨_,rfl,rfl⟩,fun d hd own hp=>by simp at hd⟩
 have v_l_begun:FnOk P w K mg base (L2.CX P w) 1 _ sj ["_law_script"] (bD (iE nm K) gL):=zh pB (He.free_ok X G (c.fact 19))
 have v_l_mixed:FnOk P w K mg base (L2.CX P w) 1 _ su ["_law_state"] (bD (iE nm K) iP):=zj pC (He.free_ok X G (c.fact 46))
 have v_l_take:FnOk P w K mg base (L2.CX P w) 2 _ uk ["_law_state", "_law_size"] (bD (iE nm K) bH):=Bc mx ⟨_,_,v_l_mixed,(He.glo_ok X G (c.fact 47)),pC.kp,mG⟩ (He.free_ok X G (c.fact 46))
 have v_l_pick:FnOk P w K mg base (L2.CX P w) 3 _ um ["_law_state", "_law_some"] (bD (iE nm K) dc):=Be oC ⟨_,_,v_l_take,(He.glo_ok X G (c.fact 48)),mx.kp,i8⟩ (He.free_ok X G (c.fact 3))
 have v_l_long:FnOk P w K mg base (L2.CX P w) 4 _ uo ["_law_state"] (bD (iE nm K) iu):=Bf sv ⟨_,_,v_l_pick,(He.glo_ok X G (c.fact 49)),oC.kp,l6⟩ ⟨_,_,v_l_take,(He.glo_ok X G (c.fact 48)),mx.kp,i8⟩ (He.free_ok X G (c.fact 3))
 have v_l_is_name:FnOk P w K mg base (L2.CX P w) 1 _ oD ["_law_value"] (bD (iE nm K) dj):=wq my (kM (nm:=nm) (c.fact 0)) (He.free_ok X G (c.fact 1)) (He.free_ok X G (c.fact 2)) (He.free_ok X G (c.fact 3))
 have v_l_names_or_none:FnOk P w K mg base (L2.CX P w) 2 _ jh ["_law_text_here"] (bD (iE nm K) bg):=n8 gr (He.free_ok X G (c.fact 50)) (He.free_ok X G (c.fact 3)) ⟨_,_,v_l_is_name,(He.glo_ok X G (c.fact 51)),my.kp,jC⟩ (He.free_ok X G (c.fact 46))
 have v_l_read:FnOk P w K mg base (L2.CX P w) 44 _ uq ["_law_text_here", "_law_way"] (bD (iE nm K) eB):=Bg sy (CO (tbs:=[]) (nm:=nm) (c.fact 52)) (He.glo_ok X G (c.fact 53)) ⟨_,_,v_read_tree,(He.glo_ok X G (c.fact 54)),mw.kp,jD⟩ ⟨_,_,v_read_history,(He.glo_ok X G (c.fact 55)),jg.kp,fZ⟩
 have v_law:FnOk P w K mg base (L2.CX P w) 45 _ xK ["_law_script"] (bD (iE nm K) yx):=G7 BO (He.free_ok X G (c.fact 50)) (He.free_ok X G (c.fact 3)) (He.free_ok X G (c.fact 56)) (He.free_ok X G (c.fact 57)) ⟨_,_,v_l_begun,(He.glo_ok X G (c.fact 58)),pB.kp,mF⟩ ⟨_,_,v_l_long,(He.glo_ok X G (c.fact 59)),sv.kp,nV⟩ ⟨_,_,v_l_take,(He.glo_ok X G (c.fact 48)),mx.kp,i8⟩ ⟨_,_,v_l_pick,(He.glo_ok X G (c.fact 49)),oC.kp,l6⟩ ⟨_,_,v_l_names_or_none,(He.glo_ok X G (c.fact 60)),gr.kp,dR⟩ ⟨_,_,v_l_read,(He.glo_ok X G (c.fact 61)),sy.kp,nW⟩ (kM (nm:=nm) (c.fact 62)) (He.glo_ok X G (c.fact 63)) (He.free_ok X G (c.fact 2)) (CT (c.fact 64)) (He.glo_ok X G (c.fact 65))
 exact v_law
end K72
open PySem PySem.W PySem.Calls PyProof.Rows PV
theorem PySem.Challenge.cw_lastnumbers_k72_long_tree_texts_holds : PySem.Challenge.rw_lastnumbers_k72_long_tree_texts.Holds := by
 w_on; o_law
 refine HandSHeadRun.head_any (r:=OpenLaw.row PySem.Challenge.rw_lastnumbers_k72_long_tree_texts) (q:=view (OpenLaw.row PySem.Challenge.rw_lastnumbers_k72_long_tree_texts).prog [41]) (H:=K72.hk) (ob:=K72.ob) (M:=9000) (loose:=K72.lo) (d:=HandSHeadRun.topDef (OpenLaw.row PySem.Challenge.rw_lastnumbers_k72_long_tree_texts).prog 41) (kwd:=[]) K72.G8
  (by kernel_rfl) (fun s=>by kernel_rfl) K72.run (by kernel_rfl) (by kernel_rfl) (by kernel_rfl) (by rfl) (by first | assumption | decide +kernel) (by decide +kernel) ⟨rfl,rfl,rfl,rfl,rfl,by decide +kernel⟩ ?hw ?hc
 case hw=>w_witness2
 case hc =>
  refine PV.CH (l:=PySem.Challenge.rw_lastnumbers_k72_long_tree_texts) (n:=63) (k:=45) (x := "_law_script") rfl (by decide) (by kernel_rfl) ⟨rfl,by decide,by decide⟩ ?F
  intro w mg fa h Y G hmg0
  obtain⟨K,KX,c⟩:=Y
  have hmg:mg ("law" : PySem.Str)=some (.ref fa):=by
   have e:(HandSHeadRun.topDef (OpenLaw.row PySem.Challenge.rw_lastnumbers_k72_long_tree_texts).prog 41).name=("law" : PySem.Str):=by kernel_rfl
   rw [← e]
   exact hmg0
  obtain⟨fd,hb,hF⟩:=K72.facts (P:=(PySem.Challenge.rw_lastnumbers_k72_long_tree_texts).prog) (w:=w) KX G hmg c
  exact⟨K,fd,_,KX,hb,fun H a ns hl hO hS=>PV.Fc hO hS (K72.BN ns hl),hF⟩
