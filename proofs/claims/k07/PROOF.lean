import PyProof.Rows.All
import Wide.All
import OpenK.AllK
import Wide.FinOn
import HandS.ForMost
import HandS.ForExc
import HandS.Flow
import HandS.IsInst
import HandS.Defaults
import HandS.Steps
import HandS.Style
import HandS.Head0
import HandS.Lambda
import HandS.ExcInit
import HandS.Head1
import HandS.Head2
import HandS.HeadHook1
import HandS.HeadHook2
import HandS.HeadEnd
import HandS.More
import KE.KeyNested
import PyProof.DictMoreH
import HandS.Deep
import HandS.ExcCtx
import HandS.TupAny
import HandS.Strs
import HandS.Zip
import HandS.Rev
import KE.GoesEnum
import HandS.Spec
import HandS.SetKeys
import HandS.CallSlots
import HandS.Ends
import HandS.HeadHook3
import HandS.HeadHook4
import PyProof.ReprRoads
import PyProof.ReprLen
import PyProof.StrLawsRepr
import PyProof.FitsInt
import HandS.CallLocal
import HandS.Text
import HandS.FStr
import KE.KUnpack
import PyProof.RulesMatchSeq
import PyProof.Rows.MatchSeqLen
import PyProof.InstNe
import HandS.ClsMeth
import HandS.TryOnly
import HandS.HeadNt
import HandS.RaiseMore
import HandS.Property
import HandS.MakeKwOnly
import HandS.NamedTupGet
import HandS.SortInts
import HandS.DictComp
import HandS.WordsDict
import HandS.Conv
import KE.KExcIs
import KE.KIsAll
import HandS.ExcField
import HandS.ExcIs
import HandS.Nested
import KE.KExcSuper
import KE.KExcInit
import PyProof.ExcBaseAll.IndexError
import KE.KSuper
import HandS.EndTab
import HandS.ExcOwn
import KE.KNestM
import OpenK.KMeth
import HandS.TupMul
import HandS.SetBool
import PyProof.DictUpdate
import KE.KDictList
import HandS.Set
import KE.KDictDisplayH
import KE.SortKeyHeap
import HandS.SortKw
import HandS.ExcValue
import HandS.TupSets
import KE.KIndexOf
import HandS.SetFor
import KE.GoesMore
import PyProof.TupleOfSeq
import HandS.Iter
import HandS.HotCalls
import PyProof.StrOps2
import KE.KEqNest
import PySem.Challenge.RW_lastkind_k07_whole_notes_one_to_one
set_option Elab.async false
set_option linter.all false
set_option maxRecDepth 100000
set_option maxHeartbeats 0
namespace Z
open PySem PySem.Spec PyProof.Rows L2
inductive P where
 | non
 | bl (b:Bool)
 | int (i:Int)
 | str (z:Str)
 | tup (ps:List P)
 | lst (ps:List P)
 | dic (t:Bool) (ks ps:List P)
 | ins (c:Str) (ks:List Str) (ps:List P)
 | glo (x:Str)
 | ty (n:String)
 | scr (ns:List Int)
 /-- an own exception,made and not raised -/
 | exv (c:Str) (ks:List Str) (ps:List P)
 /-- a dict by numbers and texts whose very object is known: it is walked -/
 | dlk (ks ps:List P)
inductive D where
 | p (p:P)
 | ref (n:Nat)
inductive eQ where
 | lst (ds:List D)
 | dic (t:Bool) (ks:List P) (ds:List D)
 | ins (c:Str) (ks:List Str) (ds:List D)
 | dead
 /-- the table of code objects that the def of this name makes -/
 | tab (x:Str)
 /-- a tuple of which it is known that it has no dict -/
 | tupf (ps:List P)
 /-- a tuple that bears things of one's own -/
 | tpl (ds:List D)
abbrev ag:=List eQ
def one (l:Addr) (o:HO):Hp:=fun a=>if a=l then some o else none
def cR:List D→Option (List P)
 | []=>some []
 | .p p::ds=>(cR ds).map (p::·)
 | .ref _::_=>none
def lM:eQ→Option P
 | .lst ds=>(cR ds).map .lst
 | .dic t ks ds=>(cR ds).map (.dic t ks)
 | .ins c ks ds=>(cR ds).map (.ins c ks)
 | .dead=>none
 | .tupf ps=>some (.tup ps)
 | .tpl ds=>(cR ds).map .tup
 | .tab _=>none
def view (S:ag):D→Option P
 | .p p=>some p
 | .ref n=>match S[n]? with
  | some c=>lM c
  | none=>none
def JJ (K:PySem.W.Frag) (a:Addr) (xs:List V):Bool:=match K.lookup a with
 | some ⟨.type "tuple",none, .seq its _,_⟩=>decide (its.size≤100) && He.relAll xs its.toList
 | _=>false
def JS (e:DictEntry):Option Str:=match e.key with
 | .str x _=>some x
 | _=>none
def KC (K:PySem.W.Frag) (a:Addr) (ks:List Str):Bool:=match K.lookup a with
 | some ⟨_,_, .dict es _,_⟩=>decide (es.toList.map JS=ks.map some)
 | _=>false
inductive Ed where
 | tup (cs:List Str)
 | one (c:Str)
def Ed.p:Ed→P
 | .tup cs=>.tup (cs.map .glo)
 | .one c=>.glo c
abbrev zg:=List (Str×Ed)
def WU (K:PySem.W.Frag) (x:Str) (tab:zg):Bool:=KC K (He.ga K x) (tab.map (·.1)) && tab.all fun p=>match PySem.W.nsIn K (He.ga K x) p.1 with
 | some (some (.ref t))=>match p.2 with
  | .tup cs=>decide (cs≠[]) && JJ K t (cs.map fun x=>V.ref (He.ga K x))
  | .one c=>decide (t=He.ga K c)
 | _=>false
inductive Ur where
 | ty (n:String)
 | glo (c:Str)
deriving DecidableEq
def Ur.v (K:PySem.W.Frag):Ur→Value
 | .ty n=>.type n
 | .glo c=>.ref (He.ga K c)
abbrev Uw:=List (Ur×Str×Bool)
def Jh (K:PySem.W.Frag) (tab:Uw):Bool:=tab.all fun q=>decide (PySem.W.kitOne K (q.1.v K) (.ref (He.ga K q.2.1))=some q.2.2)
def Q4 (K:PySem.W.Frag) (C:Addr):Bool:=He.eqO (PySem.W.findIn K (.ref C) "__class__") (some (some (.builtin "object.__class__"))) && (He.eqO (PySem.W.specialIn K (.builtin "object.__class__") "__get__") (some (some (.builtin "getset_descriptor.__get__"))) && (decide (PySem.W.takesIn K (.builtin "object.__class__")=some true) && decide (PySem.W.mroIn K C (.type "object")=some true)))
abbrev UF:Type:=He.AlT×(Bool×List He.FnW)
def obZ (fa:List He.Fa) (ts:List He.Tab) (fn:List He5.DefA) (ex:PySem.W.Frag→Bool) (K:PySem.W.Frag):UF:=(He.obsT fa [] ts K,((fn.all fun d=>d.ok K) && ex K,fn.map fun d=>He5.fnA K (d.at_ K)))
def Wb (ts:List He.Tab) (fn:List He5.DefA) (w:World):UF:=(He.valT [] ts w,(true,fn.map He5.DefA.val))
def VN (K:PySem.W.Frag) (C:Addr):Bool:=He.eqO (PySem.W.findIn K (.ref C) "__eq__") (some (some (.ref (He.ma K C "__eq__")))) && (He.eqO (PySem.W.findIn K (.ref C) "__ne__") (some (some (.builtin "object.__ne__"))) && (PySem.W.isFn K (.ref (He.ma K C "__eq__")) && decide (PySem.W.mroIn K C (.type "object")=some true)))
def Lw (K:PySem.W.Frag) (C:Addr):Bool:=PySem.W.readsIn K C (.type "type") && He.eqO (PySem.W.specialIn K (.ref C) "__getattribute__") (some (some (.builtin "type.__getattribute__")))
def Ri (K:PySem.W.Frag) (C:Addr) (m:Str):Bool:=He5.wrapB K C "classmethod" "classmethod.__get__" m && PySem.W.fnIn K (He5.wf K C "classmethod" m)
def CI (K:PySem.W.Frag) (a:Addr):Bool:=match K.lookup a with
 | some ⟨.type "tuple",none, .seq its _,_⟩=>its.isEmpty
 | _=>false
def inB (m a:Nat):Bool:=Nat.beq (Nat.land (Nat.shiftRight m a) 1) 1
def wl:List Addr→Nat→List Addr→Nat×List Addr
 | [],m,acc=>(m,acc)
 | a::r,m,acc=>match inB m a with
  | true=>wl r m acc
  | false=>wl r (Nat.lor m (Nat.shiftLeft 1 a)) (a::acc)
def bfs (g:Addr→Option Obj):Nat→List Addr→Nat→List Addr
 | 0,_,_=>[]
 | n+1,f,m=>match wl (f.flatMap fun a=>match g a with
   | some o=>He.refsD o
   | none=>[]) m [] with
  | (m',new)=>new++bfs g n new m'
def asY (g:Addr→Option Obj) (n:Nat):List Addr:=mainGlobals::cStatics::bfs g n [mainGlobals] (Nat.shiftLeft 1 mainGlobals)
abbrev Iz:=List (Str×Bool)
def exB (K:PySem.W.Frag) (c:Value) (tab:Iz):Bool:=tab.all fun q=>decide (PySem.W.exmOne K (.ref (He.ga K q.1)) c=some q.2)
abbrev zC:Str:="__class__"
def HY (K:PySem.W.Frag) (a:Addr):He.FnW:=match K.lookup a with
 | some ⟨_,_, .func fd,_⟩=>some (fd.name,fd.qualname,fd.params,fd.body,fd.scope,fd.globals,[],fd.builtins)
 | _=>none
def uO (K:PySem.W.Frag) (a:Addr):Addr:=match K.lookup a with
 | some ⟨_,_, .func fd,_⟩=>(match fd.closure with | [(_,c)]=>c | _=>0)
 | _=>0
def sy (K:PySem.W.Frag) (a:Addr):Addr:=match K.lookup a with
 | some ⟨_,_, .func fd,_⟩=>(match fd.code with | .ref c=>c | _=>0)
 | _=>0
def Gi:Value→Bool
 | .none=>true
 | _=>false
def K8 (a:Addr):Value→Bool
 | .ref c=>decide (c=a)
 | _=>false
def JB (K:PySem.W.Frag) (a:Addr) (qual:Str):Bool:=match K.lookup a with
 | some ⟨_,_, .func fd,_⟩=>decide (fd.closure=[(zC,uO K a)]) && (Gi fd.defaults && (K8 (sy K a) fd.code && PySem.W.codeIn K fd.code qual))
 | _=>false
def Kb (K:PySem.W.Frag) (iS:Addr) (file:Str):Bool:=match K.lookup iS with
 | some ⟨_,_, .fields vs,_⟩=>(match (vs[2]?:Option Value) with | some (Value.str z _)=>file == z | _=>false)
 | _=>false
def K1 (K:PySem.W.Frag) (cc C:Addr):Bool:=match K.lookup cc with
 | some ⟨_,_, .cell (some (.ref D)),_⟩=>decide (D=C)
 | _=>false
def Gj (o:Option Value) (t:String):Bool:=match o with
 | some (.type n)=>decide (n=t)
 | _=>false
def TF (K:PySem.W.Frag) (C:Addr) (B newId initId:String) (tl:List Value) (qual file:Str) (fs:List Str):Bool :=
 JB K (He.ma K C "__init__") qual && (Kb K (sy K (He.ma K C "__init__")) file && (K1 K (uO K (He.ma K C "__init__")) C && (PySem.W.excInitIn K C tl newId && (PySem.W.excOver K C tl && (PySem.W.hasDictIn K C && (He.eqO (PySem.W.findIn K (.ref C) "__setattr__") (some (some (.builtin "object.__setattr__"))) && (decide (PySem.W.subIn K (.ref C) (.type "BaseException")=some true) &&
 (Gj (PySem.W.typeIn K (.ref C)) "type" && (PySem.W.keepIn K (.ref C) && (He.eqO (PySem.W.findIn K (.ref C) "__init__") (some (some (.ref (He.ma K C "__init__")))) && (Gj (PySem.W.typeIn K (.ref (He.ma K C "__init__"))) "function" && (He.eqO (PySem.W.ks_superIn K C C "__init__") (some (some (.builtin initId))) && (decide (PySem.W.subIn K (.ref C) (.type B)=some true) &&
 (He.eqO (PySem.W.nsIn K cStatics "thirdparty.any") (some none) && (decide (PySem.W.mroIn K C (.ref C)=some true) && fs.all fun f=>He.eqO (PySem.W.findIn K (.ref C) f) (some none))))))))))))))))
abbrev Qz:Type:=UF×List He.FnW
def YX (fa:List He.Fa) (ts:List He.Tab) (fn:List He5.DefA) (ex:PySem.W.Frag→Bool) (sn:List He5.DefA) (K:PySem.W.Frag):Qz:=(obZ fa ts fn ex K,sn.map fun d=>HY K (d.at_ K))
def Vu (ts:List He.Tab) (fn sn:List He5.DefA) (w:World):Qz:=(Wb ts fn w,sn.map He5.DefA.val)
def xn (fa:List He.Fa) (ts:List He.Tab) (fn:List He5.DefA) (ex:PySem.W.Frag→Bool) (sn:List He5.DefA) (w:World) (K:PySem.W.Frag):Prop:=YX fa ts fn ex sn K=Vu ts fn sn w
def Tu (n:Nat) (fa:List He.Fa) (ts:List He.Tab) (fn:List He5.DefA) (ex:PySem.W.Frag→Bool) (sn:List He5.DefA) (g:Addr→Option Obj):Qz:=YX fa ts fn ex sn (He.frT g (asY g n))
def Qn (n:Nat) (fa:List He.Fa) (ts:List He.Tab) (fn:List He5.DefA) (ex:PySem.W.Frag→Bool) (sn:List He5.DefA):PySem.W.Hook where
 α:=Qz
 obs:=fun s=>Tu n fa ts fn ex sn s.heap.get?
 val:=fun w=>Vu ts fn sn w
 says:=fun w h=>∃ K:PySem.W.Frag,K.In h∧xn fa ts fn ex sn w K
 of:=fun _ _ e=>⟨_,He.frT_in,e⟩
 keeps:=fun _ _ _ ⟨K,hK,c⟩ k=>⟨K,PySem.W.Frag.In.keeps hK k,c⟩
abbrev XO:List Value:=[.type "ValueError", .type "Exception", .type "BaseException", .type "object"]
end Z
namespace Kw
open PySem PySem.Spec PyProof.Rows L2 Z
def top (i:Nat):Stmt:=PySem.Challenge.pw_lastkind_k07_whole_notes_one_to_one.main.body.getD i (.Pass ⟨0,0,0,0⟩)
def CF (s:Stmt):List Stmt:=match s with
 | .ClassDef _ _ _ b _ _ _ _ _ _ _=>b
 | _=>[]
abbrev AF:Stmt:=top 59
abbrev tU:Stmt:=top 60
abbrev pW:Stmt:=top 61
abbrev nH:Stmt:=top 62
abbrev dM:Stmt:=top 9
abbrev ki:Stmt:=top 10
abbrev dW:Stmt:=top 51
abbrev gU:Stmt:=top 30
abbrev gK:Stmt:=top 29
abbrev jZ:Stmt:=top 11
abbrev gM:Stmt:=top 8
abbrev iQ:Stmt:=top 19
abbrev iK:Stmt:=top 13
abbrev jv:Stmt:=top 21
abbrev kj:Stmt:=top 20
abbrev iL:Stmt:=top 23
abbrev kg:Stmt:=top 12
abbrev jp:Stmt:=top 24
abbrev iR:Stmt:=top 25
abbrev fD:Stmt:=top 26
abbrev dP:Stmt:=top 27
abbrev eJ:Stmt:=top 28
abbrev fG:Stmt:=top 52
abbrev gi:Stmt:=top 53
abbrev fw:Stmt:=top 50
abbrev dC:Stmt:=(CF (top 54)).getD 0 (.Pass ⟨0,0,0,0⟩)
abbrev gN:Stmt:=(CF (top 54)).getD 7 (.Pass ⟨0,0,0,0⟩)
abbrev Aq:Stmt:=top 63
abbrev uj:Stmt:=top 64
abbrev jV:Stmt:=top 65
abbrev uz:Stmt:=top 67
abbrev ux:Stmt:=top 66
abbrev df:Stmt:=(CF (top 54)).getD 2 (.Pass ⟨0,0,0,0⟩)
abbrev bq:Stmt:=(CF (top 54)).getD 3 (.Pass ⟨0,0,0,0⟩)
abbrev cb:Stmt:=(CF (top 54)).getD 9 (.Pass ⟨0,0,0,0⟩)
abbrev iP:Stmt:=top 32
abbrev iJ:Stmt:=top 33
abbrev fK:Stmt:=top 34
abbrev gO:Stmt:=top 56
abbrev iM:Stmt:=top 14
abbrev jq:Stmt:=top 15
abbrev km:Stmt:=top 35
abbrev kc:Stmt:=top 37
abbrev jw:Stmt:=top 36
abbrev ke:Stmt:=top 38
abbrev jt:Stmt:=top 39
abbrev ej:Stmt:=(CF (top 54)).getD 1 (.Pass ⟨0,0,0,0⟩)
abbrev iI:Stmt:=top 57
abbrev xB:Stmt:=top 68
def W6:Uw:=[(.ty "NoneType", "Text",false),(.ty "bool", "Text",false),(.ty "int", "Text",false),(.ty "str", "Text",false),(.ty "list", "Text",false),(.ty "tuple", "Text",false),(.glo "Text", "Text",true)]
def t_PARTS:zg:=[("read", .tup ["is_name", "is_kind", "is_name", "is_offset"]),("write", .tup ["is_kind", "is_name", "is_offset", "is_value"]),("copy", .tup ["is_many", "is_name", "is_offset", "is_name", "is_offset"]),("blank", .tup ["is_many", "is_name", "is_offset"]),("tell", .tup ["is_name"])]
abbrev cw:Stmt:=(CF (top 42)).getD 0 (.Pass ⟨0,0,0,0⟩)
abbrev cz:Stmt:=(CF (top 43)).getD 0 (.Pass ⟨0,0,0,0⟩)
def gQ:Iz:=[("BadText",true),("BadNote",false)]
def Qi:He5.DefA:=⟨fun K=>(He.ga K "_law_bag"), "_law_bag", "_law_bag",defArgs AF,defBody AF,defScope AF,[],[]⟩
def Kz:He5.DefA:=⟨fun K=>(He.ga K "_law_take"), "_law_take", "_law_take",defArgs tU,defBody tU,defScope tU,[],[]⟩
def GH:He5.DefA:=⟨fun K=>(He.ga K "_law_names"), "_law_names", "_law_names",defArgs pW,defBody pW,defScope pW,[],[]⟩
def GQ:He5.DefA:=⟨fun K=>(He.ga K "_law_kinds"), "_law_kinds", "_law_kinds",defArgs nH,defBody nH,defScope nH,[],[]⟩
def qk:He5.DefA:=⟨fun K=>(He.ga K "consists_of"), "consists_of", "consists_of",defArgs dM,defBody dM,defScope dM,[],[]⟩
def Ay:He5.DefA:=⟨fun K=>(He.ga K "is_name"), "is_name", "is_name",defArgs ki,defBody ki,defScope ki,[],[]⟩
def mK:He5.DefA:=⟨fun K=>(He.ga K "check_pointers"), "check_pointers", "check_pointers",defArgs dW,defBody dW,defScope dW,[],[]⟩
def sE:He5.DefA:=⟨fun K=>(He.ga K "value_made"), "value_made", "value_made",defArgs gU,defBody gU,defScope gU,[],[]⟩
def tw:He5.DefA:=⟨fun K=>(He.ga K "value_used"), "value_used", "value_used",defArgs gK,defBody gK,defScope gK,[],[]⟩
def An:He5.DefA:=⟨fun K=>(He.ga K "is_kind"), "is_kind", "is_kind",defArgs jZ,defBody jZ,defScope jZ,[],[]⟩
def rO:He5.DefA:=⟨fun K=>(He.ga K "is_integer"), "is_integer", "is_integer",defArgs gM,defBody gM,defScope gM,[],[]⟩
def uQ:He5.DefA:=⟨fun K=>(He.ga K "is_offset"), "is_offset", "is_offset",defArgs iQ,defBody iQ,defScope iQ,[],[]⟩
def uX:He5.DefA:=⟨fun K=>(He.ga K "is_number"), "is_number", "is_number",defArgs iK,defBody iK,defScope iK,[],[]⟩
def yn:He5.DefA:=⟨fun K=>(He.ga K "is_value"), "is_value", "is_value",defArgs jv,defBody jv,defScope jv,[],[]⟩
def zv:He5.DefA:=⟨fun K=>(He.ga K "is_many"), "is_many", "is_many",defArgs kj,defBody kj,defScope kj,[],[]⟩
def zx:He5.DefA:=⟨fun K=>(He.ga K "is_step"), "is_step", "is_step",defArgs iL,defBody iL,defScope iL,[],[]⟩
def zO:He5.DefA:=⟨fun K=>(He.ga K "size_of"), "size_of", "size_of",defArgs kg,defBody kg,defScope kg,[],[]⟩
def wR:He5.DefA:=⟨fun K=>(He.ga K "reads_at"), "reads_at", "reads_at",defArgs jp,defBody jp,defScope jp,[],[]⟩
def vd:He5.DefA:=⟨fun K=>(He.ga K "writes_at"), "writes_at", "writes_at",defArgs iR,defBody iR,defScope iR,[],[]⟩
def uG:He5.DefA:=⟨fun K=>(He.ga K "stretches"), "stretches", "stretches",defArgs fD,defBody fD,defScope fD,[],[]⟩
def qu:He5.DefA:=⟨fun K=>(He.ga K "fits_window"), "fits_window", "fits_window",defArgs dP,defBody dP,defScope dP,[],[]⟩
def sQ:He5.DefA:=⟨fun K=>(He.ga K "names_used"), "names_used", "names_used",defArgs eJ,defBody eJ,defScope eJ,[],[]⟩
def uN:He5.DefA:=⟨fun K=>(He.ga K "step_fits"), "step_fits", "step_fits",defArgs fG,defBody fG,defScope fG,[],[]⟩
def qx:He5.DefA:=⟨fun K=>(He.ga K "check_steps"), "check_steps", "check_steps",defArgs gi,defBody gi,defScope gi,[],[]⟩
def oj:He5.DefA:=⟨fun K=>(He.ga K "check_places"), "check_places", "check_places",defArgs fw,defBody fw,defScope fw,[],[]⟩
def uV:He5.DefA:=⟨fun K=>(He.ma K (He.ga K "Text") "__init__"), "__init__", "Text.__init__",defArgs dC,defBody dC,defScope dC,[.adr (He.dflAt ("Text",some "__init__") 0), .adr (He.dflAt ("Text",some "__init__") 1), .adr (He.dflAt ("Text",some "__init__") 2)],[]⟩
def Aw:He5.DefA:=⟨fun K=>(He.ma K (He.ga K "Text") "__eq__"), "__eq__", "Text.__eq__",defArgs gN,defBody gN,defScope gN,[],[]⟩
def Rj:He5.DefA:=⟨fun K=>(He.ga K "_law_use"), "_law_use", "_law_use",defArgs Aq,defBody Aq,defScope Aq,[],[]⟩
def Kf:He5.DefA:=⟨fun K=>(He.ga K "_law_step"), "_law_step", "_law_step",defArgs uj,defBody uj,defScope uj,[],[]⟩
def F9:He5.DefA:=⟨fun K=>(He.ga K "_law_drawn"), "_law_drawn", "_law_drawn",defArgs jV,defBody jV,defScope jV,[.int 4],[]⟩
def Mq:He5.DefA:=⟨fun K=>(He.ga K "_law_made"), "_law_made", "_law_made",defArgs uz,defBody uz,defScope uz,[],[]⟩
def KH:He5.DefA:=⟨fun K=>(He.ga K "_law_near"), "_law_near", "_law_near",defArgs ux,defBody ux,defScope ux,[],[]⟩
def rP:He5.DefA:=⟨fun K=>(He.ma K (He.ga K "Text") "names"), "names", "Text.names",defArgs df,defBody df,defScope df,[],[]⟩
def kH:He5.DefA:=⟨fun K=>(He.ma K (He.ga K "Text") "made_values"), "made_values", "Text.made_values",defArgs bq,defBody bq,defScope bq,[],[]⟩
def mT:He5.DefA:=⟨fun K=>(He.ma K (He.ga K "Text") "with_step"), "with_step", "Text.with_step",defArgs cb,defBody cb,defScope cb,[],[]⟩
def uH:He5.DefA:=⟨fun K=>(He.ga K "spot_word"), "spot_word", "spot_word",defArgs iP,defBody iP,defScope iP,[],[]⟩
def vo:He5.DefA:=⟨fun K=>(He.ga K "step_line"), "step_line", "step_line",defArgs iJ,defBody iJ,defScope iJ,[],[]⟩
def xU:He5.DefA:=⟨fun K=>(He.ga K "lines_of"), "lines_of", "lines_of",defArgs fK,defBody fK,defScope fK,[],[]⟩
def rG:He5.DefA:=⟨fun K=>(He.ga K "write_text"), "write_text", "write_text",defArgs gO,defBody gO,defScope gO,[],[]⟩
def vj:He5.DefA:=⟨fun K=>(He.ga K "number_in"), "number_in", "number_in",defArgs iM,defBody iM,defScope iM,[],[]⟩
def xX:He5.DefA:=⟨fun K=>(He.ga K "count_in"), "count_in", "count_in",defArgs jq,defBody jq,defScope jq,[],[]⟩
def Av:He5.DefA:=⟨fun K=>(He.ga K "spot_in"), "spot_in", "spot_in",defArgs km,defBody km,defScope km,[],[]⟩
def zW:He5.DefA:=⟨fun K=>(He.ga K "checked"), "checked", "checked",defArgs kc,defBody kc,defScope kc,[],[]⟩
def yi:He5.DefA:=⟨fun K=>(He.ga K "value_in"), "value_in", "value_in",defArgs jw,defBody jw,defScope jw,[],[]⟩
def zM:He5.DefA:=⟨fun K=>(He.ga K "step_in"), "step_in", "step_in",defArgs ke,defBody ke,defScope ke,[],[]⟩
def yt:He5.DefA:=⟨fun K=>(He.ga K "entry_in"), "entry_in", "entry_in",defArgs jt,defBody jt,defScope jt,[],[]⟩
def va:He5.DefA:=⟨fun K=>(He5.wf K (He.ga K "Text") "classmethod" "read"), "read", "Text.read",defArgs ej,defBody ej,defScope ej,[],[]⟩
def vp:He5.DefA:=⟨fun K=>(He.ga K "read_text"), "read_text", "read_text",defArgs iI,defBody iI,defScope iI,[],[]⟩
def Ro:He5.DefA:=⟨fun K=>(He.ga K "law"), "law", "law",defArgs xB,defBody xB,defScope xB,[],[]⟩
def oK:He5.DefA:=⟨fun K=>He.ma K (He.ga K "BadText") "__init__", "__init__", "BadText.__init__",defArgs cw,defBody cw,defScope cw,[],[]⟩
def pC:He5.DefA:=⟨fun K=>He.ma K (He.ga K "BadNote") "__init__", "__init__", "BadNote.__init__",defArgs cz,defBody cz,defScope cz,[],[]⟩
def YY:List He5.DefA:=[Qi,Kz,GH,GQ,qk,Ay,mK,sE,tw,An,rO,uQ,uX,yn,zv,zx,zO,wR,vd,uG,qu,sQ,uN,qx,oj,uV,Aw,Rj,Kf,F9]
def Zq:List He5.DefA:=[Mq,KH,rP,kH,mT,uH,vo,xU,rG,vj,xX,Av,zW,yi,zM,yt,va,vp,Ro]
def fn:List He5.DefA:=YY++Zq
def sn:List He5.DefA:=[oK,pC]
def Yi:List He.Fa:=[.glo "_law_bag", .glo "_law_take", .glo "_law_names", .glo "_law_kinds", .glo "consists_of", .glo "is_name", .glo "check_pointers", .glo "value_made", .glo "value_used", .glo "is_kind", .glo "is_integer", .glo "is_offset", .glo "is_number", .glo "is_value", .glo "is_many", .glo "is_step", .glo "size_of", .glo "reads_at", .glo "writes_at", .glo "stretches", .glo "fits_window", .glo "names_used", .glo "step_fits", .glo "check_steps", .glo "check_places", .glo "_law_use", .glo "_law_step", .glo "_law_drawn", .glo "_law_made", .glo "_law_near"]
def YF:List He.Fa:=[.glo "spot_word", .glo "step_line", .glo "lines_of", .glo "write_text", .glo "number_in", .glo "count_in", .glo "spot_in", .glo "checked", .glo "value_in", .glo "step_in", .glo "entry_in", .glo "read_text", .glo "law", .str "LOWER" "abcdefghijklmnopqrstuvwxyz", .str "NAME_SIGNS" "abcdefghijklmnopqrstuvwxyz0123456789", .int "MOST_SIGNS" 8, .int "MOST_POINTERS" 3, .int "MOST_NAMES" 4, .str "FIGURES" "0123456789", .int "MOST_SIZE" 4, .int "MOST_LETTERS" 6, .int "WINDOW" 8, .int "MOST_BYTES" 8, .int "MOST_STEPS" 12, .int "MOST_PLACES" 2, .int "MOST_FIGURES" 40, .glo "Text", .cls "Text", .noat "Text" "places", .noat "Text" "pointers"]
def Zo:List He.Fa:=[.noat "Text" "steps", .mkr "Text", .meth "Text" "names", .meth "Text" "made_values", .meth "Text" "with_step", .glo "PARTS", .glo "BadText", .glo "BadNote", .free "abs", .free "len", .free "int", .free "range", .free "all", .free "isinstance", .free "str", .free "list", .free "enumerate", .free "tuple", .free "min", .free "bool", .free "zip", .free "any", .free "max", .free "sum", .free "super"]
def fa:List He.Fa:=Yi++YF++Zo
def NI:List PySem.Str:=["LOWER", "FIGURES", "NAME_SIGNS", "MOST_SIGNS", "MOST_LETTERS", "MOST_SIZE", "MOST_FIGURES", "is_integer", "consists_of", "is_name", "is_kind", "size_of", "is_number", "number_in", "count_in", "WINDOW", "MOST_BYTES", "is_offset", "is_many", "is_value", "PARTS", "is_step", "reads_at", "writes_at", "stretches", "fits_window", "names_used", "value_used", "value_made", "spot_word"]
def Nn:List PySem.Str:=["step_line", "lines_of", "spot_in", "value_in", "checked", "step_in", "entry_in", "KindError", "BadText", "BadNote", "NoStep", "MOST_PLACES", "MOST_POINTERS", "MOST_NAMES", "MOST_STEPS", "check_places", "check_pointers", "step_fits", "check_steps", "Text", "write_text", "read_text", "_law_bag", "_law_take", "_law_names", "_law_kinds", "_law_use", "_law_step", "_law_drawn", "_law_near"]
def ND:List PySem.Str:=["_law_made"]
def loose:List PySem.Str:=NI++Nn++ND
def ts:List He.Tab:=[(fun K=>He.ga K "PARTS",t_PARTS.map (·.1))]
abbrev PG:Program:=(PySem.Challenge.rw_lastkind_k07_whole_notes_one_to_one).prog
def ex (K:PySem.W.Frag):Bool:=CI K (He.dflAt ("Text",some "__init__") 0 K) && (CI K (He.dflAt ("Text",some "__init__") 1 K) && (CI K (He.dflAt ("Text",some "__init__") 2 K) && (VN K (He.ga K "Text") && (Lw K (He.ga K "Text") && (Ri K (He.ga K "Text") "read" && (Jh K W6 && (Q4 K (He.ga K "Text") && (WU K "PARTS" t_PARTS && (TF K (He.ga K "BadText") "ValueError" "ValueError.__new__" "ValueError.__init__" XO "BadText.__init__" PG.main.file ["part", "index"] && (TF K (He.ga K "BadNote") "ValueError" "ValueError.__new__" "ValueError.__init__" XO "BadNote.__init__" PG.main.file ["line"] && (exB K (.ref (He.ga K "BadText")) gQ)))))))))))
abbrev R:PySem.W.OpenRow:=PySem.W.OpenLaw.row PySem.Challenge.rw_lastkind_k07_whole_notes_one_to_one
abbrev hk:PySem.W.Hook:=Qn 5 fa ts fn ex sn
def ob (s:PySem.W.SharedT):Qz:=Tu 5 fa ts fn ex sn (HandSHeadRun.getT s)
end Kw
namespace KwH
open PySem PySem.W PySem.Calls PyProof.Rows HandSHeadRun Kw
theorem pB_false (w:World) (os:OsState):(endF (stepQ (denQ tabQ) R.prog (w.withFollow "special-get-raises" false)) 12000 R.prog (w.withFollow "special-get-raises" false) os).map (fun s=>(looksF R.prog (boot_heap (w.withFollow "special-get-raises" false).params) s.abs,seenQ (view R.prog [68]) loose (importedModules R.prog.main.body) (fun s=>xlAt (view R.prog [68]) [] s && recOk R.toRowW.records s) s.abs))=some (true,openGood (view R.prog [68]) loose):=by kernel_rfl
theorem pD_false (w:World) (os:OsState):(endF (stepQ (denQ tabQ) R.prog (w.withFollow "special-get-raises" false)) 12000 R.prog (w.withFollow "special-get-raises" false) os).map ob=some (hk.val (w.withFollow "special-get-raises" false)):=by kernel_rfl
theorem pB_true (w:World) (os:OsState):(endF (stepQ (denQ tabQ) R.prog (w.withFollow "special-get-raises" true)) 12000 R.prog (w.withFollow "special-get-raises" true) os).map (fun s=>(looksF R.prog (boot_heap (w.withFollow "special-get-raises" true).params) s.abs,seenQ (view R.prog [68]) loose (importedModules R.prog.main.body) (fun s=>xlAt (view R.prog [68]) [] s && recOk R.toRowW.records s) s.abs))=some (true,openGood (view R.prog [68]) loose):=by kernel_rfl
theorem pD_true (w:World) (os:OsState):(endF (stepQ (denQ tabQ) R.prog (w.withFollow "special-get-raises" true)) 12000 R.prog (w.withFollow "special-get-raises" true) os).map ob=some (hk.val (w.withFollow "special-get-raises" true)):=by kernel_rfl
end KwH
namespace Z
open PySem PySem.Spec PyProof.Rows L2
def cs (z:Str):List Nat:=z.cps.toList
def mem (c:Nat) (y:Str):Bool:=decide (c∈cs y)
def hV:Str:="abcdefghijklmnopqrstuvwxyz"
def xu:Str:="abcdefghijklmnopqrstuvwxyz0123456789"
def Cy (z y:Str):Bool:=(cs z).all fun c=>mem c y
def Fh (z y:Str):Bool:=match cs z with
 | c::_=>mem c y
 | []=>false
def ak (z:Str):Bool:=(decide (1≤(z.length:Int)) && decide ((z.length:Int)≤8)) && (Fh z hV && Cy z xu)
def DA:List Str:=["", "p", "ab1", "pointer"]
def CZ (k:Nat):Nat:=((cs hV)[k]?).getD 0
def E6 (Fb:Str) (i Vf:Nat) (k:Nat):Str:=(cutS Fb none (some (i:Int))++⟨#[CZ ((Vf+5 * k) % 26)]⟩)++cutS Fb (some (i:Int)) none
def jg (Fb:Str) (i Vf n:Nat):List Str:=(List.range n).map (E6 Fb i Vf)
def zq:Str:="vwxyz"
def fJ (z:Str) (k:Nat):Str:=(cutS z none (some 6)++⟨#[((cs zq)[k % 5]?).getD 0]⟩)++(toString ((k / 5:Nat):Int):String)
def Gy (x y:Str):Bool:=x.cps.toList == y.cps.toList
def mY:List Str→Bool
 | []=>true
 | z::zs=>!(zs.any (Gy z)) && mY zs
def xl (zs:List Str):Bool:=zs.all (fun z=>ak z) && (mY zs && (match zs with
 | []=>true
 | z::_=>(List.range 15).all (fun k=>ak (fJ z k) && !(zs.any (Gy (fJ z k)))) && mY ((List.range 15).map (fJ z))))
theorem HI:∀ Fb∈DA,∀ i∈List.range (Fb.length+1),∀ Vf∈List.range 26,xl (jg Fb i Vf 6)=true:=by decide +kernel
end Z
namespace Z
open PySem PySem.Spec PyProof.Rows L2
structure Fr where
 K:PySem.W.Frag
 pg:Program
 w:World
def ED (X:Cx) (e:Expr):TE:=fun σ H Q=>∀ (pins:List (Addr×Obj)) (s:Shared),Inv X pins σ H s→wpAny (model X.prog X.w) X.A (eval e X.env) (EP X pins σ Q) X.xe s
def TD (X:Cx) (e:Expr):TT:=fun σ H Q=>∀ (pins:List (Addr×Obj)) (s:Shared),Inv X pins σ H s→wpAny (model X.prog X.w) X.A (isTrue e X.env (eval e X.env)) (TP X pins σ Q) X.xe s
def WD (X:Cx) (e:Expr):TT:=fun σ H Q=>∀ (whole:Sem Value) (pins:List (Addr×Obj)) (s:Shared),Inv X pins σ H s→wpAny (model X.prog X.w) X.A (isTrue e X.env whole) (TP X pins σ Q) X.xe s
def AD (X:Cx) (es:List Expr):TA:=fun σ H Q=>∀ (pos:Pos) (pins:List (Addr×Obj)) (s:Shared),Inv X pins σ H s→wpAny (model X.prog X.w) X.A (spliced (backTo pos (starEach es X.env))) (AP X pins σ Q) X.xe s
def yC (X:Cx) (st:Stmt):TS:=fun D σ H=>∀ (pins:List (Addr×Obj)) (s:Shared),Inv X pins σ H s→wpAny (model X.prog X.w) X.A (exec st X.env) (SP X pins D) X.xe s
def SD (X:Cx) (ss:List Stmt):TS:=fun D σ H=>∀ (pins:List (Addr×Obj)) (s:Shared),Inv X pins σ H s→wpAny (model X.prog X.w) X.A (execs ss X.env) (SP X pins D) X.xe s
section
variable {X:Cx} {e:Expr} {es:List Expr} {st:Stmt} {ss:List Stmt} {σ:L2.St} {H:Hp}
theorem bu:PE X e (ED X e):=⟨fun pins s _ _ _ I h=>h pins s I⟩
theorem Fo:PT X e (TD X e):=⟨fun pins s _ _ _ I h=>h pins s I⟩
theorem Ti:PW X e (WD X e):=⟨fun whole pins s _ _ _ I h=>h whole pins s I⟩
theorem eY:PA X es (AD X es):=⟨fun pos pins s _ _ _ I h=>h pos pins s I⟩
theorem Zj:PS X st (yC X st):=⟨fun pins s _ _ _ I h=>h pins s I⟩
theorem rX:PSs X ss (SD X ss):=⟨fun pins s _ _ _ I h=>h pins s I⟩
theorem ED.of {t:TE} {Q:VK} (h:PE X e t) (q:t σ H Q):ED X e σ H Q:=fun pins s I=>h.run pins s σ H Q I q
theorem TD.of {t:TT} {Q:Bool→Hp→Prop} (h:PT X e t) (q:t σ H Q):TD X e σ H Q:=fun pins s I=>h.run pins s σ H Q I q
theorem WD.of {t:TT} {Q:Bool→Hp→Prop} (h:PW X e t) (q:t σ H Q):WD X e σ H Q:=fun whole pins s I=>h.run whole pins s σ H Q I q
theorem AD.of {t:TA} {Q:List V→Hp→Prop} (h:PA X es t) (q:t σ H Q):AD X es σ H Q:=fun pos pins s I=>h.run pos pins s σ H Q I q
theorem yC.of {t:TS} {D:Ends} (h:PS X st t) (q:t D σ H):yC X st D σ H:=fun pins s I=>h.run pins s σ H D I q
theorem SD.of {t:TS} {D:Ends} (h:PSs X ss t) (q:t D σ H):SD X ss D σ H:=fun pins s I=>h.run pins s σ H D I q
end
instance:Inhabited P:=⟨.non⟩
instance:Inhabited D:=⟨.p .non⟩
abbrev av:=List (Option D)
structure Xc where
 c:Str
 ks:List Str
 ps:List P
inductive Rs (α:Type) where
 | ok (a:α) (S:ag)
 | exc (x:Xc) (S:ag)
 | no
def Rs.bind {α β:Type}:Rs α→(α→ag→Rs β)→Rs β
 | .ok a S,f=>f a S
 | .exc x S,_=>.exc x S
 | .no,_=>.no
mutual
def pA:P→Option NestedKey
 | .non=>some .none
 | .int i=>some (.num i)
 | .str z=>some (.text z)
 | .tup ps=>(fU ps).map .tup
 | _=>none
def fU:List P→Option (List NestedKey)
 | []=>some []
 | p::ps=>match pA p,fU ps with
  | some k,some ks=>some (k::ks)
  | _,_=>none
end
def Ye (pg:Program) (w:World) (a:Addr) (kvs:List (NestedKey×Addr×V)) (h:Heap):Prop :=
 kvs.length≤sizeLine∧(a == sysModules)=false∧∃ xs:List (NestedKey×Addr×Value),Paired (fun (p:NestedKey×Addr×V) (q:NestedKey×Addr×Value)=>p.1=q.1∧p.2.1=q.2.1∧RelV p.2.2 q.2.2) kvs xs ∧
  ∃ o es ep,h.get? a=some o∧o.ExactDict∧o.data=.dict es ep∧es.toList=xs.map (entryOfKey (nestedKind pg w))∧(xs.map (·.1)).Nodup
def dN (pg:Program) (w:World) (a:Addr) (kvs:List (NestedKey×Addr×V)):HO:=.ext (Ye pg w a kvs)
def lX:Key→P
 | .inl i=>.int i
 | .inr x=>.str x
theorem aZ {K:Fr} {H H':Hp} {a:Addr} {xs:List V} (e:Same H H') (h:SqT K.K H a xs):SqT K.K H' a xs:=by
 rcases h with (h | ⟨o,h⟩) | h
 · exact .inl (.inl (e _ _ h))
 · exact .inl (.inr ⟨o,e _ _ h⟩)
 · exact .inr h
theorem cF {K:Fr} {H H':Hp} {a:Addr} {xs:List V} (e:Same H H') (h:SqL K.K H a xs):SqL K.K H' a xs:=by
 rcases h with (h | ⟨o,h⟩) | h
 · exact .inl (.inl (e _ _ h))
 · exact .inl (.inr ⟨o,e _ _ h⟩)
 · exact .inr h
def Hk (F:Hp) (a:Addr) (xs:List V):Prop:=∃ o,F a=some (.frz o (.tup xs))∧o.dict=none
def NT (K:PySem.W.Frag) (F:Hp) (a:Addr) (xs:List V):Prop:=Hk F a xs ∨
 ∃ (o:Obj) (its:Array Value) (n:Nat),K.lookup a=some o∧o.cls=.type "tuple"∧o.dict=none∧o.data=.seq its n∧its.size≤sizeLine∧Vals xs its.toList
theorem Hk.sq {K:PySem.W.Frag} {F:Hp} {a:Addr} {xs:List V} (h:Hk F a xs):SqT K F a xs:=let ⟨o,h,_⟩:=h; .inl (.inr ⟨o,h⟩)
theorem NT.sq {K:PySem.W.Frag} {F:Hp} {a:Addr} {xs:List V} (h:NT K F a xs):SqT K F a xs:=by
 rcases h with h | ⟨o,its,n,h1,h2,_,h3⟩
 · exact h.sq
 · exact .inr ⟨o,its,n,h1,h2,h3⟩
theorem GX {H H':Hp} {a:Addr} {xs:List V} (e:Same H H') (h:Hk H a xs):Hk H' a xs:=let ⟨o,h,d⟩:=h; ⟨o,e _ _ h,d⟩
theorem Oe {K:Fr} {H H':Hp} {a:Addr} {xs:List V} (e:Same H H') (h:NT K.K H a xs):NT K.K H' a xs:=by
 rcases h with h | h
 · exact .inl (GX e h)
 · exact .inr h
def wr:List P→Bool:=fun _=>true
mutual
inductive Rp (K:Fr) (F:Hp):V→P→Prop
 | non:Rp K F .non .non
 | bl (b:Bool):Rp K F (.bl b) (.bl b)
 | int (i:Int):Rp K F (.int i) (.int i)
 | str (x:Str):Rp K F (.str x) (.str x)
 | lst {a:Addr} {xs:List V} {ps:List P}:F a=some (.lst xs)→ay K F xs ps→Rp K F (.ref a) (.lst ps)
 | tup {a:Addr} {xs:List V} {ps:List P}:Hk F a xs→ay K F xs ps→Rp K F (.ref a) (.tup ps)
 | tupW {a:Addr} {xs:List V} {ps:List P}:NT K.K F a xs→ay K F xs ps→wr ps=true→Rp K F (.ref a) (.tup ps)
 | dicK {a:Addr} {kvs:List (Key×V)} {ks ps:List P}:F a=some (.dK kvs)→ks=kvs.map (fun q=>lX q.1)→ay K F (kvs.map (·.2)) ps→Rp K F (.ref a) (.dic false ks ps)
 | dicN {a:Addr} {kvs:List (NestedKey×Addr×V)} {ks ps:List P}:F a=some (dN K.pg K.w a kvs)→ay K F (kvs.map fun q=>.ref q.2.1) ks→ks.map pA=kvs.map (fun q=>some q.1)→(∀ q∈kvs,q.1.depth≤8)→ay K F (kvs.map (·.2.2)) ps→Rp K F (.ref a) (.dic true ks ps)
 | ins {a dx:Addr} {c:Str} {fs:List (Str×V)} {ks:List Str} {ps:List P}:F a=some (.ins (He.ga K.K c) dx fs)→F dx=some (.own a)→ks=fs.map (·.1)→ay K F (fs.map (·.2)) ps→Rp K F (.ref a) (.ins c ks ps)
 | glo (x:Str):Rp K F (.ref (He.ga K.K x)) (.glo x)
 | ty (n:String):Rp K F (.ty n) (.ty n)
 | scr {a:Addr} {ns:List Int}:SqL K.K F a (ns.map V.int)→Rp K F (.ref a) (.scr ns)
 | exv {a d:Addr} {c:Str} {fs:List (Str×V)} {ks:List Str} {ps:List P}:F a=some (exo a (He.ga K.K c) (some d))→F d=some (exd d fs)→ks=fs.map (·.1)→ay K F (fs.map (·.2)) ps→Rp K F (.ref a) (.exv c ks ps)
 | exv0 {a:Addr} {c:Str}:F a=some (exo a (He.ga K.K c) none)→Rp K F (.ref a) (.exv c [] [])
 | dlk {a:Addr} {o:Obj} {kvs:List (Key×V)} {ks ps:List P}:F a=some (.frz o (.dK kvs))→ks=kvs.map (fun q=>lX q.1)→ay K F (kvs.map (·.2)) ps→Rp K F (.ref a) (.dlk ks ps)
inductive ay (K:Fr) (F:Hp):List V→List P→Prop
 | nil:ay K F [] []
 | cons {v:V} {vs:List V} {d:P} {ds:List P}:Rp K F v d→ay K F vs ds→ay K F (v::vs) (d::ds)
end
section
variable {K:Fr} {F F':Hp}
mutual
theorem Rp.mono (e:Same F F'):∀ (d:P) (v:V),Rp K F v d→Rp K F' v d
 | .non,_,h=>by cases h; exact .non
 | .bl b,_,h=>by cases h; exact .bl b
 | .int i,_,h=>by cases h; exact .int i
 | .str x,_,h=>by cases h; exact .str x
 | .lst ds,_,h=>by
  cases h with
  | lst hs ha=>exact .lst (e _ _ hs) (ay.mono e ds _ ha)
 | .tup ds,_,h=>by
  cases h with
  | tup hs ha=>exact .tup (GX e hs) (ay.mono e ds _ ha)
  | tupW hs ha hw=>exact .tupW (Oe e hs) (ay.mono e ds _ ha) hw
 | .dic _ ks ds,_,h=>by
  cases h with
  | dicK hs hk ha=>exact .dicK (e _ _ hs) hk (ay.mono e ds _ ha)
  | dicN hs h1 h2 h3 ha=>exact .dicN (e _ _ hs) (ay.mono e ks _ h1) h2 h3 (ay.mono e ds _ ha)
 | .ins c ks ds,_,h=>by
  cases h with
  | ins hs ho hk ha=>exact .ins (e _ _ hs) (e _ _ ho) hk (ay.mono e ds _ ha)
 | .glo x,_,h=>by cases h; exact .glo x
 | .ty x,_,h=>by cases h; exact .ty x
 | .scr ns,_,h=>by
  cases h with
  | scr hs=>exact .scr (cF e hs)
 | .exv c ks ds,_,h=>by
  cases h with
  | exv hs ho hk ha=>exact .exv (e _ _ hs) (e _ _ ho) hk (ay.mono e ds _ ha)
  | exv0 hs=>exact .exv0 (e _ _ hs)
 | .dlk _ ds,_,h=>by
  cases h with
  | dlk hs hk ha=>exact .dlk (e _ _ hs) hk (ay.mono e ds _ ha)
theorem ay.mono (e:Same F F'):∀ (ds:List P) (vs:List V),ay K F vs ds→ay K F' vs ds
 | [],_,h=>by cases h; exact .nil
 | d::ds,_,h=>by
  cases h with
  | cons h1 h2=>exact .cons (Rp.mono e d _ h1) (ay.mono e ds _ h2)
end
theorem ay.length:∀ {ds:List P} {vs:List V},ay K F vs ds→vs.length=ds.length
 | [],_,h=>by cases h; rfl
 | d::ds,_,h=>by
  cases h with
  | cons h1 h2=>rw[List.length_cons,List.length_cons,ay.length h2]
theorem ay.get:∀ {ds:List P} {vs:List V} {i:Nat} {v:V},ay K F vs ds→vs[i]?=some v→∃ d,ds[i]?=some d∧Rp K F v d
 | [],_,_,_,h,e=>by cases h; simp at e
 | d::ds,_,0,_,h,e=>by
  cases h with
  | cons h1 h2 =>
   simp at e
   subst e
   exact⟨d,rfl,h1⟩
 | d::ds,_,i+1,v,h,e=>by
  cases h with
  | cons h1 h2 =>
   obtain⟨d',e1,e2⟩:=ay.get (i:=i) (v:=v) h2 (by simpa using e)
   exact⟨d',by simpa using e1,e2⟩
theorem ay.get':∀ {ds:List P} {vs:List V} {i:Nat} {d:P},ay K F vs ds→ds[i]?=some d→∃ v,vs[i]?=some v∧Rp K F v d
 | [],_,_,_,h,e=>by simp at e
 | d::ds,_,0,_,h,e=>by
  cases h with
  | cons h1 h2 =>
   simp at e
   subst e
   exact⟨_,rfl,h1⟩
 | d::ds,_,i+1,v,h,e=>by
  cases h with
  | cons h1 h2 =>
   obtain⟨d',e1,e2⟩:=ay.get' (i:=i) (d:=v) h2 (by simpa using e)
   exact⟨d',by simpa using e1,e2⟩
theorem ay.append:∀ {ds es:List P} {vs ws:List V},ay K F vs ds→ay K F ws es→ay K F (vs++ws) (ds++es)
 | [],_,_,_,h,h'=>by cases h; exact h'
 | d::ds,_,_,_,h,h'=>by
  cases h with
  | cons h1 h2=>exact .cons h1 (ay.append h2 h')
theorem ay.take:∀ (n:Nat) {ds:List P} {vs:List V},ay K F vs ds→ay K F (vs.take n) (ds.take n)
 | 0,_,_,_=>by rw[List.take_zero,List.take_zero]; exact .nil
 | n+1,[],_,h=>by cases h; exact .nil
 | n+1,d::ds,_,h=>by
  cases h with
  | cons h1 h2=>exact .cons h1 (ay.take n h2)
theorem ay.drop:∀ (n:Nat) {ds:List P} {vs:List V},ay K F vs ds→ay K F (vs.drop n) (ds.drop n)
 | 0,_,_,h=>h
 | n+1,[],_,h=>by cases h; exact .nil
 | n+1,d::ds,_,h=>by
  cases h with
  | cons h1 h2=>exact ay.drop n h2
theorem ay.rev {ds:List P} {vs:List V} (h:ay K F vs ds):ay K F vs.reverse ds.reverse:=by
 induction ds generalizing vs with
 | nil=>cases h; exact .nil
 | cons d ds ih =>
  cases h with
  | cons h1 h2 =>
   rw[List.reverse_cons,List.reverse_cons]
   exact (ih h2).append (.cons h1 .nil)
end
structure bx (F H F' H':Hp):Prop where
 sF:Same F F'
 sH:Same H H'
 sub:Same F' H'
 fr:∀ a,F a=none→H a≠none→F' a=none
theorem bx.refl {F H:Hp} (s:Same F H):bx F H F H:=⟨Same.refl _,Same.refl _,s,fun _ h _=>h⟩
theorem HW {H H':Hp} {a:Addr} (e:Same H H') (h:H a≠none):H' a≠none:=by
 cases q:H a with
 | none=>exact absurd q h
 | some o=>rw[e a o q]; exact fun z=>nomatch z
theorem bx.trans {F H F1 H1 F2 H2:Hp} (a:bx F H F1 H1) (b:bx F1 H1 F2 H2):bx F H F2 H2 :=
 ⟨a.sF.trans b.sF,a.sH.trans b.sH,b.sub,fun x h1 h2=>b.fr x (a.fr x h1 h2) (HW a.sH h2)⟩
theorem bx.new {F H:Hp} {p:Addr} {o:HO} (s:Same F H) (n:H p=none):bx F H (upd F p o) (upd H p o):=by
 have nF:F p=none:=s.free n
 refine⟨fun a x e=>?_,fun a x e=>?_,fun a x e=>?_,fun a h1 h2=>?_⟩
 · rw[upd_ne (ne_of_none e nF)]; exact e
 · rw[upd_ne (ne_of_none e n)]; exact e
 · by_cases h:a=p
   · subst h; rw[upd_same] at e ⊢; exact e
   · rw[upd_ne h] at e ⊢; exact s _ _ e
 · have h:a≠p:=fun z=>h2 (by rw[z]; exact n)
   rw[upd_ne h]; exact h1
theorem bx.own {F H:Hp} {p:Addr} {o:HO} (s:Same F H) (n:H p=none):bx F H F (upd H p o) :=
 ⟨Same.refl _,fun a x e=>by rw[upd_ne (ne_of_none e n)]; exact e,fun a x e=>by rw[upd_ne (ne_of_none (s _ _ e) n)]; exact s _ _ e,fun _ h _=>h⟩
theorem Same.upd_new {H:Hp} {p:Addr} {o:HO} (n:H p=none):Same H (upd H p o):=fun a x e=>by
 rw[upd_ne (ne_of_none e n)]; exact e
def aP (K:Fr) (F:Hp) (R:List Addr) (v:V):D→Prop
 | .p p=>Rp K F v p
 | .ref n=>∃ a,R[n]?=some a∧v=.ref a
abbrev aF (K:Fr) (F:Hp) (R:List Addr):List V→List D→Prop:=Paired fun v d=>aP K F R v d
theorem pU {R R':List Addr} (e:R <+: R') {n:Nat} {a:Addr} (h:R[n]?=some a):R'[n]?=some a:=by
 obtain⟨t,rfl⟩:=e
 rw[List.getElem?_append_left (List.getElem?_eq_some_iff.mp h).1]; exact h
theorem aI {R:List Addr}:R <+: R:=⟨[],List.append_nil R⟩
theorem bf {R R' R'':List Addr} (e:R <+: R') (e':R' <+: R''):R <+: R'':=by
 obtain⟨t,rfl⟩:=e
 obtain⟨u,rfl⟩:=e'
 exact⟨t++u,by rw[List.append_assoc]⟩
theorem iz {R t:List Addr}:R <+: R++t:=⟨t,rfl⟩
section
variable {K:Fr} {F F':Hp} {R R':List Addr}
theorem aP.mono {v:V} {d:D} (e:Same F F') (eR:R <+: R') (h:aP K F R v d):aP K F' R' v d:=by
 cases d with
 | p p=>exact Rp.mono e _ _ h
 | ref n=>obtain⟨a,h1,h2⟩:=h; exact⟨a,pU eR h1,h2⟩
theorem aF.mono (e:Same F F') (eR:R <+: R'):∀ {vs:List V} {ds:List D},aF K F R vs ds→aF K F' R' vs ds
 | _,_, .nil=>.nil
 | _,_, .cons h t=>.cons (aP.mono e eR h) (aF.mono e eR t)
theorem aF.length:∀ {vs:List V} {ds:List D},aF K F R vs ds→vs.length=ds.length
 | _,_, .nil=>rfl
 | _,_, .cons _ t=>by rw[List.length_cons,List.length_cons,aF.length t]
theorem aF.get':∀ {vs:List V} {ds:List D} {i:Nat} {d:D},aF K F R vs ds→ds[i]?=some d→∃ v,vs[i]?=some v∧aP K F R v d
 | _,_,_,_, .nil,e=>by simp at e
 | _,_,0,_, .cons h t,e=>by simp at e; subst e; exact⟨_,rfl,h⟩
 | _,_,i+1,d, .cons h t,e=>by
  obtain⟨v,e1,e2⟩:=aF.get' (i:=i) (d:=d) t (by simpa using e)
  exact⟨v,by simpa using e1,e2⟩
theorem aF.append:∀ {vs ws:List V} {ds es:List D},aF K F R vs ds→aF K F R ws es→aF K F R (vs++ws) (ds++es)
 | _,_,_,_, .nil,h=>h
 | _,_,_,_, .cons h t,h'=>.cons h (aF.append t h')
theorem aF.set {v:V} {d:D} (h:aP K F R v d):∀ {vs:List V} {ds:List D} (i:Nat),aF K F R vs ds→aF K F R (vs.set i v) (ds.set i d)
 | _,_,_, .nil=>.nil
 | _,_,0, .cons _ t=>.cons h t
 | _,_,i+1, .cons q t=>.cons q (aF.set h i t)
theorem aF.of_p:∀ {vs:List V} {ps:List P},ay K F vs ps→aF K F R vs (ps.map .p)
 | _,[],h=>by cases h; exact .nil
 | _,p::ps,h=>by
  cases h with
  | cons h1 h2=>exact .cons h1 (aF.of_p h2)
theorem aF.to_p:∀ {vs:List V} {ps:List P},aF K F R vs (ps.map .p)→ay K F vs ps
 | _,[],h=>by cases h; exact .nil
 | _,p::ps,h=>by
  cases h with
  | cons h1 h2=>exact .cons h1 (aF.to_p h2)
end
def nil:Hp:=fun _=>none
def IV (l:Addr) (o:HO) (m:Addr) (u:HO):Hp:=fun a=>if a=l then some o else if a=m then some u else none
theorem dZ {l:Addr} {o:HO}:one l o l=some o:=if_pos rfl
theorem KU {l a:Addr} {o u:HO} (h:one l o a=some u):a=l∧o=u:=by
 unfold one at h
 split at h
 · rename_i e; cases h; exact⟨e,rfl⟩
 · cases h
theorem nR {l m:Addr} {o u:HO}:IV l o m u l=some o:=if_pos rfl
theorem Gc {l m:Addr} {o u:HO} (h:m≠l):IV l o m u m=some u:=by unfold IV; rw[if_neg h,if_pos rfl]
theorem Ls {l m a:Addr} {o u x:HO} (h:IV l o m u a=some x):(a=l∧x=o)∨(a=m∧x=u):=by
 unfold IV at h
 split at h
 · rename_i e; cases h; exact .inl ⟨e,rfl⟩
 · split at h
   · rename_i e; cases h; exact .inr ⟨e,rfl⟩
   · cases h
def Vi (K:PySem.W.Frag) (x:Str):Value:=match K.lookup (He.ga K x) with
 | some ⟨_,_, .func fd,_⟩=>fd.code
 | _=>.none
def V2 (K:PySem.W.Frag) (x:Str):Addr:=match Vi K x with
 | .ref c=>c
 | _=>0
def ON (K:PySem.W.Frag) (x:Str):Addr:=match K.lookup (V2 K x) with
 | some ⟨_,_, .fields vs,_⟩=>(match (vs[11]?:Option Value) with
  | some (.ref P)=>P
  | _=>0)
 | _=>0
def Wc (x:Str):Str:=(x++".<locals>.")++"<lambda>"
inductive dE (K:Fr) (F:Hp) (R:List Addr) (a:Addr):Hp→eQ→Prop
 | lst {vs:List V} {ds:List D}:aF K F R vs ds→dE K F R a (one a (.lst vs)) (.lst ds)
 | dicK {kvs:List (Key×V)} {ks:List P} {ds:List D}:ks=kvs.map (fun q=>lX q.1)→aF K F R (kvs.map (·.2)) ds→dE K F R a (one a (.dK kvs)) (.dic false ks ds)
 | dicN {kvs:List (NestedKey×Addr×V)} {ks:List P} {ds:List D}:ay K F (kvs.map fun q=>.ref q.2.1) ks→ks.map pA=kvs.map (fun q=>some q.1)→(∀ q∈kvs,q.1.depth≤8)→aF K F R (kvs.map (·.2.2)) ds→dE K F R a (one a (dN K.pg K.w a kvs)) (.dic true ks ds)
 | ins {dx:Addr} {c:Str} {fs:List (Str×V)} {ks:List Str} {ds:List D}:dx≠a→ks=fs.map (·.1)→aF K F R (fs.map (·.2)) ds→dE K F R a (IV a (.ins (He.ga K.K c) dx fs) dx (.own a)) (.ins c ks ds)
 | dead:dE K F R a nil .dead
 | tupf {o:Obj} {vs:List V} {ps:List P}:F a=some (.frz o (.tup vs))→o.dict=none→ay K F vs ps→dE K F R a nil (.tupf ps)
 | tpl {o:Obj} {vs:List V} {ds:List D}:F a=some (.frz o (.tup vs))→o.dict=none→aF K F R vs ds→dE K F R a nil (.tpl ds)
 | tab {x:Str} {ps:Array Value}:a=ON K.K x→TriplesOk ps.toList→(∀ pos cv,codeAmong pos ps.toList=some cv→∃ c,cv=.ref c∧F c=some (LamX.CodeO c (Wc x)))→dE K F R a (one a (.tbl ps)) (.tab x)
theorem dE.mono {K:Fr} {F F':Hp} {R R':List Addr} {a:Addr} {pc:Hp} {c:eQ} (e:Same F F') (eR:R <+: R') (h:dE K F R a pc c):dE K F' R' a pc c:=by
 cases h with
 | lst h=>exact .lst (h.mono e eR)
 | dicK hk h=>exact .dicK hk (h.mono e eR)
 | dicN h1 h2 h3 h=>exact .dicN (ay.mono e _ _ h1) h2 h3 (h.mono e eR)
 | ins hd hk h=>exact .ins hd hk (h.mono e eR)
 | dead=>exact .dead
 | tupf h0 h1 h2=>exact .tupf (e _ _ h0) h1 (ay.mono e _ _ h2)
 | tpl h0 h1 h2=>exact .tpl (e _ _ h0) h1 (h2.mono e eR)
 | tab h0 h1 h2=>exact .tab h0 h1 fun pos cv z=>let ⟨c,e1,e2⟩:=h2 pos cv z; ⟨c,e1,e _ _ e2⟩
structure UC (K:Fr) (G F:Hp) (R:List Addr) (S:ag) (H:Hp) (pc:Nat→Hp):Prop where
 sub:Same F H
 len:R.length=S.length
 ok:∀ (n:Nat) c,S[n]?=some c→∃ a,R[n]?=some a∧dE K F R a (pc n) c
 out:∀ n a o,pc n a=some o→F a=none∧H a=some o
 sep:∀ n m a,pc n a≠none→pc m a≠none→n=m
 emp:∀ n,S.length≤n→pc n=nil
 grd:∀ a o,G a=some o→H a=some o∧F a=none∧∀ n,pc n a=none
def bQ (K:Fr) (G F:Hp) (R:List Addr) (S:ag) (H:Hp):Prop:=∃ pc,UC K G F R S H pc
def put (pc:Nat→Hp) (i:Nat) (h:Hp):Nat→Hp:=fun j=>if j=i then h else pc j
theorem iT {pc:Nat→Hp} {i:Nat} {h:Hp}:put pc i h i=h:=if_pos rfl
theorem jJ {pc:Nat→Hp} {i j:Nat} {h:Hp} (n:j≠i):put pc i h j=pc j:=if_neg n
section
variable {K:Fr} {G F H F' H':Hp} {R R':List Addr} {S:ag} {pc:Nat→Hp}
theorem bQ.sub (h:bQ K G F R S H):Same F H:=let ⟨_,h⟩:=h; h.sub
theorem bQ.len (h:bQ K G F R S H):R.length=S.length:=let ⟨_,h⟩:=h; h.len
theorem bQ.grow (h:bQ K G F R S H) (g:bx F H F' H'):bQ K G F' R S H':=by
 obtain⟨pc,h⟩:=h
 exact⟨pc,g.sub,h.len,fun n c e=>let ⟨a,e1,e2⟩:=h.ok n c e; ⟨a,e1,e2.mono g.sF aI⟩,
  fun n a o e=>let ⟨h1,h2⟩:=h.out n a o e; ⟨g.fr a h1 (by rw[h2]; exact fun z=>nomatch z),g.sH _ _ h2⟩,h.sep,h.emp,fun a o e=>let ⟨h1,h2,h3⟩:=h.grd a o e; ⟨g.sH _ _ h1,g.fr a h2 (by rw[h1]; exact fun z=>nomatch z),h3⟩⟩
theorem UC.free (h:UC K G F R S H pc) {a:Addr} (n:H a=none) (m:Nat):pc m a=none:=by
 cases q:pc m a with
 | none=>rfl
 | some o=>rw[(h.out m a o q).2] at n; cases n
theorem Jb {α:Type} {S:List α} {c x:α} {n:Nat} (h:(S++[c])[n]?=some x):S[n]?=some x∨(n=S.length∧x=c):=by
 by_cases hn:n < S.length
 · rw[List.getElem?_append_left hn] at h; exact .inl h
 · rw[List.getElem?_append_right (by omega)] at h
   cases hk:n - S.length with
   | zero=>rw[hk] at h; simp at h; exact .inr ⟨by omega,h.symm⟩
   | succ k=>rw[hk] at h; simp at h
theorem bQ.push (h:bQ K G F R S H) {a:Addr} {q:Hp} {c:eQ} (hq:∀ b o,q b=some o→H b=none) (hc:dE K F (R++[a]) a q c) (hH:∀ b,H' b=match q b with | some o=>some o | none=>H b):bQ K G F (R++[a]) (S++[c]) H':=by
 obtain⟨pc,h⟩:=h
 have hpn:pc S.length=nil:=h.emp _ (Nat.le_refl _)
 have old:∀ b o,H b=some o→H' b=some o:=fun b o e=>by
  rw[hH]
  cases z:q b with
  | none=>exact e
  | some u=>rw[hq b u z] at e; cases e
 refine⟨put pc S.length q,fun b o e=>old _ _ (h.sub _ _ e),by rw[List.length_append,List.length_append,h.len]; rfl,fun n c' e=>?_,fun n b o e=>?_,fun n m b e1 e2=>?_,fun n hn=>?_,fun b o e=>?_⟩
 · rcases Jb e with e | ⟨rfl,rfl⟩
   · obtain⟨a',e1,e2⟩:=h.ok n c' e
     have hn:n≠S.length:=fun z=>by have:=(List.getElem?_eq_some_iff.mp e).1; omega
     exact⟨a',pU iz e1,by rw[jJ hn]; exact e2.mono (Same.refl _) iz⟩
   · refine⟨a,?_,by rw[iT]; exact hc⟩
     rw[← h.len,List.getElem?_append_right (Nat.le_refl _),Nat.sub_self]; rfl
 · by_cases hn:n=S.length
   · subst hn
     rw[iT] at e
     exact⟨h.sub.free (hq b o e),by rw[hH,e]⟩
   · rw[jJ hn] at e
     obtain⟨h1,h2⟩:=h.out n b o e
     exact⟨h1,old _ _ h2⟩
 · by_cases hn:n=S.length
   · by_cases hm:m=S.length
     · rw[hn,hm]
     · rw[hn,iT] at e1
       rw[jJ hm] at e2
       cases z:q b with
       | none=>exact absurd z e1
       | some o=>exact absurd (h.free (hq b o z) m) e2
   · rw[jJ hn] at e1
     by_cases hm:m=S.length
     · rw[hm,iT] at e2
       cases z:q b with
       | none=>exact absurd z e2
       | some o=>exact absurd (h.free (hq b o z) n) e1
     · rw[jJ hm] at e2
       exact h.sep n m b e1 e2
 · have hn:S.length+1≤n:=by rw[List.length_append] at hn; exact hn
   rw[jJ (by omega)]
   exact h.emp n (by omega)
 · obtain⟨h1,h2,h3⟩:=h.grd b o e
   refine⟨old _ _ h1,h2,fun n=>?_⟩
   by_cases hn:n=S.length
   · rw[hn,iT]
     cases z:q b with
     | none=>rfl
     | some u=>rw[hq b u z] at h1; cases h1
   · rw[jJ hn]; exact h3 n
theorem bQ.push1 (h:bQ K G F R S H) {a:Addr} {o:HO} {c:eQ} (n:H a=none) (hc:dE K F (R++[a]) a (one a o) c):bQ K G F (R++[a]) (S++[c]) (upd H a o) :=
 h.push (fun b u e=>by obtain⟨rfl,_⟩:=KU e; exact n) hc fun b=>by
  unfold upd one
  by_cases hb:b=a
  · rw[if_pos hb,if_pos hb]
  · rw[if_neg hb,if_neg hb]
theorem bQ.at (h:bQ K G F R S H) {n:Nat} {c:eQ} (e:S[n]?=some c):∃ a q,R[n]?=some a∧dE K F R a q c∧∀ b o,q b=some o→F b=none∧H b=some o:=by
 obtain⟨pc,h⟩:=h
 obtain⟨a,e1,e2⟩:=h.ok n c e
 exact⟨a,pc n,e1,e2,fun b o z=>h.out n b o z⟩
theorem Ba {α:Type} {l:List α} {i j:Nat} {a b:α} (h:(l.set i a)[j]?=some b):(j=i∧b=a)∨(j≠i∧l[j]?=some b):=by
 by_cases hj:j=i
 · subst hj
   have hl:=(List.getElem?_eq_some_iff.mp h).1
   rw[List.length_set] at hl
   rw[List.getElem?_set_self hl] at h
   exact .inl ⟨rfl,(Option.some.inj h).symm⟩
 · rw[List.getElem?_set_ne (Ne.symm hj)] at h
   exact .inr ⟨hj,h⟩
theorem bQ.mut (h:bQ K G F R S H) {n:Nat} {c c':eQ} {a b:Addr} {q':Hp→Hp} {o:HO} (e:S[n]?=some c) (ea:R[n]?=some a) (hb:∀ q,dE K F R a q c→(∀ x u,q x=some u→H x=some u)→q b≠none∧dE K F R a (upd q b o) c'):bQ K G F R (S.set n c') (upd H b o):=by
 obtain⟨pc,h⟩:=h
 obtain⟨a',e1,e2⟩:=h.ok n c e
 rw[ea] at e1; cases e1
 obtain⟨nb,hc⟩:=hb _ e2 fun x u z=>(h.out n x u z).2
 obtain⟨ob,CH⟩:∃ ob,pc n b=some ob:=by
  cases z:pc n b with
  | none=>exact absurd z nb
  | some ob=>exact⟨ob,rfl⟩
 obtain⟨fb,Hb⟩:=h.out n b ob CH
 refine⟨put pc n (upd (pc n) b o),fun x u z=>?_,by rw[List.length_set]; exact h.len,fun m x z=>?_,fun m x u z=>?_,fun m k x z1 z2=>?_,fun m hm=>?_,fun x u z=>?_⟩
 · rw[upd_ne (ne_of_none z fb)]; exact h.sub _ _ z
 · rcases Ba z with ⟨rfl,rfl⟩ | ⟨hm,z⟩
   · exact⟨a,ea,by rw[iT]; exact hc⟩
   · obtain⟨a2,z1,z2⟩:=h.ok m x z
     exact⟨a2,z1,by rw[jJ hm]; exact z2⟩
 · by_cases hm:m=n
   · subst hm
     rw[iT] at z
     by_cases hx:x=b
     · subst hx; rw[upd_same] at z; exact⟨fb,by rw[upd_same]; exact z⟩
     · rw[upd_ne hx] at z
       rw[upd_ne hx]
       exact h.out m x u z
   · rw[jJ hm] at z
     obtain⟨z1,z2⟩:=h.out m x u z
     refine⟨z1,?_⟩
     rw[upd_ne (fun y=>by
      subst y
      exact hm (h.sep m n x (by rw[z]; exact fun y=>nomatch y) (by rw[CH]; exact fun y=>nomatch y)))]
     exact z2
 · have key:∀ j,put pc n (upd (pc n) b o) j x≠none→pc j x≠none:=fun j hj=>by
    by_cases hjn:j=n
    · subst hjn
      rw[iT] at hj
      by_cases hx:x=b
      · subst hx; rw[CH]; exact fun y=>nomatch y
      · rw[upd_ne hx] at hj; exact hj
    · rw[jJ hjn] at hj; exact hj
   exact h.sep m k x (key m z1) (key k z2)
 · rw[List.length_set] at hm
   have:n < S.length:=(List.getElem?_eq_some_iff.mp e).1
   rw[jJ (by omega)]
   exact h.emp m hm
 · obtain⟨z1,z2,z3⟩:=h.grd x u z
   have hx:x≠b:=fun y=>by subst y; rw[z3 n] at CH; cases CH
   refine⟨by rw[upd_ne hx]; exact z1,z2,fun m=>?_⟩
   by_cases hm:m=n
   · rw[hm,iT,upd_ne hx]; exact z3 n
   · rw[jJ hm]; exact z3 m
end
structure A3 where
 P:Hp→List Addr→Prop
 mono:∀ F F' R R',Same F F'→R <+: R'→P F R→P F' R'
def A3.nil:A3:=⟨fun _ _=>True,fun _ _ _ _ _ _ _=>trivial⟩
structure SlR (K:Fr) (px:A3) (F:Hp) (R:List Addr) (σ:L2.St) (sl:av):Prop where
 len:σ.length=sl.length
 get:∀ (i:Nat) d,sl[i]?=some (some d)→∃ v,σ[i]?=some (some v)∧aP K F R v d
 pin:px.P F R
section
variable {K:Fr} {px:A3} {F H F' H':Hp} {R R':List Addr} {S:ag} {σ:L2.St} {sl:av}
theorem SlR.mono (h:SlR K px F R σ sl) (e:Same F F') (eR:R <+: R'):SlR K px F' R' σ sl:=⟨h.len,fun i d z=>let ⟨v,z1,z2⟩:=h.get i d z; ⟨v,z1,z2.mono e eR⟩,px.mono _ _ _ _ e eR h.pin⟩
theorem SlR.set (h:SlR K px F R σ sl) {i:Nat} {v:V} {d:D} (hv:aP K F R v d):SlR K px F R (σ.set i (some v)) (sl.set i (some d)):=by
 refine⟨by rw[List.length_set,List.length_set]; exact h.len,fun j d' e=>?_,h.pin⟩
 rcases Ba e with ⟨rfl,e'⟩ | ⟨hj,e⟩
 · cases e'
   have hl:=(List.getElem?_eq_some_iff.mp e).1
   rw[List.length_set] at hl
   exact⟨v,by rw[List.getElem?_set_self (by rw[h.len]; exact hl)],hv⟩
 · obtain⟨w,e1,e2⟩:=h.get j d' e
   exact⟨w,by rw[List.getElem?_set_ne (Ne.symm hj)]; exact e1,e2⟩
theorem SlR.setN (h:SlR K px F R σ sl) {i:Nat} {o:Option V}:SlR K px F R (σ.set i o) (sl.set i none):=by
 refine⟨by rw[List.length_set,List.length_set]; exact h.len,fun j d' e=>?_,h.pin⟩
 rcases Ba e with ⟨rfl,e'⟩ | ⟨hj,e⟩
 · cases e'
 · obtain⟨w,e1,e2⟩:=h.get j d' e
   exact⟨w,by rw[List.getElem?_set_ne (Ne.symm hj)]; exact e1,e2⟩
end
structure Kx where
 X:Cx
 W:WX
 tk:L2N.Takes X W
 G:Hp
 px:A3
theorem ny {X:Cx}:L2N.Takes X (fun _ _ _ _=>False):=fun _ _ x=>by
 obtain⟨_,_,_,_,_,_,_,_,_,_,_,_,_,_,_,_,hf⟩:=x
 exact hf.elim
abbrev Kx.K (C:Kx):Fr:=⟨C.X.K,C.X.prog,C.X.w⟩
def FH (K:Fr) (F:Hp) (cls:Value) (d:Option Addr) (x:Xc):Prop :=
 cls=.ref (He.ga K.K x.c)∧((x.ks=[]∧x.ps=[]∧d=none)∨∃ a fs,d=some a∧F a=some (.xd fs)∧x.ks=fs.map (·.1)∧ay K F (fs.map (·.2)) x.ps)
section
variable {α β γ δ:Type}
def aK (C:Kx) (σ:L2.St) (F:Hp) (R:List Addr) (rel:Hp→List Addr→β→α→Prop) (Q:β→Hp→Prop):Rs α→Prop
 | .ok a S'=>∀ b F' R' H',rel F' R' b a→bQ C.K C.G F' R' S' H'→Same F F'→R <+: R'→Q b H'
 | .exc x S'=>∀ cls d F' R' H',FH C.K F' cls d x→bQ C.K C.G F' R' S' H'→Same F F'→R <+: R'→C.W cls d σ H'
 | .no=>False
variable {C:Kx} {σ:L2.St} {F F1:Hp} {R R1:List Addr} {rel:Hp→List Addr→β→α→Prop} {Q:β→Hp→Prop}
theorem aK.mono {r:Rs α} (h:aK C σ F R rel Q r) (e:Same F F1) (eR:R <+: R1):aK C σ F1 R1 rel Q r:=by
 cases r with
 | ok a S=>exact fun b F' R' H' h1 h2 h3 h4=>h b F' R' H' h1 h2 (e.trans h3) (bf eR h4)
 | exc x S=>exact fun c d F' R' H' h1 h2 h3 h4=>h c d F' R' H' h1 h2 (e.trans h3) (bf eR h4)
 | no=>exact h.elim
theorem aK.bind {HN:Hp→List Addr→δ→γ→Prop} {Q2:δ→Hp→Prop} {r:Rs α} {f:α→ag→Rs γ} (h:aK C σ F R HN Q2 (r.bind f))
  (k:∀ a S1 b F1 R1 H1,r=.ok a S1→rel F1 R1 b a→bQ C.K C.G F1 R1 S1 H1→Same F F1→R <+: R1→aK C σ F1 R1 HN Q2 (f a S1)→Q b H1):aK C σ F R rel Q r:=by
 cases r with
 | ok a S=>exact fun b F' R' H' h1 h2 h3 h4=>k a S b F' R' H' rfl h1 h2 h3 h4 (aK.mono h h3 h4)
 | exc x S=>exact h
 | no=>exact h.elim
theorem aK.okv {rel:Hp→List Addr→β→α→Prop} {a:α} {S:ag} {b:β} {H:Hp} (h:aK C σ F R rel Q (.ok a S)) (h1:rel F R b a) (h2:bQ C.K C.G F R S H):Q b H:=h b F R H h1 h2 (Same.refl _) aI
end
abbrev M:=av→ag→Rs D
abbrev MT:=av→ag→Rs Bool
abbrev MA:=av→ag→Rs (List D)
abbrev rB:Hp→List Addr→Bool→Bool→Prop:=fun _ _ b a=>b=a
structure Ej (C:Kx) (m:M) (e:Expr):Prop where
 run:∀ sl S σ F R H,SlR C.K C.px F R σ sl→bQ C.K C.G F R S H→∀ Q:VK,aK C σ F R (aP C.K) Q (m sl S)→ED C.X e σ H Q
instance {C:Kx} {m:M} {e:Expr}:CoeFun (Ej C m e) (fun _=>∀ sl S σ F R H,SlR C.K C.px F R σ sl→bQ C.K C.G F R S H→∀ Q:VK,aK C σ F R (aP C.K) Q (m sl S)→ED C.X e σ H Q):=⟨fun h=>h.run⟩
structure Tj (C:Kx) (m:MT) (e:Expr):Prop where
 run:∀ sl S σ F R H,SlR C.K C.px F R σ sl→bQ C.K C.G F R S H→∀ Q:Bool→Hp→Prop,aK C σ F R rB Q (m sl S)→TD C.X e σ H Q
instance {C:Kx} {m:MT} {e:Expr}:CoeFun (Tj C m e) (fun _=>∀ sl S σ F R H,SlR C.K C.px F R σ sl→bQ C.K C.G F R S H→∀ Q:Bool→Hp→Prop,aK C σ F R rB Q (m sl S)→TD C.X e σ H Q):=⟨fun h=>h.run⟩
structure Wj (C:Kx) (m:MT) (e:Expr):Prop where
 run:∀ sl S σ F R H,SlR C.K C.px F R σ sl→bQ C.K C.G F R S H→∀ Q:Bool→Hp→Prop,aK C σ F R rB Q (m sl S)→WD C.X e σ H Q
instance {C:Kx} {m:MT} {e:Expr}:CoeFun (Wj C m e) (fun _=>∀ sl S σ F R H,SlR C.K C.px F R σ sl→bQ C.K C.G F R S H→∀ Q:Bool→Hp→Prop,aK C σ F R rB Q (m sl S)→WD C.X e σ H Q):=⟨fun h=>h.run⟩
structure Aj (C:Kx) (m:MA) (es:List Expr):Prop where
 run:∀ sl S σ F R H,SlR C.K C.px F R σ sl→bQ C.K C.G F R S H→∀ Q:List V→Hp→Prop,aK C σ F R (aF C.K) Q (m sl S)→AD C.X es σ H Q
instance {C:Kx} {m:MA} {es:List Expr}:CoeFun (Aj C m es) (fun _=>∀ sl S σ F R H,SlR C.K C.px F R σ sl→bQ C.K C.G F R S H→∀ Q:List V→Hp→Prop,aK C σ F R (aF C.K) Q (m sl S)→AD C.X es σ H Q):=⟨fun h=>h.run⟩
inductive Fl where
 | nx (sl:av) (S:ag)
 | rt (d:D) (S:ag)
 | bk (sl:av) (S:ag)
 | ct (sl:av) (S:ag)
 | exc (x:Xc) (sl:av) (S:ag)
 | no
abbrev MS:=av→ag→Fl
def bM (C:Kx) (F:Hp) (R:List Addr) (D:Ends):Fl→Prop
 | .nx sl S=>∀ σ' F' R' H',SlR C.K C.px F' R' σ' sl→bQ C.K C.G F' R' S H'→Same F F'→R <+: R'→D.nx σ' H'
 | .rt d S=>∀ v F' R' H',aP C.K F' R' v d→bQ C.K C.G F' R' S H'→Same F F'→R <+: R'→D.rt v H'
 | .bk sl S=>∀ σ' F' R' H',SlR C.K C.px F' R' σ' sl→bQ C.K C.G F' R' S H'→Same F F'→R <+: R'→D.bk σ' H'
 | .ct sl S=>∀ σ' F' R' H',SlR C.K C.px F' R' σ' sl→bQ C.K C.G F' R' S H'→Same F F'→R <+: R'→D.ct σ' H'
 | .exc x sl S=>∀ cls d σ' F' R' H',FH C.K F' cls d x→SlR C.K C.px F' R' σ' sl→bQ C.K C.G F' R' S H'→Same F F'→R <+: R'→C.W cls d σ' H'
 | .no=>False
theorem bM.mono {C:Kx} {F F1:Hp} {R R1:List Addr} {D:Ends} {r:Fl} (h:bM C F R D r) (e:Same F F1) (eR:R <+: R1):bM C F1 R1 D r:=by
 cases r with
 | nx sl S=>exact fun b F' R' H' h1 h2 h3 h4=>h b F' R' H' h1 h2 (e.trans h3) (bf eR h4)
 | rt sl S=>exact fun b F' R' H' h1 h2 h3 h4=>h b F' R' H' h1 h2 (e.trans h3) (bf eR h4)
 | bk sl S=>exact fun b F' R' H' h1 h2 h3 h4=>h b F' R' H' h1 h2 (e.trans h3) (bf eR h4)
 | ct sl S=>exact fun b F' R' H' h1 h2 h3 h4=>h b F' R' H' h1 h2 (e.trans h3) (bf eR h4)
 | exc x sl S=>exact fun c d σ' F' R' H' h0 h1 h2 h3 h4=>h c d σ' F' R' H' h0 h1 h2 (e.trans h3) (bf eR h4)
 | no=>exact h.elim
structure zl (C:Kx) (m:MS) (st:Stmt):Prop where
 run:∀ sl S σ F R H,SlR C.K C.px F R σ sl→bQ C.K C.G F R S H→∀ D:Ends,bM C F R D (m sl S)→yC C.X st D σ H
instance {C:Kx} {m:MS} {st:Stmt}:CoeFun (zl C m st) (fun _=>∀ sl S σ F R H,SlR C.K C.px F R σ sl→bQ C.K C.G F R S H→∀ D:Ends,bM C F R D (m sl S)→yC C.X st D σ H):=⟨fun h=>h.run⟩
structure Sj (C:Kx) (m:MS) (ss:List Stmt):Prop where
 run:∀ sl S σ F R H,SlR C.K C.px F R σ sl→bQ C.K C.G F R S H→∀ D:Ends,bM C F R D (m sl S)→SD C.X ss D σ H
instance {C:Kx} {m:MS} {ss:List Stmt}:CoeFun (Sj C m ss) (fun _=>∀ sl S σ F R H,SlR C.K C.px F R σ sl→bQ C.K C.G F R S H→∀ D:Ends,bM C F R D (m sl S)→SD C.X ss D σ H):=⟨fun h=>h.run⟩
def Rs.st {α:Type} (r:Rs α) (sl:av) (f:α→ag→Fl):Fl:=match r with
 | .ok a S=>f a S
 | .exc x S=>.exc x sl S
 | .no=>.no
theorem bM.bind {α β:Type} {C:Kx} {σ:L2.St} {F:Hp} {R:List Addr} {D:Ends} {sl:av} {rel:Hp→List Addr→β→α→Prop} {Q:β→Hp→Prop} {r:Rs α} {f:α→ag→Fl} (h:bM C F R D (r.st sl f)) (hs:SlR C.K C.px F R σ sl)
  (k:∀ a S1 b F1 R1 H1,r=.ok a S1→rel F1 R1 b a→bQ C.K C.G F1 R1 S1 H1→Same F F1→R <+: R1→SlR C.K C.px F1 R1 σ sl→bM C F1 R1 D (f a S1)→Q b H1):aK C σ F R rel Q r:=by
 cases r with
 | ok a S=>exact fun b F' R' H' h1 h2 h3 h4=>k a S b F' R' H' rfl h1 h2 h3 h4 (hs.mono h3 h4) (bM.mono h h3 h4)
 | exc x S=>exact fun c d F' R' H' h0 h1 h2 h3=>h c d σ F' R' H' h0 (hs.mono h2 h3) h1 h2 h3
 | no=>exact h.elim
def BI:Expr→Bool
 | .Starred _ _=>false
 | _=>true
theorem bO {e:Expr} {es:List Expr} {env:Env} (h:BI e=true):starEach (e::es) env=(false,eval e env)::starEach es env:=by
 cases e <;> first | rfl | cases h
theorem Mg:∀ {es:List Expr} {env:Env},es.all BI=true→(starEach es env).any (·.1)=false
 | [],_,_=>rfl
 | e::es,env,h=>by
  rw[List.all_cons,Bool.and_eq_true] at h
  rw[bO h.1,List.any_cons,Mg h.2]
  rfl
theorem de {es:List Expr} {env:Env} {pos:Pos} (h:es.all BI=true):(backTo pos (starEach es env)).any (·.1)=false:=by
 have:=Mg (env:=env) h
 unfold backTo
 cases hq:starEach es env with
 | nil=>simp
 | cons x xs=>rw[hq] at this; simp_all
theorem jc:∀ {ds:List D} {ps:List P},cR ds=some ps→ds=ps.map .p
 | [],_,h=>by cases h; rfl
 | .p p::ds,ps,h=>by
  cases hq:cR ds with
  | none=>simp only[cR,hq] at h; cases h
  | some qs=>simp only[cR,hq] at h; cases h; rw[jc hq]; rfl
 | .ref _::_,_,h=>by cases h
inductive Vw (K:Fr) (F H:Hp):V→P→Prop
 | p {v:V} {p:P}:Rp K F v p→Vw K F H v p
 | lst {a:Addr} {vs:List V} {ps:List P}:H a=some (.lst vs)→ay K F vs ps→Vw K F H (.ref a) (.lst ps)
 | dicK {a:Addr} {kvs:List (Key×V)} {ks ps:List P}:H a=some (.dK kvs)→ks=kvs.map (fun q=>lX q.1)→ay K F (kvs.map (·.2)) ps→Vw K F H (.ref a) (.dic false ks ps)
 | dicN {a:Addr} {kvs:List (NestedKey×Addr×V)} {ks ps:List P}:H a=some (dN K.pg K.w a kvs)→ay K F (kvs.map fun q=>.ref q.2.1) ks→ks.map pA=kvs.map (fun q=>some q.1)→(∀ q∈kvs,q.1.depth≤8)→ay K F (kvs.map (·.2.2)) ps→Vw K F H (.ref a) (.dic true ks ps)
 | ins {a dx:Addr} {c:Str} {fs:List (Str×V)} {ks:List Str} {ps:List P}:H a=some (.ins (He.ga K.K c) dx fs)→H dx=some (.own a)→ks=fs.map (·.1)→ay K F (fs.map (·.2)) ps→Vw K F H (.ref a) (.ins c ks ps)
section
variable {K:Fr} {G F H:Hp} {R:List Addr} {S:ag} {v:V} {p:P}
theorem ec {d:D} (hv:aP K F R v d) (h:bQ K G F R S H) (e:view S d=some p):Vw K F H v p:=by
 cases d with
 | p q=>cases e; exact .p hv
 | ref n =>
  obtain⟨a,ha,rfl⟩:=hv
  cases hc:S[n]? with
  | none=>simp only[view,hc] at e; cases e
  | some c =>
   have e:lM c=some p:=by simpa only[view,hc] using e
   obtain⟨a',q,ha',ok,out⟩:=h.at hc
   rw[ha] at ha'; cases ha'
   cases ok with
   | @lst vs ds hr =>
    cases hp:cR ds with
    | none=>simp only[lM,hp] at e; cases e
    | some ps =>
     simp only[lM,hp] at e; cases e
     rw[jc hp] at hr
     exact .lst (out a _ dZ).2 hr.to_p
   | @dicK kvs ks ds hk hr =>
    cases hp:cR ds with
    | none=>simp only[lM,hp] at e; cases e
    | some ps =>
     simp only[lM,hp] at e; cases e
     rw[jc hp] at hr
     exact .dicK (out a _ dZ).2 hk hr.to_p
   | @dicN kvs ks ds h1 h2 h3 hr =>
    cases hp:cR ds with
    | none=>simp only[lM,hp] at e; cases e
    | some ps =>
     simp only[lM,hp] at e; cases e
     rw[jc hp] at hr
     exact .dicN (out a _ dZ).2 h1 h2 h3 hr.to_p
   | @ins dx c fs ks ds hd hk hr =>
    cases hp:cR ds with
    | none=>simp only[lM,hp] at e; cases e
    | some ps =>
     simp only[lM,hp] at e; cases e
     rw[jc hp] at hr
     exact .ins (out a _ nR).2 (out dx _ (Gc hd)).2 hk hr.to_p
   | dead=>cases e
   | tupf h0 h1 h2=>cases e; exact .p (.tup ⟨_,h0,h1⟩ h2)
   | tpl h0 h1 hr =>
    rename_i ds
    cases hp:cR ds with
    | none=>simp only[lM,hp] at e; cases e
    | some ps =>
     simp only[lM,hp] at e; cases e
     rw[jc hp] at hr
     exact .p (.tup ⟨_,h0,h1⟩ hr.to_p)
   | tab _ _ _=>cases e
theorem Vw.rd (h:Vw K F H v p) (s:Same F H):Rp K H v p:=by
 cases h with
 | p h=>exact Rp.mono s _ _ h
 | lst h1 h2=>exact .lst h1 (ay.mono s _ _ h2)
 | dicK h1 h2 h3=>exact .dicK h1 h2 (ay.mono s _ _ h3)
 | dicN h1 h2 h3 h4 h5=>exact .dicN h1 (ay.mono s _ _ h2) h3 h4 (ay.mono s _ _ h5)
 | ins h1 h2 h3 h4=>exact .ins h1 h2 h3 (ay.mono s _ _ h4)
theorem Vw.int {i:Int} (h:Vw K F H v (.int i)):v=.int i:=by cases h with | p h=>cases h; rfl
theorem Vw.str {z:Str} (h:Vw K F H v (.str z)):v=.str z:=by cases h with | p h=>cases h; rfl
theorem Vw.bl {b:Bool} (h:Vw K F H v (.bl b)):v=.bl b:=by cases h with | p h=>cases h; rfl
theorem Vw.non (h:Vw K F H v .non):v=.non:=by cases h with | p h=>cases h; rfl
theorem Vw.lstE {ps:List P} (h:Vw K F H v (.lst ps)) (s:Same F H):∃ a vs,v=.ref a∧H a=some (.lst vs)∧ay K F vs ps:=by
 cases h with
 | p h=>cases h with | lst h1 h2=>exact⟨_,_,rfl,s _ _ h1,h2⟩
 | lst h1 h2=>exact⟨_,_,rfl,h1,h2⟩
theorem Vw.tupE {ps:List P} (h:Vw K F H v (.tup ps)):∃ a vs,v=.ref a∧SqT K.K F a vs∧ay K F vs ps:=by
 cases h with
 | p h =>
  cases h with
  | tup h1 h2=>exact⟨_,_,rfl,h1.sq,h2⟩
  | tupW h1 h2=>exact⟨_,_,rfl,h1.sq,h2⟩
theorem Vw.tupP {ps:List P} (h:Vw K F H v (.tup ps)):Rp K F v (.tup ps):=by
 cases h with
 | p h=>exact h
theorem Vw.scrE {ns:List Int} (h:Vw K F H v (.scr ns)) (s:Same F H):∃ a,v=.ref a∧SqL K.K H a (ns.map V.int):=by
 cases h with
 | p h=>cases h with | scr h1=>exact⟨_,rfl,cF s h1⟩
end
mutual
def eqv:P→P→Bool
 | .non, .non=>true
 | .bl a, .bl b=>a == b
 | .bl a, .int j=>(if a then 1 else 0) == j
 | .int i, .bl b=>i == (if b then 1 else 0)
 | .int i, .int j=>i == j
 | .str x, .str y=>x == y
 | .lst xs, .lst ys=>eqvAll xs ys
 | .tup xs, .tup ys=>eqvAll xs ys
 | _,_=>false
def eqvAll:List P→List P→Bool
 | [],[]=>true
 | x::xs,y::ys=>eqv x y && eqvAll xs ys
 | _,_=>false
end
mutual
def py:P→PyData
 | .non=>.none
 | .bl b=>.bool b
 | .int i=>.int i
 | .str z=>.str z
 | .lst ps=>.list (je ps)
 | .tup ps=>.tuple (je ps)
 | _=>.none
def je:List P→List PyData
 | []=>[]
 | p::ps=>py p::je ps
end
def di (x:Str):Bool:=PyData.strOk x
def fin:Nat→P→Bool
 | _, .non=>true
 | _, .bl _=>true
 | _, .int _=>true
 | _, .str x=>di x
 | n+1, .lst xs=>xs.all (fin n)
 | n+1, .tup xs=>xs.all (fin n)
 | _,_=>false
abbrev dpt:Nat:=24
theorem lY:∀ {xs:List PyData},(∀ x∈xs,PyData.canLay0 x=true)→PyData.canLayAll0 xs=true
 | [],_=>by simp[PyData.canLayAll0]
 | x::xs,h=>by
  simp only[PyData.canLayAll0,Bool.and_eq_true]
  exact⟨h x (List.mem_cons_self ..),lY fun y hy=>h y (List.mem_cons_of_mem _ hy)⟩
theorem pL {n:Nat}:∀ {xs:List PyData},(∀ x∈xs,PyData.depth x≤n)→PyData.depthAll xs≤n
 | [],_=>by simp[PyData.depthAll]
 | x::xs,h=>by
  simp only[PyData.depthAll]
  exact Nat.max_le.mpr ⟨h x (List.mem_cons_self ..),pL fun y hy=>h y (List.mem_cons_of_mem _ hy)⟩
theorem tT:∀ ps:List P,je ps=ps.map py
 | []=>rfl
 | p::ps=>by simp only[je,List.map_cons,tT ps]
theorem rV:∀ (n:Nat) (d:P),fin n d=true→PyData.canLay0 (py d)=true∧PyData.depth (py d)≤n
 | _, .non,_=>⟨by simp[py,PyData.canLay0],by simp[py,PyData.depth]⟩
 | _, .bl _,_=>⟨by simp[py,PyData.canLay0],by simp[py,PyData.depth]⟩
 | _, .int _,_=>⟨by simp[py,PyData.canLay0],by simp[py,PyData.depth]⟩
 | n, .str x,h=>⟨by
   have h':di x=true:=by cases n <;> exact h
   simp only[py,PyData.canLay0]; exact h',by simp[py,PyData.depth]⟩
 | n+1, .lst xs,h=>by
  have all:=List.all_eq_true.mp (show xs.all (fin n)=true from h)
  simp only[py,tT]
  refine⟨by
   simp only[PyData.canLay0]
   exact lY fun x hx=>by obtain⟨q,hq,rfl⟩:=List.mem_map.mp hx; exact (rV n q (all q hq)).1,?_⟩
  simp only[PyData.depth]
  have:=pL (n:=n) (xs:=xs.map py) fun x hx=>by obtain⟨q,hq,rfl⟩:=List.mem_map.mp hx; exact (rV n q (all q hq)).2
  omega
 | n+1, .tup xs,h=>by
  have all:=List.all_eq_true.mp (show xs.all (fin n)=true from h)
  simp only[py,tT]
  refine⟨by
   simp only[PyData.canLay0]
   exact lY fun x hx=>by obtain⟨q,hq,rfl⟩:=List.mem_map.mp hx; exact (rV n q (all q hq)).1,?_⟩
  simp only[PyData.depth]
  have:=pL (n:=n) (xs:=xs.map py) fun x hx=>by obtain⟨q,hq,rfl⟩:=List.mem_map.mp hx; exact (rV n q (all q hq)).2
  omega
 | 0, .lst _,h=>by cases h
 | 0, .tup _,h=>by cases h
 | 0, .dic _ _ _,h=>by cases h
 | _+1, .dic _ _ _,h=>by cases h
 | 0, .ins _ _ _,h=>by cases h
 | _+1, .ins _ _ _,h=>by cases h
 | 0, .glo _,h=>by cases h
 | _+1, .glo _,h=>by cases h
 | 0, .ty _,h=>by cases h
 | _+1, .ty _,h=>by cases h
 | 0, .scr _,h=>by cases h
 | _+1, .scr _,h=>by cases h
 | 0, .exv _ _ _,h=>by cases h
 | _+1, .exv _ _ _,h=>by cases h
 | 0, .dlk _ _,h=>by cases h
 | _+1, .dlk _ _,h=>by cases h
theorem dG {n:Nat} {d:P} (h:fin n d=true) (hn:n≤64:=by decide):SeqAt.shaped (py d)=true:=by
 obtain⟨h1,h2⟩:=rV n d h
 unfold SeqAt.shaped
 rw[Bool.and_eq_true]
 exact⟨h1,decide_eq_true (Nat.le_trans h2 hn)⟩
theorem Fk:∀ (n:Nat) (p q:P),fin n p=true→fin n q=true→PyData.eqv (py p) (py q)=eqv p q:=by
 intro n
 induction n with
 | zero =>
  intro p q hp hq
  cases p <;> first | (cases hp; done) | skip
  all_goals (cases q <;> first | (cases hq; done) | simp only[py,PyData.eqv,eqv])
 | succ n ih =>
  have all:∀ xs ys:List P,(∀ x∈xs,fin n x=true)→(∀ y∈ys,fin n y=true)→PyData.eqvAll (je xs) (je ys)=eqvAll xs ys:=by
   intro xs
   induction xs with
   | nil=>intro ys _ _; cases ys <;> simp only[je,PyData.eqvAll,eqvAll]
   | cons x xs ih2 =>
    intro ys h1 h2
    cases ys with
    | nil=>simp only[je,PyData.eqvAll,eqvAll]
    | cons y ys =>
     simp only[je,PyData.eqvAll,eqvAll]
     rw[ih x y (h1 x (List.mem_cons_self ..)) (h2 y (List.mem_cons_self ..)),ih2 ys (fun z hz=>h1 z (List.mem_cons_of_mem _ hz)) (fun z hz=>h2 z (List.mem_cons_of_mem _ hz))]
  intro p q hp hq
  cases p <;> first | (cases hp; done) | skip
  all_goals (cases q <;> first | (cases hq; done) | skip)
  all_goals first
   | (simp only[py,PyData.eqv,eqv]; done)
   | (simp only[py,PyData.eqv,eqv]; exact all _ _ (List.all_eq_true.mp hp) (List.all_eq_true.mp hq))
section
variable {K:Fr} {F:Hp}
theorem nU:∀ (n:Nat) (p:P) (v:V),fin n p=true→Rp K F v p→Dp K.K F v (py p):=by
 intro n
 induction n with
 | zero =>
  intro p v hp h
  cases h <;> first | (cases hp; done) | skip
  · simp only[py]; exact .non
  · simp only[py]; exact .bl _
  · simp only[py]; exact .int _
  · simp only[py]; exact .str _
 | succ n ih =>
  have all:∀ (ps:List P) (vs:List V),(∀ x∈ps,fin n x=true)→ay K F vs ps→DpAll K.K F vs (je ps):=by
   intro ps
   induction ps with
   | nil=>intro vs _ h; cases h; simp only[je]; exact .nil
   | cons p ps ih2 =>
    intro vs h1 h
    cases h with
    | cons h2 h3 =>
     simp only[je]
     exact .cons (ih p _ (h1 p (List.mem_cons_self ..)) h2) (ih2 _ (fun z hz=>h1 z (List.mem_cons_of_mem _ hz)) h3)
  intro p v hp h
  cases h <;> first | (cases hp; done) | skip
  · simp only[py]; exact .non
  · simp only[py]; exact .bl _
  · simp only[py]; exact .int _
  · simp only[py]; exact .str _
  · rename_i h1 h2
    simp only[py]; exact .lst (.inl (.inl h1)) (all _ _ (List.all_eq_true.mp hp) h2)
  · rename_i h1 h2
    simp only[py]; exact .tup h1.sq (all _ _ (List.all_eq_true.mp hp) h2)
  · rename_i h1 h2 _
    simp only[py]; exact .tup h1.sq (all _ _ (List.all_eq_true.mp hp) h2)
end
section
variable {C:Kx} {a b c e:Expr} {es rest:List Expr} {pos p:Pos} {x:Str} {m m1 m2 m3:M} {t t1 t2:MT}
def eV (i:Nat):M:=fun sl S=>match sl[i]? with
 | some (some d)=>.ok d S
 | _=>.no
theorem af (i:Nat) (hN:C.X.N[i]?=some x:=by rfl) (hv:Vis C.X.env.scope x:=by first | exact Or.inl rfl | exact Or.inr (Or.inl rfl) | exact Or.inr (Or.inr rfl)) (hd:(x == ("__debug__" : Str))=false:=by decide) (pY:(x == ("__classdict__" : Str))=false:=by decide):Ej C (eV i) (.Name x pos):=.mk fun sl S σ F R H hs hr Q post=>by
 unfold eV at post
 cases h:sl[i]? with
 | none=>rw[h] at post; exact post.elim
 | some o =>
  rw[h] at post
  cases o with
  | none=>exact post.elim
  | some d =>
   obtain⟨v,e,p⟩:=hs.get i d h
   exact ED.of (pe_var hN hv hd pY) ⟨v,e,post.okv p hr⟩
def eK (p:P):M:=fun _ S=>.ok (.p p) S
theorem oJ {v:V} {q:P} (h:PE C.X e (tC v)) (hv:∀ F,Rp C.K F v q):Ej C (eK q) e:=.mk fun sl S σ F R H hs hr Q post =>
 ED.of h (post.okv (b:=v) (hv F) hr)
theorem ai {i:Int} {j}:Ej C (eK (.int i)) (.Constant (.int i) j pos):=oJ pe_int fun _=>.int i
theorem iu {i:Bool} {j}:Ej C (eK (.bl i)) (.Constant (.bool i) j pos):=oJ pe_bl fun _=>.bl i
theorem aA {i:Str} {j}:Ej C (eK (.str i)) (.Constant (.str i) j pos):=oJ pe_str fun _=>.str i
theorem bY {j}:Ej C (eK .non) (.Constant .none j pos):=oJ pe_non fun _=>.non
theorem sJ {z:Str} (hm:∃ t,C.X.mg x=some (.str z t)) (hg:Gl C.X x:=by rfl) (hd:(x == ("__debug__" : Str))=false:=by decide):Ej C (eK (.str z)) (.Name x pos):=let ⟨_,hm⟩:=hm; oJ (pe_glob (v:=.str z) hg hm ⟨_,rfl⟩ hd) fun _=>.str z
theorem gX {z:Int} (hm:∃ t,C.X.mg x=some (.int z t)) (hg:Gl C.X x:=by rfl) (hd:(x == ("__debug__" : Str))=false:=by decide):Ej C (eK (.int z)) (.Name x pos):=let ⟨_,hm⟩:=hm; oJ (pe_glob (v:=.int z) hg hm ⟨_,rfl⟩ hd) fun _=>.int z
theorem Qc (hm:C.X.mg x=some (.ref (He.ga C.K.K x))) (hg:Gl C.X x:=by rfl) (hd:(x == ("__debug__" : Str))=false:=by decide):Ej C (eK (.glo x)) (.Name x pos):=oJ (pe_glob (v:=.ref (He.ga C.K.K x)) hg hm rfl hd) fun _=>.glo x
theorem gp {n:String} (hm:C.X.mg x=none) (hv:bootBuiltins x=some (.type n):=by decide +kernel) (hg:Gl C.X x:=by rfl) (hn:x≠"__name__":=by decide) (hd:(x == ("__debug__" : Str))=false:=by decide):Ej C (eK (.ty n)) (.Name x pos):=oJ (pe_bltn (v:=.ty n) hg hm hv rfl hn hd) fun _=>.ty n
def rD (f:P→P→Option P) (d1 d2:D) (S:ag):Rs D:=match view S d1,view S d2 with
 | some p,some q=>match f p q with
  | some r=>.ok (.p r) S
  | none=>.no
 | _,_=>.no
def eB (f:P→P→Option P) (m1 m2:M):M:=fun sl S=>(m1 sl S).bind fun d1 S1=>(m2 sl S1).bind fun d2 S2=>rD f d1 d2 S2
def lj (K:Fr) (r:R2) (f:P→P→Option P):Prop:=∀ p q z x y F H (Q:VK),f p q=some z→Vw K F H x p→Vw K F H y q→Same F H→(∀ v F' H',Rp K F' v z→bx F H F' H'→Q v H')→r x y H Q
theorem iE {K:Fr} {r:R2} {f:P→P→Option P} {σ:L2.St} {F H:Hp} {R:List Addr} {S:ag} {d1 d2:D} {x y:V} {Q:VK} (hK:K=C.K) (hb:lj K r f) (rx:aP C.K F R x d1) (ry:aP C.K F R y d2) (rep:bQ C.K C.G F R S H)
  (post:aK C σ F R (aP C.K) Q (rD f d1 d2 S)):r x y H Q:=by
 subst hK
 unfold rD at post
 cases h1:view S d1 with
 | none=>rw[h1] at post; exact post.elim
 | some p =>
  rw[h1] at post
  cases h2:view S d2 with
  | none=>rw[h2] at post; exact post.elim
  | some q =>
   rw[h2] at post
   cases h3:f p q with
   | none=>simp only[h3] at post; exact post.elim
   | some z =>
    simp only[h3] at post
    exact hb p q z x y F H Q h3 (ec rx rep h1) (ec ry rep h2) rep.sub fun v F' H' rv g=>post v F' R H' rv (rep.grow g) g.sF aI
theorem JE {r:R2} {f:P→P→Option P} (hp:PE C.X e (tOp r (ED C.X a) (ED C.X b))) (hb:lj C.K r f) (h1:Ej C m1 a) (h2:Ej C m2 b):Ej C (eB f m1 m2) e:=.mk fun sl S σ F R H hs hr Q post =>
 ED.of hp (h1 sl S σ F R H hs hr _ (aK.bind post fun d1 S1 x F1 R1 H1 _ rx rep1 s1 r1 ah=>h2 sl S1 σ F1 R1 H1 (hs.mono s1 r1) rep1 _ (aK.bind ah fun d2 S2 y F2 R2 H2 _ ry rep2 s2 r2 post2 =>
  iE rfl hb (rx.mono s2 r2) ry rep2 post2)))
theorem um {op:Operator} {r:R2} {f:P→P→Option P} (ho:OpR C.X (binaryOp op) r) (hb:lj C.K r f) (h1:Ej C m1 a) (h2:Ej C m2 b):Ej C (eB f m1 m2) (.BinOp a op b pos):=JE (pe_op ho bu bu) hb h1 h2
theorem wK {op:CmpOp} {r:R2} {f:P→P→Option P} (ho:OpR C.X (compareOp op) r) (hb:lj C.K r f) (h1:Ej C m1 a) (h2:Ej C m2 b) (hm:behindInMarks op b=false:=by first | exact nomark _ | rfl):Ej C (eB f m1 m2) (.Compare a [op] [b] pos):=JE (pe_cmpR ho bu bu hm) hb h1 h2
def IX:D→ag→Rs Bool
 | .p (.bl b),S=>.ok b S
 | _,_=>.no
theorem T8 {r:R2} {f:P→P→Option P} (hp:PT C.X e (tTest (tOp r (ED C.X a) (ED C.X b)))) (hb:lj C.K r f) (h1:Ej C m1 a) (h2:Ej C m2 b):Tj C (fun sl S=>(eB f m1 m2 sl S).bind IX) e:=.mk fun sl S σ F R H hs hr Q post=>by
 have Kh:aK C σ F R (aP C.K) (fun x H'=>∃ k,x=.bl k∧Q k H') (eB f m1 m2 sl S):=aK.bind post fun d S1 x F1 R1 H1 _ rx rep1 s1 r1 ah=>by
  cases d with
  | ref n=>exact ah.elim
  | p q =>
   cases q <;> first | exact ah.elim | skip
   cases rx
   exact⟨_,rfl,ah.okv rfl rep1⟩
 refine TD.of hp ?_
 exact (h1 sl S σ F R H hs hr _ (aK.bind Kh fun d1 S1 x F1 R1 H1 _ rx rep1 s1 r1 ah=>h2 sl S1 σ F1 R1 H1 (hs.mono s1 r1) rep1 _ (aK.bind ah fun d2 S2 y F2 R2 H2 _ ry rep2 s2 r2 post2 =>
  iE rfl hb (rx.mono s2 r2) ry rep2 post2)))
def tB (f:P→P→Option P) (m1 m2:M):MT:=fun sl S=>(eB f m1 m2 sl S).bind IX
theorem rm {op:CmpOp} {r:R2} {f:P→P→Option P} (ho:OpR C.X (compareOp op) r) (hb:lj C.K r f) (h1:Ej C m1 a) (h2:Ej C m2 b) (hm:behindInMarks op b=false:=by first | exact nomark _ | rfl):Tj C (tB f m1 m2) (.Compare a [op] [b] pos):=T8 (pt_cmpR ho bu bu hm) hb h1 h2
def md:P→Option Bool
 | .non=>some false
 | .bl b=>some b
 | .int i=>some (i != 0)
 | .str z=>if z.length≤sizeLine then some ((z.length:Int) != 0) else none
 | .lst ps=>some (!ps.isEmpty)
 | .tup ps=>some (!ps.isEmpty)
 | _=>none
def UE (S:ag) (d:D):Rs Bool:=match view S d with
 | some p=>match md p with
  | some b=>.ok b S
  | none=>.no
 | none=>.no
def tV (m:M):MT:=fun sl S=>(m sl S).bind fun d S1=>UE S1 d
theorem Ud {K:Fr} {F H:Hp} {x:V} {p:P} {k:Bool} (h:Vw K F H x p) (s:Same F H) (e:md p=some k):TruV K.K x H k:=by
 cases p <;> first | (cases e; done) | skip
 · cases e; cases h.non; exact rfl
 · cases e; cases h.bl; exact rfl
 · cases e; cases h.int; exact rfl
 · rename_i z
   have e:(if z.length≤sizeLine then some ((z.length:Int) != 0) else none)=some k:=e
   split at e
   · rename_i hz; cases e; cases h.str; exact⟨hz,rfl⟩
   · cases e
 · obtain⟨a,vs,rfl,h1,h2⟩:=h.tupE
   cases e
   refine .inr (.inl ⟨vs,aZ s h1,?_⟩)
   cases h2 <;> rfl
 · obtain⟨a,vs,rfl,h1,h2⟩:=h.lstE s
   cases e
   refine .inl ⟨vs, .inl (.inl h1),?_⟩
   cases h2 <;> rfl
theorem Mb {σ:L2.St} {F H:Hp} {R:List Addr} {S:ag} {d:D} {x:V} {Q:Bool→Hp→Prop} (rx:aP C.K F R x d) (rep:bQ C.K C.G F R S H) (post:aK C σ F R rB Q (UE S d)):∃ k,TruV C.K.K x H k∧Q k H:=by
 unfold UE at post
 cases h1:view S d with
 | none=>rw[h1] at post; exact post.elim
 | some p =>
  rw[h1] at post
  cases h3:md p with
  | none=>simp only[h3] at post; exact post.elim
  | some k =>
   simp only[h3] at post
   exact⟨k,Ud (ec rx rep h1) rep.sub h3,post.okv rfl rep⟩
theorem eX (h:Ej C m e) (he:∀ whole,isTrue e C.X.env whole=(do let v ← whole; standAt e.pos; holding [v] (truthy v)):=by intro _; rfl):Tj C (tV m) e:=.mk fun sl S σ F R H hs hr Q post =>
 TD.of (pt_truth bu he) (h sl S σ F R H hs hr _ (aK.bind post fun d S1 x F1 R1 H1 _ rx rep1 s1 r1 ah=>Mb rx rep1 ah))
def tN (t:MT):MT:=fun sl S=>(t sl S).bind fun b S1=>.ok (!b) S1
theorem bT (h:Tj C t a):Tj C (tN t) (.UnaryOp .Not a pos):=.mk fun sl S σ F R H hs hr Q post =>
 TD.of (pt_not Fo) (h sl S σ F R H hs hr _ (aK.bind post fun b S1 b' F1 R1 H1 _ rx rep1 s1 r1 ah=>by subst rx; exact ah.okv rfl rep1))
theorem fY (h:Wj C t e):Tj C t e:=.mk fun sl S σ F R H hs hr Q post=>TD.of (PW.pt Ti) (h sl S σ F R H hs hr Q post)
theorem jB (h:Tj C t a):Wj C t (.BoolOp .And [a] pos):=.mk fun sl S σ F R H hs hr Q post=>WD.of (pw_and1 Fo) (h sl S σ F R H hs hr Q post)
theorem cS (h:Tj C t a):Wj C t (.BoolOp .Or [a] pos):=.mk fun sl S σ F R H hs hr Q post=>WD.of (pw_or1 Fo) (h sl S σ F R H hs hr Q post)
def vE (t1 t2:MT):MT:=fun sl S=>(t1 sl S).bind fun b S1=>if b=true then t2 sl S1 else .ok false S1
def qS (t1 t2:MT):MT:=fun sl S=>(t1 sl S).bind fun b S1=>if b=true then .ok true S1 else t2 sl S1
theorem kR (h1:Tj C t1 a) (h2:Wj C t2 (.BoolOp .And (b::rest) pos)):Wj C (vE t1 t2) (.BoolOp .And (a::b::rest) pos):=.mk fun sl S σ F R H hs hr Q post =>
 WD.of (pw_and Fo Ti) (h1 sl S σ F R H hs hr _ (aK.bind post fun k S1 k' F1 R1 H1 _ rx rep1 s1 r1 ah=>by
  cases (show k'=k from rx)
  cases k with
  | true =>
   show WD C.X _ σ H1 Q
   exact h2 sl S1 σ F1 R1 H1 (hs.mono s1 r1) rep1 Q ah
  | false =>
   show Q false H1
   exact ah.okv (b:=false) rfl rep1))
theorem dw (h1:Tj C t1 a) (h2:Wj C t2 (.BoolOp .Or (b::rest) pos)):Wj C (qS t1 t2) (.BoolOp .Or (a::b::rest) pos):=.mk fun sl S σ F R H hs hr Q post =>
 WD.of (pw_or Fo Ti) (h1 sl S σ F R H hs hr _ (aK.bind post fun k S1 k' F1 R1 H1 _ rx rep1 s1 r1 ah=>by
  cases (show k'=k from rx)
  cases k with
  | false =>
   show WD C.X _ σ H1 Q
   exact h2 sl S1 σ F1 R1 H1 (hs.mono s1 r1) rep1 Q ah
  | true =>
   show Q true H1
   exact ah.okv (b:=true) rfl rep1))
theorem gA {op} (h:Ej C m a):Ej C m (.BoolOp op [a] pos):=.mk fun sl S σ F R H hs hr Q post=>ED.of (pe_one bu) (h sl S σ F R H hs hr Q post)
def ub (m1 m2:M):M:=fun sl S=>(m1 sl S).bind fun d S1=>match d with
 | .p (.bl true)=>m2 sl S1
 | .p (.bl false)=>.ok (.p (.bl false)) S1
 | _=>.no
def We (m1 m2:M):M:=fun sl S=>(m1 sl S).bind fun d S1=>match d with
 | .p (.bl false)=>m2 sl S1
 | .p (.bl true)=>.ok (.p (.bl true)) S1
 | _=>.no
theorem gv (h1:Ej C m1 a) (h2:Ej C m2 (.BoolOp .And (b::rest) pos)):Ej C (ub m1 m2) (.BoolOp .And (a::b::rest) pos):=.mk fun sl S σ F R H hs hr Q post =>
 ED.of (pe_and bu bu) (h1 sl S σ F R H hs hr _ (aK.bind post fun d S1 x F1 R1 H1 _ rx rep1 s1 r1 ah=>by
  cases d with
  | ref n=>exact ah.elim
  | p q =>
   cases q with
   | bl k =>
    cases rx
    refine⟨k,rfl,?_⟩
    cases k with
    | true =>
     show ED C.X _ σ H1 Q
     exact h2 sl S1 σ F1 R1 H1 (hs.mono s1 r1) rep1 Q ah
    | false =>
     show Q (.bl false) H1
     exact ah.okv (show aP C.K F1 R1 (.bl false) (.p (.bl false)) from .bl _) rep1
   | _=>exact ah.elim))
theorem FS (h1:Ej C m1 a) (h2:Ej C m2 (.BoolOp .Or (b::rest) pos)):Ej C (We m1 m2) (.BoolOp .Or (a::b::rest) pos):=.mk fun sl S σ F R H hs hr Q post =>
 ED.of (pe_or bu bu) (h1 sl S σ F R H hs hr _ (aK.bind post fun d S1 x F1 R1 H1 _ rx rep1 s1 r1 ah=>by
  cases d with
  | ref n=>exact ah.elim
  | p q =>
   cases q with
   | bl k =>
    cases rx
    refine⟨k,rfl,?_⟩
    cases k with
    | false =>
     show ED C.X _ σ H1 Q
     exact h2 sl S1 σ F1 R1 H1 (hs.mono s1 r1) rep1 Q ah
    | true =>
     show Q (.bl true) H1
     exact ah.okv (show aP C.K F1 R1 (.bl true) (.p (.bl true)) from .bl _) rep1
   | _=>exact ah.elim))
def Ox (m:M):M:=fun sl S=>(m sl S).bind fun d S1=>match d with
 | .p (.bl b)=>.ok (.p (.bl !b)) S1
 | _=>.no
theorem LU (h:Ej C m a):Ej C (Ox m) (.UnaryOp .Not a pos):=.mk fun sl S σ F R H hs hr Q post =>
 ED.of (pe_not bu) (h sl S σ F R H hs hr _ (aK.bind post fun d S1 x F1 R1 H1 _ rx rep1 s1 r1 ah=>by
  cases d with
  | ref n=>exact ah.elim
  | p q =>
   cases q <;> first | exact ah.elim | skip
   cases rx
   exact⟨_,rfl,ah.okv (show aP C.K F1 R1 (.bl (!_)) (.p (.bl (!_))) from .bl _) rep1⟩))
def FD (t:MT) (m1 m2:M):M:=fun sl S=>(t sl S).bind fun b S1=>if b=true then m1 sl S1 else m2 sl S1
theorem mz (h:Tj C t c) (h1:Ej C m1 a) (h2:Ej C m2 b):Ej C (FD t m1 m2) (.IfExp c a b pos):=.mk fun sl S σ F R H hs hr Q post =>
 ED.of (pe_ifExp Fo bu bu) (h sl S σ F R H hs hr _ (aK.bind post fun k S1 k' F1 R1 H1 _ rx rep1 s1 r1 ah=>by
  cases (show k'=k from rx)
  cases k with
  | true =>
   show ED C.X _ σ H1 Q
   exact h1 sl S1 σ F1 R1 H1 (hs.mono s1 r1) rep1 Q ah
  | false =>
   show ED C.X _ σ H1 Q
   exact h2 sl S1 σ F1 R1 H1 (hs.mono s1 r1) rep1 Q ah))
def aN:MA:=fun _ S=>.ok [] S
def aC (m:M) (ma:MA):MA:=fun sl S=>(m sl S).bind fun d S1=>(ma sl S1).bind fun ds S2=>.ok (d::ds) S2
theorem ae:Aj C aN []:=.mk fun sl S σ F R H hs hr Q post=>AD.of pa_nil (post.okv .nil hr)
theorem aa {ma:MA} (h1:Ej C m e) (h2:Aj C ma es) (he:starEach (e::es) C.X.env=(false,eval e C.X.env)::starEach es C.X.env:=by exact bO rfl):Aj C (aC m ma) (e::es):=.mk fun sl S σ F R H hs hr Q post =>
 AD.of (pa_cons bu eY he) (h1 sl S σ F R H hs hr _ (aK.bind post fun d S1 x F1 R1 H1 _ rx rep1 s1 r1 ah=>h2 sl S1 σ F1 R1 H1 (hs.mono s1 r1) rep1 _ (aK.bind ah fun ds S2 ys F2 R2 H2 _ ry rep2 s2 r2 post2 =>
  post2.okv (b:=x::ys) (.cons (rx.mono s2 r2) ry) rep2)))
def fV (S:ag):List D→Option (List P)
 | []=>some []
 | d::ds=>match view S d,fV S ds with
  | some p,some ps=>some (p::ps)
  | _,_=>none
abbrev Ah (K:Fr) (F H:Hp):List V→List P→Prop:=Paired fun v p=>Vw K F H v p
theorem oO {K:Fr} {G F H:Hp} {R:List Addr} {S:ag}:∀ {ds:List D} {vs:List V} {ps:List P},aF K F R vs ds→bQ K G F R S H→fV S ds=some ps→Ah K F H vs ps
 | [],_,_,h,_,e=>by cases h; cases e; exact .nil
 | d::ds,_,ps,h,rep,e=>by
  cases h with
  | cons h1 h2 =>
   cases e1:view S d with
   | none=>simp only[fV,e1] at e; cases e
   | some p =>
    cases e2:fV S ds with
    | none=>simp only[fV,e1,e2] at e; cases e
    | some qs =>
     simp only[fV,e1,e2] at e; cases e
     exact .cons (ec h1 rep e1) (oO h2 rep e2)
def CN (f:List P→Option P) (ds:List D) (S:ag):Rs D:=match fV S ds with
 | some ps=>match f ps with
  | some r=>.ok (.p r) S
  | none=>.no
 | none=>.no
def eF (f:List P→Option P) (ma:MA):M:=fun sl S=>(ma sl S).bind fun ds S1=>CN f ds S1
def jS (K:Fr) (r:List V→Hp→VK→Prop) (f:List P→Option P):Prop:=∀ ps z vs F H (Q:VK),f ps=some z→Ah K F H vs ps→Same F H→(∀ v F' H',Rp K F' v z→bx F H F' H'→Q v H')→r vs H Q
theorem Fc {r:List V→Hp→VK→Prop} {f:List P→Option P} {σ:L2.St} {F H:Hp} {R:List Addr} {S:ag} {ds:List D} {vs:List V} {Q:VK} (hb:jS C.K r f) (rx:aF C.K F R vs ds) (rep:bQ C.K C.G F R S H)
  (post:aK C σ F R (aP C.K) Q (CN f ds S)):r vs H Q:=by
 unfold CN at post
 cases h1:fV S ds with
 | none=>rw[h1] at post; exact post.elim
 | some ps =>
  rw[h1] at post
  cases h3:f ps with
  | none=>simp only[h3] at post; exact post.elim
  | some z =>
   simp only[h3] at post
   exact hb ps z vs F H Q h3 (oO rx rep h1) rep.sub fun v F' H' rv g=>post v F' R H' rv (rep.grow g) g.sF aI
theorem Qp {r:List V→Hp→VK→Prop} {f:List P→Option P} {ma:MA} (hp:PE C.X e (tCB r (AD C.X es))) (hb:jS C.K r f) (h:Aj C ma es):Ej C (eF f ma) e:=.mk fun sl S σ F R H hs hr Q post =>
 ED.of hp (h sl S σ F R H hs hr _ (aK.bind post fun ds S1 vs F1 R1 H1 _ rx rep1 s1 r1 ah=>Fc hb rx rep1 ah))
theorem gx {id:String} {r:List V→Hp→VK→Prop} {f:List P→Option P} {ma:MA} (hc:CallR C.X (.builtin id) r) (hb:jS C.K r f) (hm:C.X.mg x=none) (hv:bootBuiltins x=some (.builtin id)) (h:Aj C ma (e::es)) (hg:Gl C.X x:=by rfl) (hn:x≠"__name__":=by decide) (mD:(x == ("__debug__" : Str))=false:=by decide)
  (he:starEach (e::es) C.X.env=(false,eval e C.X.env)::starEach es C.X.env:=by exact bO rfl) (hpl:(backTo pos (starEach es C.X.env)).any (·.1)=false:=by exact de rfl):Ej C (eF f ma) (.Call (.Name x p) (e::es) [] pos) :=
 Qp (pe_callB hc hg hm hv eY hn mD he hpl) hb h
theorem uf {N:String} {r:List V→Hp→VK→Prop} {f:List P→Option P} {ma:MA} (hc:CallR C.X (.type N) r) (hb:jS C.K r f) (hm:C.X.mg x=none) (hv:bootBuiltins x=some (.type N)) (h:Aj C ma (e::es)) (hg:Gl C.X x:=by rfl) (hn:x≠"__name__":=by decide) (mD:(x == ("__debug__" : Str))=false:=by decide)
  (he:starEach (e::es) C.X.env=(false,eval e C.X.env)::starEach es C.X.env:=by exact bO rfl) (hpl:(backTo pos (starEach es C.X.env)).any (·.1)=false:=by exact de rfl):Ej C (eF f ma) (.Call (.Name x p) (e::es) [] pos) :=
 Qp (pe_callTy hc hg hm hv eY hn mD he hpl) hb h
end
theorem OpR.or {X:Cx} {g:Value→Value→Sem Value} {r1 r2:R2} (h1:OpR X g r1) (h2:OpR X g r2):OpR X g (fun x y H Q=>r1 x y H Q∨r2 x y H Q):=by
 intro pins s σ H x y v u Q I rx ry h
 rcases h with h | h
 · exact h1 pins s σ H x y v u Q I rx ry h
 · exact h2 pins s σ H x y v u Q I rx ry h
theorem IxR.or {X:Cx} {r1 r2:R2} (h1:IxR X r1) (h2:IxR X r2):IxR X (fun x y H Q=>r1 x y H Q∨r2 x y H Q):=by
 intro value slice pins s σ H x y v u Q I rx ry h hs
 rcases h with h | h
 · exact h1 value slice pins s σ H x y v u Q I rx ry h hs
 · exact h2 value slice pins s σ H x y v u Q I rx ry h hs
theorem CallR.or {X:Cx} {f:Value} {r1 r2:List V→Hp→VK→Prop} (h1:CallR X f r1) (h2:CallR X f r2):CallR X f (fun xs H Q=>r1 xs H Q∨r2 xs H Q):=by
 intro pins s σ H xs us Q I rx h
 rcases h with h | h
 · exact h1 pins s σ H xs us Q I rx h
 · exact h2 pins s σ H xs us Q I rx h
def QR (K:PySem.W.Frag):R2:=fun x y H Q=>∃ a b xs ys,x=.ref a∧y=.ref b∧SqT K H a xs∧SqT K H b ys∧xs.length+ys.length≤sizeLine ∧
 (xs=[]→Q (.ref b) H)∧(xs≠[]→ys=[]→Q (.ref a) H)∧(xs≠[]→ys≠[]→∀ p o,H p=none→o.dict=none→Q (.ref p) (upd H p (.frz o (.tup (xs++ys)))))
theorem OP {X:Cx}:OpR X (binaryOp .Add) (QR X.K):=by
 intro pins s σ H x y v u Q I rx ry h
 obtain⟨a,b,xs,ys,rfl,rfl,ha,hb,hz,q0,q1,q2⟩:=h
 cases rx
 cases ry
 obtain⟨its,r1,p1,_⟩:=I.tuple ha
 obtain⟨yE,r2,p2,_⟩:=I.tuple hb
 by_cases hx:xs=[]
 · subst hx
   cases r1
   exact cat_tup0 p1 p2 ⟨.ref b,H,I,rfl,q0 rfl⟩
 · refine HT.cat_tup p1 p2 (fun z=>hx (r1.nil_iff.mp z)) (fun z=>⟨.ref a,H,I,rfl,q1 hx (r2.nil_iff.mp z)⟩) (fun z=>?_) (by rw[← r1.length,← r2.length]; exact hz)
   have hn:H s.heap.objs.size=none:=I.hok.fresh (Nat.le_refl _)
   refine⟨.ref s.heap.objs.size,_,I.laid (t':=s.toks) (o:=.frz { cls:=.type "tuple",data:=.seq (its++yE).toArray } (.tup (xs++ys))) (fun b o e=>Heap.get?_push_of_some _ e) (Nat.le_refl _) ?_,rfl,q2 hx (fun e=>z (r2.nil_iff.mpr e)) _ _ hn rfl⟩
   exact⟨by heap_get,by rw[List.length_append]; exact hz,its++yE,r1.append r2,IsTup.new _ _⟩
def ck:P→P→Option P
 | .int m, .int n=>some (.int (m+n))
 | .str x, .str y=>if x.length+y.length≤sizeLine then some (.str (x++y)) else none
 | .lst xs, .lst ys=>if xs.length+ys.length≤sizeLine then some (.lst (xs++ys)) else none
 | .tup xs, .tup ys=>if xs.length+ys.length≤sizeLine then some (.tup (xs++ys)) else none
 | _,_=>none
def jR:P→P→Option P
 | .int m, .int n=>some (.int (m - n))
 | _,_=>none
instance (i j:Int):Decidable (CMul i j):=by unfold CMul; infer_instance
instance (i j:Int):Decidable (CDiv i j):=by unfold CDiv; infer_instance
instance (i j:Int):Decidable (CPow i j):=by unfold CPow; infer_instance
def lO:P→P→Option P
 | .int m, .int n=>if CMul m n then some (.int (m * n)) else none
 | .lst xs, .int n=>if (-(2 ^ 63)≤n∧n < 2 ^ 63)∧xs.length * n.toNat≤sizeLine then some (.lst (List.replicate n.toNat xs).flatten) else none
 | _,_=>none
def mW:P→P→Option P
 | .int m, .int n=>if 0 < n then some (.int (m % n)) else none
 | _,_=>none
def vb:P→P→Option P
 | .int m, .int n=>if CDiv m n then some (.int (m / n)) else none
 | _,_=>none
def sj:P→P→Option P
 | .int m, .int n=>if CPow m n then some (.int (m ^ n.toNat)) else none
 | _,_=>none
section
variable {K:Fr}
theorem Rq {g:Int→Int→V} {h:Int→Int→P} {f:P→P→Option P} (hf:∀ p q z,f p q=some z→∃ m n,p=.int m∧q=.int n∧z=h m n) (hd:∀ m n F,Rp K F (g m n) (h m n)):lj K (rI0 g) f:=fun p q z x y F H Q e hx hy s k=>by
 obtain⟨m,n,rfl,rfl,rfl⟩:=hf _ _ _ e
 exact⟨m,n,hx.int,hy.int,k _ F H (hd m n F) (bx.refl s)⟩
theorem S9 {c:Int→Int→Prop} {g:Int→Int→V} {h:Int→Int→P} {f:P→P→Option P} (hf:∀ p q z,f p q=some z→∃ m n,p=.int m∧q=.int n∧c m n∧z=h m n) (hd:∀ m n F,Rp K F (g m n) (h m n)):lj K (rI c g) f:=fun p q z x y F H Q e hx hy s k=>by
 obtain⟨m,n,rfl,rfl,hc,rfl⟩:=hf _ _ _ e
 exact⟨m,n,hx.int,hy.int,hc,k _ F H (hd m n F) (bx.refl s)⟩
theorem cW {c:Prop} [Decidable c] {α:Type} {a z:α} (h:(if c then some a else none)=some z):c∧z=a:=by
 split at h
 · rename_i hc; cases h; exact⟨hc,rfl⟩
 · cases h
def Q6 (K:PySem.W.Frag):R2:=fun x y H Q=>(rI0 fun i j=>.int (i+j)) x y H Q∨(fun x y H Q=>∃ i j:Str,x=.str i∧y=.str j∧i.length+j.length≤sizeLine∧Q (.str (i++j)) H) x y H Q∨rCat x y H Q∨QR K x y H Q
theorem R0 {X:Cx}:OpR X (binaryOp .Add) (Q6 X.K):=OpR.or op_add (OpR.or op_add_str (OpR.or op_cat OP))
theorem Ry:lj K (Q6 K.K) ck:=fun p q z x y F H Q e hx hy s k=>by
 unfold ck at e
 split at e
 · cases e
   exact .inl ⟨_,_,hx.int,hy.int,k _ F H (.int _) (bx.refl s)⟩
 · obtain⟨hc,rfl⟩:=cW e
   exact .inr (.inl ⟨_,_,hx.str,hy.str,hc,k _ F H (.str _) (bx.refl s)⟩)
 · obtain⟨hc,rfl⟩:=cW e
   obtain⟨a,vs,rfl,h1,h2⟩:=hx.lstE s
   obtain⟨b,ws,rfl,h3,h4⟩:=hy.lstE s
   refine .inr (.inr (.inl ⟨a,b,vs,ws,rfl,rfl,h1,h3,by rw[h2.length,h4.length]; exact hc,fun p hp=>?_⟩))
   have g:=bx.new (o:=.lst (vs++ws)) s hp
   exact k _ _ _ (.lst upd_same ((ay.mono g.sF _ _ h2).append (ay.mono g.sF _ _ h4))) g
 · obtain⟨hc,rfl⟩:=cW e
   have VE:=hx.tupP
   have hy':=hy.tupP
   obtain⟨a,vs,rfl,h1,h2⟩:=hx.tupE
   obtain⟨b,ws,rfl,h3,h4⟩:=hy.tupE
   refine .inr (.inr (.inr ⟨a,b,vs,ws,rfl,rfl,aZ s h1,aZ s h3,by rw[h2.length,h4.length]; exact hc,fun e=>?_,fun _ e=>?_,fun _ _ l ob hn hd=>?_⟩))
   · subst e; cases h2; exact k _ F H hy' (bx.refl s)
   · subst e; cases h4; exact k _ F H (by rw[List.append_nil]; exact VE) (bx.refl s)
   · have g:=bx.new (o:=.frz ob (.tup (vs++ws))) s hn
     exact k _ _ _ (.tup ⟨ob,upd_same,hd⟩ ((ay.mono g.sF _ _ h2).append (ay.mono g.sF _ _ h4))) g
 · cases e
theorem SZ:lj K (rI0 fun i j=>.int (i - j)) jR:=Rq (h:=fun i j=>.int (i - j)) (fun p q z e=>by unfold jR at e; split at e <;> cases e; exact⟨_,_,rfl,rfl,rfl⟩) fun _ _ _=>.int _
def Qw:R2:=fun x y H Q=>(rI CMul fun i j=>.int (i * j)) x y H Q∨rRep x y H Q
theorem Te {X:Cx}:OpR X (binaryOp .Mult) Qw:=OpR.or op_mul op_rep
theorem Jn {F:Hp} {vs:List V} {ps:List P} (h:ay K F vs ps):∀ n:Nat,ay K F (List.replicate n vs).flatten (List.replicate n ps).flatten
 | 0=>.nil
 | n+1=>by
  rw[List.replicate_succ,List.replicate_succ,List.flatten_cons,List.flatten_cons]
  exact h.append (Jn h n)
theorem SG:lj K Qw lO:=fun p q z x y F H Q e hx hy s k=>by
 unfold lO at e
 split at e
 · obtain⟨hc,rfl⟩:=cW e
   exact .inl ⟨_,_,hx.int,hy.int,hc,k _ F H (.int _) (bx.refl s)⟩
 · obtain⟨⟨Ua,Zg⟩,rfl⟩:=cW e
   obtain⟨a,vs,rfl,h1,h2⟩:=hx.lstE s
   refine .inr ⟨a,_,vs,rfl,hy.int,h1,Ua.1,Ua.2,by rw[h2.length]; exact Zg,fun p hp=>?_⟩
   exact k _ _ _ (.lst upd_same (Jn (ay.mono (bx.new s hp).sF _ _ h2) _)) (bx.new s hp)
 · cases e
theorem Ts:lj K (rI (fun _ j=>0 < j) fun i j=>.int (i % j)) mW:=S9 (h:=fun i j=>.int (i % j)) (fun p q z e=>by
 unfold mW at e; split at e
 · obtain⟨hc,rfl⟩:=cW e; exact⟨_,_,rfl,rfl,hc,rfl⟩
 · cases e) fun _ _ _=>.int _
theorem RD:lj K (rI CDiv fun i j=>.int (i / j)) vb:=S9 (h:=fun i j=>.int (i / j)) (fun p q z e=>by
 unfold vb at e; split at e
 · obtain⟨hc,rfl⟩:=cW e; exact⟨_,_,rfl,rfl,hc,rfl⟩
 · cases e) fun _ _ _=>.int _
theorem SI:lj K (rI CPow fun i j=>.int (i ^ j.toNat)) sj:=S9 (h:=fun i j=>.int (i ^ j.toNat)) (fun p q z e=>by
 unfold sj at e; split at e
 · obtain⟨hc,rfl⟩:=cW e; exact⟨_,_,rfl,rfl,hc,rfl⟩
 · cases e) fun _ _ _=>.int _
def bP (p q:P):Option P:=if fin dpt p=true∧fin dpt q=true then some (.bl (eqv p q)) else none
def lm (p q:P):Option P:=if fin dpt p=true∧fin dpt q=true then some (.bl (!eqv p q)) else none
theorem Ke:lj K (rEqD K.K) bP:=fun p q z x y F H Q e hx hy s k=>by
 obtain⟨⟨h1,h2⟩,rfl⟩:=cW e
 refine⟨py p,py q,nU _ _ _ h1 (hx.rd s),nU _ _ _ h2 (hy.rd s),dG h1,dG h2,?_⟩
 rw[Fk dpt p q h1 h2]
 exact k _ F H (.bl _) (bx.refl s)
theorem Qo:lj K (rNeD K.K) lm:=fun p q z x y F H Q e hx hy s k=>by
 obtain⟨⟨h1,h2⟩,rfl⟩:=cW e
 refine⟨py p,py q,nU _ _ _ h1 (hx.rd s),nU _ _ _ h2 (hy.rd s),dG h1,dG h2,?_⟩
 rw[Fk dpt p q h1 h2]
 exact k _ F H (.bl _) (bx.refl s)
def EN (g:Int→Int→Bool):P→P→Option P
 | .int m, .int n=>some (.bl (g m n))
 | _,_=>none
theorem pS {g:Int→Int→Bool}:lj K (rI0 fun i j=>.bl (g i j)) (EN g):=Rq (h:=fun i j=>.bl (g i j)) (fun p q z e=>by unfold EN at e; split at e <;> cases e; exact⟨_,_,rfl,rfl,rfl⟩) fun _ _ _=>.bl _
abbrev yu:=EN fun i j=>decide (i < j)
abbrev Wu:=EN fun i j=>decide (i≤j)
abbrev BS:=EN fun i j=>decide (j < i)
abbrev Pd:=EN fun i j=>decide (j≤i)
def kr:P→Bool
 | .non=>true
 | _=>false
def eZ (p:P):P→Option P
 | .non=>some (.bl (kr p))
 | .bl b=>match p with
  | .bl c=>some (.bl (c == b))
  | _=>none
 | _=>none
theorem KN {F H:Hp} {v:V} {p:P} (h:Vw K F H v p):decide (v=.non)=(kr p):=by
 cases h with
 | p h=>cases h <;> rfl
 | lst=>rfl
 | dicK=>rfl
 | dicN=>rfl
 | ins=>rfl
def VG:R2:=fun x y H Q=>(fun x y H Q=>y=.non∧Q (.bl (decide (x=.non))) H) x y H Q∨rIsB x y H Q
theorem P8 {X:Cx}:OpR X (compareOp .Is) VG:=OpR.or op_isN op_isBl
theorem Q0:lj K VG eZ:=fun p q z x y F H Q e hx hy s k=>by
 unfold eZ at e
 split at e
 · cases e
   exact .inl ⟨hy.non,k _ F H (by rw[KN hx]; exact .bl _) (bx.refl s)⟩
 · split at e
   · cases e
     rename_i b c
     cases hx.bl; cases hy.bl
     exact .inr ⟨_,_,rfl,rfl,k _ F H (by cases b <;> cases c <;> exact .bl _) (bx.refl s)⟩
   · cases e
 · cases e
def eW (p:P):P→Option P
 | .non=>some (.bl (!kr p))
 | .bl b=>match p with
  | .bl c=>some (.bl (c != b))
  | _=>none
 | _=>none
def P7:R2:=fun x y H Q=>(fun x y H Q=>y=.non∧Q (.bl (!decide (x=.non))) H) x y H Q∨rNotB x y H Q
theorem Oy {X:Cx}:OpR X (compareOp .IsNot) P7:=OpR.or op_notN op_notBl
theorem NZ:lj K P7 eW:=fun p q z x y F H Q e hx hy s k=>by
 unfold eW at e
 split at e
 · cases e
   exact .inl ⟨hy.non,k _ F H (by rw[KN hx]; exact .bl _) (bx.refl s)⟩
 · split at e
   · cases e
     rename_i b c
     cases hx.bl; cases hy.bl
     exact .inr ⟨_,_,rfl,rfl,k _ F H (by cases b <;> cases c <;> exact .bl _) (bx.refl s)⟩
   · cases e
 · cases e
def tc:P→P→Option P
 | p, .lst qs=>if fin dpt p=true∧fin dpt (.lst qs)=true then some (.bl (qs.any fun z=>eqv z p)) else none
 | p, .tup qs=>if fin dpt p=true∧fin dpt (.tup qs)=true then some (.bl (qs.any fun z=>eqv z p)) else none
 | .str x, .str y=>some (.bl (!(Builtin.Str.occurrences y x 0 y.length 1).isEmpty))
 | _,_=>none
def El:Option P→Option P
 | some (.bl b)=>some (.bl !b)
 | _=>none
def jA (p q:P):Option P:=El (tc p q)
def Qf (K:PySem.W.Frag):R2:=fun x y H Q=>∃ d ds,Dp K H x d∧Dp K H y (.tuple ds)∧SeqAt.shaped d=true∧SeqAt.shaped (.tuple ds)=true∧Q (.bl (ds.any fun z=>PyData.eqv z d)) H
def Dg (K:PySem.W.Frag):R2:=fun x y H Q=>∃ d ds,Dp K H x d∧Dp K H y (.tuple ds)∧SeqAt.shaped d=true∧SeqAt.shaped (.tuple ds)=true∧Q (.bl (!ds.any fun z=>PyData.eqv z d)) H
theorem Nz {X:Cx} (hu:X.A.units+65 < cLine):OpR X (compareOp .In) (Qf X.K):=by
 intro pins s σ H x y v u Q I rx ry h
 obtain⟨d,ds,hd,he,sd,se,q⟩:=h
 obtain⟨as,r1⟩:=Dp.reads I d x v hd rx
 obtain⟨bs,r2⟩:=Dp.reads I (.tuple ds) y u he ry
 exact SeqAt.in_tuple_reads r2 r1 (SeqAt.canLay_of_shaped se) (SeqAt.canLay_of_shaped sd) (room_in_shaped sd hu) ⟨.bl _,H,I,rfl,q⟩
theorem Fe {X:Cx} (hu:X.A.units+65 < cLine):OpR X (compareOp .NotIn) (Dg X.K):=by
 intro pins s σ H x y v u Q I rx ry h
 obtain⟨d,ds,hd,he,sd,se,q⟩:=h
 obtain⟨as,r1⟩:=Dp.reads I d x v hd rx
 obtain⟨bs,r2⟩:=Dp.reads I (.tuple ds) y u he ry
 exact SeqAt.notIn_tuple_reads r2 r1 (SeqAt.canLay_of_shaped se) (SeqAt.canLay_of_shaped sd) (room_in_shaped sd hu) ⟨.bl _,H,I,rfl,q⟩
theorem wy {p:P} (hp:fin dpt p=true):∀ {qs:List P},(∀ q∈qs,fin dpt q=true)→((je qs).any fun z=>PyData.eqv z (py p))=qs.any fun z=>eqv z p
 | [],_=>rfl
 | q::qs,h=>by
  simp only[je,List.any_cons]
  rw[Fk dpt q p (h q (List.mem_cons_self ..)) hp,wy hp fun z hz=>h z (List.mem_cons_of_mem _ hz)]
theorem ji:∀ {n m:Nat} {d:P},fin n d=true→n≤m→fin m d=true:=by
 intro n
 induction n with
 | zero =>
  intro m d h _
  cases d <;> first | (cases h; done) | skip
  all_goals (cases m <;> exact h)
 | succ n ih =>
  intro m d h hm
  cases m with
  | zero=>omega
  | succ m =>
   cases d <;> first | (cases h; done) | skip
   all_goals first
    | exact h
    | exact List.all_eq_true.mpr fun x hx=>ih (List.all_eq_true.mp h x hx) (by omega)
def SN (K:PySem.W.Frag):R2:=fun x y H Q=>rInD K x y H Q∨Qf K x y H Q∨(fun x y H Q=>∃ i j:Str,x=.str i∧y=.str j∧Q (.bl (!(Builtin.Str.occurrences j i 0 j.length 1).isEmpty)) H) x y H Q
theorem QB {X:Cx} (hu:X.A.units+65 < cLine):OpR X (compareOp .In) (SN X.K):=OpR.or (op_inD hu) (OpR.or (Nz hu) op_in_str)
theorem Vx:lj K (SN K.K) tc:=fun p q z x y F H Q e hx hy s k=>by
 unfold tc at e
 split at e
 · rename_i qs
   obtain⟨⟨h1,h2⟩,rfl⟩:=cW e
   have all:=List.all_eq_true.mp (show qs.all (fin 23)=true from h2)
   refine .inl ⟨py p,je qs,nU _ _ _ h1 (hx.rd s),nU _ _ _ h2 (hy.rd s),dG h1,dG h2,?_⟩
   rw[wy h1 fun q hq=>ji (all q hq) (by decide)]
   exact k _ F H (.bl _) (bx.refl s)
 · rename_i qs
   obtain⟨⟨h1,h2⟩,rfl⟩:=cW e
   have all:=List.all_eq_true.mp (show qs.all (fin 23)=true from h2)
   refine .inr (.inl ⟨py p,je qs,nU _ _ _ h1 (hx.rd s),nU _ _ _ h2 (hy.rd s),dG h1,dG h2,?_⟩)
   rw[wy h1 fun q hq=>ji (all q hq) (by decide)]
   exact k _ F H (.bl _) (bx.refl s)
 · cases e
   exact .inr (.inr ⟨_,_,hx.str,hy.str,k _ F H (.bl _) (bx.refl s)⟩)
 · cases e
def AJ (K:PySem.W.Frag):R2:=fun x y H Q=>rNotInD K x y H Q∨Dg K x y H Q∨(fun x y H Q=>∃ i j:Str,x=.str i∧y=.str j∧Q (.bl (!(!(Builtin.Str.occurrences j i 0 j.length 1).isEmpty))) H) x y H Q
theorem Kv {X:Cx} (hu:X.A.units+65 < cLine):OpR X (compareOp .NotIn) (AJ X.K):=OpR.or (op_notInD hu) (OpR.or (Fe hu) op_notin_str)
theorem Jd:lj K (AJ K.K) jA:=fun p q z x y F H Q e hx hy s k=>by
 unfold jA tc at e
 split at e
 · rename_i qs
   split at e
   · rename_i hc
     obtain⟨h1,h2⟩:=hc
     cases e
     have all:=List.all_eq_true.mp (show qs.all (fin 23)=true from h2)
     refine .inl ⟨py p,je qs,nU _ _ _ h1 (hx.rd s),nU _ _ _ h2 (hy.rd s),dG h1,dG h2,?_⟩
     rw[wy h1 fun q hq=>ji (all q hq) (by decide)]
     exact k _ F H (.bl _) (bx.refl s)
   · cases e
 · rename_i qs
   split at e
   · rename_i hc
     obtain⟨h1,h2⟩:=hc
     cases e
     have all:=List.all_eq_true.mp (show qs.all (fin 23)=true from h2)
     refine .inr (.inl ⟨py p,je qs,nU _ _ _ h1 (hx.rd s),nU _ _ _ h2 (hy.rd s),dG h1,dG h2,?_⟩)
     rw[wy h1 fun q hq=>ji (all q hq) (by decide)]
     exact k _ F H (.bl _) (bx.refl s)
   · cases e
 · cases e
   exact .inr (.inr ⟨_,_,hx.str,hy.str,k _ F H (.bl _) (bx.refl s)⟩)
 · cases e
end
section
variable {C:Kx} {a b c e:Expr} {es rest:List Expr} {pos p:Pos} {x:Str} {m m1 m2 m3:M} {t t1 t2:MT} {ma:MA} {K:Fr}
theorem cf (h1:Ej C m1 a) (h2:Ej C m2 b):Ej C (eB ck m1 m2) (.BinOp a .Add b pos):=um R0 Ry h1 h2
theorem kD (h1:Ej C m1 a) (h2:Ej C m2 b):Ej C (eB jR m1 m2) (.BinOp a .Sub b pos):=um op_sub SZ h1 h2
theorem qE (h1:Ej C m1 a) (h2:Ej C m2 b):Ej C (eB lO m1 m2) (.BinOp a .Mult b pos):=um Te SG h1 h2
theorem pD (h1:Ej C m1 a) (h2:Ej C m2 b):Ej C (eB mW m1 m2) (.BinOp a .Mod b pos):=um op_mod Ts h1 h2
theorem BM (h1:Ej C m1 a) (h2:Ej C m2 b):Ej C (eB vb m1 m2) (.BinOp a .FloorDiv b pos):=um op_fdiv RD h1 h2
theorem xD (h1:Ej C m1 a) (h2:Ej C m2 b):Ej C (eB sj m1 m2) (.BinOp a .Pow b pos):=um op_pow SI h1 h2
abbrev Mk (op:CmpOp) (b:Expr):Prop:=behindInMarks op b=false
theorem Gq (hu:C.X.A.units+64 < cLine) (h1:Ej C m1 a) (h2:Ej C m2 b) (hm:Mk .Eq b:=by first | exact nomark _ | rfl):Ej C (eB bP m1 m2) (.Compare a [.Eq] [b] pos):=wK (op_eqD hu) Ke h1 h2 hm
theorem Rl (h1:Ej C m1 a) (h2:Ej C m2 b) (hm:Mk .Lt b:=by first | exact nomark _ | rfl):Ej C (eB yu m1 m2) (.Compare a [.Lt] [b] pos):=wK op_lt pS h1 h2 hm
theorem QV (h1:Ej C m1 a) (h2:Ej C m2 b) (hm:Mk .LtE b:=by first | exact nomark _ | rfl):Ej C (eB Wu m1 m2) (.Compare a [.LtE] [b] pos):=wK op_le pS h1 h2 hm
theorem U9 (h1:Ej C m1 a) (h2:Ej C m2 b) (hm:Mk .GtE b:=by first | exact nomark _ | rfl):Ej C (eB Pd m1 m2) (.Compare a [.GtE] [b] pos):=wK op_ge pS h1 h2 hm
theorem Rk (h1:Ej C m1 a) (h2:Ej C m2 b) (hm:Mk .Is b:=by first | exact nomark _ | rfl):Ej C (eB eZ m1 m2) (.Compare a [.Is] [b] pos):=wK P8 Q0 h1 h2 hm
theorem cJ (hu:C.X.A.units+64 < cLine) (h1:Ej C m1 a) (h2:Ej C m2 b) (hm:Mk .Eq b:=by first | exact nomark _ | rfl):Tj C (tB bP m1 m2) (.Compare a [.Eq] [b] pos):=rm (op_eqD hu) Ke h1 h2 hm
theorem ow (hu:C.X.A.units+64 < cLine) (h1:Ej C m1 a) (h2:Ej C m2 b) (hm:Mk .NotEq b:=by first | exact nomark _ | rfl):Tj C (tB lm m1 m2) (.Compare a [.NotEq] [b] pos):=rm (op_neD hu) Qo h1 h2 hm
theorem wU (h1:Ej C m1 a) (h2:Ej C m2 b) (hm:Mk .Lt b:=by first | exact nomark _ | rfl):Tj C (tB yu m1 m2) (.Compare a [.Lt] [b] pos):=rm op_lt pS h1 h2 hm
theorem uJ (h1:Ej C m1 a) (h2:Ej C m2 b) (hm:Mk .Gt b:=by first | exact nomark _ | rfl):Tj C (tB BS m1 m2) (.Compare a [.Gt] [b] pos):=rm op_gt pS h1 h2 hm
theorem WS (h1:Ej C m1 a) (h2:Ej C m2 b) (hm:Mk .GtE b:=by first | exact nomark _ | rfl):Tj C (tB Pd m1 m2) (.Compare a [.GtE] [b] pos):=rm op_ge pS h1 h2 hm
theorem Ge (h1:Ej C m1 a) (h2:Ej C m2 b) (hm:Mk .Is b:=by first | exact nomark _ | rfl):Tj C (tB eZ m1 m2) (.Compare a [.Is] [b] pos):=rm P8 Q0 h1 h2 hm
theorem nM (h1:Ej C m1 a) (h2:Ej C m2 b) (hm:Mk .IsNot b:=by first | exact nomark _ | rfl):Tj C (tB eW m1 m2) (.Compare a [.IsNot] [b] pos):=rm Oy NZ h1 h2 hm
def tK (f:P→Option P) (d:D) (S:ag):Rs D:=match view S d with
 | some p=>match f p with
  | some r=>.ok (.p r) S
  | none=>.no
 | none=>.no
def eU (f:P→Option P) (m:M):M:=fun sl S=>(m sl S).bind fun d S1=>tK f d S1
def ii:P→Option P
 | .int n=>some (.int (-n))
 | _=>none
theorem hZ (h:Ej C m a):Ej C (eU ii m) (.UnaryOp .USub a pos):=.mk fun sl S σ F R H hs hr Q post =>
 ED.of (pe_un un_neg bu) (h sl S σ F R H hs hr _ (aK.bind post fun d S1 x F1 R1 H1 _ rx rep1 s1 r1 ah=>by
  unfold tK at ah
  cases hv:view S1 d with
  | none=>rw[hv] at ah; exact ah.elim
  | some q =>
   rw[hv] at ah
   cases q with
   | int n=>exact⟨n,(ec rx rep1 hv).int,ah.okv (show aP C.K F1 R1 (.int (-n)) (.p (.int (-n))) from .int _) rep1⟩
   | _=>exact ah.elim))
def zu (S:ag) (d:D):Rs Int:=match view S d with
 | some (.int i)=>.ok i S
 | _=>.no
theorem mQ {β:Type} {σ:L2.St} {F H:Hp} {R:List Addr} {S:ag} {d:D} {v:V} {rel:Hp→List Addr→β→D→Prop} {Q:β→Hp→Prop} {f:Int→ag→Rs D} (rv:aP C.K F R v d) (rep:bQ C.K C.G F R S H) (post:aK C σ F R rel Q ((zu S d).bind f)):∃ i,v=.int i∧aK C σ F R rel Q (f i S):=by
 unfold zu at post
 cases hv:view S d with
 | none=>rw[hv] at post; exact post.elim
 | some q =>
  rw[hv] at post
  cases q with
  | int n=>exact⟨n,(ec rv rep hv).int,post⟩
  | _=>exact post.elim
def Nb (f g:Int→Int→Bool) (m1 m2 m3:M):M:=fun sl S=>(m1 sl S).bind fun d1 S1=>(m2 sl S1).bind fun d2 S2=>(zu S2 d1).bind fun i S2=>(zu S2 d2).bind fun j S2 =>
 if f i j=true then (m3 sl S2).bind fun d3 S3=>(zu S3 d3).bind fun k S3=>.ok (.p (.bl (g j k))) S3 else .ok (.p (.bl false)) S2
theorem C4 {op RK:CmpOp} {f g:Int→Int→Bool} (ho:OpR C.X (compareOp op) (rI0 fun i j=>.bl (f i j))) (ho':OpR C.X (compareOp RK) (rI0 fun i j=>.bl (g i j))) (h1:Ej C m1 a) (h2:Ej C m2 b) (h3:Ej C m3 c)
  (hm:lastMarks [op,RK] [b,c]=false:=by with_unfolding_all rfl):Ej C (Nb f g m1 m2 m3) (.Compare a [op,RK] [b,c] pos):=.mk fun sl S σ F R H hs hr Q post =>
 ED.of (pe_chain ho ho' bu bu bu hm) (h1 sl S σ F R H hs hr _ (aK.bind post fun d1 S1 x F1 R1 H1 _ rx rep1 s1 r1 ah=>h2 sl S1 σ F1 R1 H1 (hs.mono s1 r1) rep1 _ (aK.bind ah fun d2 S2 y F2 R2 H2 _ ry rep2 s2 r2 post2=>by
  obtain⟨i,rfl,post2⟩:=mQ (rx.mono s2 r2) rep2 post2
  obtain⟨j,rfl,post2⟩:=mQ ry rep2 post2
  refine⟨i,j,rfl,rfl,f i j,rfl,?_⟩
  cases hf:f i j with
  | false =>
   rw[hf] at post2
   show Q (.bl false) H2
   exact aK.okv (show aK C σ F2 R2 (aP C.K) Q (.ok (.p (.bl false)) S2) from post2) (show aP C.K F2 R2 (.bl false) (.p (.bl false)) from .bl _) rep2
  | true =>
   rw[hf] at post2
   show ED C.X c σ H2 _
   have post2:aK C σ F2 R2 (aP C.K) Q ((m3 sl S2).bind fun d3 S3=>(zu S3 d3).bind fun k S3=>.ok (.p (.bl (g j k))) S3):=post2
   refine h3 sl S2 σ F2 R2 H2 ((hs.mono s1 r1).mono s2 r2) rep2 _ (aK.bind post2 fun d3 S3 z F3 R3 H3 _ rz rep3 s3 r3 post3=>?_)
   obtain⟨k,rfl,post3⟩:=mQ rz rep3 post3
   exact⟨j,k,rfl,rfl,post3.okv (show aP C.K F3 R3 (.bl (g j k)) (.p (.bl (g j k))) from .bl _) rep3⟩)))
theorem vK (h1:Ej C m1 a) (h2:Ej C m2 b) (h3:Ej C m3 c) (hm:lastMarks [.LtE, .LtE] [b,c]=false:=by with_unfolding_all rfl):Ej C (Nb (fun i j=>decide (i≤j)) (fun i j=>decide (i≤j)) m1 m2 m3) (.Compare a [.LtE, .LtE] [b,c] pos):=C4 op_le op_le h1 h2 h3 hm
theorem G2 (h1:Ej C m1 a) (h2:Ej C m2 b) (h3:Ej C m3 c) (hm:lastMarks [.LtE, .Lt] [b,c]=false:=by with_unfolding_all rfl):Ej C (Nb (fun i j=>decide (i≤j)) (fun i j=>decide (i < j)) m1 m2 m3) (.Compare a [.LtE, .Lt] [b,c] pos):=C4 op_le op_lt h1 h2 h3 hm
def ef:P→P→Option P
 | .lst ps, .int i=>atI ps i
 | .tup ps, .int i=>atI ps i
 | .str z, .int i=>if z.length≤sizeLine then (atI z.cps.toList i).map (fun c=>.str ⟨#[c]⟩) else none
 | .scr ns, .int i=>(atI ns i).map .int
 | _,_=>none
theorem LG {F:Hp} {ds:List P} {vs:List V} {k:Int} {d:P} (h:ay K F vs ds) (e:atI ds k=some d):∃ v,atI vs k=some v∧Rp K F v d:=by
 unfold atI at e ⊢
 rw[h.length]
 cases hj:ixN ds.length k with
 | none=>rw[hj] at e; cases e
 | some j =>
  rw[hj] at e
  obtain⟨v,e1,e2⟩:=h.get' (i:=j) (d:=d) e
  exact⟨v,e1,e2⟩
theorem NA {α β:Type} {f:α→β} {xs:List α} {i:Int} {y:α} (h:atI xs i=some y):atI (xs.map f) i=some (f y):=by
 unfold atI at h ⊢
 rw[List.length_map]
 cases hj:ixN xs.length i with
 | none=>rw[hj] at h; cases h
 | some j =>
  rw[hj] at h
  show (xs.map f)[j]?=_
  rw[List.getElem?_map,show xs[j]?=some y from h]
  rfl
def Vk (K:PySem.W.Frag):R2:=fun x y H Q=>rIxL K x y H Q∨rIxT K x y H Q∨rIxS x y H Q
theorem ZD {X:Cx}:IxR X (Vk X.K):=IxR.or ix_list (IxR.or ix_tup ix_str)
theorem UR:lj K (Vk K.K) ef:=fun p q z x y F H Q e hx hy s k=>by
 unfold ef at e
 split at e
 · obtain⟨a,vs,rfl,h1,h2⟩:=hx.lstE s
   obtain⟨v,e1,e2⟩:=LG h2 e
   exact .inl ⟨_,_,_,v,rfl,hy.int, .inl (.inl h1),e1,k _ F H e2 (bx.refl s)⟩
 · obtain⟨a,vs,rfl,h1,h2⟩:=hx.tupE
   obtain⟨v,e1,e2⟩:=LG h2 e
   exact .inr (.inl ⟨_,_,_,v,rfl,hy.int,aZ s h1,e1,k _ F H e2 (bx.refl s)⟩)
 · rename_i z' i
   split at e
   · rename_i hz
     cases hc:atI z'.cps.toList i with
     | none=>rw[hc] at e; cases e
     | some c =>
      rw[hc] at e; cases e
      exact .inr (.inr ⟨_,_,c,hx.str,hy.int,hz,hc,k _ F H (.str _) (bx.refl s)⟩)
   · cases e
 · rename_i ns i
   cases hc:atI ns i with
   | none=>rw[hc] at e; cases e
   | some n =>
    rw[hc] at e; cases e
    obtain⟨a,rfl,h1⟩:=hx.scrE s
    exact .inl ⟨a,_,_, .int n,rfl,hy.int,h1,NA hc,k _ F H (.int _) (bx.refl s)⟩
 · cases e
def fN {α:Type} (ds:List α) (lo hi:Option Int):List α:=(ds.drop (HT.sIx ds.length 0 lo)).take (HT.sIx ds.length ds.length hi - HT.sIx ds.length 0 lo)
theorem J8 {F:Hp} {vs:List V} {ds:List P} {lo hi:Option Int} (h:ay K F vs ds):ay K F (cutV vs lo hi) (fN ds lo hi):=by
 unfold cutV fN
 rw[h.length]
 exact (h.drop _).take _
theorem L6 {F:Hp} {vs:List V} {ds:List P} {lo hi:Option Int} (h:ay K F vs ds) (hw:HT.sIx vs.length 0 lo=0∧HT.sIx vs.length vs.length hi=vs.length):fN ds lo hi=ds:=by
 unfold fN
 rw[h.length] at hw
 rw[hw.1,hw.2,List.drop_zero,Nat.sub_zero,List.take_length]
def Hy (lo hi:Option Int):P→Option P
 | .lst ps=>some (.lst (fN ps lo hi))
 | .tup ps=>some (.tup (fN ps lo hi))
 | .str z=>if z.length≤sizeLine then some (.str (cutS z lo hi)) else none
 | .scr ns=>some (.lst ((fN ns lo hi).map .int))
 | _=>none
abbrev MO:=av→ag→Rs (Option Int)
def oN:MO:=fun _ S=>.ok none S
def oS (m:M):MO:=fun sl S=>(m sl S).bind fun d S1=>(zu S1 d).bind fun i S1=>.ok (some i) S1
def Oj (C:Kx) (m:MO) (o:Option Expr):Prop:=∃ t,PO C.X o t∧∀ sl S σ F R H,SlR C.K C.px F R σ sl→bQ C.K C.G F R S H→∀ Q:Option Int→Hp→Prop,aK C σ F R (fun _ _ b a=>b=a) Q (m sl S)→t σ H Q
theorem fj:Oj C oN none:=⟨_,po_none,fun sl S σ F R H hs hr Q post=>post.okv rfl hr⟩
theorem fh (h:Ej C m e):Oj C (oS m) (some e):=⟨_,po_some bu,fun sl S σ F R H hs hr Q post=>h sl S σ F R H hs hr _ (aK.bind post fun d S1 x F1 R1 H1 _ rx rep1 s1 r1 ah=>by
 unfold zu at ah
 cases hv:view S1 d with
 | none=>rw[hv] at ah; exact ah.elim
 | some q =>
  rw[hv] at ah
  cases q with
  | int n=>exact⟨n,(ec rx rep1 hv).int,ah.okv (b:=some n) rfl rep1⟩
  | _=>exact ah.elim)⟩
def uD (m:M) (lo hi:MO):M:=fun sl S=>(m sl S).bind fun d S1=>(lo sl S1).bind fun l S2=>(hi sl S2).bind fun h S3=>tK (Hy l h) d S3
def VY (K:PySem.W.Frag):V→Option Int→Option Int→Hp→VK→Prop:=fun x lo hi H Q=>∃ a xs,x=.ref a∧SqT K H a xs ∧
 (HT.sIx xs.length 0 lo=0∧HT.sIx xs.length xs.length hi=xs.length→Q (.ref a) H)∧(¬ (HT.sIx xs.length 0 lo=0∧HT.sIx xs.length xs.length hi=xs.length)→∀ p o,H p=none→o.dict=none→Q (.ref p) (upd H p (.frz o (.tup (cutV xs lo hi)))))
theorem Nd {X:Cx}:L2.SlR X (VY X.K):=by
 intro pins s σ H x v vl vu lo hi sl Q I rx hs pl pu h
 obtain⟨a,xs,rfl,hx,q1,q2⟩:=h
 cases rx
 obtain⟨its,r,ht,hz⟩:=I.tuple hx
 have hlen:its.toArray.size=xs.length:=by rw[List.size_toArray]; exact r.length.symm
 refine⟨"tuple",_,PyProof.Rows.slot_tuple_getitem.lookup,ht.typeIs,?_⟩
 by_cases hw:HT.sIx xs.length 0 lo=0∧HT.sIx xs.length xs.length hi=xs.length
 · exact getItem_tuple_whole ht hs pl pu (by rw[hlen]; exact hw) ⟨.ref a,H,I,rfl,q1 hw⟩
 · refine HT.getItem_tuple_cut ht hs pl pu (by rw[hlen]; exact hw) ?_ (by rw[hlen]; exact hz)
   rw[hlen]
   refine⟨.ref s.heap.objs.size,_,I.laid (t':=s.toks) (o:=.frz { cls:=.type "tuple",data:=.seq ((its.toArray.toList.drop (HT.sIx xs.length 0 lo)).take (HT.sIx xs.length xs.length hi - HT.sIx xs.length 0 lo)).toArray } (.tup (cutV xs lo hi))) (fun b ob q=>Heap.get?_push_of_some _ q) (Nat.le_refl _) ?_,rfl,q2 hw _ _ (I.hok.fresh (Nat.le_refl _)) rfl⟩
   exact⟨by heap_get,Nat.le_trans (cutV_length xs lo hi) hz,_,(r.drop (HT.sIx xs.length 0 lo)).take (HT.sIx xs.length xs.length hi - HT.sIx xs.length 0 lo),IsTup.new _ _⟩
def Yj (K:PySem.W.Frag):V→Option Int→Option Int→Hp→VK→Prop:=fun x lo hi H Q=>rSlL K x lo hi H Q∨VY K x lo hi H Q∨rSlS x lo hi H Q
theorem Ze {X:Cx}:L2.SlR X (Yj X.K):=L2.SlR.or sl_list (L2.SlR.or Nd sl_str)
theorem IG (ns:List Int) (lo hi:Option Int):cutV (ns.map V.int) lo hi=(fN ns lo hi).map V.int:=by
 unfold cutV fN
 rw[List.length_map,List.map_take,List.map_drop]
theorem vR {F:Hp}:∀ ns:List Int,ay K F (ns.map V.int) (ns.map P.int)
 | []=>.nil
 | n::ns=>.cons (.int n) (vR ns)
theorem dI {lo hi:Option Expr} {p2:Pos} {ml mh:MO} (h:Ej C m a) (hl:Oj C ml lo) (hh:Oj C mh hi):Ej C (uD m ml mh) (.Subscript a (.Slice lo hi none p2) pos):=.mk fun sl S σ F R H hs hr Q post=>by
 obtain⟨tl,pl,kl⟩:=hl
 obtain⟨th,ph,kh⟩:=hh
 refine ED.of (pe_slice Ze bu pl ph) (h sl S σ F R H hs hr _ (aK.bind post fun d S1 x F1 R1 H1 _ rx rep1 s1 r1 ah=>kl sl S1 σ F1 R1 H1 (hs.mono s1 r1) rep1 _ (aK.bind ah fun l S2 l' F2 R2 H2 _ rl rep2 s2 r2 post2 =>
  kh sl S2 σ F2 R2 H2 ((hs.mono s1 r1).mono s2 r2) rep2 _ (aK.bind post2 fun u S3 u' F3 R3 H3 _ ru rep3 s3 r3 post3=>?_))))
 cases (show l'=l from rl)
 cases (show u'=u from ru)
 unfold tK at post3
 cases hv:view S3 d with
 | none=>rw[hv] at post3; exact post3.elim
 | some q =>
  rw[hv] at post3
  have vw:=ec ((rx.mono s2 r2).mono s3 r3) rep3 hv
  have s:=rep3.sub
  cases q with
  | lst ps =>
   obtain⟨a,vs,rfl,h1,h2⟩:=vw.lstE s
   refine .inl ⟨a,vs,rfl, .inl (.inl h1),fun p hn=>?_⟩
   have g:=bx.new (o:=.lst (cutV vs l u)) s hn
   exact post3 _ _ R3 _ (show aP C.K _ R3 _ (.p (.lst (fN ps l u))) from .lst upd_same (ay.mono g.sF _ _ (J8 h2))) (rep3.grow g) g.sF aI
  | tup ps =>
   have hp:=vw.tupP
   obtain⟨a,vs,rfl,h1,h2⟩:=vw.tupE
   refine .inr (.inl ⟨a,vs,rfl,aZ s h1,fun hw=>?_,fun hw p ob hn hd=>?_⟩)
   · exact post3 _ _ R3 _ (show aP C.K _ R3 _ (.p (.tup (fN ps l u))) from by rw[L6 h2 hw]; exact hp) rep3 (Same.refl _) aI
   · have g:=bx.new (o:=.frz ob (.tup (cutV vs l u))) s hn
     exact post3 _ _ R3 _ (show aP C.K _ R3 _ (.p (.tup (fN ps l u))) from .tup ⟨ob,upd_same,hd⟩ (ay.mono g.sF _ _ (J8 h2))) (rep3.grow g) g.sF aI
  | str z =>
   by_cases hz:z.length≤sizeLine
   · simp only[Hy,if_pos hz] at post3
     exact .inr (.inr ⟨z,vw.str,hz,post3.okv (show aP C.K F3 R3 _ (.p (.str (cutS z l u))) from .str _) rep3⟩)
   · simp only[Hy,if_neg hz] at post3
     exact post3.elim
  | scr ns =>
   obtain⟨a,rfl,h1⟩:=vw.scrE s
   refine .inl ⟨a,_,rfl,h1,fun p hn=>?_⟩
   rw[IG]
   have g:=bx.new (o:=.lst ((fN ns l u).map V.int)) s hn
   exact post3 _ _ R3 _ (show aP C.K _ R3 _ (.p (.lst ((fN ns l u).map .int))) from .lst upd_same (vR _)) (rep3.grow g) g.sF aI
  | _=>exact post3.elim
def VX (t:TA):TE:=fun σ H Q=>t σ H fun xs H1=>xs.length≤sizeLine∧∀ p o,H1 p=none→o.dict=none→Q (.ref p) (upd H1 p (.frz o (.tup xs)))
theorem PD {X:Cx} {es:List Expr} {t:TA} {x1} {pos:Pos} (h:PA X es t):PE X (.Tuple es x1 pos) (VX t):=by
 refine⟨fun pins s σ H Q I hq=>?_⟩
 refine wpAny_Tuple_spliced (thn (h.run pos pins s σ H _ I hq) fun us s1 ⟨xs,H1,I1,r,z,q⟩=>⟨by rw[← r.length]; exact z,?_⟩)
 have hf:H1 s1.heap.objs.size=none:=I1.hok.fresh (Nat.le_refl _)
 refine⟨.ref s1.heap.objs.size,upd H1 s1.heap.objs.size (.frz { cls:=.type "tuple",data:=.seq us.toArray } (.tup xs)),I1.laid (t':=s1.toks) (fun b u e=>Heap.get?_push_of_some _ e) (Nat.le_refl _) ?_,rfl,q _ _ hf rfl⟩
 exact⟨by heap_get,z,us,r,IsTup.new _ _⟩
def eL (ma:MA):M:=fun sl S=>(ma sl S).bind fun ds S1=>match cR ds with
 | some ps=>if ps.length≤sizeLine then .ok (.p (.lst ps)) S1 else .no
 | none=>.no
def eT (ma:MA):M:=fun sl S=>(ma sl S).bind fun ds S1=>match cR ds with
 | some ps=>if ps.length≤sizeLine then .ok (.p (.tup ps)) S1 else .no
 | none=>.no
def Ec (ma:MA):M:=fun sl S=>(ma sl S).bind fun ds S1=>if ds.length≤sizeLine then .ok (.ref S1.length) (S1++[.lst ds]) else .no
theorem jL (h:Aj C ma es):Ej C (eL ma) (.List es pos):=.mk fun sl S σ F R H hs hr Q post =>
 ED.of (pe_lst eY) (h sl S σ F R H hs hr _ (aK.bind post fun ds S1 vs F1 R1 H1 _ rx rep1 s1 r1 ah=>by
  cases hp:cR ds with
  | none=>rw[hp] at ah; exact ah.elim
  | some ps =>
   rw[hp] at ah
   by_cases hl:ps.length≤sizeLine
   · simp only[if_pos hl] at ah
     have e:=jc hp
     subst e
     have rp:=rx.to_p
     refine⟨by rw[rp.length]; exact hl,fun l hn=>?_⟩
     have g:=bx.new (o:=.lst vs) rep1.sub hn
     exact ah _ _ R1 _ (show aP C.K _ R1 _ (.p (.lst ps)) from .lst upd_same (ay.mono g.sF _ _ rp)) (rep1.grow g) g.sF aI
   · simp only[if_neg hl] at ah; exact ah.elim))
theorem bI {x1} (h:Aj C ma es):Ej C (eT ma) (.Tuple es x1 pos):=.mk fun sl S σ F R H hs hr Q post =>
 ED.of (PD eY) (h sl S σ F R H hs hr _ (aK.bind post fun ds S1 vs F1 R1 H1 _ rx rep1 s1 r1 ah=>by
  cases hp:cR ds with
  | none=>rw[hp] at ah; exact ah.elim
  | some ps =>
   rw[hp] at ah
   by_cases hl:ps.length≤sizeLine
   · simp only[if_pos hl] at ah
     have e:=jc hp
     subst e
     have rp:=rx.to_p
     refine⟨by rw[rp.length]; exact hl,fun l ob hn hd=>?_⟩
     have g:=bx.new (o:=.frz ob (.tup vs)) rep1.sub hn
     exact ah _ _ R1 _ (show aP C.K _ R1 _ (.p (.tup ps)) from .tup ⟨ob,upd_same,hd⟩ (ay.mono g.sF _ _ rp)) (rep1.grow g) g.sF aI
   · simp only[if_neg hl] at ah; exact ah.elim))
theorem mV {R:List Addr} {a:Addr} {n:Nat} (h:R.length=n):(R++[a])[n]?=some a:=by
 rw[← h,List.getElem?_append_right (Nat.le_refl _),Nat.sub_self]; rfl
theorem gR (h:Aj C ma es):Ej C (Ec ma) (.List es pos):=.mk fun sl S σ F R H hs hr Q post =>
 ED.of (pe_lst eY) (h sl S σ F R H hs hr _ (aK.bind post fun ds S1 vs F1 R1 H1 _ rx rep1 s1 r1 ah=>by
  by_cases hl:ds.length≤sizeLine
  · simp only[if_pos hl] at ah
    refine⟨by rw[rx.length]; exact hl,fun l hn=>?_⟩
    exact ah _ _ (R1++[l]) _ (show aP C.K _ _ _ (.ref S1.length) from ⟨l,mV rep1.len,rfl⟩) (rep1.push1 hn (.lst (rx.mono (Same.refl _) iz))) (Same.refl _) iz
  · simp only[if_neg hl] at ah; exact ah.elim))
end
section
variable {C:Kx} {a b c e tg iter:Expr} {es rest:List Expr} {pos pos' p:Pos} {x:Str} {m m1 m2 m3:M} {t t1 t2:MT} {ma:MA} {K:Fr} {s1 s2:MS} {st:Stmt} {ss:List Stmt} {i:Nat}
def az:MS:=fun sl S=>.nx sl S
def ao (m1 m2:MS):MS:=fun sl S=>match m1 sl S with
 | .nx sl' S'=>m2 sl' S'
 | r=>r
theorem aj:Sj C az []:=.mk fun sl S σ F R H hs hr D post=>SD.of pss_nil (post σ F R H hs hr (Same.refl _) aI)
theorem ac (h1:zl C s1 st) (h2:Sj C s2 ss):Sj C (ao s1 s2) (st::ss):=.mk fun sl S σ F R H hs hr D post=>by
 refine SD.of (pss_cons Zj rX) (h1 sl S σ F R H hs hr _ ?_)
 unfold ao at post
 cases UM:s1 sl S with
 | nx sl' S' =>
  rw[UM] at post
  exact fun σ' F' R' H' h1 IU h3 h4=>h2 sl' S' σ' F' R' H' h1 IU D (bM.mono post h3 h4)
 | rt d S'=>rw[UM] at post; exact post
 | bk d S'=>rw[UM] at post; exact post
 | ct d S'=>rw[UM] at post; exact post
 | exc d l S'=>rw[UM] at post; exact post
 | no=>rw[UM] at post; exact post.elim
def be (m:M):MS:=fun sl S=>(m sl S).st sl fun d S1=>.rt d S1
theorem au (h:Ej C m e):zl C (be m) (.Return (some e) pos):=.mk fun sl S σ F R H hs hr D post =>
 yC.of (ps_ret bu) (h sl S σ F R H hs hr _ (bM.bind post hs fun d S1 v F1 R1 H1 _ rv rep1 s1 r1 mx ah=>ah v F1 R1 H1 rv rep1 (Same.refl _) aI))
def ik (m:M):MS:=fun sl S=>(m sl S).st sl fun _ S1=>.nx sl S1
theorem fO (h:Ej C m e) (hw:swapsWith e none pos.line C.X.env=pure false:=by rfl):zl C (ik m) (.Expr e pos):=.mk fun sl S σ F R H hs hr D post =>
 yC.of (ps_expr bu hw) (h sl S σ F R H hs hr _ (bM.bind post hs fun d S1 v F1 R1 H1 _ rv rep1 s1 r1 mx ah=>ah σ F1 R1 H1 mx rep1 (Same.refl _) aI))
def iq (t:MT) (s1 s2:MS):MS:=fun sl S=>(t sl S).st sl fun b S1=>if b=true then s1 sl S1 else s2 sl S1
theorem aS {A B:List Stmt} (h:Tj C t c) (h1:Sj C s1 A) (h2:Sj C s2 B):zl C (iq t s1 s2) (.If c A B pos):=.mk fun sl S σ F R H hs hr D post =>
 yC.of (ps_if Fo rX rX) (h sl S σ F R H hs hr _ (bM.bind post hs fun k S1 k' F1 R1 H1 _ rk rep1 s1 r1 mx ah=>by
  cases (show k'=k from rk)
  cases k with
  | true =>
   show SD C.X A D σ H1
   exact h1 sl S1 σ F1 R1 H1 mx rep1 D ah
  | false =>
   show SD C.X B D σ H1
   exact h2 sl S1 σ F1 R1 H1 mx rep1 D ah))
def cV (i:Nat) (m:M):MS:=fun sl S=>(m sl S).st sl fun d S1=>.nx (sl.set i (some d)) S1
theorem aY {pos':Pos} (i:Nat) (hN:C.X.N.Nodup) (h:Ej C m e) (hi:C.X.N[i]?=some x:=by rfl) (hx:Loc C.X.env.scope x:=by first | exact Or.inl rfl | exact Or.inr rfl) (hw:swapsWith e (some (.Name x pos')) pos.line C.X.env=pure false:=by rfl)
  (hf:C.X.fn x=true∨C.X.env.scope.names.lookup x=some .local:=by first | exact .inl rfl | exact .inr rfl):zl C (cV i m) (.Assign [.Name x pos'] e pos):=.mk fun sl S σ F R H hs hr D post =>
 yC.of (ps_set hN hi hx bu hw hf) (h sl S σ F R H hs hr _ (bM.bind post hs fun d S1 v F1 R1 H1 _ rv rep1 s1 r1 mx ah=>ah _ F1 R1 H1 (mx.set rv) rep1 (Same.refl _) aI))
abbrev oF:=P→av→Option av
def gn (js:List Nat) (σ σ':L2.St):Prop:=σ'.length=σ.length∧∀ i:Nat,i∉js→σ'[i]?=σ[i]?
theorem gn.refl {js:List Nat} {σ:L2.St}:gn js σ σ:=⟨rfl,fun _ _=>rfl⟩
theorem gn.trans {js:List Nat} {σ σ1 σ2:L2.St} (h:gn js σ σ1) (h':gn js σ1 σ2):gn js σ σ2:=⟨h'.1.trans h.1,fun i hi=>(h'.2 i hi).trans (h.2 i hi)⟩
theorem gn.le {js ks:List Nat} {σ σ1:L2.St} (h:gn js σ σ1) (hk:∀ j∈js,j∈ks):gn ks σ σ1:=⟨h.1,fun i hi=>h.2 i fun z=>hi (hk i z)⟩
def Il (K:Fr) (g:TG) (eff:oF) (js:List Nat):Prop:=∀ {px:A3} q sl sl' σ F R H v (Q:L2.St→Hp→Prop),eff q sl=some sl'→Rp K F v q→SlR K px F R σ sl→Same F H→(∀ σ',SlR K px F R σ' sl'→gn js σ σ'→Q σ' H)→g v σ H Q
def bh (j:Nat):oF:=fun q sl=>some (sl.set j (some (.p q)))
theorem aB {j:Nat}:Il K (gName j) (bh j) [j]:=fun q sl sl' σ F R H v Q e hv hs s k=>by
 cases e
 exact k _ (hs.set (show aP K F R v (.p q) from hv)) ⟨List.length_set,fun i hi=>List.getElem?_set_ne fun z=>hi (by simp[z])⟩
abbrev Ey:=List P→av→Option av
def cu:Ey
 | [],sl=>some sl
 | _,_=>none
def aO (e1:oF) (e2:Ey):Ey
 | q::qs,sl=>match e1 q sl with
  | some sl1=>e2 qs sl1
  | none=>none
 | [],_=>none
def eG (n:Nat) (es:Ey):oF:=fun q sl=>match q with
 | .tup ps=>if ps.length=n then es ps sl else none
 | _=>none
def Nt (K:Fr) (g:TGs) (eff:Ey) (js:List Nat):Prop:=∀ {px:A3} qs sl sl' σ F R H vs (Q:L2.St→Hp→Prop),eff qs sl=some sl'→ay K F vs qs→SlR K px F R σ sl→Same F H→(∀ σ',SlR K px F R σ' sl'→gn js σ σ'→Q σ' H)→g vs σ H Q
theorem bS:Nt K gNil cu []:=fun qs sl sl' σ F R H vs Q e hv hs s k=>by
 cases qs with
 | nil=>cases e; cases hv; exact⟨rfl,k σ hs gn.refl⟩
 | cons q qs=>cases e
theorem aD {g:TG} {gs:TGs} {e1:oF} {e2:Ey} {js ks:List Nat} (h1:Il K g e1 js) (h2:Nt K gs e2 ks):Nt K (gCons g gs) (aO e1 e2) (js++ks):=fun qs sl sl' σ F R H vs Q e hv hs s k=>by
 cases hv with
 | nil=>cases e
 | @cons v vs q qs hv1 hv2 =>
  cases h:e1 q sl with
  | none=>simp only[aO,h] at e; cases e
  | some sl1 =>
   simp only[aO,h] at e
   exact⟨v,vs,rfl,h1 q sl sl1 σ F R H v _ h hv1 hs s fun σ1 mx o1=>h2 qs sl1 sl' σ1 F R H vs Q e hv2 mx s fun σ2 hs2 o2=>k σ2 hs2 ((o1.le fun j hj=>List.mem_append_left _ hj).trans (o2.le fun j hj=>List.mem_append_right _ hj))⟩
theorem cU {gs:TGs} {es:Ey} {js:List Nat} {n:Nat} (h:Nt K gs es js):Il K (gTup K.K n gs) (eG n es) js:=fun q sl sl' σ F R H v Q e hv hs s k=>by
 cases q with
 | tup ps =>
  have e:(if ps.length=n then es ps sl else none)=some sl':=e
  split at e
  · rename_i hn
    obtain⟨a,vs,rfl,h1,h2⟩:=(Vw.p (H:=H) hv).tupE
    exact⟨a,vs,rfl,aZ s h1,by rw[h2.length]; exact hn,h ps sl sl' σ F R H vs Q e h2 hs s k⟩
  · cases e
 | _=>cases e
def uF (eff:oF) (m:M):MS:=fun sl S=>(m sl S).st sl fun d S1=>match d with
 | .p q=>match eff q sl with
  | some sl'=>.nx sl' S1
  | none=>.no
 | .ref _=>.no
theorem nQ {g:TG} {eff:oF} {js:List Nat} (hg:PG C.X tg g) (ho:Il C.K g eff js) (h:Ej C m e) (nX:swapsWithSole [tg] e pos.line C.X.env=pure false:=by rfl) (hw:swappedStores [tg] e C.X.env=pure none:=by rfl)
  (h1:(assignEach [tg] C.X.env).map (·.2)=[assign tg C.X.env]:=by rfl):zl C (uF eff m) (.Assign [tg] e pos):=.mk fun sl S σ F R H hs hr D post =>
 yC.of (ps_asg bu hg nX hw h1) (h sl S σ F R H hs hr _ (bM.bind post hs fun d S1 v F1 R1 H1 _ rv rep1 s1 r1 mx ah=>by
  cases d with
  | ref n=>exact ah.elim
  | p q =>
   cases he:eff q sl with
   | none=>simp only[he] at ah; exact ah.elim
   | some sl' =>
    simp only[he] at ah
    exact ho q sl sl' σ F1 R1 H1 v _ he rv mx rep1.sub fun σ' nX _=>ah σ' F1 R1 H1 nX rep1 (Same.refl _) aI))
structure yL (K:Fr) (J:It) (F:Hp) (its:List P):Prop where
 go:∀ (i:Nat) d F2 H2,its[i]?=some d→Same F F2→Same F2 H2→J.go i H2∧∀ v H',J.yld i H2 v H'→∃ F',bx F2 H2 F' H'∧Rp K F' v d
 stop:∀ F2 H2,Same F F2→Same F2 H2→J.stop its.length H2
abbrev MI:=av→ag→Rs (List P)
abbrev rI (K:Fr):Hp→List Addr→It→List P→Prop:=fun F' _ J its=>yL K J F' its
def my (C:Kx) (wi:TI) (ms:MI):Prop:=∀ sl S σ F R H,SlR C.K C.px F R σ sl→bQ C.K C.G F R S H→∀ Q:It→Hp→Prop,aK C σ F R (rI C.K) Q (ms sl S)→wi σ H Q
theorem Pa {F:Hp} {a:Addr} {xs:List V} {ds:List P} (h1:F a=some (.lst xs)) (h2:ay K F xs ds):yL K (Itl K.K a) F ds:=by
 refine⟨fun i d F2 H2 e s s2=>?_,fun F2 H2 s s2=>?_⟩
 · obtain⟨v,ev,rv⟩:=h2.get' e
   have q:SqL K.K H2 a xs:=.inl (.inl (s2 _ _ (s _ _ h1)))
   refine⟨⟨xs,v,q,ev⟩,fun x H' y=>?_⟩
   obtain⟨rfl,y⟩:=y
   have e1:=y xs q
   rw[ev] at e1
   cases e1
   exact⟨F2,bx.refl s2,Rp.mono s _ _ rv⟩
 · exact⟨xs, .inl (.inl (s2 _ _ (s _ _ h1))),by rw[h2.length]; exact Nat.le_refl _⟩
theorem Ji {F:Hp} {a:Addr} {xs:List V} {ds:List P} (h1:SqL K.K F a xs) (h2:ay K F xs ds):yL K (Itl K.K a) F ds:=by
 refine⟨fun i d F2 H2 e s s2=>?_,fun F2 H2 s s2=>?_⟩
 · obtain⟨v,ev,rv⟩:=h2.get' e
   have q:SqL K.K H2 a xs:=cF s2 (cF s h1)
   refine⟨⟨xs,v,q,ev⟩,fun x H' y=>?_⟩
   obtain⟨rfl,y⟩:=y
   have e1:=y xs q
   rw[ev] at e1
   cases e1
   exact⟨F2,bx.refl s2,Rp.mono s _ _ rv⟩
 · exact⟨xs,cF s2 (cF s h1),by rw[h2.length]; exact Nat.le_refl _⟩
theorem Kc {F:Hp} {a:Addr} {xs:List V} {ds:List P} (h1:SqT K.K F a xs) (h2:ay K F xs ds):yL K (Itt K.K a) F ds:=by
 refine⟨fun i d F2 H2 e s s2=>?_,fun F2 H2 s s2=>?_⟩
 · obtain⟨v,ev,rv⟩:=h2.get' e
   have q:SqT K.K H2 a xs:=aZ s2 (aZ s h1)
   refine⟨⟨xs,v,q,ev⟩,fun x H' y=>?_⟩
   obtain⟨rfl,y⟩:=y
   have e1:=y xs q
   rw[ev] at e1
   cases e1
   exact⟨F2,bx.refl s2,Rp.mono s _ _ rv⟩
 · exact⟨xs,aZ s2 (aZ s h1),by rw[h2.length]; exact Nat.le_refl _⟩
abbrev Gb (z:Str):List P:=z.cps.toList.map fun c=>.str ⟨#[c]⟩
theorem Rx {F:Hp} {z:Str}:yL K (Its z) F (Gb z):=by
 refine⟨fun i d F2 H2 e s s2=>?_,fun F2 H2 s s2=>?_⟩
 · rw[List.getElem?_map] at e
   cases hc:z.cps.toList[i]? with
   | none=>rw[hc] at e; cases e
   | some c =>
    rw[hc] at e
    cases e
    have kO:=(List.getElem?_eq_some_iff.mp hc).1
    rw[Array.length_toList] at kO
    refine⟨kO,fun x H' y=>?_⟩
    obtain⟨rfl,c',e1,rfl⟩:=y
    rw[← Array.getElem?_toList,hc] at e1
    cases e1
    exact⟨F2,bx.refl s2, .str _⟩
 · show z.cps.size≤_
   rw[List.length_map,Array.length_toList]
   exact Nat.le_refl _
abbrev Ss (lo:Int) (n:Nat):List P:=(List.range n).map fun j:Nat=>.int (lo+(j:Int))
theorem Kd {F:Hp} {lo:Int} {n:Nat}:yL K (Itr lo n) F (Ss lo n):=by
 refine⟨fun i d F2 H2 e s s2=>?_,fun F2 H2 s s2=>?_⟩
 · rw[List.getElem?_map] at e
   by_cases hi:i < n
   · rw[List.getElem?_range hi] at e
     cases e
     refine⟨hi,fun x H' y=>?_⟩
     obtain⟨rfl,rfl⟩:=y
     exact⟨F2,bx.refl s2, .int _⟩
   · rw[List.getElem?_eq_none (by rw[List.length_range]; omega)] at e
     cases e
 · show n≤_
   rw[List.length_map,List.length_range]
   exact Nat.le_refl _
def Ky (K:PySem.W.Frag) (tl:TE):TI:=fun σ H R=>tl σ H fun x H1=>(∃ a,x=.ref a∧(∃ xs,SqL K H1 a xs)∧R (Itl K a) H1)∨(∃ a,x=.ref a∧(∃ xs,SqT K H1 a xs)∧R (Itt K a) H1)∨∃ z,x=.str z∧R (Its z) H1
theorem jO {X:Cx} {l:Expr} {tl:TE} (hl:PE X l tl):PI X tg l (Ky X.K tl):=by
 refine⟨fun pins s σ H R I h=>?_⟩
 refine thn (hl.run pins s σ H _ I h) fun v s1 ⟨x,H1,I1,r1,q1⟩=>?_
 rcases q1 with ⟨a,e,⟨xs,hq⟩,q⟩ | ⟨a,e,⟨xs,hq⟩,q⟩ | ⟨x,ex,q⟩
 · subst e
   cases r1
   obtain⟨its,rv,p,hz⟩:=I1.list hq
   refine wpAny_pyIter_list p.isList ?_
   refine⟨s1.heap.objs.size,[s1.heap.objs.size],_,_,H1,rfl,I1.kept (t':=s1.toks) fun b o e=>Heap.get?_push_of_some _ e,turn_list a _,⟨_,Heap.get?_push_size _ rfl,rfl,rfl⟩,fun b hb=>?_,q⟩
   have e:b=s1.heap.objs.size:=by simpa using hb
   subst e
   exact I1.fpOk (Nat.le_refl _) (I1.hok.fresh (Nat.le_refl _))
 · subst e
   cases r1
   obtain⟨its,rv,p,hz⟩:=I1.tuple hq
   refine wpAny_pyIter_tuple (show s1.heap.IsTuple a its.toArray from p) ?_
   refine⟨s1.heap.objs.size,[s1.heap.objs.size],_,_,H1,rfl,I1.kept (t':=s1.toks) fun b o e=>Heap.get?_push_of_some _ e,turn_tuple a _,⟨_,Heap.get?_push_size _ rfl,rfl,rfl⟩,fun b hb=>?_,q⟩
   have e:b=s1.heap.objs.size:=by simpa using hb
   subst e
   exact I1.fpOk (Nat.le_refl _) (I1.hok.fresh (Nat.le_refl _))
 · subst ex
   obtain⟨t,rfl⟩:=r1
   cases ha:x.cps.all (· < 128)
   · exact wpAny_pyIter_wide ha (pi_one (tk:=s1.toks) I1 _ (turn_str _ x t "str_iterator" (.inr rfl)) ⟨_,Heap.get?_push_size _ rfl,rfl,rfl⟩ q)
   · exact wpAny_pyIter_ascii ha (pi_one (tk:=s1.toks) I1 _ (turn_str _ x t "str_ascii_iterator" (.inl rfl)) ⟨_,Heap.get?_push_size _ rfl,rfl,rfl⟩ q)
def oC:P→Option (List P)
 | .lst ps=>some ps
 | .tup ps=>some ps
 | .str z=>some (Gb z)
 | .scr ns=>some (ns.map .int)
 | _=>none
def mE (m:M):MI:=fun sl S=>(m sl S).bind fun d S1=>match d with
 | .p q=>match oC q with
  | some its=>.ok its S1
  | none=>.no
 | .ref _=>.no
theorem ey (h:Ej C m a):my C (Ky C.X.K (ED C.X a)) (mE m):=fun sl S σ F R H hs hr Q post =>
 h sl S σ F R H hs hr _ (aK.bind post fun d S1 v F1 R1 H1 _ rv rep1 s1 r1 ah=>by
  cases d with
  | ref n=>exact ah.elim
  | p q =>
   cases hv:rv with
   | lst h1 h2=>exact .inl ⟨_,rfl,⟨_, .inl (.inl (rep1.sub _ _ h1))⟩,ah.okv (Pa h1 h2) rep1⟩
   | tup h1 h2=>exact .inr (.inl ⟨_,rfl,⟨_,aZ (K:=C.K) rep1.sub h1.sq⟩,ah.okv (Kc (K:=C.K) h1.sq h2) rep1⟩)
   | tupW h1 h2 _=>exact .inr (.inl ⟨_,rfl,⟨_,aZ (K:=C.K) rep1.sub h1.sq⟩,ah.okv (Kc (K:=C.K) h1.sq h2) rep1⟩)
   | str z=>exact .inr (.inr ⟨z,rfl,ah.okv Rx rep1⟩)
   | scr h1=>exact .inl ⟨_,rfl,⟨_,cF rep1.sub h1⟩,ah.okv (Ji h1 (vR _)) rep1⟩
   | _=>exact ah.elim)
def PM (m:M):MI:=fun sl S=>(m sl S).bind fun d S1=>(zu S1 d).bind fun n S1=>if -(2 ^ 62)≤n∧n < 2 ^ 62 then .ok (Ss 0 n.toNat) S1 else .no
theorem Ic {α β:Type} {σ:L2.St} {F H:Hp} {R:List Addr} {S:ag} {d:D} {v:V} {rel:Hp→List Addr→β→α→Prop} {Q:β→Hp→Prop} {f:Int→ag→Rs α} (rv:aP C.K F R v d) (rep:bQ C.K C.G F R S H) (post:aK C σ F R rel Q ((zu S d).bind f)):∃ i,v=.int i∧aK C σ F R rel Q (f i S):=by
 unfold zu at post
 cases hv:view S d with
 | none=>rw[hv] at post; exact post.elim
 | some q =>
  rw[hv] at post
  cases q with
  | int n=>exact⟨n,(ec rv rep hv).int,post⟩
  | _=>exact post.elim
theorem xG (h:Ej C m a) (he:starEach [a] C.X.env=(false,eval a C.X.env)::starEach [] C.X.env:=by exact bO rfl):my C (iRng1 (AD C.X [a])) (PM m):=fun sl S σ F R H hs hr Q post =>
 AD.of (pa_cons bu pa_nil he) (h sl S σ F R H hs hr _ (aK.bind post fun d S1 v F1 R1 H1 _ rv rep1 s1 r1 ah=>by
  obtain⟨n,rfl,ah⟩:=Ic rv rep1 ah
  by_cases hn:-(2 ^ 62)≤n∧n < 2 ^ 62
  · rw[if_pos hn] at ah
    exact⟨n,rfl,hn.1,hn.2,ah.okv Kd rep1⟩
  · rw[if_neg hn] at ah; exact ah.elim))
def lr (eff:oF) (mb:MS):List P→MS
 | [],sl,S=>.nx sl S
 | q::qs,sl,S=>match eff q sl with
  | none=>.no
  | some sl1=>match mb sl1 S with
   | .nx sl2 S2=>lr eff mb qs sl2 S2
   | .ct sl2 S2=>lr eff mb qs sl2 S2
   | .bk sl2 S2=>.nx sl2 S2
   | .rt d S2=>.rt d S2
   | .exc x sl2 S2=>.exc x sl2 S2
   | .no=>.no
def lZ (ms:MI) (eff:oF) (mb:MS):MS:=fun sl S=>(ms sl S).st sl fun its S1=>lr eff mb its sl S1
theorem kJ {body:List Stmt} {wi:TI} {ms:MI} {g:TG} {eff:oF} {js:List Nat} {mb:MS} (hp:PassesOwn (model C.X.prog C.X.w) C.X.A C.X.env C.X.xe) (hc:C.X.calm=true) (hi:PI C.X tg iter wi) (oU:my C wi ms) (hg:PG C.X tg g) (ho:Il C.K g eff js) (hb:Sj C mb body)
  (hf:∀ x,foldedSetIterable iter C.X.env x=pure x:=by intro _; rfl):zl C (lZ ms eff mb) (.For tg iter body [] pos):=.mk fun sl S σ F R H hs hr D post=>by
 refine yC.of (ps_for hp hc hi hg rX hf) (oU sl S σ F R H hs hr _ (bM.bind post hs fun its S1 J F1 R1 H1 _ ok rep1 s1 r1 mx ah=>?_))
 refine⟨fun i k σ H=>k=its.length - i∧i≤its.length∧∃ F2 R2 sl2 S2,Same F1 F2∧R1 <+: R2∧SlR C.K C.px F2 R2 σ sl2∧bQ C.K C.G F2 R2 S2 H∧bM C F2 R2 D (lr eff mb (its.drop i) sl2 S2),⟨its.length,rfl,Nat.zero_le _,F1,R1,sl,S1,Same.refl _,aI,mx,rep1,ah⟩,?_⟩
 rintro i k σ2 H2 ⟨rfl,hle,F2,R2,sl2,S2,s2,r2,hs2,rep2,post2⟩
 by_cases kO:i < its.length
 · have hit:its[i]?=some its[i]:=List.getElem?_eq_getElem kO
   have hd:its.drop i=its[i]::its.drop (i+1):=List.drop_eq_getElem_cons kO
   rw[hd] at post2
   obtain⟨g1,g2⟩:=ok.go i _ F2 H2 hit s2 rep2.sub
   refine .inr ⟨g1,fun σ' H'=>∃ F3 R3 sl3 S3,Same F1 F3∧R1 <+: R3∧SlR C.K C.px F3 R3 σ' sl3∧bQ C.K C.G F3 R3 S3 H'∧bM C F3 R3 D (lr eff mb (its.drop (i+1)) sl3 S3),fun σ' H' ⟨F3,R3,sl3,S3,s3,r3,Fq,rep3,post3⟩=>⟨its.length - (i+1),by omega,rfl,kO,F3,R3,sl3,S3,s3,r3,Fq,rep3,post3⟩,fun v H' hy=>?_⟩
   obtain⟨F3,pq,rv⟩:=g2 v H' hy
   simp only[lr] at post2
   cases he:eff its[i] sl2 with
   | none=>simp only[he] at post2; exact post2.elim
   | some sl3 =>
    simp only[he] at post2
    refine ho _ sl2 sl3 σ2 F3 R2 H' v _ he rv (hs2.mono pq.sF aI) pq.sub fun σ3 Fq _=>?_
    refine hb sl3 S2 σ3 F3 R2 H' Fq (rep2.grow pq) _ ?_
    have e1:Same F1 F3:=s2.trans pq.sF
    cases hm:mb sl3 S2 with
    | nx sl4 S4 =>
     simp only[hm] at post2
     exact fun σ' F' R' H'' h1 h2 h3 h4=>⟨F',R',sl4,S4,e1.trans h3,bf r2 h4,h1,h2,bM.mono post2 (pq.sF.trans h3) h4⟩
    | ct sl4 S4 =>
     simp only[hm] at post2
     exact fun σ' F' R' H'' h1 h2 h3 h4=>⟨F',R',sl4,S4,e1.trans h3,bf r2 h4,h1,h2,bM.mono post2 (pq.sF.trans h3) h4⟩
    | bk sl4 S4 =>
     simp only[hm] at post2
     exact bM.mono post2 pq.sF aI
    | rt d S4=>simp only[hm] at post2; exact bM.mono post2 pq.sF aI
    | exc x sl4 S4=>simp only[hm] at post2; exact bM.mono post2 pq.sF aI
    | no=>simp only[hm] at post2; exact post2.elim
 · have e:i=its.length:=by omega
   subst e
   rw[List.drop_length] at post2
   exact .inl ⟨ok.stop F2 H2 s2 rep2.sub,post2 σ2 F2 R2 H2 hs2 rep2 (Same.refl _) aI⟩
end
theorem mX {σ:L2.St} {i:Nat}:∀ {vs:List Nat},(wipe σ vs)[i]?=if i∈vs then σ[i]?.map fun _=>none else σ[i]?
 | []=>by simp[wipe]
 | v::vs=>by
  have ih:=mX (σ:=σ) (i:=i) (vs:=vs)
  show ((wipe σ vs).set v none)[i]?=_
  by_cases h:i=v
  · subst h
    rw[if_pos (by simp)]
    by_cases hl:i < σ.length
    · rw[List.getElem?_set_self (by rw[wipe_length]; exact hl),List.getElem?_eq_getElem hl]; rfl
    · rw[List.getElem?_eq_none (by rw[List.length_set,wipe_length]; omega),List.getElem?_eq_none (by omega)]; rfl
  · rw[List.getElem?_set_ne (Ne.symm h),ih]
    simp[h]
theorem CC {α β:Type} {l l':List α} (h:l'.length=l.length) (i:Nat):(l'[i]?.map fun _=>(none:Option β))=l[i]?.map fun _=>none:=by
 by_cases hl:i < l.length
 · rw[List.getElem?_eq_getElem hl,List.getElem?_eq_getElem (show i < l'.length by omega)]; rfl
 · rw[List.getElem?_eq_none (show l.length≤i by omega),List.getElem?_eq_none (show l'.length≤i by omega)]
theorem gn.wipe {js vs:List Nat} {σ σ':L2.St} (h:gn js σ σ') (hj:∀ j∈js,j∈vs):L2.wipe σ' vs=L2.wipe σ vs:=by
 refine List.ext_getElem? fun i=>?_
 rw[mX,mX]
 by_cases hi:i∈vs
 · rw[if_pos hi,if_pos hi]
   exact CC h.1 i
 · rw[if_neg hi,if_neg hi,h.2 i fun z=>hi (hj i z)]
theorem Ad {vs:List Nat} {σ:L2.St}:L2.wipe (L2.wipe σ vs) vs=L2.wipe σ vs:=by
 refine List.ext_getElem? fun i=>?_
 rw[mX]
 by_cases hi:i∈vs
 · rw[if_pos hi,mX,if_pos hi]
   cases σ[i]? <;> rfl
 · rw[if_neg hi,mX,if_neg hi]
def dz (sl:av):List Nat→av
 | []=>sl
 | v::vs=>(dz sl vs).set v none
theorem SlR.wipe {K:Fr} {px:A3} {F:Hp} {R:List Addr} {σ:L2.St} {sl:av} (h:SlR K px F R σ sl):∀ vs:List Nat,SlR K px F R (L2.wipe σ vs) (dz sl vs)
 | []=>h
 | v::vs=>(h.wipe vs).setN
abbrev Ik (X:Cx) (scope:Scope):Cx→Prop:=fun B=>∃ (s:Shared) (H:Hp) (Cc:Addr) (cl:List (Str×Addr)) (fp:List Addr),B=X.blk s H scope (compEnvC scope cl Cc X.env) fp
def EB (X:Cx) (scope:Scope) (e:Expr):TE:=fun σ H Q=>∀ B,Ik X scope B→ED B e σ H Q
def TB (X:Cx) (scope:Scope) (e:Expr):TT:=fun σ H Q=>∀ B,Ik X scope B→TD B e σ H Q
theorem Gh {X:Cx} {scope:Scope} (s:Shared) (H:Hp) (Cc:Addr) (cl:List (Str×Addr)) (fp:List Addr):Ik X scope (X.blk s H scope (compEnvC scope cl Cc X.env) fp):=⟨s,H,Cc,cl,fp,rfl⟩
theorem TQ {X:Cx} {scope:Scope} {e:Expr} (s:Shared) (H:Hp) (Cc:Addr) (cl:List (Str×Addr)) (fp:List Addr):PE (X.blk s H scope (compEnvC scope cl Cc X.env) fp) e (EB X scope e):=⟨fun pins s' σ H' Q I h=>h _ (Gh s H Cc cl fp) pins s' I⟩
theorem X8 {X:Cx} {scope:Scope} {e:Expr} (s:Shared) (H:Hp) (Cc:Addr) (cl:List (Str×Addr)) (fp:List Addr):PT (X.blk s H scope (compEnvC scope cl Cc X.env) fp) e (TB X scope e):=⟨fun pins s' σ H' Q I h=>h _ (Gh s H Cc cl fp) pins s' I⟩
abbrev qd (X:Cx):Fr:=⟨X.K,X.prog,X.w⟩
theorem QL {X B:Cx} {scope:Scope} (h:Ik X scope B):qd B=qd X:=by obtain⟨_,_,_,_,_,rfl⟩:=h; rfl
def ua (eff:oF) (t:MT) (elt:M) (own:List Nat) (sl:av):List P→List P→ag→Rs (List P)
 | [],acc,S=>.ok acc S
 | q::qs,acc,S=>match eff q (dz sl own) with
  | none=>.no
  | some sl1=>match t sl1 S with
   | .ok true S1=>match elt sl1 S1 with
    | .ok (.p z) S2=>if acc.length < sizeLine then ua eff t elt own sl qs (acc++[z]) S2 else .no
    | _=>.no
   | .ok false S1=>ua eff t elt own sl qs acc S1
   | _=>.no
def iY:MT:=fun _ S=>.ok true S
section
variable {C:Kx} {a b c e tg iter elt:Expr} {es rest:List Expr} {pos pos' p:Pos} {x:Str} {m me:M} {t:MT} {ms:MI} {K:Fr} {g:TG} {eff:oF} {js vs:List Nat} {wi:TI} {scope:Scope} {own:List (Str×Nat)}
theorem bQ.guard {G F H:Hp} {R:List Addr} {S:ag} {l:Addr} {o:HO} (h:bQ K G F R S H) (n:H l=none):bQ K (upd G l o) F R S (upd H l o):=by
 have g:=h.grow (bx.own (o:=o) h.sub n)
 obtain⟨pc0,h0⟩:=h
 obtain⟨pc,h⟩:=g
 have hp:∀ m,pc0 m l=none:=fun m=>h0.free n m
 have h1:=(bx.own (o:=o) h0.sub n)
 refine⟨pc0,h1.sub,h0.len,h0.ok,fun m a u e=>?_,h0.sep,h0.emp,fun a u e=>?_⟩
 · obtain⟨q1,q2⟩:=h0.out m a u e
   exact⟨q1,h1.sH _ _ q2⟩
 · by_cases ha:a=l
   · subst ha
     rw[upd_same] at e
     exact⟨by rw[upd_same]; exact e,h0.sub.free n,hp⟩
   · rw[upd_ne ha] at e
     obtain⟨q1,q2,q3⟩:=h0.grd a u e
     exact⟨h1.sH _ _ q1,q2,q3⟩
theorem bQ.regrow {G F H:Hp} {R:List Addr} {S:ag} {l:Addr} {o o':HO} (h:bQ K (upd G l o) F R S H):bQ K (upd G l o') F R S (upd H l o'):=by
 obtain⟨pc,h⟩:=h
 obtain⟨q1,q2,q3⟩:=h.grd l o upd_same
 refine⟨pc,fun a u e=>?_,h.len,h.ok,fun m a u e=>?_,h.sep,h.emp,fun a u e=>?_⟩
 · rw[upd_ne (ne_of_none e q2)]; exact h.sub _ _ e
 · obtain⟨z1,z2⟩:=h.out m a u e
   have ha:a≠l:=fun z=>by subst z; rw[q3 m] at e; cases e
   exact⟨z1,by rw[upd_ne ha]; exact z2⟩
 · by_cases ha:a=l
   · subst ha
     rw[upd_same] at e
     exact⟨by rw[upd_same]; exact e,q2,q3⟩
   · rw[upd_ne ha] at e
     obtain⟨z1,z2,z3⟩:=h.grd a u (by rw[upd_ne ha]; exact e)
     exact⟨by rw[upd_ne ha]; exact z1,z2,z3⟩
theorem bQ.known {G F H:Hp} {R:List Addr} {S:ag} {l:Addr} {o:HO} (h:bQ K (upd G l o) F R S H) (n:G l=none):Same F (upd F l o)∧bQ K G (upd F l o) R S H:=by
 obtain⟨pc,h⟩:=h
 obtain⟨q1,q2,q3⟩:=h.grd l o upd_same
 have s:Same F (upd F l o):=Same.upd_new q2
 refine⟨s,pc,fun a u e=>?_,h.len,fun m c e=>?_,fun m a u e=>?_,h.sep,h.emp,fun a u e=>?_⟩
 · by_cases ha:a=l
   · subst ha; rw[upd_same] at e; cases e; exact q1
   · rw[upd_ne ha] at e; exact h.sub _ _ e
 · obtain⟨a,z1,z2⟩:=h.ok m c e
   exact⟨a,z1,z2.mono s aI⟩
 · obtain⟨z1,z2⟩:=h.out m a u e
   have ha:a≠l:=fun z=>by subst z; rw[q3 m] at e; cases e
   exact⟨by rw[upd_ne ha]; exact z1,z2⟩
 · have ha:a≠l:=fun z=>by subst z; rw[n] at e; cases e
   obtain⟨z1,z2,z3⟩:=h.grd a u (by rw[upd_ne ha]; exact e)
   exact⟨z1,by rw[upd_ne ha]; exact z2,z3⟩
theorem bQ.gnone {G F H:Hp} {R:List Addr} {S:ag} {l:Addr} (h:bQ K G F R S H) (n:H l=none):G l=none:=by
 obtain⟨pc,h⟩:=h
 cases q:G l with
 | none=>rfl
 | some o=>rw[(h.grd l o q).1] at n; cases n
def XC (C:Kx) (scope:Scope) (m:M) (e:Expr):Prop:=∀ B:Kx,Ik C.X scope B.X→Ej B m e
def TjB (C:Kx) (scope:Scope) (t:MT) (e:Expr):Prop:=∀ B:Kx,Ik C.X scope B.X→Tj B t e
structure JI (C:Kx) (tt:TT) (te:TE) (t:MT) (me:M):Prop where
 t:∀ (G:Hp) sl S σ F R H,SlR C.K C.px F R σ sl→bQ C.K G F R S H→∀ (b:Bool) S1,t sl S=.ok b S1→∀ Q:Bool→Hp→Prop,(∀ F' R' H',bQ C.K G F' R' S1 H'→Same F F'→R <+: R'→Q b H')→tt σ H Q
 e:∀ (G:Hp) sl S σ F R H,SlR C.K C.px F R σ sl→bQ C.K G F R S H→∀ d S1,me sl S=.ok d S1→∀ Q:VK,(∀ v F' R' H',aP C.K F' R' v d→bQ C.K G F' R' S1 H'→Same F F'→R <+: R'→Q v H')→te σ H Q
theorem EM {m:M} (h:XC C scope m elt):∀ (G:Hp) sl S σ F R H,SlR C.K C.px F R σ sl→bQ C.K G F R S H→∀ d S1,m sl S=.ok d S1→∀ Q:VK,(∀ v F' R' H',aP C.K F' R' v d→bQ C.K G F' R' S1 H'→Same F F'→R <+: R'→Q v H')→EB C.X scope elt σ H Q:=by
 intro G sl S σ F R H hs hr d S1 em Q k BX hB
 have hK:=QL hB
 refine h ⟨BX,fun _ _ _ _=>False,ny,G,C.px⟩ hB sl S σ F R H (by show SlR (qd BX) C.px F R σ sl; rw[hK]; exact hs) (by show bQ (qd BX) G F R S H; rw[hK]; exact hr) Q ?_
 rw[em]
 intro v F' R' H' h1 h2 h3 h4
 exact k v F' R' H' (by have z:aP (qd BX) F' R' v d:=h1; rw[hK] at z; exact z) (by have z:bQ (qd BX) G F' R' S1 H':=h2; rw[hK] at z; exact z) h3 h4
theorem RS {t:MT} (h:TjB C scope t c):∀ (G:Hp) sl S σ F R H,SlR C.K C.px F R σ sl→bQ C.K G F R S H→∀ (b:Bool) S1,t sl S=.ok b S1→∀ Q:Bool→Hp→Prop,(∀ F' R' H',bQ C.K G F' R' S1 H'→Same F F'→R <+: R'→Q b H')→TB C.X scope c σ H Q:=by
 intro G sl S σ F R H hs hr b S1 em Q k BX hB
 have hK:=QL hB
 refine h ⟨BX,fun _ _ _ _=>False,ny,G,C.px⟩ hB sl S σ F R H (by show SlR (qd BX) C.px F R σ sl; rw[hK]; exact hs) (by show bQ (qd BX) G F R S H; rw[hK]; exact hr) Q ?_
 rw[em]
 intro b' F' R' H' h1 h2 h3 h4
 cases (show b'=b from h1)
 exact k F' R' H' (by have z:bQ (qd BX) G F' R' S1 H':=h2; rw[hK] at z; exact z) h3 h4
def wH (ms:MI) (eff:oF) (t:MT) (me:M) (own:List Nat):M:=fun sl S=>(ms sl S).bind fun its S1=>(ua eff t me own sl its [] S1).bind fun ps S2=>.ok (.p (.lst ps)) S2
theorem vZ {tt:TT} {te:TE} {σ:L2.St} {F H:Hp} {R:List Addr} {sl:av} {S:ag} {Q:VK} (hs:SlR C.K C.px F R σ sl) (hr:bQ C.K C.G F R S H) (oU:my C wi ms) (ho:Il C.K g eff js) (hj:∀ j∈js,j∈vs) (ht:JI C tt te t me)
  (post:aK C σ F R (aP C.K) Q (wH ms eff t me vs sl S)):tLc wi g tt te vs σ H Q:=by
 refine oU sl S σ F R H hs hr _ (aK.bind post fun its S1 J F1 R1 H1 _ ok rep1 s1 r1 ah=>?_)
 intro D hD
 have mx:=hs.mono s1 r1
 have nG:=rep1.gnone hD
 let Pv:Nat→Hp→Prop:=fun i H=>∃ (F2:Hp) (R2:List Addr) (S2:ag) (acc:List P) (ws:List V),Same F1 F2∧R1 <+: R2∧bQ C.K (upd C.G D (.lst ws)) F2 R2 S2 H∧ay C.K F2 ws acc∧aK C σ F2 R2 (aP C.K) Q ((ua eff t me vs sl (its.drop i) acc S2).bind fun ps S2=>.ok (.p (.lst ps)) S2)
 have start:Pv 0 (upd H1 D (.lst [])):=⟨F1,R1,S1,[],[],Same.refl _,aI,rep1.guard hD, .nil,ah⟩
 refine⟨fun i m H=>m=its.length - i∧i≤its.length∧Pv i H,⟨its.length,rfl,Nat.zero_le _,start⟩,?_⟩
 rintro i m H ⟨rfl,hi,F2,R2,S2,acc,ws,s2,r2,rep2,hr2,post2⟩
 by_cases kO:i < its.length
 · have hit:its[i]?=some its[i]:=List.getElem?_eq_getElem kO
   have hd:its.drop i=its[i]::its.drop (i+1):=List.drop_eq_getElem_cons kO
   rw[hd] at post2
   obtain⟨g1,g2⟩:=ok.go i _ F2 H hit s2 rep2.sub
   refine .inr ⟨g1,Pv (i+1),fun H' p'=>⟨its.length - (i+1),by omega,rfl,kO,p'⟩,fun v H' hy=>?_⟩
   obtain⟨F3,pq,rv⟩:=g2 v H' hy
   have rep3:=rep2.grow pq
   simp only[ua] at post2
   cases he:eff its[i] (dz sl vs) with
   | none=>simp only[he] at post2; exact post2.elim
   | some sl3 =>
    simp only[he] at post2
    refine ho _ _ sl3 _ F3 R2 H' v _ he rv ((mx.mono (s2.trans pq.sF) r2).wipe vs) pq.sub fun σ3 Fq off=>?_
    refine⟨by rw[off.wipe hj,Ad],?_⟩
    have e1:Same F1 F3:=s2.trans pq.sF
    cases FG:t sl3 S2 with
    | exc x S4=>simp only[FG] at post2; exact post2.elim
    | no=>simp only[FG] at post2; exact post2.elim
    | ok b S4 =>
     refine ht.t _ sl3 S2 σ3 F3 R2 H' Fq rep3 b S4 FG _ fun F4 R4 H4 Fz s4 r4=>?_
     have post2:=aK.mono post2 (pq.sF.trans s4) r4
     cases b with
     | false =>
      simp only[FG] at post2
      show Pv (i+1) H4
      exact⟨F4,R4,S4,acc,ws,e1.trans s4,bf r2 r4,Fz,ay.mono (pq.sF.trans s4) _ _ hr2,post2⟩
     | true =>
      simp only[FG] at post2
      show te σ3 H4 _
      cases KW:me sl3 S4 with
      | exc x S5=>simp only[KW] at post2; exact post2.elim
      | no=>simp only[KW] at post2; exact post2.elim
      | ok d S5 =>
       cases d with
       | ref n=>simp only[KW] at post2; exact post2.elim
       | p z =>
        simp only[KW] at post2
        refine ht.e _ sl3 S4 σ3 F4 R4 H4 (Fq.mono s4 r4) Fz _ S5 KW _ fun y F5 R5 H5 ry Ma s5 r5=>?_
        have post2:=aK.mono post2 s5 r5
        have Vv:=ay.mono ((pq.sF.trans s4).trans s5) _ _ hr2
        by_cases hl:acc.length < sizeLine
        · simp only[if_pos hl] at post2
          have XY:H5 D=some (.lst ws):=by
           obtain⟨pc,q⟩:=Ma
           exact (q.grd D _ upd_same).1
          refine⟨ws,XY,by rw[Vv.length]; exact hl,F5,R5,S5,acc++[z],ws++[y],(e1.trans s4).trans s5,bf (bf r2 r4) r5,Ma.regrow,Vv.append (.cons ry .nil),post2⟩
        · simp only[if_neg hl] at post2; exact post2.elim
 · have e:i=its.length:=by omega
   subst e
   rw[List.drop_length] at post2
   refine .inl ⟨ok.stop F2 H s2 rep2.sub,?_⟩
   obtain⟨sK,YU⟩:=rep2.known nG
   exact post2 (.ref D) _ R2 H (show aP C.K _ R2 (.ref D) (.p (.lst acc)) from .lst upd_same (ay.mono sK _ _ hr2)) YU sK aI
def Zk (C:Kx) (scope:Scope) (tg:Expr) (g:TG):Prop:=∀ (s:Shared) (H:Hp) (Cc:Addr) (cl:List (Str×Addr)) (fp:List Addr),PG (C.X.blk s H scope (compEnvC scope cl Cc C.X.env) fp) tg g
theorem lW (hc:C.X.calm=true) (hN:C.X.N.Nodup) (hi:PI C.X tg iter wi) (oU:my C wi ms) (ok:BlkOk C.X.N C.X.env.scope scope own) (hg:Zk C scope tg g) (ho:Il C.K g eff js) (hj:∀ j∈js,j∈own.map (·.2)) (he:XC C scope me elt)
  (hf:∀ x,foldedSetIterable iter C.X.env x=pure x:=by intro _; rfl):Ej C (wH ms eff iY me (own.map (·.2))) (.ListComp elt [⟨tg,iter,[],0⟩] scope pos):=.mk fun sl S σ F R H hs hr Q post =>
 ED.of (pe_lc hc hN hi ok hg (fun _ _ _ _ _=>pts_nil) (fun s H Cc cl fp=>TQ s H Cc cl fp) hf) (vZ hs hr oU ho hj ⟨fun G sl S σ F R H hs hr b S1 e Q k=>by cases e; exact k F R H hr (Same.refl _) aI,EM he⟩ post)
theorem K0 (hc:C.X.calm=true) (hN:C.X.N.Nodup) (hi:PI C.X tg iter wi) (oU:my C wi ms) (ok:BlkOk C.X.N C.X.env.scope scope own) (hg:Zk C scope tg g) (ho:Il C.K g eff js) (hj:∀ j∈js,j∈own.map (·.2)) (FG:TjB C scope t c) (he:XC C scope me elt)
  (hf:∀ x,foldedSetIterable iter C.X.env x=pure x:=by intro _; rfl):Ej C (wH ms eff t me (own.map (·.2))) (.ListComp elt [⟨tg,iter,[c],0⟩] scope pos):=.mk fun sl S σ F R H hs hr Q post =>
 ED.of (pe_lc hc hN hi ok hg (fun s H Cc cl fp=>pts_one (X8 s H Cc cl fp)) (fun s H Cc cl fp=>TQ s H Cc cl fp) hf) (vZ hs hr oU ho hj ⟨RS FG,EM he⟩ post)
end
abbrev Fn:=List D→ag→Rs D
def mC (K:Fr) (G F:Hp) (R:List Addr) (Q:VK) (E:XK):Rs D→Prop
 | .ok d S'=>∀ v F' R' H',aP K F' R' v d→bQ K G F' R' S' H'→Same F F'→R <+: R'→Q v H'
 | .exc x S'=>∀ cls d F' R' H',FH K F' cls d x→bQ K G F' R' S' H'→Same F F'→R <+: R'→E cls d H'
 | .no=>False
def FA (K:Fr) (n:Nat) (f:Fn):Sp:=fun vs H Q E=>vs.length=n∧∃ G F R S ds,bQ K G F R S H∧aF K F R vs ds∧mC K G F R Q E (f ds S)
def bX (K:PySem.W.Frag) (mg:Str→Option Value) (x:Str) (st:Stmt):Prop:=(∃ fd,FunD K x x (defArgs st) (defBody st) (defScope st) [] [] (He.ga K x) fd)∧mg x=some (.ref (He.ga K x))
abbrev aQ (x:Str) (ps:List Str) (st:Stmt):Prop:=∀ (kV doc pm:Value) (an:Option Addr) (cdv ct:Value) (us:List Value),us.length=ps.length→bindArgs (PySem.W.fnOf x x (defArgs st) (defBody st) (defScope st) .none kV doc pm an cdv ct) ⟨us,[]⟩=pure (ps.zip us)
def jo (P:Program) (w:World) (K:PySem.W.Frag) (mg:Str→Option Value) (base:Heap) (k:Nat) (x:Str) (ps:List Str) (f:Fn):Prop :=
 ∃ fd,FnOk P w K mg base (L2N.CX P w) k (He.ga K x) fd ps (FA ⟨K,P,w⟩ ps.length f)∧Binds K fd ps []∧PySem.W.keepIn K (.ref (He.ga K x))=true∧mg x=some (.ref (He.ga K x))∧∃ oc od osl,K.lookup (He.ga K x)=some ⟨oc,od, .func fd,osl⟩
def yV (n:Nat) (ds:List D):av:=ds.map some++List.replicate (n - ds.length) none
def runB (n:Nat) (b:MS):Fn:=fun ds S=>match b (yV n ds) S with
 | .nx _ S'=>.ok (.p .non) S'
 | .rt d S'=>.ok d S'
 | .exc x _ S'=>.exc x S'
 | _=>.no
abbrev cxZ (P:Program) (w:World) (K:PySem.W.Frag) (mg:Str→Option Value) (base:Heap) (N:List Str) (qual:Str) (sc:Scope) (f:Addr) (cdv:Value) (A:Around) (outer:List Env) (s:Shared) (H:Hp) (E:XK) (G:Hp):Kx :=
 ⟨cxOf (L2N.CX P w) P w K mg base N qual sc f cdv A outer s H E,fun cls d _ H=>E cls d H,L2N.takes_of rfl rfl rfl rfl,G,A3.nil⟩
section
variable {P:Program} {w:World} {K:PySem.W.Frag} {mg:Str→Option Value} {base:Heap} {k:Nat} {x:Str} {N ps:List Str} {st:Stmt} {f:Fn} {b:MS}
theorem wn {K:Fr} {F:Hp} {R:List Addr} {vs:List V} {ds:List D} (h:aF K F R vs ds):SlR K A3.nil F R (start N vs) (yV N.length ds):=by
 have hl:=h.length
 refine⟨?_,fun i d e=>?_,trivial⟩
 · unfold L2.start yV
   rw[List.length_append,List.length_append,List.length_map,List.length_map,List.length_replicate,List.length_replicate,hl]
 · unfold yV at e
   by_cases hi:i < ds.length
   · rw[List.getElem?_append_left (by rw[List.length_map]; exact hi),List.getElem?_map] at e
     cases hT:ds[i]? with
     | none=>rw[hT] at e; cases e
     | some T =>
      rw[hT] at e
      cases e
      obtain⟨v,e1,e2⟩:=aF.get' h hT
      refine⟨v,?_,e2⟩
      unfold L2.start
      rw[List.getElem?_append_left (by rw[List.length_map,hl]; exact hi),List.getElem?_map,e1]
      rfl
   · rw[List.getElem?_append_right (by rw[List.length_map]; omega),List.getElem?_replicate] at e
     split at e <;> cases e
theorem cD (D:bX K mg x st) (S:FnScope N ps (defScope st)) (hb:aQ x ps st)
  (body:∀ (cdv:Value) (A:Around) (outer:List Env) (s:Shared) (H:Hp) (E:XK) (G:Hp),Room k (A.deeper (envOfC x (defScope st) s.heap.objs.size (He.ga K x) cdv))→Sj (cxZ P w K mg base N x (defScope st) (He.ga K x) cdv A outer s H E G) b (defBody st)):jo P w K mg base (k+1) x ps (runB N.length b):=by
 obtain⟨⟨fd,Fu⟩,hm⟩:=D
 refine⟨fd,Fu.ok S (fun vs H Q E h=>h.1) (fun cdv A outer s H vs Q E hr h=>?_),Fu.bindsN hb,Fu.kp,hm,let ⟨oc,od,_,_,_,_,_,_,_,osl,_,lk,_⟩:=Fu.ex; ⟨oc,od,osl,lk⟩⟩
 obtain⟨hl,G,F,R,S0,ds,rep,rx,post⟩:=h
 refine⟨_,rX,body cdv A outer s H E G hr _ S0 _ F R H (wn rx) rep _ ?_⟩
 unfold runB at post
 cases tZ:b (yV N.length ds) S0 with
 | nx sl S' =>
  rw[tZ] at post
  exact fun σ' F' R' H' _ h2 h3 h4=>post .non F' R' H' (show aP ⟨K,P,w⟩ F' R' .non (.p .non) from .non) h2 h3 h4
 | rt d S'=>rw[tZ] at post; exact post
 | exc x sl S' =>
  rw[tZ] at post
  exact fun cls d σ' F' R' H' h0 _ h2 h3 h4=>post cls d F' R' H' h0 h2 h3 h4
 | bk sl S'=>rw[tZ] at post; exact post.elim
 | ct sl S'=>rw[tZ] at post; exact post.elim
 | no=>rw[tZ] at post; exact post.elim
theorem jo.mono {j:Nat} (h:jo P w K mg base k x ps f) (hj:k≤j):jo P w K mg base j x ps f:=by
 obtain⟨fd,h1,h2⟩:=h
 exact⟨fd,h1.mono hj,h2⟩
theorem jo.imp {f':Fn} (h:jo P w K mg base k x ps f) (hf:∀ G F R S ds H (Q:VK) (E:XK),bQ ⟨K,P,w⟩ G F R S H→mC ⟨K,P,w⟩ G F R Q E (f' ds S)→mC ⟨K,P,w⟩ G F R Q E (f ds S)):jo P w K mg base k x ps f':=by
 obtain⟨fd,h1,h2⟩:=h
 exact⟨fd,h1.imp fun vs H Q E ⟨hl,G,F,R,S,ds,rep,rx,post⟩=>⟨hl,G,F,R,S,ds,rep,rx,hf G F R S ds H Q E rep post⟩,h2⟩
end
section
variable {C:Kx} {a b c e:Expr} {es rest:List Expr} {pos p:Pos} {x:Str} {ma:MA} {f:Fn} {k:Nat} {ps:List Str}
def aw (n:Nat) (f:Fn) (ma:MA):M:=fun sl S=>(ma sl S).bind fun ds S1=>if ds.length=n then f ds S1 else .no
abbrev Kx.ok (C:Kx) (k:Nat) (x:Str) (ps:List Str) (f:Fn):Prop:=jo C.X.prog C.X.w C.X.K C.X.mg C.X.base k x ps f
theorem lC {σ:L2.St} {F:Hp} {R:List Addr} {Q:VK} {r:Rs D} (h:aK C σ F R (aP C.K) Q r):mC C.K C.G F R Q (WE C.W σ) r:=by
 cases r with
 | ok d S=>exact h
 | exc x S=>exact h
 | no=>exact h
theorem ap (hF:C.ok k x ps f) (hr:Room k C.X.A) (h:Aj C ma (e::es)) (hg:Gl C.X x:=by rfl) (mD:(x == ("__debug__" : Str))=false:=by decide) (he:starEach (e::es) C.X.env=(false,eval e C.X.env)::starEach es C.X.env:=by exact bO rfl) (hpl:(backTo pos (starEach es C.X.env)).any (·.1)=false:=by exact de rfl) :
  Ej C (aw ps.length f ma) (.Call (.Name x p) (e::es) [] pos):=.mk fun sl S σ F R H hs hr' Q post=>by
 obtain⟨fd,h1,h2,h3,h4,_⟩:=hF
 refine ED.of (pe_callS h1 hr hg h4 h3 h2 (fun σ=>L2N.passAt C.tk σ) eY mD he hpl) (h sl S σ F R H hs hr' _ (aK.bind post fun ds S1 vs F1 R1 H1 _ rx rep1 s1 r1 ah=>?_))
 by_cases hl:ds.length=ps.length
 · rw[if_pos hl] at ah
   exact⟨by rw[rx.length]; exact hl,C.G,F1,R1,S1,ds,rep1,rx,lC ah⟩
 · rw[if_neg hl] at ah; exact ah.elim
end
section
variable {C:Kx} {a b c e o tg:Expr} {es rest:List Expr} {pos p apos cpos:Pos} {x:Str} {m mo me:M} {ma:MA} {K:Fr} {r:V→List V→Hp→VK→Prop}
def D9 (f:List D→List D→Option (D×List D)) (mo:M) (ma:MA):M:=fun sl S=>(mo sl S).bind fun d S1=>match d with
 | .ref n=>match S1[n]? with
  | some (.lst _)=>(ma sl S1).bind fun as S2=>match S2[n]? with
   | some (.lst ds)=>match f ds as with
    | some (d,ds')=>.ok d (S2.set n (.lst ds'))
    | none=>.no
   | _=>.no
  | _=>.no
 | _=>.no
def VA (r:V→List V→Hp→VK→Prop) (f:List D→List D→Option (D×List D)):Prop:=∀ (K:Fr) F R ds as d ds' vs (l:Addr) xs H (Q:VK),f ds as=some (d,ds')→aF K F R vs ds→aF K F R xs as→H l=some (.lst vs)→(∀ v vs',aP K F R v d→aF K F R vs' ds'→Q v (upd H l (.lst vs')))→r (.ref l) xs H Q
theorem bQ.lstAt {G F H:Hp} {R:List Addr} {S:ag} {n:Nat} {ds:List D} (h:bQ K G F R S H) (e:S[n]?=some (.lst ds)):∃ l vs,R[n]?=some l∧H l=some (.lst vs)∧aF K F R vs ds:=by
 obtain⟨a,q,e1,ok,out⟩:=h.at e
 cases ok with
 | @lst vs ds hr=>exact⟨a,vs,e1,(out a _ dZ).2,hr⟩
theorem bQ.lstSet {G F H:Hp} {R:List Addr} {S:ag} {n:Nat} {ds ds':List D} {l:Addr} {vs':List V} (h:bQ K G F R S H) (e:S[n]?=some (.lst ds)) (el:R[n]?=some l) (hv:aF K F R vs' ds'):bQ K G F R (S.set n (.lst ds')) (upd H l (.lst vs')) :=
 h.mut (q':=id) e el fun q ok _=>by
  cases ok with
  | @lst vs ds hr =>
   refine⟨by rw[dZ]; exact fun z=>(nomatch z),?_⟩
   have e:upd (one l (.lst vs)) l (.lst vs')=one l (.lst vs'):=by
    funext a
    unfold upd one
    by_cases ha:a=l
    · rw[if_pos ha,if_pos ha]
    · rw[if_neg ha,if_neg ha,if_neg ha]
   rw[e]
   exact .lst hv
theorem Vl {f:List D→List D→Option (D×List D)} (hp:PE C.X e (tBM C.X.K "list" r (ED C.X o) (AD C.X es))) (hf:VA r f) (h1:Ej C mo o) (h2:Aj C ma es):Ej C (D9 f mo ma) e:=.mk fun sl S σ F R H hs hr Q post =>
 ED.of hp (h1 sl S σ F R H hs hr _ (aK.bind post fun d S1 v F1 R1 H1 _ rv rep1 s1 r1 ah=>by
  cases d with
  | p q=>exact ah.elim
  | ref n =>
   cases hn:S1[n]? with
   | none=>simp only[hn] at ah; exact ah.elim
   | some cl =>
    cases cl with
    | lst ds0 =>
     simp only[hn] at ah
     obtain⟨l,Yk,e1,e2,_⟩:=rep1.lstAt hn
     obtain⟨l',Da,rfl⟩:=rv
     rw[e1] at Da; cases Da
     refine⟨.inl ⟨rfl,Yk, .inl (.inl e2)⟩,h2 sl S1 σ F1 R1 H1 (hs.mono s1 r1) rep1 _ (aK.bind ah fun as S2 xs F2 R2 H2 _ rx rep2 s2 r2 post2=>?_)⟩
     cases Cj:S2[n]? with
     | none=>simp only[Cj] at post2; exact post2.elim
     | some cl =>
      cases cl with
      | lst ds =>
       simp only[Cj] at post2
       cases Tz:f ds as with
       | none=>simp only[Tz] at post2; exact post2.elim
       | some q =>
        obtain⟨d,ds'⟩:=q
        simp only[Tz] at post2
        obtain⟨l2,vs,e3,e4,PP⟩:=rep2.lstAt Cj
        have e5:=pU r2 e1
        rw[e3] at e5; cases e5
        exact hf C.K F2 R2 ds as d ds' vs l xs H2 Q Tz PP rx e4 fun v vs' hv Ph=>post2 v F2 R2 _ hv (rep2.lstSet Cj e3 Ph) (Same.refl _) aI
      | _=>simp only[Cj] at post2; exact post2.elim
    | _=>simp only[hn] at ah; exact ah.elim))
def nL (ds:List D):List D→Option (D×List D)
 | [d]=>if ds.length < sizeLine then some (.p .non,ds++[d]) else none
 | _=>none
theorem Sz:VA rAppend nL:=fun K F R ds as d ds' vs l xs H Q e hv hx hl k=>by
 unfold nL at e
 split at e
 · obtain⟨hc,e⟩:=cW e
   cases e
   cases hx with
   | cons hx1 hx2=>cases hx2; exact⟨l,vs,_,rfl,rfl,hl,by rw[hv.length]; exact hc,k .non _ (show aP K F R .non (.p .non) from .non) (hv.append (.cons hx1 .nil))⟩
 · cases e
abbrev Bs (C:Kx) (o:Expr) (name:Str):Prop:=attributeBase o name C.X.env (eval o C.X.env)=eval o C.X.env
abbrev Us (C:Kx) (es:List Expr) (cpos:Pos):Prop:=((backTo cpos (starEach es C.X.env)).all (fun x=>!x.1) && (backToKw cpos (keywordEach [] C.X.env)).all (fun x=>x.1.isSome)
   && decide (es.length+([]:List Keyword).length+(if ([]:List Keyword).isEmpty then 0 else 1) < 30))=true
theorem kW (h1:Ej C mo o) (h2:Ej C me e) (oY:Bs C o "append":=by rfl) (yc:Us C [e] cpos:=by rfl) (oq:(apos.endLine == cpos.line)=true:=by rfl) (hs:starEach [e] C.X.env=(false,eval e C.X.env)::starEach [] C.X.env:=by exact bO rfl) :
  Ej C (D9 nL mo (aC me aN)) (.Call (.Attribute o "append" apos) [e] [] cpos) :=
 Vl (pe_bm PySem.F.plainAttrs_list PySem.F.slot_list_append PySem.F.type_list_append mt_append bu eY oY yc oq hs) Sz h1 (aa h2 ae hs)
theorem aF.rev {F:Hp} {R:List Addr} {vs:List V} {ds:List D} (h:aF K F R vs ds):aF K F R vs.reverse ds.reverse:=by
 induction h with
 | nil=>exact .nil
 | cons h t ih =>
  rw[List.reverse_cons,List.reverse_cons]
  exact ih.append (.cons h .nil)
def J2 (mo me:M):M:=fun sl S=>(mo sl S).bind fun d S1=>match d with
 | .ref n=>match S1[n]? with
  | some (.lst _)=>(me sl S1).bind fun a S2=>match S2[n]?,view S2 a with
   | some (.lst ds),some (.lst ps)=>if ds.length+ps.length≤sizeLine then .ok (.p .non) (S2.set n (.lst (ds++ps.map .p))) else .no
   | _,_=>.no
  | _=>.no
 | _=>.no
theorem J5 (h1:Ej C mo o) (h2:Ej C me e) (oY:Bs C o "extend":=by rfl) (yc:Us C [e] cpos:=by rfl) (oq:(apos.endLine == cpos.line)=true:=by rfl) (XA:starEach [e] C.X.env=(false,eval e C.X.env)::starEach [] C.X.env:=by exact bO rfl) :
  Ej C (J2 mo me) (.Call (.Attribute o "extend" apos) [e] [] cpos):=.mk fun sl S σ F R H hs hr Q post =>
 ED.of (pe_bm PySem.F.plainAttrs_list PySem.F.slot_list_extend PySem.F.type_list_extend mt_extend bu (pa_cons bu pa_nil XA) oY yc oq XA) (h1 sl S σ F R H hs hr _ (aK.bind post fun d S1 v F1 R1 H1 _ rv rep1 s1 r1 ah=>by
  cases d with
  | p q=>exact ah.elim
  | ref n =>
   cases hn:S1[n]? with
   | none=>simp only[hn] at ah; exact ah.elim
   | some cl =>
    cases cl with
    | lst ds0 =>
     simp only[hn] at ah
     obtain⟨l,Yk,e1,e2,_⟩:=rep1.lstAt hn
     obtain⟨l',Da,rfl⟩:=rv
     rw[e1] at Da; cases Da
     refine⟨.inl ⟨rfl,Yk, .inl (.inl e2)⟩,h2 sl S1 σ F1 R1 H1 (hs.mono s1 r1) rep1 _ (aK.bind ah fun a S2 y F2 R2 H2 _ ry rep2 s2 r2 post2=>?_)⟩
     cases Cj:S2[n]? with
     | none=>simp only[Cj] at post2; exact post2.elim
     | some cl =>
      cases cl with
      | lst ds =>
       cases hv:view S2 a with
       | none=>simp only[Cj,hv] at post2; exact post2.elim
       | some q =>
        cases q with
        | lst ps =>
         simp only[Cj,hv] at post2
         by_cases hl:ds.length+ps.length≤sizeLine
         · rw[if_pos hl] at post2
           obtain⟨l2,vs,e3,e4,PP⟩:=rep2.lstAt Cj
           have e5:=pU r2 e1
           rw[e3] at e5; cases e5
           obtain⟨b,ws,rfl,e6,Z5⟩:=(ec ry rep2 hv).lstE rep2.sub
           exact⟨l,b,vs,ws,rfl,rfl,e4,e6,by rw[PP.length,Z5.length]; exact hl,post2 .non F2 R2 _ (show aP C.K F2 R2 .non (.p .non) from .non) (rep2.lstSet Cj e3 (PP.append (aF.of_p Z5))) (Same.refl _) aI⟩
         · rw[if_neg hl] at post2; exact post2.elim
        | _=>simp only[Cj,hv] at post2; exact post2.elim
      | _=>simp only[Cj] at post2; exact post2.elim
    | _=>simp only[hn] at ah; exact ah.elim))
end
mutual
def fc:P→P→Bool
 | .non, .non=>true
 | .bl a, .bl b=>a == b
 | .int i, .int j=>i == j
 | .str x, .str y=>decide (x=y)
 | .tup xs, .tup ys=>jP xs ys
 | .lst xs, .lst ys=>jP xs ys
 | .dic a ks xs, .dic b ls ys=>a == b && jP ks ls && jP xs ys
 | .ins c ks xs, .ins d ls ys=>decide (c=d) && decide (ks=ls) && jP xs ys
 | .glo x, .glo y=>decide (x=y)
 | .ty x, .ty y=>decide (x=y)
 | .scr x, .scr y=>decide (x=y)
 | .exv c ks xs, .exv d ls ys=>decide (c=d) && decide (ks=ls) && jP xs ys
 | .dlk ks xs, .dlk ls ys=>jP ks ls && jP xs ys
 | _,_=>false
def jP:List P→List P→Bool
 | [],[]=>true
 | x::xs,y::ys=>fc x y && jP xs ys
 | _,_=>false
end
mutual
theorem Gu:∀ (p q:P),fc p q=true→p=q
 | .non,q,h=>by cases q <;> first | rfl | (simp[fc] at h)
 | .bl a,q,h=>by cases q <;> first | (simp[fc] at h; done) | (simp[fc] at h; rw[h])
 | .int a,q,h=>by cases q <;> first | (simp[fc] at h; done) | (simp[fc] at h; rw[h])
 | .str a,q,h=>by cases q <;> first | (simp[fc] at h; done) | (simp[fc] at h; rw[h])
 | .tup xs,q,h=>by cases q <;> first | (simp[fc] at h; done) | (simp[fc] at h; rw[jd _ _ h])
 | .lst xs,q,h=>by cases q <;> first | (simp[fc] at h; done) | (simp[fc] at h; rw[jd _ _ h])
 | .dic a ks xs,q,h=>by cases q <;> first | (simp[fc] at h; done) | (simp[fc] at h; rw[h.1.1,jd _ _ h.1.2,jd _ _ h.2])
 | .ins c ks xs,q,h=>by cases q <;> first | (simp[fc] at h; done) | (simp[fc] at h; rw[h.1.1,h.1.2,jd _ _ h.2])
 | .glo a,q,h=>by cases q <;> first | (simp[fc] at h; done) | (simp[fc] at h; rw[h])
 | .ty a,q,h=>by cases q <;> first | (simp[fc] at h; done) | (simp[fc] at h; rw[h])
 | .scr a,q,h=>by cases q <;> first | (simp[fc] at h; done) | (simp[fc] at h; rw[h])
 | .exv c ks xs,q,h=>by cases q <;> first | (simp[fc] at h; done) | (simp[fc] at h; rw[h.1.1,h.1.2,jd _ _ h.2])
 | .dlk ks xs,q,h=>by cases q <;> first | (simp[fc] at h; done) | (simp[fc] at h; rw[jd _ _ h.1,jd _ _ h.2])
theorem jd:∀ (xs ys:List P),jP xs ys=true→xs=ys
 | [],ys,h=>by cases ys <;> first | rfl | (simp[jP] at h)
 | x::xs,ys,h=>by
  cases ys with
  | nil=>simp[jP] at h
  | cons y ys=>simp[jP] at h; rw[Gu _ _ h.1,jd _ _ h.2]
end
mutual
theorem zQ:∀ p:P,fc p p=true
 | .non=>by simp[fc]
 | .bl _=>by simp[fc]
 | .int _=>by simp[fc]
 | .str _=>by simp[fc]
 | .tup xs=>by simp[fc,fL xs]
 | .lst xs=>by simp[fc,fL xs]
 | .dic _ ks xs=>by simp[fc,fL xs,fL ks]
 | .ins c ks xs=>by simp[fc,fL xs]
 | .glo _=>by simp[fc]
 | .ty _=>by simp[fc]
 | .scr _=>by simp[fc]
 | .exv c ks xs=>by simp[fc,fL xs]
 | .dlk ks xs=>by simp[fc,fL xs,fL ks]
theorem fL:∀ xs:List P,jP xs xs=true
 | []=>by simp[jP]
 | x::xs=>by simp[jP,zQ x,fL xs]
end
instance:DecidableEq P:=fun p q=>if h:fc p q=true then isTrue (Gu p q h) else isFalse fun e=>h (e ▸ zQ p)
instance:DecidableEq D:=fun a b=>match a,b with
 | .p x, .p y=>if h:x=y then isTrue (h ▸ rfl) else isFalse fun e=>h (D.p.inj e)
 | .ref x, .ref y=>if h:x=y then isTrue (h ▸ rfl) else isFalse fun e=>h (D.ref.inj e)
 | .p _, .ref _=>isFalse fun e=>nomatch e
 | .ref _, .p _=>isFalse fun e=>nomatch e
instance:DecidableEq eQ:=fun a b=>match a,b with
 | .lst x, .lst y=>if h:x=y then isTrue (h ▸ rfl) else isFalse fun e=>h (eQ.lst.inj e)
 | .dic a x y, .dic b z w=>if h:a=b∧x=z∧y=w then isTrue (h.1 ▸ h.2.1 ▸ h.2.2 ▸ rfl) else isFalse fun e=>h (eQ.dic.inj e)
 | .ins c x y, .ins d z w=>if h:c=d∧x=z∧y=w then isTrue (h.1 ▸ h.2.1 ▸ h.2.2 ▸ rfl) else isFalse fun e=>h (eQ.ins.inj e)
 | .dead, .dead=>isTrue rfl
 | .lst _, .dic _ _ _=>isFalse fun e=>nomatch e
 | .lst _, .ins _ _ _=>isFalse fun e=>nomatch e
 | .lst _, .dead=>isFalse fun e=>nomatch e
 | .dic _ _ _, .lst _=>isFalse fun e=>nomatch e
 | .dic _ _ _, .ins _ _ _=>isFalse fun e=>nomatch e
 | .dic _ _ _, .dead=>isFalse fun e=>nomatch e
 | .ins _ _ _, .lst _=>isFalse fun e=>nomatch e
 | .ins _ _ _, .dic _ _ _=>isFalse fun e=>nomatch e
 | .ins _ _ _, .dead=>isFalse fun e=>nomatch e
 | .dead, .lst _=>isFalse fun e=>nomatch e
 | .dead, .dic _ _ _=>isFalse fun e=>nomatch e
 | .dead, .ins _ _ _=>isFalse fun e=>nomatch e
 | .tab x, .tab y=>if h:x=y then isTrue (h ▸ rfl) else isFalse fun e=>h (eQ.tab.inj e)
 | .tab _, .lst _=>isFalse fun e=>nomatch e
 | .lst _, .tab _=>isFalse fun e=>nomatch e
 | .tab _, .dic _ _ _=>isFalse fun e=>nomatch e
 | .dic _ _ _, .tab _=>isFalse fun e=>nomatch e
 | .tab _, .ins _ _ _=>isFalse fun e=>nomatch e
 | .ins _ _ _, .tab _=>isFalse fun e=>nomatch e
 | .tab _, .dead=>isFalse fun e=>nomatch e
 | .dead, .tab _=>isFalse fun e=>nomatch e
 | .tupf x, .tupf y=>if h:x=y then isTrue (h ▸ rfl) else isFalse fun e=>h (eQ.tupf.inj e)
 | .tupf _, .lst _=>isFalse fun e=>nomatch e
 | .lst _, .tupf _=>isFalse fun e=>nomatch e
 | .tupf _, .dic _ _ _=>isFalse fun e=>nomatch e
 | .dic _ _ _, .tupf _=>isFalse fun e=>nomatch e
 | .tupf _, .ins _ _ _=>isFalse fun e=>nomatch e
 | .ins _ _ _, .tupf _=>isFalse fun e=>nomatch e
 | .tupf _, .dead=>isFalse fun e=>nomatch e
 | .dead, .tupf _=>isFalse fun e=>nomatch e
 | .tupf _, .tab _=>isFalse fun e=>nomatch e
 | .tab _, .tupf _=>isFalse fun e=>nomatch e
 | .tpl x, .tpl y=>if h:x=y then isTrue (h ▸ rfl) else isFalse fun e=>h (eQ.tpl.inj e)
 | .tpl _, .lst _=>isFalse fun e=>nomatch e
 | .lst _, .tpl _=>isFalse fun e=>nomatch e
 | .tpl _, .dic _ _ _=>isFalse fun e=>nomatch e
 | .dic _ _ _, .tpl _=>isFalse fun e=>nomatch e
 | .tpl _, .ins _ _ _=>isFalse fun e=>nomatch e
 | .ins _ _ _, .tpl _=>isFalse fun e=>nomatch e
 | .tpl _, .dead=>isFalse fun e=>nomatch e
 | .dead, .tpl _=>isFalse fun e=>nomatch e
 | .tpl _, .tab _=>isFalse fun e=>nomatch e
 | .tab _, .tpl _=>isFalse fun e=>nomatch e
 | .tpl _, .tupf _=>isFalse fun e=>nomatch e
 | .tupf _, .tpl _=>isFalse fun e=>nomatch e
def nJ {α β:Type} (f:α→Option β):List α→Option (List β)
 | []=>some []
 | a::as=>match f a,nJ f as with
  | some b,some bs=>some (b::bs)
  | _,_=>none
def qK (S:ag) (n0:Nat):Nat→D→Option P
 | _, .p p=>some p
 | 0, .ref _=>none
 | k+1, .ref n=>if n < n0 then none else match S[n]? with
  | some (.lst ds)=>(nJ (qK S n0 k) ds).map .lst
  | some (.dic t ks ds)=>(nJ (qK S n0 k) ds).map (.dic t ks)
  | some (.ins c ks ds)=>(nJ (qK S n0 k) ds).map (.ins c ks)
  | some (.tupf ps)=>some (.tup ps)
  | some (.tpl ds)=>(nJ (qK S n0 k) ds).map .tup
  | _=>none
def pk (n:Nat):D→Bool
 | .p _=>true
 | .ref m=>decide (m < n)
def lq (n:Nat):eQ→Bool
 | .lst ds=>ds.all (pk n)
 | .dic _ _ ds=>ds.all (pk n)
 | .ins _ _ ds=>ds.all (pk n)
 | .dead=>true
 | .tab _=>true
 | .tupf _=>true
 | .tpl ds=>ds.all (pk n)
def SL (n0:Nat) (S':ag) (d:D):Rs D:=match d with
 | .p p=>.ok (.p p) (S'.take n0)
 | .ref m=>if m < n0 then .ok (.ref m) (S'.take n0) else match qK S' n0 8 (.ref m) with
  | some p=>.ok (.p p) (S'.take n0)
  | none=>.no
def qU (n0:Nat):Rs D→Rs D
 | .ok d S'=>if (S'.take n0).all (lq n0)=true then SL n0 S' d else .no
 | .exc x S'=>if (S'.take n0).all (lq n0)=true then .exc x (S'.take n0) else .no
 | .no=>.no
def runZ (n:Nat) (b:MS):Fn:=fun ds S=>qU S.length (runB n b ds S)
section
variable {K:Fr} {G F H F' H':Hp} {R R':List Addr} {S S':ag} {pc:Nat→Hp}
def NJ (n:Nat):D→Prop
 | .p _=>True
 | .ref m=>m < n
def Zh (n:Nat):eQ→Prop
 | .lst ds=>∀ d∈ds,NJ n d
 | .dic _ _ ds=>∀ d∈ds,NJ n d
 | .ins _ _ ds=>∀ d∈ds,NJ n d
 | .dead=>True
 | .tab _=>True
 | .tupf _=>True
 | .tpl ds=>∀ d∈ds,NJ n d
theorem aP.cl {v:V} {d:D} (h:aP K F R v d):NJ R.length d:=by
 cases d with
 | p _=>trivial
 | ref n=>obtain⟨a,e,_⟩:=h; exact (List.getElem?_eq_some_iff.mp e).1
theorem aF.cl:∀ {vs:List V} {ds:List D},aF K F R vs ds→∀ d∈ds,NJ R.length d
 | _,_, .nil,_,h=>by cases h
 | _,_, .cons h t,d,hd=>by
  rcases List.mem_cons.mp hd with rfl | hd
  · exact h.cl
  · exact aF.cl t d hd
theorem dE.cl {a:Addr} {q:Hp} {c:eQ} (h:dE K F R a q c):Zh R.length c:=by
 cases h with
 | lst h=>exact h.cl
 | dicK _ h=>exact h.cl
 | dicN _ _ _ h=>exact h.cl
 | ins _ _ h=>exact h.cl
 | dead=>trivial
 | tab _ _ _=>trivial
 | tupf _ _ _=>trivial
 | tpl _ _ h=>exact h.cl
theorem aP.cut {v:V} {d:D} {n:Nat} (h:aP K F R' v d) (hc:NJ n d) (e:Same F F'):aP K F' (R'.take n) v d:=by
 cases d with
 | p _=>exact Rp.mono e _ _ h
 | ref m =>
  obtain⟨a,e,rfl⟩:=h
  have hc:m < n:=hc
  exact⟨a,by rw[List.getElem?_take,if_pos hc]; exact e,rfl⟩
theorem aF.cut {n:Nat} (e:Same F F'):∀ {vs:List V} {ds:List D},aF K F R' vs ds→(∀ d∈ds,NJ n d)→aF K F' (R'.take n) vs ds
 | _,_, .nil,_=>.nil
 | _,_, .cons h t,hd=>.cons (h.cut (hd _ (List.mem_cons_self ..)) e) (aF.cut e t fun d h=>hd d (List.mem_cons_of_mem _ h))
theorem dE.cut {n:Nat} {a:Addr} {q:Hp} {c:eQ} (e:Same F F') (h:dE K F R' a q c) (hc:Zh n c):dE K F' (R'.take n) a q c:=by
 cases h with
 | lst h=>exact .lst (h.cut e hc)
 | dicK hk h=>exact .dicK hk (h.cut e hc)
 | dicN h1 h2 h3 h=>exact .dicN (ay.mono e _ _ h1) h2 h3 (h.cut e hc)
 | ins hd hk h=>exact .ins hd hk (h.cut e hc)
 | dead=>exact .dead
 | tupf h0 h1 h2=>exact .tupf (e _ _ h0) h1 (ay.mono e _ _ h2)
 | tpl h0 h1 h2=>exact .tpl (e _ _ h0) h1 (h2.cut e hc)
 | tab h0 h1 h2=>exact .tab h0 h1 fun pos cv z=>let ⟨c,e1,e2⟩:=h2 pos cv z; ⟨c,e1,e _ _ e2⟩
open Classical in
noncomputable def NP (F:Hp) (pc:Nat→Hp) (n0:Nat) (H:Hp):Hp:=fun a=>if ∃ n,n0≤n∧pc n a≠none then H a else F a
theorem KO {n0 n:Nat} {a:Addr} {o:HO} (hn:n0≤n) (e:pc n a=some o):NP F pc n0 H a=H a:=by
 unfold NP
 rw[if_pos ⟨n,hn,by rw[e]; exact fun z=>nomatch z⟩]
theorem vL {n0:Nat} {a:Addr} (h:¬ ∃ n,n0≤n∧pc n a≠none):NP F pc n0 H a=F a:=by
 unfold NP
 rw[if_neg h]
theorem gF (h:UC K G F R S H pc) (n0:Nat):Same F (NP F pc n0 H):=fun a o e=>by
 rw[vL]
 · exact e
 · rintro⟨n,_,hn⟩
   cases q:pc n a with
   | none=>exact hn q
   | some u=>rw[(h.out n a u q).1] at e; cases e
theorem mG {f:D→Option P} {F':Hp} (hf:∀ v d p,aP K F R v d→f d=some p→Rp K F' v p):∀ {vs:List V} {ds:List D} {ps:List P},aF K F R vs ds→nJ f ds=some ps→ay K F' vs ps
 | _,_,_, .nil,e=>by cases e; exact .nil
 | _,_,ps, .cons (b:=d) (l₂:=ds) h t,e=>by
  cases e1:f d with
  | none=>simp only[nJ,e1] at e; cases e
  | some p =>
   cases e2:nJ f ds with
   | none=>simp only[nJ,e1,e2] at e; cases e
   | some qs =>
    simp only[nJ,e1,e2] at e; cases e
    exact .cons (hf _ _ _ h e1) (mG hf t e2)
theorem P5 (h:UC K G F R S H pc) (n0:Nat):∀ (k:Nat) (v:V) (d:D) (p:P),aP K F R v d→qK S n0 k d=some p→Rp K (NP F pc n0 H) v p:=by
 intro k
 induction k with
 | zero =>
  intro v d p hv e
  cases d with
  | p q=>cases e; exact Rp.mono (gF h n0) _ _ hv
  | ref n=>cases e
 | succ k ih =>
  intro v d p hv e
  cases d with
  | p q=>cases e; exact Rp.mono (gF h n0) _ _ hv
  | ref n =>
   simp only[qK] at e
   split at e
   · cases e
   · rename_i hn
     have hn:n0≤n:=by omega
     cases hc:S[n]? with
     | none=>rw[hc] at e; cases e
     | some c =>
      rw[hc] at e
      obtain⟨a,ea,ok⟩:=h.ok n c hc
      obtain⟨a',ea',rfl⟩:=hv
      rw[ea] at ea'; cases ea'
      generalize hq:pc n=q at ok
      have at_:∀ b o,q b=some o→NP F pc n0 H b=some o:=fun b o z=>by
       rw[KO hn (show pc n b=some o by rw[hq]; exact z)]
       exact (h.out n b o (by rw[hq]; exact z)).2
      cases ok with
      | @lst vs ds hr =>
       cases hm:nJ (qK S n0 k) ds with
       | none=>simp only[hm] at e; cases e
       | some ps =>
        simp only[hm] at e; cases e
        exact .lst (at_ _ _ dZ) (mG ih hr hm)
      | @dicK kvs ks ds hk hr =>
       cases hm:nJ (qK S n0 k) ds with
       | none=>simp only[hm] at e; cases e
       | some ps =>
        simp only[hm] at e; cases e
        exact .dicK (at_ _ _ dZ) hk (mG ih hr hm)
      | @dicN kvs ks ds h1 h2 h3 hr =>
       cases hm:nJ (qK S n0 k) ds with
       | none=>simp only[hm] at e; cases e
       | some ps =>
        simp only[hm] at e; cases e
        exact .dicN (at_ _ _ dZ) (ay.mono (gF h n0) _ _ h1) h2 h3 (mG ih hr hm)
      | @ins dx c fs ks ds hd hk hr =>
       cases hm:nJ (qK S n0 k) ds with
       | none=>simp only[hm] at e; cases e
       | some ps =>
        simp only[hm] at e; cases e
        exact .ins (at_ _ _ nR) (at_ _ _ (Gc hd)) hk (mG ih hr hm)
      | dead=>cases e
      | tab _ _ _=>cases e
      | tupf h0 h1 h2=>cases e; exact .tup ⟨_,gF h n0 _ _ h0,h1⟩ (ay.mono (gF h n0) _ _ h2)
      | tpl h0 h1 hr =>
       rename_i ds
       cases hm:nJ (qK S n0 k) ds with
       | none=>simp only[hm] at e; cases e
       | some ps =>
        simp only[hm] at e; cases e
        exact .tup ⟨_,gF h n0 _ _ h0,h1⟩ (mG ih hr hm)
theorem vV {n:Nat} {d:D} (h:pk n d=true):NJ n d:=by
 cases d with
 | p _=>trivial
 | ref m =>
  have h:decide (m < n)=true:=h
  exact (of_decide_eq_true h:m < n)
theorem Ot {n:Nat} {c:eQ} (h:lq n c=true):Zh n c:=by
 cases c with
 | lst ds=>exact fun d hd=>vV (List.all_eq_true.mp h d hd)
 | dic _ _ ds=>exact fun d hd=>vV (List.all_eq_true.mp h d hd)
 | ins _ _ ds=>exact fun d hd=>vV (List.all_eq_true.mp h d hd)
 | dead=>trivial
 | tab _=>trivial
 | tupf _=>trivial
 | tpl ds=>exact fun d hd=>vV (List.all_eq_true.mp h d hd)
theorem G1 {F0 H0:Hp} {S0:ag} (h0:bQ K G F0 R S0 H0) (h:UC K G F R' S' H pc) (hR:R <+: R') (hS:(S'.take S0.length).all (lq S0.length)=true):R'.take S0.length=R∧bQ K G (NP F pc S0.length H) R (S'.take S0.length) H:=by
 have hl:=h0.len
 have eR:R'.take S0.length=R:=by
  obtain⟨t,rfl⟩:=hR
  rw[← hl,List.take_left]
 have hlen:S0.length≤S'.length:=by
  obtain⟨t,rfl⟩:=hR
  rw[← h.len,List.length_append]; omega
 have kO:(S'.take S0.length).length=S0.length:=by rw[List.length_take]; omega
 refine⟨eR,fun n=>if n < S0.length then pc n else nil,fun a o e=>?_,by rw[kO]; exact hl,fun n c e=>?_,fun n a o e=>?_,fun n m a e1 e2=>?_,fun n hn=>?_,fun a o e=>?_⟩
 · by_cases hx:∃ n,S0.length≤n∧pc n a≠none
   · obtain⟨n,hn,hp⟩:=hx
     cases q:pc n a with
     | none=>exact absurd q hp
     | some u=>rw[KO hn q] at e; exact e
   · rw[vL hx] at e; exact h.sub _ _ e
 · have hn:n < S0.length:=by
    have:=(List.getElem?_eq_some_iff.mp e).1
    omega
   have yM:=Ot (List.all_eq_true.mp hS c (List.mem_of_getElem? e))
   have e':S'[n]?=some c:=by
    have:=e
    rw[List.getElem?_take,if_pos hn] at this
    exact this
   obtain⟨a,e1,e2⟩:=h.ok n c e'
   refine⟨a,?_,?_⟩
   · rw[← eR,List.getElem?_take,if_pos hn]; exact e1
   · show dE K (NP F pc S0.length H) R a (if n < S0.length then pc n else nil) c
     rw[if_pos hn,← eR]
     exact e2.cut (gF h _) yM
 · have e:(if n < S0.length then pc n else nil) a=some o:=e
   by_cases hn:n < S0.length
   · rw[if_pos hn] at e
     obtain⟨z1,z2⟩:=h.out n a o e
     refine⟨?_,z2⟩
     rw[vL]
     · exact z1
     · rintro⟨m,hm,hp⟩
       have:=h.sep n m a (by rw[e]; exact fun z=>nomatch z) hp
       omega
   · rw[if_neg hn] at e; cases e
 · have key:∀ j,(if j < S0.length then pc j else nil) a≠none→pc j a≠none:=fun j hj=>by
    by_cases hn:j < S0.length
    · rw[if_pos hn] at hj; exact hj
    · rw[if_neg hn] at hj; exact absurd rfl hj
   exact h.sep n m a (key n e1) (key m e2)
 · show (if n < S0.length then pc n else nil)=nil
   rw[if_neg (by omega)]
 · obtain⟨z1,z2,z3⟩:=h.grd a o e
   refine⟨z1,?_,fun n=>?_⟩
   · rw[vL]
     · exact z2
     · rintro⟨m,_,hp⟩
       exact hp (z3 m)
   · show (if n < S0.length then pc n else nil) a=none
     split
     · exact z3 n
     · rfl
theorem qa {F0 H0:Hp} {S0:ag} {Q:VK} {E:XK} {r:Rs D} (h0:bQ K G F0 R S0 H0) (post:mC K G F0 R Q E (qU S0.length r)):mC K G F0 R Q E r:=by
 cases r with
 | ok d S' =>
  intro v F' R' H' hv rep s pr
  simp only[qU] at post
  by_cases hS:(S'.take S0.length).all (lq S0.length)=true
  · rw[if_pos hS] at post
    obtain⟨pc,rep⟩:=rep
    obtain⟨eR,yG⟩:=G1 h0 rep pr hS
    have sm:=s.trans (gF rep S0.length)
    cases d with
    | p p=>exact post v _ R H' (Rp.mono (gF rep _) _ _ hv) yG sm aI
    | ref m =>
     simp only[SL] at post
     by_cases hm:m < S0.length
     · rw[if_pos hm] at post
       refine post v _ R H' ?_ yG sm aI
       rw[← eR]
       exact aP.cut hv hm (gF rep _)
     · rw[if_neg hm] at post
       cases hf:qK S' S0.length 8 (.ref m) with
       | none=>simp only[hf] at post; exact post.elim
       | some p =>
        simp only[hf] at post
        exact post v _ R H' (P5 rep _ 8 v _ p hv hf) yG sm aI
  · rw[if_neg hS] at post; exact post.elim
 | exc x S' =>
  intro cls d F' R' H' hx rep s pr
  simp only[qU] at post
  by_cases hS:(S'.take S0.length).all (lq S0.length)=true
  · rw[if_pos hS] at post
    obtain⟨pc,rep⟩:=rep
    obtain⟨_,yG⟩:=G1 h0 rep pr hS
    have sm:=gF rep S0.length
    refine post cls d _ R H' ?_ yG (s.trans sm) aI
    obtain⟨h1,h2⟩:=hx
    refine⟨h1,?_⟩
    rcases h2 with h2 | ⟨a,fs,e1,e2,e3,e4⟩
    · exact .inl h2
    · exact .inr ⟨a,fs,e1,sm _ _ e2,e3,ay.mono sm _ _ e4⟩
  · rw[if_neg hS] at post; exact post.elim
 | no=>exact post.elim
end
theorem Au {Pg:Program} {w:World} {K:PySem.W.Frag} {mg:Str→Option Value} {base:Heap} {k:Nat} {x:Str} {ps:List Str} {n:Nat} {b:MS} (h:jo Pg w K mg base k x ps (runB n b)):jo Pg w K mg base k x ps (runZ n b) :=
 h.imp fun G F R S ds H Q E rep post=>qa rep post
section
variable {K:Fr}
theorem vY {F H:Hp} {vs:List V} {p:P} (h:Ah K F H vs [p]):∃ v,vs=[v]∧Vw K F H v p:=by
 cases h with
 | cons h t=>cases t; exact⟨_,rfl,h⟩
theorem V3 {F H:Hp} {vs:List V} {p q:P} (h:Ah K F H vs [p,q]):∃ v w,vs=[v,w]∧Vw K F H v p∧Vw K F H w q:=by
 cases h with
 | cons h t =>
  cases t with
  | cons h2 t=>cases t; exact⟨_,_,rfl,h,h2⟩
def dh:List P→Option P
 | [.str z]=>if z.length≤sizeLine then some (.int (z.length:Int)) else none
 | [.lst ps]=>some (.int (ps.length:Int))
 | [.tup ps]=>some (.int (ps.length:Int))
 | [.scr ns]=>some (.int (ns.length:Int))
 | _=>none
theorem To:jS K (fun xs H Q=>∃ x n,xs=[x]∧LenV K.K x H n∧Q (.int n) H) dh:=fun ps z vs F H Q e hx s k=>by
 · unfold dh at e
   split at e
   · obtain⟨v,rfl,h⟩:=vY hx
     obtain⟨hc,rfl⟩:=cW e
     cases h.str
     exact⟨_,_,rfl,⟨hc,rfl⟩,k _ F H (.int _) (bx.refl s)⟩
   · obtain⟨v,rfl,h⟩:=vY hx
     cases e
     obtain⟨a,ws,rfl,h1,h2⟩:=h.lstE s
     exact⟨_,_,rfl, .inl ⟨_, .inl (.inl h1),rfl⟩,by rw[h2.length]; exact k _ F H (.int _) (bx.refl s)⟩
   · obtain⟨v,rfl,h⟩:=vY hx
     cases e
     obtain⟨a,ws,rfl,h1,h2⟩:=h.tupE
     exact⟨_,_,rfl, .inr ⟨_,aZ s h1,rfl⟩,by rw[h2.length]; exact k _ F H (.int _) (bx.refl s)⟩
   · rename_i ns
     obtain⟨v,rfl,h⟩:=vY hx
     cases e
     obtain⟨a,rfl,h1⟩:=h.scrE s
     exact⟨_,ns.length,rfl, .inl ⟨_,h1,by rw[List.length_map]⟩,k _ F H (.int _) (bx.refl s)⟩
   · cases e
def oE:P→String
 | .non=>"NoneType"
 | .bl _=>"bool"
 | .int _=>"int"
 | .str _=>"str"
 | .lst _=>"list"
 | .tup _=>"tuple"
 | .dic _ _ _=>"dict"
 | .ins _ _ _=>"?"
 | .glo _=>"?"
 | .ty _=>"?"
 | .scr _=>"list"
 | .exv _ _ _=>"?"
 | .dlk _ _=>"?"
def cj:P→Bool
 | .dic true _ _=>false
 | .ins _ _ _=>false
 | .glo _=>false
 | .ty _=>false
 | .scr _=>false
 | .exv _ _ _=>false
 | .dlk _ _=>false
 | _=>true
theorem Ll {H:Hp} {v:V} {p:P} (h:Rp K H v p) (hp:cj p=true):TyX K.K H v (.type (oE p)):=by
 cases h with
 | non=>exact .base .non
 | bl b=>exact .base (.bl b)
 | int i=>exact .base (.int i)
 | str y=>exact .base (.str y)
 | lst h1 _=>exact .base (.lst h1)
 | tup h1 _=>exact let ⟨o,h,_⟩:=h1; .fTuple h
 | tupW h1 _ _ =>
  rcases h1 with ⟨o,h1,_⟩ | ⟨o,its,n,h1,h2,_⟩
  · exact .fTuple h1
  · exact .kTuple h1 h2
 | dicK h1 _ _=>exact .base (.dK h1)
 | dicN _ _ _ _ _=>cases hp
 | ins _ _ _ _=>cases hp
 | glo _=>cases hp
 | ty _=>cases hp
 | scr _=>cases hp
 | exv _ _ _ _=>cases hp
 | dlk _ _ _=>cases hp
 | exv0 _=>cases hp
def br:List P→Option P
 | [p, .ty n]=>if cj p=true then (kitB (oE p) n).map .bl else none
 | _=>none
theorem JG:jS K (rIsi K.K) br:=fun ps z vs F H Q e hx s k=>by
 unfold br at e
 split at e
 · rename_i p n
   obtain⟨v,w,rfl,h1,h2⟩:=V3 hx
   split at e
   · rename_i hp
     cases hk:kitB (oE p) n with
     | none=>rw[hk] at e; cases e
     | some b =>
      rw[hk] at e; cases e
      have hw:w=.ty n:=by cases h2 with | p h=>cases h; rfl
      subst hw
      exact⟨v,_,_,_,b,rfl, .ty n,Ll (h1.rd s) hp,kit_ty hk,k _ F H (.bl b) (bx.refl s)⟩
   · cases e
 · cases e
def Et:List P→Option P
 | [.int m]=>some (.int (if m < 0 then -m else m))
 | _=>none
theorem Sn:jS K (fun xs H Q=>∃ i,xs=[.int i]∧Q (.int (if i < 0 then -i else i)) H) Et:=fun ps z vs F H Q e hx s k=>by
 unfold Et at e
 split at e
 · obtain⟨v,rfl,h⟩:=vY hx
   cases e
   cases h.int
   exact⟨_,rfl,k _ F H (.int _) (bx.refl s)⟩
 · cases e
def kE:List P→Option P
 | [.int m]=>some (.int m)
 | [.bl b]=>some (.int (if b then 1 else 0))
 | [.str z]=>if z.length≤640 then (PySem.intText? z).map .int else none
 | _=>none
def Rf:List V→Hp→VK→Prop:=fun xs H Q=>(fun xs H Q=>(∃ i,xs=[.int i]∧Q (.int i) H)∨∃ k,xs=[.bl k]∧Q (.int (if k then 1 else 0)) H) xs H Q∨(fun xs H Q=>∃ a n,xs=[.str a]∧PySem.intText? a=some n∧a.length≤640∧Q (.int n) H) xs H Q
theorem Sw {X:Cx}:CallR X (.type "int") Rf:=CallR.or call_int1 call_int_str
theorem RO:jS K Rf kE:=fun ps z vs F H Q e hx s k=>by
 unfold kE at e
 split at e
 · obtain⟨v,rfl,h⟩:=vY hx
   cases e
   cases h.int
   exact .inl (.inl ⟨_,rfl,k _ F H (.int _) (bx.refl s)⟩)
 · obtain⟨v,rfl,h⟩:=vY hx
   cases e
   cases h.bl
   exact .inl (.inr ⟨_,rfl,k _ F H (.int _) (bx.refl s)⟩)
 · rename_i y
   obtain⟨v,rfl,h⟩:=vY hx
   cases h.str
   split at e
   · rename_i hl
     cases hi:PySem.intText? y with
     | none=>rw[hi] at e; cases e
     | some n =>
      rw[hi] at e; cases e
      exact .inr ⟨y,n,rfl,hi,hl,k _ F H (.int _) (bx.refl s)⟩
   · cases e
 · cases e
def Ho:List P→Option P
 | [.int m]=>if m.natAbs.log2 < 1920 then some (.str (toString m)) else none
 | _=>none
theorem RG:jS K (fun xs H Q=>∃ i,xs=[.int i]∧i.natAbs.log2 < 1920∧Q (.str (toString i)) H) Ho:=fun ps z vs F H Q e hx s k=>by
 unfold Ho at e
 split at e
 · obtain⟨v,rfl,h⟩:=vY hx
   obtain⟨hc,rfl⟩:=cW e
   cases h.int
   exact⟨_,rfl,hc,k _ F H (.str _) (bx.refl s)⟩
 · cases e
def jK:List P→Option (List Int)
 | []=>some []
 | .int n::ps=>(jK ps).map (n::·)
 | _=>none
theorem pZ {F:Hp}:∀ {ps:List P} {ns:List Int} {vs:List V},jK ps=some ns→ay K F vs ps→vs=ns.map V.int
 | [],_,_,e,h=>by cases e; cases h; rfl
 | p::ps,ns,_,e,h=>by
  cases h with
  | cons h1 h2 =>
   cases p with
   | int n =>
    cases hq:jK ps with
    | none=>simp only[jK,hq] at e; cases e
    | some ms =>
     simp only[jK,hq] at e; cases e
     cases h1
     rw[pZ hq h2]; rfl
   | _=>cases e
def fg:List P→Option (List Bool)
 | []=>some []
 | .bl n::ps=>(fg ps).map (n::·)
 | _=>none
theorem qN {F:Hp}:∀ {ps:List P} {ns:List Bool} {vs:List V},fg ps=some ns→ay K F vs ps→vs=ns.map V.bl
 | [],_,_,e,h=>by cases e; cases h; rfl
 | p::ps,ns,_,e,h=>by
  cases h with
  | cons h1 h2 =>
   cases p with
   | bl n =>
    cases hq:fg ps with
    | none=>simp only[fg,hq] at e; cases e
    | some ms =>
     simp only[fg,hq] at e; cases e
     cases h1
     rw[qN hq h2]; rfl
   | _=>cases e
def Yv:List Int→Option Int
 | []=>none
 | n::ns=>some (ns.foldl max n)
def ZL:List Int→Option Int
 | []=>none
 | n::ns=>some (ns.foldl min n)
theorem oR:∀ (ns:List Int) (n:Int),(ns.foldl max n=n∨ns.foldl max n∈ns)∧n≤ns.foldl max n∧∀ y∈ns,y≤ns.foldl max n
 | [],n=>⟨.inl rfl,Int.le_refl _,fun _ h=>by cases h⟩
 | m::ns,n=>by
  obtain⟨h1,h2,h3⟩:=oR ns (max n m)
  rw[List.foldl_cons]
  refine⟨?_,by omega,fun y hy=>?_⟩
  · rcases h1 with h1 | h1
    · rw[h1]
      by_cases h:n≤m
      · right; rw[show max n m=m by omega]; exact List.mem_cons_self ..
      · left; omega
    · right; exact List.mem_cons_of_mem _ h1
  · rcases List.mem_cons.mp hy with rfl | hy
    · omega
    · exact h3 y hy
theorem ot:∀ (ns:List Int) (n:Int),(ns.foldl min n=n∨ns.foldl min n∈ns)∧ns.foldl min n≤n∧∀ y∈ns,ns.foldl min n≤y
 | [],n=>⟨.inl rfl,Int.le_refl _,fun _ h=>by cases h⟩
 | m::ns,n=>by
  obtain⟨h1,h2,h3⟩:=ot ns (min n m)
  rw[List.foldl_cons]
  refine⟨?_,by omega,fun y hy=>?_⟩
  · rcases h1 with h1 | h1
    · rw[h1]
      by_cases h:m≤n
      · right; rw[show min n m=m by omega]; exact List.mem_cons_self ..
      · left; omega
    · right; exact List.mem_cons_of_mem _ h1
  · rcases List.mem_cons.mp hy with rfl | hy
    · omega
    · exact h3 y hy
def HH:List P→Option P
 | [.int m, .int n]=>some (.int (if n > m then n else m))
 | [.lst ps]=>match jK ps with
  | some ns=>(Yv ns).map .int
  | none=>none
 | _=>none
def vC:List P→Option P
 | [.int m, .int n]=>some (.int (if n < m then n else m))
 | [.lst ps]=>match jK ps with
  | some ns=>(ZL ns).map .int
  | none=>none
 | _=>none
def QJ (K:PySem.W.Frag):List V→Hp→VK→Prop:=fun xs H Q=>(fun xs H Q=>∃ i j,xs=[.int i, .int j]∧Q (.int (if j > i then j else i)) H) xs H Q∨rMax K xs H Q
def Qe (K:PySem.W.Frag):List V→Hp→VK→Prop:=fun xs H Q=>(fun xs H Q=>∃ i j,xs=[.int i, .int j]∧Q (.int (if j < i then j else i)) H) xs H Q∨rMin K xs H Q
theorem PY {X:Cx} (hc:X.calm=true):CallR X (.builtin "max") (QJ X.K):=CallR.or (call_max2 hc) (cr_max hc)
theorem Oq {X:Cx} (hc:X.calm=true):CallR X (.builtin "min") (Qe X.K):=CallR.or (call_min2 hc) (cr_min hc)
theorem Sh:jS K (QJ K.K) HH:=fun ps z vs F H Q e hx s k=>by
 unfold HH at e
 split at e
 · obtain⟨v,w,rfl,h1,h2⟩:=V3 hx
   cases e; cases h1.int; cases h2.int
   exact .inl ⟨_,_,rfl,k _ F H (.int _) (bx.refl s)⟩
 · rename_i ps
   obtain⟨v,rfl,h⟩:=vY hx
   cases hi:jK ps with
   | none=>rw[hi] at e; cases e
   | some ns =>
    rw[hi] at e
    obtain⟨a,ws,rfl,h1,h2⟩:=h.lstE s
    have:=pZ hi h2
    subst this
    cases ns with
    | nil=>cases e
    | cons n ns =>
     cases e
     obtain⟨q1,q2,q3⟩:=oR ns n
     refine .inr ⟨a,n::ns,rfl, .inl (.inl h1),by simp,fun m hm kQ=>?_⟩
     have e1:m=ns.foldl max n:=by
      have a1:ns.foldl max n≤m:=by
       rcases q1 with q1 | q1
       · rw[q1]; exact kQ n (List.mem_cons_self ..)
       · exact kQ _ (List.mem_cons_of_mem _ q1)
      rcases List.mem_cons.mp hm with rfl | hm
      · omega
      · have:=q3 m hm; omega
     rw[e1]
     exact k _ F H (.int _) (bx.refl s)
 · cases e
theorem SA:jS K (Qe K.K) vC:=fun ps z vs F H Q e hx s k=>by
 unfold vC at e
 split at e
 · obtain⟨v,w,rfl,h1,h2⟩:=V3 hx
   cases e; cases h1.int; cases h2.int
   exact .inl ⟨_,_,rfl,k _ F H (.int _) (bx.refl s)⟩
 · rename_i ps
   obtain⟨v,rfl,h⟩:=vY hx
   cases hi:jK ps with
   | none=>rw[hi] at e; cases e
   | some ns =>
    rw[hi] at e
    obtain⟨a,ws,rfl,h1,h2⟩:=h.lstE s
    have:=pZ hi h2
    subst this
    cases ns with
    | nil=>cases e
    | cons n ns =>
     cases e
     obtain⟨q1,q2,q3⟩:=ot ns n
     refine .inr ⟨a,n::ns,rfl, .inl (.inl h1),by simp,fun m hm kQ=>?_⟩
     have e1:m=ns.foldl min n:=by
      have a1:m≤ns.foldl min n:=by
       rcases q1 with q1 | q1
       · rw[q1]; exact kQ n (List.mem_cons_self ..)
       · exact kQ _ (List.mem_cons_of_mem _ q1)
      rcases List.mem_cons.mp hm with rfl | hm
      · omega
      · have:=q3 m hm; omega
     rw[e1]
     exact k _ F H (.int _) (bx.refl s)
 · cases e
def qH:List P→Option P
 | [.lst ps]=>(fg ps).map fun bs=>.bl (bs.all id)
 | _=>none
def A9:List P→Option P
 | [.lst ps]=>(fg ps).map fun bs=>.bl (bs.any id)
 | _=>none
def ES:List P→Option P
 | [.lst ps]=>(jK ps).map fun ns=>.int ns.sum
 | _=>none
theorem KA:jS K (rAll K.K) qH:=fun ps z vs F H Q e hx s k=>by
 unfold qH at e
 split at e
 · rename_i ps
   obtain⟨v,rfl,h⟩:=vY hx
   cases hi:fg ps with
   | none=>rw[hi] at e; cases e
   | some ns =>
    rw[hi] at e; cases e
    obtain⟨a,ws,rfl,h1,h2⟩:=h.lstE s
    have:=qN hi h2
    subst this
    exact⟨a,ns,rfl, .inl (.inl h1),k _ F H (.bl _) (bx.refl s)⟩
 · cases e
theorem JO:jS K (rAny K.K) A9:=fun ps z vs F H Q e hx s k=>by
 unfold A9 at e
 split at e
 · rename_i ps
   obtain⟨v,rfl,h⟩:=vY hx
   cases hi:fg ps with
   | none=>rw[hi] at e; cases e
   | some ns =>
    rw[hi] at e; cases e
    obtain⟨a,ws,rfl,h1,h2⟩:=h.lstE s
    have:=qN hi h2
    subst this
    exact⟨a,ns,rfl, .inl (.inl h1),k _ F H (.bl _) (bx.refl s)⟩
 · cases e
theorem Sa:jS K (rSum K.K) ES:=fun ps z vs F H Q e hx s k=>by
 unfold ES at e
 split at e
 · rename_i ps
   obtain⟨v,rfl,h⟩:=vY hx
   cases hi:jK ps with
   | none=>rw[hi] at e; cases e
   | some ns =>
    rw[hi] at e; cases e
    obtain⟨a,ws,rfl,h1,h2⟩:=h.lstE s
    have:=pZ hi h2
    subst this
    exact⟨a,ns,rfl, .inl (.inl h1),k _ F H (.int _) (bx.refl s)⟩
 · cases e
def hX:List P→Option P
 | [.lst ps]=>some (.tup ps)
 | [.tup ps]=>some (.tup ps)
 | _=>none
theorem DG {X:Cx}:CallR X (.type "tuple") (fun xs H Q=>∃ p ys,xs=[.ref p]∧((SqL X.K H p ys∧∀ l o,H l=none→o.dict=none→Q (.ref l) (upd H l (.frz o (.tup ys))))∨(SqT X.K H p ys∧Q (.ref p) H))):=by
 intro pins s σ H xs us Q I r h
 obtain⟨p,ys,rfl,h⟩:=h
 obtain⟨u,rfl,rx⟩:=vals1 r
 cases rx
 rcases h with ⟨hq,q⟩ | ⟨hq,q⟩
 · obtain⟨its,r',pl,hz⟩:=I.list hq
   have hlen:=r'.length
   refine call_tuple_list pl.isList (fun h' kp=>?_) (by simp only[List.size_toArray] <;> omega)
   have I1:Inv X pins σ H { s with heap:=h' }:=I.kept (t':=s.toks) kp
   have I2:Inv X pins σ (upd H h'.objs.size (.frz { cls:=.type "tuple",data:=.seq its.toArray } (.tup ys))) { s with heap:=h'.push { cls:=.type "tuple",data:=.seq its.toArray } } :=
    I1.laid (t':=s.toks) (fun b o e=>Heap.get?_push_of_some _ e) (Nat.le_refl _) (show ObjOk X.prog X.w _ _ _ (.frz { cls:=.type "tuple",data:=.seq its.toArray } (.tup ys)) from ⟨by heap_get,hz,its,r',IsTup.new _ _⟩)
   exact⟨.ref h'.objs.size,_,I2,rfl,q _ _ (I1.hok.fresh (Nat.le_refl _)) rfl⟩
 · obtain⟨its,r',pl,hz⟩:=I.tuple hq
   exact call_tuple_same pl ⟨.ref p,H,I,rfl,q⟩
theorem Ms:jS K (fun xs H Q=>∃ p ys,xs=[.ref p]∧((SqL K.K H p ys∧∀ l o,H l=none→o.dict=none→Q (.ref l) (upd H l (.frz o (.tup ys))))∨(SqT K.K H p ys∧Q (.ref p) H))) hX:=fun ps z vs F H Q e hx s k=>by
 unfold hX at e
 split at e
 · obtain⟨v,rfl,h⟩:=vY hx
   cases e
   obtain⟨a,ws,rfl,h1,h2⟩:=h.lstE s
   refine⟨a,ws,rfl, .inl ⟨.inl (.inl h1),fun l ob hl hd=>?_⟩⟩
   have g:=bx.new (o:=.frz ob (.tup ws)) s hl
   exact k _ _ _ (.tup ⟨ob,upd_same,hd⟩ (ay.mono g.sF _ _ h2)) g
 · obtain⟨v,rfl,h⟩:=vY hx
   cases e
   have hp:=h.tupP
   obtain⟨a,ws,rfl,h1,h2⟩:=h.tupE
   exact⟨a,ws,rfl, .inr ⟨aZ s h1,k _ F H hp (bx.refl s)⟩⟩
 · cases e
def xT:List P→Option P
 | [.lst ps]=>some (.lst ps)
 | [.tup ps]=>some (.lst ps)
 | [.scr ns]=>some (.lst (ns.map .int))
 | _=>none
end
section
variable {C:Kx} {a b e:Expr} {es:List Expr} {pos p:Pos} {ma:MA}
abbrev Se (C:Kx) (e:Expr) (es:List Expr):Prop:=starEach (e::es) C.X.env=(false,eval e C.X.env)::starEach es C.X.env
abbrev Pl (C:Kx) (es:List Expr) (pos:Pos):Prop:=(backTo pos (starEach es C.X.env)).any (·.1)=false
theorem bF (hm:C.X.mg "len" = none) (h:Aj C ma (e::es)) (hg:Gl C.X "len":=by rfl) (he:Se C e es:=by exact bO rfl) (hpl:Pl C es pos:=by exact de rfl):Ej C (eF dh ma) (.Call (.Name "len" p) (e::es) [] pos):=gx call_len To hm boot_len h hg (he:=he) (hpl:=hpl)
theorem dJ (hm:C.X.mg "isinstance" = none) (h:Aj C ma (e::es)) (hg:Gl C.X "isinstance":=by rfl) (he:Se C e es:=by exact bO rfl) (hpl:Pl C es pos:=by exact de rfl):Ej C (eF br ma) (.Call (.Name "isinstance" p) (e::es) [] pos):=gx call_isi JG hm (by decide +kernel) h hg (he:=he) (hpl:=hpl)
theorem Bz (hm:C.X.mg "abs" = none) (h:Aj C ma (e::es)) (hg:Gl C.X "abs":=by rfl) (he:Se C e es:=by exact bO rfl) (hpl:Pl C es pos:=by exact de rfl):Ej C (eF Et ma) (.Call (.Name "abs" p) (e::es) [] pos):=gx call_abs Sn hm (by decide +kernel) h hg (he:=he) (hpl:=hpl)
theorem Mm (hc:C.X.calm=true) (hm:C.X.mg "max" = none) (h:Aj C ma (e::es)) (hg:Gl C.X "max":=by rfl) (he:Se C e es:=by exact bO rfl) (hpl:Pl C es pos:=by exact de rfl):Ej C (eF HH ma) (.Call (.Name "max" p) (e::es) [] pos):=gx (PY hc) Sh hm (by decide +kernel) h hg (he:=he) (hpl:=hpl)
theorem tS (hc:C.X.calm=true) (hm:C.X.mg "min" = none) (h:Aj C ma (e::es)) (hg:Gl C.X "min":=by rfl) (he:Se C e es:=by exact bO rfl) (hpl:Pl C es pos:=by exact de rfl):Ej C (eF vC ma) (.Call (.Name "min" p) (e::es) [] pos):=gx (Oq hc) SA hm (by decide +kernel) h hg (he:=he) (hpl:=hpl)
theorem Fx (hc:C.X.calm=true) (hm:C.X.mg "all" = none) (h:Aj C ma (e::es)) (hg:Gl C.X "all":=by rfl) (he:Se C e es:=by exact bO rfl) (hpl:Pl C es pos:=by exact de rfl):Ej C (eF qH ma) (.Call (.Name "all" p) (e::es) [] pos):=gx (cr_all hc) KA hm (by decide +kernel) h hg (he:=he) (hpl:=hpl)
theorem SU (hc:C.X.calm=true) (hm:C.X.mg "any" = none) (h:Aj C ma (e::es)) (hg:Gl C.X "any":=by rfl) (he:Se C e es:=by exact bO rfl) (hpl:Pl C es pos:=by exact de rfl):Ej C (eF A9 ma) (.Call (.Name "any" p) (e::es) [] pos):=gx (cr_any hc) JO hm (by decide +kernel) h hg (he:=he) (hpl:=hpl)
theorem Tr (hc:C.X.calm=true) (hm:C.X.mg "sum" = none) (h:Aj C ma (e::es)) (hg:Gl C.X "sum":=by rfl) (he:Se C e es:=by exact bO rfl) (hpl:Pl C es pos:=by exact de rfl):Ej C (eF ES ma) (.Call (.Name "sum" p) (e::es) [] pos):=gx (cr_sum hc) Sa hm (by decide +kernel) h hg (he:=he) (hpl:=hpl)
theorem fQ (hm:C.X.mg "int" = none) (h:Aj C ma (e::es)) (hg:Gl C.X "int":=by rfl) (he:Se C e es:=by exact bO rfl) (hpl:Pl C es pos:=by exact de rfl):Ej C (eF kE ma) (.Call (.Name "int" p) (e::es) [] pos):=uf Sw RO hm boot_int h hg (he:=he) (hpl:=hpl)
theorem OS (hm:C.X.mg "str" = none) (h:Aj C ma (e::es)) (hg:Gl C.X "str":=by rfl) (he:Se C e es:=by exact bO rfl) (hpl:Pl C es pos:=by exact de rfl):Ej C (eF Ho ma) (.Call (.Name "str" p) (e::es) [] pos):=uf call_str_int RG hm (by decide +kernel) h hg (he:=he) (hpl:=hpl)
theorem iN (hm:C.X.mg "tuple" = none) (h:Aj C ma (e::es)) (hg:Gl C.X "tuple":=by rfl) (he:Se C e es:=by exact bO rfl) (hpl:Pl C es pos:=by exact de rfl):Ej C (eF hX ma) (.Call (.Name "tuple" p) (e::es) [] pos):=uf DG Ms hm (by decide +kernel) h hg (he:=he) (hpl:=hpl)
end
section
variable {C:Kx} {a b c d e tg iter:Expr} {es:List Expr} {pos p:Pos} {x y z u:Str} {ma:MA} {m me:M} {K:Fr}
def tY (sl:av):List Nat→List D→av
 | j::js,d::ds=>tY (sl.set j (some d)) js ds
 | _,_=>sl
def qJ (js:List Nat) (ma:MA):MS:=fun sl S=>(ma sl S).st sl fun ds S1=>if ds.length=js.length then .nx (tY sl js ds) S1 else .no
theorem HN {F:Hp} {R:List Addr} {vs:List V} {ds:List D} (h:aF K F R vs ds) (hl:ds.length=2):∃ v w d e,vs=[v,w]∧ds=[d,e]∧aP K F R v d∧aP K F R w e:=by
 cases h with
 | nil=>cases hl
 | cons h t =>
  cases t with
  | nil=>cases hl
  | cons h2 t =>
   cases t with
   | nil=>exact⟨_,_,_,_,rfl,rfl,h,h2⟩
   | cons h3 t=>simp at hl
theorem U4 {F:Hp} {R:List Addr} {vs:List V} {ds:List D} (h:aF K F R vs ds) (hl:ds.length=3):∃ v w u d e f,vs=[v,w,u]∧ds=[d,e,f]∧aP K F R v d∧aP K F R w e∧aP K F R u f:=by
 cases h with
 | nil=>cases hl
 | cons h t =>
  obtain⟨w,u,e,f,rfl,rfl,h2,h3⟩:=HN t (by simpa using hl)
  exact⟨_,_,_,_,_,_,rfl,rfl,h,h2,h3⟩
theorem XS {F:Hp} {R:List Addr} {vs:List V} {ds:List D} (h:aF K F R vs ds) (hl:ds.length=4):∃ v w u t d e f g,vs=[v,w,u,t]∧ds=[d,e,f,g]∧aP K F R v d∧aP K F R w e∧aP K F R u f∧aP K F R t g:=by
 cases h with
 | nil=>cases hl
 | cons h t =>
  obtain⟨w,u,s,e,f,g,rfl,rfl,h2,h3,h4⟩:=U4 t (by simpa using hl)
  exact⟨_,_,_,_,_,_,_,_,rfl,rfl,h,h2,h3,h4⟩
abbrev Lo (C:Kx) (x:Str):Prop:=C.X.env.scope.names.lookup x=some .local
theorem nj (i j:Nat) {px py pt:Pos} {kt k2 yD} (hc:C.X.calm=true) (hN:C.X.N.Nodup) (h:Aj C ma [a,b]) (hi:C.X.N[i]?=some x:=by rfl) (hj:C.X.N[j]?=some y:=by rfl) (Rm:i≠j:=by decide) (hx:Lo C x:=by rfl) (hy:Lo C y:=by rfl)
  (hw:swappedStores [.Tuple [.Name x px, .Name y py] kt pt] (.Tuple [a,b] k2 yD) C.X.env=pure (some [x,y]):=by rfl)
  (nX:swapsWithSole [.Tuple [.Name x px, .Name y py] kt pt] (.Tuple [a,b] k2 yD) pos.line C.X.env=pure false:=by rfl):zl C (qJ [i,j] ma) (.Assign [.Tuple [.Name x px, .Name y py] kt pt] (.Tuple [a,b] k2 yD) pos):=.mk fun sl S σ F R H hs hr D post =>
 yC.of (ps_par hc hN hi hj Rm hx hy eY hw nX) (h sl S σ F R H hs hr _ (bM.bind post hs fun ds S1 vs F1 R1 H1 _ rx rep1 s1 r1 mx ah=>by
  by_cases hl:ds.length=2
  · have ah:=(if_pos (c:=ds.length=[i,j].length) hl) ▸ ah
    obtain⟨v,w,d,e,rfl,rfl,h1,h2⟩:=HN rx hl
    exact⟨v,w,rfl,ah _ F1 R1 H1 ((mx.set h1).set h2) rep1 (Same.refl _) aI⟩
  · have ah:=(if_neg (c:=ds.length=[i,j].length) hl) ▸ ah
    exact ah.elim))
theorem Nf (i j l:Nat) {px py pz pt:Pos} {kt k2 yD} (hc:C.X.calm=true) (hN:C.X.N.Nodup) (h:Aj C ma [a,b,c]) (hi:C.X.N[i]?=some x:=by rfl) (hj:C.X.N[j]?=some y:=by rfl) (hk:C.X.N[l]?=some z:=by rfl) (Rm:i≠j:=by decide) (RI:i≠l:=by decide) (hjl:j≠l:=by decide) (hx:Lo C x:=by rfl) (hy:Lo C y:=by rfl) (hz:Lo C z:=by rfl)
  (hw:swappedStores [.Tuple [.Name x px, .Name y py, .Name z pz] kt pt] (.Tuple [a,b,c] k2 yD) C.X.env=pure (some [x,y,z]):=by rfl)
  (nX:swapsWithSole [.Tuple [.Name x px, .Name y py, .Name z pz] kt pt] (.Tuple [a,b,c] k2 yD) pos.line C.X.env=pure false:=by rfl):zl C (qJ [i,j,l] ma) (.Assign [.Tuple [.Name x px, .Name y py, .Name z pz] kt pt] (.Tuple [a,b,c] k2 yD) pos):=.mk fun sl S σ F R H hs hr D post =>
 yC.of (ps_par3 hc hN hi hj hk Rm RI hjl hx hy hz eY hw nX) (h sl S σ F R H hs hr _ (bM.bind post hs fun ds S1 vs F1 R1 H1 _ rx rep1 s1 r1 mx ah=>by
  by_cases hl:ds.length=3
  · have ah:=(if_pos (c:=ds.length=[i,j,l].length) hl) ▸ ah
    obtain⟨v,w,u,d,e,f,rfl,rfl,h1,h2,h3⟩:=U4 rx hl
    exact⟨v,w,u,rfl,ah _ F1 R1 H1 (((mx.set h1).set h2).set h3) rep1 (Same.refl _) aI⟩
  · have ah:=(if_neg (c:=ds.length=[i,j,l].length) hl) ▸ ah
    exact ah.elim))
theorem bQ.own {G F H:Hp} {R:List Addr} {S:ag} {q:Addr} {o:HO} (h:bQ K G F R S H) (n:H q=none):bQ K G F R S (upd H q o):=h.grow (bx.own h.sub n)
abbrev Xs (C:Kx) (x:Str):Prop:=C.X.fn x=true∨C.X.env.scope.names.lookup x=some .local
theorem L5 (i j l n:Nat) {px py pz pu pt:Pos} {kt k2 yD} (hc:C.X.calm=true) (hN:C.X.N.Nodup) (h:Aj C ma [a,b,c,d]) (hi:C.X.N[i]?=some x:=by rfl) (hj:C.X.N[j]?=some y:=by rfl) (hk:C.X.N[l]?=some z:=by rfl) (hn:C.X.N[n]?=some u:=by rfl) (hx:Loc C.X.env.scope x:=by first | exact Or.inl rfl | exact Or.inr rfl) (hy:Loc C.X.env.scope y:=by first | exact Or.inl rfl | exact Or.inr rfl) (hz:Loc C.X.env.scope z:=by first | exact Or.inl rfl | exact Or.inr rfl) (hu:Loc C.X.env.scope u:=by first | exact Or.inl rfl | exact Or.inr rfl)
  (fx:Xs C x:=by first | exact .inl rfl | exact .inr rfl) (fy:Xs C y:=by first | exact .inl rfl | exact .inr rfl) (fz:Xs C z:=by first | exact .inl rfl | exact .inr rfl) (fu:Xs C u:=by first | exact .inl rfl | exact .inr rfl) (hw:swappedStores [.Tuple [.Name x px, .Name y py, .Name z pz, .Name u pu] kt pt] (.Tuple [a,b,c,d] k2 yD) C.X.env=pure none:=by rfl)
  (nX:swapsWithSole [.Tuple [.Name x px, .Name y py, .Name z pz, .Name u pu] kt pt] (.Tuple [a,b,c,d] k2 yD) pos.line C.X.env=pure false:=by rfl):zl C (qJ [i,j,l,n] ma) (.Assign [.Tuple [.Name x px, .Name y py, .Name z pz, .Name u pu] kt pt] (.Tuple [a,b,c,d] k2 yD) pos):=.mk fun sl S σ F R H hs hr D post =>
 yC.of (ps_asg (pe_tup eY) (pg_tup hc (pgs_cons (pg_name hN hi hx fx) (pgs_cons (pg_name hN hj hy fy) (pgs_cons (pg_name hN hk hz fz) (pgs_cons (pg_name hN hn hu fu) pgs_nil))))) nX hw) (h sl S σ F R H hs hr _ (bM.bind post hs fun ds S1 vs F1 R1 H1 _ rx rep1 s1 r1 mx ah=>by
  by_cases hl:ds.length=4
  · have ah:=(if_pos (c:=ds.length=[i,j,l,n].length) hl) ▸ ah
    obtain⟨v,w,u,t,d,e,f,g,rfl,rfl,h1,h2,h3,h4⟩:=XS rx hl
    refine⟨by show 4≤sizeLine; decide,fun p hp=>⟨p,[v,w,u,t],rfl, .inl (.inl upd_same),rfl,v,_,rfl,w,_,rfl,u,_,rfl,t,_,rfl,rfl,?_⟩⟩
    exact ah _ F1 R1 _ ((((mx.set h1).set h2).set h3).set h4) (rep1.own hp) (Same.refl _) aI
  · have ah:=(if_neg (c:=ds.length=[i,j,l,n].length) hl) ▸ ah
    exact ah.elim))
theorem Qx {m:M} {t:TE} (hp:PT C.X e (tTest t)) (h:∀ sl S σ F R H,SlR C.K C.px F R σ sl→bQ C.K C.G F R S H→∀ Q:VK,aK C σ F R (aP C.K) Q (m sl S)→t σ H Q):Tj C (fun sl S=>(m sl S).bind IX) e:=.mk fun sl S σ F R H hs hr Q post=>by
 have Kh:aK C σ F R (aP C.K) (fun x H'=>∃ k,x=.bl k∧Q k H') (m sl S):=aK.bind post fun d S1 x F1 R1 H1 _ rx rep1 s1 r1 ah=>by
  cases d with
  | ref n=>exact ah.elim
  | p q =>
   cases q <;> first | exact ah.elim | skip
   cases rx
   exact⟨_,rfl,ah.okv rfl rep1⟩
 exact TD.of hp (h sl S σ F R H hs hr _ Kh)
def Um (f g:Int→Int→Bool) (m1 m2 m3:M):MT:=fun sl S=>(Nb f g m1 m2 m3 sl S).bind IX
theorem KL {op RK:CmpOp} {f g:Int→Int→Bool} {m1 m2 m3:M} (ho:OpR C.X (compareOp op) (rI0 fun i j=>.bl (f i j))) (ho':OpR C.X (compareOp RK) (rI0 fun i j=>.bl (g i j))) (h1:Ej C m1 a) (h2:Ej C m2 b) (h3:Ej C m3 c)
  (hm:lastMarks [op,RK] [b,c]=false:=by with_unfolding_all rfl):Tj C (Um f g m1 m2 m3) (.Compare a [op,RK] [b,c] pos):=Qx (pt_chain ho ho' bu bu bu hm) fun sl S σ F R H hs hr Q post =>
 h1 sl S σ F R H hs hr _ (aK.bind post fun d1 S1 x F1 R1 H1 _ rx rep1 s1 r1 ah=>h2 sl S1 σ F1 R1 H1 (hs.mono s1 r1) rep1 _ (aK.bind ah fun d2 S2 y F2 R2 H2 _ ry rep2 s2 r2 post2=>by
  obtain⟨i,rfl,post2⟩:=mQ (rx.mono s2 r2) rep2 post2
  obtain⟨j,rfl,post2⟩:=mQ ry rep2 post2
  refine⟨i,j,rfl,rfl,f i j,rfl,?_⟩
  cases hf:f i j with
  | false =>
   rw[hf] at post2
   show Q (.bl false) H2
   exact aK.okv (show aK C σ F2 R2 (aP C.K) Q (.ok (.p (.bl false)) S2) from post2) (show aP C.K F2 R2 (.bl false) (.p (.bl false)) from .bl _) rep2
  | true =>
   rw[hf] at post2
   show ED C.X c σ H2 _
   have post2:aK C σ F2 R2 (aP C.K) Q ((m3 sl S2).bind fun d3 S3=>(zu S3 d3).bind fun k S3=>.ok (.p (.bl (g j k))) S3):=post2
   refine h3 sl S2 σ F2 R2 H2 ((hs.mono s1 r1).mono s2 r2) rep2 _ (aK.bind post2 fun d3 S3 z F3 R3 H3 _ rz rep3 s3 r3 post3=>?_)
   obtain⟨k,rfl,post3⟩:=mQ rz rep3 post3
   exact⟨j,k,rfl,rfl,post3.okv (show aP C.K F3 R3 (.bl (g j k)) (.p (.bl (g j k))) from .bl _) rep3⟩))
theorem wj {m1 m2 m3:M} (h1:Ej C m1 a) (h2:Ej C m2 b) (h3:Ej C m3 c) (hm:lastMarks [.LtE, .LtE] [b,c]=false:=by with_unfolding_all rfl):Tj C (Um (fun i j=>decide (i≤j)) (fun i j=>decide (i≤j)) m1 m2 m3) (.Compare a [.LtE, .LtE] [b,c] pos):=KL op_le op_le h1 h2 h3 hm
end
end Z
theorem L2.Room.u65 {k:Nat} {A:PySem.Around} (r:L2.Room k A):A.units+65 < PySem.cLine:=by have:=r.un; omega
namespace Z
open PySem PySem.Spec PyProof.Rows L2
def N5 (K:PySem.W.Frag) (a:Addr):It :=
 ⟨fun i H=>∃ (xs:List V) (x:V),SqT K H a xs∧xs[i]?=some x,fun i H v H'=>∃ T o x,v=.ref T∧H T=none∧o.dict=none∧H'=upd H T (.frz o (.tup [.int (i:Nat),x]))∧∀ xs,SqT K H a xs→xs[i]?=some x,fun i H=>∃ xs:List V,SqT K H a xs∧xs.length=i⟩
theorem ku {P:Program} {w:World} {K:PySem.W.Frag} {elts:List Expr} {kk:Nat} {tpos:Pos} (a e it:Addr) (IW:e≠a) (IZ:a≠it) :
  Turn P w K (.Tuple elts kk tpos) (N5 K a) [e,it] e (fun i h=>(∃ old,IsEnum h e it ((i:Nat):Int) old)∧h.IsTupleIter it a i∧e≠it) where
 mem:=by simp
 obj:=fun i h st b hb=>by
  obtain⟨⟨old,he⟩,⟨o,ho,hc,hd⟩,_⟩:=st
  have e':b=e∨b=it:=by simpa using hb
  rcases e' with z | z
  · rw[z]; exact⟨_,he,fun v q=>nomatch q⟩
  · rw[z]; exact⟨o,ho,fun v q=>by rw[hd] at q; cases q⟩
 keep:=fun i h h' st k=>let ⟨⟨old,he⟩,hi,fe⟩:=st; ⟨⟨old,k e (by simp) _ he⟩,hi.at fun o q=>k it (by simp) o q,fe⟩
 item:=by
  intro X hP hw hK hc i pins s σ H E I hf st hg
  subst hP hw hK
  obtain⟨⟨old,he⟩,hit,fe⟩:=st
  obtain⟨xs,x,hq,hx⟩:=hg
  obtain⟨its,rv,p,hz⟩:=I.tuple hq
  obtain⟨u,hu,ru⟩:=rv.get hx
  have So:e < s.heap.objs.size:=Heap.lt_size he
  have RI:it < s.heap.objs.size:=by obtain⟨_,q,_⟩:=hit; exact Heap.lt_size q
  have kO:i < its.toArray.size:=by
   rw[List.size_toArray]
   exact (List.getElem?_eq_some_iff.mp hu).1
  refine wpAny_pyNext_enum_itemC (Draws.tuple (A:=X.A.in1) (I.ok.hd hc) it a IZ its.toArray) he ⟨hit,p⟩ kO fe (by simp; exact⟨fe,IW⟩) fun x' h' tk hP ho hst hT hsz hk=>?_
  have ex:x'=u:=by
   have:its.toArray[i]?=some u:=by simpa using hu
   rw[hP] at this; exact Option.some.inj this
  subst ex
  obtain⟨uC,_⟩:=hst
  refine⟨_,rfl,wpAny_letOwnedTupleGo_enum (s:={ s with heap:=h',toks:=tk+1 }) ho fun Ai Fg sb=>?_⟩
  have UV:Ai.get? s.heap.objs.size=some { cls:=.type "tuple",data:=.seq #[.int i tk,x'] }:=(sb.2 _ (Nat.ne_of_gt So)).trans hT
  have new:ObjOk X.prog X.w (upd H s.heap.objs.size (.frz { cls:=.type "tuple",data:=.seq #[.int i tk,x'] } (.tup [.int (i:Nat),x]))) Ai s.heap.objs.size (.frz { cls:=.type "tuple",data:=.seq #[.int i tk,x'] } (.tup [.int (i:Nat),x])) :=
   ⟨UV,by show 2≤sizeLine; decide,[.int i tk,x'], .cons ⟨_,rfl⟩ (.cons ru .nil),⟨_,UV,rfl,_,rfl⟩⟩
  have I1:Inv X pins σ (upd H s.heap.objs.size (.frz { cls:=.type "tuple",data:=.seq #[.int i tk,x'] } (.tup [.int (i:Nat),x]))) { s with heap:=Ai,toks:=tk+1 } :=
   I.turnedNew (ch:=[e,it]) (fun b ob hb q=>(sb.2 b (fun z=>hb (by simp[z]))).trans (hk b ob (fun z=>hb (by simp[z])) (fun z=>hb (by simp[z])) q)) hf (Nat.le_refl _) new
  refine⟨.ref s.heap.objs.size,_,I1,rfl,⟨_,_,x,rfl,I.hok.fresh (Nat.le_refl _),rfl,rfl,fun ys hy=>by rw[I.tuple_inj hy hq]; exact hx⟩,⟨⟨x',?_⟩,uC.at fun o q=>(sb.2 it (Ne.symm fe)).trans q,fe⟩,fun b hb=>?_⟩
  · have e1:((i+1:Nat):Int)=(i:Int)+1:=by omega
    rw[e1]; exact Fg
  · have hb':b < s.heap.objs.size:=by
     have e':b=e∨b=it:=by simpa using hb
     rcases e' with z | z
     · rw[z]; exact So
     · rw[z]; exact RI
    rw[upd_ne (Nat.ne_of_lt hb')]
    exact (hf b hb).1
 done:=by
  intro X hP hw hK hc i pins s σ H E I hf st hg
  subst hP hw hK
  obtain⟨⟨old,he⟩,hit,fe⟩:=st
  obtain⟨xs,hq,hx⟩:=hg
  obtain⟨its,rv,p,hz⟩:=I.tuple hq
  obtain⟨f0,f1,f2,f3,f4,f5⟩:=hf it (by simp)
  have hl:=rv.length
  have hn:i=its.toArray.size:=by rw[List.size_toArray,← hl,hx]
  exact wpAny_pyNext_enum_endD (Draws.tuple (A:=X.A.in1) (I.ok.hd hc) it a IZ its.toArray) he (by rw[← hn]; exact⟨hit,p⟩) fun h' eb=>⟨rfl,I.turned (t':=s.toks) (fun b o hb q=>eb b o hb q) f0 f1 f3 f4 f5⟩
 self:=fun A i s Q E st h=>let ⟨⟨_,he⟩,_⟩:=st; wpAny_pyIter_enum he h
open AutoSeq1 (wpAny_loadPart') in
set_option maxHeartbeats 4000000 in
theorem pE {v:Value} {o:Obj} {H:Heap→Prop} (B:Begins v o H) :
  Meets (Builtin.«enumerate.__new__» ⟨[.type "enumerate",v],[]⟩) (fun _ R s=>H s.heap ∧
   R (.ok (.ret (.ref (s.heap.push o).objs.size))) { s with heap:=(s.heap.push o).push { cls:=.type "enumerate",data:=.fields #[.none, .bool false, .ref s.heap.objs.size,rawInt 0, .none, .none] } }) :=
 .of_wp fun prog w A R s h=>by
  obtain⟨hp,g,d,tk,os⟩:=s; obtain⟨h1,h⟩:=h
  have BC:=sub_enumerate
  have q1:∀ {A':Around} {E:Value→Shared→Prop} {Q:Value→Shared→Prop},Q (.ref hp.objs.size) ⟨hp.push o,g,d,tk,os⟩→wpAny (model prog w) A' (pyIter v) Q E ⟨hp,g,d,tk,os⟩ :=
   fun q=>B.iter prog w _ _ ⟨hp,g,d,tk,os⟩ _ h1 q
  wp_walk using q1
  refine wpAny_stack_any fun st=>wpAny_pure ?_
  split
  · rename_i c _ _ _ _ _
    cases (c == Value.type "enumerate")
    · wp_walk using q1
      exact⟨_,rfl,h⟩
    · wp_walk using q1
      exact⟨_,rfl,h⟩
  · wp_walk using q1
    exact⟨_,rfl,h⟩
theorem jn {prog:Program} {w:World} {A:Around} {E:Value→Shared→Prop} {s:Shared} {v:Value} {o:Obj} {H:Heap→Prop} {Q:Value→Shared→Prop} (B:Begins v o H) (h1:H s.heap)
  (h:∀ h',IsEnum h' (s.heap.objs.size+1) s.heap.objs.size 0 .none→h'.get? s.heap.objs.size=some o→h'.objs.size=s.heap.objs.size+2 →
   (∀ b o,s.heap.get? b=some o→h'.get? b=some o)→Q (.ref (s.heap.objs.size+1)) { s with heap:=h' }) :
  wpAny (model prog w) A (call (.type "enumerate") [v]) Q E s:=by
 refine callType_new F.called_enumerate (by decide) (F.typeCall_enumerate_1 _) (F.newCall_enumerate_1 _) (fun obj=>F.args_object_init_2 obj _) F.entry_enumerate_new
  (pE B) ⟨h1,?_⟩
 have hz:(s.heap.push o).objs.size=s.heap.objs.size+1:=Heap.size_push ..
 show _∧_
 rw[hz]
 have he:IsEnum ((s.heap.push o).push { cls:=.type "enumerate",data:=.fields #[.none, .bool false, .ref s.heap.objs.size,rawInt 0, .none, .none] }) (s.heap.objs.size+1) s.heap.objs.size 0 .none:=by
  have:=Heap.get?_push_size (s.heap.push o) (o:={ cls:=.type "enumerate",data:=.fields #[.none, .bool false, .ref s.heap.objs.size,rawInt 0, .none, .none] }) rfl
  rw[hz] at this; exact this
 refine⟨⟨_,he,rfl⟩,h _ he (Heap.get?_push_of_some _ (Heap.get?_push_size _ B.free)) (by rw[Heap.size_push,hz]) fun b o x=>Heap.get?_push_of_some _ (Heap.get?_push_of_some _ x)⟩
def Ov (K:PySem.W.Frag) (a:Addr):It :=
 ⟨(Ite K a).go,fun i H v H'=>∃ T o x,v=.ref T∧H T=none∧o.dict=none∧H'=upd H T (.frz o (.tup [.int (i:Nat),x]))∧∀ xs,SqL K H a xs→xs[i]?=some x,(Ite K a).stop⟩
theorem kZ {P:Program} {w:World} {K:PySem.W.Frag} {elts:List Expr} {kk:Nat} {tpos:Pos} (a e it:Addr) :
  Turn P w K (.Tuple elts kk tpos) (Ov K a) [e,it] e (fun i h=>(∃ old,IsEnum h e it ((i:Nat):Int) old)∧h.IsListIter it a i∧e≠it) where
 mem:=(turn_enum (P:=P) (w:=w) (K:=K) (elts:=elts) (kk:=kk) (tpos:=tpos) a e it).mem
 obj:=(turn_enum (P:=P) (w:=w) (K:=K) (elts:=elts) (kk:=kk) (tpos:=tpos) a e it).obj
 keep:=(turn_enum (P:=P) (w:=w) (K:=K) (elts:=elts) (kk:=kk) (tpos:=tpos) a e it).keep
 done:=(turn_enum (P:=P) (w:=w) (K:=K) (elts:=elts) (kk:=kk) (tpos:=tpos) a e it).done
 self:=(turn_enum (P:=P) (w:=w) (K:=K) (elts:=elts) (kk:=kk) (tpos:=tpos) a e it).self
 item:=by
  intro X hP hw hK hc i pins s σ H E I hf st hg
  subst hP hw hK
  obtain⟨⟨old,he⟩,hit,fe⟩:=st
  obtain⟨xs,x,hq,hx⟩:=hg
  obtain⟨its,rv,p,hz⟩:=I.list hq
  obtain⟨u,hu,ru⟩:=rv.get hx
  have le:=Heap.lt_size he
  have li:it < s.heap.objs.size:=let ⟨_,q,_⟩:=hit; Heap.lt_size q
  refine wpAny_pyNext_enum_item he hit p.isList (x:=u) (by simpa using hu) fe fun h' ho uC hT hsz hk=>⟨_,rfl,wpAny_letOwnedTupleGo_enum (s:={ s with heap:=h',toks:=s.toks+1 }) ho fun Ai Fg sb=>?_⟩
  have ht:=(sb.2 _ (Nat.ne_of_gt le)).trans hT
  have nw:ObjOk X.prog X.w (upd H s.heap.objs.size (.frz { cls:=.type "tuple",data:=.seq #[.int i s.toks,u] } (.tup [.int (i:Nat),x]))) Ai s.heap.objs.size (.frz { cls:=.type "tuple",data:=.seq #[.int i s.toks,u] } (.tup [.int (i:Nat),x])) :=
   ⟨ht,by show 2≤sizeLine; decide,_, .cons ⟨_,rfl⟩ (.cons ru .nil),⟨_,ht,rfl,_,rfl⟩⟩
  refine⟨.ref s.heap.objs.size,_,I.turnedNew (t':=s.toks+1) (ch:=[e,it]) (fun b ob hb q=>?_) hf (Nat.le_refl _) nw,rfl,⟨_,_,x,rfl,I.hok.fresh (Nat.le_refl _),rfl,rfl,fun ys hy=>by rw[I.list_inj hy hq]; exact hx⟩,⟨⟨u,?_⟩,uC.at fun o q=>(sb.2 it (Ne.symm fe)).trans q,fe⟩,fun b hb=>?_⟩
  · exact (sb.2 b (fun z=>hb (by simp[z]))).trans (hk b ob (fun z=>hb (by simp[z])) (fun z=>hb (by simp[z])) q)
  · rw[show ((i+1:Nat):Int)=(i:Int)+1 by omega]; exact Fg
  · rw[upd_ne (Nat.ne_of_lt (by
     have e':b=e∨b=it:=by simpa using hb
     rcases e' with z | z
     · rw[z]; exact le
     · rw[z]; exact li))]
    exact (hf b hb).1
def OI (K:PySem.W.Frag) (a b:Addr):It :=
 ⟨(Itz K a b).go,fun i H v H'=>∃ T o x y,v=.ref T∧H T=none∧o.dict=none∧H'=upd H T (.frz o (.tup [x,y]))∧(∀ xs,SqL K H a xs→xs[i]?=some x)∧∀ ys,SqL K H b ys→ys[i]?=some y,(Itz K a b).stop⟩
def Gm (K:PySem.W.Frag) (a b:Addr):It :=
 ⟨(RZ.ItzT K a b).go,fun i H v H'=>∃ T o x y,v=.ref T∧H T=none∧o.dict=none∧H'=upd H T (.frz o (.tup [x,y]))∧(∀ xs,SqT K H a xs→xs[i]?=some x)∧∀ ys,SqT K H b ys→ys[i]?=some y,(RZ.ItzT K a b).stop⟩
theorem mJ {P:Program} {w:World} {K:PySem.W.Frag} {elts:List Expr} {kk:Nat} {tpos:Pos} {a b z TI TO i1 i2:Addr} (D:ZipApart z TI TO i1 i2 a b) :
  Turn P w K (.Tuple elts kk tpos) (OI K a b) [z,TI,TO,i1,i2] z (fun i h=>IsZip h z TI TO .none∧IsPair h TI (.ref i1) (.ref i2)∧(∃ x y,IsPair h TO x y)∧h.IsListIter i1 a i∧h.IsListIter i2 b i) where
 mem:=(turn_zip (P:=P) (w:=w) (K:=K) (elts:=elts) (kk:=kk) (tpos:=tpos) D).mem
 obj:=(turn_zip (P:=P) (w:=w) (K:=K) (elts:=elts) (kk:=kk) (tpos:=tpos) D).obj
 keep:=(turn_zip (P:=P) (w:=w) (K:=K) (elts:=elts) (kk:=kk) (tpos:=tpos) D).keep
 done:=(turn_zip (P:=P) (w:=w) (K:=K) (elts:=elts) (kk:=kk) (tpos:=tpos) D).done
 self:=(turn_zip (P:=P) (w:=w) (K:=K) (elts:=elts) (kk:=kk) (tpos:=tpos) D).self
 item:=by
  intro X hP hw hK hc i pins s σ H E I hf st hg
  subst hP hw hK
  obtain⟨hz,pN,⟨x0,y0,qR⟩,h1,h2⟩:=st
  obtain⟨xs,ys,x,y,hqx,hqy,hx,hy⟩:=hg
  obtain⟨its,rv,p,_⟩:=I.list hqx
  obtain⟨yE,EF,p2,_⟩:=I.list hqy
  obtain⟨u,hu,ru⟩:=rv.get hx
  obtain⟨u2,hu2,Jg⟩:=EF.get hy
  have lz:=Heap.lt_size hz
  refine wpAny_pyNext_zip_item D hz pN qR h1 h2 p.isList p2.isList (x:=u) (y:=u2) (by simpa using hu) (by simpa using hu2) fun h' z' TO' zm IU hT hsz hk=>⟨_,rfl,wpAny_letOwnedTupleGo_zip (s:={ s with heap:=h' }) z' fun Ai T7 sb=>?_⟩
  have ht:=(sb.2 _ (Nat.ne_of_gt lz)).trans hT
  have nw:ObjOk X.prog X.w (upd H s.heap.objs.size (.frz { cls:=.type "tuple",data:=.seq #[u,u2] } (.tup [x,y]))) Ai s.heap.objs.size (.frz { cls:=.type "tuple",data:=.seq #[u,u2] } (.tup [x,y])) :=
   ⟨ht,by show 2≤sizeLine; decide,_, .cons ru (.cons Jg .nil),⟨_,ht,rfl,_,rfl⟩⟩
  refine⟨.ref s.heap.objs.size,_,I.turnedNew (t':=s.toks) (ch:=[z,TI,TO,i1,i2]) (fun c o hb q=>?_) hf (Nat.le_refl _) nw,rfl,⟨_,_,x,y,rfl,I.hok.fresh (Nat.le_refl _),rfl,rfl,fun l hl=>by rw[I.list_inj hl hqx]; exact hx,fun l hl=>by rw[I.list_inj hl hqy]; exact hy⟩,⟨T7,?_,⟨u,u2,?_⟩,?_,?_⟩,fun c E2=>?_⟩
  · exact (sb.2 c (fun q'=>hb (by simp[q']))).trans (hk c o (fun q'=>hb (by simp[q'])) (fun q'=>hb (by simp[q'])) (fun q'=>hb (by simp[q'])) (fun q'=>hb (by simp[q'])) q)
  · exact (sb.2 _ D.TIz).trans (hk _ _ D.TIz D.TITO D.TIi1 D.TIi2 pN)
  · exact (sb.2 _ D.TOz).trans TO'
  · exact zm.at fun o q=>(sb.2 _ D.i1z).trans q
  · exact IU.at fun o q=>(sb.2 _ D.i2z).trans q
  · rw[upd_ne (Nat.ne_of_lt (by
     have e':c=z∨c=TI∨c=TO∨c=i1∨c=i2:=by simpa using E2
     rcases e' with q | q | q | q | q
     · rw[q]; exact lz
     · rw[q]; exact Heap.lt_size pN
     · rw[q]; exact Heap.lt_size qR
     · rw[q]; obtain⟨_,e1,_⟩:=h1; exact Heap.lt_size e1
     · rw[q]; obtain⟨_,e2,_⟩:=h2; exact Heap.lt_size e2))]
    exact (hf c E2).1
theorem kB {P:Program} {w:World} {K:PySem.W.Frag} {elts:List Expr} {kk:Nat} {tpos:Pos} {a b z TI TO i1 i2:Addr} (D:ZipApart z TI TO i1 i2 a b) :
  Turn P w K (.Tuple elts kk tpos) (Gm K a b) [z,TI,TO,i1,i2] z (fun i h=>IsZip h z TI TO .none∧IsPair h TI (.ref i1) (.ref i2)∧(∃ x y,IsPair h TO x y)∧h.IsTupleIter i1 a i∧h.IsTupleIter i2 b i) where
 mem:=(RZ.turn_zipT (P:=P) (w:=w) (K:=K) (elts:=elts) (kk:=kk) (tpos:=tpos) D).mem
 obj:=(RZ.turn_zipT (P:=P) (w:=w) (K:=K) (elts:=elts) (kk:=kk) (tpos:=tpos) D).obj
 keep:=(RZ.turn_zipT (P:=P) (w:=w) (K:=K) (elts:=elts) (kk:=kk) (tpos:=tpos) D).keep
 done:=(RZ.turn_zipT (P:=P) (w:=w) (K:=K) (elts:=elts) (kk:=kk) (tpos:=tpos) D).done
 self:=(RZ.turn_zipT (P:=P) (w:=w) (K:=K) (elts:=elts) (kk:=kk) (tpos:=tpos) D).self
 item:=by
  intro X hP hw hK hc i pins s σ H E I hf st hg
  subst hP hw hK
  obtain⟨hz,pN,⟨x0,y0,qR⟩,h1,h2⟩:=st
  obtain⟨xs,ys,x,y,hqx,hqy,hx,hy⟩:=hg
  obtain⟨its,rv,p,_⟩:=I.tuple hqx
  obtain⟨yE,EF,p2,_⟩:=I.tuple hqy
  obtain⟨u,hu,ru⟩:=rv.get hx
  obtain⟨u2,hu2,Jg⟩:=EF.get hy
  have lz:=Heap.lt_size hz
  refine RZ.pyNext_zipT_item D hz pN qR h1 h2 p p2 (x:=u) (y:=u2) (by simpa using hu) (by simpa using hu2) fun h' z' TO' zm IU hT hsz hk=>⟨_,rfl,wpAny_letOwnedTupleGo_zip (s:={ s with heap:=h' }) z' fun Ai T7 sb=>?_⟩
  have ht:=(sb.2 _ (Nat.ne_of_gt lz)).trans hT
  have nw:ObjOk X.prog X.w (upd H s.heap.objs.size (.frz { cls:=.type "tuple",data:=.seq #[u,u2] } (.tup [x,y]))) Ai s.heap.objs.size (.frz { cls:=.type "tuple",data:=.seq #[u,u2] } (.tup [x,y])) :=
   ⟨ht,by show 2≤sizeLine; decide,_, .cons ru (.cons Jg .nil),⟨_,ht,rfl,_,rfl⟩⟩
  refine⟨.ref s.heap.objs.size,_,I.turnedNew (t':=s.toks) (ch:=[z,TI,TO,i1,i2]) (fun c o hb q=>?_) hf (Nat.le_refl _) nw,rfl,⟨_,_,x,y,rfl,I.hok.fresh (Nat.le_refl _),rfl,rfl,fun l hl=>by rw[I.tuple_inj hl hqx]; exact hx,fun l hl=>by rw[I.tuple_inj hl hqy]; exact hy⟩,⟨T7,?_,⟨u,u2,?_⟩,?_,?_⟩,fun c E2=>?_⟩
  · exact (sb.2 c (fun q'=>hb (by simp[q']))).trans (hk c o (fun q'=>hb (by simp[q'])) (fun q'=>hb (by simp[q'])) (fun q'=>hb (by simp[q'])) (fun q'=>hb (by simp[q'])) q)
  · exact (sb.2 _ D.TIz).trans (hk _ _ D.TIz D.TITO D.TIi1 D.TIi2 pN)
  · exact (sb.2 _ D.TOz).trans TO'
  · exact zm.at fun o q=>(sb.2 _ D.i1z).trans q
  · exact IU.at fun o q=>(sb.2 _ D.i2z).trans q
  · rw[upd_ne (Nat.ne_of_lt (by
     have e':c=z∨c=TI∨c=TO∨c=i1∨c=i2:=by simpa using E2
     rcases e' with q | q | q | q | q
     · rw[q]; exact lz
     · rw[q]; exact Heap.lt_size pN
     · rw[q]; exact Heap.lt_size qR
     · rw[q]; obtain⟨_,e1,_⟩:=h1; exact Heap.lt_size e1
     · rw[q]; obtain⟨_,e2,_⟩:=h2; exact Heap.lt_size e2))]
    exact (hf c E2).1
def Lx (K:PySem.W.Frag) (ta:TA):TI:=fun σ H R=>ta σ H fun vs H1=>∃ a b xs ys,vs=[.ref a, .ref b]∧((SqL K H1 a xs∧SqL K H1 b ys∧R (OI K a b) H1)∨(SqT K H1 a xs∧SqT K H1 b ys∧R (Gm K a b) H1))
theorem vJ {n c:Nat} (h:c∈[n+4,n+2,n+3,n,n+1]):n≤c:=by
 simp only[List.mem_cons,List.not_mem_nil,or_false] at h
 omega
theorem NU {X:Cx} {e e2:Expr} {ta:TA} {p pos tpos:Pos} {elts:List Expr} {kk:Nat} (hg:Gl X "zip") (hm:X.mg "zip" = none) (ha:PA X [e,e2] ta)
  (hs:starEach [e,e2] X.env=(false,eval e X.env)::starEach [e2] X.env:=by rfl) (hpl:(backTo pos (starEach [e2] X.env)).any (·.1)=false:=by rfl) :
  PI X (.Tuple elts kk tpos) (.Call (.Name "zip" p) [e,e2] [] pos) (Lx X.K ta):=by
 refine⟨fun pins s σ H R I h=>Call_ (ld_blt I hg hm PyProof.Rows.boot_zip (PyProof.Rows.callWith_type1 (thn (ha.run pos pins s σ H _ I h) fun us s1 ⟨vs,H1,I1,r1,q1⟩=>?_) hs hpl))⟩
 obtain⟨a,b,xs,ys,rfl,q1⟩:=q1
 obtain⟨u,S8,rfl,rr⟩:∃ u S8,us=u::S8∧Vals [.ref b] S8∧u=.ref a:=by
  cases r1 with
  | cons r rr=>exact⟨_,_,rfl,rr,r⟩
 obtain⟨rr,rfl⟩:=rr
 obtain⟨u2,rfl,r2⟩:=vals1 rr
 cases r2
 have fr:∀ c,c∈[s1.heap.objs.size+4,s1.heap.objs.size+2,s1.heap.objs.size+3,s1.heap.objs.size,s1.heap.objs.size+1]→FpOk X pins H1 c:=fun c hc=>I1.fpOk (vJ hc) (I1.hok.fresh (vJ hc))
 rcases q1 with ⟨hqx,hqy,q⟩ | ⟨hqx,hqy,q⟩
 · obtain⟨_,_,p1,_⟩:=I1.list hqx
   obtain⟨_,_,p2,_⟩:=I1.list hqy
   exact call_zip_2 p1.isList p2.isList fun h' hz pN qR h1 h2 hsz hk=>wpAny_pyIter_zip hz
    ⟨_,_,_,_,H1,rfl,I1.kept (t':=s1.toks) hk,mJ (PySem.W.ktu_apart s1.heap.objs.size a b p1.lt p2.lt),⟨hz,pN,⟨_,_,qR⟩,h1,h2⟩,fr,q⟩
 · obtain⟨_,_,p1,_⟩:=I1.tuple hqx
   obtain⟨_,_,p2,_⟩:=I1.tuple hqy
   obtain⟨o1,ZO,_⟩:=id p1
   obtain⟨o2,Yq,_⟩:=id p2
   exact RZ.call_zipT p1 p2 fun h' hz pN qR h1 h2 hsz hk=>wpAny_pyIter_zip hz
    ⟨_,_,_,_,H1,rfl,I1.kept (t':=s1.toks) hk,kB (PySem.W.ktu_apart s1.heap.objs.size a b (Heap.lt_size ZO) (Heap.lt_size Yq)),⟨hz,pN,⟨_,_,qR⟩,h1,h2⟩,fr,q⟩
def EC (K:PySem.W.Frag) (ta:TA):TI:=fun σ H R=>ta σ H fun vs H1=>(∃ a xs,vs=[.ref a]∧SqL K H1 a xs∧R (Ov K a) H1)∨∃ a xs,vs=[.ref a]∧SqT K H1 a xs∧R (N5 K a) H1
theorem mP {X:Cx} {e:Expr} {ta:TA} {p pos tpos:Pos} {elts:List Expr} {kk:Nat} (hg:Gl X "enumerate") (hm:X.mg "enumerate" = none) (ha:PA X [e] ta) (hs:starEach [e] X.env=[(false,eval e X.env)]:=by rfl) :
  PI X (.Tuple elts kk tpos) (.Call (.Name "enumerate" p) [e] [] pos) (EC X.K ta):=by
 refine⟨fun pins s σ H R I h=>?_⟩
 refine Call_ (ld_blt I hg hm boot_enumerate (PyProof.Rows.callWith_type1 (thn (ha.run pos pins s σ H _ I h) fun us s1 ⟨vs,H1,I1,r1,q1⟩=>?_) hs rfl))
 rcases q1 with ⟨a,xs,ex,hq,q⟩ | ⟨a,xs,ex,hq,q⟩
 · subst ex
   cases r1 with
   | cons r rr =>
    cases rr
    cases r
    obtain⟨its,rv,p',hz⟩:=I1.list hq
    refine call_enumerate_list p'.isList fun h' he hit hsz hk=>wpAny_pyIter_enum he ?_
    have I2:Inv X pins σ H1 { s1 with heap:=h' }:=I1.kept (t':=s1.toks) hk
    refine⟨s1.heap.objs.size+1,[s1.heap.objs.size+1,s1.heap.objs.size],_,_,H1,rfl,I2,kZ a (s1.heap.objs.size+1) s1.heap.objs.size,⟨⟨.none,he⟩,hit,Nat.succ_ne_self _⟩,fun b hb=>?_,q⟩
    have e':b=s1.heap.objs.size+1∨b=s1.heap.objs.size:=by simpa using hb
    have hle:s1.heap.objs.size≤b:=by
     rcases e' with z | z
     · rw[z]; exact Nat.le_add_right _ _
     · rw[z]; exact Nat.le_refl _
    exact I1.fpOk hle (I1.hok.fresh hle)
 · subst ex
   cases r1 with
   | cons r rr =>
    cases rr
    cases r
    obtain⟨its,rv,p',hz⟩:=I1.tuple hq
    have kO:a < s1.heap.objs.size:=by obtain⟨_,q,_⟩:=p'; exact Heap.lt_size q
    refine jn (begins_tuple a its.toArray) p' fun h' he hit hsz hk=>wpAny_pyIter_enum he ?_
    have I2:Inv X pins σ H1 { s1 with heap:=h' }:=I1.kept (t':=s1.toks) hk
    refine⟨s1.heap.objs.size+1,[s1.heap.objs.size+1,s1.heap.objs.size],_,_,H1,rfl,I2,ku a (s1.heap.objs.size+1) s1.heap.objs.size (Ne.symm (Nat.ne_of_lt (Nat.lt_succ_of_lt kO))) (Nat.ne_of_lt kO),⟨⟨.none,he⟩,⟨_,hit,rfl,rfl⟩,Nat.succ_ne_self _⟩,fun b hb=>?_,q⟩
    have e':b=s1.heap.objs.size+1∨b=s1.heap.objs.size:=by simpa using hb
    have hle:s1.heap.objs.size≤b:=by
     rcases e' with z | z
     · rw[z]; exact Nat.le_add_right _ _
     · rw[z]; exact Nat.le_refl _
    exact I1.fpOk hle (I1.hok.fresh hle)
def ig (ps:List P):List P:=ps.mapIdx fun i p=>.tup [.int (i:Int),p]
def rn (ps qs:List P):List P:=List.zipWith (fun p q=>.tup [p,q]) ps qs
section
variable {C:Kx} {a b e:Expr} {pos p:Pos} {m m1 m2:M} {K:Fr}
theorem vQ {F2 H2:Hp} {T:Addr} {ob:Obj} {x y:V} {p q:P} (s:Same F2 H2) (n:H2 T=none) (hd:ob.dict=none) (hx:Rp K F2 x p) (hy:Rp K F2 y q):∃ F',bx F2 H2 F' (upd H2 T (.frz ob (.tup [x,y])))∧Rp K F' (.ref T) (.tup [p,q]):=by
 have g:=bx.new (o:=.frz ob (.tup [x,y])) s n
 exact⟨_,g, .tup ⟨ob,upd_same,hd⟩ (.cons (Rp.mono g.sF _ _ hx) (.cons (Rp.mono g.sF _ _ hy) .nil))⟩
theorem Gg {F:Hp} {a:Addr} {xs:List V} {ds:List P} (h1:SqL K.K F a xs) (h2:ay K F xs ds):yL K (Ov K.K a) F (ig ds):=by
 refine⟨fun i d F2 H2 e s s2=>?_,fun F2 H2 s s2=>?_⟩
 · rw[ig,List.getElem?_mapIdx] at e
   cases hd:ds[i]? with
   | none=>rw[hd] at e; cases e
   | some p =>
    rw[hd] at e; cases e
    obtain⟨v,ev,rv⟩:=h2.get' hd
    have q:SqL K.K H2 a xs:=cF s2 (cF s h1)
    refine⟨⟨xs,v,q,ev⟩,fun x H' y=>?_⟩
    obtain⟨T,ob,x',rfl,hT,OJ,rfl,kQ⟩:=y
    have e1:=kQ xs q
    rw[ev] at e1; cases e1
    exact vQ s2 hT OJ (.int _) (Rp.mono s _ _ rv)
 · exact⟨xs,cF s2 (cF s h1),by rw[h2.length,ig,List.length_mapIdx]; exact Nat.le_refl _⟩
theorem CW {F:Hp} {a:Addr} {xs:List V} {ds:List P} (h1:SqT K.K F a xs) (h2:ay K F xs ds):yL K (N5 K.K a) F (ig ds):=by
 refine⟨fun i d F2 H2 e s s2=>?_,fun F2 H2 s s2=>?_⟩
 · rw[ig,List.getElem?_mapIdx] at e
   cases hd:ds[i]? with
   | none=>rw[hd] at e; cases e
   | some p =>
    rw[hd] at e; cases e
    obtain⟨v,ev,rv⟩:=h2.get' hd
    have q:SqT K.K H2 a xs:=aZ s2 (aZ s h1)
    refine⟨⟨xs,v,q,ev⟩,fun x H' y=>?_⟩
    obtain⟨T,ob,x',rfl,hT,OJ,rfl,kQ⟩:=y
    have e1:=kQ xs q
    rw[ev] at e1; cases e1
    exact vQ s2 hT OJ (.int _) (Rp.mono s _ _ rv)
 · exact⟨xs,aZ s2 (aZ s h1),by rw[h2.length,ig,List.length_mapIdx]⟩
def FW (m:M):MI:=fun sl S=>(m sl S).bind fun d S1=>match d with
 | .p (.lst ps)=>.ok (ig ps) S1
 | .p (.tup ps)=>.ok (ig ps) S1
 | .p (.scr ns)=>.ok (ig (ns.map .int)) S1
 | _=>.no
theorem ja (h:Ej C m a) (he:starEach [a] C.X.env=(false,eval a C.X.env)::starEach [] C.X.env:=by exact bO rfl):my C (EC C.X.K (AD C.X [a])) (FW m):=fun sl S σ F R H hs hr Q post =>
 AD.of (pa_cons bu pa_nil he) (h sl S σ F R H hs hr _ (aK.bind post fun d S1 v F1 R1 H1 _ rv rep1 s1 r1 ah=>by
  cases d with
  | ref n=>exact ah.elim
  | p q =>
   cases hv:rv with
   | lst h1 h2=>exact .inl ⟨_,_,rfl, .inl (.inl (rep1.sub _ _ h1)),ah.okv (Gg (.inl (.inl h1)) h2) rep1⟩
   | tup h1 h2=>exact .inr ⟨_,_,rfl,aZ (K:=C.K) rep1.sub h1.sq,ah.okv (CW (K:=C.K) h1.sq h2) rep1⟩
   | tupW h1 h2 _=>exact .inr ⟨_,_,rfl,aZ (K:=C.K) rep1.sub h1.sq,ah.okv (CW (K:=C.K) h1.sq h2) rep1⟩
   | scr h1=>exact .inl ⟨_,_,rfl,cF rep1.sub h1,ah.okv (Gg h1 (vR _)) rep1⟩
   | _=>exact ah.elim))
theorem T5 {F:Hp} {a b:Addr} {xs ys:List V} {ds es:List P} (h1:SqL K.K F a xs) (h2:ay K F xs ds) (h3:SqL K.K F b ys) (h4:ay K F ys es):yL K (OI K.K a b) F (rn ds es):=by
 refine⟨fun i d F2 H2 e s s2=>?_,fun F2 H2 s s2=>?_⟩
 · rw[rn,List.getElem?_zipWith] at e
   cases hd:ds[i]? with
   | none=>rw[hd] at e; cases e
   | some p =>
    cases hd2:es[i]? with
    | none=>rw[hd,hd2] at e; cases e
    | some q =>
     rw[hd,hd2] at e; cases e
     obtain⟨v,ev,rv⟩:=h2.get' hd
     obtain⟨w,ew,Oz⟩:=h4.get' hd2
     have q1:SqL K.K H2 a xs:=cF s2 (cF s h1)
     have q2:SqL K.K H2 b ys:=cF s2 (cF s h3)
     refine⟨⟨xs,ys,v,w,q1,q2,ev,ew⟩,fun x H' y=>?_⟩
     obtain⟨T,ob,x',y',rfl,hT,OJ,rfl,a1,a2⟩:=y
     have e1:=a1 xs q1
     have e2:=a2 ys q2
     rw[ev] at e1; cases e1
     rw[ew] at e2; cases e2
     exact vQ s2 hT OJ (Rp.mono s _ _ rv) (Rp.mono s _ _ Oz)
 · refine⟨xs,ys,cF s2 (cF s h1),cF s2 (cF s h3),?_⟩
   rw[h2.length,h4.length,rn,List.length_zipWith]
   omega
theorem Pk {F:Hp} {a b:Addr} {xs ys:List V} {ds es:List P} (h1:SqT K.K F a xs) (h2:ay K F xs ds) (h3:SqT K.K F b ys) (h4:ay K F ys es):yL K (Gm K.K a b) F (rn ds es):=by
 refine⟨fun i d F2 H2 e s s2=>?_,fun F2 H2 s s2=>?_⟩
 · rw[rn,List.getElem?_zipWith] at e
   cases hd:ds[i]? with
   | none=>rw[hd] at e; cases e
   | some p =>
    cases hd2:es[i]? with
    | none=>rw[hd,hd2] at e; cases e
    | some q =>
     rw[hd,hd2] at e; cases e
     obtain⟨v,ev,rv⟩:=h2.get' hd
     obtain⟨w,ew,Oz⟩:=h4.get' hd2
     have q1:SqT K.K H2 a xs:=aZ s2 (aZ s h1)
     have q2:SqT K.K H2 b ys:=aZ s2 (aZ s h3)
     refine⟨⟨xs,ys,v,w,q1,q2,ev,ew⟩,fun x H' y=>?_⟩
     obtain⟨T,ob,x',y',rfl,hT,OJ,rfl,a1,a2⟩:=y
     have e1:=a1 xs q1
     have e2:=a2 ys q2
     rw[ev] at e1; cases e1
     rw[ew] at e2; cases e2
     exact vQ s2 hT OJ (Rp.mono s _ _ rv) (Rp.mono s _ _ Oz)
 · refine⟨xs,ys,aZ s2 (aZ s h1),aZ s2 (aZ s h3),?_⟩
   rw[h2.length,h4.length,rn,List.length_zipWith]
   omega
def XG (m1 m2:M):MI:=fun sl S=>(m1 sl S).bind fun d S1=>(m2 sl S1).bind fun e S2=>match d,e with
 | .p (.lst ps), .p (.lst qs)=>.ok (rn ps qs) S2
 | .p (.tup ps), .p (.tup qs)=>.ok (rn ps qs) S2
 | _,_=>.no
theorem GU (h1:Ej C m1 a) (h2:Ej C m2 b) (he:starEach [a,b] C.X.env=(false,eval a C.X.env)::starEach [b] C.X.env:=by exact bO rfl) (he2:starEach [b] C.X.env=(false,eval b C.X.env)::starEach [] C.X.env:=by exact bO rfl):my C (Lx C.X.K (AD C.X [a,b])) (XG m1 m2):=fun sl S σ F R H hs hr Q post =>
 AD.of (pa_cons bu (pa_cons bu pa_nil he2) he) (h1 sl S σ F R H hs hr _ (aK.bind post fun d S1 v F1 R1 H1 _ rv rep1 s1 r1 ah=>h2 sl S1 σ F1 R1 H1 (hs.mono s1 r1) rep1 _ (aK.bind ah fun d2 S2 v2 F2 R2 H2 _ EF rep2 s2 r2 post2=>by
  have rv:=rv.mono s2 r2
  cases d with
  | ref n=>exact post2.elim
  | p q =>
   cases d2 with
   | ref n=>cases q <;> exact post2.elim
   | p q2 =>
    cases q with
    | lst ps =>
     cases q2 with
     | lst qs =>
      obtain⟨a,xs,rfl,g1,g2⟩:=(Vw.p (H:=H2) (show Rp C.K F2 v (.lst ps) from rv)).lstE rep2.sub
      obtain⟨b,ys,rfl,g3,g4⟩:=(Vw.p (H:=H2) (show Rp C.K F2 v2 (.lst qs) from EF)).lstE rep2.sub
      cases rv with
      | lst k1 k2 =>
       cases EF with
       | lst k3 k4=>exact⟨_,_,_,_,rfl, .inl ⟨.inl (.inl (rep2.sub _ _ k1)), .inl (.inl (rep2.sub _ _ k3)),post2.okv (T5 (.inl (.inl k1)) k2 (.inl (.inl k3)) k4) rep2⟩⟩
     | _=>exact post2.elim
    | tup ps =>
     cases q2 with
     | tup qs =>
      obtain⟨a,xs,rfl,g1,g2⟩:=(Vw.p (H:=H2) (show Rp C.K F2 v (.tup ps) from rv)).tupE
      obtain⟨b,ys,rfl,g3,g4⟩:=(Vw.p (H:=H2) (show Rp C.K F2 v2 (.tup qs) from EF)).tupE
      exact⟨_,_,_,_,rfl, .inr ⟨aZ rep2.sub g1,aZ rep2.sub g3,post2.okv (Pk g1 g2 g3 g4) rep2⟩⟩
     | _=>exact post2.elim
    | _=>exact post2.elim)))
end
section
variable {Pg:Program} {w:World} {K:Fr} {H:Hp} {h:Heap}
mutual
theorem JR (hok:HOk Pg w H h) (KX:K.K.In h):∀ (p:P) (v:V) (u:Value) (k:NestedKey),Rp K H v p→RelV v u→pA p=some k→NestedIs h k u
 | .non,_,_,_,x,r,e=>by cases x; cases r; cases e; exact .none
 | .int i,_,_,_,x,r,e=>by cases x; obtain⟨t,rfl⟩:=r; cases e; exact .int i t
 | .str z,_,_,_,x,r,e=>by cases x; obtain⟨t,rfl⟩:=r; cases e; exact .text z t
 | .tup ps,v,u,k,x,r,e=>by
  have sq:∃ a xs,v=.ref a∧SqT K.K H a xs∧ay K H xs ps:=by
   cases x with
   | tup h1 h2=>exact⟨_,_,rfl,h1.sq,h2⟩
   | tupW h1 h2 _=>exact⟨_,_,rfl,h1.sq,h2⟩
  obtain⟨a,xs,rfl,h1,h2⟩:=sq
  cases (show u=_ from r)
  cases hk:fU ps with
  | none=>simp only[pA,hk] at e; cases e
  | some ks =>
   simp only[pA,hk] at e; cases e
   obtain⟨its,o,n,hv,e1,e2,e3⟩:=L2.sqT_at hok KX h1
   exact .tup e1 e2 e3 (by simpa using KY hok KX ps _ _ _ h2 hv hk)
 | .bl _,_,_,_,_,_,e=>by cases e
 | .lst _,_,_,_,_,_,e=>by cases e
 | .dic _ _ _,_,_,_,_,_,e=>by cases e
 | .ins _ _ _,_,_,_,_,_,e=>by cases e
 | .glo _,_,_,_,_,_,e=>by cases e
 | .ty _,_,_,_,_,_,e=>by cases e
 | .scr _,_,_,_,_,_,e=>by cases e
 | .exv _ _ _,_,_,_,_,_,e=>by cases e
 | .dlk _ _,_,_,_,_,_,e=>by cases e
theorem KY (hok:HOk Pg w H h) (KX:K.K.In h):∀ (ps:List P) (vs:List V) (us:List Value) (ks:List NestedKey),ay K H vs ps→Vals vs us→fU ps=some ks→NestedAll h ks us
 | [],_,_,_,x,r,e=>by cases x; cases r; cases e; exact .nil
 | p::ps,_,_,ks,x,r,e=>by
  cases x with
  | cons x1 x2 =>
   cases r with
   | cons r1 r2 =>
    cases e1:pA p with
    | none=>simp only[fU,e1] at e; cases e
    | some k =>
     cases e2:fU ps with
     | none=>simp only[fU,e1,e2] at e; cases e
     | some ks =>
      simp only[fU,e1,e2] at e; cases e
      exact .cons (JR hok KX p _ _ _ x1 r1 e1) (KY hok KX ps _ _ _ x2 r2 e2)
end
end
structure tv (K:Fr) (F:Hp) (kvs:List (NestedKey×Addr×V)) (ks:List P):Prop where
 rp:ay K F (kvs.map fun q=>.ref q.2.1) ks
 nk:ks.map pA=kvs.map (fun q=>some q.1)
 dp:∀ q∈kvs,q.1.depth≤8
theorem tv.mono {K:Fr} {F F':Hp} {kvs:List (NestedKey×Addr×V)} {ks:List P} (e:Same F F') (h:tv K F kvs ks):tv K F' kvs ks:=⟨ay.mono e _ _ h.rp,h.nk,h.dp⟩
abbrev QP:List (NestedKey×Addr×V)→List (NestedKey×Addr×Value)→Prop:=Paired fun p q=>p.1=q.1∧p.2.1=q.2.1∧RelV p.2.2 q.2.2
def zT (kvs:List (NestedKey×Addr×V)) (k:NestedKey):Option V:=(kvs.find? fun q=>decide (q.1=k)).map (·.2.2)
theorem QP.val {kvs:List (NestedKey×Addr×V)} {xs:List (NestedKey×Addr×Value)} (h:QP kvs xs) (k:NestedKey):RelO (zT kvs k) ((atKey xs k).map (·.2)):=by
 induction h with
 | nil=>exact trivial
 | @cons p q ps qs hq t ih =>
  obtain⟨h1,h2,h3⟩:=hq
  unfold zT atKey at ih ⊢
  by_cases e:p.1=k
  · rw[List.find?_cons_of_pos (by simpa using e),List.find?_cons_of_pos (by rw[← h1]; simpa using e)]
    exact h3
  · rw[List.find?_cons_of_neg (by simpa using e),List.find?_cons_of_neg (by rw[← h1]; simpa using e)]
    exact ih
def xk (kvs:List (NestedKey×Addr×V)) (k:NestedKey) (b:Addr) (v:V):List (NestedKey×Addr×V) :=
 if (kvs.any fun q=>decide (q.1=k))=true then kvs.map (fun q=>if q.1=k then (q.1,q.2.1,v) else q) else kvs++[(k,b,v)]
theorem QP.any {kvs:List (NestedKey×Addr×V)} {xs:List (NestedKey×Addr×Value)} (h:QP kvs xs) (k:NestedKey):(kvs.any fun q=>decide (q.1=k))=(atKey xs k).isSome:=by
 induction h with
 | nil=>rfl
 | @cons p q ps qs hq t ih =>
  obtain⟨h1,h2,h3⟩:=hq
  unfold atKey at ih ⊢
  by_cases e:p.1=k
  · rw[List.any_cons,List.find?_cons_of_pos (by rw[← h1]; simpa using e),decide_eq_true e]; rfl
  · rw[List.any_cons,List.find?_cons_of_neg (by rw[← h1]; simpa using e),decide_eq_false e,Bool.false_or]; exact ih
theorem QP.put {kvs:List (NestedKey×Addr×V)} {xs:List (NestedKey×Addr×Value)} (h:QP kvs xs) (k:NestedKey) (b:Addr) {v:V} {u:Value} (r:RelV v u):QP (xk kvs k b v) (storedH xs k b u):=by
 have ha:=h.any k
 unfold xk storedH
 rw[ha]
 cases hs:(atKey xs k).isSome with
 | true =>
  rw[if_pos rfl,if_pos rfl]
  clear ha hs
  induction h with
  | nil=>exact .nil
  | @cons p q ps qs hq t ih =>
   obtain⟨h1,h2,h3⟩:=hq
   refine .cons ?_ ih
   unfold putAt
   dsimp only
   by_cases e:p.1=k
   · rw[if_pos e,if_pos (by rw[← h1]; exact e)]
     exact⟨by first | exact h1 | (rw[← h1]),h2,r⟩
   · rw[if_neg e,if_neg (by rw[← h1]; exact e)]
     exact⟨h1,h2,h3⟩
 | false =>
  rw[if_neg (by decide),if_neg (by decide)]
  exact h.snoc ⟨rfl,rfl,r⟩
theorem C2 (kvs:List (NestedKey×Addr×V)) (k:NestedKey) (b:Addr) (v:V):(xk kvs k b v).length≤kvs.length+1:=by
 unfold xk
 split
 · rw[List.length_map]; omega
 · rw[List.length_append]; exact Nat.le_refl _
section
variable {X:Cx} {pins:List (Addr×Obj)} {σ:L2.St} {H:Hp} {s:Shared} {a b:Addr} {kvs:List (NestedKey×Addr×V)} {ks:List P} {A:Around} {E:Value→Shared→Prop}
theorem xR (hok:HOk X.prog X.w H s.heap) (KX:X.K.In s.heap) (e:H a=some (dN X.prog X.w a kvs)) (hk:tv (qd X) H kvs ks):kvs.length≤sizeLine∧(a == sysModules)=false∧∃ xs,QP kvs xs∧s.heap.DictOfH (nestedKind X.prog X.w) a xs:=by
 obtain⟨z,hd,xs,rel,o,es,ep,h1,h2,h3,h4,h5⟩:=(show ObjOk X.prog X.w H s.heap a (dN X.prog X.w a kvs) from hok a _ e).1
 refine⟨z,hd,xs,rel,o,es,ep,h1,h2,h3,h4,?_,h5⟩
 obtain⟨r1,r2,r3⟩:=hk
 clear h1 h2 h3 h4 h5 z e hd
 induction rel generalizing ks with
 | nil=>intro x hx; cases hx
 | @cons p q ps qs hq t ih =>
  obtain⟨g1,g2,g3⟩:=hq
  cases ks with
  | nil=>cases r1
  | cons k ks =>
   cases r1 with
   | cons r1 r1' =>
    simp only[List.map_cons,List.cons.injEq] at r2
    intro x hx
    rcases List.mem_cons.mp hx with rfl | hx
    · have:=JR hok KX k _ (.ref p.2.1) _ r1 rfl r2.1
      refine⟨?_,?_⟩
      · rw[← g1,← g2]; exact this
      · rw[← g1]; exact r3 p (List.mem_cons_self ..)
    · exact ih r1' r2.2 (fun q hq=>r3 q (List.mem_cons_of_mem _ hq)) x hx
theorem Bp (hok:HOk X.prog X.w H s.heap) (KX:X.K.In s.heap) {p:P} {k:NestedKey} (hp:Rp (qd X) H (.ref b) p) (hk:pA p=some k) (hd:k.depth≤8):(nestedKind X.prog X.w).is s.heap k b:=⟨JR hok KX p _ (.ref b) _ hp rfl hk,hd⟩
def Px (K:Fr) (H:Hp) (a:Addr) (y:V) (r:Option V):Prop:=∃ kvs ks b p k,H a=some (dN K.pg K.w a kvs)∧tv K H kvs ks∧y=.ref b∧Rp K H (.ref b) p∧pA p=some k∧k.depth≤8∧r=zT kvs k
def EA (K:Fr) (H:Hp) (a:Addr) (y:V) (r:Option V):Prop:=DGet H a y r∨Px K H a y r
theorem Hz {y v:V} {u:Value} {Q:Value→Shared→Prop} (hu:A.units+16 < cLine) (I:Inv X pins σ H s) (g:Px (qd X) H a y (some v)) (ry:RelV y u) (h:∀ w' s',Inv X pins σ H s'→RelV v w'→Q w' s'):wpAny (model X.prog X.w) A (getItem (.ref a) u) Q E s:=by
 obtain⟨kvs,ks,b,p,k,e,hk,rfl,hp,hn,hd,l⟩:=g
 cases (show u=Value.ref b from ry)
 obtain⟨z,hd',xs,rel,dd⟩:=xR I.hok I.kIn e hk
 obtain⟨w',hw,Oz⟩:=RelO.some_of (v:=v) (o:=(atKey xs k).map (·.2)) (by rw[l]; exact rel.val k)
 obtain⟨p',jH,Xd⟩:=Option.map_eq_some_iff.mp hw
 refine wpAny_getItem_heap (show A.in1.units+8 < cLine by show A.units+1+8 < cLine; omega) (Bp I.hok I.kIn hp hn hd) dd jH ?_
 rw[Xd]
 exact h w' _ (I.tok _) Oz
theorem Yn {y:V} {o:Option V} {u:Value} {Q:Value→Shared→Prop} (hu:A.units+16 < cLine) (I:Inv X pins σ H s) (g:Px (qd X) H a y o) (ry:RelV y u) (h:∀ s',Inv X pins σ H s'→Q (.bool o.isSome) s'):wpAny (model X.prog X.w) A (compareOp .In u (.ref a)) Q E s:=by
 obtain⟨kvs,ks,b,p,k,e,hk,rfl,hp,hn,hd,l⟩:=g
 cases (show u=Value.ref b from ry)
 obtain⟨z,hd',xs,rel,dd⟩:=xR I.hok I.kIn e hk
 refine wpAny_in_heap (show A.in1.units+8 < cLine by show A.units+1+8 < cLine; omega) (Bp I.hok I.kIn hp hn hd) hd' dd ?_
 have q:=(rel.val k).isSome_eq
 rw[Option.isSome_map] at q
 rw[← q,← l]
 exact h _ (I.tok _)
theorem OU {y:V} {o:Option V} {u:Value} {Q:Value→Shared→Prop} (hu:A.units+16 < cLine) (I:Inv X pins σ H s) (g:Px (qd X) H a y o) (ry:RelV y u) (h:∀ s',Inv X pins σ H s'→Q (.bool (!o.isSome)) s'):wpAny (model X.prog X.w) A (compareOp .NotIn u (.ref a)) Q E s:=by
 obtain⟨kvs,ks,b,p,k,e,hk,rfl,hp,hn,hd,l⟩:=g
 cases (show u=Value.ref b from ry)
 obtain⟨z,hd',xs,rel,dd⟩:=xR I.hok I.kIn e hk
 refine wpAny_notIn_heap (show A.in1.units+8 < cLine by show A.units+1+8 < cLine; omega) (Bp I.hok I.kIn hp hn hd) hd' dd ?_
 have q:=(rel.val k).isSome_eq
 rw[Option.isSome_map] at q
 rw[← q,← l]
 exact h _ (I.tok _)
theorem Ht {p:P} {k:NestedKey} {v:V} {r:Value} {Q:Unit→Shared→Prop} (hu:A.units+16 < cLine) (I:Inv X pins σ H s) (e:H a=some (dN X.prog X.w a kvs)) (hk:tv (qd X) H kvs ks) (hp:Rp (qd X) H (.ref b) p) (hn:pA p=some k) (hd:k.depth≤8) (hl:kvs.length < sizeLine) (rv:RelV v r)
  (h:∀ s',Inv X pins σ (upd H a (dN X.prog X.w a (xk kvs k b v))) s'→Q () s'):wpAny (model X.prog X.w) A (setItem (.ref a) (.ref b) r) Q E s:=by
 obtain⟨z,hd',xs,rel,dd⟩:=xR I.hok I.kIn e hk
 have hz:xs.length≤sizeLine:=by rw[← Paired.length rel]; exact z
 have hl':(xk kvs k b v).length≤sizeLine:=by have:=C2 kvs k b v; omega
 refine wpAny_setItem_heap (hsz:=hz) (show A.in1.units+8 < cLine by show A.units+1+8 < cLine; omega) (Bp I.hok I.kIn hp hn hd) dd fun h' dd' hs=>h _ ?_
 obtain⟨q,es,ep,hq,h2,h3,h4,_,h5⟩:=dd'
 refine d_write I (by rw[e]; exact True.intro) hs ⟨q,hq⟩ ⟨⟨hl',hd',_,rel.put k b rv,q,es,ep,hq,h2,h3,h4,h5⟩,⟨q,hq⟩,fun h1 h2 hx hy=>?_⟩
 obtain⟨y1,y2,ys,y3,o,es',ep',y4,y5⟩:=hx
 exact⟨y1,y2,ys,y3,o,es',ep',hy o y4,y5⟩
end
def Ac:P→Option Key
 | .int i=>some (.inl i)
 | .str z=>some (.inr z)
 | _=>none
theorem DB {p:P} {k:Key} (h:Ac p=some k):p=lX k:=by
 cases p <;> first | (cases h; rfl) | (cases h; done)
theorem xr {a b:Key} (h:lX a=lX b):a=b:=by
 cases a <;> cases b <;> first | (injection h with h; rw[h]) | (cases h)
def jG (t:Bool) (p:P):Bool:=match t,p with
 | true, .tup ps=>match pA (.tup ps) with
  | some k=>decide (k.depth≤8)
  | none=>false
 | true,_=>false
 | false,p=>(Ac p).isSome
mutual
theorem wk:∀ (p q:P) (k:NestedKey),pA p=some k→pA q=some k→p=q
 | .non,q,k,h,h'=>by
  cases h
  cases q <;> first | rfl | (cases h'; done) | skip
  rename_i ps
  cases hk:fU ps <;> simp only[pA,hk] at h' <;> cases h'
 | .int i,q,k,h,h'=>by
  cases h
  cases q <;> first | (cases h'; rfl) | (cases h'; done) | skip
  rename_i ps
  cases hk:fU ps <;> simp only[pA,hk] at h' <;> cases h'
 | .str i,q,k,h,h'=>by
  cases h
  cases q <;> first | (cases h'; rfl) | (cases h'; done) | skip
  rename_i ps
  cases hk:fU ps <;> simp only[pA,hk] at h' <;> cases h'
 | .tup ps,q,k,h,h'=>by
  cases hk:fU ps with
  | none=>simp only[pA,hk] at h; cases h
  | some ks =>
   simp only[pA,hk] at h; cases h
   cases q <;> first | (cases h'; done) | skip
   rename_i qs
   cases hk':fU qs with
   | none=>simp only[pA,hk'] at h'; cases h'
   | some ls =>
    simp only[pA,hk'] at h'
    have e:ls=ks:=by injection h' with h'; injection h'
    rw[zJ ps qs ks hk (by rw[hk',e])]
 | .bl _,_,_,h,_=>by cases h
 | .lst _,_,_,h,_=>by cases h
 | .dic _ _ _,_,_,h,_=>by cases h
 | .ins _ _ _,_,_,h,_=>by cases h
 | .glo _,_,_,h,_=>by cases h
 | .ty _,_,_,h,_=>by cases h
 | .scr _,_,_,h,_=>by cases h
 | .exv _ _ _,_,_,h,_=>by cases h
 | .dlk _ _,_,_,h,_=>by cases h
theorem zJ:∀ (ps qs:List P) (ks:List NestedKey),fU ps=some ks→fU qs=some ks→ps=qs
 | [],qs,ks,h,h'=>by
  cases h
  cases qs with
  | nil=>rfl
  | cons q qs =>
   cases e1:pA q <;> cases e2:fU qs <;> simp only[fU,e1,e2] at h' <;> cases h'
 | p::ps,qs,ks,h,h'=>by
  cases e1:pA p with
  | none=>simp only[fU,e1] at h; cases h
  | some k =>
   cases e2:fU ps with
   | none=>simp only[fU,e1,e2] at h; cases h
   | some ls =>
    simp only[fU,e1,e2] at h; cases h
    cases qs with
    | nil=>cases h'
    | cons q qs =>
     cases e3:pA q with
     | none=>simp only[fU,e3] at h'; cases h'
     | some k' =>
      cases e4:fU qs with
      | none=>simp only[fU,e3,e4] at h'; cases h'
      | some ls' =>
       simp only[fU,e3,e4] at h'
       injection h' with h'
       injection h' with a1 a2
       rw[wk p q k e1 (by rw[e3,a1]),zJ ps qs ls e2 (by rw[e4,a2])]
end
def fX {α:Type}:List P→List α→P→Option α
 | k::ks,d::ds,p=>if k=p then some d else fX ks ds p
 | _,_,_=>none
def Fv {α:Type} (ks:List P) (ds:List α) (p:P) (x:α):List α:=if p∈ks then List.zipWith (fun k d=>if k=p then x else d) ks ds else ds++[x]
def yg (ks:List P) (p:P):List P:=if p∈ks then ks else ks++[p]
section
variable {K:Fr} {F H:Hp} {R:List Addr} {S:ag}
theorem Qb {key:Key}:∀ {kvs:List (Key×V)} {ds:List D},aF K F R (kvs.map (·.2)) ds→(match fX (kvs.map fun q=>lX q.1) ds (lX key) with
  | some d=>∃ v,valV kvs key=some v∧aP K F R v d
  | none=>valV kvs key=none)
 | [],_,h=>by cases h; exact rfl
 | q::kvs,_,h=>by
  cases h with
  | @cons v d vs ds h1 h2 =>
   simp only[List.map_cons,fX]
   by_cases e:q.1=key
   · rw[if_pos (by rw[e])]
     exact⟨_,valV_pos e,h1⟩
   · rw[if_neg (fun z=>e (xr z)),valV_neg e]
     exact Qb h2
theorem Cz {k:NestedKey} {p:P} (hp:pA p=some k):∀ {kvs:List (NestedKey×Addr×V)} {ks:List P} {ds:List D},ks.map pA=kvs.map (fun q=>some q.1)→aF K F R (kvs.map (·.2.2)) ds→(match fX ks ds p with
  | some d=>∃ v,zT kvs k=some v∧aP K F R v d
  | none=>zT kvs k=none)
 | [],[],_,_,h=>by cases h; exact rfl
 | [],_::_,_,e,_=>by cases e
 | _::_,[],_,e,_=>by cases e
 | q::kvs,k'::ks,_,e,h=>by
  cases h with
  | @cons v d vs ds h1 h2 =>
   simp only[List.map_cons,List.cons.injEq] at e
   simp only[fX]
   unfold zT
   by_cases e':q.1=k
   · rw[if_pos (wk _ _ _ (by rw[e.1,e']) hp),List.find?_cons_of_pos (by simpa using e')]
     exact⟨_,rfl,h1⟩
   · rw[if_neg (fun z=>e' (by rw[z,hp] at e; exact (Option.some.inj e.1).symm)),List.find?_cons_of_neg (by simpa using e')]
     exact Cz hp e.2 h2
def ia (S:ag):D→Option (Bool×List P×List D)
 | .p (.dic t ks ps)=>some (t,ks,ps.map .p)
 | .p (.dlk ks ps)=>some (false,ks,ps.map .p)
 | .ref n=>match S[n]? with
  | some (.dic t ks ds)=>some (t,ks,ds)
  | _=>none
 | _=>none
inductive G8 (K:Fr) (F:Hp) (R:List Addr) (H:Hp) (a:Addr):Bool→List P→List D→Prop
 | k {kvs:List (Key×V)} {ds:List D}:Rd H a (.dK kvs)→aF K F R (kvs.map (·.2)) ds→G8 K F R H a false (kvs.map fun q=>lX q.1) ds
 | n {kvs:List (NestedKey×Addr×V)} {ks:List P} {ds:List D}:H a=some (dN K.pg K.w a kvs)→tv K F kvs ks→aF K F R (kvs.map (·.2.2)) ds→G8 K F R H a true ks ds
theorem ya {G:Hp} {v:V} {d:D} {t:Bool} {ks:List P} {ds:List D} (hv:aP K F R v d) (rep:bQ K G F R S H) (e:ia S d=some (t,ks,ds)):∃ a,v=.ref a∧G8 K F R H a t ks ds:=by
 cases d with
 | p q =>
  cases q with
  | dic t' ks' ps =>
   cases e
   cases (show Rp K F v (.dic t ks ps) from hv) with
   | dicK h1 h2 h3=>subst h2; exact⟨_,rfl, .k (.inl (rep.sub _ _ h1)) (aF.of_p h3)⟩
   | dicN h1 h2 h3 h4 h5=>exact⟨_,rfl, .n (rep.sub _ _ h1) ⟨h2,h3,h4⟩ (aF.of_p h5)⟩
  | dlk ks' ps =>
   cases e
   cases (show Rp K F v (.dlk ks ps) from hv) with
   | dlk h1 h2 h3=>subst h2; exact⟨_,rfl, .k (.inr ⟨_,rep.sub _ _ h1⟩) (aF.of_p h3)⟩
  | _=>cases e
 | ref n =>
  cases hn:S[n]? with
  | none=>simp only[ia,hn] at e; cases e
  | some c =>
   cases c with
   | dic t' ks' ds' =>
    simp only[ia,hn] at e; cases e
    obtain⟨a,q,e1,ok,out⟩:=rep.at hn
    obtain⟨a',Da,rfl⟩:=hv
    rw[e1] at Da; cases Da
    refine⟨a,rfl,?_⟩
    cases ok with
    | dicK hk hr=>subst hk; exact .k (.inl (out a _ dZ).2) hr
    | dicN h1 h2 h3 hr=>exact .n (out a _ dZ).2 ⟨h1,h2,h3⟩ hr
   | _=>simp only[ia,hn] at e; cases e
theorem GF {p:P} (h:jG false p=true):∃ k,Ac p=some k:=by
 cases hk:Ac p with
 | none=>simp only[jG,hk] at h; cases h
 | some k=>exact⟨k,rfl⟩
theorem F7 {p:P} (h:jG true p=true):∃ ps k,p=.tup ps∧pA p=some k∧k.depth≤8:=by
 cases p with
 | tup ps =>
  cases hk:pA (.tup ps) with
  | none=>simp only[jG,hk] at h; cases h
  | some k=>simp only[jG,hk] at h; exact⟨ps,k,rfl,rfl,of_decide_eq_true h⟩
 | _=>cases h
theorem LL {y:V} {k:Key} {p:P} (h:Vw K F H y p) (hk:Ac p=some k):y=kV k:=by
 cases p <;> first | (cases hk; done) | skip
 · cases hk; exact h.int
 · cases hk; exact h.str
theorem A4 {a:Addr} {y:V} {t:Bool} {ks:List P} {ds:List D} {p:P} (h:G8 K F R H a t ks ds) (s:Same F H) (hy:Vw K F H y p) (hk:jG t p=true):(match fX ks ds p with
  | some d=>∃ v,EA K H a y (some v)∧aP K F R v d
  | none=>EA K H a y none):=by
 cases h with
 | @k kvs ds h1 h2 =>
  obtain⟨key,hk⟩:=GF hk
  have e:=DB hk
  have:=Qb (key:=key) h2
  rw[← e] at this
  have hy:=LL hy hk
  subst hy
  cases hl:fX (kvs.map fun q=>lX q.1) ds p with
  | none=>rw[hl] at this; rw[← this]; exact .inl (.inl ⟨_,_,h1,rfl,rfl⟩)
  | some d =>
   rw[hl] at this
   obtain⟨v,e1,e2⟩:=this
   exact⟨v,by rw[← e1]; exact .inl (.inl ⟨_,_,h1,rfl,rfl⟩),e2⟩
 | @n kvs ks ds h1 h2 h3 =>
  obtain⟨ps,k,rfl,hn,hd⟩:=F7 hk
  have:=Cz hn h2.nk h3
  have rp:=Rp.mono s _ _ hy.tupP
  obtain⟨b,vs,rfl,_,_⟩:=hy.tupE
  cases hl:fX ks ds (.tup ps) with
  | none=>rw[hl] at this; exact .inr ⟨kvs,ks,b,_,k,h1,h2.mono s,rfl,rp,hn,hd,this.symm⟩
  | some d =>
   rw[hl] at this
   obtain⟨v,e1,e2⟩:=this
   exact⟨v, .inr ⟨kvs,ks,b,_,k,h1,h2.mono s,rfl,rp,hn,hd,e1.symm⟩,e2⟩
end
def Zi (K:Fr):R2:=fun x y H Q=>∃ a v,x=.ref a∧EA K H a y (some v)∧Q v H
theorem Hj {X:Cx} {pins:List (Addr×Obj)} {σ:L2.St} {H:Hp} {s:Shared} {a:Addr} {y:V} {o:Option V} (I:Inv X pins σ H s) (g:EA (qd X) H a y o):s.TypeIs (.ref a) "dict":=by
 rcases g with g | ⟨kvs,ks,b,p,k,e,hk,_⟩
 · exact dict_typeIs I g
 · obtain⟨_,_,xs,_,dd⟩:=xR I.hok I.kIn e hk
   exact dd.typeIs
theorem Hm {X:Cx} {pins:List (Addr×Obj)} {σ:L2.St} {H:Hp} {s:Shared} {a:Addr} {y v:V} {u:Value} {A:Around} {E:Value→Shared→Prop} {Q:Value→Shared→Prop} (hu:A.units+16 < cLine) (I:Inv X pins σ H s) (g:EA (qd X) H a y (some v)) (ry:RelV y u) (h:∀ w' s',Inv X pins σ H s'→RelV v w'→Q w' s'):wpAny (model X.prog X.w) A (getItem (.ref a) u) Q E s:=by
 rcases g with g | g
 · exact d_getItem (by omega) I g ry h
 · exact Hz hu I g ry h
theorem PB {X:Cx} (hu:X.A.units+16 < cLine):IxR X (Zi (qd X)):=by
 intro value slice pins s σ H x y v u Q I rx ry h hs
 obtain⟨a,z,rfl,g,q⟩:=h
 cases rx
 have hT:=Hj I g
 unfold subscriptTail
 refine wpAny_bind ?_
 rw[getitemInPython_of_ne hT.not_modules]
 refine wpAny_bind (wpAny_specialOf hT PySem.F.slot_dict_getitem.lookup ?_)
 have fin:wpAny (model X.prog X.w) X.A (subscripted slice false (.ref a) u) (fun r s₃=>wpAny (model X.prog X.w) X.A (letTemporaryGo value (.ref a) r >>= fun _=>pure r) (EP X pins σ Q) X.xe s₃) X.xe s:=by
  rw[hs]
  exact wpAny_operating (Hm hu I g ry fun w' s3 I3 Oz=>wpAny_bind (wpAny_letTemporaryGo (wpAny_pure ⟨z,H,I3,Oz,q⟩)))
 first
  | exact wpAny_pure (wpAny_bind fin)
  | exact wpAny_bind (wpAny_pure (wpAny_bind fin))
  | exact wpAny_bind fin
def D8 (d k:D) (S:ag):Rs D:=match ia S d with
 | some (t,ks,ds)=>match view S k with
  | some p=>if jG t p=true then match fX ks ds p with
    | some r=>.ok r S
    | none=>.no
   else .no
  | none=>.no
 | none=>match d with
  | .ref n=>match S[n]?,view S k with
   | some (.lst ds),some (.int i)=>match atI ds i with
    | some r=>.ok r S
    | none=>.no
   | _,_=>.no
  | .p _=>rD ef d k S
def bV (m1 m2:M):M:=fun sl S=>(m1 sl S).bind fun d1 S1=>(m2 sl S1).bind fun d2 S2=>D8 d1 d2 S2
theorem Po {K:Fr} {F:Hp} {R:List Addr} {ds:List D} {vs:List V} {k:Int} {d:D} (h:aF K F R vs ds) (e:atI ds k=some d):∃ v,atI vs k=some v∧aP K F R v d:=by
 unfold atI at e ⊢
 rw[h.length]
 cases hj:ixN ds.length k with
 | none=>rw[hj] at e; cases e
 | some j =>
  rw[hj] at e
  obtain⟨v,e1,e2⟩:=aF.get' (i:=j) (d:=d) h e
  exact⟨v,e1,e2⟩
section
variable {C:Kx} {a b c e o tg:Expr} {es rest:List Expr} {pos p apos cpos:Pos} {x:Str} {m m1 m2 mo me:M} {ma:MA}
theorem am (hu:C.X.A.units+16 < cLine) (h1:Ej C m1 a) (h2:Ej C m2 b) (hs:PlainIx b:=by exact fun _ _=>rfl):Ej C (bV m1 m2) (.Subscript a b pos):=.mk fun sl S σ F R H nX hr Q post =>
 ED.of (pe_ix (IxR.or ZD (PB hu)) bu bu hs) (h1 sl S σ F R H nX hr _ (aK.bind post fun d1 S1 x F1 R1 H1 _ rx rep1 s1 r1 ah=>h2 sl S1 σ F1 R1 H1 (nX.mono s1 r1) rep1 _ (aK.bind ah fun d2 S2 y F2 R2 H2 _ ry rep2 s2 r2 post2=>by
  have rx:=rx.mono s2 r2
  unfold D8 at post2
  cases hd:ia S2 d1 with
  | some q =>
   obtain⟨t,ks,ds⟩:=q
   simp only[hd] at post2
   cases hv:view S2 d2 with
   | none=>simp only[hv] at post2; exact post2.elim
   | some kp =>
    simp only[hv] at post2
    by_cases hk:jG t kp=true
    · rw[if_pos hk] at post2
      obtain⟨a,rfl,at_⟩:=ya rx rep2 hd
      have:=A4 at_ rep2.sub (ec ry rep2 hv) hk
      cases hl:fX ks ds kp with
      | none=>simp only[hl] at post2; exact post2.elim
      | some r =>
       simp only[hl] at post2 this
       obtain⟨v,g,rv⟩:=this
       exact .inr ⟨a,v,rfl,g,post2.okv rv rep2⟩
    · rw[if_neg hk] at post2; exact post2.elim
  | none =>
   simp only[hd] at post2
   cases d1 with
   | p q=>exact .inl (iE rfl UR rx ry rep2 post2)
   | ref n =>
    cases hn:S2[n]? with
    | none=>simp only[hn] at post2; exact post2.elim
    | some cl =>
     cases cl with
     | lst ds =>
      cases hv:view S2 d2 with
      | none=>simp only[hn,hv] at post2; exact post2.elim
      | some kp =>
       cases kp with
       | int i =>
        simp only[hn,hv] at post2
        cases hi:atI ds i with
        | none=>simp only[hi] at post2; exact post2.elim
        | some r =>
         simp only[hi] at post2
         obtain⟨l,vs,e1,e2,PP⟩:=rep2.lstAt hn
         obtain⟨l',Da,rfl⟩:=rx
         rw[e1] at Da; cases Da
         obtain⟨v,e3,e4⟩:=Po PP hi
         exact .inl (.inl ⟨l,vs,i,v,rfl,(ec ry rep2 hv).int, .inl (.inl e2),e3,post2.okv e4 rep2⟩)
       | _=>simp only[hn,hv] at post2; exact post2.elim
     | _=>simp only[hn] at post2; exact post2.elim)))
def zZ (neg:Bool) (d1 d2:D) (S:ag):Rs D:=match ia S d2 with
 | some (t,ks,ds)=>match view S d1 with
  | some p=>if jG t p=true then .ok (.p (.bl (xor neg (fX ks ds p).isSome))) S else .no
  | none=>.no
 | none=>rD (if neg then jA else tc) d1 d2 S
def Hq (neg:Bool) (m1 m2:M):M:=fun sl S=>(m1 sl S).bind fun d1 S1=>(m2 sl S1).bind fun d2 S2=>zZ neg d1 d2 S2
def Wz (K:Fr):R2:=fun x y H Q=>∃ a o,y=.ref a∧EA K H a x o∧Q (.bl o.isSome) H
def QQ (K:Fr):R2:=fun x y H Q=>∃ a o,y=.ref a∧EA K H a x o∧Q (.bl (!o.isSome)) H
theorem KM {X:Cx} (hu:X.A.units+16 < cLine):OpR X (compareOp .In) (Wz (qd X)):=by
 intro pins s σ H x y v u Q I rx ry h
 obtain⟨a,o,rfl,g,q⟩:=h
 cases (show u=Value.ref a from ry)
 rcases g with g | g
 · exact d_in (by omega) I g rx fun s' I'=>⟨.bl _,H,I',rfl,q⟩
 · exact Yn hu I g rx fun s' I'=>⟨.bl _,H,I',rfl,q⟩
theorem N0 {X:Cx} (hu:X.A.units+16 < cLine):OpR X (compareOp .NotIn) (QQ (qd X)):=by
 intro pins s σ H x y v u Q I rx ry h
 obtain⟨a,o,rfl,g,q⟩:=h
 cases (show u=Value.ref a from ry)
 rcases g with g | g
 · exact d_notIn (by omega) I g rx fun s' I'=>⟨.bl _,H,I',rfl,q⟩
 · exact OU hu I g rx fun s' I'=>⟨.bl _,H,I',rfl,q⟩
theorem DH {σ:L2.St} {F H:Hp} {R:List Addr} {S:ag} {d1 d2:D} {x y:V} {Q:VK} (rx:aP C.K F R x d1) (ry:aP C.K F R y d2) (rep:bQ C.K C.G F R S H) (post:aK C σ F R (aP C.K) Q (zZ false d1 d2 S)):SN C.X.K x y H Q∨Wz C.K x y H Q:=by
 unfold zZ at post
 cases hd:ia S d2 with
 | none=>simp only[hd] at post; exact .inl (iE rfl Vx rx ry rep post)
 | some q =>
  obtain⟨t,ks,ds⟩:=q
  simp only[hd] at post
  cases hv:view S d1 with
  | none=>simp only[hv] at post; exact post.elim
  | some kp =>
   simp only[hv] at post
   by_cases hk:jG t kp=true
   · rw[if_pos hk] at post
     obtain⟨a,rfl,at_⟩:=ya ry rep hd
     have:=A4 at_ rep.sub (ec rx rep hv) hk
     refine .inr ?_
     cases hl:fX ks ds kp with
     | none =>
      simp only[hl] at post this
      exact⟨a,none,rfl,this,post.okv (show aP C.K F R (.bl false) (.p (.bl (xor false false))) from .bl _) rep⟩
     | some r =>
      simp only[hl] at post this
      obtain⟨v,g,rv⟩:=this
      exact⟨a,some v,rfl,g,post.okv (show aP C.K F R (.bl true) (.p (.bl (xor false true))) from .bl _) rep⟩
   · rw[if_neg hk] at post; exact post.elim
theorem IF {σ:L2.St} {F H:Hp} {R:List Addr} {S:ag} {d1 d2:D} {x y:V} {Q:VK} (rx:aP C.K F R x d1) (ry:aP C.K F R y d2) (rep:bQ C.K C.G F R S H) (post:aK C σ F R (aP C.K) Q (zZ true d1 d2 S)):AJ C.X.K x y H Q∨QQ C.K x y H Q:=by
 unfold zZ at post
 cases hd:ia S d2 with
 | none=>simp only[hd] at post; exact .inl (iE rfl Jd rx ry rep post)
 | some q =>
  obtain⟨t,ks,ds⟩:=q
  simp only[hd] at post
  cases hv:view S d1 with
  | none=>simp only[hv] at post; exact post.elim
  | some kp =>
   simp only[hv] at post
   by_cases hk:jG t kp=true
   · rw[if_pos hk] at post
     obtain⟨a,rfl,at_⟩:=ya ry rep hd
     have:=A4 at_ rep.sub (ec rx rep hv) hk
     refine .inr ?_
     cases hl:fX ks ds kp with
     | none =>
      simp only[hl] at post this
      exact⟨a,none,rfl,this,post.okv (show aP C.K F R (.bl true) (.p (.bl (xor true false))) from .bl _) rep⟩
     | some r =>
      simp only[hl] at post this
      obtain⟨v,g,rv⟩:=this
      exact⟨a,some v,rfl,g,post.okv (show aP C.K F R (.bl false) (.p (.bl (xor true true))) from .bl _) rep⟩
   · rw[if_neg hk] at post; exact post.elim
theorem pf (hu:C.X.A.units+65 < cLine) (h1:Ej C m1 a) (h2:Ej C m2 b) (hm:Mk .In b:=by first | exact nomark _ | rfl):Ej C (Hq false m1 m2) (.Compare a [.In] [b] pos):=.mk fun sl S σ F R H hs hr Q post =>
 ED.of (pe_cmpR (OpR.or (QB hu) (KM (by omega))) bu bu hm) (h1 sl S σ F R H hs hr _ (aK.bind post fun d1 S1 x F1 R1 H1 _ rx rep1 s1 r1 ah=>h2 sl S1 σ F1 R1 H1 (hs.mono s1 r1) rep1 _ (aK.bind ah fun d2 S2 y F2 R2 H2 _ ry rep2 s2 r2 post2=>DH (rx.mono s2 r2) ry rep2 post2)))
theorem Gp (hu:C.X.A.units+65 < cLine) (h1:Ej C m1 a) (h2:Ej C m2 b) (hm:Mk .NotIn b:=by first | exact nomark _ | rfl):Ej C (Hq true m1 m2) (.Compare a [.NotIn] [b] pos):=.mk fun sl S σ F R H hs hr Q post =>
 ED.of (pe_cmpR (OpR.or (Kv hu) (N0 (by omega))) bu bu hm) (h1 sl S σ F R H hs hr _ (aK.bind post fun d1 S1 x F1 R1 H1 _ rx rep1 s1 r1 ah=>h2 sl S1 σ F1 R1 H1 (hs.mono s1 r1) rep1 _ (aK.bind ah fun d2 S2 y F2 R2 H2 _ ry rep2 s2 r2 post2=>IF (rx.mono s2 r2) ry rep2 post2)))
def O8 (neg:Bool) (m1 m2:M):MT:=fun sl S=>(Hq neg m1 m2 sl S).bind IX
theorem om (hu:C.X.A.units+65 < cLine) (h1:Ej C m1 a) (h2:Ej C m2 b) (hm:Mk .In b:=by first | exact nomark _ | rfl):Tj C (O8 false m1 m2) (.Compare a [.In] [b] pos) :=
 Qx (pt_cmpR (OpR.or (QB hu) (KM (by omega))) bu bu hm) fun sl S σ F R H hs hr Q post=>h1 sl S σ F R H hs hr _ (aK.bind post fun d1 S1 x F1 R1 H1 _ rx rep1 s1 r1 ah=>h2 sl S1 σ F1 R1 H1 (hs.mono s1 r1) rep1 _ (aK.bind ah fun d2 S2 y F2 R2 H2 _ ry rep2 s2 r2 post2=>DH (rx.mono s2 r2) ry rep2 post2))
end
section
variable {K:Fr} {F H:Hp} {R:List Addr} {S:ag}
theorem pd {key:Key}:∀ {kvs:List (Key×V)},(kvs.any fun q=>decide (q.1=key))=true↔lX key∈kvs.map fun q=>lX q.1
 | []=>by simp
 | q::kvs=>by
  rw[List.any_cons,List.map_cons,List.mem_cons,Bool.or_eq_true,pd,decide_eq_true_eq]
  exact⟨fun h=>h.imp (fun e=>by rw[e]) id,fun h=>h.imp (fun e=>(xr e).symm) id⟩
theorem HZ {key:Key} {v:V} {kvs:List (Key×V)}:(putK kvs key v).map (fun q=>lX q.1)=yg (kvs.map fun q=>lX q.1) (lX key):=by
 unfold putK yg
 by_cases h:(kvs.any fun q=>decide (q.1=key))=true
 · rw[if_pos h,if_pos (pd.mp h),List.map_map]
   refine List.map_congr_left fun q _=>?_
   show lX (if q.1=key then (q.1,v) else q).1=lX q.1
   split <;> rfl
 · rw[if_neg h,if_neg (fun z=>h (pd.mpr z)),List.map_append]
   rfl
theorem HA {key:Key} {v:V} {d:D} {kvs:List (Key×V)} {ds:List D} (hv:aP K F R v d) (h:aF K F R (kvs.map (·.2)) ds):aF K F R ((putK kvs key v).map (·.2)) (Fv (kvs.map fun q=>lX q.1) ds (lX key) d):=by
 unfold putK Fv
 by_cases hc:(kvs.any fun q=>decide (q.1=key))=true
 · rw[if_pos hc,if_pos (pd.mp hc)]
   clear hc
   induction kvs generalizing ds with
   | nil=>cases h; exact .nil
   | cons q kvs ih =>
    cases h with
    | @cons _ d' _ ds h1 h2 =>
     refine .cons ?_ (ih h2)
     dsimp only
     by_cases e:q.1=key
     · rw[if_pos e,if_pos (by rw[e])]; exact hv
     · rw[if_neg e,if_neg (fun z=>e (xr z))]; exact h1
 · rw[if_neg hc,if_neg (fun z=>hc (pd.mpr z)),List.map_append]
   exact h.append (.cons hv .nil)
theorem pJ {k:NestedKey} {p:P} (hp:pA p=some k):∀ {kvs:List (NestedKey×Addr×V)} {ks:List P},ks.map pA=kvs.map (fun q=>some q.1)→((kvs.any fun q=>decide (q.1=k))=true↔p∈ks)
 | [],[],_=>by simp
 | [],_::_,e=>by cases e
 | _::_,[],e=>by cases e
 | q::kvs,k'::ks,e=>by
  simp only[List.map_cons,List.cons.injEq] at e
  rw[List.any_cons,List.mem_cons,Bool.or_eq_true,pJ hp e.2,decide_eq_true_eq]
  refine⟨fun h=>h.imp (fun z=>?_) id,fun h=>h.imp (fun z=>?_) id⟩
  · exact wk _ _ _ hp (by rw[e.1,z])
  · rw[← z,hp] at e; exact (Option.some.inj e.1).symm
theorem Hl {k:NestedKey} {p:P} {b:Addr} {v:V} {kvs:List (NestedKey×Addr×V)} {ks:List P} (hp:pA p=some k) (hd:k.depth≤8) (hr:Rp K F (.ref b) p) (h:tv K F kvs ks):tv K F (xk kvs k b v) (yg ks p):=by
 unfold xk yg
 by_cases hc:(kvs.any fun q=>decide (q.1=k))=true
 · rw[if_pos hc,if_pos ((pJ hp h.nk).mp hc)]
   have e1:∀ q:NestedKey×Addr×V,(if q.1=k then (q.1,q.2.1,v) else q).1=q.1:=fun q=>by split <;> rfl
   have e2:∀ q:NestedKey×Addr×V,(if q.1=k then (q.1,q.2.1,v) else q).2.1=q.2.1:=fun q=>by split <;> rfl
   refine⟨?_,?_,fun q hq=>?_⟩
   · rw[List.map_map]
     have:(fun q:NestedKey×Addr×V=>V.ref q.2.1) ∘ (fun q=>if q.1=k then (q.1,q.2.1,v) else q)=fun q=>V.ref q.2.1:=by funext q; show V.ref _=_; rw[e2]
     rw[this]; exact h.rp
   · rw[List.map_map]
     have:(fun q:NestedKey×Addr×V=>some q.1) ∘ (fun q=>if q.1=k then (q.1,q.2.1,v) else q)=fun q=>some q.1:=by funext q; show some _=_; rw[e1]
     rw[this]; exact h.nk
   · obtain⟨q',ul,rfl⟩:=List.mem_map.mp hq
     rw[e1]; exact h.dp q' ul
 · rw[if_neg hc,if_neg (fun z=>hc ((pJ hp h.nk).mpr z))]
   refine⟨?_,?_,fun q hq=>?_⟩
   · rw[List.map_append]; exact h.rp.append (.cons hr .nil)
   · rw[List.map_append,List.map_append,h.nk]; simp[hp]
   · rcases List.mem_append.mp hq with hq | hq
     · exact h.dp q hq
     · simp at hq; subst hq; exact hd
theorem Ib {k:NestedKey} {p:P} {b:Addr} {v:V} {d:D} (hp:pA p=some k) (hv:aP K F R v d):∀ {kvs:List (NestedKey×Addr×V)} {ks:List P} {ds:List D},ks.map pA=kvs.map (fun q=>some q.1)→aF K F R (kvs.map (·.2.2)) ds→aF K F R ((xk kvs k b v).map (·.2.2)) (Fv ks ds p d):=by
 intro kvs ks ds hn h
 unfold xk Fv
 by_cases hc:(kvs.any fun q=>decide (q.1=k))=true
 · rw[if_pos hc,if_pos ((pJ hp hn).mp hc)]
   clear hc
   induction kvs generalizing ds ks with
   | nil =>
    cases h
    cases ks with
    | nil=>exact .nil
    | cons=>cases hn
   | cons q kvs ih =>
    cases ks with
    | nil=>cases hn
    | cons k' ks =>
     simp only[List.map_cons,List.cons.injEq] at hn
     cases h with
     | @cons _ d' _ ds h1 h2 =>
      refine .cons ?_ (ih hn.2 h2)
      dsimp only
      by_cases e:q.1=k
      · rw[if_pos e,if_pos (wk _ _ _ (by rw[hn.1,e]) hp)]; exact hv
      · rw[if_neg e,if_neg (fun z=>e (by rw[z,hp] at hn; exact (Option.some.inj hn.1).symm))]; exact h1
 · rw[if_neg hc,if_neg (fun z=>hc ((pJ hp hn).mpr z)),List.map_append]
   exact h.append (.cons hv .nil)
theorem bQ.dicSet {G:Hp} {n:Nat} {t:Bool} {ks ks':List P} {ds ds':List D} {a:Addr} {o:HO} (h:bQ K G F R S H) (e:S[n]?=some (.dic t ks ds)) (ea:R[n]?=some a) (hc:dE K F R a (one a o) (.dic t ks' ds')):bQ K G F R (S.set n (.dic t ks' ds')) (upd H a o) :=
 h.mut (q':=id) e ea fun q ok _=>by
  have key:∀ o',upd (one a o') a o=one a o:=fun o'=>by
   funext b
   unfold upd one
   by_cases hb:b=a
   · rw[if_pos hb,if_pos hb]
   · rw[if_neg hb,if_neg hb,if_neg hb]
  cases ok with
  | dicK hk hr=>exact⟨by rw[dZ]; exact fun z=>(nomatch z),by rw[key]; exact hc⟩
  | dicN h1 h2 h3 hr=>exact⟨by rw[dZ]; exact fun z=>(nomatch z),by rw[key]; exact hc⟩
end
def Q8 (K:Fr):TSet:=fun o i v H Q=>(∃ a kvs k,o=.ref a∧i=kV k∧H a=some (.dK kvs)∧kvs.length < sizeLine∧Q (upd H a (.dK (putK kvs k v)))) ∨
 ∃ a kvs ks b p k,o=.ref a∧i=.ref b∧H a=some (dN K.pg K.w a kvs)∧tv K H kvs ks∧Rp K H (.ref b) p∧pA p=some k∧k.depth≤8∧kvs.length < sizeLine∧Q (upd H a (dN K.pg K.w a (xk kvs k b v)))
theorem LP {X:Cx} (hu:X.A.units+16 < cLine):PSet X (Q8 (qd X)):=by
 intro pins s σ H o i v ov iv u Q I ro ri rv h
 rcases h with ⟨a,kvs,k,rfl,rfl,e,hl,q⟩ | ⟨a,kvs,ks,b,p,k,rfl,rfl,e,hk,hp,hn,hd,hl,q⟩
 · cases ro
   exact d_setItem (by omega) I (DPut.k e hl) ri rv fun s' I'=>⟨_,I',q⟩
 · cases ro
   cases ri
   exact Ht hu I e hk hp hn hd hl rv fun s' I'=>⟨_,I',q⟩
theorem PSet.or {X:Cx} {t1 t2:TSet} (h1:PSet X t1) (h2:PSet X t2):PSet X (fun o i v H Q=>t1 o i v H Q∨t2 o i v H Q):=by
 intro pins s σ H o i v ov iv u Q I ro ri rv h
 rcases h with h | h
 · exact h1 pins s σ H o i v ov iv u Q I ro ri rv h
 · exact h2 pins s σ H o i v ov iv u Q I ro ri rv h
def qW (S:ag) (n:Nat) (k v:D):Option ag:=match S[n]? with
 | some (.lst ds)=>match view S k with
  | some (.int i)=>match ixN ds.length i with
   | some j=>some (S.set n (.lst (ds.set j v)))
   | none=>none
  | _=>none
 | some (.dic t ks ds)=>match view S k with
  | some p=>if jG t p=true∧ks.length < sizeLine then some (S.set n (.dic t (yg ks p) (Fv ks ds p v))) else none
  | none=>none
 | _=>none
section
variable {C:Kx} {a b c e o tg:Expr} {es rest:List Expr} {pos p apos cpos:Pos} {x:Str} {m m1 m2 mo me mi:M} {ma:MA}
theorem Mr {kvs:List (Key×V)}:(kvs.map fun q=>lX q.1).length=kvs.length:=List.length_map ..
theorem tv.len {K:Fr} {F:Hp} {kvs:List (NestedKey×Addr×V)} {ks:List P} (h:tv K F kvs ks):ks.length=kvs.length:=by
 have:=congrArg List.length h.nk
 rw[List.length_map,List.length_map] at this; exact this
theorem Hi {F H:Hp} {R:List Addr} {S S':ag} {n:Nat} {k v:D} {x y:V} {l:Addr} {Q:Hp→Prop} (el:R[n]?=some l) (ry:aP C.K F R y k) (rx:aP C.K F R x v) (rep:bQ C.K C.G F R S H) (e:qW S n k v=some S')
  (q:∀ H',bQ C.K C.G F R S' H'→Q H'):rSetL (.ref l) y x H Q∨Q8 C.K (.ref l) y x H Q:=by
 unfold qW at e
 cases hn:S[n]? with
 | none=>simp only[hn] at e; cases e
 | some cl =>
  cases cl with
  | lst ds =>
   simp only[hn] at e
   cases hv:view S k with
   | none=>simp only[hv] at e; cases e
   | some kp =>
    cases kp with
    | int i =>
     simp only[hv] at e
     cases hj:ixN ds.length i with
     | none=>simp only[hj] at e; cases e
     | some j =>
      simp only[hj] at e; cases e
      obtain⟨l',vs,e1,e2,PP⟩:=rep.lstAt hn
      rw[el] at e1; cases e1
      exact .inl ⟨l,vs,i,j,rfl,(ec ry rep hv).int,e2,by rw[PP.length]; exact hj,q _ (rep.lstSet hn el (aF.set rx j PP))⟩
    | _=>simp only[hv] at e; cases e
  | dic t ks ds =>
   simp only[hn] at e
   cases hv:view S k with
   | none=>simp only[hv] at e; cases e
   | some kp =>
    simp only[hv] at e
    obtain⟨⟨hk,hl⟩,rfl⟩:=cW e
    refine .inr ?_
    have hy:=ec ry rep hv
    obtain⟨a',q',e1,ok,out⟩:=rep.at hn
    rw[el] at e1; cases e1
    cases ok with
    | @dicK kvs _ _ hks hr =>
     obtain⟨key,hk⟩:=GF hk
     have ek:=DB hk
     subst ek
     subst hks
     refine .inl ⟨l,kvs,key,rfl,LL hy hk,(out l _ dZ).2,by rw[Mr] at hl; exact hl,q _ ?_⟩
     exact rep.dicSet hn el (by rw[← HZ (v:=x)]; exact .dicK rfl (HA rx hr))
    | @dicN kvs _ _ h1 h2 h3 hr =>
     obtain⟨ps,key,rfl,Zw,hd⟩:=F7 hk
     have rp:=hy.tupP
     obtain⟨b,vs,rfl,_,_⟩:=hy.tupE
     have SW:tv C.K F kvs ks:=⟨h1,h2,h3⟩
     refine .inr ⟨l,kvs,ks,b,_,key,rfl,rfl,(out l _ dZ).2,SW.mono rep.sub,Rp.mono rep.sub _ _ rp,Zw,hd,by rw[← SW.len]; exact hl,q _ ?_⟩
     have k':=Hl (v:=x) Zw hd rp SW
     exact rep.dicSet hn el (.dicN k'.rp k'.nk k'.dp (Ib Zw rx h2 hr))
  | _=>simp only[hn] at e; cases e
def Dz (mo mi me:M):MS:=fun sl S=>(me sl S).st sl fun v S1=>(mo sl S1).st sl fun d S2=>(mi sl S2).st sl fun i S3=>match d with
 | .ref n=>match qW S3 n i v with
  | some S4=>.nx sl S4
  | none=>.no
 | _=>.no
theorem xo (hu:C.X.A.units+16 < cLine) (h0:Ej C me e) (h1:Ej C mo o) (h2:Ej C mi a) (ha:∀ v,assign (.Subscript o a apos) C.X.env v=(do
   let ov ← holding [v] (eval o C.X.env)
   let iv ← holding [v,ov] (eval a C.X.env)
   standAt apos
   holding [v,ov,iv] (setItem ov iv v)
   release [v,ov,iv] []):=by intro _; rfl) (nX:swapsWithSole [.Subscript o a apos] e pos.line C.X.env=pure false:=by rfl) (hw:swappedStores [.Subscript o a apos] e C.X.env=pure none:=by rfl)
  (zm:(assignEach [.Subscript o a apos] C.X.env).map (·.2)=[assign (.Subscript o a apos) C.X.env]:=by rfl):zl C (Dz mo mi me) (.Assign [.Subscript o a apos] e pos):=.mk fun sl S σ F R H hs hr D post =>
 yC.of (ps_asg bu (pg_sub bu bu (PSet.or set_list (LP hu)) ha) nX hw zm) (h0 sl S σ F R H hs hr _ (bM.bind post hs fun v S1 x F1 R1 H1 _ rx rep1 s1 r1 mx ah=>h1 sl S1 σ F1 R1 H1 mx rep1 _ (bM.bind ah mx fun d S2 y F2 R2 H2 _ ry rep2 s2 r2 hs2 post2=>h2 sl S2 σ F2 R2 H2 hs2 rep2 _ (bM.bind post2 hs2 fun i S3 z F3 R3 H3 _ rz rep3 s3 r3 Fq post3=>by
  cases d with
  | p q=>exact post3.elim
  | ref n =>
   cases hp:qW S3 n i v with
   | none=>simp only[hp] at post3; exact post3.elim
   | some S4 =>
    simp only[hp] at post3
    obtain⟨l,el,rfl⟩:=ry.mono s3 r3
    exact Hi el rz ((rx.mono s2 r2).mono s3 r3) rep3 hp fun H' yG=>post3 σ F3 R3 H' Fq yG (Same.refl _) aI))))
def W4 (t:Bool):M:=fun _ S=>.ok (.ref S.length) (S++[.dic t [] []])
theorem KB:Ej C (W4 false) (.Dict [] [] pos):=.mk fun sl S σ F R H hs hr Q post =>
 ED.of pe_dnewK fun l hn=>post _ F (R++[l]) _ (show aP C.K _ _ _ (.ref S.length) from ⟨l,mV hr.len,rfl⟩) (hr.push1 hn (.dicK (kvs:=[]) rfl .nil)) (Same.refl _) iz
end
def sM {α:Type}:List Str→List α→Str→Option α
 | k::ks,d::ds,f=>if k=f then some d else sM ks ds f
 | _,_,_=>none
def yr (f:Str):List Str→List Str
 | []=>[f]
 | k::ks=>if k=f then k::ks else k::yr f ks
def yz {α:Type} (f:Str) (x:α):List Str→List α→List α
 | k::ks,d::ds=>if k=f then x::ds else d::yz f x ks ds
 | _,_=>[x]
def lE (S:ag):D→Option (Str×List Str×List D)
 | .p (.ins c ks ps)=>some (c,ks,ps.map .p)
 | .ref n=>match S[n]? with
  | some (.ins c ks ds)=>some (c,ks,ds)
  | _=>none
 | _=>none
section
variable {K:Fr} {F H:Hp} {R:List Addr} {S:ag}
theorem rJ {G:Hp} {v:V} {d:D} {c:Str} {ks:List Str} {ds:List D} (hv:aP K F R v d) (rep:bQ K G F R S H) (e:lE S d=some (c,ks,ds)):∃ a dx fs,v=.ref a∧H a=some (.ins (He.ga K.K c) dx fs)∧ks=fs.map (·.1)∧aF K F R (fs.map (·.2)) ds:=by
 cases d with
 | p q =>
  cases q with
  | ins c' ks' ps =>
   cases e
   cases (show Rp K F v (.ins c ks ps) from hv) with
   | ins h1 h2 h3 h4=>exact⟨_,_,_,rfl,rep.sub _ _ h1,h3,aF.of_p h4⟩
  | _=>cases e
 | ref n =>
  cases hn:S[n]? with
  | none=>simp only[lE,hn] at e; cases e
  | some cl =>
   cases cl with
   | ins c' ks' ds' =>
    simp only[lE,hn] at e; cases e
    obtain⟨a,q,e1,ok,out⟩:=rep.at hn
    obtain⟨a',Da,rfl⟩:=hv
    rw[e1] at Da; cases Da
    cases ok with
    | @ins dx _ fs _ _ hd hk hr=>exact⟨a,dx,fs,rfl,(out a _ nR).2,hk,hr⟩
   | _=>simp only[lE,hn] at e; cases e
theorem ww {f:Str}:∀ {fs:List (Str×V)} {ds:List D},aF K F R (fs.map (·.2)) ds→(match sM (fs.map (·.1)) ds f with
  | some d=>∃ v,fs.lookup f=some v∧aP K F R v d
  | none=>fs.lookup f=none)
 | [],_,h=>by cases h; exact rfl
 | q::fs,_,h=>by
  cases h with
  | @cons v d vs ds h1 h2 =>
   obtain⟨k,u⟩:=q
   simp only[List.map_cons,sM]
   by_cases e:k=f
   · rw[if_pos e]
     exact⟨u,by rw[List.lookup_cons,show (f == k)=true by simp[e]],h1⟩
   · rw[if_neg e]
     have:List.lookup f ((k,u)::fs)=List.lookup f fs:=by rw[List.lookup_cons,show (f == k)=false by simp; exact fun z=>e z.symm]
     rw[this]
     exact ww h2
theorem zt {f:Str} {v:V}:∀ fs:List (Str×V),(putF f v fs).map (·.1)=yr f (fs.map (·.1))
 | []=>rfl
 | (k,u)::fs=>by
  simp only[putF,List.map_cons,yr]
  by_cases e:k=f
  · rw[if_pos e,if_pos e]; rfl
  · rw[if_neg e,if_neg e,List.map_cons,zt fs]
theorem Ap {f:Str} {v:V} {d:D} (hv:aP K F R v d):∀ {fs:List (Str×V)} {ds:List D},aF K F R (fs.map (·.2)) ds→aF K F R ((putF f v fs).map (·.2)) (yz f d (fs.map (·.1)) ds)
 | [],_,h=>by cases h; exact .cons hv .nil
 | (k,u)::fs,_,h=>by
  cases h with
  | @cons _ d' _ ds h1 h2 =>
   simp only[putF,List.map_cons,yz]
   by_cases e:k=f
   · rw[if_pos e,if_pos e]; exact .cons hv h2
   · rw[if_neg e,if_neg e]; exact .cons h1 (Ap hv h2)
end
def QO (K:PySem.W.Frag) (cs:List Str) (f:Str):Prop:=∀ c∈cs,Cls K (He.ga K c)∧NoAttr K (He.ga K c) f
def yk (cs:List Str) (f:Str) (S:ag) (d:D):Rs D:=match lE S d with
 | some (c,ks,ds)=>if c∈cs then match sM ks ds f with
   | some r=>.ok r S
   | none=>.no
  else .no
 | none=>.no
def mw (cs:List Str) (f:Str) (m:M):M:=fun sl S=>(m sl S).bind fun d S1=>yk cs f S1 d
section
variable {C:Kx} {a b c e o tg:Expr} {es rest:List Expr} {pos pos' p apos cpos:Pos} {x f:Str} {m m1 m2 mo me mi:M} {ma:MA} {cs:List Str}
theorem gG (hf:QO C.X.K cs f) (h:Ej C m o) (hb:Bs C o f:=by rfl):Ej C (mw cs f m) (.Attribute o f pos):=.mk fun sl S σ F R H hs hr Q post =>
 ED.of (pe_fld bu hb) (h sl S σ F R H hs hr _ (aK.bind post fun d S1 x F1 R1 H1 _ rx rep1 s1 r1 ah=>by
  unfold yk at ah
  cases hi:lE S1 d with
  | none=>simp only[hi] at ah; exact ah.elim
  | some q =>
   obtain⟨c,ks,ds⟩:=q
   simp only[hi] at ah
   by_cases hc:c∈cs
   · rw[if_pos hc] at ah
     obtain⟨a,dx,fs,rfl,ea,rfl,hv⟩:=rJ rx rep1 hi
     have:=ww (f:=f) hv
     cases hl:sM (fs.map (·.1)) ds f with
     | none=>simp only[hl] at ah; exact ah.elim
     | some r =>
      simp only[hl] at ah this
      obtain⟨v,e1,e2⟩:=this
      exact⟨a,_,dx,fs,v,rfl,ea,(hf c hc).1,(hf c hc).2,e1,ah.okv e2 rep1⟩
   · rw[if_neg hc] at ah; exact ah.elim))
def sr (cs:List Str) (f:Str) (mo me:M):MS:=fun sl S=>(me sl S).st sl fun v S1=>(mo sl S1).st sl fun d S2=>match d with
 | .ref n=>match S2[n]? with
  | some (.ins c ks ds)=>if c∈cs∧ks.length < 1000 then .nx sl (S2.set n (.ins c (yr f ks) (yz f v ks ds))) else .no
  | _=>.no
 | _=>.no
theorem uB (hf:QO C.X.K cs f) (h0:Ej C me e) (h1:Ej C mo o) (nX:swapsWith e (some (.Attribute o f pos')) pos.line C.X.env=pure false:=by rfl):zl C (sr cs f mo me) (.Assign [.Attribute o f pos'] e pos):=.mk fun sl S σ F R H hs hr D post =>
 yC.of (ps_fld bu bu nX) (h0 sl S σ F R H hs hr _ (bM.bind post hs fun v S1 x F1 R1 H1 _ rx rep1 s1 r1 mx ah=>h1 sl S1 σ F1 R1 H1 mx rep1 _ (bM.bind ah mx fun d S2 y F2 R2 H2 _ ry rep2 s2 r2 hs2 post2=>by
  cases d with
  | p q=>exact post2.elim
  | ref n =>
   cases hn:S2[n]? with
   | none=>simp only[hn] at post2; exact post2.elim
   | some cl =>
    cases cl with
    | ins c ks ds =>
     simp only[hn] at post2
     by_cases hc:c∈cs∧ks.length < 1000
     · rw[if_pos hc] at post2
       obtain⟨a,q,e1,ok,out⟩:=rep2.at hn
       obtain⟨a',Da,rfl⟩:=ry
       rw[e1] at Da; cases Da
       cases ok with
       | @ins dx _ fs _ _ hd hk hr' =>
        subst hk
        refine⟨a,_,dx,fs,rfl,(out a _ nR).2,(hf c hc.1).1,(hf c hc.1).2,by have:=hc.2; rw[List.length_map] at this; exact this,?_⟩
        have ha:=(out a _ nR).2
        clear out
        refine post2 σ F2 R2 _ hs2 (rep2.mut (q':=id) hn e1 fun q ok hq=>?_) (Same.refl _) aI
        cases ok with
        | @ins dx' _ fs' _ _ hd' hk' hr2 =>
         have e2:=hq a _ nR
         rw[ha] at e2
         cases e2
         refine⟨by rw[nR]; exact fun z=>(nomatch z),?_⟩
         have e3:upd (IV a (.ins (He.ga C.X.K c) dx fs) dx (.own a)) a (.ins (He.ga C.X.K c) dx (putF f x fs))=IV a (.ins (He.ga C.X.K c) dx (putF f x fs)) dx (.own a):=by
          funext b
          unfold upd IV
          by_cases hb:b=a
          · rw[if_pos hb,if_pos hb]
          · rw[if_neg hb,if_neg hb,if_neg hb]
         rw[e3]
         exact .ins hd (zt fs).symm (Ap (rx.mono s2 r2) hr2)
     · rw[if_neg hc] at post2; exact post2.elim
    | _=>simp only[hn] at post2; exact post2.elim)))
end
def tj (P:Program) (w:World) (K:PySem.W.Frag) (mg:Str→Option Value) (base:Heap) (k:Nat) (f:Addr) (fn:Fn) (n:Nat) (dfl:List Z.P):Prop :=
 ∃ fd ps ds dvs,FnOk P w K mg base (L2N.CX P w) k f fd ps (FA ⟨K,P,w⟩ (n+dfl.length) fn)∧Binds K fd ps ds∧Vals dvs ds∧∀ F,ay ⟨K,P,w⟩ F dvs dfl
abbrev Kx.form (C:Kx) (k:Nat) (f:Addr) (fn:Fn) (n:Nat) (dfl:List P):Prop:=tj C.X.prog C.X.w C.X.K C.X.mg C.X.base k f fn n dfl
theorem tj.mono {Pg:Program} {w:World} {K:PySem.W.Frag} {mg:Str→Option Value} {base:Heap} {k j:Nat} {f:Addr} {fn:Fn} {n:Nat} {dfl:List P} (h:tj Pg w K mg base k f fn n dfl) (hj:k≤j):tj Pg w K mg base j f fn n dfl:=by
 obtain⟨fd,ps,ds,dvs,h1,h2⟩:=h
 exact⟨fd,ps,ds,dvs,h1.mono hj,h2⟩
section
variable {X:Cx} {CX:CXT} {k:Nat} {f C:Addr} {fd:FuncData} {ps:List Str} {sp:Sp} {dvs:List V} {ds:List Value} {E:L2.St→XK} {x m:Str} {p pos apos:Pos} {e o:Expr} {es:List Expr} {ta:TE} {t:TA}
def ER (C:Addr) (m:Str) (sp:Sp) (dvs:List V) (E:L2.St→XK) (ta:TE) (t:TA):TE:=fun σ H Q=>ta σ H fun x H1=>∃ a dx fs,x=.ref a∧H1 a=some (.ins C dx fs)∧fs.lookup m=none∧t σ H1 fun vs H2=>sp (x::(vs++dvs)) H2 Q (E σ)
theorem JM {pl:Sem Bool} (he:PE X o ta) (c:Cls X.K C) (hm:Meth X.K C m f) (F:FnOk X.prog X.w X.K X.mg X.base CX k f fd ps sp) (hr:Room k X.A) (hb:Binds X.K fd ps ds) (hd:Vals dvs ds) (hx:∀ σ,PassesAt CX X σ (E σ)) (ha:PA X (e::es) t)
  (hst:starEach (e::es) X.env=(false,eval e X.env)::starEach es X.env:=by exact bO rfl) (hpl:(backTo pos (starEach es X.env)).any (·.1)=false:=by exact de rfl)
  (ht:eval (.Call (.Attribute o m apos) (e::es) [] pos) X.env=(do
   let ov ← eval o X.env
   standAt apos.atName
   let (f,first) ← holding [ov] (getMethod ov m pl)
   callWith pos f first (backTo pos (starEach (e::es) X.env)) (backToKw pos (keywordEach [] X.env))):=by rfl) :
  PE X (.Call (.Attribute o m apos) (e::es) [] pos) (ER C m sp dvs E ta t):=by
 refine⟨fun pins s σ H Q I h=>?_⟩
 refine PySem.W.methodCall_KW (pl:=pl) (thn (he.run pins s σ H _ I h) fun u s1 ⟨x,H1,I1,rx,a,dx,fs,ex,ea,l,q⟩=>?_) ht
 subst ex
 obtain rfl:u=Value.ref a:=rx
 refine getmeth_ok I1 ea c hm l ?_
 refine PySem.W.callWith_K (first:=[.ref a]) (h₀:=X.base) I.ok.mod.kin hm.kp (thn (ha.run pos pins s1 σ H1 _ I1 q) fun us s2 ⟨vs,H2,I2,r,q2⟩=>⟨I2.kIn,?_⟩) hst hpl
 exact run_fnSD (us:=.ref a::us) (vs:=.ref a::vs) F hr hb hd (hx σ) I2 (.cons rfl r) q2
theorem Ij {pl:Sem Bool} (he:PE X o ta) (c:Cls X.K C) (hm:Meth X.K C m f) (F:FnOk X.prog X.w X.K X.mg X.base CX k f fd ps sp) (hr:Room k X.A) (hb:Binds X.K fd ps ds) (hd:Vals dvs ds) (hx:∀ σ,PassesAt CX X σ (E σ))
  (ht:eval (.Call (.Attribute o m apos) [] [] pos) X.env=(do
   let ov ← eval o X.env
   standAt apos.atName
   let (f,first) ← holding [ov] (getMethod ov m pl)
   callWith pos f first (backTo pos (starEach [] X.env)) (backToKw pos (keywordEach [] X.env))):=by rfl) :
  PE X (.Call (.Attribute o m apos) [] [] pos) (ER C m sp dvs E ta tNil):=by
 refine⟨fun pins s σ H Q I h=>?_⟩
 refine PySem.W.methodCall_KW (pl:=pl) (thn (he.run pins s σ H _ I h) fun u s1 ⟨x,H1,I1,rx,a,dx,fs,ex,ea,l,q⟩=>?_) ht
 subst ex
 obtain rfl:u=Value.ref a:=rx
 refine getmeth_ok I1 ea c hm l ?_
 exact PySem.W.callWith_K0 (first:=[.ref a]) I1.kIn hm.kp (run_fnSD (us:=[.ref a]) (vs:=[.ref a]) F hr hb hd (hx σ) I1 (.cons rfl .nil) q)
def xA (C:Addr) (sp:Sp) (dvs:List V) (E:L2.St→XK) (t:TA):TE:=fun σ H Q=>t σ H fun vs H1=>∀ x dx,H1 x=none→H1 dx=none→dx≠x →
 sp (.ref x::(vs++dvs)) (upd (upd H1 dx (.own x)) x (.ins C dx [])) (fun v H2=>v=.non∧Q (.ref x) H2) (E σ)
theorem tW {pins:List (Addr×Obj)} {σ:L2.St} {H:Hp} {s:Shared} {Q:VK} {us:List Value} {vs:List V} (M:L2.Mk X.K C f) (F:FnOk X.prog X.w X.K X.mg X.base CX k f fd ps sp) (hr:Room (k+1) X.A) (hb:Binds X.K fd ps ds) (hd:Vals dvs ds)
  (hx:PassesAt CX X σ (E σ)) (I:Inv X pins σ H s) (r:Vals vs us)
  (h:∀ x dx,H x=none→H dx=none→dx≠x→sp (.ref x::(vs++dvs)) (upd (upd H dx (.own x)) x (.ins C dx [])) (fun v H2=>v=.non∧Q (.ref x) H2) (E σ)) :
  wpAny (model X.prog X.w) X.A (call (.ref C) us) (EP X pins σ Q) X.xe s:=by
 have hq:=h (s.heap.objs.size+1) s.heap.objs.size (I.hok.fresh (Nat.le_succ _)) (I.hok.fresh (Nat.le_refl _)) (Nat.ne_of_lt (Nat.lt_succ_self _))
 have I2:=Inv.made (C:=C) I
 have r2:Vals (V.ref (s.heap.objs.size+1)::(vs++dvs)) (Value.ref (s.heap.objs.size+1)::(us++ds)):=.cons rfl (r.append hd)
 have hl:(Value.ref (s.heap.objs.size+1)::us++ds).length=ps.length:=by
  have e:=r2.length
  rw[F.len _ _ _ _ hq] at e
  exact e.symm
 refine wpAny_call (make_map (f:=f) I.kIn M.makes M.init (beq_iff_eq.mp M.fn) (codeAny_mono (F.run _ X.stack _ _ ⟨Value.ref (s.heap.objs.size+1)::us,[]⟩ (Value.ref (s.heap.objs.size+1)::(us++ds)) _ _ (E σ) (hr.make C us [])
  (I2.env0.make C us []) (hb _ (Value.ref (s.heap.objs.size+1)::us) I2.kIn hl) r2 hq) fun r s' ul=>?_))
 cases r with
 | error e=>exact hx pins _ _ e s' I2 ul
 | ok fl =>
  cases fl with
  | ret u =>
   obtain⟨v,H',I3,rv,ev,q3⟩:=I2.after ul
   subst ev
   exact⟨rv,⟨V.ref (s.heap.objs.size+1),H',I3,rfl,q3⟩⟩
  | next=>exact False.elim ul
  | brk=>exact False.elim ul
  | cont=>exact False.elim ul
theorem LH (M:L2.Mk X.K C f) (F:FnOk X.prog X.w X.K X.mg X.base CX k f fd ps sp) (hr:Room (k+1) X.A) (hg:Gl X x) (hm:X.mg x=some (.ref C)) (hb:Binds X.K fd ps ds) (hd:Vals dvs ds) (hx:∀ σ,PassesAt CX X σ (E σ))
  (ha:PA X (e::es) t) (mD:(x == ("__debug__" : Str))=false:=by decide) (he:starEach (e::es) X.env=(false,eval e X.env)::starEach es X.env:=by exact bO rfl) (hpl:(backTo pos (starEach es X.env)).any (·.1)=false:=by exact de rfl) :
  PE X (.Call (.Name x p) (e::es) [] pos) (xA C sp dvs E t):=by
 refine⟨fun pins s σ H Q I h=>?_⟩
 refine wpAny_Call_Name_kw (ld_glob I hg hm ?_ mD)
 refine PySem.W.callWith_K (h₀:=X.base) I.ok.mod.kin M.kp (thn (ha.run pos pins s σ H _ I h) fun us s1 ⟨vs,H1,I1,r,q⟩=>⟨I1.kIn,?_⟩) he hpl
 exact tW M F hr hb hd (hx σ) I1 r q
end
section
variable {C:Kx} {a b c e o:Expr} {es rest:List Expr} {pos p apos:Pos} {x m cn:Str} {ma:MA} {mo:M} {fn:Fn} {k n:Nat} {dfl:List P} {f:Addr}
def AO (n:Nat) (dfl:List P) (f:Fn) (ma:MA):M:=fun sl S=>(ma sl S).bind fun ds S1=>if ds.length=n then f (ds++dfl.map .p) S1 else .no
theorem wb {ds:List D} {dfl:List P} {n:Nat} (h:ds.length=n):(ds++dfl.map D.p).length=n+dfl.length:=by rw[List.length_append,List.length_map,h]
theorem Ka (hF:C.form k (He.ga C.X.K x) fn n dfl) (hk:PySem.W.keepIn C.X.K (.ref (He.ga C.X.K x))=true) (hm:C.X.mg x=some (.ref (He.ga C.X.K x))) (hr:Room k C.X.A) (h:Aj C ma (e::es)) (hg:Gl C.X x:=by rfl) (mD:(x == ("__debug__" : Str))=false:=by decide) (he:Se C e es:=by exact bO rfl) (hpl:Pl C es pos:=by exact de rfl) :
  Ej C (AO n dfl fn ma) (.Call (.Name x p) (e::es) [] pos):=.mk fun sl S σ F R H hs hr' Q post=>by
 obtain⟨fd,ps,ds,dvs,h1,h2,h3,h4⟩:=hF
 refine ED.of (pe_callSD h1 hr hg hm hk h2 h3 (fun σ=>L2N.passAt C.tk σ) eY mD he hpl) (h sl S σ F R H hs hr' _ (aK.bind post fun ds S1 vs F1 R1 H1 _ rx rep1 s1 r1 ah=>?_))
 by_cases hl:ds.length=n
 · rw[if_pos hl] at ah
   have rr:=rx.append (aF.of_p (R:=R1) (h4 F1))
   exact⟨by rw[rr.length,wb hl],C.G,F1,R1,S1,_,rep1,rr,lC ah⟩
 · rw[if_neg hl] at ah; exact ah.elim
def jQ (cn m:Str) (n:Nat) (dfl:List P) (f:Fn) (mo:M) (ma:MA):M:=fun sl S=>(mo sl S).bind fun d S1=>match lE S1 d with
 | some (c,ks,vs)=>if c=cn∧sM ks vs m=(none:Option D) then (ma sl S1).bind fun ds S2=>if ds.length=n then f (d::(ds++dfl.map .p)) S2 else .no else .no
 | none=>.no
theorem Aa {E:L2.St→XK} {sp:Sp} {dvs:List V} {t:TA} {σ:L2.St} {F H:Hp} {R:List Addr} {S:ag} {sl:av} {Q:VK} (hE:E=WE C.W) (vT:sp=FA C.K (n+1+dfl.length) fn) (h4:∀ F,ay C.K F dvs dfl) (h1:Ej C mo o)
  (h2:∀ sl S σ F R H,SlR C.K C.px F R σ sl→bQ C.K C.G F R S H→∀ Q:List V→Hp→Prop,aK C σ F R (aF C.K) Q (ma sl S)→t σ H Q) (hs:SlR C.K C.px F R σ sl) (hr:bQ C.K C.G F R S H) (post:aK C σ F R (aP C.K) Q (jQ cn m n dfl fn mo ma sl S)) :
  ER (He.ga C.X.K cn) m sp dvs E (ED C.X o) t σ H Q:=by
 subst hE vT
 refine h1 sl S σ F R H hs hr _ (aK.bind post fun d S1 x F1 R1 H1 _ rx rep1 s1 r1 ah=>?_)
 cases hi:lE S1 d with
 | none=>simp only[hi] at ah; exact ah.elim
 | some q =>
  obtain⟨c,ks,vs⟩:=q
  simp only[hi] at ah
  by_cases hc:c=cn∧sM ks vs m=(none:Option D)
  · rw[if_pos hc] at ah
    obtain⟨rfl,hlk⟩:=hc
    obtain⟨a,dx,fs,rfl,ea,rfl,hv⟩:=rJ rx rep1 hi
    have hn:=ww (f:=m) hv
    rw[hlk] at hn
    refine⟨a,dx,fs,rfl,ea,hn,h2 sl S1 σ F1 R1 H1 (hs.mono s1 r1) rep1 _ (aK.bind ah fun ds S2 vs' F2 R2 H2 _ rd rep2 s2 r2 post2=>?_)⟩
    by_cases hl:ds.length=n
    · rw[if_pos hl] at post2
      have rr:=aF.append rd (aF.of_p (R:=R2) (h4 F2))
      refine⟨by rw[List.length_cons,rr.length,wb hl]; omega,C.G,F2,R2,S2,_,rep2, .cons (rx.mono s2 r2) rr,lC post2⟩
    · rw[if_neg hl] at post2; exact post2.elim
  · rw[if_neg hc] at ah; exact ah.elim
theorem Pu {pl:Sem Bool} (hc:Cls C.X.K (He.ga C.X.K cn)) (hm:Meth C.X.K (He.ga C.X.K cn) m f) (hF:C.form k f fn (n+1) dfl) (hr:Room k C.X.A) (h1:Ej C mo o) (h2:Aj C ma (e::es)) (he:Se C e es:=by exact bO rfl) (hpl:Pl C es pos:=by exact de rfl)
  (ht:eval (.Call (.Attribute o m apos) (e::es) [] pos) C.X.env=(do
   let ov ← eval o C.X.env
   standAt apos.atName
   let (f,first) ← holding [ov] (getMethod ov m pl)
   callWith pos f first (backTo pos (starEach (e::es) C.X.env)) (backToKw pos (keywordEach [] C.X.env))):=by rfl):Ej C (jQ cn m n dfl fn mo ma) (.Call (.Attribute o m apos) (e::es) [] pos):=.mk fun sl S σ F R H hs hr' Q post=>by
 obtain⟨fd,ps,ds,dvs,g1,g2,g3,g4⟩:=hF
 exact ED.of (JM (pl:=pl) bu hc hm g1 hr g2 g3 (fun σ=>L2N.passAt C.tk σ) eY he hpl ht) (Aa rfl rfl g4 h1 h2 hs hr' post)
theorem C1 {pl:Sem Bool} (hc:Cls C.X.K (He.ga C.X.K cn)) (hm:Meth C.X.K (He.ga C.X.K cn) m f) (hF:C.form k f fn 1 dfl) (hr:Room k C.X.A) (h1:Ej C mo o)
  (ht:eval (.Call (.Attribute o m apos) [] [] pos) C.X.env=(do
   let ov ← eval o C.X.env
   standAt apos.atName
   let (f,first) ← holding [ov] (getMethod ov m pl)
   callWith pos f first (backTo pos (starEach [] C.X.env)) (backToKw pos (keywordEach [] C.X.env))):=by rfl):Ej C (jQ cn m 0 dfl fn mo aN) (.Call (.Attribute o m apos) [] [] pos):=.mk fun sl S σ F R H hs hr' Q post=>by
 obtain⟨fd,ps,ds,dvs,g1,g2,g3,g4⟩:=hF
 exact ED.of (Ij (pl:=pl) bu hc hm g1 hr g2 g3 (fun σ=>L2N.passAt C.tk σ) ht) (Aa (n:=0) rfl rfl g4 h1 (fun sl S σ F R H hs hr Q post=>(post.okv .nil hr:Q [] H)) hs hr' post)
def iU (cn:Str) (n:Nat) (dfl:List P) (f:Fn) (ma:MA):M:=fun sl S=>(ma sl S).bind fun ds S1=>if ds.length=n then match f (.ref S1.length::(ds++dfl.map .p)) (S1++[.ins cn [] []]) with
  | .ok (.p .non) S2=>.ok (.ref S1.length) S2
  | .exc x S2=>.exc x S2
  | _=>.no
 else .no
theorem pX {E:L2.St→XK} {sp:Sp} {dvs:List V} {t:TA} {σ:L2.St} {F H:Hp} {R:List Addr} {S:ag} {sl:av} {Q:VK} (hE:E=WE C.W) (vT:sp=FA C.K (n+1+dfl.length) fn) (h4:∀ F,ay C.K F dvs dfl)
  (h2:∀ sl S σ F R H,SlR C.K C.px F R σ sl→bQ C.K C.G F R S H→∀ Q:List V→Hp→Prop,aK C σ F R (aF C.K) Q (ma sl S)→t σ H Q) (hs:SlR C.K C.px F R σ sl) (hr:bQ C.K C.G F R S H) (post:aK C σ F R (aP C.K) Q (iU cn n dfl fn ma sl S)) :
  xA (He.ga C.X.K cn) sp dvs E t σ H Q:=by
 subst hE vT
 refine h2 sl S σ F R H hs hr _ (aK.bind post fun ds S1 vs F1 R1 H1 _ rd rep1 s1 r1 ah=>?_)
 intro x dx nx nd ne
 by_cases hl:ds.length=n
 · rw[if_pos hl] at ah
   have hq:∀ b,upd (upd H1 dx (.own x)) x (.ins (He.ga C.X.K cn) dx []) b=match IV x (.ins (He.ga C.X.K cn) dx []) dx (.own x) b with | some o=>some o | none=>H1 b:=fun b=>by
    unfold upd IV
    by_cases hb:b=x
    · rw[if_pos hb,if_pos hb]
    · rw[if_neg hb,if_neg hb]
      by_cases hb2:b=dx
      · rw[if_pos hb2,if_pos hb2]
      · rw[if_neg hb2,if_neg hb2]
   have rep2:=rep1.push (a:=x) (c:=.ins cn [] []) (q:=IV x (.ins (He.ga C.X.K cn) dx []) dx (.own x)) (H':=upd (upd H1 dx (.own x)) x (.ins (He.ga C.X.K cn) dx [])) (fun b o z=>by
    rcases Ls z with ⟨rfl,_⟩ | ⟨rfl,_⟩
    · exact nx
    · exact nd) (.ins (fs:=[]) ne rfl .nil) hq
   have rr:=(rd.append (aF.of_p (R:=R1) (h4 F1))).mono (Same.refl _) (iz (t:=[x]))
   refine⟨by rw[List.length_cons,rr.length,wb hl]; omega,C.G,F1,R1++[x],_,_,rep2, .cons (show aP C.K F1 (R1++[x]) (.ref x) (.ref S1.length) from ⟨x,mV rep1.len,rfl⟩) rr,?_⟩
   cases hf:fn (.ref S1.length::(ds++dfl.map .p)) (S1++[.ins cn [] []]) with
   | no=>simp only[hf] at ah; exact ah.elim
   | exc xc S2 =>
    simp only[hf] at ah
    exact fun cls d F' R' H' h1 h2 h3 h4=>ah cls d F' R' H' h1 h2 h3 (bf iz h4)
   | ok d S2 =>
    cases d with
    | ref k=>simp only[hf] at ah; exact ah.elim
    | p q =>
     cases q with
     | non =>
      simp only[hf] at ah
      intro v F' R' H' h1 h2 h3 h4
      cases (show Rp C.K F' v .non from h1)
      exact⟨rfl,ah (.ref x) F' R' H' (show aP C.K F' R' (.ref x) (.ref S1.length) from ⟨x,pU h4 (mV rep1.len),rfl⟩) h2 h3 (bf iz h4)⟩
     | _=>simp only[hf] at ah; exact ah.elim
 · rw[if_neg hl] at ah; exact ah.elim
theorem Fy {σ:L2.St} {F H:Hp} {R:List Addr} {S:ag} {Q:VK} {r:Rs D} (rep:bQ C.K C.G F R S H) (post:aK C σ F R (aP C.K) Q (qU S.length r)):aK C σ F R (aP C.K) Q r:=by
 have:=qa (E:=WE C.W σ) rep (lC post)
 cases r with
 | ok d S=>exact this
 | exc x S=>exact this
 | no=>exact this
theorem vN (hM:L2.Mk C.X.K (He.ga C.X.K x) f) (hm:C.X.mg x=some (.ref (He.ga C.X.K x))) (hF:C.form k f fn (n+1) dfl) (hr:Room (k+1) C.X.A) (h2:Aj C ma (e::es)) (hg:Gl C.X x:=by rfl) (mD:(x == ("__debug__" : Str))=false:=by decide) (he:Se C e es:=by exact bO rfl) (hpl:Pl C es pos:=by exact de rfl) :
  Ej C (iU x n dfl fn ma) (.Call (.Name x p) (e::es) [] pos):=.mk fun sl S σ F R H hs hr' Q post=>by
 obtain⟨fd,ps,ds,dvs,g1,g2,g3,g4⟩:=hF
 exact ED.of (LH hM g1 hr hg hm g2 g3 (fun σ=>L2N.passAt C.tk σ) eY mD he hpl) (pX rfl rfl g4 h2 hs hr' post)
end
structure I0 (P:Program) (w:World) (K:PySem.W.Frag) (mg:Str→Option Value) (base:Heap) (CX:CXT) (k:Nat) (f:Addr) (fd:FuncData) (ps:List Str) (sp:Sp):Prop where
 len:∀ vs H Q E,sp vs H Q E→vs.length=ps.length
 run:∀ (A:Around) (outer:List Env) (s:Shared) (H:Hp) (args:Args) (us:List Value) (vs:List V) (Q:VK) (E:XK),A.guards=some []→Room k A→Env0 P w K mg base A outer s H→BindsTo s fd args (ps.zip us)→Vals vs us→sp vs H Q E →
  codeAny (model P w) A (.call (.ref f) args) (CR CX outer P w H s Q E) s
section
variable {P:Program} {w:World} {K:PySem.W.Frag} {mg:Str→Option Value} {base:Heap} {CX:CXT} {k:Nat} {f:Addr} {fd:FuncData} {N ps:List Str} {sp Wh:Sp}
theorem I0.of (F:FnOk P w K mg base CX k f fd ps sp):I0 P w K mg base CX k f fd ps sp:=⟨F.len,fun A outer s H args us vs Q E _=>F.run A outer s H args us vs Q E⟩
theorem I0.mono {j:Nat} (F:I0 P w K mg base CX j f fd ps sp) (h:j≤k):I0 P w K mg base CX k f fd ps sp:=⟨F.len,fun A outer s H args us vs Q E g hr=>F.run A outer s H args us vs Q E g (hr.mono h)⟩
theorem I0.imp (F:I0 P w K mg base CX k f fd ps sp) (h:∀ vs H Q E,Wh vs H Q E→sp vs H Q E):I0 P w K mg base CX k f fd ps Wh:=⟨fun vs H Q E q=>F.len vs H Q E (h vs H Q E q),fun A outer s H args us vs Q E g hr e b r q=>F.run A outer s H args us vs Q E g hr e b r (h vs H Q E q)⟩
end
def TV (P:Program) (w:World) (K:PySem.W.Frag) (mg:Str→Option Value) (base:Heap) (k:Nat) (x:Str) (ps:List Str) (f:Fn):Prop :=
 ∃ fd,I0 P w K mg base (L2N.CX P w) k (He.ga K x) fd ps (FA ⟨K,P,w⟩ ps.length f)∧Binds K fd ps []∧PySem.W.keepIn K (.ref (He.ga K x))=true∧mg x=some (.ref (He.ga K x))∧∃ oc od osl,K.lookup (He.ga K x)=some ⟨oc,od, .func fd,osl⟩
section
variable {P:Program} {w:World} {K:PySem.W.Frag} {mg:Str→Option Value} {base:Heap} {k:Nat} {x:Str} {N ps:List Str} {st:Stmt} {f:Fn} {b:MS}
theorem jo.g (h:jo P w K mg base k x ps f):TV P w K mg base k x ps f:=by
 obtain⟨fd,h1,h2⟩:=h
 exact⟨fd, .of h1,h2⟩
theorem TV.mono {j:Nat} (h:TV P w K mg base k x ps f) (hj:k≤j):TV P w K mg base j x ps f:=by
 obtain⟨fd,h1,h2⟩:=h
 exact⟨fd,h1.mono hj,h2⟩
theorem TV.imp {f':Fn} (h:TV P w K mg base k x ps f) (hf:∀ G F R S ds H (Q:VK) (E:XK),bQ ⟨K,P,w⟩ G F R S H→mC ⟨K,P,w⟩ G F R Q E (f' ds S)→mC ⟨K,P,w⟩ G F R Q E (f ds S)):TV P w K mg base k x ps f':=by
 obtain⟨fd,h1,h2⟩:=h
 exact⟨fd,h1.imp fun vs H Q E ⟨hl,G,F,R,S,ds,rep,rx,post⟩=>⟨hl,G,F,R,S,ds,rep,rx,hf G F R S ds H Q E rep post⟩,h2⟩
theorem Lv {K:Fr} {G F:Hp} {R:List Addr} {S0:ag} {ds:List D} {Q:VK} {E:XK} {C:Kx} (hK:K=C.K) (hG:G=C.G) (hW:C.W=fun cls d _ H=>E cls d H) (post:mC K G F R Q E (runB N.length b ds S0)) :
  bM C F R { nx:=fun _ H'=>Q .non H',rt:=Q } (b (yV N.length ds) S0):=by
 subst hK hG
 unfold runB at post
 cases tZ:b (yV N.length ds) S0 with
 | nx sl S' =>
  rw[tZ] at post
  exact fun σ' F' R' H' _ h2 h3 h4=>post .non F' R' H' (show aP C.K F' R' .non (.p .non) from .non) h2 h3 h4
 | rt d S'=>rw[tZ] at post; exact post
 | exc x sl S' =>
  rw[tZ] at post
  intro cls d σ' F' R' H' h0 _ h2 h3 h4
  rw[hW]
  exact post cls d F' R' H' h0 h2 h3 h4
 | bk sl S'=>rw[tZ] at post; exact post.elim
 | ct sl S'=>rw[tZ] at post; exact post.elim
 | no=>rw[tZ] at post; exact post.elim
end
theorem Jk {K:PySem.W.Frag} {F:Hp} {a:Addr} {xs:List V} (h:JJ K a xs=true):NT K F a xs:=by
 unfold JJ at h
 split at h
 · rename_i its n sl q
   obtain⟨h1,h2⟩:=He.ba h
   exact .inr ⟨_,its,n,q,rfl,rfl,rfl,Nat.le_trans (of_decide_eq_true h1) (by decide),He.relAll_ok h2⟩
 · cases h
theorem zB {z:Str}:∀ {l:List DictEntry} {ks:List Str},l.map JS=ks.map some→z∉ks→l.find? (·.key.isStr z)=none∧l.any (·.refKey)=false
 | [],_,_,_=>⟨rfl,rfl⟩
 | e::r,[],h,_=>by cases h
 | e::r,k::ks,h,hz=>by
  have h1:JS e::r.map JS=some k::ks.map some:=h
  injection h1 with h2 h3
  simp only[List.mem_cons,not_or] at hz
  obtain⟨i1,i2⟩:=zB h3 hz.2
  unfold JS at h2
  split at h2
  · rename_i x t q
    cases h2
    have e1:e.key.isStr z=false:=by
     rw[q]
     simp only[Value.isStr]
     exact beq_eq_false_iff_ne.mpr (fun y=>hz.1 y.symm)
    have e2:e.refKey=false:=by simp[DictEntry.refKey,q]
    exact⟨by rw[List.find?_cons,e1]; exact i1,by rw[List.any_cons,e2,i2]; rfl⟩
  · cases h2
theorem Er {K:PySem.W.Frag} {a:Addr} {ks:List Str} (h:KC K a ks=true) {z:Str} (hz:z∉ks):PySem.W.nsIn K a z=some none:=by
 unfold KC at h
 unfold PySem.W.nsIn
 split at h
 · rename_i es n sl q
   rw[q]
   obtain⟨h1,h2⟩:=zB (of_decide_eq_true h) hz
   simp only[h1,h2]
   rfl
 · cases h
def jm (tab:zg) (z:Str):Option Ed:=(tab.find? fun p=>decide (p.1=z)).map (·.2)
structure Ha (w:World) (K:PySem.W.Frag) (mg:Str→Option Value) (x:Str) (tab:zg):Prop where
 at_:mg x=some (.ref (He.ga K x))
 dict:∃ es n,KDict K w (He.ga K x) es n
 no:∀ z,jm tab z=none→PySem.W.nsIn K (He.ga K x) z=some none
 yes:∀ z e,jm tab z=some e→∃ t,PySem.W.nsIn K (He.ga K x) z=some (some (.ref t))∧∀ (pg:Program) (F:Hp),Rp ⟨K,pg,w⟩ F (.ref t) e.p
theorem G0 {K:Fr} {F:Hp}:∀ cs:List Str,ay K F (cs.map fun x=>V.ref (He.ga K.K x)) (cs.map .glo)
 | []=>.nil
 | c::cs=>.cons (.glo c) (G0 cs)
theorem K7 {w:World} {K:PySem.W.Frag} {mg:Str→Option Value} {x:Str} {tab:zg} (h1:mg x=some (.ref (He.ga K x))) (h2:∃ es n,KDict K w (He.ga K x) es n) (h3:WU K x tab=true):Ha w K mg x tab:=by
 obtain⟨k1,k2⟩:=He.ba h3
 refine⟨h1,h2,fun z hz=>Er k1 fun hm=>?_,fun z e hz=>?_⟩
 · obtain⟨p,hp,e⟩:=List.mem_map.mp hm
   unfold jm at hz
   rw[Option.map_eq_none_iff,List.find?_eq_none] at hz
   exact hz p hp (decide_eq_true e)
 · unfold jm at hz
   cases q:tab.find? fun p=>decide (p.1=z) with
   | none=>rw[q] at hz; cases hz
   | some p =>
    rw[q] at hz
    cases hz
    have e1:p.1=z:=of_decide_eq_true (List.find?_some (p:=fun p:Str×Ed=>decide (p.1=z)) q)
    have e2:=List.all_eq_true.mp k2 p (List.mem_of_find?_eq_some q)
    rw[e1] at e2
    split at e2
    · rename_i t ht
      refine⟨t,ht,fun pg F=>?_⟩
      split at e2
      · rename_i cs hcs
        obtain⟨e3,e4⟩:=He.ba e2
        show Rp _ F (.ref t) p.2.p
        rw[hcs]
        refine .tupW (Jk e4) (G0 cs) ?_
        cases cs with
        | nil=>simp at e3
        | cons c cs=>rfl
      · rename_i c hc
        show Rp _ F (.ref t) p.2.p
        rw[hc,of_decide_eq_true e2]
        exact .glo c
    · cases e2
section
variable {C:Kx} {a b e:Expr} {pos p:Pos} {m1:M} {x:Str} {tab:zg}
def Ln (f:Str→ag→Rs D):D→ag→Rs D
 | .p (.str z),S=>f z S
 | _,_=>.no
def AW (tab:zg) (m1:M):M:=fun sl S=>(m1 sl S).bind (Ln fun z S1=>match jm tab z with
 | some e=>.ok (.p e.p) S1
 | none=>.no)
def Fj (f:Str→Bool):D→ag→Rs Bool
 | .p (.str z),S=>.ok (f z) S
 | _,_=>.no
def Gn (tab:zg) (m1:M):MT:=fun sl S=>(m1 sl S).bind (Fj fun z=>!(jm tab z).isSome)
theorem FU {σ:L2.St} {H:Hp} {Q:VK} (hg:Gl C.X x) (hm:C.X.mg x=some (.ref (He.ga C.X.K x))) (q:Q (.ref (He.ga C.X.K x)) H) (hd:(x == ("__debug__" : Str))=false:=by decide):ED C.X (.Name x pos) σ H Q:=by
 exact ED.of (pe_glob (v:=.ref (He.ga C.X.K x)) hg hm rfl hd) q
theorem zI (T:Ha C.X.w C.X.K C.X.mg x tab) (h1:Ej C m1 a) (hg:Gl C.X x:=by rfl) (hd:(x == ("__debug__" : Str))=false:=by decide) (hm:Mk .NotIn (.Name x p):=by first | exact nomark _ | rfl):Tj C (Gn tab m1) (.Compare a [.NotIn] [.Name x p] pos):=.mk fun sl S σ F R H hs hr Q post=>by
 obtain⟨es,n,D⟩:=T.dict
 refine TD.of (pt_cmpR (op_notIn_kd D) bu bu hm) (h1 sl S σ F R H hs hr _ (aK.bind post fun d S1 v F1 R1 H1 _ rx rep1 s1 r1 ah=>FU hg T.at_ ?_ hd))
 unfold Fj at ah
 split at ah
 · rename_i z _
   cases (show Rp C.K F1 v (.str z) from rx)
   cases hp:jm tab z with
   | none=>simp only[hp] at ah; exact⟨z,none,rfl,rfl,T.no z hp,true,rfl,ah.okv rfl rep1⟩
   | some en =>
    simp only[hp] at ah
    obtain⟨t,e1,e2⟩:=T.yes z en hp
    exact⟨z,_,rfl,rfl,e1,false,rfl,ah.okv rfl rep1⟩
 · exact ah.elim
theorem DD (T:Ha C.X.w C.X.K C.X.mg x tab) (h1:Ej C m1 b) (hg:Gl C.X x:=by rfl) (hd:(x == ("__debug__" : Str))=false:=by decide) (hs:PlainIx b:=by exact fun _ _=>rfl):Ej C (AW tab m1) (.Subscript (.Name x p) b pos):=.mk fun sl S σ F R H Wq hr Q post=>by
 obtain⟨es,n,D⟩:=T.dict
 refine ED.of (pe_ix ix_kdict bu bu hs) (FU hg T.at_ (h1 sl S σ F R H Wq hr _ (aK.bind post fun d S1 v F1 R1 H1 _ rx rep1 s1 r1 ah=>?_)) hd)
 unfold Ln at ah
 split at ah
 · rename_i z _
   cases (show Rp C.K F1 v (.str z) from rx)
   cases hp:jm tab z with
   | none=>simp only[hp] at ah; exact ah.elim
   | some en =>
    simp only[hp] at ah
    obtain⟨t,e1,e2⟩:=T.yes z en hp
    exact⟨_,z, .ref t,rfl,rfl,⟨es,n,_,D.at_,D.lit,e1,rfl⟩,ah.okv (show aP C.K F1 R1 (.ref t) (.p en.p) from e2 _ F1) rep1⟩
 · exact ah.elim
end
section
variable {X:Cx} {CX:CXT} {k i:Nat} {f:Addr} {fd:FuncData} {ps:List Str} {sp:Sp} {E:L2.St→XK} {x:Str} {p pos:Pos} {e:Expr} {es:List Expr} {t:TA}
abbrev AH:=List (Str×Nat×Fn)
def yK (tab:AH) (g:Str):Option (Nat×Fn):=(tab.find? fun p=>decide (p.1=g)).map (·.2)
def Kr (i:Nat) (ok:Addr→Sp→Prop) (E:L2.St→XK) (t:TA):TE:=fun σ H Q=>∃ f sp,σ[i]?=some (some (.ref f))∧ok f sp∧t σ H fun vs H1=>sp vs H1 Q (E σ)
theorem Jp {ok:Addr→Sp→Prop} (A:∀ f sp,ok f sp→∃ (fd:FuncData) (ps:List Str),FnOk X.prog X.w X.K X.mg X.base CX k f fd ps sp∧PySem.W.keepIn X.K (.ref f)=true∧Binds X.K fd ps []) (hr:Room k X.A) (hN:X.N[i]?=some x) (hv:Vis X.env.scope x) (hx:∀ σ,PassesAt CX X σ (E σ)) (ha:PA X (e::es) t)
  (mD:(x == ("__debug__" : Str))=false:=by decide) (pY:(x == ("__classdict__" : Str))=false:=by decide)
  (he:starEach (e::es) X.env=(false,eval e X.env)::starEach es X.env:=by exact bO rfl) (hpl:(backTo pos (starEach es X.env)).any (·.1)=false:=by exact de rfl):PE X (.Call (.Name x p) (e::es) [] pos) (Kr i ok E t):=by
 refine⟨fun pins s σ H Q I h=>?_⟩
 obtain⟨f,sp,hs,ho,ht⟩:=h
 obtain⟨fd,ps,F,hk,hb⟩:=A f sp ho
 refine wpAny_Call_Name_kw (thn ((pe_var (pos:=p) hN hv mD pY).run pins s σ H (fun v H1=>v=.ref f∧H1=H) I ⟨.ref f,hs,rfl,rfl⟩) fun u s1 ⟨v,H1,I1,r1,q1⟩=>?_)
 obtain⟨rfl,rfl⟩:=q1
 cases r1
 refine PySem.W.callWith_K (h₀:=X.base) I.ok.mod.kin hk (thn (ha.run pos pins s1 σ _ _ I1 ht) fun us s2 ⟨vs,H2,I2,r,q⟩=>⟨I2.kIn,?_⟩) he hpl
 exact run_fnSD (dvs:=[]) F hr hb .nil (hx σ) I2 r (by rw[List.append_nil]; exact q)
end
section
variable {C:Kx} {e:Expr} {es:List Expr} {pos p:Pos} {x:Str} {ma:MA} {k i:Nat} {tab:AH}
def qZ (tab:AH) (i:Nat) (ma:MA):M:=fun sl S=>match sl[i]? with
 | some (some (.p (.glo g)))=>match yK tab g with
  | some (n,f)=>aw n f ma sl S
  | none=>.no
 | _=>.no
theorem LF (i:Nat) (A:∀ q∈tab,∃ ps:List Str,ps.length=q.2.1∧C.ok k q.1 ps q.2.2) (hr:Room k C.X.A) (h:Aj C ma (e::es)) (hN:C.X.N[i]?=some x:=by rfl) (hv:Vis C.X.env.scope x:=by first | exact Or.inl rfl | exact Or.inr (Or.inl rfl) | exact Or.inr (Or.inr rfl)) (mD:(x == ("__debug__" : Str))=false:=by decide) (pY:(x == ("__classdict__" : Str))=false:=by decide)
  (he:starEach (e::es) C.X.env=(false,eval e C.X.env)::starEach es C.X.env:=by exact bO rfl) (hpl:(backTo pos (starEach es C.X.env)).any (·.1)=false:=by exact de rfl):Ej C (qZ tab i ma) (.Call (.Name x p) (e::es) [] pos):=.mk fun sl S σ F R H hs hr' Q post=>by
 unfold qZ at post
 split at post
 · rename_i g hi
   split at post
   · rename_i n f hf
     obtain⟨v,e1,e2⟩:=hs.2 _ _ hi
     cases (show Rp C.K F v (.glo g) from e2)
     unfold yK at hf
     cases hq:tab.find? (fun p=>decide (p.1=g)) with
     | none=>rw[hq] at hf; cases hf
     | some q =>
      rw[hq] at hf
      have WI:q.2=(n,f):=Option.some.inj hf
      have hg:q.1=g:=of_decide_eq_true (List.find?_some (p:=fun p:Str×Nat×Fn=>decide (p.1=g)) hq)
      obtain⟨ps,hl,hF⟩:=A q (List.mem_of_find?_eq_some hq)
      rw[WI,hg] at hF
      rw[WI] at hl
      obtain⟨fd,h1,h2,h3,h4,_⟩:=hF
      refine ED.of (Jp (i:=i) (CX:=L2N.CX C.X.prog C.X.w) (k:=k) (ok:=fun f' sp=>f'=He.ga C.X.K g∧sp=FA C.K ps.length f) (fun f' sp o=>by obtain⟨rfl,rfl⟩:=o; exact⟨fd,ps,h1,h3,h2⟩) hr hN hv (fun σ=>L2N.passAt C.tk σ) eY mD pY he hpl)
       ⟨_,_,e1,⟨rfl,rfl⟩,h sl S σ F R H hs hr' _ (aK.bind post fun ds S1 vs F1 R1 H1 _ rx rep1 s1 r1 ah=>?_)⟩
      by_cases hd:ds.length=n
      · rw[if_pos hd] at ah
        exact⟨by rw[rx.length,hd]; exact hl.symm,C.G,F1,R1,S1,ds,rep1,rx,lC ah⟩
      · rw[if_neg hd] at ah; exact ah.elim
   · exact post.elim
 · exact post.elim
end
end Z
theorem L2.Room.u16 {k:Nat} {A:PySem.Around} (r:L2.Room k A):A.units+16 < PySem.cLine:=by have:=r.un; omega
namespace Z
open PySem PySem.Spec PyProof.Rows L2
abbrev pO (x qual:Str) (ps:List Str) (st:Stmt) (n m j:Nat):Prop:=∀ (T:Addr) (kV doc pm:Value) (an:Option Addr) (cdv ct:Value) (us its:List Value),us.length=n→its.length=m →
 ∃ k,bindArgs (PySem.W.fnOf x qual (defArgs st) (defBody st) (defScope st) (.ref T) kV doc pm an cdv ct) ⟨us,[]⟩=seqItems? (.ref T) >>= k∧k (some its.toArray)=pure (ps.zip (us++its.drop j))
abbrev kY (x qual:Str) (ps:List Str) (st:Stmt):Prop:=∀ (kV doc pm:Value) (an:Option Addr) (cdv ct:Value) (us:List Value),us.length=ps.length →
 bindArgs (PySem.W.fnOf x qual (defArgs st) (defBody st) (defScope st) .none kV doc pm an cdv ct) ⟨us,[]⟩=pure (ps.zip us)
def BR (P:Program) (w:World) (K:PySem.W.Frag) (mg:Str→Option Value) (base:Heap) (k:Nat) (x qual:Str) (f:Addr) (st:Stmt) (dvs:List V) (ps:List Str) (fn:Fn):Prop :=
 ∃ fd,FunD K x qual (defArgs st) (defBody st) (defScope st) dvs [] f fd∧FnOk P w K mg base (L2N.CX P w) k f fd ps (FA ⟨K,P,w⟩ ps.length fn)
section
variable {P:Program} {w:World} {K:PySem.W.Frag} {mg:Str→Option Value} {base:Heap} {k:Nat} {x qual:Str} {N ps:List Str} {st:Stmt} {fn:Fn} {b:MS} {f:Addr} {dvs:List V}
theorem qF (D:∃ fd,FunD K x qual (defArgs st) (defBody st) (defScope st) dvs [] f fd) (S:FnScope N ps (defScope st))
  (body:∀ (cdv:Value) (A:Around) (outer:List Env) (s:Shared) (H:Hp) (E:XK) (G:Hp),Room k (A.deeper (envOfC qual (defScope st) s.heap.objs.size f cdv))→Sj (cxZ P w K mg base N qual (defScope st) f cdv A outer s H E G) b (defBody st)):BR P w K mg base (k+1) x qual f st dvs ps (runB N.length b):=by
 obtain⟨fd,Fu⟩:=D
 refine⟨fd,Fu,Fu.ok S (fun vs H Q E h=>h.1) (fun cdv A outer s H vs Q E hr h=>?_)⟩
 obtain⟨hl,G,F,R,S0,ds,rep,rx,post⟩:=h
 exact⟨_,rX,body cdv A outer s H E G hr _ S0 _ F R H (wn rx) rep _ (Lv rfl rfl rfl post)⟩
theorem BR.imp {Wy:Fn} (h:BR P w K mg base k x qual f st dvs ps fn) (hf:∀ G F R S ds H (Q:VK) (E:XK),bQ ⟨K,P,w⟩ G F R S H→mC ⟨K,P,w⟩ G F R Q E (Wy ds S)→mC ⟨K,P,w⟩ G F R Q E (fn ds S)):BR P w K mg base k x qual f st dvs ps Wy:=by
 obtain⟨fd,h0,h1⟩:=h
 exact⟨fd,h0,h1.imp fun vs H Q E ⟨hl,G,F,R,S,ds,rep,rx,post⟩=>⟨hl,G,F,R,S,ds,rep,rx,hf G F R S ds H Q E rep post⟩⟩
theorem Mu {n:Nat} (h:BR P w K mg base k x qual f st dvs ps (runB n b)):BR P w K mg base k x qual f st dvs ps (runZ n b):=h.imp fun G F R S ds H Q E rep post=>qa rep post
theorem BR.keep (h:BR P w K mg base k x qual f st dvs ps fn):PySem.W.keepIn K (.ref f)=true:=let ⟨_,h0,_⟩:=h; h0.kp
theorem BR.form (h:BR P w K mg base k x qual f st [] ps fn) (hb:kY x qual ps st) {n:Nat} (hn:ps.length=n):tj P w K mg base k f fn n []:=by
 obtain⟨fd,h0,h1⟩:=h
 subst hn
 exact⟨fd,ps,[],[],h1,h0.bindsN hb, .nil,fun _=>.nil⟩
theorem BR.formD (h:BR P w K mg base k x qual f st dvs ps fn) (n j:Nat) {dfl:List Z.P} (hd:dvs≠[]) (hn:n+(dvs.length - j)=ps.length) (hb:pO x qual ps st n dvs.length j) (hp:∀ F,ay ⟨K,P,w⟩ F (dvs.drop j) dfl):tj P w K mg base k f fn n dfl:=by
 obtain⟨fd,h0,h1⟩:=h
 obtain⟨ds,v,bi⟩:=h0.binds1 n j hd hn hb
 have hl:n+dfl.length=ps.length:=by rw[← (hp (fun _=>none)).length,List.length_drop]; exact hn
 exact⟨fd,ps,ds,_,by rw[hl]; exact h1,bi,v,hp⟩
end
section
variable {P:Program} {w:World} {K:PySem.W.Frag} {h:Heap} {a:Addr} {vs:List Value} {ns:List Int}
abbrev yf (vs:List Value):Obj:={ cls:=.type "list",data:=.seq vs.toArray }
theorem L1 (KX:K.In h) (ha:h.get? a=some (yf vs)) (hi:IntsAre vs ns) (hl:ns.length≤sizeLine) :
  ∃ H:Hp,SqL K H a (ns.map V.int)∧HOk P w H h∧(∀ b o,H b=some o→b=a∧K.lookup a=none∧o=.frz (yf vs) (.lst (ns.map V.int))):=by
 have rv:=vals_ints hi
 cases hk:K.lookup a with
 | some o =>
  obtain rfl:o=yf vs:=by
   have:=KX a o hk
   rw[ha] at this
   exact (Option.some.inj this).symm
  refine⟨fun _=>none, .inr ⟨_,_,_,hk,rfl,rfl,rfl,?_,?_⟩,?_,?_⟩
  · rw[List.size_toArray,hi.length]; exact hl
  · simpa using rv
  · intro b u z; cases (show (none:Option HO)=some u from z)
  · intro b u z; cases (show (none:Option HO)=some u from z)
 | none =>
  refine⟨upd (fun _=>none) a (.frz (yf vs) (.lst (ns.map V.int))), .inl (.inr ⟨_,upd_same⟩),?_,?_⟩
  · intro b u z
    by_cases e:b=a
    · subst e
      rw[upd_same] at z
      cases z
      exact⟨ha,by rw[List.length_map]; exact hl,vs,_,rv,ha⟩
    · rw[upd_ne e] at z; cases z
  · intro b u z
    by_cases e:b=a
    · subst e
      rw[upd_same] at z
      exact⟨rfl,rfl,(Option.some.inj z).symm⟩
    · rw[upd_ne e] at z; cases z
end
theorem HE {P:Program} {w:World} {K:PySem.W.Frag} {mg mb:Str→Option Value} {CX:CXT} {k:Nat} {fa a:Addr} {fd:FuncData} {x:Str} {sp:Sp} {s:Shared} {vs:List Value} {ns:List Int}
  (KX:K.In s.heap) (gl:s.heap.Ns mainGlobals mg) (bi:s.heap.Ns builtinsNs mb) (bib:∀ x:Str,x≠"__name__"→mb x=bootBuiltins x) (lim:s.heap.NoLimit) (gens:s.gens=#[])
  (ha:s.heap.get? a=some (yf vs)) (hi:IntsAre vs ns) (hl:ns.length≤sizeLine) (room:Room k callerA) (F:∀ base:Heap,I0 P w K mg base CX k fa fd [x] sp) (bind:∀ (s:Shared) (u:Value),BindsTo s fd ⟨[u],[]⟩ [(x,u)])
  (want:∀ H:Hp,SqL K H a (ns.map V.int)→sp [.ref a] H (fun v _=>v=.bl true) fun _ _ _=>False) (hCX:∀ H e s',CX [] H s (fun _ _ _=>False) e s'→False) :
  codeAny (model P w) callerA (.call (.ref fa) ⟨[.ref a],[]⟩) (fun r s'=>r=.ok (.ret (.bool true))∧OldK s.heap s'.heap∧s'.os=s.os∧AllBare s'.gens) s:=by
 obtain⟨H,hS,hok,only⟩:=L1 (P:=P) (w:=w) KX ha hi hl
 have seen:∀ {b:Addr} {o:Obj},s.heap.get? b=some o→(b=a→K.lookup a≠none)→(hidT s.heap H).get? b=some o:=fun {b o} e n=>by
  refine hidT_get e ?_
  cases q:H b with
  | none=>rfl
  | some u=>exact absurd (only b u q).2.1 (n (only b u q).1)
 have LW:∀ {b:Addr} {m:Str→Option Value},s.heap.Ns b m→(hidT s.heap H).Ns b m:=by
  rintro b m ⟨o,es,ep,e,d,r⟩
  refine⟨o,es,ep,seen e ?_,d,r⟩
  rintro rfl
  rw[ha] at e
  cases e
  cases (show Data.seq vs.toArray _=Data.dict es ep from d)
 have kin:K.In (hidT s.heap H):=fun b o e=>seen (KX b o e) (by rintro rfl; rw[e]; exact nofun)
 obtain⟨mc,l1,l2⟩:=lim
 have env:Env0 P w K mg (hidT s.heap H) callerA [] s H:=⟨rfl,⟨kin,LW gl,⟨mb,LW bi,bib⟩,⟨mc,LW l1,l2⟩⟩,fun b o e=>of_hidT e,Nat.le_of_eq (hidT_size _ _),trivial,nofun,hok, .of_eq gens⟩
 refine codeAny_mono ((F (hidT s.heap H)).run callerA [] s H ⟨[.ref a],[]⟩ [.ref a] [.ref a] _ _ rfl room env (bind s (.ref a)) (.cons rfl .nil) (want H hS)) ?_
 rintro (er | _ | _ | _ | u) s' q
 · exact (hCX H er s' q).elim
 · exact q.elim
 · exact q.elim
 · exact q.elim
 · obtain⟨v,H',os,bare,un,Nh,r',q⟩:=q
   cases (show v=.bl true from q)
   cases (show u=Value.bool true from r')
   refine⟨rfl,OldK.of_keep fun b o e=>?_,os,bare⟩
   cases z:H b with
   | none=>exact un.keep b o e z nofun (by simp)
   | some ho =>
    obtain⟨rfl,_,rfl⟩:=only b ho z
    have e1:=(hok b _ z).1
    rw[e] at e1
    cases e1
    exact (Nh b _ (un.frzs b _ _ z)).1
theorem X6 {K:Fr} {H:Hp}:bQ K (fun _=>none) H [] [] H :=
 ⟨fun _=>nil,Same.refl _,rfl,fun n c e=>by simp at e,fun n a o e=>by simp[nil] at e,fun n m a e=>absurd rfl e,fun _ _=>rfl,fun a o e=>by simp at e⟩
theorem K2 {l:PySem.W.OpenLaw} {n k:Nat} {q:Program} {loose:List Str} {XP:(Str→Option Value)→Heap→Prop} {YP:World→Heap→Prop} {d:DefRec} {x:Str} {f:Fn}
  (hn:l.most=some n) (Cj:n≤sizeLine) (hdf:d.params.defaults=[]) (room:Room k callerA)
  (F:∀ (w:World) (mg:Str→Option Value) (fa:Addr) (h:Heap),YP w h→h.Ns mainGlobals mg→mg d.name=some (.ref fa) →
   ∃ (K:PySem.W.Frag) (fd:FuncData),K.In h∧(∀ (s:Shared) (u:Value),BindsTo s fd ⟨[u],[]⟩ [(x,u)])∧(∀ base:Heap,I0 l.prog w K mg base (L2N.CX l.prog w) k fa fd [x] (FA ⟨K,l.prog,w⟩ 1 f)))
  (law:∀ ns:List Int,ns.length≤n→∃ S,f [.p (.scr ns)] []=.ok (.p (.bl true)) S) :
  PySem.W.WalkO q loose XP YP l.row.toRowW d [] (fun f vs=>PySem.call f vs):=by
 refine Att.attach_call hn hdf ?_
 intro w s₀ s₁ mg mb fa o pm cd doc a vs ns G Y ho hd pY Za Yo WK hlen hg
 obtain⟨K,fd,KX,b,f⟩:=F w mg fa _ Y G.T.g Za
 obtain⟨S,e⟩:=law ns hlen
 refine HE KX G.T.g G.T.b G.T.builtins G.T.nolimit hg Yo WK (Nat.le_trans hlen Cj) room f b (fun H hS=>⟨rfl,_,H,[],[],[.p (.scr ns)],X6, .cons (show Rp _ H (.ref a) (.scr ns) from .scr hS) .nil,?_⟩) fun H e s'=>?_
 · rw[e]
   intro v F' R' H' h1 _ _ _
   cases (show Rp _ F' v (.bl true) from h1)
   rfl
 · rintro⟨a,B,H',cls,d,_,_,_,_,_,_,_,z⟩
   exact z
def vt (f:Str→List P→Option P) (mo:M) (ma:MA):M:=fun sl S=>(mo sl S).bind fun d S1=>match d with
 | .p (.str z)=>(ma sl S1).bind fun ds S2=>match fV S2 ds with
  | some ps=>match f z ps with
   | some q=>.ok (.p q) S2
   | none=>.no
  | none=>.no
 | _=>.no
def Vm (K:Fr) (r:V→List V→Hp→VK→Prop) (f:Str→List P→Option P):Prop:=∀ z ps q vs F H (Q:VK),f z ps=some q→Ah K F H vs ps→Same F H→(∀ v F' H',Rp K F' v q→bx F H F' H'→Q v H')→r (.str z) vs H Q
section
variable {C:Kx} {a b c e o:Expr} {es rest:List Expr} {pos p apos cpos:Pos} {x m:Str} {ma:MA} {mo me:M} {f:Str→List P→Option P} {r:V→List V→Hp→VK→Prop} {K:Fr}
theorem FQ (hp:PE C.X c (tBM C.X.K "str" r (ED C.X o) (AD C.X es))) (hf:Vm C.K r f) (h1:Ej C mo o) (h2:Aj C ma es):Ej C (vt f mo ma) c:=.mk fun sl S σ F R H hs hr Q post =>
 ED.of hp (h1 sl S σ F R H hs hr _ (aK.bind post fun d S1 v F1 R1 H1 _ rv rep1 s1 r1 ah=>by
  cases d with
  | ref n=>exact ah.elim
  | p q =>
   cases q with
   | str z =>
    cases (show Rp C.K F1 v (.str z) from rv)
    refine⟨rfl,h2 sl S1 σ F1 R1 H1 (hs.mono s1 r1) rep1 _ (aK.bind ah fun ds S2 vs F2 R2 H2 _ rd rep2 s2 r2 post2=>?_)⟩
    cases hv:fV S2 ds with
    | none=>simp only[hv] at post2; exact post2.elim
    | some ps =>
     simp only[hv] at post2
     cases Tz:f z ps with
     | none=>simp only[Tz] at post2; exact post2.elim
     | some q =>
      simp only[Tz] at post2
      exact hf z ps q vs F2 H2 Q Tz (oO rd rep2 hv) rep2.sub fun v F' H' rv g=>post2 v F' R2 H' rv (rep2.grow g) g.sF aI
   | _=>exact ah.elim))
theorem Hh {F:Hp}:∀ ys:List Str,ay K F (ys.map V.str) (ys.map P.str)
 | []=>.nil
 | y::ys=>.cons (.str y) (Hh ys)
def gm (z:Str):List P→Option P
 | [.str y]=>if (y.length == 0)=false∧z.length+2≤sizeLine then some (.lst ((PySem.Txt.split z y).map .str)) else none
 | _=>none
theorem LX:Vm K (fun x xs H Q=>∃ a b,x=.str a∧xs=[.str b]∧(b.length == 0)=false∧a.length+2≤sizeLine∧rNewStrs (PySem.Txt.split a b) H Q) gm:=fun z ps q vs F H Q e hx s k=>by
 unfold gm at e
 split at e
 · obtain⟨v,rfl,h⟩:=vY hx
   obtain⟨hc,rfl⟩:=cW e
   cases h.str
   exact⟨z,_,rfl,rfl,hc.1,hc.2,fun p hp=>k (.ref p) _ _ (.lst upd_same (Hh _)) (bx.new s hp)⟩
 · cases e
theorem nZ (h1:Ej C mo o) (h2:Ej C me e) (oY:Bs C o "split":=by rfl) (yc:Us C [e] cpos:=by rfl) (oq:(apos.endLine == cpos.line)=true:=by rfl) (hs:starEach [e] C.X.env=(false,eval e C.X.env)::starEach [] C.X.env:=by exact bO rfl) :
  Ej C (vt gm mo (aC me aN)) (.Call (.Attribute o "split" apos) [e] [] cpos) :=
 FQ (pe_bm PySem.F.plainAttrs_str PySem.F.slot_str_split PySem.F.type_str_split mt_split bu eY oY yc oq hs) LX h1 (aa h2 ae hs)
def gH (z:Str):List P→Option P
 | [.str y]=>if (y.length == 0)=false∧z.length≤sizeLine then some (.tup [.str (PySem.Txt.partition z y).1, .str (PySem.Txt.partition z y).2.1, .str (PySem.Txt.partition z y).2.2]) else none
 | _=>none
theorem wz {X:Cx} {pins:List (Addr×Obj)} {σ:L2.St} {H:Hp} {s:Shared} {x y z:Str} {t u v:Tok} {n:Nat} {Q:VK} (I:Inv X pins σ H s) (h:∀ p o,H p=none→o.dict=none→Q (.ref p) (upd H p (.frz o (.tup [.str x, .str y, .str z])))) :
  EP X pins σ Q (.ref s.heap.objs.size) { s with toks:=n,heap:=s.heap.push { cls:=.type "tuple",data:=.seq [Value.str x t, .str y u, .str z v].toArray } } :=
 ⟨.ref s.heap.objs.size,_,I.laid (o:=.frz { cls:=.type "tuple",data:=.seq [Value.str x t, .str y u, .str z v].toArray } (.tup [.str x, .str y, .str z])) (fun b u q=>Heap.get?_push_of_some _ q) (Nat.le_refl _) ⟨by heap_get,by show 3≤sizeLine; decide,[Value.str x t, .str y u, .str z v], .cons ⟨t,rfl⟩ (.cons ⟨u,rfl⟩ (.cons ⟨v,rfl⟩ .nil)),_,Heap.get?_push_size _ rfl,rfl,_,rfl⟩,rfl,h _ _ (I.hok.fresh (Nat.le_refl _)) rfl⟩
theorem J6 {X:Cx}:MtR X "str.partition" (fun x xs H Q=>∃ a b,x=.str a∧xs=[.str b]∧(b.length == 0)=false∧a.length≤sizeLine∧∀ p o,H p=none→o.dict=none→Q (.ref p) (upd H p (.frz o (.tup [.str (PySem.Txt.partition a b).1, .str (PySem.Txt.partition a b).2.1, .str (PySem.Txt.partition a b).2.2])))):=by
 intro pins s σ H x xs v us Q I rx rs h
 obtain⟨a,b,rfl,rfl,hb,hz,h⟩:=h
 obtain⟨t,rfl⟩:=rx
 obtain⟨u,rfl,r1⟩:=vals1 rs
 obtain⟨u,rfl⟩:=r1
 refine call_meets F.slot_str_partition (typeIs_str _ _ _) F.entry_str_partition (F.args_str_partition_2 _ _) (meets_str_partition a b t u hb hz) ?_
 unfold PySem.Txt.partition at h
 revert h
 cases Builtin.Str.occurrences a b 0 a.length 1 with
 | nil=>exact fun h=>wz I h
 | cons i r=>exact fun h=>wz I h
theorem Bt:Vm K (fun x xs H Q=>∃ a b,x=.str a∧xs=[.str b]∧(b.length == 0)=false∧a.length≤sizeLine∧∀ p o,H p=none→o.dict=none→Q (.ref p) (upd H p (.frz o (.tup [.str (PySem.Txt.partition a b).1, .str (PySem.Txt.partition a b).2.1, .str (PySem.Txt.partition a b).2.2])))) gH:=fun z ps q vs F H Q e hx s k=>by
 unfold gH at e
 split at e
 · obtain⟨v,rfl,h⟩:=vY hx
   obtain⟨hc,rfl⟩:=cW e
   cases h.str
   exact⟨z,_,rfl,rfl,hc.1,hc.2,fun p ob hp hd=>k (.ref p) _ _ (.tup ⟨ob,upd_same,hd⟩ (.cons (.str _) (.cons (.str _) (.cons (.str _) .nil)))) (bx.new s hp)⟩
 · cases e
theorem B0 (h1:Ej C mo o) (h2:Ej C me e) (oY:Bs C o "partition":=by rfl) (yc:Us C [e] cpos:=by rfl) (oq:(apos.endLine == cpos.line)=true:=by rfl) (hs:starEach [e] C.X.env=(false,eval e C.X.env)::starEach [] C.X.env:=by exact bO rfl) :
  Ej C (vt gH mo (aC me aN)) (.Call (.Attribute o "partition" apos) [e] [] cpos) :=
 FQ (pe_bm PySem.F.plainAttrs_str PySem.F.slot_str_partition PySem.F.type_str_partition J6 bu eY oY yc oq hs) Bt h1 (aa h2 ae hs)
def nD (z:Str):List P→Option P
 | [.str y]=>some (.bl (PySem.Txt.startswith z y))
 | _=>none
theorem Ih:Vm K (fun x xs H Q=>∃ a b,x=.str a∧xs=[.str b]∧Q (.bl (PySem.Txt.startswith a b)) H) nD:=fun z ps q vs F H Q e hx s k=>by
 unfold nD at e
 split at e
 · obtain⟨v,rfl,h⟩:=vY hx
   cases e
   cases h.str
   exact⟨z,_,rfl,rfl,k _ F H (.bl _) (bx.refl s)⟩
 · cases e
theorem zp (h1:Ej C mo o) (h2:Ej C me e) (oY:Bs C o "startswith":=by rfl) (yc:Us C [e] cpos:=by rfl) (oq:(apos.endLine == cpos.line)=true:=by rfl) (hs:starEach [e] C.X.env=(false,eval e C.X.env)::starEach [] C.X.env:=by exact bO rfl) :
  Ej C (vt nD mo (aC me aN)) (.Call (.Attribute o "startswith" apos) [e] [] cpos) :=
 FQ (pe_bm PySem.F.plainAttrs_str PySem.F.slot_str_startswith PySem.F.type_str_startswith mt_startswith bu eY oY yc oq hs) Ih h1 (aa h2 ae hs)
def oA:List P→Option (List Str)
 | []=>some []
 | .str y::ps=>(oA ps).map (y::·)
 | _=>none
theorem uh {F:Hp}:∀ {ps:List P} {ys:List Str} {vs:List V},oA ps=some ys→ay K F vs ps→vs=ys.map V.str
 | [],ys,vs,e,h=>by cases e; cases h; rfl
 | p::ps,ys,vs,e,h=>by
  cases h with
  | @cons v vs' d ds h1 h2 =>
   cases p with
   | str y =>
    simp only[oA] at e
    cases hp:oA ps with
    | none=>rw[hp] at e; cases e
    | some zs =>
     rw[hp] at e
     cases e
     cases h1
     rw[uh hp h2]
     rfl
   | _=>cases e
def lS (z:Str):List P→Option P
 | [.lst ps]=>match oA ps with
  | some ys=>if (ys.map (·.length)).sum+ys.length * z.length≤16777216 then some (.str (PySem.Txt.join z ys)) else none
  | none=>none
 | [.tup ps]=>match oA ps with
  | some ys=>if (ys.map (·.length)).sum+ys.length * z.length≤16777216 then some (.str (PySem.Txt.join z ys)) else none
  | none=>none
 | _=>none
theorem Oo:Vm K (fun x xs H Q=>∃ a p,∃ ys:List Str,x=.str a∧xs=[.ref p]∧(SqL K.K H p (ys.map V.str)∨SqT K.K H p (ys.map V.str))∧(ys.map (·.length)).sum+ys.length * a.length≤16777216∧Q (.str (PySem.Txt.join a ys)) H) lS:=fun z ps q vs F H Q e hx s k=>by
 unfold lS at e
 split at e
 · obtain⟨v,rfl,h⟩:=vY hx
   split at e
   · rename_i ys hys
     obtain⟨hc,rfl⟩:=cW e
     obtain⟨a,vs,rfl,h1,h2⟩:=h.lstE s
     rw[uh hys h2] at h1
     exact⟨z,a,ys,rfl,rfl, .inl (.inl (.inl h1)),hc,k _ F H (.str _) (bx.refl s)⟩
   · cases e
 · obtain⟨v,rfl,h⟩:=vY hx
   split at e
   · rename_i ys hys
     obtain⟨hc,rfl⟩:=cW e
     obtain⟨a,vs,rfl,h1,h2⟩:=h.tupE
     rw[uh hys h2] at h1
     exact⟨z,a,ys,rfl,rfl, .inr (aZ s h1),hc,k _ F H (.str _) (bx.refl s)⟩
   · cases e
 · cases e
theorem BF (h1:Ej C mo o) (h2:Ej C me e) (oY:Bs C o "join":=by rfl) (yc:Us C [e] cpos:=by rfl) (oq:(apos.endLine == cpos.line)=true:=by rfl) (hs:starEach [e] C.X.env=(false,eval e C.X.env)::starEach [] C.X.env:=by exact bO rfl) :
  Ej C (vt lS mo (aC me aN)) (.Call (.Attribute o "join" apos) [e] [] cpos) :=
 FQ (pe_bm PySem.F.plainAttrs_str PySem.F.slot_str_join PySem.F.type_str_join mt_join bu eY oY yc oq hs) Oo h1 (aa h2 ae hs)
def ie:P→Option P
 | .str y=>if y.length≤sizeLine then some (.str y) else none
 | .int i=>if i.natAbs.log2 < 1920 then some (.str (toString i)) else none
 | .non=>some (.str "None")
 | .bl b=>some (.str (if b then "True" else "False" : String))
 | _=>none
def Wo (te:TE):TE:=fun σ H Q=>te σ H fun x H1=>(∃ y:Str,x=.str y∧y.length≤sizeLine∧Q (.str y) H1)∨(∃ i:Int,x=.int i∧i.natAbs.log2 < 1920∧Q (.str (toString i)) H1)∨(x=.non∧Q (.str "None") H1)∨∃ b:Bool,x=.bl b∧Q (.str (if b then "True" else "False" : String)) H1
theorem PN {X:Cx} {e:Expr} {te:TE} {pos:Pos} (he:PE X e te):PE X (.FormattedValue e (-1) none pos) (Wo te):=by
 refine⟨fun pins s σ H Q I h=>?_⟩
 refine wpAny_FormattedValue_plain (thn (he.run pins s σ H _ I h) fun v s1 hv=>?_)
 obtain⟨x,H1,I1,r1,q⟩:=hv
 rcases q with ⟨y,rfl,hz,q⟩ | ⟨i,rfl,hz,q⟩ | ⟨rfl,q⟩ | ⟨b,rfl,q⟩
 · obtain⟨t,rfl⟩:=r1
   exact wpAny_formatField_str ⟨.str y,H1,I1,⟨t,rfl⟩,q⟩ ⟨.str y,H1,I1.tok _,⟨_,rfl⟩,q⟩ hz
 · obtain⟨t,rfl⟩:=r1
   exact wpAny_formatField_int hz ⟨.str (toString i),H1,I1.tok _,⟨_,rfl⟩,q⟩
 · cases r1
   exact wpAny_formatField_none ⟨.str "None",H1,I1.tok _,⟨_,rfl⟩,q⟩
 · cases r1
   exact wpAny_formatField_bool ⟨.str (if b then "True" else "False" : String),H1,I1.tok _,⟨_,by cases b <;> rfl⟩,q⟩
theorem fB (h:Ej C me e):Ej C (eU ie me) (.FormattedValue e (-1) none pos):=.mk fun sl S σ F R H hs hr Q post =>
 ED.of (PN bu) (h sl S σ F R H hs hr _ (aK.bind post fun d S1 v F1 R1 H1 _ rv rep1 s1 r1 ah=>by
  unfold tK at ah
  cases hv:view S1 d with
  | none=>rw[hv] at ah; exact ah.elim
  | some q =>
   rw[hv] at ah
   have vw:=ec rv rep1 hv
   cases q with
   | str y =>
    cases vw.str
    simp only[ie] at ah
    by_cases hc:y.length≤sizeLine
    · rw[if_pos hc] at ah
      exact .inl ⟨y,rfl,hc,ah.okv (show aP C.K F1 R1 (.str y) (.p (.str y)) from .str y) rep1⟩
    · rw[if_neg hc] at ah; exact ah.elim
   | int i =>
    cases vw.int
    simp only[ie] at ah
    by_cases hc:i.natAbs.log2 < 1920
    · rw[if_pos hc] at ah
      exact .inr (.inl ⟨i,rfl,hc,ah.okv (show aP C.K F1 R1 (.str (toString i)) (.p (.str (toString i))) from .str _) rep1⟩)
    · rw[if_neg hc] at ah; exact ah.elim
   | non =>
    cases vw.non
    exact .inr (.inr (.inl ⟨rfl,ah.okv (show aP C.K F1 R1 (.str "None") (.p (.str "None")) from .str _) rep1⟩))
   | bl b =>
    cases vw.bl
    exact .inr (.inr (.inr ⟨b,rfl,ah.okv (show aP C.K F1 R1 (.str (if b then "True" else "False" : String)) (.p (.str (if b then "True" else "False" : String))) from .str _) rep1⟩))
   | _=>exact ah.elim))
def SS:List M→Str→av→ag→Rs Str
 | [],acc,_,S=>.ok acc S
 | m::ms,acc,sl,S=>(m sl S).bind fun d S1=>match d with
  | .p (.str y)=>if (acc++y).length≤sizeLine then SS ms (acc++y) sl S1 else .no
  | _=>.no
def Gz (ms:List M):M:=fun sl S=>(SS ms Str.empty sl S).bind fun z S1=>.ok (.p (.str z)) S1
inductive Jj (C:Kx):List M→List Expr→Prop
 | nil:Jj C [] []
 | cons {m:M} {e:Expr} {ms:List M} {es:List Expr} (h:Ej C m e) (t:Jj C ms es):Jj C (m::ms) (e::es)
theorem Jj.pj {ms:List M} {es:List Expr} (h:Jj C ms es):PJ C.X es (es.map (ED C.X)):=by
 induction h with
 | nil=>exact .nil
 | cons h t ih=>exact .cons bu ih
theorem Jj.run {ms:List M} {es:List Expr} (h:Jj C ms es):∀ (acc:Str) (sl:av) (S:ag) (σ:L2.St) (F:Hp) (R:List Addr) (H:Hp),SlR C.K C.px F R σ sl→bQ C.K C.G F R S H→∀ Q:Str→Hp→Prop,aK C σ F R (fun _ _ b a=>b=a) Q (SS ms acc sl S)→tJs (es.map (ED C.X)) acc σ H Q:=by
 induction h with
 | nil=>exact fun acc sl S σ F R H hs hr Q post=>post.okv rfl hr
 | @cons m e ms es h t ih =>
  intro acc sl S σ F R H hs hr Q post
  simp only[List.map_cons,tJs]
  refine h sl S σ F R H hs hr _ (aK.bind post fun d S1 v F1 R1 H1 _ rv rep1 s1 r1 ah=>?_)
  cases d with
  | ref n=>exact ah.elim
  | p q =>
   cases q with
   | str y =>
    cases (show Rp C.K F1 v (.str y) from rv)
    simp only[] at ah
    by_cases hc:(acc++y).length≤sizeLine
    · rw[if_pos hc] at ah
      exact⟨y,rfl,hc,ih (acc++y) sl S1 σ F1 R1 H1 (hs.mono s1 r1) rep1 Q ah⟩
    · rw[if_neg hc] at ah; exact ah.elim
   | _=>exact ah.elim
theorem qm {m1 m2:M} {ms:List M} {e1 e2:Expr} {es:List Expr} (h:Jj C (m1::m2::ms) (e1::e2::es)):Ej C (Gz (m1::m2::ms)) (.JoinedStr (e1::e2::es) pos):=.mk fun sl S σ F R H hs hr Q post =>
 ED.of (pe_joined h.pj) (h.run Str.empty sl S σ F R H hs hr _ (by
  unfold Gz at post
  exact aK.bind post fun z S1 b F1 R1 H1 _ rb rep1 s1 r1 ah=>by
   subst rb
   exact ah.okv (show aP C.K F1 R1 (.str b) (.p (.str b)) from .str b) rep1))
end
def HQ:MS:=fun _ _=>.no
theorem uR {C:Kx} {st:Stmt}:zl C HQ st:=.mk fun _ _ _ _ _ _ _ _ _ post=>post.elim
inductive qQ where
 | lit (z:Str)
 | cap (j:Nat)
inductive mU (X:Cx):Pattern→qQ→Prop
 | lit {z:Str} {k p1 p2}:mU X (.MatchValue (.Constant (.str z) k p1) p2) (.lit z)
 | cap {x:Str} {j:Nat} {p}:X.N[j]?=some x→Loc X.env.scope x→(X.fn x=true∨X.env.scope.names.lookup x=some .local)→mU X (.MatchAs none (some x) p) (.cap j)
inductive eE (X:Cx):List Pattern→List qQ→Prop
 | nil:eE X [] []
 | cons {p:Pattern} {q:qQ} {ps:List Pattern} {qs:List qQ}:mU X p q→eE X ps qs→eE X (p::ps) (q::qs)
def gI:List qQ→List P→Option (Option (List (Nat×P)))
 | [],[]=>some (some [])
 | .lit z::qs, .str y::ps=>if y=z then gI qs ps else some none
 | .cap j::qs,p::ps=>match gI qs ps with
  | some (some bs)=>some (some ((j,p)::bs))
  | r=>r
 | _,_=>none
inductive WO (X:Cx) (K:Fr) (F:Hp):List (Str×Value)→List (Nat×P)→Prop
 | nil:WO X K F [] []
 | cons {x:Str} {u:Value} {j:Nat} {p:P} {v:V} {bs:List (Str×Value)} {ds:List (Nat×P)}:X.N[j]?=some x→Loc X.env.scope x→(X.fn x=true∨X.env.scope.names.lookup x=some .local)→RelV v u→Rp K F v p→WO X K F bs ds→WO X K F ((x,u)::bs) ((j,p)::ds)
def BY (sl:av):List (Nat×P)→av
 | []=>sl
 | (j,p)::bs=>BY (sl.set j (some (.p p))) bs
section
variable {C:Kx} {pins:List (Addr×Obj)} {σ:L2.St} {H F:Hp} {s:Shared} {R:List Addr}
theorem OY {z y:Str} {k p1 p2} {t:Tok} {Q:Option (List (Str×Value))→Shared→Prop} (I:Inv C.X pins σ H s) (h:∀ s',Inv C.X pins σ H s'→if y=z then Q (some []) s' else Q none s'):wpAny (model C.X.prog C.X.w) C.X.A (matchPattern (.MatchValue (.Constant (.str z) k p1) p2) C.X.env (.str y t)) Q C.X.xe s:=by
 refine wpAny_matchPattern_Value (thn (pe_str.run pins s σ H (fun v H'=>v=.str z∧H=H') I ⟨rfl,rfl⟩) fun u s1 ⟨v,H1,I1,r1,e1,e2⟩=>?_)
 subst e1 e2
 refine thn (op_eq pins s1 σ H (.str y) (.str z) (.str y t) u (fun v H'=>v=.bl (decide (y=z))∧H=H') I1 ⟨_,rfl⟩ r1 ⟨rfl,by simp,rfl⟩) fun w s2 ⟨v,H2,I2,r2,e1,e2⟩=>?_
 subst e1 e2
 cases r2
 refine wpAny_truthy_bool ?_
 have:=h s2 I2
 by_cases hc:y=z
 · rw[if_pos hc] at this; simp[hc]; exact this
 · rw[if_neg hc] at this; simp[hc]; exact this
theorem vS:∀ {pats:List Pattern} {qs:List qQ} {ps:List P} {vs:List V} {us:List Value} {r:Option (List (Nat×P))} {s:Shared} {Q:Option (List (Str×Value))→Shared→Prop},eE C.X pats qs→gI qs ps=some r→ay C.K F vs ps→Vals vs us→Inv C.X pins σ H s →
  (match r with
   | none=>∀ s',Inv C.X pins σ H s'→Q none s'
   | some ds=>∀ s' bs,Inv C.X pins σ H s'→WO C.X C.K F bs ds→Q (some bs) s')→wpAny (model C.X.prog C.X.w) C.X.A (matchEach pats C.X.env us) Q C.X.xe s
 | [],_,ps,vs,us,r,s,Q,hp,e,hv,hu,I,h=>by
  cases hp
  cases ps with
  | cons p ps=>cases e
  | nil =>
   cases e
   cases hv
   cases hu
   exact wpAny_matchEach_nil (h s [] I .nil)
 | pat::pats,_,ps,vs,us,r,s,Q,hp,e,hv,hu,I,h=>by
  cases hp with
  | @cons _ q _ qs hq hqs =>
   cases ps with
   | nil=>cases q <;> cases e
   | cons p ps =>
    cases hv with
    | @cons v vs _ _ hv1 hv2 =>
     cases hu with
     | @cons _ u _ us hu1 hu2 =>
      cases hq with
      | @lit z k p1 p2 =>
       cases p with
       | str y =>
        cases hv1
        obtain⟨t,rfl⟩:=hu1
        refine wpAny_matchEach_cons (OY I fun s' I'=>?_) rfl
        by_cases hc:y=z
        · rw[if_pos hc]
          simp only[gI,if_pos hc] at e
          refine vS hqs e hv2 hu2 I' ?_
          cases r with
          | none=>exact h
          | some ds=>exact fun s'' bs I'' hb=>h s'' bs I'' hb
        · rw[if_neg hc]
          simp only[gI,if_neg hc] at e
          cases e
          exact h s' I'
       | _=>cases e
      | @cap x j p' h1 h2 h3 =>
       refine wpAny_matchEach_cons (wpAny_matchPattern_Capture ?_) rfl
       simp only[gI] at e
       cases hm:gI qs ps with
       | none=>rw[hm] at e; cases e
       | some r' =>
        rw[hm] at e
        cases r' with
        | none =>
         cases e
         exact vS hqs hm hv2 hu2 I fun s' I'=>h s' I'
        | some ds =>
         cases e
         exact vS hqs hm hv2 hu2 I fun s' bs I' hb=>h s' _ I' (.cons h1 h2 h3 hu1 hv1 hb)
theorem Dy (hN:C.X.N.Nodup):∀ {bs:List (Str×Value)} {ds:List (Nat×P)} {σ:L2.St} {s:Shared} {sl:av} {Q:Unit→Shared→Prop},WO C.X C.K F bs ds→Inv C.X pins σ H s→SlR C.K C.px F R σ sl→(∀ σ' s',Inv C.X pins σ' H s'→SlR C.K C.px F R σ' (BY sl ds)→Q () s')→wpAny (model C.X.prog C.X.w) C.X.A (assignInOrder (bs.map fun (n,_)=>bindName C.X.env n) (bs.map (·.2))) Q C.X.xe s
 | _,_,σ,s,sl,Q, .nil,I,hs,h=>wpAny_assignInOrder_none (h σ s I hs)
 | _,_,σ,s,sl,Q, .cons (v:=v) (p:=p) h1 h2 h3 h4 h5 h6,I,hs,h=>by
  refine wpAny_assignInOrder_more (wpAny_bindName (store_ok I hN h1 h2 h4 (fun s' I'=>?_) h3))
  exact Dy hN h6 I' (hs.set (show aP C.K F R v (.p p) from h5)) h
def gk:List (List qQ×MS)→List P→av→ag→Fl
 | [],_,sl,S=>.nx sl S
 | (qs,b)::cs,ps,sl,S=>if ps.length=qs.length then match gI qs ps with
   | some (some ds)=>b (BY sl ds) S
   | some none=>gk cs ps sl S
   | none=>.no
  else gk cs ps sl S
inductive kq (C:Kx):List (List qQ×MS)→List MatchCase→Prop
 | nil:kq C [] []
 | cons {pats:List Pattern} {qs:List qQ} {b:MS} {body:List Stmt} {cs:List (List qQ×MS)} {ms:List MatchCase} {p:Pos}:eE C.X pats qs→pats.findIdx? (·.isStar)=none→(pats.all fun p=>p.isWildcard || (p.isStar && p.names.isEmpty))=false→Sj C b body→kq C cs ms→kq C ((qs,b)::cs) (⟨.MatchSequence pats p,none,body⟩::ms)
theorem eE.len {X:Cx} {pats:List Pattern} {qs:List qQ} (h:eE X pats qs):pats.length=qs.length:=by
 induction h with
 | nil=>rfl
 | cons _ _ ih=>simp[ih]
theorem Kt {S:ag} {sl:av} {a:Addr} {vs:List V} {ps:List P} {D:Ends} (hc:C.X.calm=true) (hN:C.X.N.Nodup) {cs:List (List qQ×MS)} {ms:List MatchCase} (h:kq C cs ms):∀ {first:Bool} {s:Shared} {H F:Hp} {R:List Addr},Inv C.X pins σ H s→SlR C.K C.px F R σ sl→bQ C.K C.G F R S H→H a=some (.lst vs)→ay C.K F vs ps→bM C F R D (gk cs ps sl S)→wpAny (model C.X.prog C.X.w) C.X.A (matchCases ms C.X.env (.ref a) first) (SP C.X pins D) C.X.xe s:=by
 induction h with
 | nil =>
  intro first s H F R I hs rep ha hv post
  exact wpAny_matchCases_nil ⟨σ,H,I,post σ F R H hs rep (Same.refl _) aI⟩
 | @cons pats qs b body cs ms p hp hst hwd hb hcs ih =>
  intro first s H F R I hs rep ha hv post
  obtain⟨its,rv,⟨o,n,ho,yM,hd,hdt⟩,hz⟩:=I.list (.inl (.inl ha))
  have hl:s.heap.IsList a its.toArray:=⟨o,ho,yM,n,hdt⟩
  have hsz:its.toArray.size=ps.length:=by simp[← rv.length,hv.length]
  refine wpAny_matchCases_cons (wpAny_matchPattern_Sequence (wpAny_collectionFlag hl.typeIs flag_seq_list ?_) hst hwd)
  simp only[if_true]
  have hlen:ps.length < 2 ^ 62:=by have:=hv.length; rw[sizeLine_eq] at hz; omega
  refine pyLen_list hl (by rw[hsz]; omega) ?_
  rw[hsz]
  have hpl:=hp.len
  simp only[gk] at post
  by_cases Ua:ps.length=qs.length
  · rw[if_pos Ua] at post
    have e1:((ps.length:Int) != (pats.length:Int))=false:=by simp; omega
    rw[e1]
    simp only[Bool.false_eq_true,if_false]
    have En:(⟨s.heap,s.gens,s.drawn,s.toks+1+1,s.os⟩:Shared).heap.IsList a its.toArray:=hl
    have hun:=fun Q hQ=>PySem.W.kun_itemsOf (prog:=C.X.prog) (w:=C.X.w) (A:=C.X.A) (E:=C.X.xe) (s:={ s with toks:=s.toks+1+1 }) (Q:=Q) (I.ok.hd hc) hl hQ
    rw[show pats.length=its.toArray.size by omega]
    refine hun _ fun h' he=>?_
    have I1:Inv C.X pins σ H { s with heap:=h',toks:=s.toks+1+1 }:=(I.tok (s.toks+1+1)).kept (t':=s.toks+1+1) fun b o e=>he b o (Nat.ne_of_lt (Heap.lt_size e)) e
    cases hm:gI qs ps with
    | none=>rw[hm] at post; exact post.elim
    | some r =>
     rw[hm] at post
     refine vS (vs:=vs) hp hm hv (by simpa using rv) I1 ?_
     cases r with
     | none=>exact fun s' I'=>ih I' hs rep ha hv post
     | some ds =>
      intro s' bs I' hbd
      refine Dy hN hbd I' hs fun σ' s2 I2 hs2=>?_
      exact (hb (BY sl ds) S σ' F R H hs2 rep D post) pins s2 I2
  · rw[if_neg Ua] at post
    have e1:((ps.length:Int) != (pats.length:Int))=true:=by simp; omega
    rw[e1]
    simp only[if_true]
    exact ih (I.tok _) hs rep ha hv post
def B5 (m:M) (cs:List (List qQ×MS)):MS:=fun sl S=>(m sl S).st sl fun d S1=>match view S1 d with
 | some (.lst ps)=>gk cs ps sl S1
 | _=>.no
theorem LB {m:M} {e:Expr} {cs:List (List qQ×MS)} {ms:List MatchCase} {pos:Pos} (hc:C.X.calm=true) (hN:C.X.N.Nodup) (h0:Ej C m e) (h:kq C cs ms):zl C (B5 m cs) (.Match e ms pos):=.mk fun sl S σ F R H hs hr D post=>by
 intro pins s I
 refine wpAny_Match (thn ((h0 sl S σ F R H hs hr (fun x H1=>∃ a S1 F1 R1 vs ps,x=.ref a∧H1 a=some (.lst vs)∧ay C.K F1 vs ps∧SlR C.K C.px F1 R1 σ sl∧bQ C.K C.G F1 R1 S1 H1∧bM C F1 R1 D (gk cs ps sl S1)) (bM.bind post hs fun d S1 x F1 R1 H1 _ rx rep1 s1 r1 mx ah=>by
  cases hv:view S1 d with
  | none=>simp only[hv] at ah; exact ah.elim
  | some q =>
   cases q with
   | lst ps =>
    simp only[hv] at ah
    obtain⟨a,vs,rfl,h1,h2⟩:=(ec rx rep1 hv).lstE rep1.sub
    exact⟨a,S1,F1,R1,vs,ps,rfl,h1,h2,mx,rep1,ah⟩
   | _=>simp only[hv] at ah; exact ah.elim)) pins s I) fun u s1 hu=>?_)
 obtain⟨x,H1,I1,r1,a,S1,F1,R1,vs,ps,rfl,h1,h2,h3,h4,h5⟩:=hu
 cases r1
 exact Kt hc hN h I1 h3 h4 h1 h2 h5
end
section
variable {prog:Program} {w:World} {A:Around} {E:Value→Shared→Prop} {s:Shared} {K:PySem.W.Frag} {x C L f:Addr} {h₀:Heap} {m:Str→Option Value} {ox:Obj} {od:Option Obj} {name:Str} {b tb:Value}
theorem Jr {M:Model} {B id:String} {args:List Value} {Q:Option Value→Shared→Prop} (X:K.In s.heap) (I:PySem.W.InstAt s.heap x ox C od) (Sl:Slot B name id) (hs:PySem.W.findIn K (.ref C) name=some (some (.builtin id)))
  (h:wpAny M A (call (.builtin id) (.ref x::args)) (fun v=>Q (some v)) E s):wpAny M A (callSpecialIfBound? (.ref x) name args) Q E s:=by
 simp only[callSpecialIfBound?,bindSpecialIfBound?]
 refine wpAny_holding (wpAny_bind (wpAny_bind (wpAny_bind (I.type.here ((PySem.W.looks_findIn X hs).here ?_)))))
 simp only[Sl.bind]
 refine wpAny_bind (wpAny_askSetting (wpAny_ite ?_))
 have fin:wpAny M A (call (.builtin id) ([.ref x]++args) >>= fun v=>pure (some v)) Q E s:=wpAny_bind (wpAny_mono h (fun v s' h'=>wpAny_pure h') fun _ _ h'=>h')
 split
 · exact wpAny_bind (wpAny_pure (wpAny_pure fin))
 · exact wpAny_tryCatch (wpAny_bind (wpAny_pure (wpAny_pure fin)))
theorem Ks {Q:Fin→Shared→Prop} (hu:A.units < cLine) (X:K.In s.heap) (I:PySem.W.InstAt s.heap x ox C od) (he:PySem.W.findIn K (.ref C) "__eq__" = some (some (.ref f))) (hf:PySem.W.isFn K (.ref f)=true)
  (h:wpAny (model prog w) A (call (.ref f) [.ref x,b]) (fun v s'=>∃ k,v=.bool k∧Q (.done (.ret (.bool (!k)))) s') E s):wpAny (model prog w) A (Builtin.«object.__ne__» ⟨[.ref x,b],[]⟩) Q E s:=by
 unfold Builtin.«object.__ne__»
 repeat (first
  | with_reducible refine wpAny_cRoomFor hu ?_
  | (refine wpAny_bind (m:=callSpecialIfBound? (.ref x) (Str.ofString "__eq__") [b]) (PySem.W.ifBound_K X I he hf (wpAny_mono h (fun r s' hr=>by obtain⟨k,rfl,hq⟩:=hr; repeat (first | exact hq | exact wpAny_pure hq | exact wpAny_truthy_bool hq | (refine wpAny_bind (m:=truthy (.bool _)) (wpAny_truthy_bool ?_)) | wp_step)) fun _ _ e=>e)))
  | wp_step)
theorem YO {Q:Value→Shared→Prop} (hu:A.units+1 < cLine) (X:K.In s.heap) (I:PySem.W.InstAt s.heap x ox C od) (hb:PySem.W.Looks (model prog w) s.heap (typeOf b) tb) (hn:PySem.W.notFirst K C tb=true) (ho:PySem.W.mroIn K C (.type "object")=some true)
  (hs:PySem.W.findIn K (.ref C) "__ne__" = some (some (.builtin "object.__ne__"))) (he:PySem.W.findIn K (.ref C) "__eq__" = some (some (.ref f))) (hf:PySem.W.isFn K (.ref f)=true)
  (h:wpAny (model prog w) A.in1 (call (.ref f) [.ref x,b]) (fun v s'=>∃ k,v=.bool k∧Q (.bool (!k)) s') E s):wpAny (model prog w) A (richCompare .NotEq (.ref x) b) Q E s:=by
 have sub:PySem.W.Looks (model prog w) s.heap (isInstance (.ref x) (.type "object")) true:=I.type.andThen (PySem.W.looks_mroIn X ho)
 have one:wpAny (model prog w) A (tryCompare (.ref x) "__ne__" b) (fun r s'=>∃ v,r=some v∧Q v s') E s:=by
  unfold tryCompare
  refine wpAny_bind (Jr X I PySem.F.cmp_object.ne hs (wpAny_call (codeAny_call_builtin PySem.F.cmp_object.ne.plain PySem.F.cmpEntry_ne (PySem.W.check_slot PySem.F.cmpKind_ne PySem.F.cmpSplit_ne sub (PySem.F.cmpArgs_ne _ _) ?_))))
  refine Ks (A:=A.in1) hu X I he hf (wpAny_mono h (fun v s' hv=>?_) fun _ _ e=>e)
  obtain⟨k,rfl,hq⟩:=hv
  exact⟨k,rfl,wpAny_pure ⟨_,rfl,hq⟩⟩
 unfold richCompare
 simp only[oneThing_ref]
 refine wpAny_holding (wpAny_bind (wpAny_cRoomFor (Nat.lt_of_succ_lt hu) ?_))
 refine wpAny_bind (I.type.here (wpAny_bind (hb.here ?_)))
 split
 · rename_i q
   have e:PySem.W.subIn K tb (.ref C)=some false:=by
    rcases Bool.or_eq_true_iff.mp hn with e | e
    · rw[beq_iff_eq.mp e] at q; simp at q
    · exact beq_iff_eq.mp e
   refine wpAny_bind ((PySem.W.looks_subIn X e).here ?_)
   simp only[Bool.false_eq_true,if_false]
   refine wpAny_bind (wpAny_mono one (fun r s' z=>?_) fun _ _ e=>e)
   obtain⟨v,rfl,hq⟩:=z
   exact wpAny_pure hq
 · refine wpAny_bind (wpAny_pure ?_)
   simp only[Bool.false_eq_true,if_false]
   refine wpAny_bind (wpAny_mono one (fun r s' z=>?_) fun _ _ e=>e)
   obtain⟨v,rfl,hq⟩:=z
   exact wpAny_pure hq
end
structure Ux (K:PySem.W.Frag) (C f:Addr):Prop where
 eq:PySem.W.findIn K (.ref C) "__eq__" = some (some (.ref f))
 ne:PySem.W.findIn K (.ref C) "__ne__" = some (some (.builtin "object.__ne__"))
 fn:PySem.W.isFn K (.ref f)=true
 ob:PySem.W.mroIn K C (.type "object")=some true
def Sv (C:Addr) (sp:Sp) (neg:Bool):R2:=fun x y H Q=>∃ a b dx dy fs gs,x=.ref a∧y=.ref b∧H a=some (.ins C dx fs)∧H b=some (.ins C dy gs)∧sp [x,y] H (fun v H'=>∃ k,v=.bl k∧Q (.bl (if neg then !k else k)) H') (fun _ _ _=>False)
section
variable {X:Cx} {k:Nat} {f C:Addr} {fd:FuncData} {ps:List Str} {sp:Sp}
theorem LS {A:Around} {pins:List (Addr×Obj)} {σ:L2.St} {H:Hp} {s:Shared} {Q:VK} {a b:Addr} (F:FnOk X.prog X.w X.K X.mg X.base (L2N.CX X.prog X.w) k f fd ps sp) (hr:Room k A) (hA:A.frames=X.A.frames) (hb:Binds X.K fd ps []) (I:Inv X pins σ H s) (h:sp [.ref a, .ref b] H Q (fun _ _ _=>False)) :
  wpAny (model X.prog X.w) A (call (.ref f) [.ref a, .ref b]) (EP X pins σ Q) X.xe s:=by
 have e0:Env0 X.prog X.w X.K X.mg X.base A X.stack s H:=by
  have e:=I.env0
  exact⟨by rw[hA]; exact e.frames,e.mod,e.bs,e.bsz,e.funs,e.frf,e.hok,e.bare⟩
 have hl:=F.len _ _ _ _ h
 have r2:Vals [V.ref a,V.ref b] [Value.ref a,Value.ref b]:=.cons rfl (.cons rfl .nil)
 refine wpAny_call (codeAny_mono (F.run A X.stack s H ⟨[.ref a, .ref b],[]⟩ [.ref a, .ref b] [.ref a, .ref b] _ _ hr e0 (by
  have:=hb s [.ref a, .ref b] I.kIn (by simpa using hl)
  simpa using this) r2 h) fun r s' hq=>?_)
 cases r with
 | error e =>
  obtain⟨_,_,_,_,_,_,_,_,_,_,_,_,z⟩:=hq
  exact z.elim
 | ok fl =>
  cases fl with
  | ret w=>exact I.after hq
  | next=>exact False.elim hq
  | brk=>exact False.elim hq
  | cont=>exact False.elim hq
theorem Rv (c:Ux X.K C f) (F:FnOk X.prog X.w X.K X.mg X.base (L2N.CX X.prog X.w) k f fd ps sp) (hr:Room k X.A) (hb:Binds X.K fd ps []):OpR X (compareOp .Eq) (Sv C sp false):=by
 intro pins s σ H x y u v Q I rx ry d
 obtain⟨a,b,dx,dy,fs,gs,rfl,rfl,ha,hb',h⟩:=d
 cases rx
 cases ry
 obtain⟨mA,J,_⟩:=ins_get I.hok ha
 obtain⟨mB,J',_⟩:=ins_get I.hok hb'
 obtain⟨od,J,_⟩:=J.look
 obtain⟨ZZ,J',_⟩:=J'.look
 obtain⟨m,hF⟩:=I.fr
 show wpAny (model X.prog X.w) X.A (richCompare .Eq (.ref a) (.ref b)) (EP X pins σ Q) X.xe s
 refine PySem.W.cmp_K (op:=.Eq) (tb:=.ref C) hr.units0 hF I.ok.mod.kin J J'.type (by simp[PySem.W.notFirst]) c.eq c.fn ?_
 refine thn (LS F hr rfl hb I h) fun w s' ⟨z,H',I',rz,q,ez,hq⟩=>?_
 subst ez
 cases rz
 exact⟨V.bl q,H',I',rfl,hq⟩
theorem Rz (c:Ux X.K C f) (F:FnOk X.prog X.w X.K X.mg X.base (L2N.CX X.prog X.w) k f fd ps sp) (hr:Room (k+1) X.A) (hb:Binds X.K fd ps []):OpR X (compareOp .NotEq) (Sv C sp true):=by
 intro pins s σ H x y u v Q I rx ry d
 obtain⟨a,b,dx,dy,fs,gs,rfl,rfl,ha,hb',h⟩:=d
 cases rx
 cases ry
 obtain⟨mA,J,_⟩:=ins_get I.hok ha
 obtain⟨mB,J',_⟩:=ins_get I.hok hb'
 obtain⟨od,J,_⟩:=J.look
 obtain⟨ZZ,J',_⟩:=J'.look
 show wpAny (model X.prog X.w) X.A (richCompare .NotEq (.ref a) (.ref b)) (EP X pins σ Q) X.xe s
 refine YO (tb:=.ref C) (by have:=hr.units; omega) I.kIn J J'.type (by simp[PySem.W.notFirst]) c.ob c.ne c.eq c.fn ?_
 refine thn (LS F hr.in1 rfl hb I h) fun w s' ⟨z,H',I',rz,q,ez,hq⟩=>?_
 subst ez
 cases rz
 exact⟨q,rfl,V.bl (!q),H',I',rfl,hq⟩
end
def UH (cn:Str) (f:Fn) (neg:Bool) (d1 d2:D) (S:ag):Rs D:=match lE S d1,lE S d2 with
 | some (c1,_,_),some (c2,_,_)=>if c1=cn∧c2=cn then match f [d1,d2] S with
   | .ok (.p (.bl k)) S'=>.ok (.p (.bl (if neg then !k else k))) S'
   | _=>.no
  else .no
 | _,_=>rD (if neg then lm else bP) d1 d2 S
def Cq (cn:Str) (f:Fn) (neg:Bool) (m1 m2:M):M:=fun sl S=>(m1 sl S).bind fun d1 S1=>(m2 sl S1).bind fun d2 S2=>UH cn f neg d1 d2 S2
section
variable {C:Kx} {a b e:Expr} {pos p:Pos} {x cn:Str} {m1 m2:M} {fn:Fn} {k:Nat} {f:Addr}
theorem Ck {neg:Bool} {σ:L2.St} {F H:Hp} {R:List Addr} {S:ag} {d1 d2:D} {x y:V} {Q:VK} (rx:aP C.K F R x d1) (ry:aP C.K F R y d2) (rep:bQ C.K C.G F R S H)
  (post:aK C σ F R (aP C.K) Q (UH cn fn neg d1 d2 S)):(if neg then rNeD C.X.K else rEqD C.X.K) x y H Q∨Sv (He.ga C.X.K cn) (FA C.K 2 fn) neg x y H Q:=by
 unfold UH at post
 split at post
 · rename_i c1 k1 v1 c2 k2 v2 h1 h2
   by_cases hc:c1=cn∧c2=cn
   · rw[if_pos hc] at post
     obtain⟨rfl,rfl⟩:=hc
     obtain⟨a1,dx,fs,rfl,ea,_,_⟩:=rJ rx rep h1
     obtain⟨a2,dy,gs,rfl,eb,_,_⟩:=rJ ry rep h2
     right
     refine⟨a1,a2,dx,dy,fs,gs,rfl,rfl,ea,eb,rfl,C.G,F,R,S,[d1,d2],rep, .cons rx (.cons ry .nil),?_⟩
     cases hf:fn [d1,d2] S with
     | no=>rw[hf] at post; exact post.elim
     | exc _ _=>rw[hf] at post; exact post.elim
     | ok d S' =>
      rw[hf] at post
      cases d with
      | ref n=>exact post.elim
      | p q =>
       cases q with
       | bl kk =>
        intro v F' R' H' h3 h4 h5 h6
        cases (show Rp C.K F' v (.bl kk) from h3)
        exact⟨kk,rfl,post _ F' R' H' (show aP C.K F' R' (.bl (if neg then !kk else kk)) (.p (.bl (if neg then !kk else kk))) from .bl _) h4 h5 h6⟩
       | _=>exact post.elim
   · rw[if_neg hc] at post; exact post.elim
 · left
   cases neg with
   | true=>exact iE rfl Qo rx ry rep post
   | false=>exact iE rfl Ke rx ry rep post
theorem T2 (c:Ux C.X.K (He.ga C.X.K cn) f) (hF:C.form k f fn 2 []) (hr:Room (k+1) C.X.A) (h1:Ej C m1 a) (h2:Ej C m2 b) (hm:behindInMarks .Eq b=false:=by first | exact nomark _ | rfl):Ej C (Cq cn fn false m1 m2) (.Compare a [.Eq] [b] pos):=by
 obtain⟨fd,ps,ds,dvs,g1,g2,g3,g4⟩:=hF
 have hd:dvs=[]:=by cases (g4 fun _=>none); rfl
 subst hd
 cases g3
 exact .mk fun sl S σ F R H hs hr' Q post =>
  ED.of (pe_cmpR (OpR.or (op_eqD hr.units) (Rv c g1 (hr.mono (Nat.le_succ _)) g2)) bu bu hm) (h1 sl S σ F R H hs hr' _ (aK.bind post fun d1 S1 x F1 R1 H1 _ rx rep1 s1 r1 ah=>h2 sl S1 σ F1 R1 H1 (hs.mono s1 r1) rep1 _ (aK.bind ah fun d2 S2 y F2 R2 H2 _ ry rep2 s2 r2 post2=>Ck (neg:=false) (rx.mono s2 r2) ry rep2 post2)))
theorem JW {σ:L2.St} {F:Hp} {R:List Addr} {S:ag} {sl:av} {m:M} {Q:Bool→Hp→Prop} (post:aK C σ F R rB Q ((m sl S).bind IX)):aK C σ F R (aP C.K) (fun x H'=>∃ k,x=.bl k∧Q k H') (m sl S) :=
 aK.bind post fun d S1 x F1 R1 H1 _ rx rep1 s1 r1 ah=>by
  cases d with
  | ref n=>exact ah.elim
  | p q =>
   cases q with
   | bl kk =>
    cases (show Rp C.K F1 x (.bl kk) from rx)
    exact⟨kk,rfl,ah.okv rfl rep1⟩
   | _=>exact ah.elim
def PX (cn:Str) (f:Fn) (neg:Bool) (m1 m2:M):MT:=fun sl S=>(Cq cn f neg m1 m2 sl S).bind IX
theorem RY (c:Ux C.X.K (He.ga C.X.K cn) f) (hF:C.form k f fn 2 []) (hr:Room (k+1) C.X.A) (h1:Ej C m1 a) (h2:Ej C m2 b) (hm:behindInMarks .NotEq b=false:=by first | exact nomark _ | rfl):Tj C (PX cn fn true m1 m2) (.Compare a [.NotEq] [b] pos):=by
 obtain⟨fd,ps,ds,dvs,g1,g2,g3,g4⟩:=hF
 have hd:dvs=[]:=by cases (g4 fun _=>none); rfl
 subst hd
 cases g3
 exact .mk fun sl S σ F R H hs hr' Q post =>
  TD.of (pt_cmpR (OpR.or (op_neD hr.units) (Rz c g1 hr g2)) bu bu hm) (h1 sl S σ F R H hs hr' _ (aK.bind (JW post) fun d1 S1 x F1 R1 H1 _ rx rep1 s1 r1 ah=>h2 sl S1 σ F1 R1 H1 (hs.mono s1 r1) rep1 _ (aK.bind ah fun d2 S2 y F2 R2 H2 _ ry rep2 s2 r2 post2=>Ck (neg:=true) (rx.mono s2 r2) ry rep2 post2)))
end
structure Vb (K:PySem.W.Frag) (C:Addr):Prop where
 cl:Cls K C
 ha:PySem.W.findIn K (.ref C) "__class__" = some (some (.builtin "object.__class__"))
 hn:PySem.W.specialIn K (.builtin "object.__class__") "__get__" = some (some (.builtin "getset_descriptor.__get__"))
 tk:PySem.W.takesIn K (.builtin "object.__class__")=some true
 hm:PySem.W.mroIn K C (.type "object")=some true
structure OR (K:PySem.W.Frag) (tab:Uw) (cs:List Str):Prop where
 is:∀ q∈tab,PySem.W.kitOne K (q.1.v K) (.ref (He.ga K q.2.1))=some q.2.2
 ins:∀ c∈cs,Vb K (He.ga K c)
theorem Nw {K:PySem.W.Frag} {C:Addr} (c:Cls K C) (h:Q4 K C=true):Vb K C:=by
 obtain⟨h1,h⟩:=He.ba h
 obtain⟨h2,h⟩:=He.ba h
 obtain⟨h3,h4⟩:=He.ba h
 exact⟨c,He.eqO_ok h1,He.eqO_ok h2,of_decide_eq_true h3,of_decide_eq_true h4⟩
def VJ (cs:List Str):P→Option Ur
 | .ins c _ _=>if c∈cs then some (.glo c) else none
 | p=>if cj p=true then some (.ty (oE p)) else none
def JD (tab:Uw) (cs:List Str):List P→Option P
 | [p, .glo c]=>match VJ cs p with
  | some t=>(tab.find? fun q=>decide (q.1=t∧q.2.1=c)).map fun q=>.bl q.2.2
  | none=>none
 | [p, .ty n]=>br [p, .ty n]
 | _=>none
section
variable {C:Kx} {a b c e o:Expr} {es rest:List Expr} {pos p apos:Pos} {x m cn:Str} {ma:MA} {mo:M} {fn:Fn} {k n:Nat} {dfl:List P} {f:Addr} {K:Fr} {tab:Uw} {cs:List Str}
theorem Ui {F H:Hp} {v:V} {q:P} {t:Ur} (ok:OR K.K tab cs) (s:Same F H) (h:Vw K F H v q) (e:VJ cs q=some t):TyX K.K H v (t.v K.K):=by
 have plain:cj q=true→t=.ty (oE q)→TyX K.K H v (t.v K.K):=fun hp et=>by subst et; exact Ll (h.rd s) hp
 cases q with
 | ins c ks ps =>
  simp only[VJ] at e
  obtain⟨hc,rfl⟩:=cW e
  have I:=ok.ins c hc
  cases h with
  | p h =>
   cases h with
   | ins h1 h2 h3 h4=>exact .base (.ins (s _ _ h1) I.cl I.ha I.hn I.tk I.hm)
  | ins h1 h2 h3 h4=>exact .base (.ins h1 I.cl I.ha I.hn I.tk I.hm)
 | _ =>
  simp only[VJ] at e
  obtain⟨hc,rfl⟩:=cW e
  exact plain hc rfl
theorem NC (ok:OR K.K tab cs):jS K (rIsi K.K) (JD tab cs):=fun ps z vs F H Q e hx s k=>by
 unfold JD at e
 split at e
 · rename_i q c
   obtain⟨v,w,rfl,h1,h2⟩:=V3 hx
   cases ht:VJ cs q with
   | none=>rw[ht] at e; cases e
   | some t =>
    simp only[ht] at e
    cases hf:tab.find? (fun q=>decide (q.1=t∧q.2.1=c)) with
    | none=>rw[hf] at e; cases e
    | some r =>
     rw[hf] at e
     cases e
     have hr:=of_decide_eq_true (List.find?_some (p:=fun q:Ur×Str×Bool=>decide (q.1=t∧q.2.1=c)) hf)
     have hk:=ok.is r (List.mem_of_find?_eq_some hf)
     rw[hr.1,hr.2] at hk
     have hw:w=.ref (He.ga K.K c):=by cases h2 with | p h=>cases h; rfl
     subst hw
     exact⟨v,_,_,_,r.2.2,rfl, .own _,Ui ok s h1 ht,hk,k _ F H (.bl _) (bx.refl s)⟩
 · exact JG _ z vs F H Q e hx s k
 · cases e
theorem Pf (ok:OR C.X.K tab cs) (hm:C.X.mg "isinstance" = none) (h:Aj C ma (e::es)) (hg:Gl C.X "isinstance":=by rfl) (he:Se C e es:=by exact bO rfl) (hpl:Pl C es pos:=by exact de rfl):Ej C (eF (JD tab cs) ma) (.Call (.Name "isinstance" p) (e::es) [] pos):=gx call_isi (NC ok) hm (by decide +kernel) h hg (he:=he) (hpl:=hpl)
theorem HP {X:Cx} {CX:CXT} {C p g:Addr} {mc:Value} {sp:Sp} {E:L2.St→XK} {ta:TE} {t:TA} {k:Nat} {m:Str} {pos apos:Pos} {o e:Expr} {es:List Expr} {pl:Sem Bool} (he:PE X o ta) (r:ClX.CRead X.K C mc) (c:ClX.CMet X.K C mc m p g) (F:FnR X.prog X.w X.K X.mg X.base CX k g sp) (hr:Room k X.A) (hx:∀ σ,PassesAt CX X σ (E σ)) (ha:PA X (e::es) t)
  (hst:starEach (e::es) X.env=(false,eval e X.env)::starEach es X.env:=by exact bO rfl) (hpl:(backTo pos (starEach es X.env)).any (·.1)=false:=by exact de rfl)
  (ht:eval (.Call (.Attribute o m apos) (e::es) [] pos) X.env=(do
   let ov ← eval o X.env
   standAt apos.atName
   let (f,first) ← holding [ov] (getMethod ov m pl)
   callWith pos f first (backTo pos (starEach (e::es) X.env)) (backToKw pos (keywordEach [] X.env))):=by rfl) :
  PE X (.Call (.Attribute o m apos) (e::es) [] pos) (fun σ H Q=>ta σ H fun x H1=>x=.ref C∧t σ H1 fun vs H2=>sp (.ref C::vs) H2 Q (E σ)):=by
 refine⟨fun pins s σ H Q I h=>?_⟩
 refine PySem.W.methodCall_KW (pl:=pl) (thn (he.run pins s σ H _ I h) fun u s1 ⟨x,H1,I1,rx,ex,q⟩=>?_) ht
 subst ex
 obtain rfl:u=Value.ref C:=rx
 refine ClX.getmethcm_ok I1 r c fun s2 I2=>?_
 refine ClX.callwith_cm I2 (ClX.base_none I1 (Nat.le_refl _)) c.fi (thn (ha.run pos _ s2 σ H1 _ I2 q) fun us s3 ⟨vs,H2,I3,rv,q2⟩=>⟨⟨ClX.pin_at I3,I3.kIn⟩,?_⟩) hst hpl
 have z:wpAny (model X.prog X.w) X.A (call (.ref s1.heap.objs.size) us) (EP X ((s1.heap.objs.size,PySem.W.methodObj (.ref g) (.ref C))::pins) σ Q) X.xe s3:=by
  refine wpAny_call (PySem.W.method_call (ClX.pin_at I3) (codeAny_mono (F X.A X.stack s3 H2 (.ref C::us) (.ref C::vs) Q (E σ) hr I3.env0 (.cons rfl rv) q2) fun r s' hq=>?_))
  cases r with
  | error e=>exact hx σ _ H2 s3 e s' I3 hq
  | ok fl =>
   cases fl with
   | ret u=>exact I3.after hq
   | next=>exact False.elim hq
   | brk=>exact False.elim hq
   | cont=>exact False.elim hq
 exact thn z fun _ _ y=>ClX.unpinE y
def Bu (cn:Str) (n:Nat) (dfl:List P) (f:Fn) (mo:M) (ma:MA):M:=fun sl S=>(mo sl S).bind fun d S1=>match d with
 | .p (.glo c)=>if c=cn then (ma sl S1).bind fun ds S2=>if ds.length=n then f (.p (.glo cn)::(ds++dfl.map .p)) S2 else .no else .no
 | _=>.no
theorem Lb {g pc:Addr} {mc:Value} {pl:Sem Bool} (r:ClX.CRead C.X.K (He.ga C.X.K cn) mc) (c:ClX.CMet C.X.K (He.ga C.X.K cn) mc m pc g) (hF:C.form k g fn (n+1) dfl) (hr:Room k C.X.A) (h1:Ej C mo o) (h2:Aj C ma (e::es)) (he:Se C e es:=by exact bO rfl) (hpl:Pl C es pos:=by exact de rfl)
  (ht:eval (.Call (.Attribute o m apos) (e::es) [] pos) C.X.env=(do
   let ov ← eval o C.X.env
   standAt apos.atName
   let (f,first) ← holding [ov] (getMethod ov m pl)
   callWith pos f first (backTo pos (starEach (e::es) C.X.env)) (backToKw pos (keywordEach [] C.X.env))):=by rfl):Ej C (Bu cn n dfl fn mo ma) (.Call (.Attribute o m apos) (e::es) [] pos):=.mk fun sl S σ F R H hs hr' Q post=>by
 obtain⟨fd,ps,ds,dvs,g1,g2,g3,g4⟩:=hF
 refine ED.of (HP (pl:=pl) bu r c (g1.raw g2 g3) hr (fun σ=>L2N.passAt C.tk σ) eY he hpl ht) (h1 sl S σ F R H hs hr' _ (aK.bind post fun d S1 v F1 R1 H1 _ rv rep1 s1 r1 ah=>?_))
 cases d with
 | ref n=>exact ah.elim
 | p q =>
  cases q with
  | glo c' =>
   cases (show Rp C.K F1 v (.glo c') from rv)
   simp only[] at ah
   by_cases hc:c'=cn
   · rw[if_pos hc] at ah
     subst hc
     refine⟨rfl,h2 sl S1 σ F1 R1 H1 (hs.mono s1 r1) rep1 _ (aK.bind ah fun ds' S2 vs F2 R2 H2 _ rd rep2 s2 r2 post2=>?_)⟩
     by_cases hl:ds'.length=n
     · rw[if_pos hl] at post2
       have rr:=rd.append (aF.of_p (R:=R2) (g4 F2))
       exact⟨by rw[List.cons_append,List.length_cons,rr.length,wb hl]; omega,C.G,F2,R2,S2,_,rep2, .cons (show aP C.K F2 R2 (.ref (He.ga C.X.K c')) (.p (.glo c')) from .glo c') rr,lC post2⟩
     · rw[if_neg hl] at post2; exact post2.elim
   · rw[if_neg hc] at ah; exact ah.elim
  | _=>exact ah.elim
def oZ (cn:Str) (n:Nat) (dfl:List P) (f:Fn) (i:Nat) (ma:MA):M:=fun sl S=>match sl[i]? with
 | some (some (.p (.glo c)))=>if c=cn then iU cn n dfl f ma sl S else .no
 | _=>.no
theorem Jv {X:Cx} {CX:CXT} {C f:Addr} {k i:Nat} {fd:FuncData} {ps:List Str} {sp:Sp} {dvs:List V} {ds:List Value} {E:L2.St→XK} {x:Str} {p pos:Pos} {e:Expr} {es:List Expr} {t:TA} (M:L2.Mk X.K C f) (F:FnOk X.prog X.w X.K X.mg X.base CX k f fd ps sp) (hr:Room (k+1) X.A) (hN:X.N[i]?=some x) (hv:Vis X.env.scope x) (hb:Binds X.K fd ps ds) (hd:Vals dvs ds) (hx:∀ σ,PassesAt CX X σ (E σ))
  (ha:PA X (e::es) t) (mD:(x == ("__debug__" : Str))=false:=by decide) (pY:(x == ("__classdict__" : Str))=false:=by decide) (he:starEach (e::es) X.env=(false,eval e X.env)::starEach es X.env:=by exact bO rfl) (hpl:(backTo pos (starEach es X.env)).any (·.1)=false:=by exact de rfl) :
  PE X (.Call (.Name x p) (e::es) [] pos) (fun σ H Q=>σ[i]?=some (some (.ref C))∧xA C sp dvs E t σ H Q):=by
 refine⟨fun pins s σ H Q I h=>?_⟩
 obtain⟨hs,h⟩:=h
 refine wpAny_Call_Name_kw (thn ((pe_var (pos:=p) hN hv mD pY).run pins s σ H (fun v H1=>v=.ref C∧H=H1) I ⟨.ref C,hs,rfl,rfl⟩) fun u s1 ⟨v,H1,I1,r1,q1⟩=>?_)
 obtain⟨rfl,rfl⟩:=q1
 cases r1
 refine PySem.W.callWith_K (h₀:=X.base) I.ok.mod.kin M.kp (thn (ha.run pos pins s1 σ _ _ I1 h) fun us s2 ⟨vs,H2,I2,r,q⟩=>⟨I2.kIn,?_⟩) he hpl
 exact tW M F hr hb hd (hx σ) I2 r q
theorem IH {X:Cx} {CX:CXT} {C f:Addr} {k i:Nat} {fd:FuncData} {ps:List Str} {sp:Sp} {dvs:List V} {ds:List Value} {E:L2.St→XK} {x:Str} {p pos:Pos} (M:L2.Mk X.K C f) (F:FnOk X.prog X.w X.K X.mg X.base CX k f fd ps sp) (hr:Room (k+1) X.A) (hN:X.N[i]?=some x) (hv:Vis X.env.scope x) (hb:Binds X.K fd ps ds) (hd:Vals dvs ds) (hx:∀ σ,PassesAt CX X σ (E σ))
  (mD:(x == ("__debug__" : Str))=false:=by decide) (pY:(x == ("__classdict__" : Str))=false:=by decide) :
  PE X (.Call (.Name x p) [] [] pos) (fun σ H Q=>σ[i]?=some (some (.ref C))∧xA C sp dvs E tNil σ H Q):=by
 refine⟨fun pins s σ H Q I h=>?_⟩
 obtain⟨hs,h⟩:=h
 refine wpAny_Call_Name_kw (thn ((pe_var (pos:=p) hN hv mD pY).run pins s σ H (fun v H1=>v=.ref C∧H=H1) I ⟨.ref C,hs,rfl,rfl⟩) fun u s1 ⟨v,H1,I1,r1,q1⟩=>?_)
 obtain⟨rfl,rfl⟩:=q1
 cases r1
 exact PySem.W.callWith_K0 I1.kIn M.kp (tW (us:=[]) M F hr hb hd (hx σ) I1 .nil h)
theorem CV {i:Nat} {σ:L2.St} {F:Hp} {R:List Addr} {S:ag} {sl:av} {Q:VK} (hs:SlR C.K C.px F R σ sl) (post:aK C σ F R (aP C.K) Q (oZ cn n dfl fn i ma sl S)):σ[i]?=some (some (.ref (He.ga C.X.K cn)))∧aK C σ F R (aP C.K) Q (iU cn n dfl fn ma sl S):=by
 unfold oZ at post
 split at post
 · rename_i c hi
   by_cases hc:c=cn
   · rw[if_pos hc] at post
     subst hc
     obtain⟨v,e1,e2⟩:=hs.2 _ _ hi
     cases (show Rp C.K F v (.glo c) from e2)
     exact⟨e1,post⟩
   · rw[if_neg hc] at post; exact post.elim
 · exact post.elim
theorem LC (i:Nat) (hM:L2.Mk C.X.K (He.ga C.X.K cn) f) (hF:C.form k f fn (n+1) dfl) (hr:Room (k+1) C.X.A) (h2:Aj C ma (e::es)) (hN:C.X.N[i]?=some x:=by rfl) (hv:Vis C.X.env.scope x:=by first | exact Or.inl rfl | exact Or.inr (Or.inl rfl) | exact Or.inr (Or.inr rfl)) (mD:(x == ("__debug__" : Str))=false:=by decide) (pY:(x == ("__classdict__" : Str))=false:=by decide) (he:Se C e es:=by exact bO rfl) (hpl:Pl C es pos:=by exact de rfl) :
  Ej C (oZ cn n dfl fn i ma) (.Call (.Name x p) (e::es) [] pos):=.mk fun sl S σ F R H hs hr' Q post=>by
 obtain⟨fd,ps,ds,dvs,g1,g2,g3,g4⟩:=hF
 obtain⟨q1,q2⟩:=CV hs post
 exact ED.of (Jv hM g1 hr hN hv g2 g3 (fun σ=>L2N.passAt C.tk σ) eY mD pY he hpl) ⟨q1,pX rfl rfl g4 h2 hs hr' q2⟩
theorem Iy (i:Nat) (hM:L2.Mk C.X.K (He.ga C.X.K cn) f) (hF:C.form k f fn 1 dfl) (hr:Room (k+1) C.X.A) (hN:C.X.N[i]?=some x:=by rfl) (hv:Vis C.X.env.scope x:=by first | exact Or.inl rfl | exact Or.inr (Or.inl rfl) | exact Or.inr (Or.inr rfl)) (mD:(x == ("__debug__" : Str))=false:=by decide) (pY:(x == ("__classdict__" : Str))=false:=by decide) :
  Ej C (oZ cn 0 dfl fn i aN) (.Call (.Name x p) [] [] pos):=.mk fun sl S σ F R H hs hr' Q post=>by
 obtain⟨fd,ps,ds,dvs,g1,g2,g3,g4⟩:=hF
 obtain⟨q1,q2⟩:=CV hs post
 exact ED.of (IH hM g1 hr hN hv g2 g3 (fun σ=>L2N.passAt C.tk σ) mD pY) ⟨q1,pX (n:=0) rfl rfl g4 (fun sl S σ F R H hs hr Q post=>(post.okv .nil hr:Q [] H)) hs hr' q2⟩
def A6 (m:M):M:=fun sl S=>qU S.length (m sl S)
theorem yb (h:Ej C mo e):Ej C (A6 mo) e:=.mk fun sl S σ F R H hs hr' Q post=>h sl S σ F R H hs hr' Q (Fy hr' post)
end
def nV (fa:List He.Fa) (ts:List He.Tab) (fn:List He5.DefA) (ex:PySem.W.Frag→Bool) (w:World) (K:PySem.W.Frag):Prop:=obZ fa ts fn ex K=Wb ts fn w
section
variable {fa:List He.Fa} {ts:List He.Tab} {fn:List He5.DefA} {ex:PySem.W.Frag→Bool} {w:World} {K:PySem.W.Frag}
theorem nV.t (c:nV fa ts fn ex w K):He.SaysT fa [] ts w K:=congrArg (fun z:UF=>z.1) c
theorem nV.fact (c:nV fa ts fn ex w K) (i:Nat) {f:He.Fa} (h:fa[i]?=some f:=by rfl):f.ok K=true:=c.t.d.fact i h
theorem nV.tab (c:nV fa ts fn ex w K) (i:Nat) {t:He.Tab} (h:ts[i]?=some t:=by rfl):∃ es n,KDict K w (t.1 K) es n:=c.t.tab i h
theorem nV.ok (c:nV fa ts fn ex w K):(fn.all fun d=>d.ok K)=true∧ex K=true:=He.ba (show ((fn.all fun d=>d.ok K) && ex K)=true from congrArg (fun z:UF=>z.2.1) c)
theorem nV.def_ (c:nV fa ts fn ex w K) (i:Nat) {d:He5.DefA} (h:fn[i]?=some d:=by rfl):∃ fd,FunD K d.name d.qual d.params d.body d.scope (d.dvs K) (d.kws K) (d.at_ K) fd:=by
 have e:fn.map (fun d=>He5.fnA K (d.at_ K))=fn.map He5.DefA.val:=congrArg (fun z:UF=>z.2.2) c
 have e2:(fn.map fun d=>He5.fnA K (d.at_ K))[i]?=(fn.map He5.DefA.val)[i]?:=by rw[e]
 rw[List.getElem?_map,List.getElem?_map,h] at e2
 exact He5.DefA.funD (Option.some.inj e2) (List.all_eq_true.mp c.ok.1 d (List.mem_of_getElem? h))
end
theorem RL {K:PySem.W.Frag} {C:Addr} (h:VN K C=true):Ux K C (He.ma K C "__eq__"):=by
 obtain⟨h1,h⟩:=He.ba h
 obtain⟨h2,h⟩:=He.ba h
 obtain⟨h3,h4⟩:=He.ba h
 exact⟨He.eqO_ok h1,He.eqO_ok h2,h3,of_decide_eq_true h4⟩
theorem Ki {K:PySem.W.Frag} {tab:Uw} (h:Jh K tab=true):∀ q∈tab,PySem.W.kitOne K (q.1.v K) (.ref (He.ga K q.2.1))=some q.2.2:=fun q hq=>of_decide_eq_true (List.all_eq_true.mp h q hq)
theorem KG {K:PySem.W.Frag} {C:Addr} (h:Lw K C=true):ClX.CRead K C (.type "type"):=by
 obtain⟨h1,h2⟩:=He.ba h
 exact⟨h1,He.eqO_ok h2⟩
theorem Nv {K:PySem.W.Frag} {C:Addr} {m:Str} (h:Ri K C m=true):ClX.CMet K C (.type "type") m (He.ma K C m) (He5.wf K C "classmethod" m):=by
 obtain⟨h1,h2⟩:=He.ba h
 exact He5.cmet_of h1 h2
theorem EJ {K:Fr} {F:Hp} {a:Addr} (h:CI K.K a=true):Rp K F (.ref a) (.tup []):=by
 unfold CI at h
 split at h
 · rename_i its n sl e
   have hi:its=#[]:=by simpa using h
   subst hi
   exact .tupW (.inr ⟨_,#[],_,e,rfl,rfl,rfl,by decide, .nil⟩) .nil rfl
 · cases h
section
variable {C:Kx} {a b c e tg iter elt:Expr} {es rest:List Expr} {pos pos' p:Pos} {x:Str} {m me:M} {t:MT} {ms:MI} {K:Fr} {g:TG} {eff:oF} {js vs:List Nat} {wi:TI} {scope:Scope} {own:List (Str×Nat)} {ma:MA}
theorem bQ.liven {G F H:Hp} {R:List Addr} {S:ag} {l:Addr} {o:HO} {c:eQ} (h:bQ K (upd G l o) F R S H) (n:G l=none) (hc:dE K F (R++[l]) l (one l o) c):bQ K G F (R++[l]) (S++[c]) H:=by
 obtain⟨pc,h⟩:=h
 obtain⟨q1,q2,q3⟩:=h.grd l o upd_same
 have h0:bQ K G F R S (fun b=>if b=l then none else H b):=by
  refine⟨pc,fun a u e=>?_,h.len,h.ok,fun m a u e=>?_,h.sep,h.emp,fun a u e=>?_⟩
  · have ha:a≠l:=fun z=>by subst z; rw[q2] at e; cases e
    show (if a=l then none else H a)=some u
    rw[if_neg ha]; exact h.sub _ _ e
  · obtain⟨z1,z2⟩:=h.out m a u e
    have ha:a≠l:=fun z=>by subst z; rw[q3 m] at e; cases e
    refine⟨z1,?_⟩
    show (if a=l then none else H a)=some u
    rw[if_neg ha]; exact z2
  · have ha:a≠l:=fun z=>by subst z; rw[n] at e; cases e
    obtain⟨z1,z2,z3⟩:=h.grd a u (by rw[upd_ne ha]; exact e)
    refine⟨?_,z2,z3⟩
    show (if a=l then none else H a)=some u
    rw[if_neg ha]; exact z1
 have e:upd (fun b=>if b=l then none else H b) l o=H:=by
  funext b
  by_cases hb:b=l
  · subst hb; rw[upd_same,q1]
  · rw[upd_ne hb]
    show (if b=l then none else H b)=H b
    rw[if_neg hb]
 have:=h0.push1 (a:=l) (o:=o) (c:=c) (if_pos rfl) hc
 rw[e] at this
 exact this
def LQ (ms:MI) (eff:oF) (t:MT) (me:M) (own:List Nat):M:=fun sl S=>(ms sl S).bind fun its S1=>(ua eff t me own sl its [] S1).bind fun ps S2=>.ok (.ref S2.length) (S2++[.lst (ps.map .p)])
theorem LZ {tt:TT} {te:TE} {σ:L2.St} {F H:Hp} {R:List Addr} {sl:av} {S:ag} {Q:VK} (hs:SlR C.K C.px F R σ sl) (hr:bQ C.K C.G F R S H) (oU:my C wi ms) (ho:Il C.K g eff js) (hj:∀ j∈js,j∈vs) (ht:JI C tt te t me)
  (post:aK C σ F R (aP C.K) Q (LQ ms eff t me vs sl S)):tLc wi g tt te vs σ H Q:=by
 refine oU sl S σ F R H hs hr _ (aK.bind post fun its S1 J F1 R1 H1 _ ok rep1 s1 r1 ah=>?_)
 intro D hD
 have mx:=hs.mono s1 r1
 have nG:=rep1.gnone hD
 let Pv:Nat→Hp→Prop:=fun i H=>∃ (F2:Hp) (R2:List Addr) (S2:ag) (acc:List P) (ws:List V),Same F1 F2∧R1 <+: R2∧bQ C.K (upd C.G D (.lst ws)) F2 R2 S2 H∧ay C.K F2 ws acc∧aK C σ F2 R2 (aP C.K) Q ((ua eff t me vs sl (its.drop i) acc S2).bind fun ps S2=>.ok (.ref S2.length) (S2++[.lst (ps.map .p)]))
 have start:Pv 0 (upd H1 D (.lst [])):=⟨F1,R1,S1,[],[],Same.refl _,aI,rep1.guard hD, .nil,ah⟩
 refine⟨fun i m H=>m=its.length - i∧i≤its.length∧Pv i H,⟨its.length,rfl,Nat.zero_le _,start⟩,?_⟩
 rintro i m H ⟨rfl,hi,F2,R2,S2,acc,ws,s2,r2,rep2,hr2,post2⟩
 by_cases kO:i < its.length
 · have hit:its[i]?=some its[i]:=List.getElem?_eq_getElem kO
   have hd:its.drop i=its[i]::its.drop (i+1):=List.drop_eq_getElem_cons kO
   rw[hd] at post2
   obtain⟨g1,g2⟩:=ok.go i _ F2 H hit s2 rep2.sub
   refine .inr ⟨g1,Pv (i+1),fun H' p'=>⟨its.length - (i+1),by omega,rfl,kO,p'⟩,fun v H' hy=>?_⟩
   obtain⟨F3,pq,rv⟩:=g2 v H' hy
   have rep3:=rep2.grow pq
   simp only[ua] at post2
   cases he:eff its[i] (dz sl vs) with
   | none=>simp only[he] at post2; exact post2.elim
   | some sl3 =>
    simp only[he] at post2
    refine ho _ _ sl3 _ F3 R2 H' v _ he rv ((mx.mono (s2.trans pq.sF) r2).wipe vs) pq.sub fun σ3 Fq off=>?_
    refine⟨by rw[off.wipe hj,Ad],?_⟩
    have e1:Same F1 F3:=s2.trans pq.sF
    cases FG:t sl3 S2 with
    | exc x S4=>simp only[FG] at post2; exact post2.elim
    | no=>simp only[FG] at post2; exact post2.elim
    | ok b S4 =>
     refine ht.t _ sl3 S2 σ3 F3 R2 H' Fq rep3 b S4 FG _ fun F4 R4 H4 Fz s4 r4=>?_
     have post2:=aK.mono post2 (pq.sF.trans s4) r4
     cases b with
     | false =>
      simp only[FG] at post2
      show Pv (i+1) H4
      exact⟨F4,R4,S4,acc,ws,e1.trans s4,bf r2 r4,Fz,ay.mono (pq.sF.trans s4) _ _ hr2,post2⟩
     | true =>
      simp only[FG] at post2
      show te σ3 H4 _
      cases KW:me sl3 S4 with
      | exc x S5=>simp only[KW] at post2; exact post2.elim
      | no=>simp only[KW] at post2; exact post2.elim
      | ok d S5 =>
       cases d with
       | ref n=>simp only[KW] at post2; exact post2.elim
       | p z =>
        simp only[KW] at post2
        refine ht.e _ sl3 S4 σ3 F4 R4 H4 (Fq.mono s4 r4) Fz _ S5 KW _ fun y F5 R5 H5 ry Ma s5 r5=>?_
        have post2:=aK.mono post2 s5 r5
        have Vv:=ay.mono ((pq.sF.trans s4).trans s5) _ _ hr2
        by_cases hl:acc.length < sizeLine
        · simp only[if_pos hl] at post2
          have XY:H5 D=some (.lst ws):=by
           obtain⟨pc,q⟩:=Ma
           exact (q.grd D _ upd_same).1
          refine⟨ws,XY,by rw[Vv.length]; exact hl,F5,R5,S5,acc++[z],ws++[y],(e1.trans s4).trans s5,bf (bf r2 r4) r5,Ma.regrow,Vv.append (.cons ry .nil),post2⟩
        · simp only[if_neg hl] at post2; exact post2.elim
 · have e:i=its.length:=by omega
   subst e
   rw[List.drop_length] at post2
   refine .inl ⟨ok.stop F2 H s2 rep2.sub,?_⟩
   have Yt:H D=some (.lst ws):=by
    obtain⟨pc,q⟩:=rep2
    exact (q.grd D _ upd_same).1
   have Fz:=rep2.liven (c:=.lst (acc.map .p)) nG (.lst (aF.of_p (R:=R2++[D]) hr2))
   exact post2 (.ref D) F2 (R2++[D]) H (show aP C.K F2 (R2++[D]) (.ref D) (.ref S2.length) from ⟨D,mV rep2.len,rfl⟩) Fz (Same.refl _) iz
def og (ma:MA):M:=fun sl S=>(ma sl S).bind fun ds S1=>match fV S1 ds with
 | some qs=>match xT qs with
  | some (.lst ps)=>.ok (.ref S1.length) (S1++[.lst (ps.map .p)])
  | _=>.no
 | none=>.no
theorem Pp {F H:Hp} {qs:List P} {ps:List P} {vs:List V} (s:Same F H) (e:xT qs=some (.lst ps)) (hx:Ah K F H vs qs):∃ p ys,vs=[.ref p]∧(SqL K.K H p ys∨SqT K.K H p ys)∧ay K F ys ps:=by
 unfold xT at e
 split at e
 · obtain⟨v,rfl,h⟩:=vY hx
   cases e
   obtain⟨a,ws,rfl,h1,h2⟩:=h.lstE s
   exact⟨a,ws,rfl, .inl (.inl (.inl h1)),h2⟩
 · obtain⟨v,rfl,h⟩:=vY hx
   cases e
   obtain⟨a,ws,rfl,h1,h2⟩:=h.tupE
   exact⟨a,ws,rfl, .inr (aZ s h1),h2⟩
 · obtain⟨v,rfl,h⟩:=vY hx
   cases e
   obtain⟨a,rfl,h1⟩:=h.scrE s
   refine⟨a,_,rfl, .inl h1,?_⟩
   rename_i ns
   clear h1 h hx
   induction ns with
   | nil=>exact .nil
   | cons n ns ih=>exact .cons (.int n) ih
 · cases e
theorem xh (hm:C.X.mg "list" = none) (h:Aj C ma (e::es)) (hg:Gl C.X "list":=by rfl) (he:Se C e es:=by exact bO rfl) (hpl:Pl C es pos:=by exact de rfl):Ej C (og ma) (.Call (.Name "list" p) (e::es) [] pos):=.mk fun sl S σ F R H hs hr Q post =>
 ED.of (pe_callTy call_list_of hg hm (by decide +kernel) eY (by decide) (by decide) he hpl) (h sl S σ F R H hs hr _ (aK.bind post fun ds S1 vs F1 R1 H1 _ rx rep1 s1 r1 ah=>by
  cases hv:fV S1 ds with
  | none=>simp only[hv] at ah; exact ah.elim
  | some qs =>
   simp only[hv] at ah
   split at ah
   · rename_i ps hl
     obtain⟨p,ys,rfl,h1,h2⟩:=Pp rep1.sub hl (oO rx rep1 hv)
     refine⟨p,ys,rfl,h1,fun l hn=>?_⟩
     exact ah _ F1 (R1++[l]) _ (show aP C.K _ _ _ (.ref S1.length) from ⟨l,mV rep1.len,rfl⟩) (rep1.push1 hn (.lst (aF.of_p (R:=R1++[l]) h2))) (Same.refl _) iz
   · exact ah.elim))
end
section
variable {C:Kx} {c tg iter elt:Expr} {pos pos' Wi:Pos} {x:Str} {me:M} {t:MT} {ms:MI} {g:TG} {eff:oF} {js:List Nat} {wi:TI} {scope:Scope} {own:List (Str×Nat)}
theorem FC (i:Nat) (hc:C.X.calm=true) (hN:C.X.N.Nodup) (hi:PI C.X tg iter wi) (oU:my C wi ms) (ok:BlkOk C.X.N C.X.env.scope scope own) (hg:Zk C scope tg g) (ho:Il C.K g eff js) (hj:∀ j∈js,j∈own.map (·.2)) (he:XC C scope me elt)
  (hf:∀ x,foldedSetIterable iter C.X.env x=pure x:=by intro _; rfl) (hy:C.X.N[i]?=some x:=by rfl) (Ut:C.X.env.scope.names.lookup x=some .local:=by rfl)
  (hw:swapsWith (.ListComp elt [⟨tg,iter,[],0⟩] scope pos) (some (.Name x pos')) Wi.line C.X.env=pure true:=by exact sw_true rfl rfl rfl rfl) :
  zl C (cV i (LQ ms eff iY me (own.map (·.2)))) (.Assign [.Name x pos'] (.ListComp elt [⟨tg,iter,[],0⟩] scope pos) Wi):=.mk fun sl S σ F R H hs hr D post =>
 yC.of (ps_setLc hc hN hy Ut hw hi ok hg (fun _ _ _ _ _=>pts_nil) (fun s H Cc cl fp=>TQ s H Cc cl fp) hf) (LZ hs hr oU ho hj ⟨fun G sl S σ F R H hs hr b S1 e Q k=>by cases e; exact k F R H hr (Same.refl _) aI,EM he⟩ (bM.bind post hs fun d S1 v F1 R1 H1 _ rv rep1 s1 r1 mx ah=>ah _ F1 R1 H1 (mx.set rv) rep1 (Same.refl _) aI))
end
def IDX (X:Cx) (tg iter:Expr):TI:=fun σ H R=>∀ (pins:List (Addr×Obj)) (s:Shared),Inv X pins σ H s→wpAny (model X.prog X.w) X.A (eval iter X.env) (fun v s1=>wpAny (model X.prog X.w) X.A (pyIter v) (PIE X pins σ tg R) X.xe s1) X.xe s
theorem IDX.of {X:Cx} {tg iter:Expr} {wi:TI} {σ:L2.St} {H:Hp} {R:It→Hp→Prop} (h:PI X tg iter wi) (q:wi σ H R):IDX X tg iter σ H R:=fun pins s I=>h.run pins s σ H R I q
def KD (X:Cx) (kws:List Keyword):TA:=fun σ H Q=>∀ (pos:Pos) (pins:List (Addr×Obj)) (s:Shared),Inv X pins σ H s→wpAny (model X.prog X.w) X.A (evalAll ((backToKw pos (keywordEach kws X.env)).map (·.2))) (AP X pins σ Q) X.xe s
theorem KD.of {X:Cx} {kws:List Keyword} {t:TA} {σ:L2.St} {H:Hp} {Q:List V→Hp→Prop} (h:PK X kws t) (q:t σ H Q):KD X kws σ H Q:=fun pos pins s I=>h.run pos pins s σ H Q I q
def WW (P:Program) (w:World) (K:PySem.W.Frag) (mg:Str→Option Value) (base:Heap) (k:Nat) (x qual:Str) (f:Addr) (st:Stmt) (kws:List (Str×V)) (ps:List Str) (fn:Fn):Prop :=
 ∃ fd,FunD K x qual (defArgs st) (defBody st) (defScope st) [] kws f fd∧FnOk P w K mg base (L2N.CX P w) k f fd ps (FA ⟨K,P,w⟩ ps.length fn)
section
variable {P:Program} {w:World} {K:PySem.W.Frag} {mg:Str→Option Value} {base:Heap} {k:Nat} {x qual:Str} {N ps:List Str} {st:Stmt} {fn:Fn} {b:MS} {f:Addr} {kws:List (Str×V)}
theorem WW.imp {Wy:Fn} (h:WW P w K mg base k x qual f st kws ps fn) (hf:∀ G F R S ds H (Q:VK) (E:XK),bQ ⟨K,P,w⟩ G F R S H→mC ⟨K,P,w⟩ G F R Q E (Wy ds S)→mC ⟨K,P,w⟩ G F R Q E (fn ds S)):WW P w K mg base k x qual f st kws ps Wy:=by
 obtain⟨fd,h0,h1⟩:=h
 exact⟨fd,h0,h1.imp fun vs H Q E ⟨hl,G,F,R,S,ds,rep,rx,post⟩=>⟨hl,G,F,R,S,ds,rep,rx,hf G F R S ds H Q E rep post⟩⟩
theorem WW.keep (h:WW P w K mg base k x qual f st kws ps fn):PySem.W.keepIn K (.ref f)=true:=let ⟨_,h0,_⟩:=h; h0.kp
end
theorem FH.mono {K:Fr} {F F':Hp} {cls:Value} {d:Option Addr} {x:Xc} (e:Same F F') (h:FH K F cls d x):FH K F' cls d x:=by
 obtain⟨h1,h2⟩:=h
 refine⟨h1,?_⟩
 rcases h2 with h2 | ⟨a,fs,q1,q2,q3,q4⟩
 · exact .inl h2
 · exact .inr ⟨a,fs,q1,e _ _ q2,q3,ay.mono e _ _ q4⟩
def A3.su (px:A3) (K:Fr) (n:Nat) (a:Addr) (cls:Value) (d:Option Addr) (x:Xc):A3:=⟨fun F R=>px.P F R∧R[n]?=some a∧FH K F cls d x,fun F F' R R' e eR h=>⟨px.mono _ _ _ _ e eR h.1,pU eR h.2.1,h.2.2.mono e⟩⟩
def Kx.su (C:Kx) (a:Addr) (oe:Obj) (pn:List (Addr×Obj)) (n:Nat) (cls:Value) (d:Option Addr) (x:Xc):Kx:=⟨C.X.suite a ((a,oe)::pn),fun _ _ _ _=>False,ny,C.G,C.px.su C.K n a cls d x⟩
def Kx.tr (C:Kx) (W:WX) (pn:List (Addr×Obj)) (xe:Value→Shared→Prop) (tk:L2N.Takes (C.X.tr pn xe) W):Kx:=⟨C.X.tr pn xe,W,tk,C.G,C.px⟩
theorem SlR.unsu {K K':Fr} {px:A3} {n:Nat} {a:Addr} {cls:Value} {d:Option Addr} {x:Xc} {F:Hp} {R:List Addr} {σ:L2.St} {sl:av} (h:SlR K (px.su K' n a cls d x) F R σ sl):SlR K px F R σ sl:=⟨h.len,h.get,h.pin.1⟩
def Js (K:PySem.W.Frag) (c:Value) (tab:Iz):Prop:=∀ q∈tab,PySem.W.exmOne K (.ref (He.ga K q.1)) c=some q.2
theorem WP {K:PySem.W.Frag} {c:Value} {tab:Iz} (h:exB K c tab=true):Js K c tab:=fun q hq=>of_decide_eq_true (List.all_eq_true.mp h q hq)
def J0 (tab:Iz) (c:Str):Option Bool:=(tab.find? fun q=>decide (q.1=c)).map (·.2)
theorem Lh {K:PySem.W.Frag} {c:Value} {tab:Iz} (ok:Js K c tab) {z:Str} {b:Bool} (h:J0 tab z=some b):PySem.W.exmOne K (.ref (He.ga K z)) c=some b:=by
 unfold J0 at h
 cases hf:tab.find? (fun q=>decide (q.1=z)) with
 | none=>rw[hf] at h; cases h
 | some q =>
  rw[hf] at h
  cases h
  have h1:=of_decide_eq_true (List.find?_some (p:=fun q:Str×Bool=>decide (q.1=z)) hf)
  have h2:=ok q (List.mem_of_find?_eq_some hf)
  rw[h1] at h2
  exact h2
def Yc (i:Nat):Fl→Fl
 | .nx sl S=>.nx (sl.set i none) S
 | .rt d S=>.rt d S
 | .bk sl S=>.bk (sl.set i none) S
 | .ct sl S=>.ct (sl.set i none) S
 | _=>.no
def qO (tab:Iz) (i:Nat) (mb:MS) (su:Xc→Nat→MS):MS:=fun sl S=>match mb sl S with
 | .exc x sl1 S1=>match J0 tab x.c with
  | some true=>Yc i (su x S1.length (sl1.set i (some (.ref S1.length))) (S1++[eQ.dead]))
  | some false=>.exc x sl1 S1
  | none=>.no
 | r=>r
def X5:Fl→Fl
 | .exc _ _ _=>.no
 | r=>r
def yl (tab:Iz) (mb su:MS):MS:=fun sl S=>match mb sl S with
 | .exc x sl1 S1=>match J0 tab x.c with
  | some true=>X5 (su sl1 S1)
  | some false=>.exc x sl1 S1
  | none=>.no
 | r=>r
section
variable {C:Kx} {tab:Iz} {i:Nat} {mb:MS} {su:Xc→Nat→MS} {XR:MS} {body suite:List Stmt} {b₀:Stmt} {x n:Str} {c:Value} {np pos pos':Pos}
theorem JP (hc:Names C.X x c) (ht:Js C.X.K c tab) (hN:C.X.N.Nodup)
  (hb:∀ W pn xe tk,Sj (C.tr W pn xe tk) mb body)
  (hsu:∀ x' n' a oe cls d pn,L2N.Zn cls d oe→(∃ vs,oe.data=.fields vs)→Sj (C.su a oe pn n' cls d x') (su x' n') (b₀::suite))
  (U5:C.X.stack=C.X.env::C.X.outer:=by rfl) (hf:C.X.env.frame=some C.X.env.locals:=by rfl) (hi:C.X.N[i]?=some n:=by rfl) (ZY:C.X.env.kindOf n=some .local:=by rfl) :
  zl C (qO tab i mb su) (.Try body [.ExceptHandler (some (.Name x np)) (some n) (b₀::suite) pos'] [] [] pos):=.mk fun sl S σ F R H hs hr D post=>by
 refine yC.of (L2N.ps_try_as (ts:=fun a cls d D σ H=>∀ oe pn,L2N.Zn cls d oe→(∃ vs,oe.data=.fields vs)→SD (C.X.suite a ((a,oe)::pn)) (b₀::suite) D σ H) (tb:=fun W D σ H=>∀ pn xe,L2N.Takes (C.X.tr pn xe) W→SD (C.X.tr pn xe) body D σ H) U5 hf hN hi ZY hc C.tk (fun W pn xe tk _=>⟨fun pins s σ H D I h=>h pn xe tk pins s I⟩) (fun a oe cls d pn hz hf=>⟨fun pins s σ H D I h=>h oe pn hz hf pins s I⟩)) ?_
 intro pn xe tk
 refine (hb _ pn xe tk) sl S σ F R H hs hr D ?_
 unfold qO at post
 cases hm:mb sl S with
 | exc x1 sl1 S1 =>
  rw[hm] at post
  intro cls d σ' F' R' H' hx nX hr' e eR
  cases hl:J0 tab x1.c with
  | none=>simp only[hl] at post; exact post.elim
  | some b =>
   refine⟨b,by rw[hx.1]; exact Lh ht hl,fun Zl a na oe pn hz QS=>?_,fun ZE=>?_⟩
   · subst Zl
     simp only[hl] at post
     have hlen:=hr'.len
     have rep1:bQ C.K C.G F' (R'++[a]) (S1++[eQ.dead]) H':=hr'.push (q:=nil) (fun b o z=>by cases z) .dead (fun b=>rfl)
     refine (hsu x1 S1.length a oe cls d pn hz QS) (sl1.set i (some (.ref S1.length))) (S1++[eQ.dead]) (σ'.set i (some (.ref a))) F' (R'++[a]) H' ?_ rep1 _ ?_
     · have h1:=nX.mono (Same.refl _) (iz (t:=[a]))
       have h2:=h1.set (i:=i) (v:=.ref a) (d:=.ref S1.length) ⟨a,by rw[← hlen]; simp,rfl⟩
       exact⟨h2.len,h2.get,h2.pin,by rw[← hlen]; simp,hx⟩
     · have up:∀ {F2:Hp} {R2:List Addr},Same F' F2→R'++[a] <+: R2→Same F F2∧R <+: R2:=fun k3 k4=>⟨e.trans k3,bf eR (bf iz k4)⟩
       cases hq:su x1 S1.length (sl1.set i (some (.ref S1.length))) (S1++[eQ.dead]) with
       | nx sl2 S2=>rw[hq] at post; exact fun σ2 F2 R2 H2 k1 k2 k3 k4=>post _ F2 R2 H2 k1.unsu.setN k2 (up k3 k4).1 (up k3 k4).2
       | rt d2 S2=>rw[hq] at post; exact fun v F2 R2 H2 k1 k2 k3 k4=>post v F2 R2 H2 k1 k2 (up k3 k4).1 (up k3 k4).2
       | bk sl2 S2=>rw[hq] at post; exact fun σ2 F2 R2 H2 k1 k2 k3 k4=>post _ F2 R2 H2 k1.unsu.setN k2 (up k3 k4).1 (up k3 k4).2
       | ct sl2 S2=>rw[hq] at post; exact fun σ2 F2 R2 H2 k1 k2 k3 k4=>post _ F2 R2 H2 k1.unsu.setN k2 (up k3 k4).1 (up k3 k4).2
       | exc x2 sl2 S2=>rw[hq] at post; exact post.elim
       | no=>rw[hq] at post; exact post.elim
   · subst ZE
     simp only[hl] at post
     exact post cls d σ' F' R' H' hx nX hr' e eR
 | nx sl2 S2=>rw[hm] at post; exact post
 | rt d2 S2=>rw[hm] at post; exact post
 | bk sl2 S2=>rw[hm] at post; exact post
 | ct sl2 S2=>rw[hm] at post; exact post
 | no=>rw[hm] at post; exact post
end
end Z
namespace PySem
namespace Zx
open PySem.W PySem.Calls PyProof.Rows PySem.HandSPX
section
open Builtin Builtin.ObjectAttr
variable {prog:Program} {w:World} {A:Around} {E:Value→Shared→Prop} {R:Result→Shared→Prop} {hp:Heap} {g:Array GenState} {d:Drawn} {t:Nat} {os:OsState}
theorem osa_newG {K:W.Frag} {name:Str} {tk:Tok} {v:Value} {x C:Addr} {fv:Array Value} {cd:ClassData}
  (X:K.In hp) (hx:hp.get? x=some { cls:=.ref C,data:=.fields fv }) (pY:W.clsIn K C=some cd) (LD:refuseLoop (.ref x) "__setattr__" cd.mro=pure ()) (CH:cd.mro.contains (.type "object")=true) (ne:cd.mro.isEmpty=false) (hh:cd.hasDict=true) (ha:W.findIn K (.ref C) name=some none)
  (hq:∀ h' qe dx,(∀ b o,b≠x→hp.get? b=some o→h'.get? b=some o)→hp.objs.size≤dx→dx≠x→h'.get? x=some { cls:=.ref C,dict:=some dx,data:=.fields fv } →
   h'.Ns1 dx (fun y=>if y=name then some v else none)→R (.ok (.ret .none)) ⟨h',g,d,qe,os⟩) :
  codeAny (model prog w) A (.call (.builtin "object.__setattr__") ⟨[.ref x, .str name tk,v],[]⟩) R ⟨hp,g,d,t,os⟩:=by
 have I:W.InstAt hp x { cls:=.ref C,data:=.fields fv } C none:=⟨hx,rfl,rfl,trivial⟩
 have SF:=F.store_object
 have Vg:x≠hp.objs.size:=Nat.ne_of_lt (Heap.lt_size hx)
 have sub:W.Looks (model prog w) hp (isInstance (.ref x) (.type "object")) true:=I.type.andThen (W.looks_mroIn X (by unfold W.mroIn; rw[pY,Option.bind_some,if_neg (by rw[ne]; decide),CH]))
 refine codeAny_call_builtin SF.slot.plain SF.entry (@W.check_slot (model prog w) _ _ ⟨hp,g,d,t,os⟩ "object.__setattr__" "object" "__setattr__" (.ref x) [.str name tk,v] [] _ SF.kind SF.split sub (SF.args (.ref x) (.str name tk) v) ?_)
 have hmr:W.Looks (model prog w) hp (mroOf (.ref C)) cd.mro:=(W.looks_clsIn X pY).andThen .now
 have L3:W.Looks (model prog w) hp (storeTaker? none) none:=.now
 have LK:W.Looks (model prog w) hp (classData C) cd:=W.looks_clsIn X pY
 rw[W.osa_eq,refuse_eq]
 refine wpAny_bind (wpAny_bind (I.type.at (wpAny_bind (hmr.at ?_))))
 rw[LD]
 refine wpAny_pure (wpAny_bind (I.type.at (wpAny_bind ((W.looks_findIn X ha).at (wpAny_bind (L3.at ?_))))))
 show wpAny _ _ (storeInOwnDict (.ref x) (.ref C) (.str name tk) name v false) _ _ _
 obtain⟨nm,bs,mro,ns,qn,hd,sn,sb,ab,col,del⟩:=cd
 dsimp only at hh
 subst hh
 unfold storeInOwnDict ownDictForStores
 repeat (first | with_reducible refine PySem.HandSPX.store_in_new ?_ ?_ | with_reducible refine wpAny_loadPart_at hx ?_ | with_reducible refine LK.at ?_ | wp_step)
 · exact⟨_,#[],_,(Heap.get?_update_ne _ _ _ _ Vg.symm).trans (Heap.get?_push_at rfl rfl),rfl,fun e he=>absurd he (by simp),fun _=>rfl⟩
 · intro h' qe Wa hs
   have hx₁:(hp.push { cls:=.type "dict",data:=.dict #[] }).get? x=some { cls:=.ref C,data:=.fields fv }:=Heap.get?_push_of_some _ hx
   refine hq h' qe hp.objs.size (fun b o hb ho=>?_) (Nat.le_refl _) Vg.symm ?_ Wa
   · exact (hs.2 b (Nat.ne_of_lt (Heap.lt_size ho))).trans ((Heap.get?_update_ne _ _ _ _ hb).trans (Heap.get?_push_of_some _ ho))
   · exact (hs.2 x Vg).trans (Heap.get?_update_self _ hx₁ rfl)
theorem osa_oldG {K:W.Frag} {name:Str} {tk:Tok} {v:Value} {x C dx:Addr} {fv:Array Value} {cd:ClassData} {m0:Str→Option Value} {nl:List Str}
  (X:K.In hp) (hx:hp.get? x=some { cls:=.ref C,dict:=some dx,data:=.fields fv }) (hns:hp.Ns1 dx m0) (hw:Within m0 nl) (hz:nl.length≤1000) (pY:W.clsIn K C=some cd) (LD:refuseLoop (.ref x) "__setattr__" cd.mro=pure ()) (CH:cd.mro.contains (.type "object")=true) (ne:cd.mro.isEmpty=false) (hh:cd.hasDict=true)
  (ha:W.findIn K (.ref C) name=some none)
  (hq:∀ h' qe,(∀ b o,b≠dx→hp.get? b=some o→h'.get? b=some o)→h'.Ns1 dx (fun y=>if y=name then some v else m0 y)→R (.ok (.ret .none)) ⟨h',g,d,qe,os⟩) :
  codeAny (model prog w) A (.call (.builtin "object.__setattr__") ⟨[.ref x, .str name tk,v],[]⟩) R ⟨hp,g,d,t,os⟩:=by
 obtain⟨oD,esD,epD,Y5,hdD,_⟩:=hns.count hw
 have I:W.InstAt hp x { cls:=.ref C,dict:=some dx,data:=.fields fv } C (some oD):=⟨hx,rfl,rfl,Y5⟩
 have SF:=F.store_object
 have sub:W.Looks (model prog w) hp (isInstance (.ref x) (.type "object")) true:=I.type.andThen (W.looks_mroIn X (by unfold W.mroIn; rw[pY,Option.bind_some,if_neg (by rw[ne]; decide),CH]))
 refine codeAny_call_builtin SF.slot.plain SF.entry (@W.check_slot (model prog w) _ _ ⟨hp,g,d,t,os⟩ "object.__setattr__" "object" "__setattr__" (.ref x) [.str name tk,v] [] _ SF.kind SF.split sub (SF.args (.ref x) (.str name tk) v) ?_)
 have hmr:W.Looks (model prog w) hp (mroOf (.ref C)) cd.mro:=(W.looks_clsIn X pY).andThen .now
 have L3:W.Looks (model prog w) hp (storeTaker? none) none:=.now
 have LK:W.Looks (model prog w) hp (classData C) cd:=W.looks_clsIn X pY
 rw[W.osa_eq,refuse_eq]
 refine wpAny_bind (wpAny_bind (I.type.at (wpAny_bind (hmr.at ?_))))
 rw[LD]
 refine wpAny_pure (wpAny_bind (I.type.at (wpAny_bind ((W.looks_findIn X ha).at (wpAny_bind (L3.at ?_))))))
 show wpAny _ _ (storeInOwnDict (.ref x) (.ref C) (.str name tk) name v false) _ _ _
 obtain⟨nm,bs,mro,ns,qn,hd,sn,sb,ab,col,del⟩:=cd
 dsimp only at hh
 subst hh
 unfold storeInOwnDict ownDictForStores
 repeat (first | with_reducible refine PySem.OEX.store_in_old hns hw hz ?_ | with_reducible refine wpAny_loadPart_at hx ?_ | with_reducible refine LK.at ?_ | wp_step)
 intro h' qe Wa hs
 exact hq h' qe (fun b o hb ho=>(hs.2 b hb).trans ho) Wa
end
section
variable {prog:Program} {w:World} {A:Around} {E:Value→Shared→Prop} {h:Heap} {g:Array GenState} {d:Drawn} {t:Nat} {os:OsState}
variable {nm q:Str} {C N:Addr} {bs bm bmB:List Value} {Sd:Bool} {sn:List Str} {sub:List Value} {ab:Bool} {col:Option Bool} {dd:Option Addr} {k0 k1 k2 k3 k5:Option Value} {B newId initId:String}
theorem call_mwG {u e t0:Addr} {rest:List Value} {Q:Value→Shared→Prop} (FB:ExcBaseFacts B newId initId bmB)
  (hC:h.get? C=some (excClassObj nm q C N bs bm Sd sn sub ab col dd k0 k1 k2 k3 k5 newId)) (he:h.get? e=some (HandSPX.excO C t0)) (hu:h.get? u=some (kxs_mw initId e)) (WQ:rest.length≤sizeLine)
  (hq:∀ h' t1,(∀ b o,b≠e→h.get? b=some o→h'.get? b=some o)→h'.get? e=some (HandSPX.excO C t1)→Q .none ⟨h',g,d,t,os⟩) :
  wpAny (model prog w) A (call (.ref u) rest) Q E ⟨h,g,d,t,os⟩:=by
 refine wpAny_call (codeAny_of_tree ?_)
 show wpAny _ A.in1 (callAny (.ref u) ⟨rest,[]⟩) _ _ _
 simp only[callAny]
 refine wpAny_bind (wpAny_load hu ?_)
 simp only[kxs_mw,show (Value.type "method-wrapper" == Value.type "method" || Value.type "method-wrapper" == Value.type "builtin_function_or_method" || Value.type "method-wrapper" == Value.type "method-wrapper")=true by decide,if_true]
 refine KFB.if_so (by decide) ?_
 refine wpAny_bind (check_bound_init FB.toExcCallFacts hC he rfl ?_)
 refine wpAny_bind (wpAny_pure (wpAny_pure ?_))
 refine⟨plainId_quiet FB.init.plain _,codeAny_builtin FB.initEntry ?_⟩
 exact exc_init_tree (cls:=.ref C) (t0:=t0) (dv:=none) (c2:=.none) (c3:=.none) (b4:=.bool false) he WQ fun h' k Fg _=>hq h' _ k Fg
end
end Zx
end PySem
namespace Z
open PySem PySem.Spec PyProof.Rows L2
structure UD (K:PySem.W.Frag) (C:Addr):Prop where
 cls:∃ cd,PySem.W.clsIn K C=some cd∧cd.hasDict=true∧cd.mro.isEmpty=false∧cd.mro.contains (.type "object")=true∧∀ x:Addr,refuseLoop (.ref x) "__setattr__" cd.mro=pure ()
 sa:PySem.W.findIn K (.ref C) "__setattr__" = some (some (.builtin "object.__setattr__"))
section
variable {X:Cx} {pins:List (Addr×Obj)} {σ:L2.St} {H:Hp} {s:Shared} {a C dx:Addr} {f:Str} {y:V} {u:Value} {fs:List (Str×V)} {Q:Unit→Shared→Prop} {E:Value→Shared→Prop} {A:Around}
theorem L9 (T:UD X.K C) (I:Inv X pins σ H s) (e:H a=some (exo a C none)) (Nj:PySem.W.findIn X.K (.ref C) f=some none) (ry:RelV y u)
  (h:∀ dx s',s.heap.objs.size≤dx→dx≠a→Inv X pins σ (upd (upd H dx (exd dx [(f,y)])) a (exo a C (some dx))) s'→Q () s'):wpAny (model X.prog X.w) A (setAttr (.ref a) f u) Q E s:=by
 obtain⟨cd,yM,Xo,fe,CH,UL⟩:=T.cls
 obtain⟨t1,ho⟩:=exo_at I.hok e
 obtain⟨hp,g,d,t,os⟩:=s
 refine PySem.W.set_plain I.kIn (ox:={ cls:=.ref C,dict:=none,data:=.fields #[.ref t1, .none, .none, .none, .bool false, .none] }) (od:=none) ⟨ho,rfl,rfl,trivial⟩ T.sa ?_
 refine PySem.Zx.osa_newG I.kIn ho yM (UL a) CH fe Xo Nj (fun h' qe dx k dn dne hx hn=>?_)
 have Re:H dx=none:=I.hok.fresh dn
 have nd:∀ {b:Addr} {o:Obj},hp.get? b=some o→b≠dx:=fun {b o} q=>Nat.ne_of_lt (Nat.lt_of_lt_of_le (Heap.lt_size q) dn)
 have na:∀ {b:Addr},H b=none→b≠a:=fun {b} n z=>by
  rw[z,e] at n
  cases n
 have Un1:Un X.fs [] H (upd (upd H dx (exd dx [(f,y)])) a (exo a C (some dx))) hp h':={
  keep:=fun b o q n _ _=>k b o (na n) q
  slot:=fun b o q n _ _=>⟨o.slots,k b o (na n) q⟩
  free:=fun b o q n _=>by rw[upd_ne (na n),upd_ne (nd q)]; exact n
  there:=fun b o q _=>by
   by_cases hb:b=a
   · exact⟨_,by rw[hb]; exact hx⟩
   · exact⟨o,k b o hb q⟩
  tups:=fun b xs q=>by rw[upd_ne (at_ne e q exo_tup),upd_ne (ne_of_none q Re)]; exact q
  frzs:=fun b o v q=>by rw[upd_ne (at_ne e q exo_frz),upd_ne (ne_of_none q Re)]; exact q
  tbls:=fun b ps q=>⟨#[],by rw[upd_ne (at_ne e q exo_tbl),upd_ne (ne_of_none q Re),q]; simp⟩ }
 refine h dx _ dn dne (I.un (t':=qe) Un1 fun b o q=>?_)
 by_cases hb:b=a
 · subst hb
   rw[upd_same] at q
   cases q
   exact exo_ok hx
 · rw[upd_ne hb] at q
   by_cases hd:b=dx
   · subst hd
     rw[upd_same] at q
     cases q
     exact exd_ok hn (relO_put (fs:=[]) ry fun g=>True.intro)
   · rw[upd_ne hd] at q
     exact (I.hok b o q).stay (fun c v hc z=>k c v (by
       rcases hc with hc | hc
       · rw[hc]
         exact hb
       · exact at_ne e hc exo_own) z)
      (fun c hc=>by rw[upd_ne (at_ne e hc exo_own),upd_ne (ne_of_none hc Re)]; exact hc) (fun c xs hc=>by rw[upd_ne (at_ne e hc exo_tup),upd_ne (ne_of_none hc Re)]; exact hc)
theorem K4 (T:UD X.K C) (I:Inv X pins σ H s) (e:H a=some (exo a C (some dx))) (ed:H dx=some (exd dx fs)) (hl:fs.length≤900) (Nj:PySem.W.findIn X.K (.ref C) f=some none) (ry:RelV y u)
  (h:∀ s',Inv X pins σ (upd H dx (exd dx ((f,y)::fs))) s'→Q () s'):wpAny (model X.prog X.w) A (setAttr (.ref a) f u) Q E s:=by
 obtain⟨cd,yM,Xo,fe,CH,UL⟩:=T.cls
 obtain⟨t1,ho⟩:=exo_at I.hok e
 obtain⟨mA,hns,rel⟩:=exd_at I.hok ed
 have hw:=within_of rel
 obtain⟨hp,g,d,t,os⟩:=s
 obtain⟨oD,_,_,Y5,_,_⟩:=hns.count hw
 refine PySem.W.set_plain I.kIn (ox:={ cls:=.ref C,dict:=some dx,data:=.fields #[.ref t1, .none, .none, .none, .bool false, .none] }) (od:=some oD) ⟨ho,rfl,rfl,Y5⟩ T.sa ?_
 refine PySem.Zx.osa_oldG I.kIn ho hns hw (by rw[List.length_map]; omega) yM (UL a) CH fe Xo Nj (fun h' qe k hn=>?_)
 have hd:∃ o,h'.get? dx=some o:=by
  obtain⟨o,_,_,e',_⟩:=hn
  exact⟨o,e'⟩
 exact h _ (I.write (t':=qe) (x:=dx) (e:=dx) (o:=exd dx ((f,y)::fs)) (by rw[ed]; exact True.intro) (.inl rfl) k hd (exd_ok hn (relO_put ry rel)))
end
abbrev ib (qual:Str) (params:Arguments) (body:List Stmt) (scope:Scope) (cc iS:Addr):NdefX.NF:=⟨"__init__",qual,params,body,scope,[("__class__",cc)],iS⟩
abbrev Cu (qual:Str) (params:Arguments) (body:List Stmt) (scope:Scope) (cc iS:Addr) (kV doc pm:Value) (an:Option Addr) (ct:Value):FuncData:=PySem.W.fnX "__init__" qual params body scope [("__class__",cc)] .none kV doc pm an (.ref iS) ct
structure Eu (K:PySem.W.Frag) (pg:Program) (C fI cc iS:Addr) (B newId initId:String) (tl:List Value) (qual:Str) (params:Arguments) (body:List Stmt) (scope:Scope) (fs:List Str):Prop where
 FB:ExcBaseFacts B newId initId tl
 KF:PySem.W.KxsFacts B initId
 qI:PySem.W.excInitIn K C tl newId=true
 ex:UD K C
 exC:PySem.W.subIn K (.ref C) (.type "BaseException")=some true
 tyC:PySem.W.typeIn K (.ref C)=some (.type "type")
 kC:PySem.W.keepIn K (.ref C)=true
 iC:PySem.W.findIn K (.ref C) "__init__" = some (some (.ref fI))
 tI:PySem.W.typeIn K (.ref fI)=some (.type "function")
 lkI:∃ oc od kV doc pm an ct osl,K.lookup fI=some ⟨oc,od, .func (Cu qual params body scope cc iS kV doc pm an ct),osl⟩
 cdI:PySem.W.codeIn K (.ref iS) qual=true
 cd:∃ XI Xw vs W2 file tf,K.lookup iS=some ⟨XI,Xw, .fields vs,W2⟩∧vs[2]?=some (.str file tf)∧((pg.main.file:Str) == file)=true
 cel:∃ cl XM Xm,K.lookup cc=some ⟨cl,XM, .cell (some (.ref C)),Xm⟩
 su:PySem.W.ks_superIn K C C "__init__" = some (some (.builtin initId))
 sB:PySem.W.subIn K (.ref C) (.type B)=some true
 op:PySem.W.nsIn K cStatics "thirdparty.any" = some none
 mr:PySem.W.mroIn K C (.ref C)=some true
 fl:∀ f∈fs,PySem.W.findIn K (.ref C) f=some none
structure TY (pg:Program) (mg:Str→Option Value) (params:Arguments) (scope:Scope):Prop where
 par:∃ ar,(params.posonlyargs++params.args).head?=some ar∧ar.arg = "self"
 kSelf:scope.names.lookup ("self" : Str)=some .local
 kCls:scope.names.lookup ("__class__" : Str)=some .free
 kSup:scope.names.lookup ("super" : Str)=some .globalImplicit
 kind:scope.kind=.function
 ms:mg "super" = none
 top:(pg.main.scope.names.lookup ("super" : Str)).isSome=false
section
variable {CX:CXT} {P:Program} {w:World} {K:PySem.W.Frag} {mg:Str→Option Value} {base:Heap} {N:List Str} {qual:Str} {params:Arguments} {body:List Stmt} {scope:Scope} {C fI cc iS:Addr} {B newId initId:String} {tl:List Value} {fs:List Str} {A:Around} {outer:List Env} {s0:Shared} {H0:Hp} {E:XK}
theorem EO:bootBuiltins "super" = some (.type "super"):=by decide +kernel
theorem Ko {pl:Sem Bool} {pins:List (Addr×Obj)} {σ:L2.St} {H:Hp} {s:Shared} {a:Addr} {j:Nat} {arg:Expr} {p0 p1 p2 p3:Pos} {Q:Hp→Prop}
  (T:Eu K P C fI cc iS B newId initId tl qual params body scope fs) (S:TY P mg params scope)
  (I:Inv (NdefX.ncx CX P w K mg base N (ib qual params body scope cc iS) fI A outer s0 H0 E) pins σ H s) (ea:H a=some (exo a C none)) (h0:N[0]?=some ("self" : Str)) (U5:σ[0]?=some (some (.ref a))) (hj:N[j]?=some ("__class__" : Str)) (YM:σ[j]?=some (some (.ref C)))
  (LA:AD (NdefX.ncx CX P w K mg base N (ib qual params body scope cc iS) fI A outer s0 H0 E) [arg] σ H (fun vs H1=>vs.length≤1000∧H1 a=some (exo a C none)∧Q H1))
  (he:starEach [arg] (NdefX.envF (ib qual params body scope cc iS) fI s0.heap.objs.size)=(false,eval arg (NdefX.envF (ib qual params body scope cc iS) fI s0.heap.objs.size))::starEach [] (NdefX.envF (ib qual params body scope cc iS) fI s0.heap.objs.size))
  (VT:eval (.Call (.Attribute (.Call (.Name "super" p0) [] [] p1) "__init__" p2) [arg] [] p3) (NdefX.envF (ib qual params body scope cc iS) fI s0.heap.objs.size)=(do
   let ov ← attributeBase (.Call (.Name "super" p0) [] [] p1) "__init__" (NdefX.envF (ib qual params body scope cc iS) fI s0.heap.objs.size) (eval (.Call (.Name "super" p0) [] [] p1) (NdefX.envF (ib qual params body scope cc iS) fI s0.heap.objs.size))
   standAt p2.atName
   let (f,first) ← holding [ov] (getMethod ov "__init__" pl)
   callWith p3 f first (backTo p3 (starEach [arg] (NdefX.envF (ib qual params body scope cc iS) fI s0.heap.objs.size))) [])) :
  _root_.PySem.wpAt (model P w) (A.deeper (NdefX.envF (ib qual params body scope cc iS) fI s0.heap.objs.size)) (.func body (NdefX.envF (ib qual params body scope cc iS) fI s0.heap.objs.size)) (eval (.Call (.Attribute (.Call (.Name "super" p0) [] [] p1) "__init__" p2) [arg] [] p3) (NdefX.envF (ib qual params body scope cc iS) fI s0.heap.objs.size))
   (fun _ s'=>∃ H',Inv (NdefX.ncx CX P w K mg base N (ib qual params body scope cc iS) fI A outer s0 H0 E) pins σ H' s'∧Q H') (NdefX.ncx CX P w K mg base N (ib qual params body scope cc iS) fI A outer s0 H0 E).xe s:=by
 obtain⟨oc,od,kV,doc,pm,an,ct,osl,lkI⟩:=T.lkI
 obtain⟨XI,Xw,vs,W2,file,tf,lkc,Ph,WL⟩:=T.cd
 obtain⟨ar,hp,RR⟩:=S.par
 obtain⟨mb,WJ,hb2⟩:=I.mod.blt
 obtain⟨m,hn,hl⟩:=id I.loc
 obtain⟨cd,yM,Xo,fe,CH,UL⟩:=T.ex.cls
 obtain⟨oD,hD1,Yt⟩:∃ oD,s.heap.get? C=some oD∧oD.data=.cls cd:=by
  unfold PySem.W.clsIn at yM
  split at yM
  · rename_i c d cd' sl ho
    cases yM
    exact⟨_,I.kIn _ _ ho,rfl⟩
  · cases yM
 obtain⟨t1,IW⟩:=exo_at I.hok ea
 have hI:=I.kIn (fI) _ lkI
 have pY:=I.kIn (iS) _ lkc
 refine PySem.ks_wpAt_MethodCall (pl:=pl) ?_ VT
 refine PySem.ks_wpAt_super_base (f:=fI) (cc:=iS) S.kSup S.kCls (by decide) rfl hI rfl hp rfl pY rfl Ph WL S.top ?_
 refine PySem.W.ks_loadName_global S.kind S.kSup (Calls.loadGlobal_builtin (I.mod.glob.keeps I.bk) S.ms (WJ.keeps I.bk) ((hb2 _ (by decide)).trans EO) ⟨rfl,?_⟩)
 have LK:∃ c,([(("__class__" : Str),cc)]:List (Str×Addr)).lookup ("__class__" : Str)=some c∧s.heap.IsCell c (some (.ref C)):=by
  obtain⟨u,ru,lk⟩:=hl j "__class__" (.ref C) hj YM (.inr (.inr S.kCls))
  cases (show u=Value.ref C from ru)
  rcases lk with ⟨k,_⟩ | ⟨_,c,h1,h2⟩
  · have k:scope.names.lookup ("__class__" : Str)=some .local:=k
    rw[S.kCls] at k; cases k
  · exact⟨c,h1,h2⟩
 obtain⟨c,Ua,Zg⟩:=LK
 refine wpAny_loadName_free S.kind S.kCls Ua Zg ?_
 have sT:m ar.arg=some (.ref a):=by
  obtain⟨u,ru,lk⟩:=hl 0 "self" (.ref a) h0 U5 (.inl S.kSelf)
  cases (show u=Value.ref a from ru)
  rw[RR]
  rcases lk with ⟨_,e⟩ | ⟨k,_⟩
  · exact e
  · have k:scope.names.lookup ("self" : Str)=some .cell∨scope.names.lookup ("self" : Str)=some .free:=k
    rw[S.kSelf] at k; rcases k with k | k <;> cases k
 refine wpAny_loadName_local S.kind (by show scope.names.lookup ar.arg=_; rw[RR]; exact S.kSelf) hn sT ?_
 obtain⟨jH,g,d,t,os⟩:=s
 refine PySem.ks_wpAny_isType_cls hD1 Yt ⟨rfl,?_⟩
 refine PySem.ks_wpAny_call_super hD1 Yt IW rfl (fun c z=>by cases z) (PySem.W.looks_mroIn I.kIn T.mr) (fun h1 e1 k1=>?_)
 have I1:Inv (NdefX.ncx CX P w K mg base N (ib qual params body scope cc iS) fI A outer s0 H0 E) pins σ H ⟨h1,g,d,t,os⟩:=I.kept (t':=t) (fun b o z=>k1 b o z)
 obtain⟨t2,YN⟩:=exo_at I1.hok ea
 have J:PySem.W.InstAt h1 a ({ cls:=.ref C,dict:=none,data:=.fields #[.ref t2, .none, .none, .none, .bool false, .none] }:Obj) C none:=⟨YN,rfl,rfl,trivial⟩
 have X1:K.In h1:=I1.kIn
 refine PySem.W.kxs_getMethod T.KF e1 (PySem.W.looks_opaque X1 T.op) (l₀:=cd.mro) (fun A Q E s k q=>wpAny_bind ((PySem.W.looks_clsIn X1 yM) A _ E s k (wpAny_pure q))) rfl X1 ?_ (J.type.andThen (PySem.W.looks_subIn X1 T.sB)) (PySem.W.ks_ne X1 J yM) (by decide) ?_
 · have hsu:=T.su
   unfold PySem.W.ks_superIn at hsu
   rw[yM] at hsu
   exact hsu
 have I2:=ClX.pin_new (t':=t+1) I1 (a:=h1.objs.size) (h':=h1.push (PySem.W.kxs_mw initId a)) (o:=PySem.W.kxs_mw initId a) (fun b o z=>Heap.get?_push_of_some _ z) (Nat.le_refl _) (Heap.get?_push_at rfl rfl) (fun v z=>by cases z)
 show wpAny _ _ (callWith p3 (.ref h1.objs.size) [] (backTo p3 (starEach [arg] _)) []) _ _ _
 rw[he]
 refine PySem.W.kxs_callWith (i:=initId) (x:=a) (by show (false || (backTo p3 (starEach [] _)).any (·.1))=false; rfl) ?_
 refine PySem.Calls.evalArgs_plain ?_
 have hA:=LA p3 _ _ I2
 rw[show starEach [arg] (NdefX.ncx CX P w K mg base N (ib qual params body scope cc iS) fI A outer s0 H0 E).env=(false,eval arg (NdefX.envF (ib qual params body scope cc iS) fI s0.heap.objs.size))::starEach [] (NdefX.envF (ib qual params body scope cc iS) fI s0.heap.objs.size) from he] at hA
 refine thn hA fun us s3 ⟨vs3,H1,I3,rv,hlen,ea3,q⟩=>⟨ClX.pin_at I3,?_⟩
 obtain⟨nm,N',qn,bs,bm,Sd,sn,sub,ab,col,dd,k0,k1',k2,k3,k5,hC,hT⟩:=PySem.W.excInit_of I3.kIn T.qI
 obtain⟨t3,Zd⟩:=exo_at I3.hok ea3
 have hu:=ClX.pin_at I3
 obtain⟨Qa,g3,d3,tk3,os3⟩:=s3
 refine PySem.Zx.call_mwG T.FB hC Zd hu (by show us.length≤sizeLine; rw[← Paired.length rv,sizeLine_eq]; omega) fun h' t4 k hx=>?_
 have J3:=I3.write (t':=tk3) (x:=a) (e:=a) (o:=exo a C none) (by rw[ea3]; exact True.intro) (.inl rfl) k ⟨_,hx⟩ (exo_ok hx)
 have eu:upd H1 a (exo a C none)=H1:=by
  funext b
  by_cases hb:b=a
  · rw[hb,upd_same,ea3]
  · rw[upd_ne hb]
 rw[eu] at J3
 exact⟨H1,ClX.unpin J3,q⟩
end
inductive Ds:List Stmt→List Str→Prop
 | nil:Ds [] []
 | cons {f:Str} {p1 p2 p3 p4:Pos} {rest:List Stmt} {fs:List Str} (h:Ds rest fs):Ds (.Assign [.Attribute (.Name "self" p1) f p2] (.Name f p3) p4::rest) (f::fs)
def wx (X:Cx) (σ:L2.St) (x:Str) (v:V):Prop:=∃ i:Nat,X.N[i]?=some x∧σ[i]?=some (some v)∧Vis X.env.scope x∧(x == ("__debug__" : Str))=false∧(x == ("__classdict__" : Str))=false
section
variable {X:Cx} {pins:List (Addr×Obj)} {σ:L2.St} {a C:Addr} {val:Str→V} {Q:Flow→Shared→Prop}
theorem nv {E:Value→Shared→Prop} {x:Str} {v:V} {pos:Pos} {H:Hp} {s:Shared} {Q:Value→Shared→Prop} (h:wx X σ x v) (I:Inv X pins σ H s) (hE:E=X.xe) (k:∀ u s',RelV v u→Inv X pins σ H s'→s'.heap=s.heap→Q u s'):wpAny (model X.prog X.w) X.A (eval (.Name x pos) X.env) Q E s:=by
 subst hE
 obtain⟨i,h1,h2,h3,h4,h5⟩:=h
 obtain⟨m,hn,hl⟩:=id I.loc
 obtain⟨u,ru,lk⟩:=hl i x v h1 h2 h3
 refine wpAny_Name ?_ h4
 rcases lk with ⟨k1,e⟩ | ⟨k1,c,e1,e2⟩
 · exact wpAny_loadName_local I.ok.kind k1 hn e (k u s ru I rfl)
 · rcases k1 with k1 | k1
   · exact wpAny_loadName_cell I.ok.kind k1 e1 e2 (k u s ru I rfl)
   · exact wpAny_loadName_free I.ok.kind k1 e1 e2 (k u s ru I rfl) h5
theorem CL (T:UD X.K C) (sT:wx X σ "self" (.ref a)) {dx:Addr}:∀ {rest:List Stmt} {fs:List Str},Ds rest fs→(∀ f∈fs,PySem.W.findIn X.K (.ref C) f=some none)→(∀ f∈fs,wx X σ f (val f))→∀ {s:Shared} {H:Hp} {fsv:List (Str×V)},Inv X pins σ H s→H a=some (exo a C (some dx))→H dx=some (exd dx fsv)→fsv.length+fs.length≤900 →
  (∀ s' H',Inv X pins σ H' s'→H' a=some (exo a C (some dx))→H' dx=some (exd dx ((fs.map fun f=>(f,val f)).reverse++fsv))→(∀ b,b≠dx→H' b=H b)→Q .next s')→wpAny (model X.prog X.w) X.A (execs rest X.env) Q X.xe s
 | _,_, .nil,_,_,s,H,fsv,I,ea,ed,_,k=>wpAny_execs_nil (k s H I ea (by simpa using ed) fun _ _=>rfl)
 | _,_,@Ds.cons f p1 p2 p3 p4 rest fs h,hfl,hval,s,H,fsv,I,ea,ed,hl,k=>by
  refine wpAny_execs_cons ?_
  refine plainObj_wpAny_Assign_Attribute (nv (hval f (List.mem_cons_self ..)) I rfl fun u s1 ru I1 _=>nv sT I1 rfl fun u2 s2 Jg I2 _=>?_)
  obtain rfl:u2=Value.ref a:=Jg
  have fe:dx≠a:=by
   rintro rfl
   obtain⟨t0,h1⟩:=exo_at I.hok ea
   obtain⟨mA,⟨o,es,ep,e1,e2,_⟩,_⟩:=exd_at I.hok ed
   rw[h1] at e1
   cases e1
   cases e2
  refine K4 T I2 ea ed (by simp at hl; omega) (hfl f (List.mem_cons_self ..)) ru fun s3 I3=>?_
  refine CL T sT h (fun g hg=>hfl g (List.mem_cons_of_mem _ hg)) (fun g hg=>hval g (List.mem_cons_of_mem _ hg)) (fsv:=(f,val f)::fsv) I3 (by rw[upd_ne (Ne.symm fe)]; exact ea) upd_same (by simp at hl ⊢; omega) fun s4 H4 I4 e1 e2 e3=>k s4 H4 I4 e1 ?_ fun b hb=>?_
  · rw[e2,List.map_cons,List.reverse_cons,List.append_assoc]
    rfl
  · rw[e3 b hb,upd_ne hb]
theorem KS (T:UD X.K C) (sT:wx X σ "self" (.ref a)) {f:Str} {fs:List Str} {rest:List Stmt} (h:Ds rest (f::fs)) (hfl:∀ g∈f::fs,PySem.W.findIn X.K (.ref C) g=some none) (hval:∀ g∈f::fs,wx X σ g (val g)) {s:Shared} {H:Hp} (I:Inv X pins σ H s) (ea:H a=some (exo a C none)) (hl:fs.length≤800)
  (k:∀ s' H' dx,X.s_0.heap.objs.size≤dx→dx≠a→H dx=none→Inv X pins σ H' s'→H' a=some (exo a C (some dx))→H' dx=some (exd dx ((f::fs).map fun f=>(f,val f)).reverse)→(∀ b,b≠dx→b≠a→H' b=H b)→Q .next s'):wpAny (model X.prog X.w) X.A (execs rest X.env) Q X.xe s:=by
 cases h with
 | @cons _ p1 p2 p3 p4 rest _ h =>
  refine wpAny_execs_cons ?_
  refine plainObj_wpAny_Assign_Attribute (nv (hval f (List.mem_cons_self ..)) I rfl fun u s1 ru I1 _=>nv sT I1 rfl fun u2 s2 Jg I2 _=>?_)
  obtain rfl:u2=Value.ref a:=Jg
  refine L9 T I2 ea (hfl f (List.mem_cons_self ..)) ru fun dx s3 hsz fe I3=>?_
  have h0:X.s_0.heap.objs.size≤dx:=by
   exact Nat.le_trans (Nat.le_trans I2.ok.above (Nat.le_of_lt I2.lt)) hsz
  refine CL T sT h (fun g hg=>hfl g (List.mem_cons_of_mem _ hg)) (fun g hg=>hval g (List.mem_cons_of_mem _ hg)) (fsv:=[(f,val f)]) I3 upd_same (by rw[upd_ne fe]; exact upd_same) (by simp; omega) fun s4 H4 I4 e1 e2 e3=>k s4 H4 dx h0 fe (I2.hok.fresh hsz) I4 e1 ?_ fun b hb hb2=>?_
  · rw[e2,List.map_cons,List.reverse_cons]
  · rw[e3 b hb,upd_ne hb2,upd_ne hb]
end
def ve (ps:List Str) (ws:List V) (f:Str):V:=((ps.zip ws).lookup f).getD .non
theorem DN:∀ {ps:List Str} {ws:List V} {i:Nat} {f:Str} {v:V},ps.Nodup→ps[i]?=some f→ws[i]?=some v→ve ps ws f=v
 | [],_,_,_,_,_,h,_=>by simp at h
 | _::_,[],_,_,_,_,_,h=>by simp at h
 | p::ps,x::ws,0,f,v,nd,h1,h2=>by
  simp at h1 h2
  subst h1 h2
  simp[ve,List.lookup]
 | p::ps,x::ws,i+1,f,v,nd,h1,h2=>by
  have hn:=List.nodup_cons.mp nd
  have h1:ps[i]?=some f:=by simpa using h1
  have fe:(f == p)=false:=by
   rw[beq_eq_false_iff_ne]
   rintro rfl
   exact hn.1 (List.mem_of_getElem? h1)
  have:=DN (i:=i) hn.2 h1 (by simpa using h2)
  unfold ve at this ⊢
  rw[List.zip_cons_cons,List.lookup_cons,fe]
  exact this
theorem FY:∀ {ps:List Str} {ws:List V},ps.Nodup→ws.length=ps.length→(ps.map fun f=>(f,ve ps ws f))=ps.zip ws
 | [],[],_,_=>rfl
 | [],_::_,_,hl=>by simp at hl
 | _::_,[],_,hl=>by simp at hl
 | p::ps,w::ws,nd,hl=>by
  have hn:=List.nodup_cons.mp nd
  rw[List.map_cons,List.zip_cons_cons]
  congr 1
  · simp[ve,List.lookup]
  · rw[← FY hn.2 (by simpa using hl)]
    refine List.map_congr_left fun f hf=>?_
    have fe:(f == p)=false:=by
     rw[beq_eq_false_iff_ne]
     rintro rfl
     exact hn.1 hf
    unfold ve
    rw[List.zip_cons_cons,List.lookup_cons,fe]
abbrev zS:Str:="self"
section
variable {CX:CXT} {P:Program} {w:World} {K:PySem.W.Frag} {mg:Str→Option Value} {base:Heap} {qual:Str} {params:Arguments} {body rest:List Stmt} {scope:Scope} {C fI cc iS:Addr} {B newId initId:String} {tl:List Value} {ps:List Str} {A:Around} {outer:List Env} {E:XK}
theorem II (T:Eu K P C fI cc iS B newId initId tl qual params body scope ps) {s:Shared} {H:Hp} (e0:Env0 P w K mg base A outer s H):NdefX.CellsAt [(zC,cc)] [zC] [some (.ref C)] s.heap H:=by
 obtain⟨cl,XM,Xm,lk⟩:=T.cel
 have hb:=e0.bs cc _ (e0.mod.kin _ _ lk)
 have look:∀ (y:Str) (c:Addr),([(("__class__" : Str),cc)]:List (Str×Addr)).lookup y=some c→y = "__class__"∧c=cc:=fun y c h=>by
  rw[List.lookup_cons] at h
  by_cases hy:(y == ("__class__" : Str))=true
  · rw[hy] at h
    cases h
    exact⟨by simpa using hy,rfl⟩
  · rw[Bool.not_eq_true] at hy
    rw[hy] at h
    cases h
 refine⟨rfl,fun y c h=>?_,fun x y c h1 h2=>?_,fun i y hi=>?_⟩
 · obtain⟨_,rfl⟩:=look y c h
   exact⟨hb.2,_,_,hb.1,rfl⟩
 · rw[(look x c h1).1,(look y c h2).1]
 · match i,hi with
   | 0,hi =>
    simp at hi
    subst hi
    refine⟨cc,by simp[List.lookup],fun v hv=>?_⟩
    simp at hv
    subst hv
    exact⟨.ref C,rfl,_,hb.1,rfl⟩
theorem Pq {pl:Sem Bool} {s:Shared} {H:Hp} {a:Addr} {ws:List V} {us:List Value} {k:Nat} {f0:Str} {ps':List Str} {arg:Expr} {p0 p1 p2 p3 p4:Pos} {Q:VK} {Q1:Hp→Prop}
  (T:Eu K P C fI cc iS B newId initId tl qual params body scope ps) (S:TY P mg params scope)
  (Ju:body=.Expr (.Call (.Attribute (.Call (.Name "super" p0) [] [] p1) "__init__" p2) [arg] [] p3) p4::rest) (SH:Ds rest ps) (UL:ps=f0::ps') (Zb:ps.length≤800)
  (NS:NdefX.NScope (zS::ps++[zC]) (zS::ps) [zC] scope) (mD:∀ f∈zS::ps,(f == ("__debug__" : Str))=false∧(f == ("__classdict__" : Str))=false)
  (hr:Room (k+1) A) (e0:Env0 P w K mg base A outer s H) (V7:∀ (kV doc pm:Value) (an:Option Addr) (ct:Value) (us:List Value),us.length=ps.length+1→bindArgs (Cu qual params body scope cc iS kV doc pm an ct) ⟨us,[]⟩=pure ((zS::ps).zip us))
  (r:Vals (.ref a::ws) us) (hw:ws.length=ps.length) (ea:H a=some (exo a C none))
  (LA:AD (NdefX.ncx CX P w K mg base (zS::ps++[zC]) (ib qual params body scope cc iS) fI A outer s H E) [arg] (NdefX.startF (zS::ps++[zC]) (.ref a::ws) [some (.ref C)]) H (fun vs H1=>vs.length≤1000∧H1 a=some (exo a C none)∧Q1 H1))
  (he:starEach [arg] (NdefX.envF (ib qual params body scope cc iS) fI s.heap.objs.size)=(false,eval arg (NdefX.envF (ib qual params body scope cc iS) fI s.heap.objs.size))::starEach [] (NdefX.envF (ib qual params body scope cc iS) fI s.heap.objs.size))
  (VT:eval (.Call (.Attribute (.Call (.Name "super" p0) [] [] p1) "__init__" p2) [arg] [] p3) (NdefX.envF (ib qual params body scope cc iS) fI s.heap.objs.size)=(do
   let ov ← attributeBase (.Call (.Name "super" p0) [] [] p1) "__init__" (NdefX.envF (ib qual params body scope cc iS) fI s.heap.objs.size) (eval (.Call (.Name "super" p0) [] [] p1) (NdefX.envF (ib qual params body scope cc iS) fI s.heap.objs.size))
   standAt p2.atName
   let (f,first) ← holding [ov] (getMethod ov "__init__" pl)
   callWith p3 f first (backTo p3 (starEach [arg] (NdefX.envF (ib qual params body scope cc iS) fI s.heap.objs.size))) []))
  (ZF:swapsWith (.Call (.Attribute (.Call (.Name "super" p0) [] [] p1) "__init__" p2) [arg] [] p3) none p4.line (NdefX.envF (ib qual params body scope cc iS) fI s.heap.objs.size)=pure false)
  (hQ:∀ H1 H2 dx,Q1 H1→s.heap.objs.size≤dx→dx≠a→H1 dx=none→H2 a=some (exo a C (some dx))→H2 dx=some (exd dx (ps.zip ws).reverse)→(∀ b,b≠dx→b≠a→H2 b=H1 b)→Q .non H2) :
  codeAny (model P w) A (.call (.ref fI) ⟨us,[]⟩) (CR CX outer P w H s Q E) s:=by
 obtain⟨oc,od,kV,doc,pm,an,ct,osl,lkI⟩:=T.lkI
 have KX:K.In s.heap:=e0.mod.kin.keeps fun b o e=>(e0.bs b o e).1
 have lim:s.heap.NoLimit:=e0.mod.nolimit.keeps fun b o e=>(e0.bs b o e).1
 have Yb:us.length=ps.length+1:=by
  rw[← r.length,List.length_cons,hw]
 have Re:ps.Nodup:=by
  have q:=NS.nd
  rw[List.cons_append,List.nodup_cons] at q
  exact (List.nodup_append.mp q.2).1
 refine PySem.ks_codeAny_call_defAt (fd:=Cu qual params body scope cc iS kV doc pm an ct) (body:=body) (binds:=(zS::ps).zip us) hr.depth (KX _ _ lkI) rfl lim (PySem.W.codeRec_of KX T.cdI) rfl (BindsTo.of_eq (V7 _ _ _ _ _ us Yb)) NS.nocell (fun x hx=>NS.par x.1 (List.of_mem_zip (show (x.1,x.2)∈_ from hx)).1) (fun h₁ hns kp=>?_) NS.co NS.gen NS.kind
 have I:Inv (NdefX.ncx CX P w K mg base (zS::ps++[zC]) (ib qual params body scope cc iS) fI A outer s H E) [] (NdefX.startF (zS::ps++[zC]) (.ref a::ws) [some (.ref C)]) H { s with heap:=h₁,toks:=s.toks+((zS::ps).zip us).length } :=
  NdefX.inv_startN NS hr.hd e0 (by rw[List.length_cons,List.length_cons,hw]) r (II T e0) hns kp
 have X3:NdefX.startF (zS::ps++[zC]) (.ref a::ws) [some (.ref C)]=(V.ref a::ws).map some++[some (V.ref C)]:=by
  unfold NdefX.startF
  have h0:(zS::ps++[zC]).length - (V.ref a::ws).length - [some (V.ref C)].length=0:=by
   simp only[List.length_append,List.length_cons,List.length_nil,hw]
   omega
  rw[h0]
  rfl
 have hσ:∀ i:Nat,(NdefX.startF (zS::ps++[zC]) (.ref a::ws) [some (.ref C)])[i]?=((V.ref a::ws).map some++[some (V.ref C)])[i]?:=fun i=>by rw[X3]
 have hj:(zS::ps++[zC])[ps.length+1]?=some ("__class__" : Str):=by simp
 have YM:(NdefX.startF (zS::ps++[zC]) (.ref a::ws) [some (.ref C)])[ps.length+1]?=some (some (.ref C)):=by
  rw[hσ,List.getElem?_append_right (by rw[List.length_map,List.length_cons,hw]; omega),List.length_map,List.length_cons,hw,Nat.sub_self]
  rfl
 have sT:wx (NdefX.ncx CX P w K mg base (zS::ps++[zC]) (ib qual params body scope cc iS) fI A outer s H E) (NdefX.startF (zS::ps++[zC]) (.ref a::ws) [some (.ref C)]) "self" (.ref a) :=
  ⟨0,rfl,by rw[hσ]; rfl, .inl (NS.par _ (List.mem_cons_self ..)),mD _ (List.mem_cons_self ..)⟩
 have hval:∀ f∈ps,wx (NdefX.ncx CX P w K mg base (zS::ps++[zC]) (ib qual params body scope cc iS) fI A outer s H E) (NdefX.startF (zS::ps++[zC]) (.ref a::ws) [some (.ref C)]) f (ve ps ws f):=fun f hf=>by
  obtain⟨i,hi⟩:=List.getElem?_of_mem hf
  have RI:=(List.getElem?_eq_some_iff.mp hi).1
  refine⟨i+1,?_,?_, .inl (NS.par _ (List.mem_cons_of_mem _ hf)),mD _ (List.mem_cons_of_mem _ hf)⟩
  · show (zS::ps++[zC])[i+1]?=some f
    rw[List.cons_append,List.getElem?_cons_succ,List.getElem?_append_left RI]
    exact hi
  · rw[hσ,List.map_cons,List.cons_append,List.getElem?_cons_succ,List.getElem?_append_left (by rw[List.length_map]; omega),List.getElem?_map]
    have hwi:ws[i]?=some ws[i]:=List.getElem?_eq_getElem (by omega)
    rw[hwi,DN Re hi hwi]
    rfl
 subst Ju
 refine PySem.ks_wpAt_execs_cons (PySem.ks_wpAt_Expr_any (PySem.ks_wpAt_mono (Ko (pl:=pl) (j:=ps.length+1) (Q:=fun H1=>H1 a=some (exo a C none)∧Q1 H1) T S I ea rfl (by rw[hσ]; rfl) hj YM (fun pos pins s I=>thn (LA pos pins s I) fun us s' ⟨vs,H1,J,r,a1,a2,a3⟩=>⟨vs,H1,J,r,a1,a2,a2,a3⟩) he VT) (fun v s' hs=>?_) (fun e s' x=>x)) (by show (scope.kind == .module && _)=false; rw[NS.kind]; rfl) ZF)
 obtain⟨H1,I1,ea1,q1⟩:=hs
 refine PySem.wpAt_of_wpAny ?_
 subst UL
 refine KS (val:=ve (f0::ps') ws) T.ex sT SH T.fl hval I1 ea1 (by simp at Zb; omega) fun s2 H2 dx VO hd2 hd3 I2 e1 e2 e3=>?_
 rw[FY Re hw] at e2
 exact⟨V.non,H2,I2.os,I2.bare,I2.base,I2.hok,rfl,hQ H1 H2 dx q1 VO hd2 hd3 e1 e2 e3⟩
end
def hU (c:Str) (fs:List Str) (m:M) (ma:MA):MS:=fun sl S=>(ma sl S).st sl fun ds S1=>match cR ds with
 | some ps=>if ps.length=fs.length then match m (none::(ps.map fun p=>some (Z.D.p p))++[none]) S1 with
   | .ok (.p (.str _)) S2=>.exc ⟨c,fs.reverse,ps.reverse⟩ sl S2
   | _=>.no
  else .no
 | none=>.no
def MkD (X:Cx) (e:Expr):L2.St→Hp→XK→Prop:=fun σ H Q=>∀ (pins:List (Addr×Obj)) (s:Shared),Inv X pins σ H s→wpAny (model X.prog X.w) X.A (eval e X.env) (L2N.MkP X pins σ Q) X.xe s
theorem US {X:Cx} {e:Expr}:L2N.PMk X e (MkD X e):=fun pins s _ _ _ I h=>h pins s I
section
variable {K:Fr} {G F H:Hp} {R:List Addr} {S:ag} {a:Addr} {o:HO}
theorem bQ.guardX (h:bQ K G F R S H) (n:H a=none):bQ K (upd G a o) F R S (upd H a o):=by
 obtain⟨pc,h⟩:=h
 refine⟨pc,fun b x e=>?_,h.len,h.ok,fun m b x e=>?_,h.sep,h.emp,fun b x e=>?_⟩
 · have hb:=h.sub _ _ e
   rw[upd_ne (ne_of_none hb n)]; exact hb
 · obtain⟨h1,h2⟩:=h.out m b x e
   exact⟨h1,by rw[upd_ne (ne_of_none h2 n)]; exact h2⟩
 · by_cases hb:b=a
   · subst hb
     rw[upd_same] at e
     cases e
     exact⟨upd_same,h.sub.free n,fun m=>h.free n m⟩
   · rw[upd_ne hb] at e
     obtain⟨h1,h2,h3⟩:=h.grd b x e
     exact⟨by rw[upd_ne hb]; exact h1,h2,h3⟩
theorem bQ.unguard (h:bQ K (upd G a o) F R S H) (n:G a=none):bQ K G F R S (del H a):=by
 obtain⟨pc,h⟩:=h
 obtain⟨g1,g2,g3⟩:=h.grd a o upd_same
 refine⟨pc,fun b x e=>?_,h.len,h.ok,fun m b x e=>?_,h.sep,h.emp,fun b x e=>?_⟩
 · have hb:b≠a:=fun z=>by rw[z,g2] at e; cases e
   rw[del_ne hb]; exact h.sub _ _ e
 · obtain⟨h1,h2⟩:=h.out m b x e
   have hb:b≠a:=fun z=>by rw[z,g3] at e; cases e
   exact⟨h1,by rw[del_ne hb]; exact h2⟩
 · have hb:b≠a:=fun z=>by rw[z,n] at e; cases e
   obtain⟨h1,h2,h3⟩:=h.grd b x (by rw[upd_ne hb]; exact e)
   exact⟨by rw[del_ne hb]; exact h1,h2,h3⟩
theorem bQ.noG (h:bQ K G F R S H) (n:H a=none):G a=none:=by
 obtain⟨pc,h⟩:=h
 cases e:G a with
 | none=>rfl
 | some x=>rw[(h.grd a x e).1] at n; cases n
theorem bQ.hasG (h:bQ K (upd G a o) F R S H):H a=some o:=by
 obtain⟨pc,h⟩:=h
 exact (h.grd a o upd_same).1
end
structure Ug (pg:Program) (body:List Stmt) (arg:Expr) (fs:List Str) (qual:Str) (params:Arguments) (scope:Scope) (m:M) (K:PySem.W.Frag) (mg:Str→Option Value) (base:Heap) (w:World) (CX:CXT) (cc iS fI:Addr):Prop where
 shape:∃ p0 p1 p2 p3 p4 rest f0 fs',body=.Expr (.Call (.Attribute (.Call (.Name "super" p0) [] [] p1) "__init__" p2) [arg] [] p3) p4::rest∧Ds rest fs∧fs=f0::fs' ∧
  (∀ env:Env,∃ pl:Sem Bool,eval (.Call (.Attribute (.Call (.Name "super" p0) [] [] p1) "__init__" p2) [arg] [] p3) env=(do
   let ov ← attributeBase (.Call (.Name "super" p0) [] [] p1) "__init__" env (eval (.Call (.Name "super" p0) [] [] p1) env)
   standAt p2.atName
   let (f,first) ← holding [ov] (getMethod ov "__init__" pl)
   callWith p3 f first (backTo p3 (starEach [arg] env)) [])) ∧
  (∀ env:Env,swapsWith (.Call (.Attribute (.Call (.Name "super" p0) [] [] p1) "__init__" p2) [arg] [] p3) none p4.line env=pure false)
 l8:fs.length≤800
 ns:NdefX.NScope (zS::fs++[zC]) (zS::fs) [zC] scope
 db:∀ f∈zS::fs,(f == ("__debug__" : Str))=false∧(f == ("__classdict__" : Str))=false
 bind:∀ (kV doc pm:Value) (an:Option Addr) (ct:Value) (us:List Value),us.length=fs.length+1→bindArgs (Cu qual params body scope cc iS kV doc pm an ct) ⟨us,[]⟩=pure ((zS::fs).zip us)
 one:∀ env:Env,starEach [arg] env=(false,eval arg env)::starEach [] env
 arg:∀ (A:Around) (outer:List Env) (s:Shared) (H G:Hp),Ej ⟨NdefX.ncx CX pg w K mg base (zS::fs++[zC]) (ib qual params body scope cc iS) fI A outer s H (fun _ _ _=>False),fun _ _ _ _=>False,ny,G,A3.nil⟩ m arg
theorem ID {K:Fr} {F:Hp} {R:List Addr} {fs:List Str} {a C:Addr} {vs:List V} {ps:List P} (h:ay K F vs ps) (hl:ps.length=fs.length):SlR K A3.nil F R (NdefX.startF (zS::fs++[zC]) (.ref a::vs) [some (.ref C)]) (none::(ps.map fun p=>some (Z.D.p p))++[none]):=by
 have hvl:=h.length
 have X3:NdefX.startF (zS::fs++[zC]) (.ref a::vs) [some (.ref C)]=(V.ref a::vs).map some++[some (V.ref C)]:=by
  unfold NdefX.startF
  have h0:(zS::fs++[zC]).length - (V.ref a::vs).length - [some (V.ref C)].length=0:=by
   simp only[List.length_append,List.length_cons,List.length_nil,hvl,hl]
   omega
  rw[h0]
  rfl
 rw[X3]
 refine⟨by simp[hvl],fun i d e=>?_,trivial⟩
 cases i with
 | zero=>cases e
 | succ i =>
  rw[List.cons_append,List.getElem?_cons_succ] at e
  rw[List.map_cons,List.cons_append,List.getElem?_cons_succ]
  by_cases hi:i < ps.length
  · rw[List.getElem?_append_left (by rw[List.length_map]; exact hi),List.getElem?_map] at e
    have hp:ps[i]?=some ps[i]:=List.getElem?_eq_getElem hi
    rw[hp] at e
    cases e
    obtain⟨v,e1,e2⟩:=ay.get' h hp
    refine⟨v,?_,e2⟩
    rw[List.getElem?_append_left (by rw[List.length_map]; omega),List.getElem?_map,e1]
    rfl
  · rw[List.getElem?_append_right (by rw[List.length_map]; omega),List.length_map] at e
    cases hk:i - ps.length with
    | zero=>rw[hk] at e; cases e
    | succ k=>rw[hk] at e; simp at e
section
variable {C:Kx} {x c:Str} {fs:List Str} {m:M} {ma:MA} {e arg:Expr} {es:List Expr} {p pos pos':Pos} {cc iS fI:Addr} {B newId initId:String} {tl:List Value} {qual:Str} {params:Arguments} {body:List Stmt} {scope:Scope} {k:Nat}
theorem ir (hc:C.X.calm=true) (T:Eu C.X.K C.X.prog (He.ga C.X.K c) fI cc iS B newId initId tl qual params body scope fs) (S:TY C.X.prog C.X.mg params scope) (SB:Ug C.X.prog body arg fs qual params scope m C.X.K C.X.mg C.X.base C.X.w (L2N.CX C.X.prog C.X.w) cc iS fI)
  (hr:Room (k+2) C.X.A) (hm:C.X.mg x=some (.ref (He.ga C.X.K c))) (ha:Aj C ma (e::es)) (hg:Gl C.X x:=by rfl) (mD:(x == ("__debug__" : Str))=false:=by decide) (he:Se C e es:=by exact bO rfl) (hpl:Pl C es pos:=by exact de rfl) :
  zl C (hU c fs m ma) (.Raise (some (.Call (.Name x p) (e::es) [] pos)) none pos'):=.mk fun sl S0 σ F R H hs hr' D post=>by
 refine yC.of (L2N.ps_raise hc C.tk US) ?_
 intro pins s I
 obtain⟨p0,p1,p2,p3,p4,rest,f0,fs',Ju,SH,hfs,VT,ZF⟩:=SB.shape
 refine wpAny_Call_Name_kw (ld_glob I hg hm ?_ mD)
 have hA:=ha sl S0 σ F R H hs hr' (fun vs H1=>∃ F1 R1 S1 S2 ps z,ay C.K F1 vs ps∧ps.length=fs.length∧bQ C.K C.G F1 R1 S1 H1∧Same F F1∧R <+: R1∧m (none::(ps.map fun p=>some (Z.D.p p))++[none]) S1=.ok (.p (.str z)) S2∧bM C F1 R1 D (.exc ⟨c,fs.reverse,ps.reverse⟩ sl S2)) (bM.bind post hs fun ds S1 vs F1 R1 H1 _ rx rep1 s1 r1 mx ah=>by
  cases hp:cR ds with
  | none=>simp only[hp] at ah; exact ah.elim
  | some ps =>
   simp only[hp] at ah
   by_cases hl:ps.length=fs.length
   · rw[if_pos hl] at ah
     have hds:=jc hp
     subst hds
     cases hm2:m (none::(ps.map fun p=>some (Z.D.p p))++[none]) S1 with
     | ok d S2 =>
      rw[hm2] at ah
      cases d with
      | ref n=>exact ah.elim
      | p q =>
       cases q with
       | str z=>exact⟨F1,R1,S1,S2,ps,z,aF.to_p rx,hl,rep1,s1,r1,hm2,ah⟩
       | _=>exact ah.elim
     | exc x S2=>rw[hm2] at ah; exact ah.elim
     | no=>rw[hm2] at ah; exact ah.elim
   · rw[if_neg hl] at ah; exact ah.elim)
 refine PySem.W.callWith_K (h₀:=C.X.base) I.ok.mod.kin T.kC (thn (hA pos pins s I) fun us s1 ⟨vs,H1,I1,r1,q1⟩=>⟨I1.kIn,?_⟩) he hpl
 show wpAny _ _ (call (.ref (He.ga C.X.K c)) us) _ _ _
 obtain⟨F1,R1,S1,S2,ps,z,rx,hl,rep1,sF1,rR1,hm2,ah⟩:=q1
 have hvl:=rx.length
 obtain⟨hp,g,dr,tk,os⟩:=s1
 have hsz:hp.objs.size≤hp.objs.size+1:=Nat.le_succ _
 have hn:H1 (hp.objs.size+1)=none:=I1.hok.fresh hsz
 have kk:∀ b o,hp.get? b=some o→((hp.push (PySem.W.kdv_tup us)).push (PySem.HandSPX.excO (He.ga C.X.K c) hp.objs.size)).get? b=some o:=fun b o e=>Heap.get?_push_of_some _ (Heap.get?_push_of_some _ e)
 have Zm:((hp.push (PySem.W.kdv_tup us)).push (PySem.HandSPX.excO (He.ga C.X.K c) hp.objs.size)).get? (hp.objs.size+1)=some (PySem.HandSPX.excO (He.ga C.X.K c) hp.objs.size):=by heap_get
 have I2:Inv C.X pins σ (upd H1 (hp.objs.size+1) (exo (hp.objs.size+1) (He.ga C.X.K c) none)) ⟨(hp.push (PySem.W.kdv_tup us)).push (PySem.HandSPX.excO (He.ga C.X.K c) hp.objs.size),g,dr,tk,os⟩ :=
  I1.laid (t':=tk) (a:=hp.objs.size+1) (o:=exo (hp.objs.size+1) (He.ga C.X.K c) none) (h':=(hp.push (PySem.W.kdv_tup us)).push (PySem.HandSPX.excO (He.ga C.X.K c) hp.objs.size)) kk hsz (exo_ok Zm)
 have Yb:us.length=fs.length:=by rw[← Paired.length r1,hvl,hl]
 have hus:us.length≤sizeLine:=by
  have:=SB.l8
  rw[Yb,sizeLine_eq]
  omega
 obtain⟨nm,N',qn,bs,bm,Sd,sn,sub,ab,col,dd,k0,k1',k2,k3,k5,hC,hT⟩:=PySem.W.excInit_of I1.kIn T.qI
 obtain⟨pl,Y9⟩:=VT (NdefX.envF (ib qual params body scope cc iS) fI ((hp.push (PySem.W.kdv_tup us)).push (PySem.HandSPX.excO (He.ga C.X.K c) hp.objs.size)).objs.size)
 have hnG:=rep1.noG hn
 refine wpAny_call (PySem.HandSPX.call_own T.FB hT hC (PySem.W.looks_findIn I1.kIn T.iC) (fun self=>PySem.W.bind_fn I1.kIn self T.tI) hus
  (codeAny_mono (Pq (CX:=L2N.CX C.X.prog C.X.w) (P:=C.X.prog) (w:=C.X.w) (K:=C.X.K) (mg:=C.X.mg) (base:=C.X.base) (pl:=pl) (E:=fun _ _ _=>False) (k:=k) (a:=hp.objs.size+1) (ws:=vs) (H:=upd H1 (hp.objs.size+1) (exo (hp.objs.size+1) (He.ga C.X.K c) none))
   (Q:=fun v H2=>v=.non∧∃ (d:Addr) (fv:List (Str×V)),H2 (hp.objs.size+1)=some (exo (hp.objs.size+1) (He.ga C.X.K c) (some d))∧H2 d=some (exd d fv)∧H1 d=none∧C.W (.ref (He.ga C.X.K c)) (some d) σ (upd (del H2 (hp.objs.size+1)) d (.xd fv)))
   (Q1:=fun H1'=>∃ F2 R2,bQ C.K (upd C.G (hp.objs.size+1) (exo (hp.objs.size+1) (He.ga C.X.K c) none)) F2 R2 S2 H1'∧Same F1 F2∧R1 <+: R2)
   T S Ju SH hfs SB.l8 SB.ns SB.db (hr.make (He.ga C.X.K c) us []) (I2.env0.make (He.ga C.X.K c) us []) SB.bind (.cons rfl r1) (by rw[hvl,hl]) upd_same ?_ (SB.one _) Y9 (ZF _) ?_) fun r s' ul=>?_))
 · have hj:=aa (SB.arg (C.X.A.under (.builtin "type.__call__" ⟨.ref (He.ga C.X.K c)::us,[]⟩)) C.X.stack ⟨(hp.push (PySem.W.kdv_tup us)).push (PySem.HandSPX.excO (He.ga C.X.K c) hp.objs.size),g,dr,tk,os⟩ (upd H1 (hp.objs.size+1) (exo (hp.objs.size+1) (He.ga C.X.K c) none)) (upd C.G (hp.objs.size+1) (exo (hp.objs.size+1) (He.ga C.X.K c) none))) ae (he:=SB.one _)
   refine hj (none::(ps.map fun p=>some (Z.D.p p))++[none]) S1 _ F1 R1 _ (ID rx hl) (rep1.guardX hn) _ ?_
   have hA2:aC m aN (none::(ps.map fun p=>some (Z.D.p p))++[none]) S1=.ok [.p (.str z)] S2:=by
    unfold aC
    rw[hm2]
    rfl
   rw[hA2]
   intro b F' R' H' hb yG s' r'
   refine⟨?_,yG.hasG,F',R',yG,s',r'⟩
   have:=hb.length
   rw[this]
   simp
 · intro H1' H2 dx hq hdx YW OJ e1 e2 e3
   obtain⟨F2,R2,rep2,s2,r2⟩:=hq
   have hle:hp.objs.size≤dx:=by
    refine Nat.le_trans ?_ hdx
    show hp.objs.size≤((hp.push (PySem.W.kdv_tup us)).push (PySem.HandSPX.excO (He.ga C.X.K c) hp.objs.size)).objs.size
    rw[Heap.size_push,Heap.size_push]
    omega
   refine⟨rfl,dx,(fs.zip vs).reverse,e1,e2,I1.hok.fresh hle,?_⟩
   have hH:upd (del H2 (hp.objs.size+1)) dx (.xd (fs.zip vs).reverse)=upd (del H1' (hp.objs.size+1)) dx (.xd (fs.zip vs).reverse):=by
    funext b
    by_cases hb:b=dx
    · subst hb
      rw[upd_same,upd_same]
    · rw[upd_ne hb,upd_ne hb]
      by_cases hb2:b=hp.objs.size+1
      · rw[hb2,del_same,del_same]
      · rw[del_ne hb2,del_ne hb2,e3 b hb hb2]
   rw[hH]
   have rep3:=rep2.unguard hnG
   have Zu:del H1' (hp.objs.size+1) dx=none:=by rw[del_ne YW]; exact OJ
   have gr:=bx.new (o:=.xd (fs.zip vs).reverse) rep3.sub Zu
   have hzl:fs.length=vs.length:=by rw[hvl,hl]
   refine ah _ (some dx) σ (upd F2 dx (.xd (fs.zip vs).reverse)) R2 _ ⟨rfl, .inr ⟨dx,(fs.zip vs).reverse,rfl,upd_same,?_,?_⟩⟩ (hs.mono ((sF1.trans s2).trans gr.sF) (bf rR1 r2)) (rep3.grow gr) (s2.trans gr.sF) r2
   · rw[List.map_reverse,List.map_fst_zip (by omega)]
   · rw[List.map_reverse,List.map_snd_zip (by omega)]
     exact (ay.mono (s2.trans gr.sF) _ _ rx).rev
 · cases r with
   | error er =>
    obtain⟨_,_,_,_,_,_,_,_,_,_,_,_,hE⟩:=(show L2N.CX C.X.prog C.X.w C.X.stack _ _ (fun _ _ _=>False) er s' from ul)
    exact hE.elim
   | ok fl =>
    cases fl with
    | ret u =>
     obtain⟨v,H2,os2,Qq,un2,hok2,rv,ev,d,fv,ea,ed,VO,q2⟩:=ul
     subst ev
     obtain⟨h2,g2,d2,t2,os'⟩:=s'
     obtain⟨t0,G,J,kG,ge,DR,na⟩:=mk_end0 (d2:=d2) (t2:=t2) I1 hsz kk un2 hok2 os2 Qq ea ed VO
     exact⟨rv,_,_,_,⟨G,g2,d2,t2,os'⟩,_, .ref (He.ga C.X.K c),some d,rfl,J,kG,ge,DR,⟨rfl,rfl,fun vs e=>by cases e; rfl⟩,rfl,rfl,na,rfl,Qq,raises_own T.exC T.tyC,q2⟩
    | next=>exact False.elim ul
    | brk=>exact False.elim ul
    | cont=>exact False.elim ul
end
theorem EV {v:Value} (h:Gi v=true):v=.none:=by cases v <;> first | rfl | cases h
theorem HV {a:Addr} {v:Value} (h:K8 a v=true):v=.ref a:=by
 cases v with
 | ref c=>rw[of_decide_eq_true (show decide (c=a)=true from h)]
 | _=>cases h
theorem DM {o:Option Value} {t:String} (h:Gj o t=true):o=some (.type t):=by
 unfold Gj at h
 split at h
 · rw[of_decide_eq_true h]
 · cases h
theorem R8 {K:PySem.W.Frag} {C:Addr} {B:String} {tl:List Value} (SF:StoreFacts B tl "object.__setattr__" "object") (h:PySem.W.excOver K C tl=true) (hd:PySem.W.hasDictIn K C=true) (sa:PySem.W.findIn K (.ref C) "__setattr__" = some (some (.builtin "object.__setattr__"))):UD K C:=by
 obtain⟨cd,hc,h2⟩:=PySem.W.any_some h
 obtain⟨cd',Tv,h3⟩:=PySem.W.any_some hd
 rw[hc] at Tv
 cases Tv
 obtain⟨bm,hm,ht⟩:∃ bm,cd.mro=.ref C::bm∧PySem.W.excTail tl bm=true:=by
  revert h2
  split
  · rename_i C' bm e
    intro h2
    simp only[Bool.and_eq_true,beq_iff_eq] at h2
    obtain⟨rfl,h2⟩:=h2
    exact⟨bm,e,h2⟩
  · intro h2; cases h2
 refine⟨⟨cd,hc,h3,by rw[hm]; rfl,?_,fun x=>?_⟩,sa⟩
 · rw[hm,List.contains_cons,PySem.W.excTail_contains "object" bm ht,SF.hasOwner,Bool.or_true]
 · rw[hm,refuseLoop_ref]
   exact PySem.W.excTail_pass (.ref x) (SF.passes (.ref x)) bm ht
theorem GG {K:PySem.W.Frag} {pg:Program} {C:Addr} {B newId initId:String} {tl:List Value} {qual file:Str} {params:Arguments} {body:List Stmt} {scope:Scope} {fs:List Str} (FB:ExcBaseFacts B newId initId tl) (KF:PySem.W.KxsFacts B initId) (SF:StoreFacts B tl "object.__setattr__" "object") (hf:pg.main.file=file)
  (hO:HY K (He.ma K C "__init__")=(some (("__init__" : Str),qual,params,FuncBody.stmts body,scope,mainGlobals,[],builtinsNs):He.FnW)) (hB:TF K C B newId initId tl qual file fs=true):Eu K pg C (He.ma K C "__init__") (uO K (He.ma K C "__init__")) (sy K (He.ma K C "__init__")) B newId initId tl qual params body scope fs:=by
 obtain⟨h1,h⟩:=He.ba hB
 obtain⟨h2,h⟩:=He.ba h
 obtain⟨h3,h⟩:=He.ba h
 obtain⟨h4,h⟩:=He.ba h
 obtain⟨h5,h⟩:=He.ba h
 obtain⟨h6,h⟩:=He.ba h
 obtain⟨h7,h⟩:=He.ba h
 obtain⟨h8,h⟩:=He.ba h
 obtain⟨h9,h⟩:=He.ba h
 obtain⟨h10,h⟩:=He.ba h
 obtain⟨h11,h⟩:=He.ba h
 obtain⟨T6,h⟩:=He.ba h
 obtain⟨YD,h⟩:=He.ba h
 obtain⟨h14,h⟩:=He.ba h
 obtain⟨h15,h⟩:=He.ba h
 obtain⟨h16,h17⟩:=He.ba h
 have XB:(∃ oc od kV doc pm an ct osl,K.lookup (He.ma K C "__init__")=some ⟨oc,od, .func (Cu qual params body scope (uO K (He.ma K C "__init__")) (sy K (He.ma K C "__init__")) kV doc pm an ct),osl⟩)∧PySem.W.codeIn K (.ref (sy K (He.ma K C "__init__"))) qual=true:=by
  unfold JB at h1
  unfold HY at hO
  generalize uO K (He.ma K C "__init__")=cc at *
  generalize sy K (He.ma K C "__init__")=iS at *
  cases q:K.lookup (He.ma K C "__init__") with
  | none=>rw[q] at h1; cases h1
  | some o =>
   obtain⟨oc,od,dt,osl⟩:=o
   rw[q] at h1 hO
   cases dt with
   | func fd =>
    obtain⟨n1,n2,n3,n4,n5,n6,n7,n8,n9,n10,n11,n12,n13,n14,n15⟩:=fd
    have e2:(some (n1,n2,n3,n4,n5,n6,[],n15):He.FnW)=some (("__init__" : Str),qual,params,FuncBody.stmts body,scope,mainGlobals,[],builtinsNs):=hO
    simp only[Option.some.injEq,Prod.mk.injEq] at e2
    obtain⟨e1,e2,e3,e4,e5,e6,_,e8⟩:=e2
    subst e1 e2 e3 e4 e5 e6 e8
    obtain⟨k1,k⟩:=He.ba h1
    obtain⟨k2,k⟩:=He.ba k
    obtain⟨k3,k4⟩:=He.ba k
    have c1:n7=[(zC,cc)]:=of_decide_eq_true k1
    have c2:n8=.none:=EV k2
    have c3:n13=.ref iS:=HV k3
    subst c1 c2 c3
    exact⟨⟨oc,od,n9,n10,n11,n12,n14,osl,rfl⟩,k4⟩
   | _=>cases h1
 have pY:∃ XI Xw vs W2 file tf,K.lookup (sy K (He.ma K C "__init__"))=some ⟨XI,Xw, .fields vs,W2⟩∧vs[2]?=some (.str file tf)∧((pg.main.file:Str) == file)=true:=by
  unfold Kb at h2
  split at h2
  · rename_i c d vs sl q
    split at h2
    · rename_i z t e
      exact⟨c,d,vs,sl,z,t,q,e,by rw[hf]; exact h2⟩
    · cases h2
  · cases h2
 have HC:∃ cl XM Xm,K.lookup (uO K (He.ma K C "__init__"))=some ⟨cl,XM, .cell (some (.ref C)),Xm⟩:=by
  unfold K1 at h3
  split at h3
  · rename_i c d D sl q
    have:=of_decide_eq_true h3
    subst this
    exact⟨c,d,sl,q⟩
  · cases h3
 exact⟨FB,KF,h4,R8 SF h5 h6 (He.eqO_ok h7),of_decide_eq_true h8,DM h9,h10,He.eqO_ok h11,DM T6,XB.1,XB.2,pY,HC,He.eqO_ok YD,of_decide_eq_true h14,He.eqO_ok h15,of_decide_eq_true h16,fun f hf=>He.eqO_ok (List.all_eq_true.mp h17 f hf)⟩
theorem N3 {n:Nat} {fa:List He.Fa} {ts:List He.Tab} {fn:List He5.DefA} {ex:PySem.W.Frag→Bool} {sn:List He5.DefA} {g:Addr→Option Obj} {s:Shared} (h:∀ a,g a=s.heap.get? a):Tu n fa ts fn ex sn g=(Qn n fa ts fn ex sn).obs s:=by
 have e:g=s.heap.get?:=funext h
 rw[e] <;> rfl
section
variable {fa:List He.Fa} {ts:List He.Tab} {fn sn:List He5.DefA} {ex:PySem.W.Frag→Bool} {w:World} {K:PySem.W.Frag}
theorem xn.z (c:xn fa ts fn ex sn w K):nV fa ts fn ex w K:=congrArg (fun z:Qz=>z.1) c
theorem xn.sup (c:xn fa ts fn ex sn w K) (i:Nat) {d:He5.DefA} (h:sn[i]?=some d:=by rfl):HY K (d.at_ K)=d.val:=by
 have e:sn.map (fun d=>HY K (d.at_ K))=sn.map He5.DefA.val:=congrArg (fun z:Qz=>z.2) c
 have e2:(sn.map fun d=>HY K (d.at_ K))[i]?=(sn.map He5.DefA.val)[i]?:=by rw[e]
 rw[List.getElem?_map,List.getElem?_map,h] at e2
 exact Option.some.inj e2
end
section
variable {K:Fr} {G F H:Hp} {R:List Addr} {S:ag}
theorem bQ.tab (h:bQ K G F R S H) {i:Nat} {x:Str} (e:S[i]?=some (.tab x)):R[i]?=some (ON K.K x)∧∃ ps,H (ON K.K x)=some (.tbl ps)∧TriplesOk ps.toList∧∀ pos cv,codeAmong pos ps.toList=some cv→∃ c,cv=.ref c∧F c=some (LamX.CodeO c (Wc x)):=by
 obtain⟨a,q,e1,e2,e3⟩:=h.at e
 cases e2 with
 | tab h0 h1 h2 =>
  subst h0
  exact⟨e1,_,(e3 _ _ dZ).2,h1,h2⟩
end
abbrev Th:=ag→Rs D
def Jz (th:Th) (kk:Nat):M:=fun sl S=>match (sl[0]?:Option (Option D)) with
 | some (some (D.ref j))=>if j=kk then th S else .no
 | _=>.no
structure X2 (P:Program) (w:World) (K:PySem.W.Frag) (mg:Str→Option Value) (base:Heap) (k:Nat) (x a:Str) (st:Stmt) (Ng:List Str) (b:Th→Nat→MS):Prop where
 at_:bX K mg x st
 sc:FnScope Ng [a] (defScope st)
 bi:aQ x [a] st
 n0:Ng[0]?=some a
 vi:Vis (defScope st) a
 db:(a == ("__debug__" : Str))=false
 cd:(a == ("__classdict__" : Str))=false
 run:∀ (cdv:Value) (A:Around) (outer:List Env) (s:Shared) (H:Hp) (E:XK) (G:Hp) (th:Th) (kk:Nat) (px:A3),Room k (A.deeper (envOfC x (defScope st) s.heap.objs.size (He.ga K x) cdv)) →
  (∀ (W:WX) (pn:List (Addr×Obj)) (xe:Value→Shared→Prop) (tk:L2N.Takes ((cxOf (L2N.CX P w) P w K mg base Ng x (defScope st) (He.ga K x) cdv A outer s H E).tr pn xe) W) (p1 p2:Pos),
   Ej ⟨(cxOf (L2N.CX P w) P w K mg base Ng x (defScope st) (He.ga K x) cdv A outer s H E).tr pn xe,W,tk,G,px⟩ (Jz th kk) (.Call (.Name a p1) [] [] p2)) →
  Sj ⟨cxOf (L2N.CX P w) P w K mg base Ng x (defScope st) (He.ga K x) cdv A outer s H E,fun cls d _ H=>E cls d H,L2N.takes_of rfl rfl rfl rfl,G,px⟩ (b th kk) (defBody st)
def Kl:Option Obj→Bool
 | some ⟨.none,none, .fields vs,sl⟩=>Nat.beq vs.size 0 && Nat.beq sl.size 0
 | _=>false
def Z7 (g:Addr→Option Obj) (n:Nat):List Addr:=(asY g n).filter fun a=>!Kl (g a)
abbrev AlT:Type:=Qz×List Bool
def obsT (n:Nat) (fa:List He.Fa) (ts:List He.Tab) (fn:List He5.DefA) (ex:PySem.W.Frag→Bool) (sn:List He5.DefA) (cs:List Str) (g:Addr→Option Obj):AlT:=(YX fa ts fn ex sn (He.frT g (Z7 g n)),cs.map fun y=>Kl (g (ON (He.frT g (Z7 g n)) y)))
theorem X2.mono {P:Program} {w:World} {K:PySem.W.Frag} {mg:Str→Option Value} {base:Heap} {j k:Nat} {x a:Str} {st:Stmt} {Ng:List Str} {b:Th→Nat→MS} (h:X2 P w K mg base k x a st Ng b) (hj:k≤j):X2 P w K mg base j x a st Ng b :=
 ⟨h.at_,h.sc,h.bi,h.n0,h.vi,h.db,h.cd,fun cdv A outer s H E G th kk px hr=>h.run cdv A outer s H E G th kk px (hr.mono hj)⟩
section
variable {K:Fr} {F:Hp} {R:List Addr}
theorem aF.take:∀ {vs:List V} {ds:List D} (k:Nat),aF K F R vs ds→aF K F R (vs.take k) (ds.take k)
 | _,_,_, .nil=>by simp; exact .nil
 | _,_,0, .cons _ _=>.nil
 | _,_,k+1, .cons h t=>.cons h (aF.take k t)
theorem aF.drop:∀ {vs:List V} {ds:List D} (k:Nat),aF K F R vs ds→aF K F R (vs.drop k) (ds.drop k)
 | _,_,_, .nil=>by simp; exact .nil
 | _,_,0, .cons h t=>.cons h t
 | _,_,k+1, .cons _ t=>aF.drop k t
end
section
variable {P:Program} {w:World} {K:PySem.W.Frag} {mg:Str→Option Value} {base:Heap} {k:Nat} {x:Str} {ps:List Str} {st:Stmt} {fn:Fn}
theorem jo.keep (h:jo P w K mg base k x ps fn):PySem.W.keepIn K (.ref (He.ga K x))=true:=let ⟨_,_,_,h,_⟩:=h; h
end
open PySem.W (EachIs)
def bmB (K:PySem.W.Frag) (g:Addr):Bool:=He.eqO (PySem.W.specialIn K (.ref g) "__get__") (some (some (.builtin "function.__get__"))) && (decide (PySem.W.takesIn K (.ref g)=some false) && PySem.W.fnIn K g)
def Tc (t:Bool) (h:Heap) (i a:Addr) (k:Nat):Prop:=match t with
 | true=>h.IsTupleIter i a k
 | false=>h.IsListIter i a k
def VC (t:Bool) (h:Heap) (a:Addr) (its:Array Value):Prop:=match t with
 | true=>h.IsTuple a its
 | false=>h.IsList a its
def ObX (t:Bool) (a:Addr):Obj:=match t with
 | true=>{ cls:=.type "tuple_iterator",data:=.fields #[.ref a, .int 0 0] }
 | false=>{ cls:=.type "list_iterator",data:=.fields #[.ref a, .int 0 0] }
theorem Tc.keep {t:Bool} {h h':Heap} {i a:Addr} {k:Nat} (x:Tc t h i a k) (e:∀ o,h.get? i=some o→h'.get? i=some o):Tc t h' i a k:=by
 cases t with
 | true=>exact Heap.IsTupleIter.at x e
 | false=>exact Heap.IsListIter.at x e
theorem Tc.obj {t:Bool} {h:Heap} {i a:Addr} {k:Nat} (x:Tc t h i a k):∃ o vs,h.get? i=some o∧o.data=.fields vs:=by
 cases t with
 | true=>obtain⟨o,e,_,d⟩:=x; exact⟨o,_,e,d⟩
 | false=>obtain⟨o,e,_,d⟩:=x; exact⟨o,_,e,d⟩
theorem Tc.new {t:Bool} {h:Heap} {i a:Addr} (x:h.get? i=some (ObX t a)):Tc t h i a 0:=by
 cases t with
 | true=>exact⟨_,x,rfl,rfl⟩
 | false=>exact⟨_,x,rfl,rfl⟩
theorem VC.lt {t:Bool} {h:Heap} {a:Addr} {its:Array Value} (x:VC t h a its):a < h.objs.size:=by
 cases t with
 | true=>obtain⟨o,e,_⟩:=x; exact Heap.lt_size e
 | false=>obtain⟨o,e,_⟩:=x; exact Heap.lt_size e
structure FnW (P:Program) (w:World) (K:PySem.W.Frag) (mg:Str→Option Value) (base:Heap) (CX:CXT) (k:Nat) (f:Addr) (fd:FuncData) (ps:List Str) (sp:Sp):Prop where
 len:∀ vs H Q E,sp vs H Q E→vs.length=ps.length
 run:∀ (A:Around) (outer:List Env) (s:Shared) (H:Hp) (args:Args) (us:List Value) (vs:List V) (Q:VK) (E:XK),L2H.RoomH k A→Env0 P w K mg base A outer s H→BindsTo s fd args (ps.zip us)→Vals vs us→sp vs H Q E →
  codeAny (model P w) A (.call (.ref f) args) (CR CX outer P w H s Q E) s
theorem UY {k:Nat} {A:Around} {h:Option Value} (r:Room k A):L2H.RoomH k (A.mark h):=⟨r.dp,r.un⟩
end Z
theorem L2H.RoomH.units {k:Nat} {A:PySem.Around} (r:L2H.RoomH k A):A.units+64 < PySem.cLine:=by have:=r.un; omega
namespace Z
open PySem PySem.Spec PyProof.Rows L2
open PySem.W (EachIs)
end Z
namespace Zs
open PySem PySem.Spec PyProof.Rows
def Vp (e:Int×Value):Str:=match e.2 with
 | .str k _=>k
 | _=>Str.empty
def OkE (w:World) (e:Int×Value):Prop:=∃ k tk,e.2=Value.str k tk∧e.1=hashStr w k
structure TxR (w:World) (es:Array (Int×Value)) (t:SetTable) (zs:Str→Prop):Prop where
 ok:∀ e∈es.toList,OkE w e
 nd:(es.toList.map Vp).Nodup
 mem:∀ k,zs k↔k∈es.toList.map Vp
 few:es.size < scanBound
 fit:t.fits es.size=true
 ris:L2.Ris t.place.toList
 led:w.params.followText "set-order" = true∨t.led=true
def UK (w:World) (h:Heap) (a:Addr) (zs:Str→Prop) (n:Nat):Prop:=∃ o es ep t,h.get? a=some o∧o.ExactSet∧o.data=.set es ep t∧es.size=n∧TxR w es t zs
section
variable {P:Program} {w:World} {A:Around} {E:Value→Shared→Prop} {s:Shared} {h h':Heap} {a:Addr} {zs:Str→Prop} {n:Nat}
theorem UK.at (R:UK w h a zs n) (k:∀ o,h.get? a=some o→h'.get? a=some o):UK w h' a zs n:=by
 obtain⟨o,es,ep,t,ho,r⟩:=R
 exact⟨o,es,ep,t,k o ho,r⟩
theorem UK.iff {ys:Str→Prop} (R:UK w h a zs n) (e:∀ k,ys k↔zs k):UK w h a ys n:=by
 rw[show ys=zs from funext fun k=>propext (e k)]
 exact R
end
end Zs
namespace Z
open PySem PySem.Spec PyProof.Rows L2
open PySem.SeqAt (EqIn EqAt rcIn_lists rcIn_tuples)
section
variable {prog:Program} {w:World} {K:Type} [DecidableEq K] {knd:HeapKind prog w K} {A:Around} {E:Value→Shared→Prop} {s:Shared}
theorem H6 {h:Heap} {a:Addr} {xa xb:List (K×Addr×Value)} (da:h.DictOfH knd a xa) (db:h.DictOfH knd a xb):xa=xb:=by
 obtain⟨oa,es,ep,hoa,-,hda,IW,IZ,-⟩:=da
 obtain⟨ob,es',ep',CH,-,mD,U2,hib,-⟩:=db
 rw[hoa] at CH
 cases CH
 rw[hda] at mD
 cases mD
 rw[IW] at U2
 clear hda IW hoa
 induction xa generalizing xb with
 | nil =>
  cases xb with
  | nil=>rfl
  | cons _ _=>cases U2
 | cons x xa ih =>
  cases xb with
  | nil=>cases U2
  | cons y xb =>
   rw[List.map_cons,List.map_cons] at U2
   injection U2 with h1 h2
   have t:=ih (fun z hz=>IZ z (List.mem_cons_of_mem _ hz)) (fun z hz=>hib z (List.mem_cons_of_mem _ hz)) h2
   have hx:=IZ x (List.mem_cons_self ..)
   have hy:=hib y (List.mem_cons_self ..)
   obtain⟨k,c,v⟩:=x
   obtain⟨k',c',v'⟩:=y
   unfold entryOfKey at h1
   injection h1 with _ g2 g3
   injection g2 with g2
   have g2:c=c':=g2
   have g3:v=v':=g3
   subst g2 g3
   have:k=k':=knd.inj hx hy
   rw[this,t]
end
open PySem.SeqAt (EqIn EqAt rcIn_lists rcIn_tuples)
def Tb (H:Hp) (v:V) (l:List Int):Prop:=∃ b,v=.ref b∧H b=some (.lst (l.map V.int))
def YZ (H:Hp) (v:V) (t:List (Key×List Int)):Prop:=∃ a kvs,v=.ref a∧H a=some (.dK kvs)∧Paired (fun (p:Key×V) (q:Key×List Int)=>p.1=q.1∧Tb H p.2 q.2) kvs t
def Zp (K:Fr) (H:Hp) (v:V) (t:List (NestedKey×List Int)):Prop:=∃ a kvs ks,v=.ref a∧H a=some (dN K.pg K.w a kvs)∧tv K H kvs ks∧Paired (fun (p:NestedKey×Addr×V) (q:NestedKey×List Int)=>p.1=q.1∧Tb H p.2.2 q.2) kvs t
theorem xZ:∀ {l l':List Int},l.map V.int=l'.map V.int→l=l'
 | [],[],_=>rfl
 | [],_::_,h=>by cases h
 | _::_,[],h=>by cases h
 | x::l,y::l',h=>by
  rw[List.map_cons,List.map_cons] at h
  injection h with h1 h2
  injection h1 with h1
  rw[h1,xZ h2]
theorem Tb.inj {H:Hp} {v:V} {l l':List Int} (h:Tb H v l) (h':Tb H v l'):l=l':=by
 obtain⟨b,rfl,e⟩:=h
 obtain⟨b',e',e2⟩:=h'
 cases e'
 rw[e] at e2
 injection e2 with e2
 injection e2 with e2
 exact xZ e2
theorem Tb.rp {K:Fr} {H:Hp} {v:V} {l:List Int} (h:Tb H v l):Rp K H v (.lst (l.map P.int)):=by
 obtain⟨b,rfl,e⟩:=h
 refine .lst e ?_
 clear e
 induction l with
 | nil=>exact .nil
 | cons x l ih=>exact .cons (.int x) ih
theorem YZ.inj {H:Hp} {v:V} {t t':List (Key×List Int)} (h:YZ H v t) (h':YZ H v t'):t=t':=by
 obtain⟨a,kvs,rfl,e,p⟩:=h
 obtain⟨a',UQ,e',e2,p'⟩:=h'
 cases e'
 rw[e] at e2
 injection e2 with e2
 injection e2 with e2
 subst e2
 clear e
 induction p generalizing t' with
 | nil=>cases p'; rfl
 | cons q _ ih =>
  cases p' with
  | cons q' r' =>
   obtain⟨k,l⟩:=‹Key×List Int›
   rw[ih r']
   congr 1
   exact Prod.ext (q.1.symm.trans q'.1) (q.2.inj q'.2)
section
variable {X:Cx} {pins:List (Addr×Obj)} {σ:L2.St} {H:Hp} {s:Shared} {A:Around}
theorem Zp.inj (I:Inv X pins σ H s) {v:V} {t t':List (NestedKey×List Int)} (h:Zp (qd X) H v t) (h':Zp (qd X) H v t'):t=t':=by
 obtain⟨a,kvs,ks,rfl,e,hk,p⟩:=h
 obtain⟨a',UQ,ks',e',e2,hk',p'⟩:=h'
 cases e'
 obtain⟨-,-,xs,r,d⟩:=xR I.hok I.kIn e hk
 obtain⟨-,-,xs',r',d'⟩:=xR I.hok I.kIn e2 hk'
 have ex:=H6 d d'
 subst ex
 clear e e2 hk hk' d d'
 induction r generalizing UQ t t' with
 | nil =>
  cases r'
  cases p
  cases p'
  rfl
 | @cons p1 q1 ps qs g _ ih =>
  cases r' with
  | @cons p1' _ _ _ g' r2' =>
   cases p with
   | @cons _ u _ us f f2 =>
    cases p' with
    | @cons _ u' _ us' f' f2' =>
     rw[ih f2 _ f2' r2']
     congr 1
     refine Prod.ext (f.1.symm.trans (g.1.trans (g'.1.symm.trans f'.1))) ?_
     obtain⟨b,eb,hb⟩:=f.2
     obtain⟨b',eb',hb'⟩:=f'.2
     have r1:=g.2.2
     have r2:=g'.2.2
     rw[eb] at r1
     rw[eb'] at r2
     have r1:q1.2.2=Value.ref b:=r1
     have r2:q1.2.2=Value.ref b':=r2
     rw[r1] at r2
     cases r2
     rw[hb] at hb'
     injection hb' with hb'
     injection hb' with hb'
     exact xZ hb'
end
open PySem.SeqAt (EqIn EqAt rcIn_lists rcIn_tuples)
end Z
namespace Z
open PySem PySem.Spec PyProof.Rows L2 HotX
section
variable {prog:Program} {w:World} {A:Around} {E:Value→Shared→Prop} {s:Shared}
theorem mZ {x1 it:Addr} {h:Heap} {a b:Value} (bR:HotAt A x1 h) {o2:Obj} (e2:h.get? it=some o2) (d2:o2.data=.fields #[a,b]):x1≠it:=by
 obtain⟨_,o,vs,e,d,c⟩:=bR
 intro z
 subst z
 rw[e] at e2
 cases e2
 rw[d] at d2
 cases d2
 simp at c
theorem cA {x1:Addr} {h h':Heap} (bR:HotAt A x1 h) (k:∀ o,h.get? x1=some o→h'.get? x1=some o):HotAt A x1 h':=by
 obtain⟨q,o,vs,e,d,c⟩:=bR
 exact⟨q,o,vs,k o e,d,c⟩
theorem mF {α:Type} {x1:Addr} {Q:α→Shared→Prop} (bR:HotAt A x1 s.heap)
  (hE:∀ h' e,(∀ b o,s.heap.get? b=some o→h'.get? b=some o)→(∃ o,h'.get? e=some o∧o.cls=.type "StopIteration")→E (.ref e) { s with heap:=h' }) :
  wpAny (model prog w) A (newExc (.type "StopIteration") [] >>= fun e=>(raiseNew e:Sem α)) Q E s:=by
 refine wpAny_bind ?_; simp only[newExc,newTuple]
 refine wpAny_bind (wpAny_newObj_type ?_ (by size_fits)); refine wpAny_bind (m:=firstArgMember _ _) (wpAny_of_eq (a:=Value.none) (by first | rfl | (simp only[firstArgMember]; rfl)) ?_)
 refine wpAny_newObj_type ?_ (by size_fits); obtain⟨hh,o1,vs1,h1,d1,c1⟩:=bR
 refine raiseNew_hot ⟨hh,o1,vs1,Heap.get?_push_of_some _ (Heap.get?_push_of_some _ h1),d1,c1⟩ (Nat.ne_of_lt (Heap.lt_size (Heap.get?_push_of_some _ h1))) (Heap.get?_push_size _ rfl) rfl (by first | (simp; done) | (simp; omega) | (simp only[Array.size_append]; simp; omega)) ?_
 refine hE _ _ (fun b o e=>?_) ⟨_,Heap.get?_update_self _ (Heap.get?_push_size _ rfl) rfl,rfl⟩
 rw[Heap.get?_update_other _ _ (Nat.ne_of_gt (Heap.lt_size (Heap.get?_push_of_some _ e)))]; exact Heap.get?_push_of_some _ (Heap.get?_push_of_some _ e)
theorem fT {h:Heap} {it:Addr} {f:Obj→Obj}:∀ b o,b≠it→h.get? b=some o→(h.update it f).get? b=some o:=fun b o hb e=>(Heap.SameBut.update h it f).extBut b o hb e
theorem Bw {it l x1:Addr} {i:Nat} {items:Array Value} {Q:Value→Shared→Prop} (bR:HotAt A x1 s.heap) (hit:s.heap.IsListIter it l i) (hl:s.heap.IsList l items) (hx:items[i]?=none)
  (hE:∀ h' e,Heap.ExtBut it s.heap h'→(∃ o,h'.get? e=some o∧o.cls=.type "StopIteration")→E (.ref e) { s with heap:=h' }) :
  wpAny (model prog w) A (Builtin.SmallTypes.nextOf (.ref it)) Q E s:=by
 obtain⟨o,ho,hc,hd⟩:=id hit; obtain⟨ol,RP,_,nl,TC⟩:=hl
 have fe:=mZ bR ho hd
 unfold Builtin.SmallTypes.nextOf
 refine wpAny_bind (wpAny_callSpecial?_slot (name:=Str.ofString "__next__") hit.typeIs slot_listiter_next (wpAny_call_entry slot_listiter_next hit.typeIs entry_listiter_next ?_ (args_listiter_next _)))
 show wpAny _ _ (field (.ref it) 0 >>= _) _ _ s; refine wpAny_bind (wpAny_field ho hd (x:=.ref l) rfl ?_)
 show wpAny _ _ (if (Value.ref l == Value.none)=true then _ else _) _ _ s; rw[if_neg (show ¬ ((Value.ref l == Value.none)=true) from Bool.false_ne_true)]
 show wpAny _ _ (field (.ref it) 1 >>= _) _ _ s; refine wpAny_bind (wpAny_field ho hd (x:=.int i 0) rfl ?_)
 show wpAny _ _ (seqItems? (.ref l) >>= _) _ _ s; refine wpAny_bind (wpAny_seqItems RP TC ?_)
 simp only[Int.toNat_natCast,hx]
 refine wpAny_bind (wpAny_rule (wpAny_bind (wpAny_setField ho hd (by simp) ?_)))
 exact mF (cA bR fun o e=>fT _ _ fe e) fun h' e k he=>hE h' e (fun b o hb e=>k b o (fT b o hb e)) he
theorem BH {it l x1:Addr} {i:Nat} {items:Array Value} {Q:Value→Shared→Prop} (bR:HotAt A x1 s.heap) (hit:s.heap.IsTupleIter it l i) (hl:s.heap.IsTuple l items) (hx:items[i]?=none)
  (hE:∀ h' e,Heap.ExtBut it s.heap h'→(∃ o,h'.get? e=some o∧o.cls=.type "StopIteration")→E (.ref e) { s with heap:=h' }) :
  wpAny (model prog w) A (Builtin.SmallTypes.nextOf (.ref it)) Q E s:=by
 obtain⟨o,ho,hc,hd⟩:=id hit; obtain⟨ol,RP,_,nl,TC⟩:=hl
 have fe:=mZ bR ho hd
 unfold Builtin.SmallTypes.nextOf
 refine wpAny_bind (wpAny_callSpecial?_slot (name:=Str.ofString "__next__") hit.typeIs F.slot_tuple_iterator_next (wpAny_call_entry F.slot_tuple_iterator_next hit.typeIs F.entry_tuple_iterator_next ?_ (F.args_tuple_iterator_next_1 _)))
 show wpAny _ _ (field (.ref it) 0 >>= _) _ _ s; refine wpAny_bind (wpAny_field ho hd (x:=.ref l) rfl ?_)
 show wpAny _ _ (if (Value.ref l == Value.none)=true then _ else _) _ _ s; rw[if_neg (show ¬ ((Value.ref l == Value.none)=true) from Bool.false_ne_true)]
 show wpAny _ _ (field (.ref it) 1 >>= _) _ _ s; refine wpAny_bind (wpAny_field ho hd (x:=.int i 0) rfl ?_)
 show wpAny _ _ (seqItems? (.ref l) >>= _) _ _ s; refine wpAny_bind (wpAny_seqItems RP TC ?_)
 simp only[Int.toNat_natCast,hx]
 refine wpAny_bind (wpAny_rule (wpAny_bind (wpAny_setField ho hd (by simp) ?_)))
 exact mF (cA bR fun o e=>fT _ _ fe e) fun h' e k he=>hE h' e (fun b o hb e=>k b o (fT b o hb e)) he
theorem Gv {it l x1:Addr} {i:Nat} {items:Array Value} {Q:Option Value→Shared→Prop} (bR:HotAt A x1 s.heap) (hit:s.heap.IsListIter it l i) (hl:s.heap.IsList l items) (hx:items[i]?=none)
  (hQ:∀ h',Heap.ExtBut it s.heap h'→Q none { s with heap:=h' }):wpAny (model prog w) A (pyNext (.ref it)) Q E s:=by
 obtain⟨o,ho,hc,hd⟩:=id hit; obtain⟨ol,RP,_,nl,TC⟩:=hl
 have fe:=mZ bR ho hd
 unfold pyNext
 refine wpAny_bind (wpAny_attempt (wpAny_callSpecial?_slot (name:=Str.ofString "__next__") hit.typeIs slot_listiter_next (wpAny_call_entry slot_listiter_next hit.typeIs entry_listiter_next ?_ (args_listiter_next _))))
 show wpAny _ _ (field (.ref it) 0 >>= _) _ _ s; refine wpAny_bind (wpAny_field ho hd (x:=.ref l) rfl ?_)
 show wpAny _ _ (if (Value.ref l == Value.none)=true then _ else _) _ _ s; rw[if_neg (show ¬ ((Value.ref l == Value.none)=true) from Bool.false_ne_true)]
 show wpAny _ _ (field (.ref it) 1 >>= _) _ _ s; refine wpAny_bind (wpAny_field ho hd (x:=.int i 0) rfl ?_)
 show wpAny _ _ (seqItems? (.ref l) >>= _) _ _ s; refine wpAny_bind (wpAny_seqItems RP TC ?_)
 simp only[Int.toNat_natCast,hx]
 refine wpAny_bind (wpAny_rule (wpAny_bind (wpAny_setField ho hd (by simp) ?_)))
 refine mF (cA bR fun o e=>fT _ _ fe e) fun h' e k he=>?_
 obtain⟨oe,h1,h2⟩:=he
 refine wpAny_bind (wpAny_isInstance (T:="StopIteration") (b:=true) ⟨oe,h1,h2⟩ isSubtype_stop (wpAny_pure (hQ _ fun b o hb e=>k b o (fT b o hb e))))
theorem vP {it t x1:Addr} {i:Nat} {items:Array Value} {Q:Option Value→Shared→Prop} (bR:HotAt A x1 s.heap) (hit:IsTupIter s.heap it t i) (ht:IsTup s.heap t items) (hx:items[i]?=none)
  (hQ:∀ h',Heap.ExtBut it s.heap h'→Q none { s with heap:=h' }):wpAny (model prog w) A (pyNext (.ref it)) Q E s:=by
 obtain⟨o,ho,hc,hd⟩:=id hit; obtain⟨ol,RP,_,nl,TC⟩:=ht
 have fe:=mZ bR ho hd
 unfold pyNext
 refine wpAny_bind (wpAny_attempt (wpAny_callSpecial?_slot (name:=Str.ofString "__next__") hit.typeIs slot_tupleiter_next (wpAny_call_entry slot_tupleiter_next hit.typeIs entry_tupleiter_next ?_ (args_tupleiter_next _))))
 show wpAny _ _ (field (.ref it) 0 >>= _) _ _ s; refine wpAny_bind (wpAny_field ho hd (x:=.ref t) rfl ?_)
 show wpAny _ _ (if (Value.ref t == Value.none)=true then _ else _) _ _ s; rw[if_neg (show ¬ ((Value.ref t == Value.none)=true) from Bool.false_ne_true)]
 show wpAny _ _ (field (.ref it) 1 >>= _) _ _ s; refine wpAny_bind (wpAny_field ho hd (x:=.int i 0) rfl ?_)
 show wpAny _ _ (seqItems? (.ref t) >>= _) _ _ s; refine wpAny_bind (wpAny_seqItems RP TC ?_)
 simp only[Int.toNat_natCast,hx]
 refine wpAny_bind (wpAny_rule (wpAny_bind (wpAny_setField ho hd (by simp) ?_)))
 refine mF (cA bR fun o e=>fT _ _ fe e) fun h' e k he=>?_
 obtain⟨oe,h1,h2⟩:=he
 refine wpAny_bind (wpAny_isInstance (T:="StopIteration") (b:=true) ⟨oe,h1,h2⟩ isSubtype_stop (wpAny_pure (hQ _ fun b o hb e=>k b o (fT b o hb e))))
theorem J9 {t x1:Addr} {items:Array Value} {targets:List (Bool×(Value→Sem Unit))} {Q:Unit→Shared→Prop} (bR:HotAt A x1 s.heap) (ht:IsTup s.heap t items)
  (hn:targets.length=items.size) (V4:targets.findIdx? (·.1)=none)
  (h:∀ h',Heap.ExtBut s.heap.objs.size s.heap h'→wpAny (model prog w) A (assignInOrder (targets.map (·.2)) items.toList) Q E { s with heap:=h' }) :
  wpAny (model prog w) A (unpack (.ref t) targets) Q E s:=by
 have kO:t≠s.heap.objs.size:=by obtain⟨o,ho,_⟩:=ht; exact Nat.ne_of_lt (Heap.lt_size ho)
 have hx1:x1≠s.heap.objs.size:=by obtain⟨_,o,_,ho,_⟩:=bR; exact Nat.ne_of_lt (Heap.lt_size ho)
 unfold unpack; rw[hn,V4]; refine wpAny_bind (wpAny_holding ?_)
 unfold unpackItems; refine wpAny_bind ?_
 unfold notIterableAtAll; refine wpAny_bind (wpAny_specialOf ht.typeIs slot_tuple_iter.lookup ?_)
 refine wpAny_pure ?_; simp only[Bool.false_eq_true,if_false]
 refine wpAny_bind (wpAny_holding (iter_tuple ht ?_))
 refine wpAny_bind (wpAny_holding (draw_tuple kO items.size 0 _ _ ⟨_,Heap.get?_push_size _ rfl,rfl,rfl⟩ (ht.push _) (by omega) fun h₁ Ub tJ=>?_))
 have kQ:List.take items.size (List.drop 0 items.toList)=items.toList:=by rw[List.drop_zero]; exact List.take_of_length_le (by simp)
 rw[kQ]; rw[if_neg (by simp)]
 have Zt:IsTup h₁ t items:=(ht.push _).extBut tJ.extBut kO
 refine wpAny_bind (wpAny_holding (vP (cA bR fun o e=>tJ.extBut _ _ hx1 (Heap.get?_push_of_some _ e)) Ub Zt (by simp) fun h₂ XW=>?_))
 simp only[Option.isSome_none,Bool.false_eq_true,if_false]
 refine wpAny_pure (h h₂ fun b o hb e=>XW b o hb (tJ.extBut b o hb (Heap.get?_push_of_some _ e)))
end
end Z
namespace Z
open PySem PySem.Spec PyProof.Rows L2 HotX
section
variable {prog:Program} {w:World} {A:Around} {E:Value→Shared→Prop} {s:Shared}
theorem SY {z TI TO i1 i2 l1 l2 x1:Addr} {k1 k2:Nat} {xs ys:Array Value} {a b:Value} {Q:Fin→Shared→Prop} (bR:HotAt A x1 s.heap) (D:ZipApart z TI TO i1 i2 l1 l2) (nz:x1≠z) (nO:x1≠TO) (n1:x1≠i1) (n2:x1≠i2)
  (hz:IsZip s.heap z TI TO .none) (pN:IsPair s.heap TI (.ref i1) (.ref i2)) (qR:IsPair s.heap TO a b) (h1:s.heap.IsListIter i1 l1 k1) (h2:s.heap.IsListIter i2 l2 k2) (Mv:s.heap.IsList l1 xs) (En:s.heap.IsList l2 ys) (wB:xs[k1]?=none∨ys[k2]?=none)
  (hE:∀ h' e,(∀ c o,c≠z→c≠TO→c≠i1→c≠i2→s.heap.get? c=some o→h'.get? c=some o)→(∃ o,h'.get? e=some o∧o.cls=.type "StopIteration")→E (.ref e) { s with heap:=h' }):wpAny (model prog w) A (Builtin.«zip.__next__» ⟨[.ref z],[]⟩) Q E s:=by
 show wpAny _ _ (field (.ref z) 2 >>= _) _ _ _; refine wpAny_bind (wpAny_field hz rfl (x:=.bool false) rfl ?_)
 show wpAny _ _ (field (.ref z) 3 >>= _) _ _ _; refine wpAny_bind (wpAny_field hz rfl (x:=.ref TI) rfl ?_)
 refine wpAny_bind (wpAny_seqItems pN rfl ?_); show wpAny _ _ (Builtin.SmallTypes.ownedTupleIsFree (.ref z) >>= _) _ _ _
 refine wpAny_bind ?_; unfold Builtin.SmallTypes.ownedTupleIsFree
 refine wpAny_bind (wpAny_field hz rfl (x:=.none) rfl (wpAny_pure ?_)); simp only[if_true]
 refine wpAny_bind (wpAny_rule ?_); refine wpAny_bind (wpAny_field hz rfl (x:=.ref TO) rfl ?_)
 refine wpAny_bind (wpAny_setField_rec hz (by simp) fun h₁ Nr tJ=>?_); replace Nr:IsZip h₁ z TI TO .ellipsis:=Nr
 refine wpAny_bind ?_; simp only[List.zipIdx_cons,List.zipIdx_nil,List.forIn_cons,List.forIn_nil]
 refine wpAny_bind (wpAny_bind (wpAny_onRaise ?_)); show wpAny _ _ (Builtin.SmallTypes.nextOf (.ref i1) >>= _) _ _ _
 have uA:HotAt A x1 h₁:=cA bR fun o e=>tJ.extBut _ _ nz e
 cases hx:xs[k1]? with
 | none =>
  refine wpAny_bind (Bw uA (h1.extBut tJ.extBut D.i1z) (Mv.extBut tJ.extBut D.l1z) hx fun h₂ e Bv he=>?_); obtain⟨oe,DR,HC⟩:=he
  have VI:IsZip h₂ z TI TO .ellipsis:=Bv _ _ D.i1z.symm Nr
  have SX:e≠z:=fun x=>by subst x; rw[VI] at DR; cases DR; simp at HC
  exact wpAny_setField_rec VI (by simp) fun h₃ _ DV=>hE h₃ e (fun c o c1 _ c3 _ x=>DV.extBut _ _ c1 (Bv _ _ c3 (tJ.extBut _ _ c1 x))) ⟨oe,DV.extBut _ _ SX DR,HC⟩
 | some x =>
  have hy:ys[k2]?=none:=by rcases wB with h | h; (rw[hx] at h; cases h); exact h
  refine wpAny_bind (wpAny_nextOf_list_item (h1.extBut tJ.extBut D.i1z) (Mv.extBut tJ.extBut D.l1z) hx fun h₂ h1₂ Bv=>wpAny_pure ?_); have L8:IsPair h₂ TO a b:=Bv.extBut _ _ D.TOi1 (tJ.extBut _ _ D.TOz qR)
  refine wpAny_bind (wpAny_seqItems L8 rfl ?_); refine wpAny_bind (wpAny_updateSeq_pair L8 fun h₃ YV DV=>?_)
  refine wpAny_bind (wpAny_letGo (wpAny_pure ?_)); refine wpAny_bind (wpAny_bind (wpAny_onRaise ?_))
  show wpAny _ _ (Builtin.SmallTypes.nextOf (.ref i2) >>= _) _ _ _
  have Ul:HotAt A x1 h₃:=cA uA fun o e=>DV.extBut _ _ nO (Bv.extBut _ _ n1 e)
  refine wpAny_bind (Bw Ul (((h2.extBut tJ.extBut D.i2z).extBut Bv.extBut D.i12.symm).extBut DV.extBut D.TOi2.symm) (((En.extBut tJ.extBut D.l2z).extBut Bv.extBut D.l2i1).extBut DV.extBut D.l2TO) hy fun h₄ e VU he=>?_)
  obtain⟨oe,DR,HC⟩:=he; have Vz:IsZip h₄ z TI TO .ellipsis:=VU _ _ D.i2z.symm (DV.extBut _ _ D.TOz.symm (Bv.extBut _ _ D.i1z.symm Nr))
  have SX:e≠z:=fun x=>by subst x; rw[Vz] at DR; cases DR; simp at HC
  exact wpAny_setField_rec Vz (by simp) fun h₅ _ UU=>hE h₅ e (fun c o c1 c2 c3 c4 x=>UU.extBut _ _ c1 (VU _ _ c4 (DV.extBut _ _ c2 (Bv.extBut _ _ c3 (tJ.extBut _ _ c1 x))))) ⟨oe,UU.extBut _ _ SX DR,HC⟩
theorem TU {z TI TO i1 i2 l1 l2 x1:Addr} {k1 k2:Nat} {xs ys:Array Value} {a b:Value} {Q:Option Value→Shared→Prop} (bR:HotAt A x1 s.heap) (D:ZipApart z TI TO i1 i2 l1 l2) (nz:x1≠z) (nO:x1≠TO) (n1:x1≠i1) (n2:x1≠i2)
  (hz:IsZip s.heap z TI TO .none) (pN:IsPair s.heap TI (.ref i1) (.ref i2)) (qR:IsPair s.heap TO a b) (h1:s.heap.IsListIter i1 l1 k1) (h2:s.heap.IsListIter i2 l2 k2) (Mv:s.heap.IsList l1 xs) (En:s.heap.IsList l2 ys) (wB:xs[k1]?=none∨ys[k2]?=none)
  (hQ:∀ h',(∀ c o,c≠z→c≠TO→c≠i1→c≠i2→s.heap.get? c=some o→h'.get? c=some o)→Q none { s with heap:=h' }):wpAny (model prog w) A (pyNext (.ref z)) Q E s:=by
 have hT:s.TypeIs (.ref z) "zip":=⟨_,hz,rfl⟩
 unfold pyNext
 refine wpAny_bind (wpAny_attempt (wpAny_callSpecial?_slot (name:=Str.ofString "__next__") hT F.slot_zip_next (wpAny_call_entry F.slot_zip_next hT F.entry_zip_next (SY bR D nz nO n1 n2 hz pN qR h1 h2 Mv En wB fun h' e hk he=>?_) (F.args_zip_next_1 _))))
 obtain⟨o,ho,hc⟩:=he; exact wpAny_bind (wpAny_isInstance (T:="StopIteration") (b:=true) ⟨o,ho,hc⟩ isSubtype_stop (wpAny_pure (hQ _ hk)))
theorem RJ {z TI TO i1 i2 l1 l2 x1:Addr} {k1 k2:Nat} {xs ys:Array Value} {a b:Value} {Q:Fin→Shared→Prop} (bR:HotAt A x1 s.heap) (D:ZipApart z TI TO i1 i2 l1 l2) (nz:x1≠z) (nO:x1≠TO) (n1:x1≠i1) (n2:x1≠i2)
  (hz:IsZip s.heap z TI TO .none) (pN:IsPair s.heap TI (.ref i1) (.ref i2)) (qR:IsPair s.heap TO a b) (h1:s.heap.IsTupleIter i1 l1 k1) (h2:s.heap.IsTupleIter i2 l2 k2) (Mv:s.heap.IsTuple l1 xs) (En:s.heap.IsTuple l2 ys) (wB:xs[k1]?=none∨ys[k2]?=none)
  (hE:∀ h' e,(∀ c o,c≠z→c≠TO→c≠i1→c≠i2→s.heap.get? c=some o→h'.get? c=some o)→(∃ o,h'.get? e=some o∧o.cls=.type "StopIteration")→E (.ref e) { s with heap:=h' }):wpAny (model prog w) A (Builtin.«zip.__next__» ⟨[.ref z],[]⟩) Q E s:=by
 show wpAny _ _ (field (.ref z) 2 >>= _) _ _ _; refine wpAny_bind (wpAny_field hz rfl (x:=.bool false) rfl ?_)
 show wpAny _ _ (field (.ref z) 3 >>= _) _ _ _; refine wpAny_bind (wpAny_field hz rfl (x:=.ref TI) rfl ?_)
 refine wpAny_bind (wpAny_seqItems pN rfl ?_); show wpAny _ _ (Builtin.SmallTypes.ownedTupleIsFree (.ref z) >>= _) _ _ _
 refine wpAny_bind ?_; unfold Builtin.SmallTypes.ownedTupleIsFree
 refine wpAny_bind (wpAny_field hz rfl (x:=.none) rfl (wpAny_pure ?_)); simp only[if_true]
 refine wpAny_bind (wpAny_rule ?_); refine wpAny_bind (wpAny_field hz rfl (x:=.ref TO) rfl ?_)
 refine wpAny_bind (wpAny_setField_rec hz (by simp) fun h₁ Nr tJ=>?_); replace Nr:IsZip h₁ z TI TO .ellipsis:=Nr
 refine wpAny_bind ?_; simp only[List.zipIdx_cons,List.zipIdx_nil,List.forIn_cons,List.forIn_nil]
 refine wpAny_bind (wpAny_bind (wpAny_onRaise ?_)); show wpAny _ _ (Builtin.SmallTypes.nextOf (.ref i1) >>= _) _ _ _
 have uA:HotAt A x1 h₁:=cA bR fun o e=>tJ.extBut _ _ nz e
 cases hx:xs[k1]? with
 | none =>
  refine wpAny_bind (BH uA (h1.extBut tJ.extBut D.i1z) (Mv.extBut tJ.extBut D.l1z) hx fun h₂ e Bv he=>?_); obtain⟨oe,DR,HC⟩:=he
  have VI:IsZip h₂ z TI TO .ellipsis:=Bv _ _ D.i1z.symm Nr
  have SX:e≠z:=fun x=>by subst x; rw[VI] at DR; cases DR; simp at HC
  exact wpAny_setField_rec VI (by simp) fun h₃ _ DV=>hE h₃ e (fun c o c1 _ c3 _ x=>DV.extBut _ _ c1 (Bv _ _ c3 (tJ.extBut _ _ c1 x))) ⟨oe,DV.extBut _ _ SX DR,HC⟩
 | some x =>
  have hy:ys[k2]?=none:=by rcases wB with h | h; (rw[hx] at h; cases h); exact h
  refine wpAny_bind (RZ.nextOf_tuple_item (h1.extBut tJ.extBut D.i1z) (Mv.extBut tJ.extBut D.l1z) hx fun h₂ h1₂ Bv=>wpAny_pure ?_); have L8:IsPair h₂ TO a b:=Bv.extBut _ _ D.TOi1 (tJ.extBut _ _ D.TOz qR)
  refine wpAny_bind (wpAny_seqItems L8 rfl ?_); refine wpAny_bind (wpAny_updateSeq_pair L8 fun h₃ YV DV=>?_)
  refine wpAny_bind (wpAny_letGo (wpAny_pure ?_)); refine wpAny_bind (wpAny_bind (wpAny_onRaise ?_))
  show wpAny _ _ (Builtin.SmallTypes.nextOf (.ref i2) >>= _) _ _ _
  have Ul:HotAt A x1 h₃:=cA uA fun o e=>DV.extBut _ _ nO (Bv.extBut _ _ n1 e)
  refine wpAny_bind (BH Ul (((h2.extBut tJ.extBut D.i2z).extBut Bv.extBut D.i12.symm).extBut DV.extBut D.TOi2.symm) (((En.extBut tJ.extBut D.l2z).extBut Bv.extBut D.l2i1).extBut DV.extBut D.l2TO) hy fun h₄ e VU he=>?_)
  obtain⟨oe,DR,HC⟩:=he; have Vz:IsZip h₄ z TI TO .ellipsis:=VU _ _ D.i2z.symm (DV.extBut _ _ D.TOz.symm (Bv.extBut _ _ D.i1z.symm Nr))
  have SX:e≠z:=fun x=>by subst x; rw[Vz] at DR; cases DR; simp at HC
  exact wpAny_setField_rec Vz (by simp) fun h₅ _ UU=>hE h₅ e (fun c o c1 c2 c3 c4 x=>UU.extBut _ _ c1 (VU _ _ c4 (DV.extBut _ _ c2 (Bv.extBut _ _ c3 (tJ.extBut _ _ c1 x))))) ⟨oe,UU.extBut _ _ SX DR,HC⟩
theorem RW {z TI TO i1 i2 l1 l2 x1:Addr} {k1 k2:Nat} {xs ys:Array Value} {a b:Value} {Q:Option Value→Shared→Prop} (bR:HotAt A x1 s.heap) (D:ZipApart z TI TO i1 i2 l1 l2) (nz:x1≠z) (nO:x1≠TO) (n1:x1≠i1) (n2:x1≠i2)
  (hz:IsZip s.heap z TI TO .none) (pN:IsPair s.heap TI (.ref i1) (.ref i2)) (qR:IsPair s.heap TO a b) (h1:s.heap.IsTupleIter i1 l1 k1) (h2:s.heap.IsTupleIter i2 l2 k2) (Mv:s.heap.IsTuple l1 xs) (En:s.heap.IsTuple l2 ys) (wB:xs[k1]?=none∨ys[k2]?=none)
  (hQ:∀ h',(∀ c o,c≠z→c≠TO→c≠i1→c≠i2→s.heap.get? c=some o→h'.get? c=some o)→Q none { s with heap:=h' }):wpAny (model prog w) A (pyNext (.ref z)) Q E s:=by
 have hT:s.TypeIs (.ref z) "zip":=⟨_,hz,rfl⟩
 unfold pyNext
 refine wpAny_bind (wpAny_attempt (wpAny_callSpecial?_slot (name:=Str.ofString "__next__") hT F.slot_zip_next (wpAny_call_entry F.slot_zip_next hT F.entry_zip_next (RJ bR D nz nO n1 n2 hz pN qR h1 h2 Mv En wB fun h' e hk he=>?_) (F.args_zip_next_1 _))))
 obtain⟨o,ho,hc⟩:=he; exact wpAny_bind (wpAny_isInstance (T:="StopIteration") (b:=true) ⟨o,ho,hc⟩ isSubtype_stop (wpAny_pure (hQ _ hk)))
end
theorem NM {P:Program} {w:World} {K:PySem.W.Frag} {elts:List Expr} {kk:Nat} {tpos:Pos} {a b z TI TO i1 i2:Addr} (D:ZipApart z TI TO i1 i2 a b) :
  L2H.TurnH P w K (.Tuple elts kk tpos) (OI K a b) [z,TI,TO,i1,i2] z (fun i h=>IsZip h z TI TO .none∧IsPair h TI (.ref i1) (.ref i2)∧(∃ x y,IsPair h TO x y)∧h.IsListIter i1 a i∧h.IsListIter i2 b i) where
 mem:=(mJ (P:=P) (w:=w) (K:=K) (elts:=elts) (kk:=kk) (tpos:=tpos) D).mem
 obj:=(mJ (P:=P) (w:=w) (K:=K) (elts:=elts) (kk:=kk) (tpos:=tpos) D).obj
 keep:=(mJ (P:=P) (w:=w) (K:=K) (elts:=elts) (kk:=kk) (tpos:=tpos) D).keep
 self:=(mJ (P:=P) (w:=w) (K:=K) (elts:=elts) (kk:=kk) (tpos:=tpos) D).self
 done:=by
  intro X hP hw hK hc i pins s σ H E I hf st hg
  subst hP hw hK
  obtain⟨hz,pN,⟨x0,y0,qR⟩,h1,h2⟩:=st
  obtain⟨xs,ys,hqx,hqy,wB⟩:=hg
  obtain⟨its,rv,p,_⟩:=I.list hqx; obtain⟨yE,EF,p2,_⟩:=I.list hqy
  have l1:=rv.length; have l2:=EF.length
  have he:its.toArray[i]?=none∨yE.toArray[i]?=none:=by
   rcases wB with q | q
   · exact .inl (by simp; omega)
   · exact .inr (by simp; omega)
  obtain⟨q,⟨hh,v1,e1,c1⟩,hq⟩:=hc
  have P1:=(I.pin q (List.mem_append_left _ hq)).1
  have nq:∀ c∈[z,TI,TO,i1,i2],q.1≠c:=fun c E2 e=>(hf c E2).2.2.2.2.2 q (List.mem_append_left _ hq) e
  exact TU ⟨hh,q.2,v1,P1,e1,c1⟩ D (nq z (by simp)) (nq TO (by simp)) (nq i1 (by simp)) (nq i2 (by simp)) hz pN qR h1 h2 p.isList p2.isList he fun h' hk=>⟨rfl,I.turnedL (t':=s.toks) (ch:=[z,TI,TO,i1,i2]) (fun c o hb q=>hk c o (fun q'=>hb (by simp[q'])) (fun q'=>hb (by simp[q'])) (fun q'=>hb (by simp[q'])) (fun q'=>hb (by simp[q'])) q) hf⟩
 item:=by
  intro X hP hw hK hc i pins s σ H E I hf st hg
  subst hP hw hK
  obtain⟨hz,pN,⟨x0,y0,qR⟩,h1,h2⟩:=st
  obtain⟨xs,ys,x,y,hqx,hqy,hx,hy⟩:=hg
  obtain⟨its,rv,p,_⟩:=I.list hqx
  obtain⟨yE,EF,p2,_⟩:=I.list hqy
  obtain⟨u,hu,ru⟩:=rv.get hx
  obtain⟨u2,hu2,Jg⟩:=EF.get hy
  have lz:=Heap.lt_size hz
  refine wpAny_pyNext_zip_item D hz pN qR h1 h2 p.isList p2.isList (x:=u) (y:=u2) (by simpa using hu) (by simpa using hu2) fun h' z' TO' zm IU hT hsz hk=>⟨_,rfl,wpAny_letOwnedTupleGo_zip (s:={ s with heap:=h' }) z' fun Ai T7 sb=>?_⟩
  have ht:=(sb.2 _ (Nat.ne_of_gt lz)).trans hT
  have nw:ObjOk X.prog X.w (upd H s.heap.objs.size (.frz { cls:=.type "tuple",data:=.seq #[u,u2] } (.tup [x,y]))) Ai s.heap.objs.size (.frz { cls:=.type "tuple",data:=.seq #[u,u2] } (.tup [x,y])) :=
   ⟨ht,by show 2≤sizeLine; decide,_, .cons ru (.cons Jg .nil),⟨_,ht,rfl,_,rfl⟩⟩
  refine⟨.ref s.heap.objs.size,_,I.turnedNew (t':=s.toks) (ch:=[z,TI,TO,i1,i2]) (fun c o hb q=>?_) hf (Nat.le_refl _) nw,rfl,⟨_,_,x,y,rfl,I.hok.fresh (Nat.le_refl _),rfl,rfl,fun l hl=>by rw[I.list_inj hl hqx]; exact hx,fun l hl=>by rw[I.list_inj hl hqy]; exact hy⟩,⟨T7,?_,⟨u,u2,?_⟩,?_,?_⟩,fun c E2=>?_⟩
  · exact (sb.2 c (fun q'=>hb (by simp[q']))).trans (hk c o (fun q'=>hb (by simp[q'])) (fun q'=>hb (by simp[q'])) (fun q'=>hb (by simp[q'])) (fun q'=>hb (by simp[q'])) q)
  · exact (sb.2 _ D.TIz).trans (hk _ _ D.TIz D.TITO D.TIi1 D.TIi2 pN)
  · exact (sb.2 _ D.TOz).trans TO'
  · exact zm.at fun o q=>(sb.2 _ D.i1z).trans q
  · exact IU.at fun o q=>(sb.2 _ D.i2z).trans q
  · rw[upd_ne (Nat.ne_of_lt (by
     have e':c=z∨c=TI∨c=TO∨c=i1∨c=i2:=by simpa using E2
     rcases e' with q | q | q | q | q
     · rw[q]; exact lz
     · rw[q]; exact Heap.lt_size pN
     · rw[q]; exact Heap.lt_size qR
     · rw[q]; obtain⟨_,e1,_⟩:=h1; exact Heap.lt_size e1
     · rw[q]; obtain⟨_,e2,_⟩:=h2; exact Heap.lt_size e2))]
    exact (hf c E2).1
theorem O6 {P:Program} {w:World} {K:PySem.W.Frag} {elts:List Expr} {kk:Nat} {tpos:Pos} {a b z TI TO i1 i2:Addr} (D:ZipApart z TI TO i1 i2 a b) :
  L2H.TurnH P w K (.Tuple elts kk tpos) (Gm K a b) [z,TI,TO,i1,i2] z (fun i h=>IsZip h z TI TO .none∧IsPair h TI (.ref i1) (.ref i2)∧(∃ x y,IsPair h TO x y)∧h.IsTupleIter i1 a i∧h.IsTupleIter i2 b i) where
 mem:=(kB (P:=P) (w:=w) (K:=K) (elts:=elts) (kk:=kk) (tpos:=tpos) D).mem
 obj:=(kB (P:=P) (w:=w) (K:=K) (elts:=elts) (kk:=kk) (tpos:=tpos) D).obj
 keep:=(kB (P:=P) (w:=w) (K:=K) (elts:=elts) (kk:=kk) (tpos:=tpos) D).keep
 self:=(kB (P:=P) (w:=w) (K:=K) (elts:=elts) (kk:=kk) (tpos:=tpos) D).self
 done:=by
  intro X hP hw hK hc i pins s σ H E I hf st hg
  subst hP hw hK
  obtain⟨hz,pN,⟨x0,y0,qR⟩,h1,h2⟩:=st
  obtain⟨xs,ys,hqx,hqy,wB⟩:=hg
  obtain⟨its,rv,p,_⟩:=I.tuple hqx; obtain⟨yE,EF,p2,_⟩:=I.tuple hqy
  have l1:=rv.length; have l2:=EF.length
  have he:its.toArray[i]?=none∨yE.toArray[i]?=none:=by
   rcases wB with q | q
   · exact .inl (by simp; omega)
   · exact .inr (by simp; omega)
  obtain⟨q,⟨hh,v1,e1,c1⟩,hq⟩:=hc
  have P1:=(I.pin q (List.mem_append_left _ hq)).1
  have nq:∀ c∈[z,TI,TO,i1,i2],q.1≠c:=fun c E2 e=>(hf c E2).2.2.2.2.2 q (List.mem_append_left _ hq) e
  exact RW ⟨hh,q.2,v1,P1,e1,c1⟩ D (nq z (by simp)) (nq TO (by simp)) (nq i1 (by simp)) (nq i2 (by simp)) hz pN qR h1 h2 p p2 he fun h' hk=>⟨rfl,I.turnedL (t':=s.toks) (ch:=[z,TI,TO,i1,i2]) (fun c o hb q=>hk c o (fun q'=>hb (by simp[q'])) (fun q'=>hb (by simp[q'])) (fun q'=>hb (by simp[q'])) (fun q'=>hb (by simp[q'])) q) hf⟩
 item:=by
  intro X hP hw hK hc i pins s σ H E I hf st hg
  subst hP hw hK
  obtain⟨hz,pN,⟨x0,y0,qR⟩,h1,h2⟩:=st
  obtain⟨xs,ys,x,y,hqx,hqy,hx,hy⟩:=hg
  obtain⟨its,rv,p,_⟩:=I.tuple hqx
  obtain⟨yE,EF,p2,_⟩:=I.tuple hqy
  obtain⟨u,hu,ru⟩:=rv.get hx
  obtain⟨u2,hu2,Jg⟩:=EF.get hy
  have lz:=Heap.lt_size hz
  refine RZ.pyNext_zipT_item D hz pN qR h1 h2 p p2 (x:=u) (y:=u2) (by simpa using hu) (by simpa using hu2) fun h' z' TO' zm IU hT hsz hk=>⟨_,rfl,wpAny_letOwnedTupleGo_zip (s:={ s with heap:=h' }) z' fun Ai T7 sb=>?_⟩
  have ht:=(sb.2 _ (Nat.ne_of_gt lz)).trans hT
  have nw:ObjOk X.prog X.w (upd H s.heap.objs.size (.frz { cls:=.type "tuple",data:=.seq #[u,u2] } (.tup [x,y]))) Ai s.heap.objs.size (.frz { cls:=.type "tuple",data:=.seq #[u,u2] } (.tup [x,y])) :=
   ⟨ht,by show 2≤sizeLine; decide,_, .cons ru (.cons Jg .nil),⟨_,ht,rfl,_,rfl⟩⟩
  refine⟨.ref s.heap.objs.size,_,I.turnedNew (t':=s.toks) (ch:=[z,TI,TO,i1,i2]) (fun c o hb q=>?_) hf (Nat.le_refl _) nw,rfl,⟨_,_,x,y,rfl,I.hok.fresh (Nat.le_refl _),rfl,rfl,fun l hl=>by rw[I.tuple_inj hl hqx]; exact hx,fun l hl=>by rw[I.tuple_inj hl hqy]; exact hy⟩,⟨T7,?_,⟨u,u2,?_⟩,?_,?_⟩,fun c E2=>?_⟩
  · exact (sb.2 c (fun q'=>hb (by simp[q']))).trans (hk c o (fun q'=>hb (by simp[q'])) (fun q'=>hb (by simp[q'])) (fun q'=>hb (by simp[q'])) (fun q'=>hb (by simp[q'])) q)
  · exact (sb.2 _ D.TIz).trans (hk _ _ D.TIz D.TITO D.TIi1 D.TIi2 pN)
  · exact (sb.2 _ D.TOz).trans TO'
  · exact zm.at fun o q=>(sb.2 _ D.i1z).trans q
  · exact IU.at fun o q=>(sb.2 _ D.i2z).trans q
  · rw[upd_ne (Nat.ne_of_lt (by
     have e':c=z∨c=TI∨c=TO∨c=i1∨c=i2:=by simpa using E2
     rcases e' with q | q | q | q | q
     · rw[q]; exact lz
     · rw[q]; exact Heap.lt_size pN
     · rw[q]; exact Heap.lt_size qR
     · rw[q]; obtain⟨_,e1,_⟩:=h1; exact Heap.lt_size e1
     · rw[q]; obtain⟨_,e2,_⟩:=h2; exact Heap.lt_size e2))]
    exact (hf c E2).1
theorem OH {X:Cx} {e e2:Expr} {ta:TA} {p pos tpos:Pos} {elts:List Expr} {kk:Nat} (hg:Gl X "zip") (hm:X.mg "zip" = none) (ha:PA X [e,e2] ta)
  (hs:starEach [e,e2] X.env=(false,eval e X.env)::starEach [e2] X.env:=by rfl) (hpl:(backTo pos (starEach [e2] X.env)).any (·.1)=false:=by rfl) :
  L2H.PIH X (.Tuple elts kk tpos) (.Call (.Name "zip" p) [e,e2] [] pos) (Lx X.K ta):=by
 refine⟨fun pins s σ H R I h=>Call_ (ld_blt I hg hm PyProof.Rows.boot_zip (PyProof.Rows.callWith_type1 (thn (ha.run pos pins s σ H _ I h) fun us s1 ⟨vs,H1,I1,r1,q1⟩=>?_) hs hpl))⟩
 obtain⟨a,b,xs,ys,rfl,q1⟩:=q1
 obtain⟨u,S8,rfl,rr⟩:∃ u S8,us=u::S8∧Vals [.ref b] S8∧u=.ref a:=by
  cases r1 with
  | cons r rr=>exact⟨_,_,rfl,rr,r⟩
 obtain⟨rr,rfl⟩:=rr
 obtain⟨u2,rfl,r2⟩:=vals1 rr
 cases r2
 have fr:∀ c,c∈[s1.heap.objs.size+4,s1.heap.objs.size+2,s1.heap.objs.size+3,s1.heap.objs.size,s1.heap.objs.size+1]→FpOk X pins H1 c:=fun c hc=>I1.fpOk (vJ hc) (I1.hok.fresh (vJ hc))
 rcases q1 with ⟨hqx,hqy,q⟩ | ⟨hqx,hqy,q⟩
 · obtain⟨_,_,p1,_⟩:=I1.list hqx
   obtain⟨_,_,p2,_⟩:=I1.list hqy
   exact call_zip_2 p1.isList p2.isList fun h' hz pN qR h1 h2 hsz hk=>wpAny_pyIter_zip hz
    ⟨_,_,_,_,H1,rfl,I1.kept (t':=s1.toks) hk,NM (PySem.W.ktu_apart s1.heap.objs.size a b p1.lt p2.lt),⟨hz,pN,⟨_,_,qR⟩,h1,h2⟩,fr,q⟩
 · obtain⟨_,_,p1,_⟩:=I1.tuple hqx
   obtain⟨_,_,p2,_⟩:=I1.tuple hqy
   obtain⟨o1,ZO,_⟩:=id p1
   obtain⟨o2,Yq,_⟩:=id p2
   exact RZ.call_zipT p1 p2 fun h' hz pN qR h1 h2 hsz hk=>wpAny_pyIter_zip hz
    ⟨_,_,_,_,H1,rfl,I1.kept (t':=s1.toks) hk,O6 (PySem.W.ktu_apart s1.heap.objs.size a b (Heap.lt_size ZO) (Heap.lt_size Yq)),⟨hz,pN,⟨_,_,qR⟩,h1,h2⟩,fr,q⟩
end Z
namespace Z
open PySem PySem.Spec PyProof.Rows L2 HotX L2H
abbrev mu (X:Cx) (s:Shared) (H:Hp) (scope:Scope) (ce:Env) (fp:List Addr):Cx:={ X.blk s H scope ce fp with pn:=X.pn }
theorem VS {X:Cx} {pn:List (Addr×Obj)} (h:X.Ok):({ X with pn:=pn }:Cx).Ok :=
 ⟨h.mod,h.kind,h.glob,h.blt,h.above,h.inj,h.has,h.cab,h.hd,h.frames,h.stk,h.exf,h.bs,h.bsz,h.noex,h.exfs,h.funs,h.frf⟩
theorem Tp {X:Cx} {pn pins:List (Addr×Obj)} {σ:L2.St} {H:Hp} {s:Shared} (I:Inv X pins σ H s)
  (h:∀ p∈pn++pins,s.heap.get? p.1=some p.2∧H p.1=none∧p.1≠X.env.locals∧p.1∉X.fs∧∀ v,p.2.data≠.cell v):Inv ({ X with pn:=pn }:Cx) pins σ H s :=
 ⟨VS I.ok,I.os,I.bare,I.base,I.loc,I.cell,I.free,I.freeC,h,I.hok,I.len⟩
section
variable {X:Cx} {pins:List (Addr×Obj)} {s:Shared} {σ:L2.St} {H:Hp} {Q:VK} {elt tg iter:Expr} {ifs:List Expr} {scope:Scope} {own:List (Str×Nat)} {pos pos':Pos} {wi:TI} {g:TG} {tt:TT} {te:TE}
theorem RN (hc:HotC X) (hN:X.N.Nodup) (I:Inv X pins σ H s) (hi:PIH X tg iter wi) (ok:BlkOk X.N X.env.scope scope own)
  (hg:∀ (s:Shared) (H:Hp) (C:Addr) (cl:List (Str×Addr)) (fp:List Addr),PG (mu X s H scope (compEnvC scope cl C X.env) fp) tg g) (ht:∀ (s:Shared) (H:Hp) (C:Addr) (cl:List (Str×Addr)) (fp:List Addr),PTs (mu X s H scope (compEnvC scope cl C X.env) fp) ifs tt)
  (he:∀ (s:Shared) (H:Hp) (C:Addr) (cl:List (Str×Addr)) (fp:List Addr),PE (mu X s H scope (compEnvC scope cl C X.env) fp) elt te) (hs:∀ x,foldedSetIterable iter X.env x=pure x)
  (h:tLc wi g tt te (own.map (·.2)) σ H Q) :
  wpAny (model X.prog X.w) X.A (comprehension (.ListComp elt [⟨tg,iter,ifs,0⟩] scope pos) scope X.env pos' (newList []) false (eval iter X.env) none) (EP X pins σ Q) X.xe s:=by
 have free:∀ y∈scope.names,y.2=.free→∃ c,X.env.cells.lookup y.1=some c:=fun y hy e=>(ok.free y hy e).elim (fun k=>I.ok.has _ (.inl k)) fun k=>I.ok.has _ (.inr k)
 refine wpAny_comprehension_free (use:=none) rfl hs (closure_ok free) ok.kind (fun y hy e=>by rw[ok.uniq y hy,e]) (thn (hi.run pins s σ H _ I h) fun xv s1 hx=>thn hx fun itv s2 h2=>?_)
 obtain⟨it,fp,tn,J,H2,rfl,I2,T,st2,f2,q⟩:=h2
 refine wpAny_newObj_type (newEnv_comp ?_) (by show 0≤sizeLine; decide)
 generalize hD:s2.heap.objs.size=D
 have freshD:H2 D=none:=I2.hok.fresh (Nat.le_of_eq hD)
 obtain⟨W,⟨m0,w0⟩,turn⟩:=q D freshD
 generalize es3:({ s2 with heap:=s2.heap.push { cls:=.type "list",data:=.seq ([]:List Value).toArray } }:Shared)=s3
 have up3:∀ b o,s2.heap.get? b=some o→s3.heap.get? b=some o:=fun b o e=>by rw[← es3]; exact Heap.get?_push_of_some _ e
 have sz3:s3.heap.objs.size=s2.heap.objs.size+1:=by rw[← es3]; exact Heap.size_push ..
 have I3:Inv X pins σ (upd H2 D (.lst [])) s3:=by
  rw[← es3]
  refine I2.laid (t':=s2.toks) (fun b o e=>Heap.get?_push_of_some _ e) (Nat.le_of_eq hD) ⟨Nat.zero_le _,[],0, .nil,?_⟩
  rw[← hD]; exact Heap.get?_push_size _ rfl
 have f3:∀ b∈fp,FpOk X pins (upd H2 D (.lst [])) b∧b < s3.heap.objs.size:=fun b hb=>by
  obtain⟨o,e,_⟩:=T.obj _ _ st2 b hb
  have kO:=Heap.lt_size e
  exact⟨⟨by rw[upd_ne (by rw[← hD]; exact Nat.ne_of_lt kO)]; exact (f2 b hb).1,(f2 b hb).2⟩,by rw[sz3]; exact Nat.lt_succ_of_lt kO⟩
 have st3:tn 0 s3.heap:=T.keep _ _ _ st2 fun b _ o e=>up3 b o e
 have I4:=block_start I3 ok hN f3
 have pg:=hg s3 (upd H2 D (.lst [])) s3.heap.objs.size (cellsFrom (s3.heap.objs.size+1) scope.names (cloFrom X.env.cells scope.names [])) fp
 have pt:=ht s3 (upd H2 D (.lst [])) s3.heap.objs.size (cellsFrom (s3.heap.objs.size+1) scope.names (cloFrom X.env.cells scope.names [])) fp
 have pe:=he s3 (upd H2 D (.lst [])) s3.heap.objs.size (cellsFrom (s3.heap.objs.size+1) scope.names (cloFrom X.env.cells scope.names [])) fp
 show codeAny _ _ (.compStart (.ListComp elt [⟨tg,iter,ifs,0⟩] scope pos) 0 (.ref it) (.ref D) (compEnvC scope (cellsFrom (s3.heap.objs.size+1) scope.names (cloFrom X.env.cells scope.names [])) s3.heap.objs.size X.env)) (compPost (model X.prog X.w) X.A X.xe none (EP X pins σ Q) (.ref D) s3.heap.objs.size) { s3 with heap:=pushCells (s3.heap.push { cls:=.type "dict",data:=.dict #[] }) scope.names }
 generalize ece:compEnvC scope (cellsFrom (s3.heap.objs.size+1) scope.names (cloFrom X.env.cells scope.names [])) s3.heap.objs.size X.env=ce at I4 pg pt pe ⊢
 have cL:ce.locals=s3.heap.objs.size:=by subst ece; rfl
 generalize eH3:upd H2 D (.lst [])=H3 at I3 I4 pg pt pe w0 f3
 generalize es4:({ s3 with heap:=pushCells (s3.heap.push { cls:=.type "dict",data:=.dict #[] }) scope.names }:Shared)=s4 at I4 ⊢
 have Z4:∀ b o,s3.heap.get? b=some o→s4.heap.get? b=some o:=fun b o e=>by rw[← es4]; exact pushCells_keeps _ _ _ _ (Heap.get?_push_of_some _ e)
 have st4:tn 0 s4.heap:=T.keep _ _ _ st3 fun b _ o e=>Z4 b o e
 have I5:Inv (mu X s3 H3 scope ce fp) [] (wipe σ (own.map (·.2))) H3 s4:=Tp I4 fun p hp=>by
  have P1:=I3.pin p (List.mem_append_left _ (by simpa using hp))
  exact⟨Z4 _ _ P1.1,P1.2.1,by show p.1≠ce.locals; rw[cL]; exact Nat.ne_of_lt (Heap.lt_size P1.1),fun hm=>(List.mem_cons.mp (I3.stkSub p.1 hm)).elim P1.2.2.1 P1.2.2.2.1,P1.2.2.2.2⟩
 have Tv:HotC (mu X s3 H3 scope ce fp):=hc
 have stat:∀ {σ':L2.St} {H':Hp} {s':Shared},Inv (mu X s3 H3 scope ce fp) [] σ' H' s'→(∀ b∈fp,H' b=none)→∀ b∈fp,FpOk (mu X s3 H3 scope ce fp) [] H' b:=fun {σ' H' s'} I' hn b hb =>
  ⟨hn b hb,(I'.ok.exf b hb).1,I'.ok.exfs b hb, .inl hb,fun x c e=>(I'.ok.exf b hb).2 x c e,fun p hp=>(f3 b hb).1.2.2.2.2.2 p (List.mem_append_left _ (by simpa using hp))⟩
 have lr:codeAny (model X.prog X.w) X.A (.compLoop (.ListComp elt [⟨tg,iter,ifs,0⟩] scope pos) 0 (.ref it) (.ref D) ce) (compPost (model X.prog X.w) X.A X.xe none (EP X pins σ Q) (.ref D) s3.heap.objs.size) s4:=by
  refine compLoop_any (fun n s'=>∃ i H',Inv (mu X s3 H3 scope ce fp) [] (wipe σ (own.map (·.2))) H' s'∧tn i s'.heap∧(∀ b∈fp,H' b=none)∧W i n H') ?_ m0 ⟨0,H3,I5,st4,fun b hb=>(f3 b hb).1.1,w0⟩
  rintro n s5 ⟨i,H5,I5,st5,n5,w5⟩
  rcases turn i n H5 w5 with ⟨stop,qq⟩ | ⟨go,Nx,hNx,step⟩
  · refine thnF (T.done (mu X s3 H3 scope ce fp) rfl rfl rfl Tv i [] s5 _ H5 (fun _ _=>False) I5 (stat I5 n5) st5 stop) fun r s6 ⟨hr,I6⟩=>?_
    subst hr
    have I7:Inv X pins σ H5 s6:=I3.call' (ch:=fp) I6.os I6.base I6.hok I6.bare fun b hb=>⟨(f3 b hb).1.2.2.2.1,(f3 b hb).1.2.1,(f3 b hb).1.2.2.2.2.1,(f3 b hb).1.2.2.2.2.2⟩
    have nC:H5 s3.heap.objs.size=none:=by have z:H5 ce.locals=none:=I6.free; rw[cL] at z; exact z
    obtain⟨m,hn,_⟩:=I6.loc
    have hn:s6.heap.Ns ce.locals m:=hn
    rw[cL] at hn
    obtain⟨f0,f1,f2,f3,f4,f5⟩:=I3.fpOk (Nat.le_refl _) nC
    exact⟨m,hn,fun Ai sb=>⟨.ref D,H5,I7.turned (t':=s6.toks) (fun b o hb e=>(sb.2 b hb).trans e) f0 f1 f3 f4 f5,rfl,qq⟩⟩
  · refine thnF (T.item (mu X s3 H3 scope ce fp) rfl rfl rfl Tv i [] s5 _ H5 (fun _ _=>False) I5 (stat I5 n5) st5 go) fun r s6 ⟨u,hr,h6⟩=>?_
    subst hr
    refine thnF h6 fun _ s7 ⟨x,H7,I7,r7,y7,st7,n7⟩=>?_
    refine thnF (pg.run _ s7 _ H7 x u _ (I7.pinned (stat I7 n7) (T.obj _ _ st7)) r7 (step x H7 y7)) fun _ s8 ⟨σ8,H8,I8,hw8,q8⟩=>?_
    refine thnF (pt.run _ s8 σ8 H8 _ I8 q8) fun b s9 ⟨H9,I9,q9⟩=>?_
    have fin:∀ {s':Shared} {H':Hp},Inv (mu X s3 H3 scope ce fp) ([]++pinsAt fp s7.heap) σ8 H' s'→Nx H'→∃ m,m < n∧∃ i H',Inv (mu X s3 H3 scope ce fp) [] (wipe σ (own.map (·.2))) H' s'∧tn i s'.heap∧(∀ b∈fp,H' b=none)∧W i m H':=fun {s' H'} I' nx=>by
     obtain⟨m',hm,w'⟩:=hNx H' nx
     have U8:∀ b∈fp,∀ o,s7.heap.get? b=some o→s'.heap.get? b=some o∧H' b=none:=fun b hb o e =>
      ⟨(I'.pin (b,o) (List.mem_append_right _ (List.mem_append_right _ (mem_pinsAt hb e)))).1,(I'.pin (b,o) (List.mem_append_right _ (List.mem_append_right _ (mem_pinsAt hb e)))).2.1⟩
     refine⟨m',hm,i+1,H',(I'.unpinned (pins:=[])).weak (by rw[← hw8,wipe_length]) (fun j v e=>?_),T.keep _ _ _ st7 fun b hb o e=>(U8 b hb o e).1,fun b hb=>?_,w'⟩
     · rw[← hw8] at e; exact (wipe_some e).1
     · obtain⟨o,e,_⟩:=T.obj _ _ st7 b hb
       exact (U8 b hb o e).2
    cases b with
    | false=>exact fin I9 (by simpa using q9)
    | true =>
     simp only[if_true] at q9 ⊢
     exact thnF (pe.run _ s9 σ8 H9 _ I9 q9) fun z s10 ⟨yv,H10,I10,r10,acc,hD10,hz10,nx⟩=>app_ok (X:=mu X s3 H3 scope ce fp) I10 hD10 hz10 r10 fun s11 I11=>fin I11 nx
 exact codeAny_compStart_list lr (T.self X.A 0 _ _ _ st4 lr)
theorem JC (hc:HotC X) (hN:X.N.Nodup) (hi:PIH X tg iter wi) (ok:BlkOk X.N X.env.scope scope own)
  (hg:∀ (s:Shared) (H:Hp) (C:Addr) (cl:List (Str×Addr)) (fp:List Addr),PG (mu X s H scope (compEnvC scope cl C X.env) fp) tg g) (ht:∀ (s:Shared) (H:Hp) (C:Addr) (cl:List (Str×Addr)) (fp:List Addr),PTs (mu X s H scope (compEnvC scope cl C X.env) fp) ifs tt)
  (he:∀ (s:Shared) (H:Hp) (C:Addr) (cl:List (Str×Addr)) (fp:List Addr),PE (mu X s H scope (compEnvC scope cl C X.env) fp) elt te) (hs:∀ x,foldedSetIterable iter X.env x=pure x:=by intro _; rfl) :
  PE X (.ListComp elt [⟨tg,iter,ifs,0⟩] scope pos) (tLc wi g tt te (own.map (·.2))):=by
 refine⟨fun pins s σ H Q I h=>?_⟩
 rw[eval_ListComp]
 exact RN hc hN I hi ok hg ht he hs h
theorem pT {es:List Expr} {k:Nat} {t:TGs} {n:Nat} (hc:HotC X) (h:PGs X es t) (hn:(assignEach es X.env).length=n:=by rfl) (hst:(assignEach es X.env).findIdx? (·.1)=none:=by rfl):PG X (.Tuple es k pos) (gTup X.K n t):=by
 refine⟨fun pins s σ H v u Q I r hw=>?_⟩
 obtain⟨a,xs,rfl,hq,hl,hw⟩:=hw
 cases r
 obtain⟨its,rv,ht,hz⟩:=I.tuple hq
 obtain⟨x1,bR⟩:=hc.at I
 rw[assign_Tuple]
 refine wpAny_bind (wpAny_standAt (J9 bR ht (by simp[hn,← hl,rv.length]) hst fun h' hx=>?_))
 exact h.run pins _ σ H xs _ Q (I.kept (t':=s.toks) fun b o e=>hx b o (Nat.ne_of_lt (Heap.lt_size e)) e) (by simpa using rv) hw
theorem Ae {prog:Program} {w:World} {A:Around} {x1 I ax:Addr} (h1:x1≠I) (fe:ax≠I) (items:Array Value) :
  Walks prog w A I [I,ax,x1] [I] items.size (fun i v=>items[i]?=some v) (fun i h=>(h.IsListIter I ax i∧h.IsList ax items)∧HotAt A x1 h) where
 sub:=fun b hb=>by simp at hb; simp[hb]
 frame:=fun _ _ _ st hk=>⟨⟨st.1.1.at fun o e=>hk I (by simp) o e,st.1.2.at fun o e=>hk ax (by simp) o e⟩,cA st.2 fun o e=>hk x1 (by simp) o e⟩
 item:=fun i s Q E hi st hQ=>by
  refine wpAny_pyNext_list_item st.1.1 st.1.2 (x:=items[i]) (by simp[hi]) fun h' uC nX=>?_
  exact hQ _ h' s.toks (by simp[hi]) ⟨⟨uC,st.1.2.extBut nX.extBut fe⟩,cA st.2 fun o e=>nX.extBut _ _ h1 e⟩ fun b o hb e=>nX.extBut b o (fun h=>hb (by simp[h])) e
 done:=fun s Q E st hQ=>Gv st.2 st.1.1 st.1.2 (by simp) fun h' Fg=>hQ h' s.toks fun b o hb e=>Fg b o (fun h=>hb (by simp[h])) e
 self:=fun _ _ _ _ st hQ=>wpAny_pyIter_listiter st.1.1 hQ
theorem OA (hc:HotC X):CallR X (.builtin "all") (rAll X.K):=by
 intro pins s σ H vs us Q I r h
 obtain⟨a,bs,rfl,hs,q⟩:=h
 obtain⟨its,rv,hl,_⟩:=I.list hs
 obtain⟨x1,bR⟩:=hc.at I
 rw[Vals.ref1 r]
 have hb:=rv.bls
 have hx:x1≠s.heap.objs.size:=by obtain⟨_,o,_,e,_⟩:=bR; exact Nat.ne_of_lt (Heap.lt_size e)
 refine call_all_walk (iter_any hl.isList fun s₂ e2 st fe=>?_)
 subst e2
 refine⟨_,_,_,_,_,_,_,rfl,Ae (A:=X.A.in1) hx fe its.toArray,⟨st,cA bR fun o e=>Heap.get?_push_of_some _ e⟩,truth_bools hb,fun h' tk hk=>⟨.bl _,H,I.kept fun b o eo=>hk b o (fun hm=>?_) (Heap.get?_push_of_some _ eo),?_,q⟩⟩
 · rw[List.mem_singleton] at hm; subst hm; exact absurd (Heap.lt_size eo) (Nat.lt_irrefl _)
 · show Value.bool _=Value.bool _
   rw[← L2.all_range,hb,List.size_toArray,List.length_map]
end
end Z
namespace Z
open PySem PySem.Spec PyProof.Rows L2 L2H
abbrev Ak (X:Cx) (scope:Scope):Cx→Prop:=fun B=>∃ (s:Shared) (H:Hp) (Cc:Addr) (cl:List (Str×Addr)) (fp:List Addr),B=mu X s H scope (compEnvC scope cl Cc X.env) fp
def EBH (X:Cx) (scope:Scope) (e:Expr):TE:=fun σ H Q=>∀ B,Ak X scope B→ED B e σ H Q
theorem DU {X:Cx} {scope:Scope} (s:Shared) (H:Hp) (Cc:Addr) (cl:List (Str×Addr)) (fp:List Addr):Ak X scope (mu X s H scope (compEnvC scope cl Cc X.env) fp):=⟨s,H,Cc,cl,fp,rfl⟩
theorem QW {X:Cx} {scope:Scope} {e:Expr} (s:Shared) (H:Hp) (Cc:Addr) (cl:List (Str×Addr)) (fp:List Addr):PE (mu X s H scope (compEnvC scope cl Cc X.env) fp) e (EBH X scope e):=⟨fun pins s' σ H' Q I h=>h _ (DU s H Cc cl fp) pins s' I⟩
theorem Mc {X B:Cx} {scope:Scope} (h:Ak X scope B):qd B=qd X:=by obtain⟨_,_,_,_,_,rfl⟩:=h; rfl
section
variable {C:Kx} {a b c e tg iter elt:Expr} {es rest:List Expr} {pos pos' p:Pos} {x:Str} {m me:M} {ma:MA} {t:MT} {ms:MI} {K:Fr} {g:TG} {eff:oF} {js vs:List Nat} {wi:TI} {scope:Scope} {own:List (Str×Nat)}
def Sy (C:Kx) (scope:Scope) (m:M) (e:Expr):Prop:=∀ B:Kx,Ak C.X scope B.X→Ej B m e
theorem Gk {m:M} (h:Sy C scope m elt):∀ (G:Hp) sl S σ F R H,SlR C.K C.px F R σ sl→bQ C.K G F R S H→∀ d S1,m sl S=.ok d S1→∀ Q:VK,(∀ v F' R' H',aP C.K F' R' v d→bQ C.K G F' R' S1 H'→Same F F'→R <+: R'→Q v H')→EBH C.X scope elt σ H Q:=by
 intro G sl S σ F R H hs hr d S1 em Q k BX hB
 have hK:=Mc hB
 refine h ⟨BX,fun _ _ _ _=>False,ny,G,C.px⟩ hB sl S σ F R H (by show SlR (qd BX) C.px F R σ sl; rw[hK]; exact hs) (by show bQ (qd BX) G F R S H; rw[hK]; exact hr) Q ?_
 rw[em]
 intro v F' R' H' h1 h2 h3 h4
 exact k v F' R' H' (by have z:aP (qd BX) F' R' v d:=h1; rw[hK] at z; exact z) (by have z:bQ (qd BX) G F' R' S1 H':=h2; rw[hK] at z; exact z) h3 h4
def Ve (C:Kx) (scope:Scope) (tg:Expr) (g:TG):Prop:=∀ (s:Shared) (H:Hp) (Cc:Addr) (cl:List (Str×Addr)) (fp:List Addr),PG (mu C.X s H scope (compEnvC scope cl Cc C.X.env) fp) tg g
theorem tD (hc:HotC C.X) (hN:C.X.N.Nodup) (hi:PIH C.X tg iter wi) (oU:my C wi ms) (ok:BlkOk C.X.N C.X.env.scope scope own) (hg:Ve C scope tg g) (ho:Il C.K g eff js) (hj:∀ j∈js,j∈own.map (·.2)) (he:Sy C scope me elt)
  (hf:∀ x,foldedSetIterable iter C.X.env x=pure x:=by intro _; rfl):Ej C (wH ms eff iY me (own.map (·.2))) (.ListComp elt [⟨tg,iter,[],0⟩] scope pos):=.mk fun sl S σ F R H hs hr Q post =>
 ED.of (JC hc hN hi ok hg (fun _ _ _ _ _=>pts_nil) (fun s H Cc cl fp=>QW s H Cc cl fp) hf) (vZ hs hr oU ho hj ⟨fun G sl S σ F R H hs hr b S1 e Q k=>by cases e; exact k F R H hr (Same.refl _) aI,Gk he⟩ post)
theorem Bf (hc:HotC C.X) (hm:C.X.mg "all" = none) (h:Aj C ma (e::es)) (hg:Gl C.X "all":=by rfl) (he:Se C e es:=by exact bO rfl) (hpl:Pl C es pos:=by exact de rfl):Ej C (eF qH ma) (.Call (.Name "all" p) (e::es) [] pos):=gx (OA hc) KA hm (by decide +kernel) h hg (he:=he) (hpl:=hpl)
end
def sP (P:Program) (w:World) (K:PySem.W.Frag) (mg:Str→Option Value) (base:Heap) (k:Nat) (x:Str) (ps:List Str) (f:Fn):Prop :=
 ∃ fd,FnH P w K mg base (L2N.CX P w) k (He.ga K x) fd ps (FA ⟨K,P,w⟩ ps.length f)∧Binds K fd ps []∧PySem.W.keepIn K (.ref (He.ga K x))=true∧mg x=some (.ref (He.ga K x))
abbrev Vd (P:Program) (w:World) (K:PySem.W.Frag) (mg:Str→Option Value) (base:Heap) (N:List Str) (qual:Str) (sc:Scope) (f:Addr) (cdv:Value) (A:Around) (outer:List Env) (s:Shared) (H:Hp) (E:XK) (p:Addr×Obj) (G:Hp):Kx :=
 ⟨cxH (L2N.CX P w) P w K mg base N qual sc f cdv A outer s H E p,fun cls d _ H=>E cls d H,L2N.takes_of rfl rfl rfl rfl,G,A3.nil⟩
theorem eS {P:Program} {w:World} {K:PySem.W.Frag} {mg:Str→Option Value} {base:Heap} {k:Nat} {x:Str} {N ps:List Str} {st:Stmt} {b:MS} (D:bX K mg x st) (S:FnScope N ps (defScope st)) (hb:aQ x ps st)
  (body:∀ (cdv:Value) (A:Around) (outer:List Env) (s:Shared) (H:Hp) (E:XK) (p:Addr×Obj) (G:Hp),Hot1 A p→RoomH k (A.deeper (envOfC x (defScope st) s.heap.objs.size (He.ga K x) cdv))→Sj (Vd P w K mg base N x (defScope st) (He.ga K x) cdv A outer s H E p G) b (defBody st)):sP P w K mg base (k+1) x ps (runB N.length b):=by
 obtain⟨⟨fd,Fu⟩,hm⟩:=D
 refine⟨fd,?_,Fu.bindsN hb,Fu.kp,hm⟩
 obtain⟨oc,od,dV,kV,doc,pm,an,cdv,ct,osl,rfl,lk,pY,_,_⟩:=Fu.ex
 refine fn_ofH lk pY S (fun vs H Q E h=>h.1) fun A outer s H vs Q E p bR hr h=>?_
 obtain⟨hl,G,F,R,S0,ds,rep,rx,post⟩:=h
 refine⟨_,rX,body cdv A outer s H E p G bR hr _ S0 _ F R H (wn rx) rep _ ?_⟩
 unfold runB at post
 cases tZ:b (yV N.length ds) S0 with
 | nx sl S' =>
  rw[tZ] at post
  exact fun σ' F' R' H' _ h2 h3 h4=>post .non F' R' H' (show aP ⟨K,P,w⟩ F' R' .non (.p .non) from .non) h2 h3 h4
 | rt d S'=>rw[tZ] at post; exact post
 | exc x sl S' =>
  rw[tZ] at post
  exact fun cls d σ' F' R' H' h0 _ h2 h3 h4=>post cls d F' R' H' h0 h2 h3 h4
 | bk sl S'=>rw[tZ] at post; exact post.elim
 | ct sl S'=>rw[tZ] at post; exact post.elim
 | no=>rw[tZ] at post; exact post.elim
section
variable {C:Kx} {e:Expr} {es:List Expr} {pos p:Pos} {x:Str} {ma:MA} {f:Fn} {k:Nat} {ps:List Str}
theorem bz (hF:sP C.X.prog C.X.w C.X.K C.X.mg C.X.base k x ps f) (hr:RoomH k C.X.A) (hc:HotC C.X) (h:Aj C ma (e::es)) (hg:Gl C.X x:=by rfl) (mD:(x == ("__debug__" : Str))=false:=by decide) (he:starEach (e::es) C.X.env=(false,eval e C.X.env)::starEach es C.X.env:=by exact bO rfl) (hpl:(backTo pos (starEach es C.X.env)).any (·.1)=false:=by exact de rfl) :
  Ej C (aw ps.length f ma) (.Call (.Name x p) (e::es) [] pos):=.mk fun sl S σ F R H hs hr' Q post=>by
 obtain⟨fd,h1,h2,h3,h4⟩:=hF
 refine ED.of (pe_callH h1 hr hc hg h4 h3 h2 (fun σ=>L2N.passAt C.tk σ) eY mD he hpl) (h sl S σ F R H hs hr' _ (aK.bind post fun ds S1 vs F1 R1 H1 _ rx rep1 s1 r1 ah=>?_))
 by_cases hl:ds.length=ps.length
 · rw[if_pos hl] at ah
   exact⟨by rw[rx.length]; exact hl,C.G,F1,R1,S1,ds,rep1,rx,lC ah⟩
 · rw[if_neg hl] at ah; exact ah.elim
end
theorem aX {A A':Around} {p:Addr×Obj} (h:Hot1 A p) (e:A'.handled=A.handled):Hot1 A' p:=⟨e.trans h.1,h.2⟩
structure T9 (P:Program) (w:World) (K:PySem.W.Frag) (mg:Str→Option Value) (base:Heap) (k:Nat) (x a a2:Str) (st:Stmt) (Ng:List Str) (b:Th→Nat→MS):Prop where
 at_:bX K mg x st
 sc:FnScope Ng [a,a2] (defScope st)
 bi:aQ x [a,a2] st
 n0:Ng[0]?=some a
 vi:Vis (defScope st) a
 db:(a == ("__debug__" : Str))=false
 cd:(a == ("__classdict__" : Str))=false
 run:∀ (cdv:Value) (A:Around) (outer:List Env) (s:Shared) (H:Hp) (E:XK) (G:Hp) (th:Th) (kk:Nat) (px:A3),Room k (A.deeper (envOfC x (defScope st) s.heap.objs.size (He.ga K x) cdv)) →
  (∀ (W:WX) (pn:List (Addr×Obj)) (xe:Value→Shared→Prop) (tk:L2N.Takes ((cxOf (L2N.CX P w) P w K mg base Ng x (defScope st) (He.ga K x) cdv A outer s H E).tr pn xe) W) (p1 p2:Pos),
   Ej ⟨(cxOf (L2N.CX P w) P w K mg base Ng x (defScope st) (He.ga K x) cdv A outer s H E).tr pn xe,W,tk,G,px⟩ (Jz th kk) (.Call (.Name a p1) [] [] p2)) →
  Sj ⟨cxOf (L2N.CX P w) P w K mg base Ng x (defScope st) (He.ga K x) cdv A outer s H E,fun cls d _ H=>E cls d H,L2N.takes_of rfl rfl rfl rfl,G,px⟩ (b th kk) (defBody st)
section
variable {C:Kx} {k i:Nat} {x a a2 y:Str} {st:Stmt} {Ng:List Str} {b:Th→Nat→MS} {m m2:M} {params:Arguments} {body e2:Expr} {scope:Scope} {p lpos pos:Pos}
theorem T9.mono {P:Program} {w:World} {K:PySem.W.Frag} {mg:Str→Option Value} {base:Heap} {j k:Nat} {x a a2:Str} {st:Stmt} {Ng:List Str} {b:Th→Nat→MS} (o:T9 P w K mg base j x a a2 st Ng b) (h:j≤k):T9 P w K mg base k x a a2 st Ng b :=
 ⟨o.at_,o.sc,o.bi,o.n0,o.vi,o.db,o.cd,fun cdv A outer s H E G th kk px hr hc=>o.run cdv A outer s H E G th kk px (hr.mono h) hc⟩
end
end Z
namespace Z
open PySem PySem.Spec PyProof.Rows L2 HotX
section
variable {prog:Program} {w:World} {A:Around} {E:Value→Shared→Prop} {s:Shared}
theorem N7 {it x1:Addr} {x:Str} {t:Tok} {i:Nat} {Q:Option Value→Shared→Prop} (bR:HotAt A x1 s.heap) (hit:s.heap.IsStrIter it "str_ascii_iterator" x t i) (hx:x.cps[i]?=none)
  (hQ:∀ h',Heap.ExtBut it s.heap h'→Q none { s with heap:=h' }):wpAny (model prog w) A (pyNext (.ref it)) Q E s:=by
 obtain⟨o,ho,hc,hd⟩:=id hit
 have fe:=mZ bR ho hd
 unfold pyNext
 refine wpAny_bind (wpAny_attempt (wpAny_callSpecial?_slot (name:=Str.ofString "__next__") hit.typeIs F.slot_str_ascii_iterator_next
  (wpAny_call_entry F.slot_str_ascii_iterator_next hit.typeIs F.entry_str_ascii_iterator_next ?_ (F.args_str_ascii_iterator_next_1 _))))
 show wpAny _ _ (field (.ref it) 0 >>= _) _ _ s
 refine wpAny_bind (wpAny_field ho hd (x:=.str x t) rfl ?_)
 show wpAny _ _ (field (.ref it) 1 >>= _) _ _ s
 refine wpAny_bind (wpAny_field ho hd (x:=.int i 0) rfl ?_)
 simp only[Int.toNat_natCast,hx]
 refine wpAny_bind (wpAny_rule (wpAny_bind (wpAny_setField ho hd (by simp) (wpAny_bind (wpAny_letGo ?_)))))
 show wpAny _ _ (newExc (.type "StopIteration") [] >>= _) _ _ _
 refine mF (cA bR fun o e=>fT _ _ fe e) fun h' e k he=>?_
 obtain⟨oe,h1,h2⟩:=he
 exact wpAny_bind (wpAny_isInstance (T:="StopIteration") (b:=true) ⟨oe,h1,h2⟩ isSubtype_stop (wpAny_pure (hQ _ fun b o hb e=>k b o (fT b o hb e))))
theorem O9 {it x1:Addr} {x:Str} {t:Tok} {i:Nat} {Q:Option Value→Shared→Prop} (bR:HotAt A x1 s.heap) (hit:s.heap.IsStrIter it "str_iterator" x t i) (hx:x.cps[i]?=none)
  (hQ:∀ h',Heap.ExtBut it s.heap h'→Q none { s with heap:=h' }):wpAny (model prog w) A (pyNext (.ref it)) Q E s:=by
 obtain⟨o,ho,hc,hd⟩:=id hit
 have fe:=mZ bR ho hd
 unfold pyNext
 refine wpAny_bind (wpAny_attempt (wpAny_callSpecial?_slot (name:=Str.ofString "__next__") hit.typeIs F.slot_str_iterator_next
  (wpAny_call_entry F.slot_str_iterator_next hit.typeIs F.entry_str_iterator_next ?_ (F.args_str_iterator_next_1 _))))
 show wpAny _ _ (field (.ref it) 0 >>= _) _ _ s
 refine wpAny_bind (wpAny_field ho hd (x:=.str x t) rfl ?_)
 show wpAny _ _ (field (.ref it) 1 >>= _) _ _ s
 refine wpAny_bind (wpAny_field ho hd (x:=.int i 0) rfl ?_)
 simp only[Int.toNat_natCast,hx]
 refine wpAny_bind (wpAny_rule (wpAny_bind (wpAny_setField ho hd (by simp) (wpAny_bind (wpAny_letGo ?_)))))
 show wpAny _ _ (newExc (.type "StopIteration") [] >>= _) _ _ _
 refine mF (cA bR fun o e=>fT _ _ fe e) fun h' e k he=>?_
 obtain⟨oe,h1,h2⟩:=he
 exact wpAny_bind (wpAny_isInstance (T:="StopIteration") (b:=true) ⟨oe,h1,h2⟩ isSubtype_stop (wpAny_pure (hQ _ fun b o hb e=>k b o (fT b o hb e))))
end
theorem FI {P:Program} {w:World} {K:PySem.W.Frag} {tg:Expr} (a it:Addr):L2H.TurnH P w K tg (Itl K a) [it] it (fun i h=>h.IsListIter it a i) where
 mem:=(turn_list (P:=P) (w:=w) (K:=K) (tg:=tg) a it).mem
 obj:=(turn_list (P:=P) (w:=w) (K:=K) (tg:=tg) a it).obj
 keep:=(turn_list (P:=P) (w:=w) (K:=K) (tg:=tg) a it).keep
 self:=(turn_list (P:=P) (w:=w) (K:=K) (tg:=tg) a it).self
 item:=by
  intro X hP hw hK hc i pins s σ H E I hf st hg
  subst hP hw hK
  obtain⟨xs,x,hq,hx⟩:=hg
  obtain⟨its,rv,p,hz⟩:=I.list hq
  obtain⟨u,hu,ru⟩:=rv.get hx
  obtain⟨f0,f1,f2,f3,f4,f5⟩:=hf it (by simp)
  refine wpAny_pyNext_list_item st p.isList (x:=u) (by simpa using hu) fun h' st' sb=>?_
  have I1:Inv X pins σ H { s with heap:=h' }:=I.turned (t':=s.toks) (fun b o hb e=>(sb.2 b hb).trans e) f0 f1 f3 f4 f5
  obtain⟨o,e,c,d⟩:=id st'
  exact⟨u,rfl,go_of (s:={ s with heap:=h' }) e c d (by decide) ⟨x,H,I1,ru,⟨rfl,fun ys hy=>by rw[I.list_inj hy hq]; exact hx⟩,st',fun b hb=>(hf b hb).1⟩⟩
 done:=by
  intro X hP hw hK hc i pins s σ H E I hf st hg
  subst hP hw hK
  obtain⟨xs,hq,hx⟩:=hg
  obtain⟨its,rv,p,hz⟩:=I.list hq
  obtain⟨f0,f1,f2,f3,f4,f5⟩:=hf it (by simp)
  have hl:=rv.length
  obtain⟨x1,bR⟩:=hc.at I
  exact Gv bR st p.isList (by simp; omega) fun h' eb=>⟨rfl,I.turned (t':=s.toks) (fun b o hb e=>eb b o hb e) f0 f1 f3 f4 f5⟩
theorem DK {P:Program} {w:World} {K:PySem.W.Frag} {tg:Expr} (a it:Addr):L2H.TurnH P w K tg (Itt K a) [it] it (fun i h=>h.IsTupleIter it a i) where
 mem:=(turn_tuple (P:=P) (w:=w) (K:=K) (tg:=tg) a it).mem
 obj:=(turn_tuple (P:=P) (w:=w) (K:=K) (tg:=tg) a it).obj
 keep:=(turn_tuple (P:=P) (w:=w) (K:=K) (tg:=tg) a it).keep
 self:=(turn_tuple (P:=P) (w:=w) (K:=K) (tg:=tg) a it).self
 item:=by
  intro X hP hw hK hc i pins s σ H E I hf st hg
  subst hP hw hK
  obtain⟨xs,x,hq,hx⟩:=hg
  obtain⟨its,rv,p,hz⟩:=I.tuple hq
  obtain⟨u,hu,ru⟩:=rv.get hx
  obtain⟨f0,f1,f2,f3,f4,f5⟩:=hf it (by simp)
  refine wpAny_pyNext_tuple_item st (show s.heap.IsTuple a its.toArray from p) (x:=u) (by simpa using hu) fun h' st' sb=>?_
  have I1:Inv X pins σ H { s with heap:=h' }:=I.turned (t':=s.toks) (fun b o hb e=>(sb.2 b hb).trans e) f0 f1 f3 f4 f5
  obtain⟨o,e,c,d⟩:=id st'
  exact⟨u,rfl,go_of (s:={ s with heap:=h' }) e c d (by decide) ⟨x,H,I1,ru,⟨rfl,fun ys hy=>by rw[I.tuple_inj hy hq]; exact hx⟩,st',fun b hb=>(hf b hb).1⟩⟩
 done:=by
  intro X hP hw hK hc i pins s σ H E I hf st hg
  subst hP hw hK
  obtain⟨xs,hq,hx⟩:=hg
  obtain⟨its,rv,p,hz⟩:=I.tuple hq
  obtain⟨f0,f1,f2,f3,f4,f5⟩:=hf it (by simp)
  have hl:=rv.length
  obtain⟨x1,bR⟩:=hc.at I
  exact vP bR st (show s.heap.IsTuple a its.toArray from p) (by simp; omega) fun h' eb=>⟨rfl,I.turned (t':=s.toks) (fun b o hb e=>eb b o hb e) f0 f1 f3 f4 f5⟩
theorem Ab {P:Program} {w:World} {K:PySem.W.Frag} {tg:Expr} (it:Addr) (x:Str) (t:Tok) (ty:String) (Tf:ty = "str_ascii_iterator"∨ty = "str_iterator") :
  L2H.TurnH P w K tg (Its x) [it] it (fun i h=>h.IsStrIter it ty x t i) where
 mem:=(turn_str (P:=P) (w:=w) (K:=K) (tg:=tg) it x t ty Tf).mem
 obj:=(turn_str (P:=P) (w:=w) (K:=K) (tg:=tg) it x t ty Tf).obj
 keep:=(turn_str (P:=P) (w:=w) (K:=K) (tg:=tg) it x t ty Tf).keep
 self:=(turn_str (P:=P) (w:=w) (K:=K) (tg:=tg) it x t ty Tf).self
 item:=by
  intro X hP hw hK hc i pins s σ H E I hf st hg
  subst hP hw hK
  obtain⟨f0,f1,f2,f3,f4,f5⟩:=hf it (by simp)
  have kO:i < x.cps.size:=hg
  have ZH:x.cps[i]?=some x.cps[i]:=by simp[kO]
  have Nj:["enumerate", "zip", "dict_itemiterator", "dict_reverseitemiterator", "odict_iterator", "itertools.zip_longest", "itertools.pairwise"].contains ty=false:=by
   rcases Tf with e | e
   · rw[e]; decide
   · rw[e]; decide
  have fin:∀ h',h'.IsStrIter it ty x t (i+1)→Heap.SameBut it s.heap h'→∃ u,some (Value.str ⟨#[x.cps[i]]⟩ s.toks)=some u∧wpAny (model X.prog X.w) X.A (letOwnedTupleGo tg (.ref it) u) (fun _ s2=>∃ y H',Inv X pins σ H' s2∧RelV y u∧(Its x).yld i H y H'∧s2.heap.IsStrIter it ty x t (i+1)∧∀ b∈[it],H' b=none) E { s with heap:=h',toks:=s.toks+1 }:=fun h' st' sb=>by
   have I1:Inv X pins σ H { s with heap:=h',toks:=s.toks+1 }:=I.turned (fun b o hb e=>(sb.2 b hb).trans e) f0 f1 f3 f4 f5
   obtain⟨oi,e,cc,dd⟩:=id st'
   exact⟨_,rfl,go_of (s:={ s with heap:=h',toks:=s.toks+1 }) e cc dd Nj ⟨.str ⟨#[x.cps[i]]⟩,H,I1,⟨s.toks,rfl⟩,⟨rfl,_,ZH,rfl⟩,st',fun b hb=>(hf b hb).1⟩⟩
  rcases Tf with e | e
  · subst e
    exact wpAny_pyNext_ascii_item st ZH fun h' st' sb=>fin h' st' sb
  · subst e
    exact wpAny_pyNext_wide_item st ZH fun h' st' sb=>fin h' st' sb
 done:=by
  intro X hP hw hK hc i pins s σ H E I hf st hg
  subst hP hw hK
  obtain⟨f0,f1,f2,f3,f4,f5⟩:=hf it (by simp)
  have hx:x.cps[i]?=none:=Array.getElem?_eq_none hg
  obtain⟨x1,bR⟩:=hc.at I
  rcases Tf with e | e
  · rw[e] at st
    exact N7 bR st hx fun h' eb=>⟨rfl,I.turned (t':=s.toks) (fun b o hb e=>eb b o hb e) f0 f1 f3 f4 f5⟩
  · rw[e] at st
    exact O9 bR st hx fun h' eb=>⟨rfl,I.turned (t':=s.toks) (fun b o hb e=>eb b o hb e) f0 f1 f3 f4 f5⟩
theorem sS {X:Cx} {tg l:Expr} {tl:TE} (hl:PE X l tl):L2H.PIH X tg l (Ky X.K tl):=by
 refine⟨fun pins s σ H R I h=>?_⟩
 refine thn (hl.run pins s σ H _ I h) fun v s1 ⟨x,H1,I1,r1,q1⟩=>?_
 have fr:∀ {tk:Tok} {o:Obj},∀ b∈[s1.heap.objs.size],FpOk X pins H1 b:=fun {tk o} b hb=>by
  have e:b=s1.heap.objs.size:=by simpa using hb
  subst e
  exact I1.fpOk (Nat.le_refl _) (I1.hok.fresh (Nat.le_refl _))
 rcases q1 with ⟨a,e,⟨xs,hq⟩,q⟩ | ⟨a,e,⟨xs,hq⟩,q⟩ | ⟨x,ex,q⟩
 · subst e
   cases r1
   obtain⟨its,rv,p,hz⟩:=I1.list hq
   refine wpAny_pyIter_list p.isList ?_
   exact⟨s1.heap.objs.size,[s1.heap.objs.size],_,_,H1,rfl,I1.kept (t':=s1.toks) fun b o e=>Heap.get?_push_of_some _ e,FI a _,⟨_,Heap.get?_push_size _ rfl,rfl,rfl⟩,fr (tk:=0) (o:=default),q⟩
 · subst e
   cases r1
   obtain⟨its,rv,p,hz⟩:=I1.tuple hq
   refine wpAny_pyIter_tuple (show s1.heap.IsTuple a its.toArray from p) ?_
   exact⟨s1.heap.objs.size,[s1.heap.objs.size],_,_,H1,rfl,I1.kept (t':=s1.toks) fun b o e=>Heap.get?_push_of_some _ e,DK a _,⟨_,Heap.get?_push_size _ rfl,rfl,rfl⟩,fr (tk:=0) (o:=default),q⟩
 · subst ex
   obtain⟨t,rfl⟩:=r1
   cases ha:x.cps.all (· < 128)
   · exact wpAny_pyIter_wide ha ⟨s1.heap.objs.size,[s1.heap.objs.size],_,_,H1,rfl,I1.kept (t':=s1.toks) fun b o e=>Heap.get?_push_of_some _ e,Ab _ x t "str_iterator" (.inr rfl),⟨_,Heap.get?_push_size _ rfl,rfl,rfl⟩,fr (tk:=0) (o:=default),q⟩
   · exact wpAny_pyIter_ascii ha ⟨s1.heap.objs.size,[s1.heap.objs.size],_,_,H1,rfl,I1.kept (t':=s1.toks) fun b o e=>Heap.get?_push_of_some _ e,Ab _ x t "str_ascii_iterator" (.inl rfl),⟨_,Heap.get?_push_size _ rfl,rfl,rfl⟩,fr (tk:=0) (o:=default),q⟩
theorem zy {prog:Program} {w:World} {A:Around} (it t x1:Addr) (fe:t≠it) (items:Array Value) :
  Draws prog w A it [it,t,x1] items.size (fun i v=>items[i]?=some v) (fun i h=>h.IsTupleIter it t i∧h.IsTuple t items∧HotAt A x1 h) where
 live:=fun _ _ st=>let ⟨o,ho,_⟩:=st.1; ⟨o,ho⟩
 frame:=fun _ _ _ st hk=>⟨st.1.at fun o e=>hk it (by simp) o e,st.2.1.at fun o e=>hk t (by simp) o e,cA st.2.2 fun o e=>hk x1 (by simp) o e⟩
 item:=fun i s Q E hi st hQ=>by
  obtain⟨o,ho,hc,hd⟩:=id st.1
  have hn:=mZ st.2.2 ho hd
  refine wpAny_nextOf_tuple_item st.1 st.2.1 (x:=items[i]) (by simp[hi]) fun h' uC nX=>?_
  exact hQ _ h' s.toks (by simp[hi]) ⟨uC,st.2.1.extBut nX.extBut fe,cA st.2.2 fun o e=>nX.extBut _ _ hn e⟩ nX
 done:=fun s Q E st hE=>BH st.2.2 st.1 st.2.1 (by simp) hE
end Z
namespace Z
open PySem PySem.Spec PyProof.Rows L2 HotX L2H
theorem D5 {P:Program} {w:World} {K:PySem.W.Frag} {elts:List Expr} {kk:Nat} {tpos:Pos} (a e it:Addr) (IW:e≠a) (IZ:a≠it) :
  L2H.TurnH P w K (.Tuple elts kk tpos) (N5 K a) [e,it] e (fun i h=>(∃ old,IsEnum h e it ((i:Nat):Int) old)∧h.IsTupleIter it a i∧e≠it) where
 mem:=(ku (P:=P) (w:=w) (K:=K) (elts:=elts) (kk:=kk) (tpos:=tpos) a e it IW IZ).mem
 obj:=(ku (P:=P) (w:=w) (K:=K) (elts:=elts) (kk:=kk) (tpos:=tpos) a e it IW IZ).obj
 keep:=(ku (P:=P) (w:=w) (K:=K) (elts:=elts) (kk:=kk) (tpos:=tpos) a e it IW IZ).keep
 self:=(ku (P:=P) (w:=w) (K:=K) (elts:=elts) (kk:=kk) (tpos:=tpos) a e it IW IZ).self
 item:=by
  intro X hP hw hK hc i pins s σ H E I hf st hg
  subst hP hw hK
  obtain⟨⟨old,he⟩,hit,fe⟩:=st
  obtain⟨xs,x,hq,hx⟩:=hg
  obtain⟨its,rv,p,hz⟩:=I.tuple hq
  obtain⟨u,hu,ru⟩:=rv.get hx
  have So:e < s.heap.objs.size:=Heap.lt_size he
  have RI:it < s.heap.objs.size:=by obtain⟨_,q,_⟩:=hit; exact Heap.lt_size q
  have kO:i < its.toArray.size:=by
   rw[List.size_toArray]
   exact (List.getElem?_eq_some_iff.mp hu).1
  obtain⟨q,⟨hh,v1,e1,c1⟩,Od⟩:=hc
  have P1:=(I.pin q (List.mem_append_left _ Od)).1
  have nqe:q.1≠e:=fun z=>(hf e (by simp)).2.2.2.2.2 q (List.mem_append_left _ Od) z
  have uA:HotAt X.A.in1 q.1 s.heap:=⟨hh,q.2,v1,P1,e1,c1⟩
  refine wpAny_pyNext_enum_itemC (zy (A:=X.A.in1) it a q.1 IZ its.toArray) he ⟨hit,p,uA⟩ kO fe (by simp; exact⟨fe,IW,fun z=>nqe z.symm⟩) fun x' h' tk hP ho hst hT hsz hk=>?_
  have ex:x'=u:=by
   have:its.toArray[i]?=some u:=by simpa using hu
   rw[hP] at this; exact Option.some.inj this
  subst ex
  obtain⟨uC,_⟩:=hst
  refine⟨_,rfl,wpAny_letOwnedTupleGo_enum (s:={ s with heap:=h',toks:=tk+1 }) ho fun Ai Fg sb=>?_⟩
  have UV:Ai.get? s.heap.objs.size=some { cls:=.type "tuple",data:=.seq #[.int i tk,x'] }:=(sb.2 _ (Nat.ne_of_gt So)).trans hT
  have new:ObjOk X.prog X.w (upd H s.heap.objs.size (.frz { cls:=.type "tuple",data:=.seq #[.int i tk,x'] } (.tup [.int (i:Nat),x]))) Ai s.heap.objs.size (.frz { cls:=.type "tuple",data:=.seq #[.int i tk,x'] } (.tup [.int (i:Nat),x])) :=
   ⟨UV,by show 2≤sizeLine; decide,[.int i tk,x'], .cons ⟨_,rfl⟩ (.cons ru .nil),⟨_,UV,rfl,_,rfl⟩⟩
  have I1:Inv X pins σ (upd H s.heap.objs.size (.frz { cls:=.type "tuple",data:=.seq #[.int i tk,x'] } (.tup [.int (i:Nat),x]))) { s with heap:=Ai,toks:=tk+1 } :=
   I.turnedNew (ch:=[e,it]) (fun b ob hb q=>(sb.2 b (fun z=>hb (by simp[z]))).trans (hk b ob (fun z=>hb (by simp[z])) (fun z=>hb (by simp[z])) q)) hf (Nat.le_refl _) new
  refine⟨.ref s.heap.objs.size,_,I1,rfl,⟨_,_,x,rfl,I.hok.fresh (Nat.le_refl _),rfl,rfl,fun ys hy=>by rw[I.tuple_inj hy hq]; exact hx⟩,⟨⟨x',?_⟩,uC.at fun o q=>(sb.2 it (Ne.symm fe)).trans q,fe⟩,fun b hb=>?_⟩
  · have e1:((i+1:Nat):Int)=(i:Int)+1:=by omega
    rw[e1]; exact Fg
  · have hb':b < s.heap.objs.size:=by
     have e':b=e∨b=it:=by simpa using hb
     rcases e' with z | z
     · rw[z]; exact So
     · rw[z]; exact RI
    rw[upd_ne (Nat.ne_of_lt hb')]
    exact (hf b hb).1
 done:=by
  intro X hP hw hK hc i pins s σ H E I hf st hg
  subst hP hw hK
  obtain⟨⟨old,he⟩,hit,fe⟩:=st
  obtain⟨xs,hq,hx⟩:=hg
  obtain⟨its,rv,p,hz⟩:=I.tuple hq
  obtain⟨f0,f1,f2,f3,f4,f5⟩:=hf it (by simp)
  have hl:=rv.length
  have hn:i=its.toArray.size:=by rw[List.size_toArray,← hl,hx]
  obtain⟨x1,bR⟩:=hc.at I
  have uA:HotAt X.A.in1 x1 s.heap:=bR
  exact wpAny_pyNext_enum_endD (zy (A:=X.A.in1) it a x1 IZ its.toArray) he (by rw[← hn]; exact⟨hit,p,uA⟩) fun h' eb=>⟨rfl,I.turned (t':=s.toks) (fun b o hb q=>eb b o hb q) f0 f1 f3 f4 f5⟩
theorem HU {prog:Program} {w:World} {A:Around} {E:Value→Shared→Prop} {s:Shared} {e it l x1:Addr} {i:Nat} {items:Array Value} {old:Value} {Q:Option Value→Shared→Prop} (bR:HotAt A x1 s.heap)
  (he:IsEnum s.heap e it i old) (hit:s.heap.IsListIter it l i) (hl:s.heap.IsList l items) (hx:items[i]?=none)
  (hQ:∀ h',Heap.ExtBut it s.heap h'→Q none { s with heap:=h' }):wpAny (model prog w) A (pyNext (.ref e)) Q E s:=by
 have hT:s.TypeIs (.ref e) "enumerate":=⟨_,he,rfl⟩
 unfold pyNext
 refine wpAny_bind (wpAny_attempt (wpAny_callSpecial?_slot (name:=Str.ofString "__next__") hT F.slot_enumerate_next
  (wpAny_call_entry F.slot_enumerate_next hT F.entry_enumerate_next ?_ (F.args_enumerate_next_1 _))))
 show wpAny _ _ (field (.ref e) 2 >>= _) _ _ _
 refine wpAny_bind (wpAny_field he rfl (x:=.ref it) rfl ?_)
 have uA:HotAt A.in1 x1 s.heap:=bR
 refine wpAny_bind (Bw uA hit hl hx fun h' x Fg VE=>?_)
 obtain⟨o,ho,hc⟩:=VE
 refine wpAny_bind (wpAny_isInstance (T:="StopIteration") (b:=true) ⟨o,ho,hc⟩ isSubtype_stop ?_)
 exact wpAny_pure (hQ _ Fg)
theorem Dq {P:Program} {w:World} {K:PySem.W.Frag} {elts:List Expr} {kk:Nat} {tpos:Pos} (a e it:Addr) :
  L2H.TurnH P w K (.Tuple elts kk tpos) (Ov K a) [e,it] e (fun i h=>(∃ old,IsEnum h e it ((i:Nat):Int) old)∧h.IsListIter it a i∧e≠it) where
 mem:=(kZ (P:=P) (w:=w) (K:=K) (elts:=elts) (kk:=kk) (tpos:=tpos) a e it).mem
 obj:=(kZ (P:=P) (w:=w) (K:=K) (elts:=elts) (kk:=kk) (tpos:=tpos) a e it).obj
 keep:=(kZ (P:=P) (w:=w) (K:=K) (elts:=elts) (kk:=kk) (tpos:=tpos) a e it).keep
 self:=(kZ (P:=P) (w:=w) (K:=K) (elts:=elts) (kk:=kk) (tpos:=tpos) a e it).self
 item:=by
  intro X hP hw hK hc i pins s σ H E I hf st hg
  subst hP hw hK
  obtain⟨⟨old,he⟩,hit,fe⟩:=st
  obtain⟨xs,x,hq,hx⟩:=hg
  obtain⟨its,rv,p,hz⟩:=I.list hq
  obtain⟨u,hu,ru⟩:=rv.get hx
  have le:=Heap.lt_size he
  have li:it < s.heap.objs.size:=let ⟨_,q,_⟩:=hit; Heap.lt_size q
  refine wpAny_pyNext_enum_item he hit p.isList (x:=u) (by simpa using hu) fe fun h' ho uC hT hsz hk=>⟨_,rfl,wpAny_letOwnedTupleGo_enum (s:={ s with heap:=h',toks:=s.toks+1 }) ho fun Ai Fg sb=>?_⟩
  have ht:=(sb.2 _ (Nat.ne_of_gt le)).trans hT
  have nw:ObjOk X.prog X.w (upd H s.heap.objs.size (.frz { cls:=.type "tuple",data:=.seq #[.int i s.toks,u] } (.tup [.int (i:Nat),x]))) Ai s.heap.objs.size (.frz { cls:=.type "tuple",data:=.seq #[.int i s.toks,u] } (.tup [.int (i:Nat),x])) :=
   ⟨ht,by show 2≤sizeLine; decide,_, .cons ⟨_,rfl⟩ (.cons ru .nil),⟨_,ht,rfl,_,rfl⟩⟩
  refine⟨.ref s.heap.objs.size,_,I.turnedNew (t':=s.toks+1) (ch:=[e,it]) (fun b ob hb q=>?_) hf (Nat.le_refl _) nw,rfl,⟨_,_,x,rfl,I.hok.fresh (Nat.le_refl _),rfl,rfl,fun ys hy=>by rw[I.list_inj hy hq]; exact hx⟩,⟨⟨u,?_⟩,uC.at fun o q=>(sb.2 it (Ne.symm fe)).trans q,fe⟩,fun b hb=>?_⟩
  · exact (sb.2 b (fun z=>hb (by simp[z]))).trans (hk b ob (fun z=>hb (by simp[z])) (fun z=>hb (by simp[z])) q)
  · rw[show ((i+1:Nat):Int)=(i:Int)+1 by omega]; exact Fg
  · rw[upd_ne (Nat.ne_of_lt (by
     have e':b=e∨b=it:=by simpa using hb
     rcases e' with z | z
     · rw[z]; exact le
     · rw[z]; exact li))]
    exact (hf b hb).1
 done:=by
  intro X hP hw hK hc i pins s σ H E I hf st hg
  subst hP hw hK
  obtain⟨⟨old,he⟩,hit,fe⟩:=st
  obtain⟨xs,hq,hx⟩:=hg
  obtain⟨its,rv,p,hz⟩:=I.list hq
  obtain⟨f0,f1,f2,f3,f4,f5⟩:=hf it (by simp)
  have hl:=rv.length
  obtain⟨x1,bR⟩:=hc.at I
  exact HU bR he hit p.isList (by simp; omega) fun h' eb=>⟨rfl,I.turned (t':=s.toks) (fun b o hb q=>eb b o hb q) f0 f1 f3 f4 f5⟩
theorem tM {X:Cx} {e:Expr} {ta:TA} {p pos tpos:Pos} {elts:List Expr} {kk:Nat} (hg:Gl X "enumerate") (hm:X.mg "enumerate" = none) (ha:PA X [e] ta) (hs:starEach [e] X.env=[(false,eval e X.env)]:=by rfl) :
  L2H.PIH X (.Tuple elts kk tpos) (.Call (.Name "enumerate" p) [e] [] pos) (EC X.K ta):=by
 refine⟨fun pins s σ H R I h=>?_⟩
 refine Call_ (ld_blt I hg hm boot_enumerate (PyProof.Rows.callWith_type1 (thn (ha.run pos pins s σ H _ I h) fun us s1 ⟨vs,H1,I1,r1,q1⟩=>?_) hs rfl))
 have fr:∀ b∈[s1.heap.objs.size+1,s1.heap.objs.size],FpOk X pins H1 b:=fun b hb=>by
  have e':b=s1.heap.objs.size+1∨b=s1.heap.objs.size:=by simpa using hb
  have hle:s1.heap.objs.size≤b:=by
   rcases e' with z | z
   · rw[z]; exact Nat.le_add_right _ _
   · rw[z]; exact Nat.le_refl _
  exact I1.fpOk hle (I1.hok.fresh hle)
 rcases q1 with ⟨a,xs,ex,hq,q⟩ | ⟨a,xs,ex,hq,q⟩
 · subst ex
   cases r1 with
   | cons r rr =>
    cases rr
    cases r
    obtain⟨its,rv,p',hz⟩:=I1.list hq
    refine call_enumerate_list p'.isList fun h' he hit hsz hk=>wpAny_pyIter_enum he ?_
    have I2:Inv X pins σ H1 { s1 with heap:=h' }:=I1.kept (t':=s1.toks) hk
    exact⟨s1.heap.objs.size+1,[s1.heap.objs.size+1,s1.heap.objs.size],_,_,H1,rfl,I2,Dq a (s1.heap.objs.size+1) s1.heap.objs.size,⟨⟨.none,he⟩,hit,Nat.succ_ne_self _⟩,fr,q⟩
 · subst ex
   cases r1 with
   | cons r rr =>
    cases rr
    cases r
    obtain⟨its,rv,p',hz⟩:=I1.tuple hq
    have kO:a < s1.heap.objs.size:=by obtain⟨_,q,_⟩:=p'; exact Heap.lt_size q
    refine jn (begins_tuple a its.toArray) p' fun h' he hit hsz hk=>wpAny_pyIter_enum he ?_
    have I2:Inv X pins σ H1 { s1 with heap:=h' }:=I1.kept (t':=s1.toks) hk
    exact⟨s1.heap.objs.size+1,[s1.heap.objs.size+1,s1.heap.objs.size],_,_,H1,rfl,I2,D5 a (s1.heap.objs.size+1) s1.heap.objs.size (Ne.symm (Nat.ne_of_lt (Nat.lt_succ_of_lt kO))) (Nat.ne_of_lt kO),⟨⟨.none,he⟩,⟨_,hit,rfl,rfl⟩,Nat.succ_ne_self _⟩,fr,q⟩
section
variable {C:Kx} {a b c e tg iter elt:Expr} {es rest:List Expr} {pos pos' p:Pos} {x:Str} {m me:M} {ma:MA} {t:MT} {ms:MI} {K:Fr} {g:TG} {eff:oF} {js vs:List Nat} {wi:TI} {scope:Scope} {own:List (Str×Nat)}
theorem Cf {body:List Stmt} {mb:MS} (hp:PassesOwn (model C.X.prog C.X.w) C.X.A C.X.env C.X.xe) (hc:HotC C.X) (hi:PIH C.X tg iter wi) (oU:my C wi ms) (hg:PG C.X tg g) (ho:Il C.K g eff js) (hb:Sj C mb body)
  (hf:∀ x,foldedSetIterable iter C.X.env x=pure x:=by intro _; rfl):zl C (lZ ms eff mb) (.For tg iter body [] pos):=.mk fun sl S σ F R H hs hr D post=>by
 refine yC.of (ps_forH hp hc hi hg rX hf) (oU sl S σ F R H hs hr _ (bM.bind post hs fun its S1 J F1 R1 H1 _ ok rep1 s1 r1 mx ah=>?_))
 refine⟨fun i k σ H=>k=its.length - i∧i≤its.length∧∃ F2 R2 sl2 S2,Same F1 F2∧R1 <+: R2∧SlR C.K C.px F2 R2 σ sl2∧bQ C.K C.G F2 R2 S2 H∧bM C F2 R2 D (lr eff mb (its.drop i) sl2 S2),⟨its.length,rfl,Nat.zero_le _,F1,R1,sl,S1,Same.refl _,aI,mx,rep1,ah⟩,?_⟩
 rintro i k σ2 H2 ⟨rfl,hle,F2,R2,sl2,S2,s2,r2,hs2,rep2,post2⟩
 by_cases kO:i < its.length
 · have hit:its[i]?=some its[i]:=List.getElem?_eq_getElem kO
   have hd:its.drop i=its[i]::its.drop (i+1):=List.drop_eq_getElem_cons kO
   rw[hd] at post2
   obtain⟨g1,g2⟩:=ok.go i _ F2 H2 hit s2 rep2.sub
   refine .inr ⟨g1,fun σ' H'=>∃ F3 R3 sl3 S3,Same F1 F3∧R1 <+: R3∧SlR C.K C.px F3 R3 σ' sl3∧bQ C.K C.G F3 R3 S3 H'∧bM C F3 R3 D (lr eff mb (its.drop (i+1)) sl3 S3),fun σ' H' ⟨F3,R3,sl3,S3,s3,r3,Fq,rep3,post3⟩=>⟨its.length - (i+1),by omega,rfl,kO,F3,R3,sl3,S3,s3,r3,Fq,rep3,post3⟩,fun v H' hy=>?_⟩
   obtain⟨F3,pq,rv⟩:=g2 v H' hy
   simp only[lr] at post2
   cases he:eff its[i] sl2 with
   | none=>simp only[he] at post2; exact post2.elim
   | some sl3 =>
    simp only[he] at post2
    refine ho _ sl2 sl3 σ2 F3 R2 H' v _ he rv (hs2.mono pq.sF aI) pq.sub fun σ3 Fq _=>?_
    refine hb sl3 S2 σ3 F3 R2 H' Fq (rep2.grow pq) _ ?_
    have e1:Same F1 F3:=s2.trans pq.sF
    cases hm:mb sl3 S2 with
    | nx sl4 S4 =>
     simp only[hm] at post2
     exact fun σ' F' R' H'' h1 h2 h3 h4=>⟨F',R',sl4,S4,e1.trans h3,bf r2 h4,h1,h2,bM.mono post2 (pq.sF.trans h3) h4⟩
    | ct sl4 S4 =>
     simp only[hm] at post2
     exact fun σ' F' R' H'' h1 h2 h3 h4=>⟨F',R',sl4,S4,e1.trans h3,bf r2 h4,h1,h2,bM.mono post2 (pq.sF.trans h3) h4⟩
    | bk sl4 S4 =>
     simp only[hm] at post2
     exact bM.mono post2 pq.sF aI
    | rt d S4=>simp only[hm] at post2; exact bM.mono post2 pq.sF aI
    | exc x sl4 S4=>simp only[hm] at post2; exact bM.mono post2 pq.sF aI
    | no=>simp only[hm] at post2; exact post2.elim
 · have e:i=its.length:=by omega
   subst e
   rw[List.drop_length] at post2
   exact .inl ⟨ok.stop F2 H2 s2 rep2.sub,post2 σ2 F2 R2 H2 hs2 rep2 (Same.refl _) aI⟩
def TBH (X:Cx) (scope:Scope) (e:Expr):TT:=fun σ H Q=>∀ B,Ak X scope B→TD B e σ H Q
theorem Vo {X:Cx} {scope:Scope} {e:Expr} (s:Shared) (H:Hp) (Cc:Addr) (cl:List (Str×Addr)) (fp:List Addr):PT (mu X s H scope (compEnvC scope cl Cc X.env) fp) e (TBH X scope e):=⟨fun pins s' σ H' Q I h=>h _ (DU s H Cc cl fp) pins s' I⟩
def V6 (C:Kx) (scope:Scope) (t:MT) (e:Expr):Prop:=∀ B:Kx,Ak C.X scope B.X→Tj B t e
theorem O5 {t:MT} (h:V6 C scope t c):∀ (G:Hp) sl S σ F R H,SlR C.K C.px F R σ sl→bQ C.K G F R S H→∀ (b:Bool) S1,t sl S=.ok b S1→∀ Q:Bool→Hp→Prop,(∀ F' R' H',bQ C.K G F' R' S1 H'→Same F F'→R <+: R'→Q b H')→TBH C.X scope c σ H Q:=by
 intro G sl S σ F R H hs hr b S1 em Q k BX hB
 have hK:=Mc hB
 refine h ⟨BX,fun _ _ _ _=>False,ny,G,C.px⟩ hB sl S σ F R H (by show SlR (qd BX) C.px F R σ sl; rw[hK]; exact hs) (by show bQ (qd BX) G F R S H; rw[hK]; exact hr) Q ?_
 rw[em]
 intro b' F' R' H' h1 h2 h3 h4
 cases (show b'=b from h1)
 exact k F' R' H' (by have z:bQ (qd BX) G F' R' S1 H':=h2; rw[hK] at z; exact z) h3 h4
theorem Ob (hc:HotC C.X) (hN:C.X.N.Nodup) (hi:PIH C.X tg iter wi) (oU:my C wi ms) (ok:BlkOk C.X.N C.X.env.scope scope own) (hg:Ve C scope tg g) (ho:Il C.K g eff js) (hj:∀ j∈js,j∈own.map (·.2)) (FG:V6 C scope t c) (he:Sy C scope me elt)
  (hf:∀ x,foldedSetIterable iter C.X.env x=pure x:=by intro _; rfl):Ej C (wH ms eff t me (own.map (·.2))) (.ListComp elt [⟨tg,iter,[c],0⟩] scope pos):=.mk fun sl S σ F R H hs hr Q post =>
 ED.of (JC hc hN hi ok hg (fun s H Cc cl fp=>pts_one (Vo s H Cc cl fp)) (fun s H Cc cl fp=>QW s H Cc cl fp) hf) (vZ hs hr oU ho hj ⟨O5 FG,Gk he⟩ post)
theorem PV {X:Cx} (hc:HotC X):CallR X (.builtin "any") (rAny X.K):=by
 intro pins s σ H vs us Q I r h
 obtain⟨a,bs,rfl,hs,q⟩:=h
 obtain⟨its,rv,hl,_⟩:=I.list hs
 obtain⟨x1,bR⟩:=hc.at I
 rw[Vals.ref1 r]
 have hb:=rv.bls
 have hx:x1≠s.heap.objs.size:=by obtain⟨_,o,_,e,_⟩:=bR; exact Nat.ne_of_lt (Heap.lt_size e)
 refine call_any_walk (iter_any hl.isList fun s₂ e2 st fe=>?_)
 subst e2
 refine⟨_,_,_,_,_,_,_,rfl,Ae (A:=X.A.in1) hx fe its.toArray,⟨st,cA bR fun o e=>Heap.get?_push_of_some _ e⟩,truth_bools hb,fun h' tk hk=>⟨.bl _,H,I.kept fun b o eo=>hk b o (fun hm=>?_) (Heap.get?_push_of_some _ eo),?_,q⟩⟩
 · rw[List.mem_singleton] at hm; subst hm; exact absurd (Heap.lt_size eo) (Nat.lt_irrefl _)
 · show Value.bool _=Value.bool _
   rw[← L2.any_range,hb,List.size_toArray,List.length_map]
theorem NV (hc:HotC C.X) (hm:C.X.mg "any" = none) (h:Aj C ma (e::es)) (hg:Gl C.X "any":=by rfl) (he:Se C e es:=by exact bO rfl) (hpl:Pl C es pos:=by exact de rfl):Ej C (eF A9 ma) (.Call (.Name "any" p) (e::es) [] pos):=gx (PV hc) JO hm (by decide +kernel) h hg (he:=he) (hpl:=hpl)
end
section
variable {X:Cx} {CX:CXT} {k i:Nat} {E:L2.St→XK} {x:Str} {p pos:Pos} {e:Expr} {es:List Expr} {t:TA}
theorem HS {ok:Addr→Sp→Prop} (A:∀ f sp,ok f sp→∃ (fd:FuncData) (ps:List Str),FnH X.prog X.w X.K X.mg X.base CX k f fd ps sp∧PySem.W.keepIn X.K (.ref f)=true∧Binds X.K fd ps []) (hr:RoomH k X.A) (hc:HotC X) (hN:X.N[i]?=some x) (hv:Vis X.env.scope x) (hx:∀ σ,PassesAt CX X σ (E σ)) (ha:PA X (e::es) t)
  (mD:(x == ("__debug__" : Str))=false:=by decide) (pY:(x == ("__classdict__" : Str))=false:=by decide)
  (he:starEach (e::es) X.env=(false,eval e X.env)::starEach es X.env:=by exact bO rfl) (hpl:(backTo pos (starEach es X.env)).any (·.1)=false:=by exact de rfl):PE X (.Call (.Name x p) (e::es) [] pos) (Kr i ok E t):=by
 refine⟨fun pins s σ H Q I h=>?_⟩
 obtain⟨f,sp,hs,ho,ht⟩:=h
 obtain⟨fd,ps,F,hk,hb⟩:=A f sp ho
 refine wpAny_Call_Name_kw (thn ((pe_var (pos:=p) hN hv mD pY).run pins s σ H (fun v H1=>v=.ref f∧H1=H) I ⟨.ref f,hs,rfl,rfl⟩) fun u s1 ⟨v,H1,I1,r1,q1⟩=>?_)
 obtain⟨rfl,rfl⟩:=q1
 cases r1
 refine PySem.W.callWith_K (h₀:=X.base) I.ok.mod.kin hk (thn (ha.run pos pins s1 σ _ _ I1 ht) fun us s2 ⟨vs,H2,I2,r,q⟩=>⟨I2.kIn,?_⟩) he hpl
 exact run_fnH F hr hc hb (hx σ) I2 r q
end
section
variable {C:Kx} {e:Expr} {es:List Expr} {pos p:Pos} {x:Str} {ma:MA} {k i:Nat} {tab:AH}
theorem HG (i:Nat) (A:∀ q∈tab,∃ ps:List Str,ps.length=q.2.1∧sP C.X.prog C.X.w C.X.K C.X.mg C.X.base k q.1 ps q.2.2) (hr:RoomH k C.X.A) (hc:HotC C.X) (h:Aj C ma (e::es)) (hN:C.X.N[i]?=some x:=by rfl) (hv:Vis C.X.env.scope x:=by first | exact Or.inl rfl | exact Or.inr (Or.inl rfl) | exact Or.inr (Or.inr rfl)) (mD:(x == ("__debug__" : Str))=false:=by decide) (pY:(x == ("__classdict__" : Str))=false:=by decide)
  (he:starEach (e::es) C.X.env=(false,eval e C.X.env)::starEach es C.X.env:=by exact bO rfl) (hpl:(backTo pos (starEach es C.X.env)).any (·.1)=false:=by exact de rfl):Ej C (qZ tab i ma) (.Call (.Name x p) (e::es) [] pos):=.mk fun sl S σ F R H hs hr' Q post=>by
 unfold qZ at post
 split at post
 · rename_i g hi
   split at post
   · rename_i n f hf
     obtain⟨v,e1,e2⟩:=hs.2 _ _ hi
     cases (show Rp C.K F v (.glo g) from e2)
     unfold yK at hf
     cases hq:tab.find? (fun p=>decide (p.1=g)) with
     | none=>rw[hq] at hf; cases hf
     | some q =>
      rw[hq] at hf
      have WI:q.2=(n,f):=Option.some.inj hf
      have hg:q.1=g:=of_decide_eq_true (List.find?_some (p:=fun p:Str×Nat×Fn=>decide (p.1=g)) hq)
      obtain⟨ps,hl,hF⟩:=A q (List.mem_of_find?_eq_some hq)
      rw[WI,hg] at hF
      rw[WI] at hl
      obtain⟨fd,h1,h2,h3,h4⟩:=hF
      refine ED.of (HS (i:=i) (CX:=L2N.CX C.X.prog C.X.w) (k:=k) (ok:=fun f' sp=>f'=He.ga C.X.K g∧sp=FA C.K ps.length f) (fun f' sp o=>by obtain⟨rfl,rfl⟩:=o; exact⟨fd,ps,h1,h3,h2⟩) hr hc hN hv (fun σ=>L2N.passAt C.tk σ) eY mD pY he hpl)
       ⟨_,_,e1,⟨rfl,rfl⟩,h sl S σ F R H hs hr' _ (aK.bind post fun ds S1 vs F1 R1 H1 _ rx rep1 s1 r1 ah=>?_)⟩
      by_cases hd:ds.length=n
      · rw[if_pos hd] at ah
        exact⟨by rw[rx.length,hd]; exact hl.symm,C.G,F1,R1,S1,ds,rep1,rx,lC ah⟩
      · rw[if_neg hd] at ah; exact ah.elim
   · exact post.elim
 · exact post.elim
end
end Z
namespace Z
open PySem PySem.Spec PyProof.Rows L2 HotX L2H
theorem RoomH.make {k:Nat} {A:Around} (r:RoomH (k+1) A) (C:Addr) (us:List Value) (kw:List (Str×Value)):RoomH k (A.under (.builtin "type.__call__" ⟨.ref C::us,kw⟩)) :=
 ⟨by have:=r.dp; rw[make_depth]; omega,by have:=r.un; rw[make_units]; omega⟩
section
variable {X:Cx} {CX:CXT} {k:Nat} {f C:Addr} {fd:FuncData} {ps:List Str} {sp:Sp} {dvs:List V} {ds:List Value} {E:L2.St→XK} {x:Str} {p pos:Pos} {e:Expr} {es:List Expr} {t:TA}
theorem E4 {pins:List (Addr×Obj)} {σ:L2.St} {H:Hp} {s:Shared} {Q:VK} {us:List Value} {vs:List V} (M:L2.Mk X.K C f) (F:FnH X.prog X.w X.K X.mg X.base CX k f fd ps sp) (hr:RoomH (k+1) X.A) (hc:HotC X) (hb:Binds X.K fd ps ds) (hd:Vals dvs ds)
  (hx:PassesAt CX X σ (E σ)) (I:Inv X pins σ H s) (r:Vals vs us)
  (h:∀ x dx,H x=none→H dx=none→dx≠x→sp (.ref x::(vs++dvs)) (upd (upd H dx (.own x)) x (.ins C dx [])) (fun v H2=>v=.non∧Q (.ref x) H2) (E σ)) :
  wpAny (model X.prog X.w) X.A (call (.ref C) us) (EP X pins σ Q) X.xe s:=by
 have hq:=h (s.heap.objs.size+1) s.heap.objs.size (I.hok.fresh (Nat.le_succ _)) (I.hok.fresh (Nat.le_refl _)) (Nat.ne_of_lt (Nat.lt_succ_self _))
 have I2:=Inv.made (C:=C) I
 have r2:Vals (V.ref (s.heap.objs.size+1)::(vs++dvs)) (Value.ref (s.heap.objs.size+1)::(us++ds)):=.cons rfl (r.append hd)
 have hl:(Value.ref (s.heap.objs.size+1)::us++ds).length=ps.length:=by
  have e:=r2.length
  rw[F.len _ _ _ _ hq] at e
  exact e.symm
 obtain⟨p,bR,hp⟩:=hc
 have P1:=I2.pin p (List.mem_append_left _ hp)
 have RA:PinOk X.stack _ _ p:=⟨P1.1,P1.2.1,fun hm=>(List.mem_cons.mp (I2.stkSub p.1 hm)).elim P1.2.2.1 P1.2.2.2.1,P1.2.2.2.2⟩
 refine wpAny_call (make_map (f:=f) I.kIn M.makes M.init (beq_iff_eq.mp M.fn) (codeAny_mono (F.run _ X.stack _ _ ⟨Value.ref (s.heap.objs.size+1)::us,[]⟩ (Value.ref (s.heap.objs.size+1)::(us++ds)) _ _ (E σ) p (RoomH.make hr C us []) (aX bR rfl) RA
  (I2.env0.make C us []) (hb _ (Value.ref (s.heap.objs.size+1)::us) I2.kIn hl) r2 hq) fun r s' ul=>?_))
 cases r with
 | error e=>exact hx pins _ _ e s' I2 ul
 | ok fl =>
  cases fl with
  | ret u =>
   obtain⟨v,H',I3,rv,ev,q3⟩:=I2.after ul
   subst ev
   exact⟨rv,⟨V.ref (s.heap.objs.size+1),H',I3,rfl,q3⟩⟩
  | next=>exact False.elim ul
  | brk=>exact False.elim ul
  | cont=>exact False.elim ul
theorem HK (M:L2.Mk X.K C f) (F:FnH X.prog X.w X.K X.mg X.base CX k f fd ps sp) (hr:RoomH (k+1) X.A) (hc:HotC X) (hg:Gl X x) (hm:X.mg x=some (.ref C)) (hb:Binds X.K fd ps ds) (hd:Vals dvs ds) (hx:∀ σ,PassesAt CX X σ (E σ))
  (ha:PA X (e::es) t) (mD:(x == ("__debug__" : Str))=false:=by decide) (he:starEach (e::es) X.env=(false,eval e X.env)::starEach es X.env:=by exact bO rfl) (hpl:(backTo pos (starEach es X.env)).any (·.1)=false:=by exact de rfl) :
  PE X (.Call (.Name x p) (e::es) [] pos) (xA C sp dvs E t):=by
 refine⟨fun pins s σ H Q I h=>?_⟩
 refine wpAny_Call_Name_kw (ld_glob I hg hm ?_ mD)
 refine PySem.W.callWith_K (h₀:=X.base) I.ok.mod.kin M.kp (thn (ha.run pos pins s σ H _ I h) fun us s1 ⟨vs,H1,I1,r,q⟩=>⟨I1.kIn,?_⟩) he hpl
 exact E4 M F hr hc hb hd (hx σ) I1 r q
end
def Gr (P:Program) (w:World) (K:PySem.W.Frag) (mg:Str→Option Value) (base:Heap) (k:Nat) (f:Addr) (fn:Fn) (n:Nat) (dfl:List Z.P):Prop :=
 ∃ fd ps ds dvs,FnH P w K mg base (L2N.CX P w) k f fd ps (FA ⟨K,P,w⟩ (n+dfl.length) fn)∧Binds K fd ps ds∧Vals dvs ds∧∀ F,ay ⟨K,P,w⟩ F dvs dfl
section
variable {C:Kx} {e:Expr} {es:List Expr} {pos p:Pos} {x:Str} {ma:MA} {fn:Fn} {k n:Nat} {dfl:List P} {f:Addr}
theorem J7 (hM:L2.Mk C.X.K (He.ga C.X.K x) f) (hm:C.X.mg x=some (.ref (He.ga C.X.K x))) (hF:Gr C.X.prog C.X.w C.X.K C.X.mg C.X.base k f fn (n+1) dfl) (hr:RoomH (k+1) C.X.A) (hc:HotC C.X) (h2:Aj C ma (e::es)) (hg:Gl C.X x:=by rfl) (mD:(x == ("__debug__" : Str))=false:=by decide) (he:Se C e es:=by exact bO rfl) (hpl:Pl C es pos:=by exact de rfl) :
  Ej C (iU x n dfl fn ma) (.Call (.Name x p) (e::es) [] pos):=.mk fun sl S σ F R H hs hr' Q post=>by
 obtain⟨fd,ps,ds,dvs,g1,g2,g3,g4⟩:=hF
 exact ED.of (HK hM g1 hr hc hg hm g2 g3 (fun σ=>L2N.passAt C.tk σ) eY mD he hpl) (pX rfl rfl g4 h2 hs hr' post)
end
def Hw (P:Program) (w:World) (K:PySem.W.Frag) (mg:Str→Option Value) (base:Heap) (k:Nat) (x qual:Str) (f:Addr) (st:Stmt) (dvs:List V) (ps:List Str) (fn:Fn):Prop :=
 ∃ fd,FunD K x qual (defArgs st) (defBody st) (defScope st) dvs [] f fd∧FnH P w K mg base (L2N.CX P w) k f fd ps (FA ⟨K,P,w⟩ ps.length fn)
section
variable {P:Program} {w:World} {K:PySem.W.Frag} {mg:Str→Option Value} {base:Heap} {k:Nat} {x qual:Str} {N ps:List Str} {st:Stmt} {fn:Fn} {b:MS} {f:Addr} {dvs:List V}
theorem N2 (D:∃ fd,FunD K x qual (defArgs st) (defBody st) (defScope st) dvs [] f fd) (S:FnScope N ps (defScope st))
  (body:∀ (cdv:Value) (A:Around) (outer:List Env) (s:Shared) (H:Hp) (E:XK) (p:Addr×Obj) (G:Hp),Hot1 A p→RoomH k (A.deeper (envOfC qual (defScope st) s.heap.objs.size f cdv))→Sj (Vd P w K mg base N qual (defScope st) f cdv A outer s H E p G) b (defBody st)):Hw P w K mg base (k+1) x qual f st dvs ps (runB N.length b):=by
 obtain⟨fd,Fu⟩:=D
 refine⟨fd,Fu,?_⟩
 obtain⟨oc,od,dV,kV,doc,pm,an,cdv,ct,osl,rfl,lk,pY,_,_⟩:=Fu.ex
 refine fn_ofH lk pY S (fun vs H Q E h=>h.1) fun A outer s H vs Q E p bR hr h=>?_
 obtain⟨hl,G,F,R,S0,ds,rep,rx,post⟩:=h
 refine⟨_,rX,body cdv A outer s H E p G bR hr _ S0 _ F R H (wn rx) rep _ ?_⟩
 unfold runB at post
 cases tZ:b (yV N.length ds) S0 with
 | nx sl S' =>
  rw[tZ] at post
  exact fun σ' F' R' H' _ h2 h3 h4=>post .non F' R' H' (show aP ⟨K,P,w⟩ F' R' .non (.p .non) from .non) h2 h3 h4
 | rt d S'=>rw[tZ] at post; exact post
 | exc x sl S' =>
  rw[tZ] at post
  exact fun cls d σ' F' R' H' h0 _ h2 h3 h4=>post cls d F' R' H' h0 h2 h3 h4
 | bk sl S'=>rw[tZ] at post; exact post.elim
 | ct sl S'=>rw[tZ] at post; exact post.elim
 | no=>rw[tZ] at post; exact post.elim
theorem Hw.form (h:Hw P w K mg base k x qual f st dvs ps fn) (hb:kY x qual ps st) (hd:dvs=[]) {n:Nat} (hn:ps.length=n):Gr P w K mg base k f fn n []:=by
 obtain⟨fd,h0,h1⟩:=h
 subst hn hd
 exact⟨fd,ps,[],[],h1,h0.bindsN hb, .nil,fun _=>.nil⟩
theorem Hw.formD (h:Hw P w K mg base k x qual f st dvs ps fn) (n j:Nat) {dfl:List Z.P} (hd:dvs≠[]) (hn:n+(dvs.length - j)=ps.length) (hb:pO x qual ps st n dvs.length j) (hp:∀ F,ay ⟨K,P,w⟩ F (dvs.drop j) dfl):Gr P w K mg base k f fn n dfl:=by
 obtain⟨fd,h0,h1⟩:=h
 obtain⟨ds,v,bi⟩:=h0.binds1 n j hd hn hb
 have hl:n+dfl.length=ps.length:=by rw[← (hp (fun _=>none)).length,List.length_drop]; exact hn
 exact⟨fd,ps,ds,_,by rw[hl]; exact h1,bi,v,hp⟩
theorem FnH.imp {CX:CXT} {fd:FuncData} {sp Wh:Sp} (h:FnH P w K mg base CX k f fd ps sp) (i:∀ vs H Q E,Wh vs H Q E→sp vs H Q E):FnH P w K mg base CX k f fd ps Wh :=
 ⟨fun vs H Q E z=>h.len vs H Q E (i _ _ _ _ z),fun A outer s H args us vs Q E p hr bR RA e0 hb r z=>h.run A outer s H args us vs Q E p hr bR RA e0 hb r (i _ _ _ _ z)⟩
theorem Ff {n:Nat} (h:sP P w K mg base k x ps (runB n b)):sP P w K mg base k x ps (runZ n b):=by
 obtain⟨fd,h1,h2⟩:=h
 exact⟨fd,FnH.imp h1 fun vs H Q E ⟨hl,G,F,R,S,ds,rep,rx,post⟩=>⟨hl,G,F,R,S,ds,rep,rx,qa rep post⟩,h2⟩
theorem sP.mono {f:Fn} {j:Nat} (h:sP P w K mg base k x ps f) (hj:k≤j):sP P w K mg base j x ps f:=by
 obtain⟨fd,h1,h2⟩:=h
 exact⟨fd,⟨h1.len,fun A outer s H args us vs Q E p hr=>h1.run A outer s H args us vs Q E p (hr.mono hj)⟩,h2⟩
end
def Kx.sn (C:Kx) (a:Addr) (oe:Obj) (pn:List (Addr×Obj)):Kx:=⟨C.X.suite a ((a,oe)::pn),fun _ _ _ _=>False,ny,C.G,C.px⟩
section
variable {C:Kx} {tab:Iz} {mb:MS} {XR:MS} {body suite:List Stmt} {b₀:Stmt} {x:Str} {c:Value} {np pos pos':Pos}
theorem KZ (hc:Names C.X x c) (ht:Js C.X.K c tab)
  (hb:∀ W pn xe tk,Sj (C.tr W pn xe tk) mb body)
  (hsu:∀ a oe cls d pn,L2N.Zn cls d oe→(∃ vs,oe.data=.fields vs)→Sj (C.sn a oe pn) XR (b₀::suite))
  (U5:C.X.stack=C.X.env::C.X.outer:=by rfl) (hf:C.X.env.frame=some C.X.env.locals:=by rfl) :
  zl C (yl tab mb XR) (.Try body [.ExceptHandler (some (.Name x np)) none (b₀::suite) pos'] [] [] pos):=.mk fun sl S σ F R H hs hr D post=>by
 refine yC.of (L2N.ps_try_many (l:=[(c,fun a cls d D σ H=>∀ oe pn,L2N.Zn cls d oe→(∃ vs,oe.data=.fields vs)→SD (C.X.suite a ((a,oe)::pn)) (b₀::suite) D σ H)]) (tb:=fun W D σ H=>∀ pn xe,L2N.Takes (C.X.tr pn xe) W→SD (C.X.tr pn xe) body D σ H) U5 hf C.tk (fun W pn xe tk _=>⟨fun pins s σ H D I h=>h pn xe tk pins s I⟩) (.cons hc (fun a oe cls d pn hz hf=>⟨fun pins s σ H D I h=>h oe pn hz hf pins s I⟩) .nil)) ?_
 intro pn xe tk
 refine (hb _ pn xe tk) sl S σ F R H hs hr D ?_
 unfold yl at post
 cases hm:mb sl S with
 | exc x1 sl1 S1 =>
  rw[hm] at post
  intro cls d σ' F' R' H' hx nX hr' e eR
  cases hl:J0 tab x1.c with
  | none=>simp only[hl] at post; exact post.elim
  | some b =>
   refine⟨b,by rw[hx.1]; exact Lh ht hl,fun Zl a na oe pn hz QS=>?_,fun ZE=>?_⟩
   · subst Zl
     simp only[hl] at post
     refine (hsu a oe cls d pn hz QS) sl1 S1 σ' F' R' H' nX hr' _ ?_
     cases hq:XR sl1 S1 with
     | nx sl2 S2=>rw[hq] at post; exact fun σ2 F2 R2 H2 k1 k2 k3 k4=>post _ F2 R2 H2 k1 k2 (e.trans k3) (bf eR k4)
     | rt d2 S2=>rw[hq] at post; exact fun v F2 R2 H2 k1 k2 k3 k4=>post v F2 R2 H2 k1 k2 (e.trans k3) (bf eR k4)
     | bk sl2 S2=>rw[hq] at post; exact fun σ2 F2 R2 H2 k1 k2 k3 k4=>post _ F2 R2 H2 k1 k2 (e.trans k3) (bf eR k4)
     | ct sl2 S2=>rw[hq] at post; exact fun σ2 F2 R2 H2 k1 k2 k3 k4=>post _ F2 R2 H2 k1 k2 (e.trans k3) (bf eR k4)
     | exc x2 sl2 S2=>rw[hq] at post; exact post.elim
     | no=>rw[hq] at post; exact post.elim
   · subst ZE
     simp only[hl] at post
     exact post cls d σ' F' R' H' hx nX hr' e eR
 | nx sl2 S2=>rw[hm] at post; exact post
 | rt d2 S2=>rw[hm] at post; exact post
 | bk sl2 S2=>rw[hm] at post; exact post
 | ct sl2 S2=>rw[hm] at post; exact post
 | no=>rw[hm] at post; exact post
theorem Tw {a:Addr} {oe:Obj} {pn:List (Addr×Obj)} {cls:Value} {d:Option Addr} (hz:L2N.Zn cls d oe) (QS:∃ vs,oe.data=.fields vs):L2H.HotC (C.sn a oe pn).X:=by
 obtain⟨vs,hd⟩:=QS
 exact⟨(a,oe),⟨rfl,vs,hd,hz.2.2 vs hd⟩,List.mem_cons_self ..⟩
end
end Z
namespace L2H
open PySem PySem.Spec PyProof.Rows L2
theorem RoomH.u65 {k:Nat} {A:PySem.Around} (r:L2H.RoomH k A):A.units+65 < PySem.cLine:=by have:=r.un; omega
theorem RoomH.u16 {k:Nat} {A:PySem.Around} (r:L2H.RoomH k A):A.units+16 < PySem.cLine:=by have:=r.un; omega
end L2H
namespace Z
open PySem PySem.Spec PyProof.Rows L2 HotX L2H
theorem Ft {prog:Program} {w:World} {A:Around} {x1 I ax:Addr} (h1:x1≠I) (fe:ax≠I) (items:Array Value) :
  Walks prog w A I [I,ax,x1] [I] items.size (fun i v=>items[i]?=some v) (fun i h=>(h.IsTupleIter I ax i∧h.IsTuple ax items)∧HotAt A x1 h) where
 sub:=fun b hb=>by simp at hb; simp[hb]
 frame:=fun _ _ _ st hk=>⟨⟨st.1.1.at fun o e=>hk I (by simp) o e,st.1.2.at fun o e=>hk ax (by simp) o e⟩,cA st.2 fun o e=>hk x1 (by simp) o e⟩
 item:=fun i s Q E hi st hQ=>by
  refine wpAny_pyNext_tuple_item st.1.1 st.1.2 (x:=items[i]) (by simp[hi]) fun h' uC nX=>?_
  exact hQ _ h' s.toks (by simp[hi]) ⟨⟨uC,st.1.2.extBut nX.extBut fe⟩,cA st.2 fun o e=>nX.extBut _ _ h1 e⟩ fun b o hb e=>nX.extBut b o (fun h=>hb (by simp[h])) e
 done:=fun s Q E st hQ=>vP st.2 st.1.1 st.1.2 (by simp) fun h' Fg=>hQ h' s.toks fun b o hb e=>Fg b o (fun h=>hb (by simp[h])) e
 self:=fun _ _ _ _ st hQ=>wpAny_pyIter_tupleiter st.1.1 hQ
section
variable {prog:Program} {w:World} {A:Around} {E:Value→Shared→Prop} {s:Shared}
theorem CB {x1:Addr} {a b:Int} {t u:Tok} {Q:Value→Shared→Prop} (bR:HotAt A x1 s.heap)
  (h:∀ h' tk,(∀ c o,s.heap.get? c=some o→h'.get? c=some o)→Q (if b < a then .int b u else .int a t) { s with heap:=h',toks:=tk }) :
  wpAny (model prog w) A (call (.builtin "min") [.int a t, .int b u]) Q E s:=by
 have hT:(s.heap.push { cls:=.type "tuple",data:=.seq #[.int a t, .int b u] }).IsTuple s.heap.objs.size (intItems #[(a,t),(b,u)]):=⟨_,Heap.get?_push_size _ rfl,rfl,0,by simp[intItems]⟩
 refine call_min_two (wpAny_pyIter_tuple hT ?_)
 have hsz:(s.heap.push { cls:=.type "tuple",data:=.seq #[.int a t, .int b u] }).objs.size=s.heap.objs.size+1:=Heap.size_push ..
 have hx1:x1 < s.heap.objs.size:=by obtain⟨_,o,_,e,_⟩:=bR; exact Heap.lt_size e
 have uA:HotAt A.in1 x1 s.heap:=bR
 refine⟨_,[_,s.heap.objs.size,x1],[_],_,_,_,_,rfl,Ft (A:=A.in1) (x1:=x1) (ax:=s.heap.objs.size) (by rw[hsz]; exact Nat.ne_of_lt (Nat.lt_succ_of_lt hx1)) (by rw[hsz]; exact Nat.ne_of_lt (Nat.lt_succ_self _)) (intItems #[(a,t),(b,u)]),
  ⟨⟨⟨_,Heap.get?_push_size _ rfl,rfl,rfl⟩,hT.push _⟩,cA uA fun o e=>Heap.get?_push_of_some _ (Heap.get?_push_of_some _ e)⟩,fun c hc=>?_,by simp[intItems],CmpOf.ints_lt (numAt #[(a,t),(b,u)]) (fun _ _=>intItems_at),fun v h' tk hP hk=>?_⟩
 · show c < ((s.heap.push _).push _).objs.size
   rw[Heap.size_push,hsz]
   rcases List.mem_cons.mp hc with rfl | hc
   · rw[hsz]; exact Nat.lt_succ_self _
   · rcases List.mem_cons.mp hc with rfl | hc
     · exact Nat.lt_succ_of_lt (Nat.lt_succ_self _)
     · rw[List.mem_singleton.mp hc]; exact Nat.lt_succ_of_lt (Nat.lt_succ_of_lt hx1)
 · have hold:∀ c o,s.heap.get? c=some o→h'.get? c=some o:=fun c o e=>by
    refine hk c o (fun hm=>?_) (Heap.get?_push_of_some _ (Heap.get?_push_of_some _ e))
    rcases List.mem_cons.mp hm with e1 | hm
    · have:=Heap.lt_size e; rw[e1,hsz] at this; exact Nat.lt_irrefl _ (Nat.lt_of_succ_lt this)
    · cases hm
   have:=h h' tk hold
   have hv:v=if b < a then Value.int b u else Value.int a t:=by
    have Xn:(intItems #[(a,t),(b,u)])[argBest (fun i j=>decide (numAt #[(a,t),(b,u)] i < numAt #[(a,t),(b,u)] j)) 1]?=some v:=by
     have XU:(intItems #[(a,t),(b,u)]).size - 1=1:=by simp[intItems]
     rw[← XU]; exact hP
    by_cases XH:b < a
    · have e:argBest (fun i j=>decide (numAt #[(a,t),(b,u)] i < numAt #[(a,t),(b,u)] j)) 1=1:=by simp[argBest,numAt,XH]
      rw[e] at Xn
      simpa [intItems,XH] using Xn.symm
    · have e:argBest (fun i j=>decide (numAt #[(a,t),(b,u)] i < numAt #[(a,t),(b,u)] j)) 1=0:=by simp[argBest,numAt,XH]
      rw[e] at Xn
      simpa [intItems,XH] using Xn.symm
   rw[hv]; exact this
theorem J4 {t x1:Addr} {items:Array Value} {Q:List Value→Shared→Prop} (bR:HotAt A x1 s.heap) (ht:IsTup s.heap t items)
  (hQ:∀ h',Heap.ExtBut s.heap.objs.size s.heap h'→Q items.toList { s with heap:=h' }):wpAny (model prog w) A (unpackItems (.ref t) items.size none) Q E s:=by
 have kO:t≠s.heap.objs.size:=by obtain⟨o,ho,_⟩:=ht; exact Nat.ne_of_lt (Heap.lt_size ho)
 have hx1:x1≠s.heap.objs.size:=by obtain⟨_,o,_,ho,_⟩:=bR; exact Nat.ne_of_lt (Heap.lt_size ho)
 unfold unpackItems; refine wpAny_bind ?_
 unfold notIterableAtAll; refine wpAny_bind (wpAny_specialOf ht.typeIs slot_tuple_iter.lookup ?_)
 refine wpAny_pure ?_; simp only[Bool.false_eq_true,if_false]
 refine wpAny_bind (wpAny_holding (iter_tuple ht ?_))
 refine wpAny_bind (wpAny_holding (draw_tuple kO items.size 0 _ _ ⟨_,Heap.get?_push_size _ rfl,rfl,rfl⟩ (ht.push _) (by omega) fun h₁ Ub tJ=>?_))
 have kQ:List.take items.size (List.drop 0 items.toList)=items.toList:=by rw[List.drop_zero]; exact List.take_of_length_le (by simp)
 rw[kQ]; rw[if_neg (by simp)]
 have Zt:IsTup h₁ t items:=(ht.push _).extBut tJ.extBut kO
 refine wpAny_bind (wpAny_holding (vP (cA bR fun o e=>tJ.extBut _ _ hx1 (Heap.get?_push_of_some _ e)) Ub Zt (by simp) fun h₂ XW=>?_))
 simp only[Option.isSome_none,Bool.false_eq_true,if_false]
 refine wpAny_pure (hQ h₂ fun b o hb e=>XW b o hb (tJ.extBut b o hb (Heap.get?_push_of_some _ e)))
end
section
variable {X:Cx}
theorem FP (hc:HotC X):CallR X (.builtin "min") (fun xs H Q=>∃ i j,xs=[.int i, .int j]∧Q (.int (if j < i then j else i)) H):=by
 intro pins s σ H xs us Q I r h
 obtain⟨i,j,rfl,q⟩:=h
 obtain⟨u,w',rfl,⟨t,rfl⟩,⟨t',rfl⟩⟩:=vals2 r
 obtain⟨x1,bR⟩:=hc.at I
 refine CB bR fun h' tk k=>⟨_,H,I.kept k,?_,q⟩
 by_cases hj:j < i
 · rw[if_pos hj,if_pos hj]; exact⟨_,rfl⟩
 · rw[if_neg hj,if_neg hj]; exact⟨_,rfl⟩
theorem Pb {pos:Pos} {i j:Nat} {x y:Str} {a b:Expr} {ta:TA} {px py pt:Pos} {kt k2 yD} (hc:HotC X) (hN:X.N.Nodup) (hi:X.N[i]?=some x) (hj:X.N[j]?=some y) (Rm:i≠j)
  (hx:X.env.scope.names.lookup x=some .local) (hy:X.env.scope.names.lookup y=some .local) (ha:PA X [a,b] ta)
  (hw:swappedStores [.Tuple [.Name x px, .Name y py] kt pt] (.Tuple [a,b] k2 yD) X.env=pure (some [x,y]))
  (hs:swapsWithSole [.Tuple [.Name x px, .Name y py] kt pt] (.Tuple [a,b] k2 yD) pos.line X.env=pure false:=by rfl) :
  PS X (.Assign [.Tuple [.Name x px, .Name y py] kt pt] (.Tuple [a,b] k2 yD) pos) (tPar i j ta):=by
 refine⟨fun pins s σ H D I h=>?_⟩
 rw[exec_Assign_arm]
 refine wpAny_bind (wpAny_standAt ?_)
 rw[hs]
 refine wpAny_bind (wpAny_pure ?_)
 rw[if_neg (by decide)]
 refine wpAny_bind (Tuple_ (thn (ha.run _ pins s σ H _ I h) fun us s1 ⟨vs,H1,I1,r1,q1⟩=>?_))
 obtain⟨v,w,e1,q1⟩:=q1
 subst e1
 obtain⟨u1,u2,rfl,rv,Oz⟩:∃ u1 u2,us=[u1,u2]∧RelV v u1∧RelV w u2:=by
  cases r1 with
  | cons p q =>
   cases q with
   | cons p' q' =>
    cases q'
    exact⟨_,_,rfl,p,p'⟩
 refine wpAny_newObj_type ?_ (by show 2≤sizeLine; decide)
 have I2:Inv X pins σ H1 { s1 with heap:=s1.heap.push { cls:=.type "tuple",data:=.seq [u1,u2].toArray } }:=I1.kept (t':=s1.toks) fun b o e=>Heap.get?_push_of_some _ e
 obtain⟨x1,bR⟩:=hc.at I2
 rw[hw]
 refine wpAny_bind (wpAny_pure ?_)
 show wpAny (model X.prog X.w) X.A (do rule "assign.swapped-stores"; let items ← unpackItems (.ref s1.heap.objs.size) 2 none; assignInOrder [fun v=>bindName X.env y v,fun v=>bindName X.env x v] items.reverse; pure Flow.next) _ _ _
 refine wpAny_bind (wpAny_rule (wpAny_bind (J4 (items:=#[u1,u2]) bR (IsTup.new s1.heap _) fun h' VE=>?_)))
 have I3:=I2.kept (h':=h') (t':=s1.toks) fun b o e=>VE b o (Nat.ne_of_lt (Heap.lt_size e)) e
 show wpAny _ _ (assignInOrder [fun v=>bindName X.env y v,fun v=>bindName X.env x v] [u2,u1] >>= fun _=>pure Flow.next) _ _ _
 refine wpAny_bind (assignInOrder_cons (wpAny_bindName (store_ok I3 hN hj (.inl hy) Oz (fun s2 I4=>?_) (.inr hy))))
 refine assignInOrder_cons (wpAny_bindName (store_ok I4 hN hi (.inl hx) rv (fun s3 I5=>assignInOrder_nil (wpAny_pure ?_)) (.inr hx)))
 rw[List.set_comm _ _ (Ne.symm Rm)] at I5
 exact⟨_,H1,I5,q1⟩
end
section
variable {C:Kx} {a b e1 e2:Expr} {pos p:Pos} {x y:Str} {m:M} {ma:MA}
theorem KQ (i j:Nat) {px py pt:Pos} {kt k2 yD} (hc:HotC C.X) (hN:C.X.N.Nodup) (h:Aj C ma [a,b]) (hi:C.X.N[i]?=some x:=by rfl) (hj:C.X.N[j]?=some y:=by rfl) (Rm:i≠j:=by decide) (hx:Lo C x:=by rfl) (hy:Lo C y:=by rfl)
  (hw:swappedStores [.Tuple [.Name x px, .Name y py] kt pt] (.Tuple [a,b] k2 yD) C.X.env=pure (some [x,y]):=by rfl)
  (nX:swapsWithSole [.Tuple [.Name x px, .Name y py] kt pt] (.Tuple [a,b] k2 yD) pos.line C.X.env=pure false:=by rfl):zl C (qJ [i,j] ma) (.Assign [.Tuple [.Name x px, .Name y py] kt pt] (.Tuple [a,b] k2 yD) pos):=.mk fun sl S σ F R H hs hr D post =>
 yC.of (Pb hc hN hi hj Rm hx hy eY hw nX) (h sl S σ F R H hs hr _ (bM.bind post hs fun ds S1 vs F1 R1 H1 _ rx rep1 s1 r1 mx ah=>by
  by_cases hl:ds.length=2
  · have ah:=(if_pos (c:=ds.length=[i,j].length) hl) ▸ ah
    obtain⟨v,w,d,e,rfl,rfl,h1,h2⟩:=HN rx hl
    exact⟨v,w,rfl,ah _ F1 R1 H1 ((mx.set h1).set h2) rep1 (Same.refl _) aI⟩
  · have ah:=(if_neg (c:=ds.length=[i,j].length) hl) ▸ ah
    exact ah.elim))
theorem JV {k:Int} (hc:HotC C.X) (hm:C.X.mg "min" = none) (h:Aj C (aC (eK (.int k)) (aC m aN)) [e1,e2]) (hg:Gl C.X "min":=by rfl) (he:Se C e1 [e2]:=by exact bO rfl) (hpl:Pl C [e2] pos:=by exact de rfl) :
  Ej C (eF vC (aC (eK (.int k)) (aC m aN))) (.Call (.Name "min" p) [e1,e2] [] pos):=.mk fun sl S σ F R H hs hr Q post =>
 ED.of (pe_callB (FP hc) hg hm (by decide +kernel) eY (by decide) (by decide) he hpl) (h sl S σ F R H hs hr _ (aK.bind post fun ds S1 vs F1 R1 H1 em rx rep1 s1 r1 ah=>by
  obtain⟨d2,rfl⟩:∃ d2,ds=[.p (.int k),d2]:=by
   unfold aC eK aN at em
   simp only[Rs.bind] at em
   cases Y0:m sl S with
   | ok d2 S2=>rw[Y0] at em; simp only[Rs.ok.injEq] at em; exact⟨d2,em.1.symm⟩
   | exc x S2=>rw[Y0] at em; cases em
   | no=>rw[Y0] at em; cases em
  unfold CN at ah
  cases hv:fV S1 [.p (.int k),d2] with
  | none=>rw[hv] at ah; exact ah.elim
  | some ps =>
   rw[hv] at ah
   have hx:=oO rx rep1 hv
   obtain⟨q,rfl⟩:∃ q,ps=[.int k,q]:=by
    simp only[fV] at hv
    rw[show view S1 (.p (.int k))=some (.int k) from rfl] at hv
    cases hq:view S1 d2 with
    | none=>rw[hq] at hv; cases hv
    | some q=>rw[hq] at hv; simp only[Option.some.injEq] at hv; exact⟨q,hv.symm⟩
   cases q with
   | int j =>
    obtain⟨v,w,rfl,h1,h2⟩:=V3 hx
    cases h1.int; cases h2.int
    exact⟨_,_,rfl,ah.okv (.int _) rep1⟩
   | _=>exact ah.elim))
end
end Z
namespace Kw
open PySem PySem.Spec PyProof.Rows L2 Z
theorem uy:FnScope ["_law_script", "_law_at", "_law_cell", "_law_great", "_law_mixed", "_law_one"] ["_law_script", "_law_at"] (defScope AF):=⟨rfl,rfl,rfl,by decide +kernel,rfl,by decide +kernel,by decide +kernel⟩
theorem TN:aQ "_law_bag" ["_law_script", "_law_at"] AF:=fun _ _ _ _ _ _ us hl=>match us,hl with | [_,_],_=>rfl
theorem GO:FnScope ["_law_bag_here", "_law_many", "_law_digit"] ["_law_bag_here", "_law_many"] (defScope tU):=⟨rfl,rfl,rfl,by decide +kernel,rfl,by decide +kernel,by decide +kernel⟩
theorem N1:aQ "_law_take" ["_law_bag_here", "_law_many"] tU:=fun _ _ _ _ _ _ us hl=>match us,hl with | [_,_],_=>rfl
theorem pQ:FnScope ["_law_bag_here", "_law_many", "_law_stem", "_law_at", "_law_begin", "_law_found", "_law_k", "_law_sign"] ["_law_bag_here", "_law_many"] (defScope pW):=⟨rfl,rfl,rfl,by decide +kernel,rfl,by decide +kernel,by decide +kernel⟩
theorem Lj:aQ "_law_names" ["_law_bag_here", "_law_many"] pW:=fun _ _ _ _ _ _ us hl=>match us,hl with | [_,_],_=>rfl
theorem pR:FnScope ["_law_bag_here", "_law_many", "_law_letters", "_law_some", "_law_k"] ["_law_bag_here", "_law_many"] (defScope nH):=⟨rfl,rfl,rfl,by decide +kernel,rfl,by decide +kernel,by decide +kernel⟩
theorem Jx:aQ "_law_kinds" ["_law_bag_here", "_law_many"] nH:=fun _ _ _ _ _ _ us hl=>match us,hl with | [_,_],_=>rfl
theorem fo:FnScope ["word", "signs", "sign"] ["word", "signs"] (defScope dM):=⟨rfl,rfl,rfl,by decide +kernel,rfl,by decide +kernel,by decide +kernel⟩
theorem oh:aQ "consists_of" ["word", "signs"] dM:=fun _ _ _ _ _ _ us hl=>match us,hl with | [_,_],_=>rfl
theorem wZ:FnScope ["thing"] ["thing"] (defScope ki):=⟨rfl,rfl,rfl,by decide +kernel,rfl,by decide +kernel,by decide +kernel⟩
theorem xj:aQ "is_name" ["thing"] ki:=fun _ _ _ _ _ _ us hl=>match us,hl with | [_],_=>rfl
theorem cq:FnScope ["pointers", "known", "names", "index", "name"] ["pointers", "known"] (defScope dW):=⟨rfl,rfl,rfl,by decide +kernel,rfl,by decide +kernel,by decide +kernel⟩
theorem ly:aQ "check_pointers" ["pointers", "known"] dW:=fun _ _ _ _ _ _ us hl=>match us,hl with | [_,_],_=>rfl
theorem qp:FnScope ["step"] ["step"] (defScope gU):=⟨rfl,rfl,rfl,by decide +kernel,rfl,by decide +kernel,by decide +kernel⟩
theorem qj:aQ "value_made" ["step"] gU:=fun _ _ _ _ _ _ us hl=>match us,hl with | [_],_=>rfl
theorem qt:FnScope ["step"] ["step"] (defScope gK):=⟨rfl,rfl,rfl,by decide +kernel,rfl,by decide +kernel,by decide +kernel⟩
theorem qv:aQ "value_used" ["step"] gK:=fun _ _ _ _ _ _ us hl=>match us,hl with | [_],_=>rfl
theorem yh:FnScope ["thing"] ["thing"] (defScope jZ):=⟨rfl,rfl,rfl,by decide +kernel,rfl,by decide +kernel,by decide +kernel⟩
theorem yd:aQ "is_kind" ["thing"] jZ:=fun _ _ _ _ _ _ us hl=>match us,hl with | [_],_=>rfl
theorem qr:FnScope ["thing"] ["thing"] (defScope gM):=⟨rfl,rfl,rfl,by decide +kernel,rfl,by decide +kernel,by decide +kernel⟩
theorem qh:aQ "is_integer" ["thing"] gM:=fun _ _ _ _ _ _ us hl=>match us,hl with | [_],_=>rfl
theorem tH:FnScope ["thing"] ["thing"] (defScope iQ):=⟨rfl,rfl,rfl,by decide +kernel,rfl,by decide +kernel,by decide +kernel⟩
theorem rZ:aQ "is_offset" ["thing"] iQ:=fun _ _ _ _ _ _ us hl=>match us,hl with | [_],_=>rfl
theorem sR:FnScope ["thing"] ["thing"] (defScope iK):=⟨rfl,rfl,rfl,by decide +kernel,rfl,by decide +kernel,by decide +kernel⟩
theorem tA:aQ "is_number" ["thing"] iK:=fun _ _ _ _ _ _ us hl=>match us,hl with | [_],_=>rfl
theorem vr:FnScope ["thing"] ["thing"] (defScope jv):=⟨rfl,rfl,rfl,by decide +kernel,rfl,by decide +kernel,by decide +kernel⟩
theorem vv:aQ "is_value" ["thing"] jv:=fun _ _ _ _ _ _ us hl=>match us,hl with | [_],_=>rfl
theorem xE:FnScope ["thing"] ["thing"] (defScope kj):=⟨rfl,rfl,rfl,by decide +kernel,rfl,by decide +kernel,by decide +kernel⟩
theorem yx:aQ "is_many" ["thing"] kj:=fun _ _ _ _ _ _ us hl=>match us,hl with | [_],_=>rfl
theorem eP:FnScope ["thing", "checks", "check", "part"] ["thing"] (defScope iL):=⟨rfl,rfl,rfl,by decide +kernel,rfl,by decide +kernel,by decide +kernel⟩
theorem ye:aQ "is_step" ["thing"] iL:=fun _ _ _ _ _ _ us hl=>match us,hl with | [_],_=>rfl
theorem xq:FnScope ["kind"] ["kind"] (defScope kg):=⟨rfl,rfl,rfl,by decide +kernel,rfl,by decide +kernel,by decide +kernel⟩
theorem xS:aQ "size_of" ["kind"] kg:=fun _ _ _ _ _ _ us hl=>match us,hl with | [_],_=>rfl
theorem vg:FnScope ["step"] ["step"] (defScope jp):=⟨rfl,rfl,rfl,by decide +kernel,rfl,by decide +kernel,by decide +kernel⟩
theorem uU:aQ "reads_at" ["step"] jp:=fun _ _ _ _ _ _ us hl=>match us,hl with | [_],_=>rfl
theorem sI:FnScope ["step"] ["step"] (defScope iR):=⟨rfl,rfl,rfl,by decide +kernel,rfl,by decide +kernel,by decide +kernel⟩
theorem sU:aQ "writes_at" ["step"] iR:=fun _ _ _ _ _ _ us hl=>match us,hl with | [_],_=>rfl
theorem gT:FnScope ["step", "one"] ["step"] (defScope fD):=⟨rfl,rfl,rfl,by decide +kernel,rfl,by decide +kernel,by decide +kernel⟩
theorem sL:aQ "stretches" ["step"] fD:=fun _ _ _ _ _ _ us hl=>match us,hl with | [_],_=>rfl
theorem cx:FnScope ["step", "name", "offset", "many"] ["step"] (defScope dP):=⟨rfl,rfl,rfl,by decide +kernel,rfl,by decide +kernel,by decide +kernel⟩
theorem oG:aQ "fits_window" ["step"] dP:=fun _ _ _ _ _ _ us hl=>match us,hl with | [_],_=>rfl
theorem cG:FnScope ["step", "name", "offset", "many"] ["step"] (defScope eJ):=⟨rfl,rfl,rfl,by decide +kernel,rfl,by decide +kernel,by decide +kernel⟩
theorem qy:aQ "names_used" ["step"] eJ:=fun _ _ _ _ _ _ us hl=>match us,hl with | [_],_=>rfl
theorem eC:FnScope ["step", "names", "values", "made", "used", "name"] ["step", "names", "values"] (defScope fG):=⟨rfl,rfl,rfl,by decide +kernel,rfl,by decide +kernel,by decide +kernel⟩
theorem tE:aQ "step_fits" ["step", "names", "values"] fG:=fun _ _ _ _ _ _ us hl=>match us,hl with | [_,_,_],_=>rfl
theorem du:FnScope ["steps", "names", "values", "index", "step"] ["steps", "names"] (defScope gi):=⟨rfl,rfl,rfl,by decide +kernel,rfl,by decide +kernel,by decide +kernel⟩
theorem oH:aQ "check_steps" ["steps", "names"] gi:=fun _ _ _ _ _ _ us hl=>match us,hl with | [_,_],_=>rfl
theorem cQ:FnScope ["places", "known", "index", "place"] ["places"] (defScope fw):=⟨rfl,rfl,rfl,by decide +kernel,rfl,by decide +kernel,by decide +kernel⟩
theorem nT:aQ "check_places" ["places"] fw:=fun _ _ _ _ _ _ us hl=>match us,hl with | [_],_=>rfl
theorem jX:FnScope ["self", "places", "pointers", "steps", "names"] ["self", "places", "pointers", "steps"] (defScope dC):=⟨rfl,rfl,rfl,by decide +kernel,rfl,by decide +kernel,by decide +kernel⟩
theorem zi:pO "__init__" "Text.__init__" ["self", "places", "pointers", "steps"] dC 1 3 0:=fun T _ _ _ _ _ _ us its hl hm=>match us,its,hl,hm with | [_],[_,_,_],_,_=>⟨_,rfl,rfl⟩
theorem qo:pO "__init__" "Text.__init__" ["self", "places", "pointers", "steps"] dC 4 3 3:=fun T _ _ _ _ _ _ us its hl hm=>match us,its,hl,hm with | [_,_,_,_],[_,_,_],_,_=>⟨_,rfl,rfl⟩
theorem Fp:FnScope ["self", "other"] ["self", "other"] (defScope gN):=⟨rfl,rfl,rfl,by decide +kernel,rfl,by decide +kernel,by decide +kernel⟩
theorem FM:kY "__eq__" "Text.__eq__" ["self", "other"] gN:=fun _ _ _ _ _ _ us hl=>match us,hl with | [_,_],_=>rfl
theorem ug:FnScope ["_law_bag_here", "_law_names_here", "_law_habits", "_law_kinds_here", "_law_name", "_law_room", "_law_kind", "_law_offset"] ["_law_bag_here", "_law_names_here", "_law_habits", "_law_kinds_here"] (defScope Aq):=⟨rfl,rfl,rfl,by decide +kernel,rfl,by decide +kernel,by decide +kernel⟩
theorem Sm:aQ "_law_use" ["_law_bag_here", "_law_names_here", "_law_habits", "_law_kinds_here"] Aq:=fun _ _ _ _ _ _ us hl=>match us,hl with | [_,_,_,_],_=>rfl
theorem iy:FnScope ["_law_bag_here", "_law_names_here", "_law_habits", "_law_kinds_here", "_law_values", "_law_fresh", "_law_way", "_law_room", "_law_kind", "_law_name", "_law_offset", "_law_value", "_law_other", "_law_source", "_law_begin", "_law_many"] ["_law_bag_here", "_law_names_here", "_law_habits", "_law_kinds_here", "_law_values", "_law_fresh"] (defScope uj):=⟨rfl,rfl,rfl,by decide +kernel,rfl,by decide +kernel,by decide +kernel⟩
theorem P0:aQ "_law_step" ["_law_bag_here", "_law_names_here", "_law_habits", "_law_kinds_here", "_law_values", "_law_fresh"] uj:=fun _ _ _ _ _ _ us hl=>match us,hl with | [_,_,_,_,_,_],_=>rfl
theorem il:FnScope ["_law_bag_here", "_law_most", "_law_room", "_law_placed", "_law_many", "_law_names_here", "_law_kinds_here", "_law_habits", "_law_steps", "_law_values", "_law_places", "_law_k", "_law_name", "_law_fresh", "_law_step_here"] ["_law_bag_here", "_law_most", "_law_room"] (defScope jV):=⟨rfl,rfl,rfl,by decide +kernel,rfl,by decide +kernel,by decide +kernel⟩
theorem Iu:pO "_law_drawn" "_law_drawn" ["_law_bag_here", "_law_most", "_law_room"] jV 2 1 0:=fun T _ _ _ _ _ _ us its hl hm=>match us,its,hl,hm with | [_,_],[_],_,_=>⟨_,rfl,rfl⟩
theorem O2:FnScope ["_law_parts", "_law_spare"] ["_law_parts", "_law_spare"] (defScope uz):=⟨rfl,rfl,rfl,by decide +kernel,rfl,by decide +kernel,by decide +kernel⟩
theorem PR:aQ "_law_made" ["_law_parts", "_law_spare"] uz:=fun _ _ _ _ _ _ us hl=>match us,hl with | [_,_],_=>rfl
theorem nA:FnScope ["_law_bag_here", "_law_parts", "_law_places", "_law_pointers", "_law_steps", "_law_at", "_law_step_here", "_law_way", "_law_part"] ["_law_bag_here", "_law_parts"] (defScope ux):=⟨rfl,rfl,rfl,by decide +kernel,rfl,by decide +kernel,by decide +kernel⟩
theorem Of:aQ "_law_near" ["_law_bag_here", "_law_parts"] ux:=fun _ _ _ _ _ _ us hl=>match us,hl with | [_,_],_=>rfl
theorem jD:FnScope ["self", "name", "kind"] ["self"] (defScope df):=⟨rfl,rfl,rfl,by decide +kernel,rfl,by decide +kernel,by decide +kernel⟩
theorem yR:kY "names" "Text.names" ["self"] df:=fun _ _ _ _ _ _ us hl=>match us,hl with | [_],_=>rfl
theorem hY:FnScope ["self", "step"] ["self"] (defScope bq):=⟨rfl,rfl,rfl,by decide +kernel,rfl,by decide +kernel,by decide +kernel⟩
theorem qf:kY "made_values" "Text.made_values" ["self"] bq:=fun _ _ _ _ _ _ us hl=>match us,hl with | [_],_=>rfl
theorem sC:FnScope ["self", "step"] ["self", "step"] (defScope cb):=⟨rfl,rfl,rfl,by decide +kernel,rfl,by decide +kernel,by decide +kernel⟩
theorem sg:kY "with_step" "Text.with_step" ["self", "step"] cb:=fun _ _ _ _ _ _ us hl=>match us,hl with | [_,_],_=>rfl
theorem Bg:FnScope ["name", "offset"] ["name", "offset"] (defScope iP):=⟨rfl,rfl,rfl,by decide +kernel,rfl,by decide +kernel,by decide +kernel⟩
theorem BQ:aQ "spot_word" ["name", "offset"] iP:=fun _ _ _ _ _ _ us hl=>match us,hl with | [_,_],_=>rfl
theorem sX:FnScope ["step", "word"] ["step"] (defScope iJ):=⟨rfl,rfl,rfl,by decide +kernel,rfl,by decide +kernel,by decide +kernel⟩
theorem A7:aQ "step_line" ["step"] iJ:=fun _ _ _ _ _ _ us hl=>match us,hl with | [_],_=>rfl
theorem fE:FnScope ["places", "pointers", "steps", "found", "name", "kind", "step"] ["places", "pointers", "steps"] (defScope fK):=⟨rfl,rfl,rfl,by decide +kernel,rfl,by decide +kernel,by decide +kernel⟩
theorem Dk:aQ "lines_of" ["places", "pointers", "steps"] fK:=fun _ _ _ _ _ _ us hl=>match us,hl with | [_,_,_],_=>rfl
theorem yU:FnScope ["text"] ["text"] (defScope gO):=⟨rfl,rfl,rfl,by decide +kernel,rfl,by decide +kernel,by decide +kernel⟩
theorem yN:aQ "write_text" ["text"] gO:=fun _ _ _ _ _ _ us hl=>match us,hl with | [_],_=>rfl
theorem sV:FnScope ["word", "plain"] ["word"] (defScope iM):=⟨rfl,rfl,rfl,by decide +kernel,rfl,by decide +kernel,by decide +kernel⟩
theorem BJ:aQ "number_in" ["word"] iM:=fun _ _ _ _ _ _ us hl=>match us,hl with | [_],_=>rfl
theorem DX:FnScope ["word"] ["word"] (defScope jq):=⟨rfl,rfl,rfl,by decide +kernel,rfl,by decide +kernel,by decide +kernel⟩
theorem DQ:aQ "count_in" ["word"] jq:=fun _ _ _ _ _ _ us hl=>match us,hl with | [_],_=>rfl
theorem kA:FnScope ["word", "name", "sign", "rest", "offset"] ["word"] (defScope km):=⟨rfl,rfl,rfl,by decide +kernel,rfl,by decide +kernel,by decide +kernel⟩
theorem Fm:aQ "spot_in" ["word"] km:=fun _ _ _ _ _ _ us hl=>match us,hl with | [_],_=>rfl
theorem EZ:FnScope ["step"] ["step"] (defScope kc):=⟨rfl,rfl,rfl,by decide +kernel,rfl,by decide +kernel,by decide +kernel⟩
theorem EI:aQ "checked" ["step"] kc:=fun _ _ _ _ _ _ us hl=>match us,hl with | [_],_=>rfl
theorem uP:FnScope ["word", "number"] ["word"] (defScope jw):=⟨rfl,rfl,rfl,by decide +kernel,rfl,by decide +kernel,by decide +kernel⟩
theorem Dj:aQ "value_in" ["word"] jw:=fun _ _ _ _ _ _ us hl=>match us,hl with | [_],_=>rfl
theorem dF:FnScope ["words", "x", "kind", "target", "name", "offset", "value", "many", "source", "other", "begin"] ["words"] (defScope ke):=⟨rfl,rfl,rfl,by decide +kernel,rfl,by decide +kernel,by decide +kernel⟩
theorem Eo:aQ "step_in" ["words"] ke:=fun _ _ _ _ _ _ us hl=>match us,hl with | [_],_=>rfl
theorem oQ:FnScope ["line", "words", "step"] ["line"] (defScope jt):=⟨rfl,rfl,rfl,by decide +kernel,rfl,by decide +kernel,by decide +kernel⟩
theorem DI:aQ "entry_in" ["line"] jt:=fun _ _ _ _ _ _ us hl=>match us,hl with | [_],_=>rfl
theorem dg:FnScope ["cls", "note", "parts", "phase", "lines", "text", "index", "line", "entry", "e"] ["cls", "note"] (defScope ej):=⟨rfl,rfl,rfl,by decide +kernel,rfl,by decide +kernel,by decide +kernel⟩
theorem Bo:kY "read" "Text.read" ["cls", "note"] ej:=fun _ _ _ _ _ _ us hl=>match us,hl with | [_,_],_=>rfl
theorem Ci:FnScope ["note"] ["note"] (defScope iI):=⟨rfl,rfl,rfl,by decide +kernel,rfl,by decide +kernel,by decide +kernel⟩
theorem Bi:aQ "read_text" ["note"] iI:=fun _ _ _ _ _ _ us hl=>match us,hl with | [_],_=>rfl
theorem iH:FnScope ["_law_script", "_law_k", "_law_bag_here", "_law_turn", "_law_parts", "_law_text", "_law_near_here", "_law_lines", "_law_here", "_law_at", "_law_step_here", "_law_longer", "_law_cut", "_law_part"] ["_law_script"] (defScope xB):=⟨rfl,rfl,rfl,by decide +kernel,rfl,by decide +kernel,by decide +kernel⟩
theorem Mp:aQ "law" ["_law_script"] xB:=fun _ _ _ _ _ _ us hl=>match us,hl with | [_],_=>rfl
def YA:List Str:=["Text"]
def ft:M:=Gz [eK (.str "not valid: "),eU ie (eV 1),eK (.str ", entry "),eU ie (eV 2)]
def Dh:Expr:=match defBody cw with
 | .Expr (.Call _ [a] _ _) _::_=>a
 | _=>.Name "x" ⟨0,0,0,0⟩
theorem gz {P:Program} {K:PySem.W.Frag} {mg:Str→Option Value} {base:Heap} {w:World} {CX:CXT} {cc iS fI:Addr}:Ug P (defBody cw) Dh ["part", "index"] "BadText.__init__" (defArgs cw) (defScope cw) ft K mg base w CX cc iS fI where
 shape:=⟨_,_,_,_,_,_,_,_,rfl, .cons (.cons (.nil)),rfl,fun _=>⟨_,rfl⟩,fun _=>rfl⟩
 l8:=by decide
 ns:=NdefX.nscope_by (by decide +kernel)
 db:=by decide
 bind:=fun _ _ _ _ _ us hl=>match us,hl with | [_,_,_],_=>rfl
 one:=fun _=>rfl
 arg:=fun A outer s H G=>qm (Jj.cons aA (Jj.cons (fB (af 1)) (Jj.cons aA (Jj.cons (fB (af 2)) (Jj.nil)))))
def ud:M:=Gz [eK (.str "line "),eU ie (eV 1),eK (.str " cannot stand here")]
def CO:Expr:=match defBody cz with
 | .Expr (.Call _ [a] _ _) _::_=>a
 | _=>.Name "x" ⟨0,0,0,0⟩
theorem yp {P:Program} {K:PySem.W.Frag} {mg:Str→Option Value} {base:Heap} {w:World} {CX:CXT} {cc iS fI:Addr}:Ug P (defBody cz) CO ["line"] "BadNote.__init__" (defArgs cz) (defScope cz) ud K mg base w CX cc iS fI where
 shape:=⟨_,_,_,_,_,_,_,_,rfl, .cons (.nil),rfl,fun _=>⟨_,rfl⟩,fun _=>rfl⟩
 l8:=by decide
 ns:=NdefX.nscope_by (by decide +kernel)
 db:=by decide
 bind:=fun _ _ _ _ _ us hl=>match us,hl with | [_,_],_=>rfl
 one:=fun _=>rfl
 arg:=fun A outer s H G=>qm (Jj.cons aA (Jj.cons (fB (af 1)) (Jj.cons aA (Jj.nil))))
structure Tx (P:Program) (w:World) (K:PySem.W.Frag) (mg:Str→Option Value):Prop where
 ym:bX K mg "_law_bag" AF
 g_bag:mg "_law_bag" = some (.ref (He.ga K "_law_bag"))
 bH:bX K mg "_law_take" tU
 g_take:mg "_law_take" = some (.ref (He.ga K "_law_take"))
 nK:bX K mg "_law_names" pW
 g_names:mg "_law_names" = some (.ref (He.ga K "_law_names"))
 nr:bX K mg "_law_kinds" nH
 g_kinds:mg "_law_kinds" = some (.ref (He.ga K "_law_kinds"))
 cy:bX K mg "consists_of" dM
 g_consists_of:mg "consists_of" = some (.ref (He.ga K "consists_of"))
 bD:bX K mg "is_name" ki
 g_is_name:mg "is_name" = some (.ref (He.ga K "is_name"))
 bg:bX K mg "check_pointers" dW
 g_check_pointers:mg "check_pointers" = some (.ref (He.ga K "check_pointers"))
 bE:bX K mg "value_made" gU
 g_value_made:mg "value_made" = some (.ref (He.ga K "value_made"))
 cK:bX K mg "value_used" gK
 g_value_used:mg "value_used" = some (.ref (He.ga K "value_used"))
 cP:bX K mg "is_kind" jZ
 g_is_kind:mg "is_kind" = some (.ref (He.ga K "is_kind"))
 cI:bX K mg "is_integer" gM
 g_is_integer:mg "is_integer" = some (.ref (He.ga K "is_integer"))
 dq:bX K mg "is_offset" iQ
 g_is_offset:mg "is_offset" = some (.ref (He.ga K "is_offset"))
 eH:bX K mg "is_number" iK
 g_is_number:mg "is_number" = some (.ref (He.ga K "is_number"))
 dY:bX K mg "is_value" jv
 g_is_value:mg "is_value" = some (.ref (He.ga K "is_value"))
 fA:bX K mg "is_many" kj
 g_is_many:mg "is_many" = some (.ref (He.ga K "is_many"))
 gh:bX K mg "is_step" iL
 g_is_step:mg "is_step" = some (.ref (He.ga K "is_step"))
 gb:bX K mg "size_of" kg
 g_size_of:mg "size_of" = some (.ref (He.ga K "size_of"))
 fR:bX K mg "reads_at" jp
 g_reads_at:mg "reads_at" = some (.ref (He.ga K "reads_at"))
 eM:bX K mg "writes_at" iR
 g_writes_at:mg "writes_at" = some (.ref (He.ga K "writes_at"))
 dR:bX K mg "stretches" fD
 g_stretches:mg "stretches" = some (.ref (He.ga K "stretches"))
 dj:bX K mg "fits_window" dP
 g_fits_window:mg "fits_window" = some (.ref (He.ga K "fits_window"))
 cH:bX K mg "names_used" eJ
 g_names_used:mg "names_used" = some (.ref (He.ga K "names_used"))
 bC:bX K mg "step_fits" fG
 g_step_fits:mg "step_fits" = some (.ref (He.ga K "step_fits"))
 bW:bX K mg "check_steps" gi
 g_check_steps:mg "check_steps" = some (.ref (He.ga K "check_steps"))
 bJ:bX K mg "check_places" fw
 g_check_places:mg "check_places" = some (.ref (He.ga K "check_places"))
 aW:∃ fd,FunD K "__init__" "Text.__init__" (defArgs dC) (defBody dC) (defScope dC) [.ref (He.dflAt ("Text",some "__init__") 0 K), .ref (He.dflAt ("Text",some "__init__") 1 K), .ref (He.dflAt ("Text",some "__init__") 2 K)] [] (He.ma K (He.ga K "Text") "__init__") fd
 n_Text_init_0:CI K (He.dflAt ("Text",some "__init__") 0 K)=true
 n_Text_init_1:CI K (He.dflAt ("Text",some "__init__") 1 K)=true
 n_Text_init_2:CI K (He.dflAt ("Text",some "__init__") 2 K)=true
 dU:∃ fd,FunD K "__eq__" "Text.__eq__" (defArgs gN) (defBody gN) (defScope gN) [] [] (He.ma K (He.ga K "Text") "__eq__") fd
 vh:bX K mg "_law_use" Aq
 g_use:mg "_law_use" = some (.ref (He.ga K "_law_use"))
 rj:bX K mg "_law_step" uj
 g_step:mg "_law_step" = some (.ref (He.ga K "_law_step"))
 lQ:∃ fd,FunD K "_law_drawn" "_law_drawn" (defArgs jV) (defBody jV) (defScope jV) [.int 4] [] (He.ga K "_law_drawn") fd
 g_drawn:mg "_law_drawn" = some (.ref (He.ga K "_law_drawn"))
 mq:bX K mg "_law_made" uz
 g_made:mg "_law_made" = some (.ref (He.ga K "_law_made"))
 qV:bX K mg "_law_near" ux
 g_near:mg "_law_near" = some (.ref (He.ga K "_law_near"))
 cB:∃ fd,FunD K "names" "Text.names" (defArgs df) (defBody df) (defScope df) [] [] (He.ma K (He.ga K "Text") "names") fd
 aV:∃ fd,FunD K "made_values" "Text.made_values" (defArgs bq) (defBody bq) (defScope bq) [] [] (He.ma K (He.ga K "Text") "made_values") fd
 bK:∃ fd,FunD K "with_step" "Text.with_step" (defArgs cb) (defBody cb) (defScope cb) [] [] (He.ma K (He.ga K "Text") "with_step") fd
 dB:bX K mg "spot_word" iP
 g_spot_word:mg "spot_word" = some (.ref (He.ga K "spot_word"))
 gD:bX K mg "step_line" iJ
 g_step_line:mg "step_line" = some (.ref (He.ga K "step_line"))
 iA:bX K mg "lines_of" fK
 g_lines_of:mg "lines_of" = some (.ref (He.ga K "lines_of"))
 aU:bX K mg "write_text" gO
 g_write_text:mg "write_text" = some (.ref (He.ga K "write_text"))
 fH:bX K mg "number_in" iM
 g_number_in:mg "number_in" = some (.ref (He.ga K "number_in"))
 fP:bX K mg "count_in" jq
 g_count_in:mg "count_in" = some (.ref (He.ga K "count_in"))
 ei:bX K mg "spot_in" km
 g_spot_in:mg "spot_in" = some (.ref (He.ga K "spot_in"))
 fC:bX K mg "checked" kc
 g_checked:mg "checked" = some (.ref (He.ga K "checked"))
 iG:bX K mg "value_in" jw
 g_value_in:mg "value_in" = some (.ref (He.ga K "value_in"))
 jr:bX K mg "step_in" ke
 g_step_in:mg "step_in" = some (.ref (He.ga K "step_in"))
 iD:bX K mg "entry_in" jt
 g_entry_in:mg "entry_in" = some (.ref (He.ga K "entry_in"))
 fF:∃ fd,FunD K "read" "Text.read" (defArgs ej) (defBody ej) (defScope ej) [] [] (He5.wf K (He.ga K "Text") "classmethod" "read") fd
 dO:bX K mg "read_text" iI
 g_read_text:mg "read_text" = some (.ref (He.ga K "read_text"))
 pF:bX K mg "law" xB
 g_law:mg "law" = some (.ref (He.ga K "law"))
 c_LOWER:∃ t,mg "LOWER" = some (.str "abcdefghijklmnopqrstuvwxyz" t)
 c_NAME_SIGNS:∃ t,mg "NAME_SIGNS" = some (.str "abcdefghijklmnopqrstuvwxyz0123456789" t)
 c_MOST_SIGNS:∃ t,mg "MOST_SIGNS" = some (.int 8 t)
 c_MOST_POINTERS:∃ t,mg "MOST_POINTERS" = some (.int 3 t)
 c_MOST_NAMES:∃ t,mg "MOST_NAMES" = some (.int 4 t)
 c_FIGURES:∃ t,mg "FIGURES" = some (.str "0123456789" t)
 c_MOST_SIZE:∃ t,mg "MOST_SIZE" = some (.int 4 t)
 c_MOST_LETTERS:∃ t,mg "MOST_LETTERS" = some (.int 6 t)
 c_WINDOW:∃ t,mg "WINDOW" = some (.int 8 t)
 c_MOST_BYTES:∃ t,mg "MOST_BYTES" = some (.int 8 t)
 c_MOST_STEPS:∃ t,mg "MOST_STEPS" = some (.int 12 t)
 c_MOST_PLACES:∃ t,mg "MOST_PLACES" = some (.int 2 t)
 c_MOST_FIGURES:∃ t,mg "MOST_FIGURES" = some (.int 40 t)
 g_Text:mg "Text" = some (.ref (He.ga K "Text"))
 c_Text:Cls K (He.ga K "Text")
 na_Text_places:NoAttr K (He.ga K "Text") "places"
 na_Text_pointers:NoAttr K (He.ga K "Text") "pointers"
 na_Text_steps:NoAttr K (He.ga K "Text") "steps"
 mk_Text:L2.Mk K (He.ga K "Text") (He.ma K (He.ga K "Text") "__init__")
 m_Text_names:Meth K (He.ga K "Text") "names" (He.ma K (He.ga K "Text") "names")
 m_Text_made_values:Meth K (He.ga K "Text") "made_values" (He.ma K (He.ga K "Text") "made_values")
 m_Text_with_step:Meth K (He.ga K "Text") "with_step" (He.ma K (He.ga K "Text") "with_step")
 eq_Text:Ux K (He.ga K "Text") (He.ma K (He.ga K "Text") "__eq__")
 rd_Text:ClX.CRead K (He.ga K "Text") (.type "type")
 cm_Text_read:ClX.CMet K (He.ga K "Text") (.type "type") "read" (He.ma K (He.ga K "Text") "read") (He5.wf K (He.ga K "Text") "classmethod" "read")
 is_:OR K W6 YA
 t_PARTS:Ha w K mg "PARTS" t_PARTS
 b_abs:mg "abs" = none
 b_len:mg "len" = none
 b_int:mg "int" = none
 b_range:mg "range" = none
 b_all:mg "all" = none
 b_isinstance:mg "isinstance" = none
 b_str:mg "str" = none
 b_list:mg "list" = none
 b_enumerate:mg "enumerate" = none
 b_tuple:mg "tuple" = none
 b_min:mg "min" = none
 b_bool:mg "bool" = none
 b_zip:mg "zip" = none
 b_any:mg "any" = none
 b_max:mg "max" = none
 b_sum:mg "sum" = none
 b_super:mg "super" = none
 s_BadText:Eu K P (He.ga K "BadText") (He.ma K (He.ga K "BadText") "__init__") (uO K (He.ma K (He.ga K "BadText") "__init__")) (sy K (He.ma K (He.ga K "BadText") "__init__")) "ValueError" "ValueError.__new__" "ValueError.__init__" XO "BadText.__init__" (defArgs cw) (defBody cw) (defScope cw) ["part", "index"]
 s_BadNote:Eu K P (He.ga K "BadNote") (He.ma K (He.ga K "BadNote") "__init__") (uO K (He.ma K (He.ga K "BadNote") "__init__")) (sy K (He.ma K (He.ga K "BadNote") "__init__")) "ValueError" "ValueError.__new__" "ValueError.__init__" XO "BadNote.__init__" (defArgs cz) (defBody cz) (defScope cz) ["line"]
 ptop:(P.main.scope.names.lookup ("super" : Str)).isSome=false
 g_BadText:mg "BadText" = some (.ref (He.ga K "BadText"))
 g_BadNote:mg "BadNote" = some (.ref (He.ga K "BadNote"))
 gQ:Js K (.ref (He.ga K "BadText")) gQ
theorem Wk (s:PySem.W.SharedT):ob s=hk.obs s.abs:=N3 (HandSHeadRun.getT_eq s)
def Pr (w:World):Prop:=HandSHeadRun.RunEq R (PySem.W.view R.prog [68]) hk ob 12000 loose w
end Kw
namespace KwH
open PySem PySem.W PySem.Calls PyProof.Rows HandSHeadRun Kw
theorem map3 {α β γ δ:Type} {o:Option α} {f:α→β} {g:α→γ} {h:α→δ} {b:β} {c:γ} {d:δ} (h1:o.map (fun s=>(f s,g s))=some (b,c)) (h2:o.map h=some d):o.map (fun s=>(f s,g s,h s))=some (b,c,d):=by
 cases o with
 | none=>cases h1
 | some x=>simp_all
end KwH
namespace Kw
open PySem PySem.Spec PyProof.Rows L2 Z
theorem YH (w:World):Pr (w.withFollow "special-get-raises" false):=fun os=>KwH.map3 (KwH.pB_false w os) (KwH.pD_false w os)
theorem Yd (w:World):Pr (w.withFollow "special-get-raises" true):=fun os=>KwH.map3 (KwH.pB_true w os) (KwH.pD_true w os)
theorem run (w:World):HandSHeadRun.RunEq R (PySem.W.view R.prog [68]) hk ob 12000 loose w:=PySem.W.byRow2 "special-get-raises" (P:=Pr) YH Yd w
section
variable {P:Program} {w:World} {K:PySem.W.Frag} {mg:Str→Option Value} {base:Heap}
def Qk:MS:=ao (cV 2 (FD (tB yu (eV 1) (eF dh (aC (eV 0) (aN)))) (bV (eV 0) (eV 1)) (eK (.int 0)))) (ao (cV 3 (FD (tB Pd (eF Et (aC (eV 2) (aN))) (eB sj (eK (.int 10)) (eK (.int 18)))) (eF Et (aC (eV 2) (aN))) (eK (.int 0)))) (ao (cV 4 (eB ck (eK (.int 104729)) (eB lO (eK (.int 7919)) (eV 1)))) (ao (lZ (mE (uD (eV 0) (oN) (oS (eK (.int 40))))) (bh 5) (ao (cV 4 (eB mW (eF kE (aC (eB ck (eB ck (eB lO (eV 4) (eK (.int 48271))) (eB lO (eV 5) (eK (.int 69621)))) (eK (.int 11))) (aN))) (eK (.int 2147483629)))) az)) (ao (be (Ec (aC (eV 3) (aC (eB ck (eB mW (eF kE (aC (eB ck (eV 4) (eB lO (eK (.int 31)) (eV 2))) (aN))) (eK (.int 2147483563))) (eK (.int 1))) (aN))))) az))))
def ym:Fn:=runB 6 Qk
theorem Uk (T:Tx P w K mg):jo P w K mg base 1 "_law_bag" ["_law_script", "_law_at"] ym :=
 (cD (k:=0) (N:=["_law_script", "_law_at", "_law_cell", "_law_great", "_law_mixed", "_law_one"]) T.ym uy TN fun cdv A outer s H E G hr=>ac (aY 2 uy.nd (mz (wU (af 1) (bF T.b_len (aa (af 0) ae))) (am hr.u16 (af 0) (af 1)) ai)) (ac (aY 3 uy.nd (mz (WS (Bz T.b_abs (aa (af 2) ae)) (xD ai ai)) (Bz T.b_abs (aa (af 2) ae)) ai)) (ac (aY 4 uy.nd (cf ai (qE ai (af 1)))) (ac (kJ (g:=gName 5) (passes_of rfl) rfl (jO bu) (ey (dI (af 0) fj (fh ai))) (pg_name (i:=5) uy.nd rfl (by first | exact Or.inl rfl | exact Or.inr rfl)) aB (ac (aY 4 uy.nd (pD (fQ T.b_int (aa (cf (cf (qE (af 4) ai) (qE (af 5) ai)) ai) ae)) ai)) aj)) (ac (au (gR (aa (af 3) (aa (cf (pD (fQ T.b_int (aa (cf (af 4) (qE ai (af 2))) ae)) ai) ai) ae)))) aj)))))
def K5:MS:=ao (iq (tB BS (bV (eV 0) (eK (.int 0))) (eK (.int 0))) (ao (cV 2 (eB mW (bV (eV 0) (eK (.int 0))) (eV 1))) (ao (Dz (eV 0) (eK (.int 0)) (eB vb (bV (eV 0) (eK (.int 0))) (eV 1))) (ao (be (eV 2)) az))) az) (ao (Dz (eV 0) (eK (.int 1)) (eB mW (eF kE (aC (eB ck (eB lO (bV (eV 0) (eK (.int 1))) (eK (.int 48271))) (eK (.int 12820163))) (aN))) (eK (.int 2147483647)))) (ao (be (eB mW (eB mW (eF kE (aC (eB sj (bV (eV 0) (eK (.int 1))) (eK (.int 3))) (aN))) (eK (.int 2147483629))) (eV 1))) az))
def bH:Fn:=runB 3 K5
theorem bN (T:Tx P w K mg):jo P w K mg base 1 "_law_take" ["_law_bag_here", "_law_many"] bH :=
 (cD (k:=0) (N:=["_law_bag_here", "_law_many", "_law_digit"]) T.bH GO N1 fun cdv A outer s H E G hr=>ac (aS (uJ (am hr.u16 (af 0) ai) ai) (ac (aY 2 GO.nd (pD (am hr.u16 (af 0) ai) (af 1))) (ac (xo hr.u16 (BM (am hr.u16 (af 0) ai) (af 1)) (af 0) ai) (ac (au (af 2)) aj))) aj) (ac (xo hr.u16 (pD (fQ T.b_int (aa (cf (qE (am hr.u16 (af 0) ai) ai) ai) ae)) ai) (af 0) ai) (ac (au (pD (pD (fQ T.b_int (aa (xD (am hr.u16 (af 0) ai) ai) ae)) ai) (af 1))) aj)))
def GV:MS:=ao (cV 2 (bV (eL (aC (eK (.str "")) (aC (eK (.str "p")) (aC (eK (.str "ab1")) (aC (eK (.str "pointer")) (aN)))))) (aw 2 bH (aC (eV 0) (aC (eK (.int 4)) (aN)))))) (ao (qJ [3,4,5] (aC (aw 2 bH (aC (eV 0) (aC (eB ck (eF dh (aC (eV 2) (aN))) (eK (.int 1))) (aN)))) (aC (aw 2 bH (aC (eV 0) (aC (eK (.int 26)) (aN)))) (aC (Ec (aN)) (aN))))) (ao (lZ (PM (eV 1)) (bh 6) (ao (cV 7 (bV (eK (.str "abcdefghijklmnopqrstuvwxyz")) (eB mW (eB ck (eV 4) (eB lO (eK (.int 5)) (eV 6))) (eK (.int 26))))) (ao (ik (D9 nL (eV 5) (aC (eB ck (eB ck (uD (eV 2) (oN) (oS (eV 3))) (eV 7)) (uD (eV 2) (oS (eV 3)) (oN))) aN))) az))) (ao (be (eV 5)) az)))
def nK:Fn:=runZ 8 GV
theorem Jt (T:Tx P w K mg):jo P w K mg base 2 "_law_names" ["_law_bag_here", "_law_many"] nK :=
 Au (cD (k:=1) (N:=["_law_bag_here", "_law_many", "_law_stem", "_law_at", "_law_begin", "_law_found", "_law_k", "_law_sign"]) T.nK pQ Lj fun cdv A outer s H E G hr=>ac (aY 2 pQ.nd (am hr.u16 (jL (aa aA (aa aA (aa aA (aa aA ae))))) (ap (bN T) (hr.mono (by decide)) (aa (af 0) (aa ai ae))))) (ac (Nf 3 4 5 rfl pQ.nd (aa (ap (bN T) (hr.mono (by decide)) (aa (af 0) (aa (cf (bF T.b_len (aa (af 2) ae)) ai) ae))) (aa (ap (bN T) (hr.mono (by decide)) (aa (af 0) (aa ai ae))) (aa (gR ae) ae)))) (ac (kJ (g:=gName 6) (passes_of rfl) rfl (pi_range1 rfl T.b_range eY) (xG (af 1)) (pg_name (i:=6) pQ.nd rfl (by first | exact Or.inl rfl | exact Or.inr rfl)) aB (ac (aY 7 pQ.nd (am hr.u16 aA (pD (cf (af 4) (qE ai (af 6))) ai))) (ac (fO (kW (af 5) (cf (cf (dI (af 2) fj (fh (af 3))) (af 7)) (dI (af 2) (fh (af 3)) fj)))) aj))) (ac (au (af 5)) aj))))
def G5:MS:=ao (cV 2 (bV (eL (aC (eK (.str "int")) (aC (eK (.str "real")) (aC (eK (.str "i")) (aC (eK (.str "abcdef")) (aN)))))) (aw 2 bH (aC (eV 0) (aC (eK (.int 4)) (aN)))))) (ao (cV 3 (eL (aC (eB ck (eV 2) (eK (.str "4"))) (aC (eB ck (eV 2) (eK (.str "2"))) (aC (eK (.str "half2")) (aC (eK (.str "byte1")) (aC (eK (.str "odd3")) (aC (eK (.str "word4")) (aC (eB ck (eV 2) (eK (.str "1"))) (aC (eK (.str "real4")) (aN))))))))))) (ao (be (wH (PM (eV 1)) (bh 4) iY (bV (eV 3) (aw 2 bH (aC (eV 0) (aC (eK (.int 8)) (aN))))) [4])) az))
def nr:Fn:=runB 5 G5
theorem Kn (T:Tx P w K mg):jo P w K mg base 2 "_law_kinds" ["_law_bag_here", "_law_many"] nr :=
 (cD (k:=1) (N:=["_law_bag_here", "_law_many", "_law_letters", "_law_some", "_law_k"]) T.nr pR Jx fun cdv A outer s H E G hr=>ac (aY 2 pR.nd (am hr.u16 (jL (aa aA (aa aA (aa aA (aa aA ae))))) (ap (bN T) (hr.mono (by decide)) (aa (af 0) (aa ai ae))))) (ac (aY 3 pR.nd (jL (aa (cf (af 2) aA) (aa (cf (af 2) aA) (aa aA (aa aA (aa aA (aa aA (aa (cf (af 2) aA) (aa aA ae)))))))))) (ac (au (lW (own:=[("_law_k",4)]) (g:=gName 4) rfl pR.nd (pi_range1 rfl T.b_range eY) (xG (af 1)) (blkOk_by (own:=[("_law_k",4)]) (N:=["_law_bag_here", "_law_many", "_law_letters", "_law_some", "_law_k"]) (sc:=defScope nH) (by decide +kernel)) (fun _ _ _ _ _=>pg_name (i:=4) pR.nd rfl (by first | exact Or.inl rfl | exact Or.inr rfl)) aB (by decide) (fun B hB=>by obtain⟨s',H',Cc,cl,fp,hB⟩:=hB; obtain⟨BX,W',qe,G'⟩:=B; cases hB; exact am hr.u16 (af 3) (ap (bN T) (hr.mono (by decide)) (aa (af 0) (aa ai ae)))))) aj)))
def qw:MS:=ao (be (eF qH (aC (wH (mE (eV 0)) (bh 2) iY (Hq false (eV 2) (eV 1)) [2]) (aN)))) az
def cy:Fn:=runB 3 qw
theorem kI (T:Tx P w K mg):jo P w K mg base 1 "consists_of" ["word", "signs"] cy :=
 (cD (k:=0) (N:=["word", "signs", "sign"]) T.cy fo oh fun cdv A outer s H E G hr=>ac (au (Fx rfl T.b_all (aa (lW (own:=[("sign",2)]) (g:=gName 2) rfl fo.nd (jO bu) (ey (af 0)) (blkOk_by (own:=[("sign",2)]) (N:=["word", "signs", "sign"]) (sc:=defScope dM) (by decide +kernel)) (fun _ _ _ _ _=>pg_name (i:=2) fo.nd rfl (by first | exact Or.inl rfl | exact Or.inr rfl)) aB (by decide) (fun B hB=>by obtain⟨s',H',Cc,cl,fp,hB⟩:=hB; obtain⟨BX,W',qe,G'⟩:=B; cases hB; exact pf hr.u65 (af 2) (af 1))) ae))) aj)
def Ax:MS:=ao (iq (qS (tN (tV (eF br (aC (eV 0) (aC (eK (.ty "str")) (aN)))))) (tN (Um (fun i j=>decide (i≤j)) (fun i j=>decide (i≤j)) (eK (.int 1)) (eF dh (aC (eV 0) (aN))) (eK (.int 8))))) (ao (be (eK (.bl false))) az) az) (ao (be (ub (Hq false (bV (eV 0) (eK (.int 0))) (eK (.str "abcdefghijklmnopqrstuvwxyz"))) (aw 2 cy (aC (eV 0) (aC (eK (.str "abcdefghijklmnopqrstuvwxyz0123456789")) (aN)))))) az)
def bD:Fn:=runB 1 Ax
theorem iB (T:Tx P w K mg):jo P w K mg base 2 "is_name" ["thing"] bD :=
 (cD (k:=1) (N:=["thing"]) T.bD wZ xj fun cdv A outer s H E G hr=>ac (aS (fY (dw (bT (eX (dJ T.b_isinstance (aa (af 0) (aa (gp T.b_str) ae))))) (cS (bT (wj ai (bF T.b_len (aa (af 0) ae)) (gX T.c_MOST_SIGNS)))))) (ac (au iu) aj) aj) (ac (au (gv (pf hr.u65 (am hr.u16 (af 0) ai) (sJ T.c_LOWER)) (gA (ap (kI T) (hr.mono (by decide)) (aa (af 0) (aa (sJ T.c_NAME_SIGNS) ae)))))) aj))
def jz:MS:=ao (iq (qS (tN (tV (eF br (aC (eV 0) (aC (eK (.ty "tuple")) (aN)))))) (tB BS (eF dh (aC (eV 0) (aN))) (eF vC (aC (eK (.int 3)) (aC (eB jR (eK (.int 4)) (eF dh (aC (eV 1) (aN)))) (aN)))))) (ao (hU "BadText" ["part", "index"] ft (aC (eK (.str "pointers")) (aC (eK .non) (aN)))) az) az) (ao (cV 2 (og (aC (eV 1) (aN)))) (ao (lZ (FW (eV 0)) (eG 2 (aO (bh 3) (aO (bh 4) cu))) (ao (iq (qS (tN (tV (aw 1 bD (aC (eV 4) (aN))))) (O8 false (eV 4) (eV 2))) (ao (hU "BadText" ["part", "index"] ft (aC (eK (.str "pointers")) (aC (eV 3) (aN)))) az) az) (ao (ik (D9 nL (eV 2) (aC (eV 4) aN))) az))) (ao (be (eV 2)) az)))
def bg:Fn:=runZ 5 jz
theorem sD (T:Tx P w K mg):jo P w K mg base 3 "check_pointers" ["pointers", "known"] bg :=
 Au (cD (k:=2) (N:=["pointers", "known", "names", "index", "name"]) T.bg cq ly fun cdv A outer s H E G hr=>ac (aS (fY (dw (bT (eX (dJ T.b_isinstance (aa (af 0) (aa (gp T.b_tuple) ae))))) (cS (uJ (bF T.b_len (aa (af 0) ae)) (tS rfl T.b_min (aa (gX T.c_MOST_POINTERS) (aa (kD (gX T.c_MOST_NAMES) (bF T.b_len (aa (af 1) ae))) ae))))))) (ac (ir (k:=0) rfl T.s_BadText ⟨⟨_,rfl,rfl⟩,rfl,rfl,rfl,rfl,T.b_super,T.ptop⟩ gz (hr.mono (by decide)) T.g_BadText (aa aA (aa bY ae))) aj) aj) (ac (aY 2 cq.nd (xh T.b_list (aa (af 1) ae))) (ac (kJ (g:=(gTup _ 2 (gCons (gName 3) (gCons (gName 4) (gNil))))) (passes_of rfl) rfl (mP rfl T.b_enumerate eY) (ja (af 0)) (pg_tup rfl (pgs_cons (pg_name (i:=3) cq.nd rfl (by first | exact Or.inl rfl | exact Or.inr rfl)) (pgs_cons (pg_name (i:=4) cq.nd rfl (by first | exact Or.inl rfl | exact Or.inr rfl)) (pgs_nil)))) (cU (aD aB (aD aB bS))) (ac (aS (fY (dw (bT (eX (ap (iB T) (hr.mono (by decide)) (aa (af 4) ae)))) (cS (om hr.u65 (af 4) (af 2))))) (ac (ir (k:=0) rfl T.s_BadText ⟨⟨_,rfl,rfl⟩,rfl,rfl,rfl,rfl,T.b_super,T.ptop⟩ gz (hr.mono (by decide)) T.g_BadText (aa aA (aa (af 3) ae))) aj) aj) (ac (fO (kW (af 2) (af 4))) aj))) (ac (au (af 2)) aj))))
def tG:MS:=ao (be (FD (tB bP (bV (eV 0) (eK (.int 0))) (eK (.str "read"))) (bV (eV 0) (eK (.int 1))) (eK .non))) az
def bE:Fn:=runB 1 tG
theorem ij (T:Tx P w K mg):jo P w K mg base 1 "value_made" ["step"] bE :=
 (cD (k:=0) (N:=["step"]) T.bE qp qj fun cdv A outer s H E G hr=>ac (au (mz (cJ hr.units (am hr.u16 (af 0) ai) aA) (am hr.u16 (af 0) ai) bY)) aj)
def nf:MS:=ao (iq (tB bP (bV (eV 0) (eK (.int 0))) (eK (.str "tell"))) (ao (be (bV (eV 0) (eK (.int 1)))) az) az) (ao (iq (vE (tB bP (bV (eV 0) (eK (.int 0))) (eK (.str "write"))) (tV (eF br (aC (bV (eV 0) (eK (.int 4))) (aC (eK (.ty "str")) (aN)))))) (ao (be (bV (eV 0) (eK (.int 4)))) az) az) (ao (be (eK .non)) az))
def cK:Fn:=runB 1 nf
theorem zf (T:Tx P w K mg):jo P w K mg base 1 "value_used" ["step"] cK :=
 (cD (k:=0) (N:=["step"]) T.cK qt qv fun cdv A outer s H E G hr=>ac (aS (cJ hr.units (am hr.u16 (af 0) ai) aA) (ac (au (am hr.u16 (af 0) ai)) aj) aj) (ac (aS (fY (kR (cJ hr.units (am hr.u16 (af 0) ai) aA) (jB (eX (dJ T.b_isinstance (aa (am hr.u16 (af 0) ai) (aa (gp T.b_str) ae))))))) (ac (au (am hr.u16 (af 0) ai)) aj) aj) (ac (au bY) aj)))
def zK:MS:=ao (iq (qS (tN (tV (eF br (aC (eV 0) (aC (eK (.ty "str")) (aN)))))) (tN (Um (fun i j=>decide (i≤j)) (fun i j=>decide (i≤j)) (eK (.int 2)) (eF dh (aC (eV 0) (aN))) (eB ck (eK (.int 6)) (eK (.int 1)))))) (ao (be (eK (.bl false))) az) az) (ao (be (ub (aw 2 cy (aC (uD (eV 0) (oN) (oS (eU ii (eK (.int 1))))) (aC (eK (.str "abcdefghijklmnopqrstuvwxyz")) (aN)))) (ub (Hq false (bV (eV 0) (eU ii (eK (.int 1)))) (eK (.str "0123456789"))) (Nb (fun i j=>decide (i≤j)) (fun i j=>decide (i≤j)) (eK (.int 1)) (eF kE (aC (bV (eV 0) (eU ii (eK (.int 1)))) (aN))) (eK (.int 4)))))) az)
def cP:Fn:=runB 1 zK
theorem qG (T:Tx P w K mg):jo P w K mg base 2 "is_kind" ["thing"] cP :=
 (cD (k:=1) (N:=["thing"]) T.cP yh yd fun cdv A outer s H E G hr=>ac (aS (fY (dw (bT (eX (dJ T.b_isinstance (aa (af 0) (aa (gp T.b_str) ae))))) (cS (bT (wj ai (bF T.b_len (aa (af 0) ae)) (cf (gX T.c_MOST_LETTERS) ai)))))) (ac (au iu) aj) aj) (ac (au (gv (ap (kI T) (hr.mono (by decide)) (aa (dI (af 0) fj (fh (hZ ai))) (aa (sJ T.c_LOWER) ae))) (gv (pf hr.u65 (am hr.u16 (af 0) (hZ ai)) (sJ T.c_FIGURES)) (gA (vK ai (fQ T.b_int (aa (am hr.u16 (af 0) (hZ ai)) ae)) (gX T.c_MOST_SIZE)))))) aj))
def td:MS:=ao (be (ub (eF br (aC (eV 0) (aC (eK (.ty "int")) (aN)))) (Ox (eF br (aC (eV 0) (aC (eK (.ty "bool")) (aN))))))) az
def cI:Fn:=runB 1 td
theorem mj (T:Tx P w K mg):jo P w K mg base 1 "is_integer" ["thing"] cI :=
 (cD (k:=0) (N:=["thing"]) T.cI qr qh fun cdv A outer s H E G hr=>ac (au (gv (dJ T.b_isinstance (aa (af 0) (aa (gp T.b_int) ae))) (gA (LU (dJ T.b_isinstance (aa (af 0) (aa (gp T.b_bool) ae))))))) aj)
def uY:MS:=ao (be (ub (aw 1 cI (aC (eV 0) (aN))) (Nb (fun i j=>decide (i≤j)) (fun i j=>decide (i < j)) (eK (.int 0)) (eV 0) (eK (.int 8))))) az
def dq:Fn:=runB 1 uY
theorem BD (T:Tx P w K mg):jo P w K mg base 2 "is_offset" ["thing"] dq :=
 (cD (k:=1) (N:=["thing"]) T.dq tH rZ fun cdv A outer s H E G hr=>ac (au (gv (ap (mj T) (hr.mono (by decide)) (aa (af 0) ae)) (gA (G2 ai (af 0) (gX T.c_WINDOW))))) aj)
def vn:MS:=ao (be (ub (aw 1 cI (aC (eV 0) (aN))) (eB yu (eF Et (aC (eV 0) (aN))) (eB sj (eK (.int 10)) (eK (.int 40)))))) az
def eH:Fn:=runB 1 vn
theorem AL (T:Tx P w K mg):jo P w K mg base 2 "is_number" ["thing"] eH :=
 (cD (k:=1) (N:=["thing"]) T.eH sR tA fun cdv A outer s H E G hr=>ac (au (gv (ap (mj T) (hr.mono (by decide)) (aa (af 0) ae)) (gA (Rl (Bz T.b_abs (aa (af 0) ae)) (xD ai ai))))) aj)
def xI:MS:=ao (be (We (aw 1 eH (aC (eV 0) (aN))) (aw 1 bD (aC (eV 0) (aN))))) az
def dY:Fn:=runB 1 xI
theorem C9 (T:Tx P w K mg):jo P w K mg base 3 "is_value" ["thing"] dY :=
 (cD (k:=2) (N:=["thing"]) T.dY vr vv fun cdv A outer s H E G hr=>ac (au (FS (ap (AL T) (hr.mono (by decide)) (aa (af 0) ae)) (gA (ap (iB T) (hr.mono (by decide)) (aa (af 0) ae))))) aj)
def AA:MS:=ao (be (ub (aw 1 cI (aC (eV 0) (aN))) (Nb (fun i j=>decide (i≤j)) (fun i j=>decide (i≤j)) (eK (.int 1)) (eV 0) (eK (.int 8))))) az
def fA:Fn:=runB 1 AA
theorem Fd (T:Tx P w K mg):jo P w K mg base 2 "is_many" ["thing"] fA :=
 (cD (k:=1) (N:=["thing"]) T.fA xE yx fun cdv A outer s H E G hr=>ac (au (gv (ap (mj T) (hr.mono (by decide)) (aa (af 0) ae)) (gA (vK ai (af 0) (gX T.c_MOST_BYTES))))) aj)
def zL:MS:=ao (iq (qS (tN (tV (eF br (aC (eV 0) (aC (eK (.ty "tuple")) (aN)))))) (qS (tB bP (eF dh (aC (eV 0) (aN))) (eK (.int 0))) (tN (tV (eF br (aC (bV (eV 0) (eK (.int 0))) (aC (eK (.ty "str")) (aN)))))))) (ao (be (eK (.bl false))) az) az) (ao (iq (Gn t_PARTS (bV (eV 0) (eK (.int 0)))) (ao (be (eK (.bl false))) az) az) (ao (cV 1 (AW t_PARTS (bV (eV 0) (eK (.int 0))))) (ao (iq (tB lm (eF dh (aC (eV 0) (aN))) (eB ck (eF dh (aC (eV 1) (aN))) (eK (.int 1)))) (ao (be (eK (.bl false))) az) az) (ao (be (eF qH (aC (wH (XG (eV 1) (uD (eV 0) (oS (eK (.int 1))) (oN))) (eG 2 (aO (bh 2) (aO (bh 3) cu))) iY (qZ [("is_name",1,bD),("is_kind",1,cP),("is_offset",1,dq),("is_value",1,dY),("is_many",1,fA)] 2 (aC (eV 3) (aN))) [2,3]) (aN)))) az))))
def gh:Fn:=runB 4 zL
theorem xF (T:Tx P w K mg):jo P w K mg base 4 "is_step" ["thing"] gh :=
 (cD (k:=3) (N:=["thing", "checks", "check", "part"]) T.gh eP ye fun cdv A outer s H E G hr=>ac (aS (fY (dw (bT (eX (dJ T.b_isinstance (aa (af 0) (aa (gp T.b_tuple) ae))))) (dw (cJ hr.units (bF T.b_len (aa (af 0) ae)) ai) (cS (bT (eX (dJ T.b_isinstance (aa (am hr.u16 (af 0) ai) (aa (gp T.b_str) ae))))))))) (ac (au iu) aj) aj) (ac (aS (zI T.t_PARTS (am hr.u16 (af 0) ai)) (ac (au iu) aj) aj) (ac (aY 1 eP.nd (DD T.t_PARTS (am hr.u16 (af 0) ai))) (ac (aS (ow hr.units (bF T.b_len (aa (af 0) ae)) (cf (bF T.b_len (aa (af 1) ae)) ai)) (ac (au iu) aj) aj) (ac (au (Fx rfl T.b_all (aa (lW (own:=[("check",2),("part",3)]) (g:=(gTup _ 2 (gCons (gName 2) (gCons (gName 3) (gNil))))) rfl eP.nd (NU rfl T.b_zip eY) (GU (af 1) (dI (af 0) (fh ai) fj)) (blkOk_by (own:=[("check",2),("part",3)]) (N:=["thing", "checks", "check", "part"]) (sc:=defScope iL) (by decide +kernel)) (fun _ _ _ _ _=>pg_tup rfl (pgs_cons (pg_name (i:=2) eP.nd rfl (by first | exact Or.inl rfl | exact Or.inr rfl)) (pgs_cons (pg_name (i:=3) eP.nd rfl (by first | exact Or.inl rfl | exact Or.inr rfl)) (pgs_nil)))) (cU (aD aB (aD aB bS))) (by decide) (fun B hB=>by obtain⟨s',H',Cc,cl,fp,hB⟩:=hB; obtain⟨BX,W',qe,G'⟩:=B; cases hB; exact LF (k:=3) 2 (List.forall_mem_cons.mpr ⟨⟨["thing"],rfl,(iB T).mono (by decide)⟩,(List.forall_mem_cons.mpr ⟨⟨["thing"],rfl,(qG T).mono (by decide)⟩,(List.forall_mem_cons.mpr ⟨⟨["thing"],rfl,(BD T).mono (by decide)⟩,(List.forall_mem_cons.mpr ⟨⟨["thing"],rfl,(C9 T).mono (by decide)⟩,(List.forall_mem_cons.mpr ⟨⟨["thing"],rfl,(Fd T).mono (by decide)⟩,(fun _ h=>nomatch h)⟩)⟩)⟩)⟩)⟩) (hr.mono (by decide)) (aa (af 3) ae))) ae))) aj)))))
def zo:MS:=ao (be (eF kE (aC (bV (eV 0) (eU ii (eK (.int 1)))) (aN)))) az
def gb:Fn:=runB 1 zo
theorem xM (T:Tx P w K mg):jo P w K mg base 1 "size_of" ["kind"] gb :=
 (cD (k:=0) (N:=["kind"]) T.gb xq xS fun cdv A outer s H E G hr=>ac (au (fQ T.b_int (aa (am hr.u16 (af 0) (hZ ai)) ae))) aj)
def wJ:MS:=ao (iq (tB bP (bV (eV 0) (eK (.int 0))) (eK (.str "read"))) (ao (be (eT (aC (bV (eV 0) (eK (.int 3))) (aC (bV (eV 0) (eK (.int 4))) (aC (aw 1 gb (aC (bV (eV 0) (eK (.int 2))) (aN))) (aN)))))) az) az) (ao (iq (tB bP (bV (eV 0) (eK (.int 0))) (eK (.str "copy"))) (ao (be (eT (aC (bV (eV 0) (eK (.int 4))) (aC (bV (eV 0) (eK (.int 5))) (aC (bV (eV 0) (eK (.int 1))) (aN)))))) az) az) (ao (be (eK .non)) az))
def fR:Fn:=runB 1 wJ
theorem C8 (T:Tx P w K mg):jo P w K mg base 2 "reads_at" ["step"] fR :=
 (cD (k:=1) (N:=["step"]) T.fR vg uU fun cdv A outer s H E G hr=>ac (aS (cJ hr.units (am hr.u16 (af 0) ai) aA) (ac (au (bI (aa (am hr.u16 (af 0) ai) (aa (am hr.u16 (af 0) ai) (aa (ap (xM T) (hr.mono (by decide)) (aa (am hr.u16 (af 0) ai) ae)) ae))))) aj) aj) (ac (aS (cJ hr.units (am hr.u16 (af 0) ai) aA) (ac (au (bI (aa (am hr.u16 (af 0) ai) (aa (am hr.u16 (af 0) ai) (aa (am hr.u16 (af 0) ai) ae))))) aj) aj) (ac (au bY) aj)))
def uL:MS:=ao (iq (tB bP (bV (eV 0) (eK (.int 0))) (eK (.str "write"))) (ao (be (eT (aC (bV (eV 0) (eK (.int 2))) (aC (bV (eV 0) (eK (.int 3))) (aC (aw 1 gb (aC (bV (eV 0) (eK (.int 1))) (aN))) (aN)))))) az) az) (ao (iq (qS (tB bP (bV (eV 0) (eK (.int 0))) (eK (.str "copy"))) (tB bP (bV (eV 0) (eK (.int 0))) (eK (.str "blank")))) (ao (be (eT (aC (bV (eV 0) (eK (.int 2))) (aC (bV (eV 0) (eK (.int 3))) (aC (bV (eV 0) (eK (.int 1))) (aN)))))) az) az) (ao (be (eK .non)) az))
def eM:Fn:=runB 1 uL
theorem BB (T:Tx P w K mg):jo P w K mg base 2 "writes_at" ["step"] eM :=
 (cD (k:=1) (N:=["step"]) T.eM sI sU fun cdv A outer s H E G hr=>ac (aS (cJ hr.units (am hr.u16 (af 0) ai) aA) (ac (au (bI (aa (am hr.u16 (af 0) ai) (aa (am hr.u16 (af 0) ai) (aa (ap (xM T) (hr.mono (by decide)) (aa (am hr.u16 (af 0) ai) ae)) ae))))) aj) aj) (ac (aS (fY (dw (cJ hr.units (am hr.u16 (af 0) ai) aA) (cS (cJ hr.units (am hr.u16 (af 0) ai) aA)))) (ac (au (bI (aa (am hr.u16 (af 0) ai) (aa (am hr.u16 (af 0) ai) (aa (am hr.u16 (af 0) ai) ae))))) aj) aj) (ac (au bY) aj)))
def vk:MS:=ao (be (wH (mE (eT (aC (aw 1 fR (aC (eV 0) (aN))) (aC (aw 1 eM (aC (eV 0) (aN))) (aN))))) (bh 1) (tB eW (eV 1) (eK .non)) (eV 1) [1])) az
def dR:Fn:=runB 2 vk
theorem sZ (T:Tx P w K mg):jo P w K mg base 3 "stretches" ["step"] dR :=
 (cD (k:=2) (N:=["step", "one"]) T.dR gT sL fun cdv A outer s H E G hr=>ac (au (K0 (own:=[("one",1)]) (g:=gName 1) rfl gT.nd (jO bu) (ey (bI (aa (ap (C8 T) (hr.mono (by decide)) (aa (af 0) ae)) (aa (ap (BB T) (hr.mono (by decide)) (aa (af 0) ae)) ae)))) (blkOk_by (own:=[("one",1)]) (N:=["step", "one"]) (sc:=defScope fD) (by decide +kernel)) (fun _ _ _ _ _=>pg_name (i:=1) gT.nd rfl (by first | exact Or.inl rfl | exact Or.inr rfl)) aB (by decide) (fun B hB=>by obtain⟨s',H',Cc,cl,fp,hB⟩:=hB; obtain⟨BX,W',qe,G'⟩:=B; cases hB; exact nM (af 1) bY) (fun B hB=>by obtain⟨s',H',Cc,cl,fp,hB⟩:=hB; obtain⟨BX,W',qe,G'⟩:=B; cases hB; exact af 1))) aj)
def qB:MS:=ao (be (eF qH (aC (wH (mE (aw 1 dR (aC (eV 0) (aN)))) (eG 3 (aO (bh 1) (aO (bh 2) (aO (bh 3) cu)))) iY (eB Wu (eB ck (eV 2) (eV 3)) (eK (.int 8))) [1,2,3]) (aN)))) az
def dj:Fn:=runB 4 qB
theorem xO (T:Tx P w K mg):jo P w K mg base 4 "fits_window" ["step"] dj :=
 (cD (k:=3) (N:=["step", "name", "offset", "many"]) T.dj cx oG fun cdv A outer s H E G hr=>ac (au (Fx rfl T.b_all (aa (lW (own:=[("name",1),("offset",2),("many",3)]) (g:=(gTup _ 3 (gCons (gName 1) (gCons (gName 2) (gCons (gName 3) (gNil)))))) rfl cx.nd (jO bu) (ey (ap (sZ T) (hr.mono (by decide)) (aa (af 0) ae))) (blkOk_by (own:=[("name",1),("offset",2),("many",3)]) (N:=["step", "name", "offset", "many"]) (sc:=defScope dP) (by decide +kernel)) (fun _ _ _ _ _=>pg_tup rfl (pgs_cons (pg_name (i:=1) cx.nd rfl (by first | exact Or.inl rfl | exact Or.inr rfl)) (pgs_cons (pg_name (i:=2) cx.nd rfl (by first | exact Or.inl rfl | exact Or.inr rfl)) (pgs_cons (pg_name (i:=3) cx.nd rfl (by first | exact Or.inl rfl | exact Or.inr rfl)) (pgs_nil))))) (cU (aD aB (aD aB (aD aB bS)))) (by decide) (fun B hB=>by obtain⟨s',H',Cc,cl,fp,hB⟩:=hB; obtain⟨BX,W',qe,G'⟩:=B; cases hB; exact QV (cf (af 2) (af 3)) (gX T.c_WINDOW))) ae))) aj)
def rM:MS:=ao (be (wH (mE (aw 1 dR (aC (eV 0) (aN)))) (eG 3 (aO (bh 1) (aO (bh 2) (aO (bh 3) cu)))) iY (eV 1) [1,2,3])) az
def cH:Fn:=runB 4 rM
theorem zh (T:Tx P w K mg):jo P w K mg base 4 "names_used" ["step"] cH :=
 (cD (k:=3) (N:=["step", "name", "offset", "many"]) T.cH cG qy fun cdv A outer s H E G hr=>ac (au (lW (own:=[("name",1),("offset",2),("many",3)]) (g:=(gTup _ 3 (gCons (gName 1) (gCons (gName 2) (gCons (gName 3) (gNil)))))) rfl cG.nd (jO bu) (ey (ap (sZ T) (hr.mono (by decide)) (aa (af 0) ae))) (blkOk_by (own:=[("name",1),("offset",2),("many",3)]) (N:=["step", "name", "offset", "many"]) (sc:=defScope eJ) (by decide +kernel)) (fun _ _ _ _ _=>pg_tup rfl (pgs_cons (pg_name (i:=1) cG.nd rfl (by first | exact Or.inl rfl | exact Or.inr rfl)) (pgs_cons (pg_name (i:=2) cG.nd rfl (by first | exact Or.inl rfl | exact Or.inr rfl)) (pgs_cons (pg_name (i:=3) cG.nd rfl (by first | exact Or.inl rfl | exact Or.inr rfl)) (pgs_nil))))) (cU (aD aB (aD aB (aD aB bS)))) (by decide) (fun B hB=>by obtain⟨s',H',Cc,cl,fp,hB⟩:=hB; obtain⟨BX,W',qe,G'⟩:=B; cases hB; exact af 1))) aj)
def lB:MS:=ao (iq (qS (tN (tV (aw 1 gh (aC (eV 0) (aN))))) (tN (tV (aw 1 dj (aC (eV 0) (aN)))))) (ao (be (eK (.bl false))) az) az) (ao (iq (tV (eF A9 (aC (wH (mE (aw 1 cH (aC (eV 0) (aN)))) (bh 5) iY (Hq true (eV 5) (eV 1)) [5]) (aN)))) (ao (be (eK (.bl false))) az) az) (ao (qJ [3,4] (aC (aw 1 bE (aC (eV 0) (aN))) (aC (aw 1 cK (aC (eV 0) (aN))) (aN)))) (ao (iq (vE (tB eW (eV 3) (eK .non)) (qS (O8 false (eV 3) (eV 1)) (O8 false (eV 3) (eV 2)))) (ao (be (eK (.bl false))) az) az) (ao (be (We (eB eZ (eV 4) (eK .non)) (Hq false (eV 4) (eV 2)))) az))))
def bC:Fn:=runB 6 lB
theorem rA (T:Tx P w K mg):jo P w K mg base 5 "step_fits" ["step", "names", "values"] bC :=
 (cD (k:=4) (N:=["step", "names", "values", "made", "used", "name"]) T.bC eC tE fun cdv A outer s H E G hr=>ac (aS (fY (dw (bT (eX (ap (xF T) (hr.mono (by decide)) (aa (af 0) ae)))) (cS (bT (eX (ap (xO T) (hr.mono (by decide)) (aa (af 0) ae))))))) (ac (au iu) aj) aj) (ac (aS (eX (SU rfl T.b_any (aa (lW (own:=[("name",5)]) (g:=gName 5) rfl eC.nd (jO bu) (ey (ap (zh T) (hr.mono (by decide)) (aa (af 0) ae))) (blkOk_by (own:=[("name",5)]) (N:=["step", "names", "values", "made", "used", "name"]) (sc:=defScope fG) (by decide +kernel)) (fun _ _ _ _ _=>pg_name (i:=5) eC.nd rfl (by first | exact Or.inl rfl | exact Or.inr rfl)) aB (by decide) (fun B hB=>by obtain⟨s',H',Cc,cl,fp,hB⟩:=hB; obtain⟨BX,W',qe,G'⟩:=B; cases hB; exact Gp hr.u65 (af 5) (af 1))) ae))) (ac (au iu) aj) aj) (ac (nj 3 4 rfl eC.nd (aa (ap (ij T) (hr.mono (by decide)) (aa (af 0) ae)) (aa (ap (zf T) (hr.mono (by decide)) (aa (af 0) ae)) ae))) (ac (aS (fY (kR (nM (af 3) bY) (jB (fY (dw (om hr.u65 (af 3) (af 1)) (cS (om hr.u65 (af 3) (af 2)))))))) (ac (au iu) aj) aj) (ac (au (FS (Rk (af 4) bY) (gA (pf hr.u65 (af 4) (af 2))))) aj)))))
def lU:MS:=ao (iq (qS (tN (tV (eF br (aC (eV 0) (aC (eK (.ty "tuple")) (aN)))))) (tB BS (eF dh (aC (eV 0) (aN))) (eK (.int 12)))) (ao (hU "BadText" ["part", "index"] ft (aC (eK (.str "steps")) (aC (eK .non) (aN)))) az) az) (ao (cV 2 (Ec (aN))) (ao (lZ (FW (eV 0)) (eG 2 (aO (bh 3) (aO (bh 4) cu))) (ao (iq (tN (tV (aw 3 bC (aC (eV 4) (aC (eV 1) (aC (eV 2) (aN))))))) (ao (hU "BadText" ["part", "index"] ft (aC (eK (.str "steps")) (aC (eV 3) (aN)))) az) az) (ao (iq (tB eW (aw 1 bE (aC (eV 4) (aN))) (eK .non)) (ao (ik (D9 nL (eV 2) (aC (aw 1 bE (aC (eV 4) (aN))) aN))) az) az) az))) az))
def bW:Fn:=runZ 5 lU
theorem xi (T:Tx P w K mg):jo P w K mg base 6 "check_steps" ["steps", "names"] bW :=
 Au (cD (k:=5) (N:=["steps", "names", "values", "index", "step"]) T.bW du oH fun cdv A outer s H E G hr=>ac (aS (fY (dw (bT (eX (dJ T.b_isinstance (aa (af 0) (aa (gp T.b_tuple) ae))))) (cS (uJ (bF T.b_len (aa (af 0) ae)) (gX T.c_MOST_STEPS))))) (ac (ir (k:=0) rfl T.s_BadText ⟨⟨_,rfl,rfl⟩,rfl,rfl,rfl,rfl,T.b_super,T.ptop⟩ gz (hr.mono (by decide)) T.g_BadText (aa aA (aa bY ae))) aj) aj) (ac (aY 2 du.nd (gR ae)) (ac (kJ (g:=(gTup _ 2 (gCons (gName 3) (gCons (gName 4) (gNil))))) (passes_of rfl) rfl (mP rfl T.b_enumerate eY) (ja (af 0)) (pg_tup rfl (pgs_cons (pg_name (i:=3) du.nd rfl (by first | exact Or.inl rfl | exact Or.inr rfl)) (pgs_cons (pg_name (i:=4) du.nd rfl (by first | exact Or.inl rfl | exact Or.inr rfl)) (pgs_nil)))) (cU (aD aB (aD aB bS))) (ac (aS (bT (eX (ap (rA T) (hr.mono (by decide)) (aa (af 4) (aa (af 1) (aa (af 2) ae)))))) (ac (ir (k:=0) rfl T.s_BadText ⟨⟨_,rfl,rfl⟩,rfl,rfl,rfl,rfl,T.b_super,T.ptop⟩ gz (hr.mono (by decide)) T.g_BadText (aa aA (aa (af 3) ae))) aj) aj) (ac (aS (nM (ap (ij T) (hr.mono (by decide)) (aa (af 4) ae)) bY) (ac (fO (kW (af 2) (ap (ij T) (hr.mono (by decide)) (aa (af 4) ae)))) aj) aj) aj))) aj)))
def kz:MS:=ao (iq (qS (tN (tV (eF br (aC (eV 0) (aC (eK (.ty "tuple")) (aN)))))) (tB BS (eF dh (aC (eV 0) (aN))) (eK (.int 2)))) (ao (hU "BadText" ["part", "index"] ft (aC (eK (.str "places")) (aC (eK .non) (aN)))) az) az) (ao (cV 1 (Ec (aN))) (ao (lZ (FW (eV 0)) (eG 2 (aO (bh 2) (aO (bh 3) cu))) (ao (iq (qS (tN (tV (eF br (aC (eV 3) (aC (eK (.ty "tuple")) (aN)))))) (qS (tB lm (eF dh (aC (eV 3) (aN))) (eK (.int 2))) (qS (tN (tV (aw 1 bD (aC (bV (eV 3) (eK (.int 0))) (aN))))) (tN (tV (aw 1 cP (aC (bV (eV 3) (eK (.int 1))) (aN)))))))) (ao (hU "BadText" ["part", "index"] ft (aC (eK (.str "places")) (aC (eV 2) (aN)))) az) az) (ao (iq (O8 false (bV (eV 3) (eK (.int 0))) (eV 1)) (ao (hU "BadText" ["part", "index"] ft (aC (eK (.str "places")) (aC (eV 2) (aN)))) az) az) (ao (ik (D9 nL (eV 1) (aC (bV (eV 3) (eK (.int 0))) aN))) az)))) (ao (be (eV 1)) az)))
def bJ:Fn:=runZ 4 kz
theorem vG (T:Tx P w K mg):jo P w K mg base 3 "check_places" ["places"] bJ :=
 Au (cD (k:=2) (N:=["places", "known", "index", "place"]) T.bJ cQ nT fun cdv A outer s H E G hr=>ac (aS (fY (dw (bT (eX (dJ T.b_isinstance (aa (af 0) (aa (gp T.b_tuple) ae))))) (cS (uJ (bF T.b_len (aa (af 0) ae)) (gX T.c_MOST_PLACES))))) (ac (ir (k:=0) rfl T.s_BadText ⟨⟨_,rfl,rfl⟩,rfl,rfl,rfl,rfl,T.b_super,T.ptop⟩ gz (hr.mono (by decide)) T.g_BadText (aa aA (aa bY ae))) aj) aj) (ac (aY 1 cQ.nd (gR ae)) (ac (kJ (g:=(gTup _ 2 (gCons (gName 2) (gCons (gName 3) (gNil))))) (passes_of rfl) rfl (mP rfl T.b_enumerate eY) (ja (af 0)) (pg_tup rfl (pgs_cons (pg_name (i:=2) cQ.nd rfl (by first | exact Or.inl rfl | exact Or.inr rfl)) (pgs_cons (pg_name (i:=3) cQ.nd rfl (by first | exact Or.inl rfl | exact Or.inr rfl)) (pgs_nil)))) (cU (aD aB (aD aB bS))) (ac (aS (fY (dw (bT (eX (dJ T.b_isinstance (aa (af 3) (aa (gp T.b_tuple) ae))))) (dw (ow hr.units (bF T.b_len (aa (af 3) ae)) ai) (dw (bT (eX (ap (iB T) (hr.mono (by decide)) (aa (am hr.u16 (af 3) ai) ae)))) (cS (bT (eX (ap (qG T) (hr.mono (by decide)) (aa (am hr.u16 (af 3) ai) ae))))))))) (ac (ir (k:=0) rfl T.s_BadText ⟨⟨_,rfl,rfl⟩,rfl,rfl,rfl,rfl,T.b_super,T.ptop⟩ gz (hr.mono (by decide)) T.g_BadText (aa aA (aa (af 2) ae))) aj) aj) (ac (aS (om hr.u65 (am hr.u16 (af 3) ai) (af 1)) (ac (ir (k:=0) rfl T.s_BadText ⟨⟨_,rfl,rfl⟩,rfl,rfl,rfl,rfl,T.b_super,T.ptop⟩ gz (hr.mono (by decide)) T.g_BadText (aa aA (aa (af 2) ae))) aj) aj) (ac (fO (kW (af 1) (am hr.u16 (af 3) ai))) aj)))) (ac (au (af 1)) aj))))
def pM:MS:=ao (cV 4 (aw 2 bg (aC (eV 2) (aC (aw 1 bJ (aC (eV 1) (aN))) (aN))))) (ao (ik (aw 2 bW (aC (eV 3) (aC (eV 4) (aN))))) (ao (sr ["Text"] "places" (eV 0) (eV 1)) (ao (sr ["Text"] "pointers" (eV 0) (eV 2)) (ao (sr ["Text"] "steps" (eV 0) (eV 3)) az))))
def aW:Fn:=runB 5 pM
theorem qg (T:Tx P w K mg):BR P w K mg base 7 "__init__" "Text.__init__" (He.ma K (He.ga K "Text") "__init__") dC [.ref (He.dflAt ("Text",some "__init__") 0 K), .ref (He.dflAt ("Text",some "__init__") 1 K), .ref (He.dflAt ("Text",some "__init__") 2 K)] ["self", "places", "pointers", "steps"] aW :=
 (qF (k:=6) (N:=["self", "places", "pointers", "steps", "names"]) T.aW jX fun cdv A outer s H E G hr=>ac (aY 4 jX.nd (ap (sD T) (hr.mono (by decide)) (aa (af 2) (aa (ap (vG T) (hr.mono (by decide)) (aa (af 1) ae)) ae)))) (ac (fO (ap (xi T) (hr.mono (by decide)) (aa (af 3) (aa (af 4) ae)))) (ac (uB (List.forall_mem_cons.mpr ⟨⟨T.c_Text,T.na_Text_places⟩,(fun _ h=>nomatch h)⟩) (af 1) (af 0)) (ac (uB (List.forall_mem_cons.mpr ⟨⟨T.c_Text,T.na_Text_pointers⟩,(fun _ h=>nomatch h)⟩) (af 2) (af 0)) (ac (uB (List.forall_mem_cons.mpr ⟨⟨T.c_Text,T.na_Text_steps⟩,(fun _ h=>nomatch h)⟩) (af 3) (af 0)) aj)))))
theorem vz (T:Tx P w K mg):tj P w K mg base 7 (He.ma K (He.ga K "Text") "__init__") aW 1 [.tup [], .tup [], .tup []]:=(qg T).formD 1 0 (by simp) rfl zi (fun _=>.cons (EJ T.n_Text_init_0) (.cons (EJ T.n_Text_init_1) (.cons (EJ T.n_Text_init_2) (.nil))))
theorem fW (T:Tx P w K mg):tj P w K mg base 7 (He.ma K (He.ga K "Text") "__init__") aW 4 []:=(qg T).formD 4 3 (by simp) rfl qo (fun _=>.nil)
theorem nS (T:Tx P w K mg):sP P w K mg base 1 "consists_of" ["word", "signs"] cy :=
 (eS (k:=0) (N:=["word", "signs", "sign"]) T.cy fo oh fun cdv A outer s H E pp G bR hr=>ac (au (Bf ⟨pp,aX bR rfl,List.mem_singleton.mpr rfl⟩ T.b_all (aa (tD (own:=[("sign",2)]) (g:=gName 2) ⟨pp,aX bR rfl,List.mem_singleton.mpr rfl⟩ fo.nd (sS bu) (ey (af 0)) (blkOk_by (own:=[("sign",2)]) (N:=["word", "signs", "sign"]) (sc:=defScope dM) (by decide +kernel)) (fun _ _ _ _ _=>pg_name (i:=2) fo.nd rfl (by first | exact Or.inl rfl | exact Or.inr rfl)) aB (by decide) (fun B hB=>by obtain⟨s',H',Cc,cl,fp,hB⟩:=hB; obtain⟨BX,W',qe,G'⟩:=B; cases hB; exact pf hr.u65 (af 2) (af 1))) ae))) aj)
theorem lL (T:Tx P w K mg):sP P w K mg base 2 "is_name" ["thing"] bD :=
 (eS (k:=1) (N:=["thing"]) T.bD wZ xj fun cdv A outer s H E pp G bR hr=>ac (aS (fY (dw (bT (eX (dJ T.b_isinstance (aa (af 0) (aa (gp T.b_str) ae))))) (cS (bT (wj ai (bF T.b_len (aa (af 0) ae)) (gX T.c_MOST_SIGNS)))))) (ac (au iu) aj) aj) (ac (au (gv (pf hr.u65 (am hr.u16 (af 0) ai) (sJ T.c_LOWER)) (gA (bz (nS T) (hr.mono (by decide)) ⟨pp,aX bR rfl,List.mem_singleton.mpr rfl⟩ (aa (af 0) (aa (sJ T.c_NAME_SIGNS) ae)))))) aj))
def tm:MS:=ao (iq (qS (tN (tV (eF br (aC (eV 0) (aC (eK (.ty "tuple")) (aN)))))) (tB BS (eF dh (aC (eV 0) (aN))) (eF vC (aC (eK (.int 3)) (aC (eB jR (eK (.int 4)) (eF dh (aC (eV 1) (aN)))) (aN)))))) (ao HQ az) az) (ao (cV 2 (og (aC (eV 1) (aN)))) (ao (lZ (FW (eV 0)) (eG 2 (aO (bh 3) (aO (bh 4) cu))) (ao (iq (qS (tN (tV (aw 1 bD (aC (eV 4) (aN))))) (O8 false (eV 4) (eV 2))) (ao HQ az) az) (ao (ik (D9 nL (eV 2) (aC (eV 4) aN))) az))) (ao (be (eV 2)) az)))
def jf:Fn:=runZ 5 tm
theorem qL (T:Tx P w K mg):sP P w K mg base 3 "check_pointers" ["pointers", "known"] jf :=
 Ff (eS (k:=2) (N:=["pointers", "known", "names", "index", "name"]) T.bg cq ly fun cdv A outer s H E pp G bR hr=>ac (aS (fY (dw (bT (eX (dJ T.b_isinstance (aa (af 0) (aa (gp T.b_tuple) ae))))) (cS (uJ (bF T.b_len (aa (af 0) ae)) (JV ⟨pp,aX bR rfl,List.mem_singleton.mpr rfl⟩ T.b_min (aa (gX T.c_MOST_POINTERS) (aa (kD (gX T.c_MOST_NAMES) (bF T.b_len (aa (af 1) ae))) ae))))))) (ac uR aj) aj) (ac (aY 2 cq.nd (xh T.b_list (aa (af 1) ae))) (ac (Cf (g:=(gTup _ 2 (gCons (gName 3) (gCons (gName 4) (gNil))))) (passes_of rfl) ⟨pp,aX bR rfl,List.mem_singleton.mpr rfl⟩ (tM rfl T.b_enumerate eY) (ja (af 0)) (pT ⟨pp,aX bR rfl,List.mem_singleton.mpr rfl⟩ (pgs_cons (pg_name (i:=3) cq.nd rfl (by first | exact Or.inl rfl | exact Or.inr rfl)) (pgs_cons (pg_name (i:=4) cq.nd rfl (by first | exact Or.inl rfl | exact Or.inr rfl)) (pgs_nil)))) (cU (aD aB (aD aB bS))) (ac (aS (fY (dw (bT (eX (bz (lL T) (hr.mono (by decide)) ⟨pp,aX bR rfl,List.mem_singleton.mpr rfl⟩ (aa (af 4) ae)))) (cS (om hr.u65 (af 4) (af 2))))) (ac uR aj) aj) (ac (fO (kW (af 2) (af 4))) aj))) (ac (au (af 2)) aj))))
theorem uT (T:Tx P w K mg):sP P w K mg base 2 "is_kind" ["thing"] cP :=
 (eS (k:=1) (N:=["thing"]) T.cP yh yd fun cdv A outer s H E pp G bR hr=>ac (aS (fY (dw (bT (eX (dJ T.b_isinstance (aa (af 0) (aa (gp T.b_str) ae))))) (cS (bT (wj ai (bF T.b_len (aa (af 0) ae)) (cf (gX T.c_MOST_LETTERS) ai)))))) (ac (au iu) aj) aj) (ac (au (gv (bz (nS T) (hr.mono (by decide)) ⟨pp,aX bR rfl,List.mem_singleton.mpr rfl⟩ (aa (dI (af 0) fj (fh (hZ ai))) (aa (sJ T.c_LOWER) ae))) (gv (pf hr.u65 (am hr.u16 (af 0) (hZ ai)) (sJ T.c_FIGURES)) (gA (vK ai (fQ T.b_int (aa (am hr.u16 (af 0) (hZ ai)) ae)) (gX T.c_MOST_SIZE)))))) aj))
def vH:MS:=ao (iq (qS (tN (tV (eF br (aC (eV 0) (aC (eK (.ty "tuple")) (aN)))))) (tB BS (eF dh (aC (eV 0) (aN))) (eK (.int 2)))) (ao HQ az) az) (ao (cV 1 (Ec (aN))) (ao (lZ (FW (eV 0)) (eG 2 (aO (bh 2) (aO (bh 3) cu))) (ao (iq (qS (tN (tV (eF br (aC (eV 3) (aC (eK (.ty "tuple")) (aN)))))) (qS (tB lm (eF dh (aC (eV 3) (aN))) (eK (.int 2))) (qS (tN (tV (aw 1 bD (aC (bV (eV 3) (eK (.int 0))) (aN))))) (tN (tV (aw 1 cP (aC (bV (eV 3) (eK (.int 1))) (aN)))))))) (ao HQ az) az) (ao (iq (O8 false (bV (eV 3) (eK (.int 0))) (eV 1)) (ao HQ az) az) (ao (ik (D9 nL (eV 1) (aC (bV (eV 3) (eK (.int 0))) aN))) az)))) (ao (be (eV 1)) az)))
def jN:Fn:=runZ 4 vH
theorem ui (T:Tx P w K mg):sP P w K mg base 3 "check_places" ["places"] jN :=
 Ff (eS (k:=2) (N:=["places", "known", "index", "place"]) T.bJ cQ nT fun cdv A outer s H E pp G bR hr=>ac (aS (fY (dw (bT (eX (dJ T.b_isinstance (aa (af 0) (aa (gp T.b_tuple) ae))))) (cS (uJ (bF T.b_len (aa (af 0) ae)) (gX T.c_MOST_PLACES))))) (ac uR aj) aj) (ac (aY 1 cQ.nd (gR ae)) (ac (Cf (g:=(gTup _ 2 (gCons (gName 2) (gCons (gName 3) (gNil))))) (passes_of rfl) ⟨pp,aX bR rfl,List.mem_singleton.mpr rfl⟩ (tM rfl T.b_enumerate eY) (ja (af 0)) (pT ⟨pp,aX bR rfl,List.mem_singleton.mpr rfl⟩ (pgs_cons (pg_name (i:=2) cQ.nd rfl (by first | exact Or.inl rfl | exact Or.inr rfl)) (pgs_cons (pg_name (i:=3) cQ.nd rfl (by first | exact Or.inl rfl | exact Or.inr rfl)) (pgs_nil)))) (cU (aD aB (aD aB bS))) (ac (aS (fY (dw (bT (eX (dJ T.b_isinstance (aa (af 3) (aa (gp T.b_tuple) ae))))) (dw (ow hr.units (bF T.b_len (aa (af 3) ae)) ai) (dw (bT (eX (bz (lL T) (hr.mono (by decide)) ⟨pp,aX bR rfl,List.mem_singleton.mpr rfl⟩ (aa (am hr.u16 (af 3) ai) ae)))) (cS (bT (eX (bz (uT T) (hr.mono (by decide)) ⟨pp,aX bR rfl,List.mem_singleton.mpr rfl⟩ (aa (am hr.u16 (af 3) ai) ae))))))))) (ac uR aj) aj) (ac (aS (om hr.u65 (am hr.u16 (af 3) ai) (af 1)) (ac uR aj) aj) (ac (fO (kW (af 1) (am hr.u16 (af 3) ai))) aj)))) (ac (au (af 1)) aj))))
theorem kM (T:Tx P w K mg):sP P w K mg base 1 "is_integer" ["thing"] cI :=
 (eS (k:=0) (N:=["thing"]) T.cI qr qh fun cdv A outer s H E pp G bR hr=>ac (au (gv (dJ T.b_isinstance (aa (af 0) (aa (gp T.b_int) ae))) (gA (LU (dJ T.b_isinstance (aa (af 0) (aa (gp T.b_bool) ae))))))) aj)
theorem za (T:Tx P w K mg):sP P w K mg base 2 "is_offset" ["thing"] dq :=
 (eS (k:=1) (N:=["thing"]) T.dq tH rZ fun cdv A outer s H E pp G bR hr=>ac (au (gv (bz (kM T) (hr.mono (by decide)) ⟨pp,aX bR rfl,List.mem_singleton.mpr rfl⟩ (aa (af 0) ae)) (gA (G2 ai (af 0) (gX T.c_WINDOW))))) aj)
theorem zj (T:Tx P w K mg):sP P w K mg base 2 "is_number" ["thing"] eH :=
 (eS (k:=1) (N:=["thing"]) T.eH sR tA fun cdv A outer s H E pp G bR hr=>ac (au (gv (bz (kM T) (hr.mono (by decide)) ⟨pp,aX bR rfl,List.mem_singleton.mpr rfl⟩ (aa (af 0) ae)) (gA (Rl (Bz T.b_abs (aa (af 0) ae)) (xD ai ai))))) aj)
theorem BV (T:Tx P w K mg):sP P w K mg base 3 "is_value" ["thing"] dY :=
 (eS (k:=2) (N:=["thing"]) T.dY vr vv fun cdv A outer s H E pp G bR hr=>ac (au (FS (bz (zj T) (hr.mono (by decide)) ⟨pp,aX bR rfl,List.mem_singleton.mpr rfl⟩ (aa (af 0) ae)) (gA (bz (lL T) (hr.mono (by decide)) ⟨pp,aX bR rfl,List.mem_singleton.mpr rfl⟩ (aa (af 0) ae))))) aj)
theorem CA (T:Tx P w K mg):sP P w K mg base 2 "is_many" ["thing"] fA :=
 (eS (k:=1) (N:=["thing"]) T.fA xE yx fun cdv A outer s H E pp G bR hr=>ac (au (gv (bz (kM T) (hr.mono (by decide)) ⟨pp,aX bR rfl,List.mem_singleton.mpr rfl⟩ (aa (af 0) ae)) (gA (vK ai (af 0) (gX T.c_MOST_BYTES))))) aj)
theorem Ct (T:Tx P w K mg):sP P w K mg base 4 "is_step" ["thing"] gh :=
 (eS (k:=3) (N:=["thing", "checks", "check", "part"]) T.gh eP ye fun cdv A outer s H E pp G bR hr=>ac (aS (fY (dw (bT (eX (dJ T.b_isinstance (aa (af 0) (aa (gp T.b_tuple) ae))))) (dw (cJ hr.units (bF T.b_len (aa (af 0) ae)) ai) (cS (bT (eX (dJ T.b_isinstance (aa (am hr.u16 (af 0) ai) (aa (gp T.b_str) ae))))))))) (ac (au iu) aj) aj) (ac (aS (zI T.t_PARTS (am hr.u16 (af 0) ai)) (ac (au iu) aj) aj) (ac (aY 1 eP.nd (DD T.t_PARTS (am hr.u16 (af 0) ai))) (ac (aS (ow hr.units (bF T.b_len (aa (af 0) ae)) (cf (bF T.b_len (aa (af 1) ae)) ai)) (ac (au iu) aj) aj) (ac (au (Bf ⟨pp,aX bR rfl,List.mem_singleton.mpr rfl⟩ T.b_all (aa (tD (own:=[("check",2),("part",3)]) (g:=(gTup _ 2 (gCons (gName 2) (gCons (gName 3) (gNil))))) ⟨pp,aX bR rfl,List.mem_singleton.mpr rfl⟩ eP.nd (OH rfl T.b_zip eY) (GU (af 1) (dI (af 0) (fh ai) fj)) (blkOk_by (own:=[("check",2),("part",3)]) (N:=["thing", "checks", "check", "part"]) (sc:=defScope iL) (by decide +kernel)) (fun _ _ _ _ _=>pT ⟨pp,aX bR rfl,List.mem_singleton.mpr rfl⟩ (pgs_cons (pg_name (i:=2) eP.nd rfl (by first | exact Or.inl rfl | exact Or.inr rfl)) (pgs_cons (pg_name (i:=3) eP.nd rfl (by first | exact Or.inl rfl | exact Or.inr rfl)) (pgs_nil)))) (cU (aD aB (aD aB bS))) (by decide) (fun B hB=>by obtain⟨s',H',Cc,cl,fp,hB⟩:=hB; obtain⟨BX,W',qe,G'⟩:=B; cases hB; exact HG (k:=3) 2 (List.forall_mem_cons.mpr ⟨⟨["thing"],rfl,(lL T).mono (by decide)⟩,(List.forall_mem_cons.mpr ⟨⟨["thing"],rfl,(uT T).mono (by decide)⟩,(List.forall_mem_cons.mpr ⟨⟨["thing"],rfl,(za T).mono (by decide)⟩,(List.forall_mem_cons.mpr ⟨⟨["thing"],rfl,(BV T).mono (by decide)⟩,(List.forall_mem_cons.mpr ⟨⟨["thing"],rfl,(CA T).mono (by decide)⟩,(fun _ h=>nomatch h)⟩)⟩)⟩)⟩)⟩) (hr.mono (by decide)) ⟨pp,aX bR rfl,List.mem_singleton.mpr rfl⟩ (aa (af 3) ae))) ae))) aj)))))
theorem uI (T:Tx P w K mg):sP P w K mg base 1 "size_of" ["kind"] gb :=
 (eS (k:=0) (N:=["kind"]) T.gb xq xS fun cdv A outer s H E pp G bR hr=>ac (au (fQ T.b_int (aa (am hr.u16 (af 0) (hZ ai)) ae))) aj)
theorem Bh (T:Tx P w K mg):sP P w K mg base 2 "reads_at" ["step"] fR :=
 (eS (k:=1) (N:=["step"]) T.fR vg uU fun cdv A outer s H E pp G bR hr=>ac (aS (cJ hr.units (am hr.u16 (af 0) ai) aA) (ac (au (bI (aa (am hr.u16 (af 0) ai) (aa (am hr.u16 (af 0) ai) (aa (bz (uI T) (hr.mono (by decide)) ⟨pp,aX bR rfl,List.mem_singleton.mpr rfl⟩ (aa (am hr.u16 (af 0) ai) ae)) ae))))) aj) aj) (ac (aS (cJ hr.units (am hr.u16 (af 0) ai) aA) (ac (au (bI (aa (am hr.u16 (af 0) ai) (aa (am hr.u16 (af 0) ai) (aa (am hr.u16 (af 0) ai) ae))))) aj) aj) (ac (au bY) aj)))
theorem zb (T:Tx P w K mg):sP P w K mg base 2 "writes_at" ["step"] eM :=
 (eS (k:=1) (N:=["step"]) T.eM sI sU fun cdv A outer s H E pp G bR hr=>ac (aS (cJ hr.units (am hr.u16 (af 0) ai) aA) (ac (au (bI (aa (am hr.u16 (af 0) ai) (aa (am hr.u16 (af 0) ai) (aa (bz (uI T) (hr.mono (by decide)) ⟨pp,aX bR rfl,List.mem_singleton.mpr rfl⟩ (aa (am hr.u16 (af 0) ai) ae)) ae))))) aj) aj) (ac (aS (fY (dw (cJ hr.units (am hr.u16 (af 0) ai) aA) (cS (cJ hr.units (am hr.u16 (af 0) ai) aA)))) (ac (au (bI (aa (am hr.u16 (af 0) ai) (aa (am hr.u16 (af 0) ai) (aa (am hr.u16 (af 0) ai) ae))))) aj) aj) (ac (au bY) aj)))
theorem qi (T:Tx P w K mg):sP P w K mg base 3 "stretches" ["step"] dR :=
 (eS (k:=2) (N:=["step", "one"]) T.dR gT sL fun cdv A outer s H E pp G bR hr=>ac (au (Ob (own:=[("one",1)]) (g:=gName 1) ⟨pp,aX bR rfl,List.mem_singleton.mpr rfl⟩ gT.nd (sS bu) (ey (bI (aa (bz (Bh T) (hr.mono (by decide)) ⟨pp,aX bR rfl,List.mem_singleton.mpr rfl⟩ (aa (af 0) ae)) (aa (bz (zb T) (hr.mono (by decide)) ⟨pp,aX bR rfl,List.mem_singleton.mpr rfl⟩ (aa (af 0) ae)) ae)))) (blkOk_by (own:=[("one",1)]) (N:=["step", "one"]) (sc:=defScope fD) (by decide +kernel)) (fun _ _ _ _ _=>pg_name (i:=1) gT.nd rfl (by first | exact Or.inl rfl | exact Or.inr rfl)) aB (by decide) (fun B hB=>by obtain⟨s',H',Cc,cl,fp,hB⟩:=hB; obtain⟨BX,W',qe,G'⟩:=B; cases hB; exact nM (af 1) bY) (fun B hB=>by obtain⟨s',H',Cc,cl,fp,hB⟩:=hB; obtain⟨BX,W',qe,G'⟩:=B; cases hB; exact af 1))) aj)
theorem vF (T:Tx P w K mg):sP P w K mg base 4 "fits_window" ["step"] dj :=
 (eS (k:=3) (N:=["step", "name", "offset", "many"]) T.dj cx oG fun cdv A outer s H E pp G bR hr=>ac (au (Bf ⟨pp,aX bR rfl,List.mem_singleton.mpr rfl⟩ T.b_all (aa (tD (own:=[("name",1),("offset",2),("many",3)]) (g:=(gTup _ 3 (gCons (gName 1) (gCons (gName 2) (gCons (gName 3) (gNil)))))) ⟨pp,aX bR rfl,List.mem_singleton.mpr rfl⟩ cx.nd (sS bu) (ey (bz (qi T) (hr.mono (by decide)) ⟨pp,aX bR rfl,List.mem_singleton.mpr rfl⟩ (aa (af 0) ae))) (blkOk_by (own:=[("name",1),("offset",2),("many",3)]) (N:=["step", "name", "offset", "many"]) (sc:=defScope dP) (by decide +kernel)) (fun _ _ _ _ _=>pT ⟨pp,aX bR rfl,List.mem_singleton.mpr rfl⟩ (pgs_cons (pg_name (i:=1) cx.nd rfl (by first | exact Or.inl rfl | exact Or.inr rfl)) (pgs_cons (pg_name (i:=2) cx.nd rfl (by first | exact Or.inl rfl | exact Or.inr rfl)) (pgs_cons (pg_name (i:=3) cx.nd rfl (by first | exact Or.inl rfl | exact Or.inr rfl)) (pgs_nil))))) (cU (aD aB (aD aB (aD aB bS)))) (by decide) (fun B hB=>by obtain⟨s',H',Cc,cl,fp,hB⟩:=hB; obtain⟨BX,W',qe,G'⟩:=B; cases hB; exact QV (cf (af 2) (af 3)) (gX T.c_WINDOW))) ae))) aj)
theorem yj (T:Tx P w K mg):sP P w K mg base 4 "names_used" ["step"] cH :=
 (eS (k:=3) (N:=["step", "name", "offset", "many"]) T.cH cG qy fun cdv A outer s H E pp G bR hr=>ac (au (tD (own:=[("name",1),("offset",2),("many",3)]) (g:=(gTup _ 3 (gCons (gName 1) (gCons (gName 2) (gCons (gName 3) (gNil)))))) ⟨pp,aX bR rfl,List.mem_singleton.mpr rfl⟩ cG.nd (sS bu) (ey (bz (qi T) (hr.mono (by decide)) ⟨pp,aX bR rfl,List.mem_singleton.mpr rfl⟩ (aa (af 0) ae))) (blkOk_by (own:=[("name",1),("offset",2),("many",3)]) (N:=["step", "name", "offset", "many"]) (sc:=defScope eJ) (by decide +kernel)) (fun _ _ _ _ _=>pT ⟨pp,aX bR rfl,List.mem_singleton.mpr rfl⟩ (pgs_cons (pg_name (i:=1) cG.nd rfl (by first | exact Or.inl rfl | exact Or.inr rfl)) (pgs_cons (pg_name (i:=2) cG.nd rfl (by first | exact Or.inl rfl | exact Or.inr rfl)) (pgs_cons (pg_name (i:=3) cG.nd rfl (by first | exact Or.inl rfl | exact Or.inr rfl)) (pgs_nil))))) (cU (aD aB (aD aB (aD aB bS)))) (by decide) (fun B hB=>by obtain⟨s',H',Cc,cl,fp,hB⟩:=hB; obtain⟨BX,W',qe,G'⟩:=B; cases hB; exact af 1))) aj)
theorem lb (T:Tx P w K mg):sP P w K mg base 1 "value_made" ["step"] bE :=
 (eS (k:=0) (N:=["step"]) T.bE qp qj fun cdv A outer s H E pp G bR hr=>ac (au (mz (cJ hr.units (am hr.u16 (af 0) ai) aA) (am hr.u16 (af 0) ai) bY)) aj)
theorem wI (T:Tx P w K mg):sP P w K mg base 1 "value_used" ["step"] cK :=
 (eS (k:=0) (N:=["step"]) T.cK qt qv fun cdv A outer s H E pp G bR hr=>ac (aS (cJ hr.units (am hr.u16 (af 0) ai) aA) (ac (au (am hr.u16 (af 0) ai)) aj) aj) (ac (aS (fY (kR (cJ hr.units (am hr.u16 (af 0) ai) aA) (jB (eX (dJ T.b_isinstance (aa (am hr.u16 (af 0) ai) (aa (gp T.b_str) ae))))))) (ac (au (am hr.u16 (af 0) ai)) aj) aj) (ac (au bY) aj)))
theorem yQ (T:Tx P w K mg):sP P w K mg base 5 "step_fits" ["step", "names", "values"] bC :=
 (eS (k:=4) (N:=["step", "names", "values", "made", "used", "name"]) T.bC eC tE fun cdv A outer s H E pp G bR hr=>ac (aS (fY (dw (bT (eX (bz (Ct T) (hr.mono (by decide)) ⟨pp,aX bR rfl,List.mem_singleton.mpr rfl⟩ (aa (af 0) ae)))) (cS (bT (eX (bz (vF T) (hr.mono (by decide)) ⟨pp,aX bR rfl,List.mem_singleton.mpr rfl⟩ (aa (af 0) ae))))))) (ac (au iu) aj) aj) (ac (aS (eX (NV ⟨pp,aX bR rfl,List.mem_singleton.mpr rfl⟩ T.b_any (aa (tD (own:=[("name",5)]) (g:=gName 5) ⟨pp,aX bR rfl,List.mem_singleton.mpr rfl⟩ eC.nd (sS bu) (ey (bz (yj T) (hr.mono (by decide)) ⟨pp,aX bR rfl,List.mem_singleton.mpr rfl⟩ (aa (af 0) ae))) (blkOk_by (own:=[("name",5)]) (N:=["step", "names", "values", "made", "used", "name"]) (sc:=defScope fG) (by decide +kernel)) (fun _ _ _ _ _=>pg_name (i:=5) eC.nd rfl (by first | exact Or.inl rfl | exact Or.inr rfl)) aB (by decide) (fun B hB=>by obtain⟨s',H',Cc,cl,fp,hB⟩:=hB; obtain⟨BX,W',qe,G'⟩:=B; cases hB; exact Gp hr.u65 (af 5) (af 1))) ae))) (ac (au iu) aj) aj) (ac (KQ 3 4 ⟨pp,aX bR rfl,List.mem_singleton.mpr rfl⟩ eC.nd (aa (bz (lb T) (hr.mono (by decide)) ⟨pp,aX bR rfl,List.mem_singleton.mpr rfl⟩ (aa (af 0) ae)) (aa (bz (wI T) (hr.mono (by decide)) ⟨pp,aX bR rfl,List.mem_singleton.mpr rfl⟩ (aa (af 0) ae)) ae))) (ac (aS (fY (kR (nM (af 3) bY) (jB (fY (dw (om hr.u65 (af 3) (af 1)) (cS (om hr.u65 (af 3) (af 2)))))))) (ac (au iu) aj) aj) (ac (au (FS (Rk (af 4) bY) (gA (pf hr.u65 (af 4) (af 2))))) aj)))))
def xW:MS:=ao (iq (qS (tN (tV (eF br (aC (eV 0) (aC (eK (.ty "tuple")) (aN)))))) (tB BS (eF dh (aC (eV 0) (aN))) (eK (.int 12)))) (ao HQ az) az) (ao (cV 2 (Ec (aN))) (ao (lZ (FW (eV 0)) (eG 2 (aO (bh 3) (aO (bh 4) cu))) (ao (iq (tN (tV (aw 3 bC (aC (eV 4) (aC (eV 1) (aC (eV 2) (aN))))))) (ao HQ az) az) (ao (iq (tB eW (aw 1 bE (aC (eV 4) (aN))) (eK .non)) (ao (ik (D9 nL (eV 2) (aC (aw 1 bE (aC (eV 4) (aN))) aN))) az) az) az))) az))
def kL:Fn:=runZ 5 xW
theorem vB (T:Tx P w K mg):sP P w K mg base 6 "check_steps" ["steps", "names"] kL :=
 Ff (eS (k:=5) (N:=["steps", "names", "values", "index", "step"]) T.bW du oH fun cdv A outer s H E pp G bR hr=>ac (aS (fY (dw (bT (eX (dJ T.b_isinstance (aa (af 0) (aa (gp T.b_tuple) ae))))) (cS (uJ (bF T.b_len (aa (af 0) ae)) (gX T.c_MOST_STEPS))))) (ac uR aj) aj) (ac (aY 2 du.nd (gR ae)) (ac (Cf (g:=(gTup _ 2 (gCons (gName 3) (gCons (gName 4) (gNil))))) (passes_of rfl) ⟨pp,aX bR rfl,List.mem_singleton.mpr rfl⟩ (tM rfl T.b_enumerate eY) (ja (af 0)) (pT ⟨pp,aX bR rfl,List.mem_singleton.mpr rfl⟩ (pgs_cons (pg_name (i:=3) du.nd rfl (by first | exact Or.inl rfl | exact Or.inr rfl)) (pgs_cons (pg_name (i:=4) du.nd rfl (by first | exact Or.inl rfl | exact Or.inr rfl)) (pgs_nil)))) (cU (aD aB (aD aB bS))) (ac (aS (bT (eX (bz (yQ T) (hr.mono (by decide)) ⟨pp,aX bR rfl,List.mem_singleton.mpr rfl⟩ (aa (af 4) (aa (af 1) (aa (af 2) ae)))))) (ac uR aj) aj) (ac (aS (nM (bz (lb T) (hr.mono (by decide)) ⟨pp,aX bR rfl,List.mem_singleton.mpr rfl⟩ (aa (af 4) ae)) bY) (ac (fO (kW (af 2) (bz (lb T) (hr.mono (by decide)) ⟨pp,aX bR rfl,List.mem_singleton.mpr rfl⟩ (aa (af 4) ae)))) aj) aj) aj))) aj)))
def Bm:MS:=ao (cV 4 (aw 2 jf (aC (eV 2) (aC (aw 1 jN (aC (eV 1) (aN))) (aN))))) (ao (ik (aw 2 kL (aC (eV 3) (aC (eV 4) (aN))))) (ao (sr ["Text"] "places" (eV 0) (eV 1)) (ao (sr ["Text"] "pointers" (eV 0) (eV 2)) (ao (sr ["Text"] "steps" (eV 0) (eV 3)) az))))
def iW:Fn:=runB 5 Bm
theorem wD (T:Tx P w K mg):Hw P w K mg base 7 "__init__" "Text.__init__" (He.ma K (He.ga K "Text") "__init__") dC [.ref (He.dflAt ("Text",some "__init__") 0 K), .ref (He.dflAt ("Text",some "__init__") 1 K), .ref (He.dflAt ("Text",some "__init__") 2 K)] ["self", "places", "pointers", "steps"] iW :=
 (N2 (k:=6) (N:=["self", "places", "pointers", "steps", "names"]) T.aW jX fun cdv A outer s H E pp G bR hr=>ac (aY 4 jX.nd (bz (qL T) (hr.mono (by decide)) ⟨pp,aX bR rfl,List.mem_singleton.mpr rfl⟩ (aa (af 2) (aa (bz (ui T) (hr.mono (by decide)) ⟨pp,aX bR rfl,List.mem_singleton.mpr rfl⟩ (aa (af 1) ae)) ae)))) (ac (fO (bz (vB T) (hr.mono (by decide)) ⟨pp,aX bR rfl,List.mem_singleton.mpr rfl⟩ (aa (af 3) (aa (af 4) ae)))) (ac (uB (List.forall_mem_cons.mpr ⟨⟨T.c_Text,T.na_Text_places⟩,(fun _ h=>nomatch h)⟩) (af 1) (af 0)) (ac (uB (List.forall_mem_cons.mpr ⟨⟨T.c_Text,T.na_Text_pointers⟩,(fun _ h=>nomatch h)⟩) (af 2) (af 0)) (ac (uB (List.forall_mem_cons.mpr ⟨⟨T.c_Text,T.na_Text_steps⟩,(fun _ h=>nomatch h)⟩) (af 3) (af 0)) aj)))))
theorem ut (T:Tx P w K mg):Gr P w K mg base 7 (He.ma K (He.ga K "Text") "__init__") iW 4 []:=(wD T).formD 4 3 (by simp) rfl qo (fun _=>.nil)
def zD:MS:=ao (be (ub (eF (JD W6 YA) (aC (eV 1) (aC (eK (.glo "Text")) (aN)))) (ub (eB bP (mw ["Text"] "places" (eV 0)) (mw ["Text"] "places" (eV 1))) (ub (eB bP (mw ["Text"] "pointers" (eV 0)) (mw ["Text"] "pointers" (eV 1))) (eB bP (mw ["Text"] "steps" (eV 0)) (mw ["Text"] "steps" (eV 1))))))) az
def dU:Fn:=runB 2 zD
theorem Do (T:Tx P w K mg):BR P w K mg base 1 "__eq__" "Text.__eq__" (He.ma K (He.ga K "Text") "__eq__") gN [] ["self", "other"] dU :=
 (qF (k:=0) (N:=["self", "other"]) T.dU Fp fun cdv A outer s H E G hr=>ac (au (gv (Pf T.is_ T.b_isinstance (aa (af 1) (aa (Qc T.g_Text) ae))) (gv (Gq hr.units (gG (List.forall_mem_cons.mpr ⟨⟨T.c_Text,T.na_Text_places⟩,(fun _ h=>nomatch h)⟩) (af 0)) (gG (List.forall_mem_cons.mpr ⟨⟨T.c_Text,T.na_Text_places⟩,(fun _ h=>nomatch h)⟩) (af 1))) (gv (Gq hr.units (gG (List.forall_mem_cons.mpr ⟨⟨T.c_Text,T.na_Text_pointers⟩,(fun _ h=>nomatch h)⟩) (af 0)) (gG (List.forall_mem_cons.mpr ⟨⟨T.c_Text,T.na_Text_pointers⟩,(fun _ h=>nomatch h)⟩) (af 1))) (gA (Gq hr.units (gG (List.forall_mem_cons.mpr ⟨⟨T.c_Text,T.na_Text_steps⟩,(fun _ h=>nomatch h)⟩) (af 0)) (gG (List.forall_mem_cons.mpr ⟨⟨T.c_Text,T.na_Text_steps⟩,(fun _ h=>nomatch h)⟩) (af 1)))))))) aj)
theorem ql (T:Tx P w K mg):tj P w K mg base 1 (He.ma K (He.ga K "Text") "__eq__") dU 2 []:=(Do T).form FM rfl
def P9:MS:=ao (qJ [4,5] (aC (bV (eV 1) (aw 2 bH (aC (eV 0) (aC (eF dh (aC (eV 1) (aN))) (aN))))) (aC (FD (tB yu (eF dh (aC (eV 1) (aN))) (eK (.int 3))) (eK (.int 8)) (eK (.int 4))) (aN)))) (ao (uF (eG 2 (aO (bh 6) (aO (bh 7) cu))) (bV (eV 2) (eV 4))) (ao (iq (tB bP (aw 2 bH (aC (eV 0) (aC (eK (.int 5)) (aN)))) (eK (.int 0))) (ao (cV 6 (bV (eV 3) (aw 2 bH (aC (eV 0) (aC (eF dh (aC (eV 3) (aN))) (aN)))))) (ao (cV 7 (aw 2 bH (aC (eV 0) (aC (eB jR (eB ck (eV 5) (eK (.int 1))) (eF kE (aC (bV (eV 6) (eU ii (eK (.int 1)))) (aN)))) (aN))))) az)) az) (ao (be (eT (aC (eV 6) (aC (eV 4) (aC (eF vC (aC (eV 7) (aC (eB jR (eV 5) (eF kE (aC (bV (eV 6) (eU ii (eK (.int 1)))) (aN)))) (aN)))) (aN)))))) az)))
def vh:Fn:=runB 8 P9
theorem JF (T:Tx P w K mg):jo P w K mg base 2 "_law_use" ["_law_bag_here", "_law_names_here", "_law_habits", "_law_kinds_here"] vh :=
 (cD (k:=1) (N:=["_law_bag_here", "_law_names_here", "_law_habits", "_law_kinds_here", "_law_name", "_law_room", "_law_kind", "_law_offset"]) T.vh ug Sm fun cdv A outer s H E G hr=>ac (nj 4 5 rfl ug.nd (aa (am hr.u16 (af 1) (ap (bN T) (hr.mono (by decide)) (aa (af 0) (aa (bF T.b_len (aa (af 1) ae)) ae)))) (aa (mz (wU (bF T.b_len (aa (af 1) ae)) ai) ai ai) ae))) (ac (nQ (pg_tup rfl (pgs_cons (pg_name (i:=6) ug.nd rfl (by first | exact Or.inl rfl | exact Or.inr rfl)) (pgs_cons (pg_name (i:=7) ug.nd rfl (by first | exact Or.inl rfl | exact Or.inr rfl)) (pgs_nil)))) (cU (aD aB (aD aB bS))) (am hr.u16 (af 2) (af 4))) (ac (aS (cJ hr.units (ap (bN T) (hr.mono (by decide)) (aa (af 0) (aa ai ae))) ai) (ac (aY 6 ug.nd (am hr.u16 (af 3) (ap (bN T) (hr.mono (by decide)) (aa (af 0) (aa (bF T.b_len (aa (af 3) ae)) ae))))) (ac (aY 7 ug.nd (ap (bN T) (hr.mono (by decide)) (aa (af 0) (aa (kD (cf (af 5) ai) (fQ T.b_int (aa (am hr.u16 (af 6) (hZ ai)) ae))) ae)))) aj)) aj) (ac (au (bI (aa (af 6) (aa (af 4) (aa (tS rfl T.b_min (aa (af 7) (aa (kD (af 5) (fQ T.b_int (aa (am hr.u16 (af 6) (hZ ai)) ae))) ae))) ae))))) aj))))
def JL:MS:=ao (qJ [6,7] (aC (aw 2 bH (aC (eV 0) (aC (eK (.int 16)) (aN)))) (aC (FD (tB yu (eF dh (aC (eV 1) (aN))) (eK (.int 3))) (eK (.int 8)) (eK (.int 4))) (aN)))) (ao (uF (eG 3 (aO (bh 8) (aO (bh 9) (aO (bh 10) cu)))) (aw 4 vh (aC (eV 0) (aC (eV 1) (aC (eV 2) (aC (eV 3) (aN))))))) (ao (iq (tB yu (eV 6) (eK (.int 6))) (ao (be (eT (aC (eK (.str "read")) (aC (eV 5) (aC (eV 8) (aC (eV 9) (aC (eV 10) (aN)))))))) az) az) (ao (iq (qS (tB yu (eV 6) (eK (.int 11))) (vE (tB bP (eV 6) (eK (.int 15))) (tB bP (eV 4) (eL (aN))))) (ao (cV 11 (bV (eL (aC (eB jR (aw 2 bH (aC (eV 0) (aC (eK (.int 9)) (aN)))) (eK (.int 4))) (aC (eB jR (eB jR (eB sj (eK (.int 10)) (eK (.int 40))) (eK (.int 1))) (aw 2 bH (aC (eV 0) (aC (eK (.int 2)) (aN))))) (aN)))) (eB vb (aw 2 bH (aC (eV 0) (aC (eK (.int 8)) (aN)))) (eK (.int 7))))) (ao (iq (vE (tB lm (eV 4) (eL (aN))) (tB bP (aw 2 bH (aC (eV 0) (aC (eK (.int 2)) (aN)))) (eK (.int 0)))) (ao (cV 11 (bV (eV 4) (aw 2 bH (aC (eV 0) (aC (eF dh (aC (eV 4) (aN))) (aN)))))) az) az) (ao (be (eT (aC (eK (.str "write")) (aC (eV 8) (aC (eV 9) (aC (eV 10) (aC (eV 11) (aN)))))))) az))) az) (ao (iq (tB bP (eV 6) (eK (.int 15))) (ao (be (eT (aC (eK (.str "tell")) (aC (bV (eV 4) (aw 2 bH (aC (eV 0) (aC (eF dh (aC (eV 4) (aN))) (aN))))) (aN))))) az) az) (ao (uF (eG 3 (aO (bh 12) (aO (bh 13) (aO (bh 14) cu)))) (aw 4 vh (aC (eV 0) (aC (eV 1) (aC (eV 2) (aC (eV 3) (aN))))))) (ao (cV 15 (bV (eL (aC (eF kE (aC (bV (eV 8) (eU ii (eK (.int 1)))) (aN))) (aC (eF kE (aC (bV (eV 8) (eU ii (eK (.int 1)))) (aN))) (aC (eF kE (aC (bV (eV 12) (eU ii (eK (.int 1)))) (aN))) (aC (eK (.int 1)) (aC (eB ck (eK (.int 1)) (aw 2 bH (aC (eV 0) (aC (eK (.int 8)) (aN))))) (aN))))))) (aw 2 bH (aC (eV 0) (aC (eK (.int 5)) (aN)))))) (ao (cV 15 (eF vC (aC (eV 15) (aC (eB jR (eV 7) (eF HH (aC (eV 10) (aC (eV 14) (aN))))) (aN))))) (ao (iq (tB bP (eV 6) (eK (.int 14))) (ao (be (eT (aC (eK (.str "blank")) (aC (eV 15) (aC (eV 9) (aC (eV 10) (aN))))))) az) az) (ao (be (eT (aC (eK (.str "copy")) (aC (eV 15) (aC (eV 9) (aC (eV 10) (aC (eV 13) (aC (eV 14) (aN))))))))) az)))))))))
def rj:Fn:=runB 16 JL
theorem Pc (T:Tx P w K mg):jo P w K mg base 3 "_law_step" ["_law_bag_here", "_law_names_here", "_law_habits", "_law_kinds_here", "_law_values", "_law_fresh"] rj :=
 (cD (k:=2) (N:=["_law_bag_here", "_law_names_here", "_law_habits", "_law_kinds_here", "_law_values", "_law_fresh", "_law_way", "_law_room", "_law_kind", "_law_name", "_law_offset", "_law_value", "_law_other", "_law_source", "_law_begin", "_law_many"]) T.rj iy P0 fun cdv A outer s H E G hr=>ac (nj 6 7 rfl iy.nd (aa (ap (bN T) (hr.mono (by decide)) (aa (af 0) (aa ai ae))) (aa (mz (wU (bF T.b_len (aa (af 1) ae)) ai) ai ai) ae))) (ac (nQ (pg_tup rfl (pgs_cons (pg_name (i:=8) iy.nd rfl (by first | exact Or.inl rfl | exact Or.inr rfl)) (pgs_cons (pg_name (i:=9) iy.nd rfl (by first | exact Or.inl rfl | exact Or.inr rfl)) (pgs_cons (pg_name (i:=10) iy.nd rfl (by first | exact Or.inl rfl | exact Or.inr rfl)) (pgs_nil))))) (cU (aD aB (aD aB (aD aB bS)))) (ap (JF T) (hr.mono (by decide)) (aa (af 0) (aa (af 1) (aa (af 2) (aa (af 3) ae)))))) (ac (aS (wU (af 6) ai) (ac (au (bI (aa aA (aa (af 5) (aa (af 8) (aa (af 9) (aa (af 10) ae))))))) aj) aj) (ac (aS (fY (dw (wU (af 6) ai) (cS (fY (kR (cJ hr.units (af 6) ai) (jB (cJ hr.units (af 4) (jL ae)))))))) (ac (aY 11 iy.nd (am hr.u16 (jL (aa (kD (ap (bN T) (hr.mono (by decide)) (aa (af 0) (aa ai ae))) ai) (aa (kD (kD (xD ai ai) ai) (ap (bN T) (hr.mono (by decide)) (aa (af 0) (aa ai ae)))) ae))) (BM (ap (bN T) (hr.mono (by decide)) (aa (af 0) (aa ai ae))) ai))) (ac (aS (fY (kR (ow hr.units (af 4) (jL ae)) (jB (cJ hr.units (ap (bN T) (hr.mono (by decide)) (aa (af 0) (aa ai ae))) ai)))) (ac (aY 11 iy.nd (am hr.u16 (af 4) (ap (bN T) (hr.mono (by decide)) (aa (af 0) (aa (bF T.b_len (aa (af 4) ae)) ae))))) aj) aj) (ac (au (bI (aa aA (aa (af 8) (aa (af 9) (aa (af 10) (aa (af 11) ae))))))) aj))) aj) (ac (aS (cJ hr.units (af 6) ai) (ac (au (bI (aa aA (aa (am hr.u16 (af 4) (ap (bN T) (hr.mono (by decide)) (aa (af 0) (aa (bF T.b_len (aa (af 4) ae)) ae)))) ae)))) aj) aj) (ac (nQ (pg_tup rfl (pgs_cons (pg_name (i:=12) iy.nd rfl (by first | exact Or.inl rfl | exact Or.inr rfl)) (pgs_cons (pg_name (i:=13) iy.nd rfl (by first | exact Or.inl rfl | exact Or.inr rfl)) (pgs_cons (pg_name (i:=14) iy.nd rfl (by first | exact Or.inl rfl | exact Or.inr rfl)) (pgs_nil))))) (cU (aD aB (aD aB (aD aB bS)))) (ap (JF T) (hr.mono (by decide)) (aa (af 0) (aa (af 1) (aa (af 2) (aa (af 3) ae)))))) (ac (aY 15 iy.nd (am hr.u16 (jL (aa (fQ T.b_int (aa (am hr.u16 (af 8) (hZ ai)) ae)) (aa (fQ T.b_int (aa (am hr.u16 (af 8) (hZ ai)) ae)) (aa (fQ T.b_int (aa (am hr.u16 (af 12) (hZ ai)) ae)) (aa ai (aa (cf ai (ap (bN T) (hr.mono (by decide)) (aa (af 0) (aa ai ae)))) ae)))))) (ap (bN T) (hr.mono (by decide)) (aa (af 0) (aa ai ae))))) (ac (aY 15 iy.nd (tS rfl T.b_min (aa (af 15) (aa (kD (af 7) (Mm rfl T.b_max (aa (af 10) (aa (af 14) ae)))) ae)))) (ac (aS (cJ hr.units (af 6) ai) (ac (au (bI (aa aA (aa (af 15) (aa (af 9) (aa (af 10) ae)))))) aj) aj) (ac (au (bI (aa aA (aa (af 15) (aa (af 9) (aa (af 10) (aa (af 13) (aa (af 14) ae)))))))) aj))))))))))
def FZ:MS:=ao (cV 3 (eF vC (aC (bV (eL (aC (eK (.int 0)) (aC (eK (.int 0)) (aC (eK (.int 0)) (aC (eK (.int 1)) (aC (eK (.int 1)) (aC (eK (.int 2)) (aN)))))))) (aw 2 bH (aC (eV 0) (aC (eK (.int 6)) (aN))))) (aC (eB jR (eV 2) (eK (.int 1))) (aN))))) (ao (cV 4 (eF vC (aC (bV (eL (aC (eK (.int 1)) (aC (eK (.int 2)) (aC (eK (.int 2)) (aC (eK (.int 2)) (aC (eK (.int 3)) (aN))))))) (aw 2 bH (aC (eV 0) (aC (eK (.int 5)) (aN))))) (aC (eB jR (eV 2) (eV 3)) (aN))))) (ao (qJ [5,6] (aC (aw 2 nK (aC (eV 0) (aC (eB ck (eV 4) (eV 3)) (aN)))) (aC (aw 2 nr (aC (eV 0) (aC (eK (.int 2)) (aN)))) (aN)))) (ao (qJ [7,8,9,10] (aC (W4 false) (aC (Ec (aN)) (aC (Ec (aN)) (aC (Ec (aN)) (aN)))))) (ao (lZ (FW (eV 5)) (eG 2 (aO (bh 11) (aO (bh 12) cu))) (ao (Dz (eV 7) (eV 12) (eT (aC (bV (eV 6) (aw 2 bH (aC (eV 0) (aC (eK (.int 2)) (aN))))) (aC (eB lO (aw 2 bH (aC (eV 0) (aC (eK (.int 3)) (aN)))) (eF kE (aC (eB Pd (eV 11) (eV 3)) (aN)))) (aN))))) (ao (iq (tB yu (eV 11) (eV 3)) (ao (ik (D9 nL (eV 10) (aC (eT (aC (eV 12) (aC (bV (bV (eV 7) (eV 12)) (eK (.int 0))) (aN)))) aN))) az) az) az))) (ao (lZ (PM (eB ck (eK (.int 1)) (aw 2 bH (aC (eV 0) (aC (eV 1) (aN)))))) (bh 11) (ao (cV 13 (eB ck (eB ck (uD (bV (eV 5) (eK (.int 0))) (oN) (oS (eK (.int 6)))) (bV (eK (.str "vwxyz")) (eB mW (eV 11) (eK (.int 5))))) (eF Ho (aC (eB vb (eV 11) (eK (.int 5))) (aN))))) (ao (cV 14 (aw 6 rj (aC (eV 0) (aC (eV 5) (aC (eV 7) (aC (eV 6) (aC (eV 9) (aC (eV 13) (aN))))))))) (ao (iq (tB bP (bV (eV 14) (eK (.int 0))) (eK (.str "read"))) (ao (ik (D9 nL (eV 9) (aC (eV 13) aN))) az) az) (ao (ik (D9 nL (eV 8) (aC (eV 14) aN))) az))))) (ao (be (eT (aC (eF hX (aC (eV 10) (aN))) (aC (eF hX (aC (uD (eV 5) (oS (eV 3)) (oN)) (aN))) (aC (eF hX (aC (eV 8) (aN))) (aN)))))) az))))))
def lQ:Fn:=runZ 15 FZ
theorem zw (T:Tx P w K mg):BR P w K mg base 4 "_law_drawn" "_law_drawn" (He.ga K "_law_drawn") jV [.int 4] ["_law_bag_here", "_law_most", "_law_room"] lQ :=
 Mu (qF (k:=3) (N:=["_law_bag_here", "_law_most", "_law_room", "_law_placed", "_law_many", "_law_names_here", "_law_kinds_here", "_law_habits", "_law_steps", "_law_values", "_law_places", "_law_k", "_law_name", "_law_fresh", "_law_step_here"]) T.lQ il fun cdv A outer s H E G hr=>ac (aY 3 il.nd (tS rfl T.b_min (aa (am hr.u16 (jL (aa ai (aa ai (aa ai (aa ai (aa ai (aa ai ae))))))) (ap (bN T) (hr.mono (by decide)) (aa (af 0) (aa ai ae)))) (aa (kD (af 2) ai) ae)))) (ac (aY 4 il.nd (tS rfl T.b_min (aa (am hr.u16 (jL (aa ai (aa ai (aa ai (aa ai (aa ai ae)))))) (ap (bN T) (hr.mono (by decide)) (aa (af 0) (aa ai ae)))) (aa (kD (af 2) (af 3)) ae)))) (ac (nj 5 6 rfl il.nd (aa (ap (Jt T) (hr.mono (by decide)) (aa (af 0) (aa (cf (af 4) (af 3)) ae))) (aa (ap (Kn T) (hr.mono (by decide)) (aa (af 0) (aa ai ae))) ae))) (ac (L5 7 8 9 10 rfl il.nd (aa KB (aa (gR ae) (aa (gR ae) (aa (gR ae) ae))))) (ac (kJ (g:=(gTup _ 2 (gCons (gName 11) (gCons (gName 12) (gNil))))) (passes_of rfl) rfl (mP rfl T.b_enumerate eY) (ja (af 5)) (pg_tup rfl (pgs_cons (pg_name (i:=11) il.nd rfl (by first | exact Or.inl rfl | exact Or.inr rfl)) (pgs_cons (pg_name (i:=12) il.nd rfl (by first | exact Or.inl rfl | exact Or.inr rfl)) (pgs_nil)))) (cU (aD aB (aD aB bS))) (ac (xo hr.u16 (bI (aa (am hr.u16 (af 6) (ap (bN T) (hr.mono (by decide)) (aa (af 0) (aa ai ae)))) (aa (qE (ap (bN T) (hr.mono (by decide)) (aa (af 0) (aa ai ae))) (fQ T.b_int (aa (U9 (af 11) (af 3)) ae))) ae))) (af 7) (af 12)) (ac (aS (wU (af 11) (af 3)) (ac (fO (kW (af 10) (bI (aa (af 12) (aa (am hr.u16 (am hr.u16 (af 7) (af 12)) ai) ae))))) aj) aj) aj))) (ac (kJ (g:=gName 11) (passes_of rfl) rfl (pi_range1 rfl T.b_range eY) (xG (cf ai (ap (bN T) (hr.mono (by decide)) (aa (af 0) (aa (af 1) ae))))) (pg_name (i:=11) il.nd rfl (by first | exact Or.inl rfl | exact Or.inr rfl)) aB (ac (aY 13 il.nd (cf (cf (dI (am hr.u16 (af 5) ai) fj (fh ai)) (am hr.u16 aA (pD (af 11) ai))) (OS T.b_str (aa (BM (af 11) ai) ae)))) (ac (aY 14 il.nd (ap (Pc T) (hr.mono (by decide)) (aa (af 0) (aa (af 5) (aa (af 7) (aa (af 6) (aa (af 9) (aa (af 13) ae)))))))) (ac (aS (cJ hr.units (am hr.u16 (af 14) ai) aA) (ac (fO (kW (af 9) (af 13))) aj) aj) (ac (fO (kW (af 8) (af 14))) aj))))) (ac (au (bI (aa (iN T.b_tuple (aa (af 10) ae)) (aa (iN T.b_tuple (aa (dI (af 5) (fh (af 3)) fj) ae)) (aa (iN T.b_tuple (aa (af 8) ae)) ae))))) aj)))))))
theorem CD (T:Tx P w K mg):tj P w K mg base 4 (He.ga K "_law_drawn") lQ 2 [.int 4]:=(zw T).formD 2 0 (by simp) rfl Iu (fun _=>.cons (.int _) (.nil))
def Ku:MS:=ao (yl gQ (ao (be (A6 (iU "Text" 3 [] aW (aC (bV (eV 0) (eK (.int 0))) (aC (bV (eV 0) (eK (.int 1))) (aC (bV (eV 0) (eK (.int 2))) (aN))))))) az) (ao (be (A6 (iU "Text" 3 [] iW (aC (bV (eV 1) (eK (.int 0))) (aC (bV (eV 1) (eK (.int 1))) (aC (bV (eV 1) (eK (.int 2))) (aN))))))) az)) az
def mq:Fn:=runB 2 Ku
theorem BA (T:Tx P w K mg):jo P w K mg base 9 "_law_made" ["_law_parts", "_law_spare"] mq :=
 (cD (k:=8) (N:=["_law_parts", "_law_spare"]) T.mq O2 PR fun cdv A outer s H E G hr=>ac (KZ ⟨rfl,by decide, .inl T.g_BadText⟩ T.gQ (fun _ _ _ _=>ac (au (yb (vN T.mk_Text T.g_Text (fW T) (hr.mono (by decide)) (aa (am hr.u16 (af 0) ai) (aa (am hr.u16 (af 0) ai) (aa (am hr.u16 (af 0) ai) ae)))))) aj) (fun a oe cls d pn hz QS=>ac (au (yb (J7 T.mk_Text T.g_Text (ut T) (UY (hr.mono (by decide))) (Tw hz QS) (aa (am hr.u16 (af 1) ai) (aa (am hr.u16 (af 1) ai) (aa (am hr.u16 (af 1) ai) ae)))))) aj)) aj)
def Ml:MS:=ao (uF (eG 3 (aO (bh 2) (aO (bh 3) (aO (bh 4) cu)))) (eV 1)) (ao (cV 5 (aw 2 bH (aC (eV 0) (aC (eF dh (aC (eV 4) (aN))) (aN))))) (ao (qJ [6,7] (aC (og (aC (bV (eV 4) (eV 5)) (aN))) (aC (aw 2 bH (aC (eV 0) (aC (eK (.int 4)) (aN)))) (aN)))) (ao (iq (tB bP (eV 7) (eK (.int 0))) (ao (be (aw 2 mq (aC (eT (aC (eV 2) (aC (eV 3) (aC (uD (eV 4) (oN) (oS (eV 5))) (aN))))) (aC (eV 1) (aN))))) az) az) (ao (iq (tB bP (eV 7) (eK (.int 1))) (ao (be (aw 2 mq (aC (eT (aC (eV 2) (aC (eV 3) (aC (eB ck (eV 4) (eT (aC (bV (eV 4) (eV 5)) (aN)))) (aN))))) (aC (eV 1) (aN))))) az) az) (ao (cV 8 (eB ck (eK (.int 1)) (aw 2 bH (aC (eV 0) (aC (eB jR (eF dh (aC (eV 6) (aN))) (eK (.int 1))) (aN)))))) (ao (iq (tV (eF br (aC (bV (eV 6) (eV 8)) (aC (eK (.ty "int")) (aN))))) (ao (Dz (eV 6) (eV 8) (eB ck (bV (eV 6) (eV 8)) (bV (eL (aC (eK (.int 1)) (aC (eU ii (eK (.int 1))) (aN)))) (aw 2 bH (aC (eV 0) (aC (eK (.int 2)) (aN))))))) az) (ao (Dz (eV 6) (eV 8) (bV (eL (aC (bV (eV 3) (eU ii (eK (.int 1)))) (aC (eK (.str "i1")) (aC (eK (.str "int4")) (aC (eK (.str "zz9")) (aN)))))) (aw 2 bH (aC (eV 0) (aC (eK (.int 4)) (aN)))))) az)) (ao (be (aw 2 mq (aC (eT (aC (eV 2) (aC (eV 3) (aC (eB ck (eB ck (uD (eV 4) (oN) (oS (eV 5))) (eT (aC (eF hX (aC (eV 6) (aN))) (aN)))) (uD (eV 4) (oS (eB ck (eV 5) (eK (.int 1)))) (oN))) (aN))))) (aC (eV 1) (aN))))) az)))))))
def qV:Fn:=runZ 9 Ml
theorem Nu (T:Tx P w K mg):jo P w K mg base 10 "_law_near" ["_law_bag_here", "_law_parts"] qV :=
 Au (cD (k:=9) (N:=["_law_bag_here", "_law_parts", "_law_places", "_law_pointers", "_law_steps", "_law_at", "_law_step_here", "_law_way", "_law_part"]) T.qV nA Of fun cdv A outer s H E G hr=>ac (nQ (pg_tup rfl (pgs_cons (pg_name (i:=2) nA.nd rfl (by first | exact Or.inl rfl | exact Or.inr rfl)) (pgs_cons (pg_name (i:=3) nA.nd rfl (by first | exact Or.inl rfl | exact Or.inr rfl)) (pgs_cons (pg_name (i:=4) nA.nd rfl (by first | exact Or.inl rfl | exact Or.inr rfl)) (pgs_nil))))) (cU (aD aB (aD aB (aD aB bS)))) (af 1)) (ac (aY 5 nA.nd (ap (bN T) (hr.mono (by decide)) (aa (af 0) (aa (bF T.b_len (aa (af 4) ae)) ae)))) (ac (nj 6 7 rfl nA.nd (aa (xh T.b_list (aa (am hr.u16 (af 4) (af 5)) ae)) (aa (ap (bN T) (hr.mono (by decide)) (aa (af 0) (aa ai ae))) ae))) (ac (aS (cJ hr.units (af 7) ai) (ac (au (ap (BA T) (hr.mono (by decide)) (aa (bI (aa (af 2) (aa (af 3) (aa (dI (af 4) fj (fh (af 5))) ae)))) (aa (af 1) ae)))) aj) aj) (ac (aS (cJ hr.units (af 7) ai) (ac (au (ap (BA T) (hr.mono (by decide)) (aa (bI (aa (af 2) (aa (af 3) (aa (cf (af 4) (bI (aa (am hr.u16 (af 4) (af 5)) ae))) ae)))) (aa (af 1) ae)))) aj) aj) (ac (aY 8 nA.nd (cf ai (ap (bN T) (hr.mono (by decide)) (aa (af 0) (aa (kD (bF T.b_len (aa (af 6) ae)) ai) ae))))) (ac (aS (eX (dJ T.b_isinstance (aa (am hr.u16 (af 6) (af 8)) (aa (gp T.b_int) ae)))) (ac (xo hr.u16 (cf (am hr.u16 (af 6) (af 8)) (am hr.u16 (jL (aa ai (aa (hZ ai) ae))) (ap (bN T) (hr.mono (by decide)) (aa (af 0) (aa ai ae))))) (af 6) (af 8)) aj) (ac (xo hr.u16 (am hr.u16 (jL (aa (am hr.u16 (af 3) (hZ ai)) (aa aA (aa aA (aa aA ae))))) (ap (bN T) (hr.mono (by decide)) (aa (af 0) (aa ai ae)))) (af 6) (af 8)) aj)) (ac (au (ap (BA T) (hr.mono (by decide)) (aa (bI (aa (af 2) (aa (af 3) (aa (cf (cf (dI (af 4) fj (fh (af 5))) (bI (aa (iN T.b_tuple (aa (af 6) ae)) ae))) (dI (af 4) (fh (cf (af 5) ai)) fj)) ae)))) (aa (af 1) ae)))) aj))))))))
def sf:MS:=ao (be (eB ck (eF hX (aC (wH (mE (mw ["Text"] "places" (eV 0))) (eG 2 (aO (bh 1) (aO (bh 2) cu))) iY (eV 1) [1,2]) (aN))) (mw ["Text"] "pointers" (eV 0)))) az
def cB:Fn:=runB 3 sf
theorem xN (T:Tx P w K mg):BR P w K mg base 1 "names" "Text.names" (He.ma K (He.ga K "Text") "names") df [] ["self"] cB :=
 (qF (k:=0) (N:=["self", "name", "kind"]) T.cB jD fun cdv A outer s H E G hr=>ac (au (cf (iN T.b_tuple (aa (lW (own:=[("name",1),("kind",2)]) (g:=(gTup _ 2 (gCons (gName 1) (gCons (gName 2) (gNil))))) rfl jD.nd (jO bu) (ey (gG (List.forall_mem_cons.mpr ⟨⟨T.c_Text,T.na_Text_places⟩,(fun _ h=>nomatch h)⟩) (af 0))) (blkOk_by (own:=[("name",1),("kind",2)]) (N:=["self", "name", "kind"]) (sc:=defScope df) (by decide +kernel)) (fun _ _ _ _ _=>pg_tup rfl (pgs_cons (pg_name (i:=1) jD.nd rfl (by first | exact Or.inl rfl | exact Or.inr rfl)) (pgs_cons (pg_name (i:=2) jD.nd rfl (by first | exact Or.inl rfl | exact Or.inr rfl)) (pgs_nil)))) (cU (aD aB (aD aB bS))) (by decide) (fun B hB=>by obtain⟨s',H',Cc,cl,fp,hB⟩:=hB; obtain⟨BX,W',qe,G'⟩:=B; cases hB; exact af 1)) ae)) (gG (List.forall_mem_cons.mpr ⟨⟨T.c_Text,T.na_Text_pointers⟩,(fun _ h=>nomatch h)⟩) (af 0)))) aj)
theorem ur (T:Tx P w K mg):tj P w K mg base 1 (He.ma K (He.ga K "Text") "names") cB 1 []:=(xN T).form yR rfl
def kU:MS:=ao (be (wH (mE (mw ["Text"] "steps" (eV 0))) (bh 1) (tB eW (aw 1 bE (aC (eV 1) (aN))) (eK .non)) (aw 1 bE (aC (eV 1) (aN))) [1])) az
def aV:Fn:=runB 2 kU
theorem oy (T:Tx P w K mg):BR P w K mg base 2 "made_values" "Text.made_values" (He.ma K (He.ga K "Text") "made_values") bq [] ["self"] aV :=
 (qF (k:=1) (N:=["self", "step"]) T.aV hY fun cdv A outer s H E G hr=>ac (au (K0 (own:=[("step",1)]) (g:=gName 1) rfl hY.nd (jO bu) (ey (gG (List.forall_mem_cons.mpr ⟨⟨T.c_Text,T.na_Text_steps⟩,(fun _ h=>nomatch h)⟩) (af 0))) (blkOk_by (own:=[("step",1)]) (N:=["self", "step"]) (sc:=defScope bq) (by decide +kernel)) (fun _ _ _ _ _=>pg_name (i:=1) hY.nd rfl (by first | exact Or.inl rfl | exact Or.inr rfl)) aB (by decide) (fun B hB=>by obtain⟨s',H',Cc,cl,fp,hB⟩:=hB; obtain⟨BX,W',qe,G'⟩:=B; cases hB; exact nM (ap (ij T) (hr.mono (by decide)) (aa (af 1) ae)) bY) (fun B hB=>by obtain⟨s',H',Cc,cl,fp,hB⟩:=hB; obtain⟨BX,W',qe,G'⟩:=B; cases hB; exact ap (ij T) (hr.mono (by decide)) (aa (af 1) ae)))) aj)
theorem ni (T:Tx P w K mg):tj P w K mg base 2 (He.ma K (He.ga K "Text") "made_values") aV 1 []:=(oy T).form qf rfl
def mL:MS:=ao (iq (qS (tB bP (eF dh (aC (mw ["Text"] "steps" (eV 0)) (aN))) (eK (.int 12))) (tN (tV (aw 3 bC (aC (eV 1) (aC (jQ "Text" "names" 0 [] cB (eV 0) (aN)) (aC (jQ "Text" "made_values" 0 [] aV (eV 0) (aN)) (aN)))))))) (ao (hU "BadText" ["part", "index"] ft (aC (eK (.str "steps")) (aC (eF dh (aC (mw ["Text"] "steps" (eV 0)) (aN))) (aN)))) az) az) (ao (be (A6 (iU "Text" 3 [] aW (aC (mw ["Text"] "places" (eV 0)) (aC (mw ["Text"] "pointers" (eV 0)) (aC (eB ck (mw ["Text"] "steps" (eV 0)) (eT (aC (eV 1) (aN)))) (aN))))))) az)
def bK:Fn:=runB 2 mL
theorem qT (T:Tx P w K mg):BR P w K mg base 9 "with_step" "Text.with_step" (He.ma K (He.ga K "Text") "with_step") cb [] ["self", "step"] bK :=
 (qF (k:=8) (N:=["self", "step"]) T.bK sC fun cdv A outer s H E G hr=>ac (aS (fY (dw (cJ hr.units (bF T.b_len (aa (gG (List.forall_mem_cons.mpr ⟨⟨T.c_Text,T.na_Text_steps⟩,(fun _ h=>nomatch h)⟩) (af 0)) ae)) (gX T.c_MOST_STEPS)) (cS (bT (eX (ap (rA T) (hr.mono (by decide)) (aa (af 1) (aa (C1 T.c_Text T.m_Text_names (ur T) (hr.mono (by decide)) (af 0)) (aa (C1 T.c_Text T.m_Text_made_values (ni T) (hr.mono (by decide)) (af 0)) ae))))))))) (ac (ir (k:=0) rfl T.s_BadText ⟨⟨_,rfl,rfl⟩,rfl,rfl,rfl,rfl,T.b_super,T.ptop⟩ gz (hr.mono (by decide)) T.g_BadText (aa aA (aa (bF T.b_len (aa (gG (List.forall_mem_cons.mpr ⟨⟨T.c_Text,T.na_Text_steps⟩,(fun _ h=>nomatch h)⟩) (af 0)) ae)) ae))) aj) aj) (ac (au (yb (vN T.mk_Text T.g_Text (fW T) (hr.mono (by decide)) (aa (gG (List.forall_mem_cons.mpr ⟨⟨T.c_Text,T.na_Text_places⟩,(fun _ h=>nomatch h)⟩) (af 0)) (aa (gG (List.forall_mem_cons.mpr ⟨⟨T.c_Text,T.na_Text_pointers⟩,(fun _ h=>nomatch h)⟩) (af 0)) (aa (cf (gG (List.forall_mem_cons.mpr ⟨⟨T.c_Text,T.na_Text_steps⟩,(fun _ h=>nomatch h)⟩) (af 0)) (bI (aa (af 1) ae))) ae)))))) aj))
theorem pw (T:Tx P w K mg):tj P w K mg base 9 (He.ma K (He.ga K "Text") "with_step") bK 2 []:=(qT T).form sg rfl
def uK:MS:=ao (be (Gz [eU ie (eV 0),eK (.str "+"),eU ie (eV 1)])) az
def dB:Fn:=runB 2 uK
theorem jj (T:Tx P w K mg):jo P w K mg base 1 "spot_word" ["name", "offset"] dB :=
 (cD (k:=0) (N:=["name", "offset"]) T.dB Bg BQ fun cdv A outer s H E G hr=>ac (au (qm (Jj.cons (fB (af 0)) (Jj.cons aA (Jj.cons (fB (af 1)) (Jj.nil)))))) aj)
def uZ:MS:=ao (cV 1 (bV (eV 0) (eK (.int 0)))) (ao (iq (tB bP (eV 1) (eK (.str "read"))) (ao (be (Gz [eK (.str "read "),eU ie (bV (eV 0) (eK (.int 1))),eK (.str " "),eU ie (bV (eV 0) (eK (.int 2))),eK (.str " "),eU ie (aw 2 dB (aC (bV (eV 0) (eK (.int 3))) (aC (bV (eV 0) (eK (.int 4))) (aN))))])) az) az) (ao (iq (tB bP (eV 1) (eK (.str "write"))) (ao (be (Gz [eK (.str "write "),eU ie (bV (eV 0) (eK (.int 1))),eK (.str " "),eU ie (aw 2 dB (aC (bV (eV 0) (eK (.int 2))) (aC (bV (eV 0) (eK (.int 3))) (aN)))),eK (.str " "),eU ie (bV (eV 0) (eK (.int 4)))])) az) az) (ao (iq (tB bP (eV 1) (eK (.str "copy"))) (ao (be (Gz [eK (.str "copy "),eU ie (bV (eV 0) (eK (.int 1))),eK (.str " "),eU ie (aw 2 dB (aC (bV (eV 0) (eK (.int 2))) (aC (bV (eV 0) (eK (.int 3))) (aN)))),eK (.str " "),eU ie (aw 2 dB (aC (bV (eV 0) (eK (.int 4))) (aC (bV (eV 0) (eK (.int 5))) (aN))))])) az) az) (ao (iq (tB bP (eV 1) (eK (.str "blank"))) (ao (be (Gz [eK (.str "blank "),eU ie (bV (eV 0) (eK (.int 1))),eK (.str " "),eU ie (aw 2 dB (aC (bV (eV 0) (eK (.int 2))) (aC (bV (eV 0) (eK (.int 3))) (aN))))])) az) az) (ao (be (Gz [eK (.str "tell "),eU ie (bV (eV 0) (eK (.int 1)))])) az)))))
def gD:Fn:=runB 2 uZ
theorem AR (T:Tx P w K mg):jo P w K mg base 2 "step_line" ["step"] gD :=
 (cD (k:=1) (N:=["step", "word"]) T.gD sX A7 fun cdv A outer s H E G hr=>ac (aY 1 sX.nd (am hr.u16 (af 0) ai)) (ac (aS (cJ hr.units (af 1) aA) (ac (au (qm (Jj.cons aA (Jj.cons (fB (am hr.u16 (af 0) ai)) (Jj.cons aA (Jj.cons (fB (am hr.u16 (af 0) ai)) (Jj.cons aA (Jj.cons (fB (ap (jj T) (hr.mono (by decide)) (aa (am hr.u16 (af 0) ai) (aa (am hr.u16 (af 0) ai) ae)))) (Jj.nil))))))))) aj) aj) (ac (aS (cJ hr.units (af 1) aA) (ac (au (qm (Jj.cons aA (Jj.cons (fB (am hr.u16 (af 0) ai)) (Jj.cons aA (Jj.cons (fB (ap (jj T) (hr.mono (by decide)) (aa (am hr.u16 (af 0) ai) (aa (am hr.u16 (af 0) ai) ae)))) (Jj.cons aA (Jj.cons (fB (am hr.u16 (af 0) ai)) (Jj.nil))))))))) aj) aj) (ac (aS (cJ hr.units (af 1) aA) (ac (au (qm (Jj.cons aA (Jj.cons (fB (am hr.u16 (af 0) ai)) (Jj.cons aA (Jj.cons (fB (ap (jj T) (hr.mono (by decide)) (aa (am hr.u16 (af 0) ai) (aa (am hr.u16 (af 0) ai) ae)))) (Jj.cons aA (Jj.cons (fB (ap (jj T) (hr.mono (by decide)) (aa (am hr.u16 (af 0) ai) (aa (am hr.u16 (af 0) ai) ae)))) (Jj.nil))))))))) aj) aj) (ac (aS (cJ hr.units (af 1) aA) (ac (au (qm (Jj.cons aA (Jj.cons (fB (am hr.u16 (af 0) ai)) (Jj.cons aA (Jj.cons (fB (ap (jj T) (hr.mono (by decide)) (aa (am hr.u16 (af 0) ai) (aa (am hr.u16 (af 0) ai) ae)))) (Jj.nil))))))) aj) aj) (ac (au (qm (Jj.cons aA (Jj.cons (fB (am hr.u16 (af 0) ai)) (Jj.nil))))) aj))))))
def wN:MS:=ao (cV 3 (LQ (mE (eV 0)) (eG 2 (aO (bh 4) (aO (bh 5) cu))) iY (Gz [eK (.str "place "),eU ie (eV 4),eK (.str " "),eU ie (eV 5)]) [4,5])) (ao (ik (J2 (eV 3) (wH (mE (eV 1)) (bh 4) iY (Gz [eK (.str "pointer "),eU ie (eV 4)]) [4]))) (ao (ik (J2 (eV 3) (wH (mE (eV 2)) (bh 6) iY (aw 1 gD (aC (eV 6) (aN))) [6]))) (ao (be (eV 3)) az)))
def iA:Fn:=runZ 7 wN
theorem D0 (T:Tx P w K mg):jo P w K mg base 3 "lines_of" ["places", "pointers", "steps"] iA :=
 Au (cD (k:=2) (N:=["places", "pointers", "steps", "found", "name", "kind", "step"]) T.iA fE Dk fun cdv A outer s H E G hr=>ac (FC 3 (own:=[("name",4),("kind",5)]) (g:=(gTup _ 2 (gCons (gName 4) (gCons (gName 5) (gNil))))) rfl fE.nd (jO bu) (ey (af 0)) (blkOk_by (own:=[("name",4),("kind",5)]) (N:=["places", "pointers", "steps", "found", "name", "kind", "step"]) (sc:=defScope fK) (by decide +kernel)) (fun _ _ _ _ _=>pg_tup rfl (pgs_cons (pg_name (i:=4) fE.nd rfl (by first | exact Or.inl rfl | exact Or.inr rfl)) (pgs_cons (pg_name (i:=5) fE.nd rfl (by first | exact Or.inl rfl | exact Or.inr rfl)) (pgs_nil)))) (cU (aD aB (aD aB bS))) (by decide) (fun B hB=>by obtain⟨s',H',Cc,cl,fp,hB⟩:=hB; obtain⟨BX,W',qe,G'⟩:=B; cases hB; exact qm (Jj.cons aA (Jj.cons (fB (af 4)) (Jj.cons aA (Jj.cons (fB (af 5)) (Jj.nil))))))) (ac (fO (J5 (af 3) (lW (own:=[("name",4)]) (g:=gName 4) rfl fE.nd (jO bu) (ey (af 1)) (blkOk_by (own:=[("name",4)]) (N:=["places", "pointers", "steps", "found", "name", "kind", "step"]) (sc:=defScope fK) (by decide +kernel)) (fun _ _ _ _ _=>pg_name (i:=4) fE.nd rfl (by first | exact Or.inl rfl | exact Or.inr rfl)) aB (by decide) (fun B hB=>by obtain⟨s',H',Cc,cl,fp,hB⟩:=hB; obtain⟨BX,W',qe,G'⟩:=B; cases hB; exact qm (Jj.cons aA (Jj.cons (fB (af 4)) (Jj.nil))))))) (ac (fO (J5 (af 3) (lW (own:=[("step",6)]) (g:=gName 6) rfl fE.nd (jO bu) (ey (af 2)) (blkOk_by (own:=[("step",6)]) (N:=["places", "pointers", "steps", "found", "name", "kind", "step"]) (sc:=defScope fK) (by decide +kernel)) (fun _ _ _ _ _=>pg_name (i:=6) fE.nd rfl (by first | exact Or.inl rfl | exact Or.inr rfl)) aB (by decide) (fun B hB=>by obtain⟨s',H',Cc,cl,fp,hB⟩:=hB; obtain⟨BX,W',qe,G'⟩:=B; cases hB; exact ap (AR T) (hr.mono (by decide)) (aa (af 6) ae))))) (ac (au (af 3)) aj))))
def rY:MS:=ao (be (vt lS (eK (.str "\n")) (aC (aw 3 iA (aC (mw ["Text"] "places" (eV 0)) (aC (mw ["Text"] "pointers" (eV 0)) (aC (mw ["Text"] "steps" (eV 0)) (aN))))) aN))) az
def aU:Fn:=runB 1 rY
theorem fZ (T:Tx P w K mg):jo P w K mg base 4 "write_text" ["text"] aU :=
 (cD (k:=3) (N:=["text"]) T.aU yU yN fun cdv A outer s H E G hr=>ac (au (BF aA (ap (D0 T) (hr.mono (by decide)) (aa (gG (List.forall_mem_cons.mpr ⟨⟨T.c_Text,T.na_Text_places⟩,(fun _ h=>nomatch h)⟩) (af 0)) (aa (gG (List.forall_mem_cons.mpr ⟨⟨T.c_Text,T.na_Text_pointers⟩,(fun _ h=>nomatch h)⟩) (af 0)) (aa (gG (List.forall_mem_cons.mpr ⟨⟨T.c_Text,T.na_Text_steps⟩,(fun _ h=>nomatch h)⟩) (af 0)) ae)))))) aj)
def uS:MS:=ao (cV 1 (FD (tV (vt nD (eV 0) (aC (eK (.str "-")) aN))) (uD (eV 0) (oS (eK (.int 1))) (oN)) (eV 0))) (ao (iq (qS (tB bP (eV 1) (eK (.str ""))) (qS (tB BS (eF dh (aC (eV 1) (aN))) (eK (.int 40))) (tN (tV (aw 2 cy (aC (eV 1) (aC (eK (.str "0123456789")) (aN)))))))) (ao (be (eK .non)) az) az) (ao (iq (vE (tB bP (bV (eV 1) (eK (.int 0))) (eK (.str "0"))) (tB lm (eV 0) (eK (.str "0")))) (ao (be (eK .non)) az) az) (ao (be (eF kE (aC (eV 0) (aN)))) az)))
def fH:Fn:=runB 2 uS
theorem sW (T:Tx P w K mg):jo P w K mg base 2 "number_in" ["word"] fH :=
 (cD (k:=1) (N:=["word", "plain"]) T.fH sV BJ fun cdv A outer s H E G hr=>ac (aY 1 sV.nd (mz (eX (zp (af 0) aA)) (dI (af 0) (fh ai) fj) (af 0))) (ac (aS (fY (dw (cJ hr.units (af 1) aA) (dw (uJ (bF T.b_len (aa (af 1) ae)) (gX T.c_MOST_FIGURES)) (cS (bT (eX (ap (kI T) (hr.mono (by decide)) (aa (af 1) (aa (sJ T.c_FIGURES) ae))))))))) (ac (au bY) aj) aj) (ac (aS (fY (kR (cJ hr.units (am hr.u16 (af 1) ai) aA) (jB (ow hr.units (af 0) aA)))) (ac (au bY) aj) aj) (ac (au (fQ T.b_int (aa (af 0) ae))) aj))))
def xm:MS:=ao (be (FD (tV (vt nD (eV 0) (aC (eK (.str "-")) aN))) (eK .non) (aw 1 fH (aC (eV 0) (aN))))) az
def fP:Fn:=runB 1 xm
theorem oM (T:Tx P w K mg):jo P w K mg base 3 "count_in" ["word"] fP :=
 (cD (k:=2) (N:=["word"]) T.fP DX DQ fun cdv A outer s H E G hr=>ac (au (mz (eX (zp (af 0) aA)) bY (ap (sW T) (hr.mono (by decide)) (aa (af 0) ae)))) aj)
def zV:MS:=ao (uF (eG 3 (aO (bh 1) (aO (bh 2) (aO (bh 3) cu)))) (vt gH (eV 0) (aC (eK (.str "+")) aN))) (ao (cV 4 (aw 1 fP (aC (eV 3) (aN)))) (ao (be (FD (qS (tB bP (eV 2) (eK (.str ""))) (tB eZ (eV 4) (eK .non))) (eT (aC (eK .non) (aC (eK .non) (aN)))) (eT (aC (eV 1) (aC (eV 4) (aN)))))) az))
def ei:Fn:=runB 5 zV
theorem kF (T:Tx P w K mg):jo P w K mg base 4 "spot_in" ["word"] ei :=
 (cD (k:=3) (N:=["word", "name", "sign", "rest", "offset"]) T.ei kA Fm fun cdv A outer s H E G hr=>ac (nQ (pg_tup rfl (pgs_cons (pg_name (i:=1) kA.nd rfl (by first | exact Or.inl rfl | exact Or.inr rfl)) (pgs_cons (pg_name (i:=2) kA.nd rfl (by first | exact Or.inl rfl | exact Or.inr rfl)) (pgs_cons (pg_name (i:=3) kA.nd rfl (by first | exact Or.inl rfl | exact Or.inr rfl)) (pgs_nil))))) (cU (aD aB (aD aB (aD aB bS)))) (B0 (af 0) aA)) (ac (aY 4 kA.nd (ap (oM T) (hr.mono (by decide)) (aa (af 3) ae))) (ac (au (mz (fY (dw (cJ hr.units (af 2) aA) (cS (Ge (af 4) bY)))) (bI (aa bY (aa bY ae))) (bI (aa (af 1) (aa (af 4) ae))))) aj)))
def zR:MS:=ao (be (FD (tV (aw 1 gh (aC (eV 0) (aN)))) (eV 0) (eK .non))) az
def fC:Fn:=runB 1 zR
theorem ky (T:Tx P w K mg):jo P w K mg base 5 "checked" ["step"] fC :=
 (cD (k:=4) (N:=["step"]) T.fC EZ EI fun cdv A outer s H E G hr=>ac (au (mz (eX (ap (xF T) (hr.mono (by decide)) (aa (af 0) ae))) (af 0) bY)) aj)
def yq:MS:=ao (cV 1 (aw 1 fH (aC (eV 0) (aN)))) (ao (iq (vE (tB eZ (eV 1) (eK .non)) (tV (aw 1 bD (aC (eV 0) (aN))))) (ao (be (eV 0)) az) az) (ao (be (eV 1)) az))
def iG:Fn:=runB 2 yq
theorem Cv (T:Tx P w K mg):jo P w K mg base 3 "value_in" ["word"] iG :=
 (cD (k:=2) (N:=["word", "number"]) T.iG uP Dj fun cdv A outer s H E G hr=>ac (aY 1 uP.nd (ap (sW T) (hr.mono (by decide)) (aa (af 0) ae))) (ac (aS (fY (kR (Ge (af 1) bY) (jB (eX (ap (iB T) (hr.mono (by decide)) (aa (af 0) ae)))))) (ac (au (af 0)) aj) aj) (ac (au (af 1)) aj)))
def zH:MS:=ao (B5 (eV 0) [([.lit "read", .cap 1, .cap 2, .cap 3],ao (uF (eG 2 (aO (bh 4) (aO (bh 5) cu))) (aw 1 ei (aC (eV 3) (aN)))) (ao (be (aw 1 fC (aC (eT (aC (eK (.str "read")) (aC (eV 1) (aC (eV 2) (aC (eV 4) (aC (eV 5) (aN))))))) (aN)))) az)),([.lit "write", .cap 2, .cap 3, .cap 6],ao (uF (eG 2 (aO (bh 4) (aO (bh 5) cu))) (aw 1 ei (aC (eV 3) (aN)))) (ao (be (aw 1 fC (aC (eT (aC (eK (.str "write")) (aC (eV 2) (aC (eV 4) (aC (eV 5) (aC (aw 1 iG (aC (eV 6) (aN))) (aN))))))) (aN)))) az)),([.lit "copy", .cap 7, .cap 3, .cap 8],ao (uF (eG 2 (aO (eG 2 (aO (bh 4) (aO (bh 5) cu))) (aO (eG 2 (aO (bh 9) (aO (bh 10) cu))) cu))) (eT (aC (aw 1 ei (aC (eV 3) (aN))) (aC (aw 1 ei (aC (eV 8) (aN))) (aN))))) (ao (be (aw 1 fC (aC (eT (aC (eK (.str "copy")) (aC (aw 1 fP (aC (eV 7) (aN))) (aC (eV 4) (aC (eV 5) (aC (eV 9) (aC (eV 10) (aN)))))))) (aN)))) az)),([.lit "blank", .cap 7, .cap 3],ao (uF (eG 2 (aO (bh 4) (aO (bh 5) cu))) (aw 1 ei (aC (eV 3) (aN)))) (ao (be (aw 1 fC (aC (eT (aC (eK (.str "blank")) (aC (aw 1 fP (aC (eV 7) (aN))) (aC (eV 4) (aC (eV 5) (aN)))))) (aN)))) az)),([.lit "tell", .cap 1],ao (be (aw 1 fC (aC (eT (aC (eK (.str "tell")) (aC (eV 1) (aN)))) (aN)))) az)]) (ao (be (eK .non)) az)
def jr:Fn:=runB 11 zH
theorem E5 (T:Tx P w K mg):jo P w K mg base 6 "step_in" ["words"] jr :=
 (cD (k:=5) (N:=["words", "x", "kind", "target", "name", "offset", "value", "many", "source", "other", "begin"]) T.jr dF Eo fun cdv A outer s H E G hr=>ac (LB rfl dF.nd (af 0) (kq.cons (eE.cons mU.lit (eE.cons (mU.cap rfl (by first | exact Or.inl rfl | exact Or.inr rfl) (by first | exact Or.inl rfl | exact Or.inr rfl)) (eE.cons (mU.cap rfl (by first | exact Or.inl rfl | exact Or.inr rfl) (by first | exact Or.inl rfl | exact Or.inr rfl)) (eE.cons (mU.cap rfl (by first | exact Or.inl rfl | exact Or.inr rfl) (by first | exact Or.inl rfl | exact Or.inr rfl)) (eE.nil))))) rfl rfl (ac (nQ (pg_tup rfl (pgs_cons (pg_name (i:=4) dF.nd rfl (by first | exact Or.inl rfl | exact Or.inr rfl)) (pgs_cons (pg_name (i:=5) dF.nd rfl (by first | exact Or.inl rfl | exact Or.inr rfl)) (pgs_nil)))) (cU (aD aB (aD aB bS))) (ap (kF T) (hr.mono (by decide)) (aa (af 3) ae))) (ac (au (ap (ky T) (hr.mono (by decide)) (aa (bI (aa aA (aa (af 1) (aa (af 2) (aa (af 4) (aa (af 5) ae)))))) ae))) aj)) (kq.cons (eE.cons mU.lit (eE.cons (mU.cap rfl (by first | exact Or.inl rfl | exact Or.inr rfl) (by first | exact Or.inl rfl | exact Or.inr rfl)) (eE.cons (mU.cap rfl (by first | exact Or.inl rfl | exact Or.inr rfl) (by first | exact Or.inl rfl | exact Or.inr rfl)) (eE.cons (mU.cap rfl (by first | exact Or.inl rfl | exact Or.inr rfl) (by first | exact Or.inl rfl | exact Or.inr rfl)) (eE.nil))))) rfl rfl (ac (nQ (pg_tup rfl (pgs_cons (pg_name (i:=4) dF.nd rfl (by first | exact Or.inl rfl | exact Or.inr rfl)) (pgs_cons (pg_name (i:=5) dF.nd rfl (by first | exact Or.inl rfl | exact Or.inr rfl)) (pgs_nil)))) (cU (aD aB (aD aB bS))) (ap (kF T) (hr.mono (by decide)) (aa (af 3) ae))) (ac (au (ap (ky T) (hr.mono (by decide)) (aa (bI (aa aA (aa (af 2) (aa (af 4) (aa (af 5) (aa (ap (Cv T) (hr.mono (by decide)) (aa (af 6) ae)) ae)))))) ae))) aj)) (kq.cons (eE.cons mU.lit (eE.cons (mU.cap rfl (by first | exact Or.inl rfl | exact Or.inr rfl) (by first | exact Or.inl rfl | exact Or.inr rfl)) (eE.cons (mU.cap rfl (by first | exact Or.inl rfl | exact Or.inr rfl) (by first | exact Or.inl rfl | exact Or.inr rfl)) (eE.cons (mU.cap rfl (by first | exact Or.inl rfl | exact Or.inr rfl) (by first | exact Or.inl rfl | exact Or.inr rfl)) (eE.nil))))) rfl rfl (ac (nQ (pg_tup rfl (pgs_cons (pg_tup rfl (pgs_cons (pg_name (i:=4) dF.nd rfl (by first | exact Or.inl rfl | exact Or.inr rfl)) (pgs_cons (pg_name (i:=5) dF.nd rfl (by first | exact Or.inl rfl | exact Or.inr rfl)) (pgs_nil)))) (pgs_cons (pg_tup rfl (pgs_cons (pg_name (i:=9) dF.nd rfl (by first | exact Or.inl rfl | exact Or.inr rfl)) (pgs_cons (pg_name (i:=10) dF.nd rfl (by first | exact Or.inl rfl | exact Or.inr rfl)) (pgs_nil)))) (pgs_nil)))) (cU (aD (cU (aD aB (aD aB bS))) (aD (cU (aD aB (aD aB bS))) bS))) (bI (aa (ap (kF T) (hr.mono (by decide)) (aa (af 3) ae)) (aa (ap (kF T) (hr.mono (by decide)) (aa (af 8) ae)) ae)))) (ac (au (ap (ky T) (hr.mono (by decide)) (aa (bI (aa aA (aa (ap (oM T) (hr.mono (by decide)) (aa (af 7) ae)) (aa (af 4) (aa (af 5) (aa (af 9) (aa (af 10) ae))))))) ae))) aj)) (kq.cons (eE.cons mU.lit (eE.cons (mU.cap rfl (by first | exact Or.inl rfl | exact Or.inr rfl) (by first | exact Or.inl rfl | exact Or.inr rfl)) (eE.cons (mU.cap rfl (by first | exact Or.inl rfl | exact Or.inr rfl) (by first | exact Or.inl rfl | exact Or.inr rfl)) (eE.nil)))) rfl rfl (ac (nQ (pg_tup rfl (pgs_cons (pg_name (i:=4) dF.nd rfl (by first | exact Or.inl rfl | exact Or.inr rfl)) (pgs_cons (pg_name (i:=5) dF.nd rfl (by first | exact Or.inl rfl | exact Or.inr rfl)) (pgs_nil)))) (cU (aD aB (aD aB bS))) (ap (kF T) (hr.mono (by decide)) (aa (af 3) ae))) (ac (au (ap (ky T) (hr.mono (by decide)) (aa (bI (aa aA (aa (ap (oM T) (hr.mono (by decide)) (aa (af 7) ae)) (aa (af 4) (aa (af 5) ae))))) ae))) aj)) (kq.cons (eE.cons mU.lit (eE.cons (mU.cap rfl (by first | exact Or.inl rfl | exact Or.inr rfl) (by first | exact Or.inl rfl | exact Or.inr rfl)) (eE.nil))) rfl rfl (ac (au (ap (ky T) (hr.mono (by decide)) (aa (bI (aa aA (aa (af 1) ae))) ae))) aj) (kq.nil))))))) (ac (au bY) aj))
def xp:MS:=ao (cV 1 (vt gm (eV 0) (aC (eK (.str " ")) aN))) (ao (iq (tB bP (bV (eV 1) (eK (.int 0))) (eK (.str "place"))) (ao (iq (vE (tB bP (eF dh (aC (eV 1) (aN))) (eK (.int 3))) (vE (tV (aw 1 bD (aC (bV (eV 1) (eK (.int 1))) (aN)))) (tV (aw 1 cP (aC (bV (eV 1) (eK (.int 2))) (aN)))))) (ao (be (eT (aC (eK (.int 0)) (aC (eT (aC (bV (eV 1) (eK (.int 1))) (aC (bV (eV 1) (eK (.int 2))) (aN)))) (aN))))) az) az) (ao (be (eK .non)) az)) az) (ao (iq (tB bP (bV (eV 1) (eK (.int 0))) (eK (.str "pointer"))) (ao (be (FD (vE (tB bP (eF dh (aC (eV 1) (aN))) (eK (.int 2))) (tV (aw 1 bD (aC (bV (eV 1) (eK (.int 1))) (aN))))) (eT (aC (eK (.int 1)) (aC (bV (eV 1) (eK (.int 1))) (aN)))) (eK .non))) az) az) (ao (cV 2 (aw 1 jr (aC (eV 1) (aN)))) (ao (be (FD (tB eZ (eV 2) (eK .non)) (eK .non) (eT (aC (eK (.int 2)) (aC (eV 2) (aN)))))) az))))
def iD:Fn:=runB 3 xp
theorem DZ (T:Tx P w K mg):jo P w K mg base 7 "entry_in" ["line"] iD :=
 (cD (k:=6) (N:=["line", "words", "step"]) T.iD oQ DI fun cdv A outer s H E G hr=>ac (aY 1 oQ.nd (nZ (af 0) aA)) (ac (aS (cJ hr.units (am hr.u16 (af 1) ai) aA) (ac (aS (fY (kR (cJ hr.units (bF T.b_len (aa (af 1) ae)) ai) (kR (eX (ap (iB T) (hr.mono (by decide)) (aa (am hr.u16 (af 1) ai) ae))) (jB (eX (ap (qG T) (hr.mono (by decide)) (aa (am hr.u16 (af 1) ai) ae))))))) (ac (au (bI (aa ai (aa (bI (aa (am hr.u16 (af 1) ai) (aa (am hr.u16 (af 1) ai) ae))) ae)))) aj) aj) (ac (au bY) aj)) aj) (ac (aS (cJ hr.units (am hr.u16 (af 1) ai) aA) (ac (au (mz (fY (kR (cJ hr.units (bF T.b_len (aa (af 1) ae)) ai) (jB (eX (ap (iB T) (hr.mono (by decide)) (aa (am hr.u16 (af 1) ai) ae)))))) (bI (aa ai (aa (am hr.u16 (af 1) ai) ae))) bY)) aj) aj) (ac (aY 2 oQ.nd (ap (E5 T) (hr.mono (by decide)) (aa (af 1) ae))) (ac (au (mz (Ge (af 2) bY) bY (bI (aa ai (aa (af 2) ae))))) aj)))))
def vq:MS:=ao (iq (tN (tV (eF br (aC (eV 1) (aC (eK (.ty "str")) (aN)))))) (ao (hU "BadNote" ["line"] ud (aC (eK (.int 0)) (aN))) az) az) (ao (qJ [2,3] (aC (Ec (aC (Ec (aN)) (aC (Ec (aN)) (aC (Ec (aN)) (aN))))) (aC (eK (.int 0)) (aN)))) (ao (cV 4 (FD (tB lm (eV 1) (eK (.str ""))) (vt gm (eV 1) (aC (eK (.str "\n")) aN)) (eL (aN)))) (ao (cV 5 (A6 (oZ "Text" 0 [.tup [], .tup [], .tup []] aW 0 (aN)))) (ao (lZ (FW (eV 4)) (eG 2 (aO (bh 6) (aO (bh 7) cu))) (ao (cV 8 (aw 1 iD (aC (eV 7) (aN)))) (ao (iq (qS (tB eZ (eV 8) (eK .non)) (tB yu (bV (eV 8) (eK (.int 0))) (eV 3))) (ao (hU "BadNote" ["line"] ud (aC (eV 6) (aN))) az) az) (ao (cV 3 (bV (eV 8) (eK (.int 0)))) (ao (ik (D9 nL (bV (eV 2) (eV 3)) (aC (bV (eV 8) (eK (.int 1))) aN))) (ao (qO gQ 9 (ao (cV 5 (A6 (oZ "Text" 3 [] aW 0 (aC (eF hX (aC (bV (eV 2) (eK (.int 0))) (aN))) (aC (eF hX (aC (bV (eV 2) (eK (.int 1))) (aN))) (aC (eF hX (aC (bV (eV 2) (eK (.int 2))) (aN))) (aN))))))) az) (fun x n=>ao HQ az)) az)))))) (ao (be (eV 5)) az)))))
def fF:Fn:=runZ 10 vq
theorem yO (T:Tx P w K mg):BR P w K mg base 9 "read" "Text.read" (He5.wf K (He.ga K "Text") "classmethod" "read") ej [] ["cls", "note"] fF :=
 Mu (qF (k:=8) (N:=["cls", "note", "parts", "phase", "lines", "text", "index", "line", "entry", "e"]) T.fF dg fun cdv A outer s H E G hr=>ac (aS (bT (eX (dJ T.b_isinstance (aa (af 1) (aa (gp T.b_str) ae))))) (ac (ir (k:=0) rfl T.s_BadNote ⟨⟨_,rfl,rfl⟩,rfl,rfl,rfl,rfl,T.b_super,T.ptop⟩ yp (hr.mono (by decide)) T.g_BadNote (aa ai ae)) aj) aj) (ac (nj 2 3 rfl dg.nd (aa (gR (aa (gR ae) (aa (gR ae) (aa (gR ae) ae)))) (aa ai ae))) (ac (aY 4 dg.nd (mz (ow hr.units (af 1) aA) (nZ (af 1) aA) (jL ae))) (ac (aY 5 dg.nd (yb (Iy (cn:="Text") 0 T.mk_Text (vz T) (hr.mono (by decide))))) (ac (kJ (g:=(gTup _ 2 (gCons (gName 6) (gCons (gName 7) (gNil))))) (passes_of rfl) rfl (mP rfl T.b_enumerate eY) (ja (af 4)) (pg_tup rfl (pgs_cons (pg_name (i:=6) dg.nd rfl (by first | exact Or.inl rfl | exact Or.inr rfl)) (pgs_cons (pg_name (i:=7) dg.nd rfl (by first | exact Or.inl rfl | exact Or.inr rfl)) (pgs_nil)))) (cU (aD aB (aD aB bS))) (ac (aY 8 dg.nd (ap (DZ T) (hr.mono (by decide)) (aa (af 7) ae))) (ac (aS (fY (dw (Ge (af 8) bY) (cS (wU (am hr.u16 (af 8) ai) (af 3))))) (ac (ir (k:=0) rfl T.s_BadNote ⟨⟨_,rfl,rfl⟩,rfl,rfl,rfl,rfl,T.b_super,T.ptop⟩ yp (hr.mono (by decide)) T.g_BadNote (aa (af 6) ae)) aj) aj) (ac (aY 3 dg.nd (am hr.u16 (af 8) ai)) (ac (fO (kW (am hr.u16 (af 2) (af 3)) (am hr.u16 (af 8) ai))) (ac (JP ⟨rfl,by decide, .inl T.g_BadText⟩ T.gQ dg.nd (fun _ _ _ _=>ac (aY 5 dg.nd (yb (LC (cn:="Text") 0 T.mk_Text (fW T) (hr.mono (by decide)) (aa (iN T.b_tuple (aa (am hr.u16 (af 2) ai) ae)) (aa (iN T.b_tuple (aa (am hr.u16 (af 2) ai) ae)) (aa (iN T.b_tuple (aa (am hr.u16 (af 2) ai) ae)) ae)))))) aj) (fun x n a oe cls d pn hz QS=>ac uR aj)) aj)))))) (ac (au (af 5)) aj))))))
theorem vA (T:Tx P w K mg):tj P w K mg base 9 (He5.wf K (He.ga K "Text") "classmethod" "read") fF 2 []:=(yO T).form Bo rfl
def vf:MS:=ao (be (Bu "Text" 1 [] fF (eK (.glo "Text")) (aC (eV 0) (aN)))) az
def dO:Fn:=runB 1 vf
theorem Br (T:Tx P w K mg):jo P w K mg base 10 "read_text" ["note"] dO :=
 (cD (k:=9) (N:=["note"]) T.dO Ci Bi fun cdv A outer s H E G hr=>ac (au (Lb T.rd_Text T.cm_Text_read (vA T) (hr.mono (by decide)) (Qc T.g_Text) (aa (af 0) ae))) aj)
def Q7:MS:=ao (lZ (PM (eF HH (aC (eK (.int 2)) (aC (eF vC (aC (eK (.int 6)) (aC (eF dh (aC (eV 0) (aN))) (aN)))) (aN))))) (bh 1) (ao (cV 2 (aw 2 ym (aC (eV 0) (aC (eV 1) (aN))))) (ao (lZ (PM (eK (.int 5))) (bh 3) (ao (cV 4 (AO 2 [.int 4] lQ (aC (eV 2) (aC (eK (.int 7)) (aN))))) (ao (qJ [5,6] (aC (A6 (iU "Text" 3 [] aW (aC (bV (eV 4) (eK (.int 0))) (aC (bV (eV 4) (eK (.int 1))) (aC (bV (eV 4) (eK (.int 2))) (aN)))))) (aC (aw 2 qV (aC (eV 2) (aC (eV 4) (aN)))) (aN)))) (ao (iq (tB lm (eB bP (aw 1 aU (aC (eV 5) (aN))) (aw 1 aU (aC (eV 6) (aN)))) (Cq "Text" dU false (eV 5) (eV 6))) (ao (be (eK (.bl false))) az) az) (ao (cV 7 (vt gm (aw 1 aU (aC (eV 5) (aN))) (aC (eK (.str "\n")) aN))) (ao (cV 8 (A6 (iU "Text" 3 [] aW (aC (bV (eV 4) (eK (.int 0))) (aC (bV (eV 4) (eK (.int 1))) (aC (eT (aN)) (aN))))))) (ao (lZ (FW (bV (eV 4) (eK (.int 2)))) (eG 2 (aO (bh 9) (aO (bh 10) cu))) (ao (cV 11 (jQ "Text" "with_step" 1 [] bK (eV 8) (aC (eV 10) (aN)))) (ao (iq (tB lm (uD (vt gm (aw 1 aU (aC (eV 11) (aN))) (aC (eK (.str "\n")) aN)) (oN) (oS (eU ii (eK (.int 1))))) (vt gm (aw 1 aU (aC (eV 8) (aN))) (aC (eK (.str "\n")) aN))) (ao (be (eK (.bl false))) az) az) (ao (cV 8 (eV 11)) az)))) (ao (iq (qS (PX "Text" dU true (eV 8) (eV 5)) (tB lm (eF dh (aC (eV 7) (aN))) (eF ES (aC (wH (mE (eV 4)) (bh 13) iY (eF dh (aC (eV 13) (aN))) [13]) (aN))))) (ao (be (eK (.bl false))) az) az) (ao (cV 12 (eB ck (eK (.int 1)) (aw 2 bH (aC (eV 2) (aC (eF dh (aC (eV 7) (aN))) (aN)))))) (ao (iq (tB lm (aw 1 aU (aC (aw 1 dO (aC (vt lS (eK (.str "\n")) (aC (uD (eV 7) (oN) (oS (eV 12))) aN)) (aN))) (aN))) (vt lS (eK (.str "\n")) (aC (uD (eV 7) (oN) (oS (eV 12))) aN))) (ao (be (eK (.bl false))) az) az) az)))))))))) az))) (ao (be (eK (.bl true))) az)
def pF:Fn:=runB 14 Q7
theorem Ue (T:Tx P w K mg):jo P w K mg base 11 "law" ["_law_script"] pF :=
 (cD (k:=10) (N:=["_law_script", "_law_k", "_law_bag_here", "_law_turn", "_law_parts", "_law_text", "_law_near_here", "_law_lines", "_law_here", "_law_at", "_law_step_here", "_law_longer", "_law_cut", "_law_part"]) T.pF iH Mp fun cdv A outer s H E G hr=>ac (kJ (g:=gName 1) (passes_of rfl) rfl (pi_range1 rfl T.b_range eY) (xG (Mm rfl T.b_max (aa ai (aa (tS rfl T.b_min (aa ai (aa (bF T.b_len (aa (af 0) ae)) ae))) ae)))) (pg_name (i:=1) iH.nd rfl (by first | exact Or.inl rfl | exact Or.inr rfl)) aB (ac (aY 2 iH.nd (ap (Uk T) (hr.mono (by decide)) (aa (af 0) (aa (af 1) ae)))) (ac (kJ (g:=gName 3) (passes_of rfl) rfl (pi_range1 rfl T.b_range eY) (xG ai) (pg_name (i:=3) iH.nd rfl (by first | exact Or.inl rfl | exact Or.inr rfl)) aB (ac (aY 4 iH.nd (Ka (CD T) (zw T (P:=P) (base:=base)).keep T.g_drawn (hr.mono (by decide)) (aa (af 2) (aa ai ae)))) (ac (nj 5 6 rfl iH.nd (aa (yb (vN T.mk_Text T.g_Text (fW T) (hr.mono (by decide)) (aa (am hr.u16 (af 4) ai) (aa (am hr.u16 (af 4) ai) (aa (am hr.u16 (af 4) ai) ae))))) (aa (ap (Nu T) (hr.mono (by decide)) (aa (af 2) (aa (af 4) ae))) ae))) (ac (aS (ow hr.units (Gq hr.units (ap (fZ T) (hr.mono (by decide)) (aa (af 5) ae)) (ap (fZ T) (hr.mono (by decide)) (aa (af 6) ae))) (T2 T.eq_Text (ql T) (hr.mono (by decide)) (af 5) (af 6))) (ac (au iu) aj) aj) (ac (aY 7 iH.nd (nZ (ap (fZ T) (hr.mono (by decide)) (aa (af 5) ae)) aA)) (ac (aY 8 iH.nd (yb (vN T.mk_Text T.g_Text (fW T) (hr.mono (by decide)) (aa (am hr.u16 (af 4) ai) (aa (am hr.u16 (af 4) ai) (aa (bI ae) ae)))))) (ac (kJ (g:=(gTup _ 2 (gCons (gName 9) (gCons (gName 10) (gNil))))) (passes_of rfl) rfl (mP rfl T.b_enumerate eY) (ja (am hr.u16 (af 4) ai)) (pg_tup rfl (pgs_cons (pg_name (i:=9) iH.nd rfl (by first | exact Or.inl rfl | exact Or.inr rfl)) (pgs_cons (pg_name (i:=10) iH.nd rfl (by first | exact Or.inl rfl | exact Or.inr rfl)) (pgs_nil)))) (cU (aD aB (aD aB bS))) (ac (aY 11 iH.nd (Pu T.c_Text T.m_Text_with_step (pw T) (hr.mono (by decide)) (af 8) (aa (af 10) ae))) (ac (aS (ow hr.units (dI (nZ (ap (fZ T) (hr.mono (by decide)) (aa (af 11) ae)) aA) fj (fh (hZ ai))) (nZ (ap (fZ T) (hr.mono (by decide)) (aa (af 8) ae)) aA)) (ac (au iu) aj) aj) (ac (aY 8 iH.nd (af 11)) aj)))) (ac (aS (fY (dw (RY T.eq_Text (ql T) (hr.mono (by decide)) (af 8) (af 5)) (cS (ow hr.units (bF T.b_len (aa (af 7) ae)) (Tr rfl T.b_sum (aa (lW (own:=[("_law_part",13)]) (g:=gName 13) rfl iH.nd (jO bu) (ey (af 4)) (blkOk_by (own:=[("_law_part",13)]) (N:=["_law_script", "_law_k", "_law_bag_here", "_law_turn", "_law_parts", "_law_text", "_law_near_here", "_law_lines", "_law_here", "_law_at", "_law_step_here", "_law_longer", "_law_cut", "_law_part"]) (sc:=defScope xB) (by decide +kernel)) (fun _ _ _ _ _=>pg_name (i:=13) iH.nd rfl (by first | exact Or.inl rfl | exact Or.inr rfl)) aB (by decide) (fun B hB=>by obtain⟨s',H',Cc,cl,fp,hB⟩:=hB; obtain⟨BX,W',qe,G'⟩:=B; cases hB; exact bF T.b_len (aa (af 13) ae))) ae)))))) (ac (au iu) aj) aj) (ac (aY 12 iH.nd (cf ai (ap (bN T) (hr.mono (by decide)) (aa (af 2) (aa (bF T.b_len (aa (af 7) ae)) ae))))) (ac (aS (ow hr.units (ap (fZ T) (hr.mono (by decide)) (aa (ap (Br T) (hr.mono (by decide)) (aa (BF aA (dI (af 7) fj (fh (af 12)))) ae)) ae)) (BF aA (dI (af 7) fj (fh (af 12))))) (ac (au iu) aj) aj) aj)))))))))) aj))) (ac (au iu) aj))
end
end Kw
section
namespace Kw
open PySem PySem.Spec PyProof.Rows L2 Z
theorem V8 {w:World} {K:PySem.W.Frag} {h:Heap} {mg:Str→Option Value} (X:K.In h) (G:h.Ns mainGlobals mg) (cX:xn fa ts fn ex sn w K) (c:nV fa ts fn ex w K):Tx PG w K mg where
 ym:=⟨c.def_ 0 (d:=Qi) rfl,He.glo_ok X G (c.fact 0 (f:=.glo "_law_bag") rfl)⟩
 g_bag:=He.glo_ok X G (c.fact 0 (f:=.glo "_law_bag") rfl)
 bH:=⟨c.def_ 1 (d:=Kz) rfl,He.glo_ok X G (c.fact 1 (f:=.glo "_law_take") rfl)⟩
 g_take:=He.glo_ok X G (c.fact 1 (f:=.glo "_law_take") rfl)
 nK:=⟨c.def_ 2 (d:=GH) rfl,He.glo_ok X G (c.fact 2 (f:=.glo "_law_names") rfl)⟩
 g_names:=He.glo_ok X G (c.fact 2 (f:=.glo "_law_names") rfl)
 nr:=⟨c.def_ 3 (d:=GQ) rfl,He.glo_ok X G (c.fact 3 (f:=.glo "_law_kinds") rfl)⟩
 g_kinds:=He.glo_ok X G (c.fact 3 (f:=.glo "_law_kinds") rfl)
 cy:=⟨c.def_ 4 (d:=qk) rfl,He.glo_ok X G (c.fact 4 (f:=.glo "consists_of") rfl)⟩
 g_consists_of:=He.glo_ok X G (c.fact 4 (f:=.glo "consists_of") rfl)
 bD:=⟨c.def_ 5 (d:=Ay) rfl,He.glo_ok X G (c.fact 5 (f:=.glo "is_name") rfl)⟩
 g_is_name:=He.glo_ok X G (c.fact 5 (f:=.glo "is_name") rfl)
 bg:=⟨c.def_ 6 (d:=mK) rfl,He.glo_ok X G (c.fact 6 (f:=.glo "check_pointers") rfl)⟩
 g_check_pointers:=He.glo_ok X G (c.fact 6 (f:=.glo "check_pointers") rfl)
 bE:=⟨c.def_ 7 (d:=sE) rfl,He.glo_ok X G (c.fact 7 (f:=.glo "value_made") rfl)⟩
 g_value_made:=He.glo_ok X G (c.fact 7 (f:=.glo "value_made") rfl)
 cK:=⟨c.def_ 8 (d:=tw) rfl,He.glo_ok X G (c.fact 8 (f:=.glo "value_used") rfl)⟩
 g_value_used:=He.glo_ok X G (c.fact 8 (f:=.glo "value_used") rfl)
 cP:=⟨c.def_ 9 (d:=An) rfl,He.glo_ok X G (c.fact 9 (f:=.glo "is_kind") rfl)⟩
 g_is_kind:=He.glo_ok X G (c.fact 9 (f:=.glo "is_kind") rfl)
 cI:=⟨c.def_ 10 (d:=rO) rfl,He.glo_ok X G (c.fact 10 (f:=.glo "is_integer") rfl)⟩
 g_is_integer:=He.glo_ok X G (c.fact 10 (f:=.glo "is_integer") rfl)
 dq:=⟨c.def_ 11 (d:=uQ) rfl,He.glo_ok X G (c.fact 11 (f:=.glo "is_offset") rfl)⟩
 g_is_offset:=He.glo_ok X G (c.fact 11 (f:=.glo "is_offset") rfl)
 eH:=⟨c.def_ 12 (d:=uX) rfl,He.glo_ok X G (c.fact 12 (f:=.glo "is_number") rfl)⟩
 g_is_number:=He.glo_ok X G (c.fact 12 (f:=.glo "is_number") rfl)
 dY:=⟨c.def_ 13 (d:=yn) rfl,He.glo_ok X G (c.fact 13 (f:=.glo "is_value") rfl)⟩
 g_is_value:=He.glo_ok X G (c.fact 13 (f:=.glo "is_value") rfl)
 fA:=⟨c.def_ 14 (d:=zv) rfl,He.glo_ok X G (c.fact 14 (f:=.glo "is_many") rfl)⟩
 g_is_many:=He.glo_ok X G (c.fact 14 (f:=.glo "is_many") rfl)
 gh:=⟨c.def_ 15 (d:=zx) rfl,He.glo_ok X G (c.fact 15 (f:=.glo "is_step") rfl)⟩
 g_is_step:=He.glo_ok X G (c.fact 15 (f:=.glo "is_step") rfl)
 gb:=⟨c.def_ 16 (d:=zO) rfl,He.glo_ok X G (c.fact 16 (f:=.glo "size_of") rfl)⟩
 g_size_of:=He.glo_ok X G (c.fact 16 (f:=.glo "size_of") rfl)
 fR:=⟨c.def_ 17 (d:=wR) rfl,He.glo_ok X G (c.fact 17 (f:=.glo "reads_at") rfl)⟩
 g_reads_at:=He.glo_ok X G (c.fact 17 (f:=.glo "reads_at") rfl)
 eM:=⟨c.def_ 18 (d:=vd) rfl,He.glo_ok X G (c.fact 18 (f:=.glo "writes_at") rfl)⟩
 g_writes_at:=He.glo_ok X G (c.fact 18 (f:=.glo "writes_at") rfl)
 dR:=⟨c.def_ 19 (d:=uG) rfl,He.glo_ok X G (c.fact 19 (f:=.glo "stretches") rfl)⟩
 g_stretches:=He.glo_ok X G (c.fact 19 (f:=.glo "stretches") rfl)
 dj:=⟨c.def_ 20 (d:=qu) rfl,He.glo_ok X G (c.fact 20 (f:=.glo "fits_window") rfl)⟩
 g_fits_window:=He.glo_ok X G (c.fact 20 (f:=.glo "fits_window") rfl)
 cH:=⟨c.def_ 21 (d:=sQ) rfl,He.glo_ok X G (c.fact 21 (f:=.glo "names_used") rfl)⟩
 g_names_used:=He.glo_ok X G (c.fact 21 (f:=.glo "names_used") rfl)
 bC:=⟨c.def_ 22 (d:=uN) rfl,He.glo_ok X G (c.fact 22 (f:=.glo "step_fits") rfl)⟩
 g_step_fits:=He.glo_ok X G (c.fact 22 (f:=.glo "step_fits") rfl)
 bW:=⟨c.def_ 23 (d:=qx) rfl,He.glo_ok X G (c.fact 23 (f:=.glo "check_steps") rfl)⟩
 g_check_steps:=He.glo_ok X G (c.fact 23 (f:=.glo "check_steps") rfl)
 bJ:=⟨c.def_ 24 (d:=oj) rfl,He.glo_ok X G (c.fact 24 (f:=.glo "check_places") rfl)⟩
 g_check_places:=He.glo_ok X G (c.fact 24 (f:=.glo "check_places") rfl)
 aW:=c.def_ 25 (d:=uV) rfl
 dU:=c.def_ 26 (d:=Aw) rfl
 vh:=⟨c.def_ 27 (d:=Rj) rfl,He.glo_ok X G (c.fact 25 (f:=.glo "_law_use") rfl)⟩
 g_use:=He.glo_ok X G (c.fact 25 (f:=.glo "_law_use") rfl)
 rj:=⟨c.def_ 28 (d:=Kf) rfl,He.glo_ok X G (c.fact 26 (f:=.glo "_law_step") rfl)⟩
 g_step:=He.glo_ok X G (c.fact 26 (f:=.glo "_law_step") rfl)
 lQ:=c.def_ 29 (d:=F9) rfl
 g_drawn:=He.glo_ok X G (c.fact 27 (f:=.glo "_law_drawn") rfl)
 mq:=⟨c.def_ 30 (d:=Mq) rfl,He.glo_ok X G (c.fact 28 (f:=.glo "_law_made") rfl)⟩
 g_made:=He.glo_ok X G (c.fact 28 (f:=.glo "_law_made") rfl)
 qV:=⟨c.def_ 31 (d:=KH) rfl,He.glo_ok X G (c.fact 29 (f:=.glo "_law_near") rfl)⟩
 g_near:=He.glo_ok X G (c.fact 29 (f:=.glo "_law_near") rfl)
 cB:=c.def_ 32 (d:=rP) rfl
 aV:=c.def_ 33 (d:=kH) rfl
 bK:=c.def_ 34 (d:=mT) rfl
 dB:=⟨c.def_ 35 (d:=uH) rfl,He.glo_ok X G (c.fact 30 (f:=.glo "spot_word") rfl)⟩
 g_spot_word:=He.glo_ok X G (c.fact 30 (f:=.glo "spot_word") rfl)
 gD:=⟨c.def_ 36 (d:=vo) rfl,He.glo_ok X G (c.fact 31 (f:=.glo "step_line") rfl)⟩
 g_step_line:=He.glo_ok X G (c.fact 31 (f:=.glo "step_line") rfl)
 iA:=⟨c.def_ 37 (d:=xU) rfl,He.glo_ok X G (c.fact 32 (f:=.glo "lines_of") rfl)⟩
 g_lines_of:=He.glo_ok X G (c.fact 32 (f:=.glo "lines_of") rfl)
 aU:=⟨c.def_ 38 (d:=rG) rfl,He.glo_ok X G (c.fact 33 (f:=.glo "write_text") rfl)⟩
 g_write_text:=He.glo_ok X G (c.fact 33 (f:=.glo "write_text") rfl)
 fH:=⟨c.def_ 39 (d:=vj) rfl,He.glo_ok X G (c.fact 34 (f:=.glo "number_in") rfl)⟩
 g_number_in:=He.glo_ok X G (c.fact 34 (f:=.glo "number_in") rfl)
 fP:=⟨c.def_ 40 (d:=xX) rfl,He.glo_ok X G (c.fact 35 (f:=.glo "count_in") rfl)⟩
 g_count_in:=He.glo_ok X G (c.fact 35 (f:=.glo "count_in") rfl)
 ei:=⟨c.def_ 41 (d:=Av) rfl,He.glo_ok X G (c.fact 36 (f:=.glo "spot_in") rfl)⟩
 g_spot_in:=He.glo_ok X G (c.fact 36 (f:=.glo "spot_in") rfl)
 fC:=⟨c.def_ 42 (d:=zW) rfl,He.glo_ok X G (c.fact 37 (f:=.glo "checked") rfl)⟩
 g_checked:=He.glo_ok X G (c.fact 37 (f:=.glo "checked") rfl)
 iG:=⟨c.def_ 43 (d:=yi) rfl,He.glo_ok X G (c.fact 38 (f:=.glo "value_in") rfl)⟩
 g_value_in:=He.glo_ok X G (c.fact 38 (f:=.glo "value_in") rfl)
 jr:=⟨c.def_ 44 (d:=zM) rfl,He.glo_ok X G (c.fact 39 (f:=.glo "step_in") rfl)⟩
 g_step_in:=He.glo_ok X G (c.fact 39 (f:=.glo "step_in") rfl)
 iD:=⟨c.def_ 45 (d:=yt) rfl,He.glo_ok X G (c.fact 40 (f:=.glo "entry_in") rfl)⟩
 g_entry_in:=He.glo_ok X G (c.fact 40 (f:=.glo "entry_in") rfl)
 fF:=c.def_ 46 (d:=va) rfl
 dO:=⟨c.def_ 47 (d:=vp) rfl,He.glo_ok X G (c.fact 41 (f:=.glo "read_text") rfl)⟩
 g_read_text:=He.glo_ok X G (c.fact 41 (f:=.glo "read_text") rfl)
 pF:=⟨c.def_ 48 (d:=Ro) rfl,He.glo_ok X G (c.fact 42 (f:=.glo "law") rfl)⟩
 g_law:=He.glo_ok X G (c.fact 42 (f:=.glo "law") rfl)
 c_LOWER:=He.str_ok X G (c.fact 43 (f:=.str "LOWER" "abcdefghijklmnopqrstuvwxyz") rfl)
 c_NAME_SIGNS:=He.str_ok X G (c.fact 44 (f:=.str "NAME_SIGNS" "abcdefghijklmnopqrstuvwxyz0123456789") rfl)
 c_MOST_SIGNS:=He.int_ok X G (c.fact 45 (f:=.int "MOST_SIGNS" 8) rfl)
 c_MOST_POINTERS:=He.int_ok X G (c.fact 46 (f:=.int "MOST_POINTERS" 3) rfl)
 c_MOST_NAMES:=He.int_ok X G (c.fact 47 (f:=.int "MOST_NAMES" 4) rfl)
 c_FIGURES:=He.str_ok X G (c.fact 48 (f:=.str "FIGURES" "0123456789") rfl)
 c_MOST_SIZE:=He.int_ok X G (c.fact 49 (f:=.int "MOST_SIZE" 4) rfl)
 c_MOST_LETTERS:=He.int_ok X G (c.fact 50 (f:=.int "MOST_LETTERS" 6) rfl)
 c_WINDOW:=He.int_ok X G (c.fact 51 (f:=.int "WINDOW" 8) rfl)
 c_MOST_BYTES:=He.int_ok X G (c.fact 52 (f:=.int "MOST_BYTES" 8) rfl)
 c_MOST_STEPS:=He.int_ok X G (c.fact 53 (f:=.int "MOST_STEPS" 12) rfl)
 c_MOST_PLACES:=He.int_ok X G (c.fact 54 (f:=.int "MOST_PLACES" 2) rfl)
 c_MOST_FIGURES:=He.int_ok X G (c.fact 55 (f:=.int "MOST_FIGURES" 40) rfl)
 g_Text:=He.glo_ok X G (c.fact 56 (f:=.glo "Text") rfl)
 c_Text:=He.cls_ok (c.fact 57 (f:=.cls "Text") rfl)
 na_Text_places:=He.noat_ok (c.fact 58 (f:=.noat "Text" "places") rfl)
 na_Text_pointers:=He.noat_ok (c.fact 59 (f:=.noat "Text" "pointers") rfl)
 na_Text_steps:=He.noat_ok (c.fact 60 (f:=.noat "Text" "steps") rfl)
 mk_Text:=He.mkr_ok (c.fact 61 (f:=.mkr "Text") rfl)
 m_Text_names:=He.meth_ok (c.fact 62 (f:=.meth "Text" "names") rfl)
 m_Text_made_values:=He.meth_ok (c.fact 63 (f:=.meth "Text" "made_values") rfl)
 m_Text_with_step:=He.meth_ok (c.fact 64 (f:=.meth "Text" "with_step") rfl)
 ptop:=by decide +kernel
 g_BadText:=He.glo_ok X G (c.fact 66 (f:=.glo "BadText") rfl)
 g_BadNote:=He.glo_ok X G (c.fact 67 (f:=.glo "BadNote") rfl)
 b_abs:=He.free_ok X G (c.fact 68 (f:=.free "abs") rfl)
 b_len:=He.free_ok X G (c.fact 69 (f:=.free "len") rfl)
 b_int:=He.free_ok X G (c.fact 70 (f:=.free "int") rfl)
 b_range:=He.free_ok X G (c.fact 71 (f:=.free "range") rfl)
 b_all:=He.free_ok X G (c.fact 72 (f:=.free "all") rfl)
 b_isinstance:=He.free_ok X G (c.fact 73 (f:=.free "isinstance") rfl)
 b_str:=He.free_ok X G (c.fact 74 (f:=.free "str") rfl)
 b_list:=He.free_ok X G (c.fact 75 (f:=.free "list") rfl)
 b_enumerate:=He.free_ok X G (c.fact 76 (f:=.free "enumerate") rfl)
 b_tuple:=He.free_ok X G (c.fact 77 (f:=.free "tuple") rfl)
 b_min:=He.free_ok X G (c.fact 78 (f:=.free "min") rfl)
 b_bool:=He.free_ok X G (c.fact 79 (f:=.free "bool") rfl)
 b_zip:=He.free_ok X G (c.fact 80 (f:=.free "zip") rfl)
 b_any:=He.free_ok X G (c.fact 81 (f:=.free "any") rfl)
 b_max:=He.free_ok X G (c.fact 82 (f:=.free "max") rfl)
 b_sum:=He.free_ok X G (c.fact 83 (f:=.free "sum") rfl)
 b_super:=He.free_ok X G (c.fact 84 (f:=.free "super") rfl)
 n_Text_init_0:=(He.ba c.ok.2).1
 n_Text_init_1:=(He.ba (He.ba c.ok.2).2).1
 n_Text_init_2:=(He.ba (He.ba (He.ba c.ok.2).2).2).1
 eq_Text:=RL ((He.ba (He.ba (He.ba (He.ba c.ok.2).2).2).2).1)
 rd_Text:=KG ((He.ba (He.ba (He.ba (He.ba (He.ba c.ok.2).2).2).2).2).1)
 cm_Text_read:=Nv ((He.ba (He.ba (He.ba (He.ba (He.ba (He.ba c.ok.2).2).2).2).2).2).1)
 is_:=⟨Ki ((He.ba (He.ba (He.ba (He.ba (He.ba (He.ba (He.ba c.ok.2).2).2).2).2).2).2).1),(List.forall_mem_cons.mpr ⟨Nw (He.cls_ok (c.fact 57 (f:=.cls "Text") rfl)) ((He.ba (He.ba (He.ba (He.ba (He.ba (He.ba (He.ba (He.ba c.ok.2).2).2).2).2).2).2).2).1),(fun _ h=>nomatch h)⟩)⟩
 t_PARTS:=K7 (He.glo_ok X G (c.fact 65 (f:=.glo "PARTS") rfl)) (c.tab 0 rfl) ((He.ba (He.ba (He.ba (He.ba (He.ba (He.ba (He.ba (He.ba (He.ba c.ok.2).2).2).2).2).2).2).2).2).1)
 s_BadText:=GG PySem.F.excBase_ValueError PySem.W.kxs_ValueError PySem.F.store_ValueError rfl (cX.sup 0 (d:=oK) rfl) ((He.ba (He.ba (He.ba (He.ba (He.ba (He.ba (He.ba (He.ba (He.ba (He.ba c.ok.2).2).2).2).2).2).2).2).2).2).1)
 s_BadNote:=GG PySem.F.excBase_ValueError PySem.W.kxs_ValueError PySem.F.store_ValueError rfl (cX.sup 1 (d:=pC) rfl) ((He.ba (He.ba (He.ba (He.ba (He.ba (He.ba (He.ba (He.ba (He.ba (He.ba (He.ba c.ok.2).2).2).2).2).2).2).2).2).2).2).1)
 gQ:=WP ((He.ba (He.ba (He.ba (He.ba (He.ba (He.ba (He.ba (He.ba (He.ba (He.ba (He.ba c.ok.2).2).2).2).2).2).2).2).2).2).2).2)
theorem WF {w:World} {K:PySem.W.Frag} {h:Heap} {mg:Str→Option Value} {f:Addr} (X:K.In h) (G:h.Ns mainGlobals mg) (hfa:mg ("law" : Str)=some (.ref f)) (c:xn fa ts fn ex sn w K) :
  ∃ fd:FuncData,(∀ (s:Shared) (v:Value),BindsTo s fd ⟨[v],[]⟩ [("_law_script",v)])∧∀ base:Heap,I0 PG w K mg base (L2N.CX PG w) 11 f fd ["_law_script"] (FA ⟨K,PG,w⟩ 1 pF):=by
 have T:=V8 X G c c.z
 obtain⟨⟨fd,Fu⟩,e1⟩:=T.pF
 have e:=hfa.symm.trans e1
 cases e
 have b:=FunD.bindsA (ps:=["_law_script"]) Fu Mp
 refine⟨fd,fun s v=>b s [v] rfl,fun base=>?_⟩
 obtain⟨fd',h1,h2,h3,h4,oc',ZZ,QbP,lk'⟩:=(Ue (P:=PG) (w:=w) (base:=base) T).g
 obtain⟨oc,od,_,_,_,_,_,_,_,osl,_,lk,_⟩:=Fu.ex
 rw[lk] at lk'
 cases lk'
 exact h1
end Kw
open PySem PySem.W PySem.Calls PyProof.Rows
theorem Kw.fHn (law_true:∀ ns:List Int,ns.length≤63→∃ S,Kw.pF [.p (.scr ns)] []=.ok (.p (.bl true)) S):PySem.Challenge.rw_lastkind_k07_whole_notes_one_to_one.Holds:=by
 w_on; o_law
 refine HandSHeadRun.head_any (r:=OpenLaw.row PySem.Challenge.rw_lastkind_k07_whole_notes_one_to_one) (q:=view (OpenLaw.row PySem.Challenge.rw_lastkind_k07_whole_notes_one_to_one).prog [68]) (H:=Kw.hk) (ob:=Kw.ob) (M:=12000) (loose:=Kw.loose) (d:=HandSHeadRun.topDef (OpenLaw.row PySem.Challenge.rw_lastkind_k07_whole_notes_one_to_one).prog 68) (kwd:=[]) Kw.Wk
  (by kernel_rfl) (fun s=>by kernel_rfl) Kw.run (by kernel_rfl) (by kernel_rfl) (by kernel_rfl) (by rfl) (by first | assumption | decide +kernel) (by decide +kernel) ⟨rfl,rfl,rfl,rfl,rfl,by decide +kernel⟩ ?hw ?hc
 case hw=>w_witness2
 case hc =>
  refine Z.K2 (l:=PySem.Challenge.rw_lastkind_k07_whole_notes_one_to_one) (n:=63) (k:=11) (x:="_law_script") (f:=Kw.pF) rfl (by decide) (by kernel_rfl) ⟨rfl,by decide,by decide⟩ ?F law_true
  intro w mg fa h Y G YJ
  obtain⟨K,KX,c⟩:=Y
  have Za:mg ("law" : PySem.Str)=some (.ref fa):=by
   have e:(HandSHeadRun.topDef (OpenLaw.row PySem.Challenge.rw_lastkind_k07_whole_notes_one_to_one).prog 68).name=("law" : PySem.Str):=by kernel_rfl
   rw[← e]
   exact YJ
  obtain⟨fd,hb,hF⟩:=Kw.WF (w:=w) KX G Za c
  exact⟨K,fd,KX,hb,hF⟩
end
namespace Kw
open PySem PySem.Spec PyProof.Rows L2 Z
end Kw
namespace Z
open PySem PySem.Spec PyProof.Rows L2
structure Rs.sx {α:Type} (r:Rs α) (E:Xc→ag→Prop) (Q:α→ag→Prop):Prop where
 out:match r with
  | .ok a S=>Q a S
  | .exc x S=>E x S
  | .no=>False
structure Fl.sx (r:Fl) (F:Xc→av→ag→Prop) (N:av→ag→Prop) (T:D→ag→Prop):Prop where
 out:match r with
  | .nx sl S=>N sl S
  | .rt d S=>T d S
  | .exc x sl S=>F x sl S
  | _=>False
abbrev yJ (F:Xc→av→ag→Prop) (sl:av):Xc→ag→Prop:=fun x S=>F x sl S
abbrev IK:Xc→ag→Prop:=fun _ _=>False
abbrev WV:Xc→av→ag→Prop:=fun _ _ _=>False
def lH {α:Type} (o:Option α) (Q:α→Prop):Prop:=match o with
 | some a=>Q a
 | none=>False
section
variable {α β:Type}
@[simp] theorem aq {a:α} {Q:α→Prop}:lH (some a) Q=Q a:=rfl
@[simp] theorem VH {Q:α→Prop}:lH none Q=False:=rfl
@[simp] theorem Xp {o:Option β} {f:β→α} {Q:α→Prop}:lH (o.map f) Q=lH o fun b=>Q (f b):=by cases o <;> rfl
end
section
variable {α β:Type} {Q:β→ag→Prop} {sl:av} {S:ag} {N:av→ag→Prop} {T:D→ag→Prop} {E:Xc→ag→Prop} {F:Xc→av→ag→Prop}
theorem px {p q:Prop} (h:p→q) (k:q→p):p=q:=propext ⟨h,k⟩
@[simp] theorem aG {a:α} {Q:α→ag→Prop}:(Rs.ok a S).sx E Q=Q a S:=px (fun h=>h.out) (fun h=>⟨h⟩)
@[simp] theorem UZ {Q:α→ag→Prop}:(Rs.no:Rs α).sx E Q=False:=px (fun h=>h.out) (fun h=>⟨h⟩)
@[simp] theorem SO {x:Xc} {Q:α→ag→Prop}:(Rs.exc x S:Rs α).sx E Q=E x S:=px (fun h=>h.out) (fun h=>⟨h⟩)
@[simp] theorem aM {r:Rs α} {f:α→ag→Rs β}:(r.bind f).sx E Q=r.sx E fun a S=>(f a S).sx E Q:=by cases r <;> simp[Rs.bind]
theorem Rs.sx.imp {r:Rs α} {P Q:α→ag→Prop} (h:r.sx E P) (k:∀ a S,P a S→Q a S):r.sx E Q:=by
 cases r <;> simp_all
theorem Rs.sx.ok {r:Rs α} {P:α→ag→Prop} (h:r.sx IK P):∃ a S,r=.ok a S∧P a S:=by
 cases r with
 | ok a S=>exact⟨a,S,rfl,h.out⟩
 | exc _ _=>exact h.out.elim
 | no=>exact h.out.elim
theorem Fl.sx.imp {r:Fl} {N':av→ag→Prop} {T':D→ag→Prop} (h:r.sx F N T) (k:∀ a S,N a S→N' a S) (t:∀ a S,T a S→T' a S):r.sx F N' T':=by
 cases r <;> first | exact⟨k _ _ h.out⟩ | exact⟨t _ _ h.out⟩ | exact⟨h.out⟩
theorem jb {p:Prop} [Decidable p] {x:Rs α} {Q:α→ag→Prop}:(if p then x else .no).sx E Q=(p∧x.sx E Q):=by
 by_cases h:p <;> simp[h]
@[simp] theorem LN:(Fl.nx sl S).sx F N T=N sl S:=px (fun h=>h.out) (fun h=>⟨h⟩)
@[simp] theorem YC {d:D}:(Fl.rt d S).sx F N T=T d S:=px (fun h=>h.out) (fun h=>⟨h⟩)
@[simp] theorem GA {x:Xc}:(Fl.exc x sl S).sx F N T=F x sl S:=px (fun h=>h.out) (fun h=>⟨h⟩)
@[simp] theorem Yl:(Fl.no).sx F N T=False:=px (fun h=>h.out) (fun h=>⟨h⟩)
@[simp] theorem YK:(Fl.bk sl S).sx F N T=False:=px (fun h=>h.out) (fun h=>⟨h⟩)
@[simp] theorem Yp:(Fl.ct sl S).sx F N T=False:=px (fun h=>h.out) (fun h=>⟨h⟩)
theorem GJ {p:Prop} [Decidable p] {x:Fl}:(if p then x else .no).sx F N T=(p∧x.sx F N T):=by
 by_cases h:p <;> simp[h]
@[simp] theorem kK {r:Rs α} {f:α→ag→Fl}:(r.st sl f).sx F N T=r.sx (yJ F sl) fun a S=>(f a S).sx F N T:=by cases r <;> simp[Rs.st]
@[simp] theorem gW:(az sl S).sx F N T=N sl S:=by unfold az; simp
@[simp] theorem dD {m1 m2:MS}:(ao m1 m2 sl S).sx F N T=(m1 sl S).sx F (fun sl S=>(m2 sl S).sx F N T) T:=by
 unfold ao
 cases m1 sl S <;> simp
@[simp] theorem AB {i:Nat} {m:M}:(cV i m sl S).sx F N T=(m sl S).sx (yJ F sl) fun d S1=>N (sl.set i (some d)) S1:=by unfold cV; simp
@[simp] theorem CU {m:M}:(be m sl S).sx F N T=(m sl S).sx (yJ F sl) T:=by unfold be; simp
@[simp] theorem Km {m:M}:(ik m sl S).sx F N T=(m sl S).sx (yJ F sl) fun _ S1=>N sl S1:=by unfold ik; simp
theorem UW {b:Bool} {x y:Fl}:(if b=true then x else y).sx F N T=if b=true then x.sx F N T else y.sx F N T:=by cases b <;> simp
@[simp] theorem yP {t:MT} {s1 s2:MS}:(iq t s1 s2 sl S).sx F N T=(t sl S).sx (yJ F sl) fun b S1=>if b=true then (s1 sl S1).sx F N T else (s2 sl S1).sx F N T:=by
 unfold iq; rw[kK]
 congr 1; funext b S1; exact UW
@[simp] theorem JK {ms:MI} {eff:oF} {mb:MS}:(lZ ms eff mb sl S).sx F N T=(ms sl S).sx (yJ F sl) fun its S1=>(lr eff mb its sl S1).sx F N T:=by unfold lZ; rw[kK]
@[simp] theorem QaN {eff:oF} {m:M}:(uF eff m sl S).sx F N T=(m sl S).sx (yJ F sl) fun d S1=>match d with
  | .p q=>lH (eff q sl) fun sl'=>N sl' S1
  | .ref _=>False:=by
 unfold uF; rw[kK]
 congr 1; funext d S1
 cases d with
 | p q=>simp only[]; cases eff q sl <;> simp
 | ref n=>simp
@[simp] theorem QG {js:List Nat} {ma:MA}:(qJ js ma sl S).sx F N T=(ma sl S).sx (yJ F sl) fun ds S1=>ds.length=js.length∧N (tY sl js ds) S1:=by
 unfold qJ; rw[kK]
 congr 1; funext ds S1
 rw[GJ,LN]
@[simp] theorem QU {mo mi me:M}:(Dz mo mi me sl S).sx F N T=(me sl S).sx (yJ F sl) fun v S1=>(mo sl S1).sx (yJ F sl) fun d S2=>(mi sl S2).sx (yJ F sl) fun i S3=>match d with
  | .ref n=>lH (qW S3 n i v) fun S4=>N sl S4
  | _=>False:=by
 unfold Dz; rw[kK]
 congr 1; funext v S1; rw[kK]
 congr 1; funext d S2; rw[kK]
 congr 1; funext i S3
 cases d with
 | p q=>simp
 | ref n=>simp only[]; cases qW S3 n i v <;> simp
variable {R:D→ag→Prop} {B:Bool→ag→Prop} {A:List D→ag→Prop} {I:List P→ag→Prop} {O:Option Int→ag→Prop}
@[simp] theorem qz {i:Nat}:(eV i sl S).sx E R=match sl[i]? with | some (some d)=>R d S | _=>False:=by
 unfold eV
 cases sl[i]? with
 | none=>simp
 | some o=>cases o <;> simp
@[simp] theorem Ek {p:P}:(eK p sl S).sx E R=R (.p p) S:=by unfold eK; simp
@[simp] theorem SJ {f:P→P→Option P} {m1 m2:M}:(eB f m1 m2 sl S).sx E R=(m1 sl S).sx E fun d1 S1=>(m2 sl S1).sx E fun d2 S2=>(rD f d1 d2 S2).sx E R:=by unfold eB; simp only[aM]
@[simp] theorem jU {f:P→P→Option P} {d1 d2:D}:(rD f d1 d2 S).sx E R=lH (view S d1) fun p=>lH (view S d2) fun q=>lH (f p q) fun r=>R (.p r) S:=by
 unfold rD
 cases view S d1 with
 | none=>simp
 | some p=>cases view S d2 with
  | none=>simp
  | some q=>simp only[aq]; cases f p q <;> simp
@[simp] theorem w_u {f:P→Option P} {m:M}:(eU f m sl S).sx E R=(m sl S).sx E fun d S1=>(tK f d S1).sx E R:=by unfold eU; simp only[aM]
@[simp] theorem A8 {f:P→Option P} {d:D}:(tK f d S).sx E R=lH (view S d) fun p=>lH (f p) fun r=>R (.p r) S:=by
 unfold tK
 cases view S d with
 | none=>simp
 | some p=>simp only[aq]; cases f p <;> simp
@[simp] theorem ZS {m1 m2:M}:(ub m1 m2 sl S).sx E R=(m1 sl S).sx E fun d S1=>match d with
  | .p (.bl true)=>(m2 sl S1).sx E R
  | .p (.bl false)=>R (.p (.bl false)) S1
  | _=>False:=by
 unfold ub; rw[aM]; congr 1; funext d S1
 cases d with
 | ref n=>simp
 | p q =>
  cases q <;> first
   | (simp; done)
   | (rename_i b; cases b <;> simp)
@[simp] theorem QcJ {m1 m2:M}:(We m1 m2 sl S).sx E R=(m1 sl S).sx E fun d S1=>match d with
  | .p (.bl false)=>(m2 sl S1).sx E R
  | .p (.bl true)=>R (.p (.bl true)) S1
  | _=>False:=by
 unfold We; rw[aM]; congr 1; funext d S1
 cases d with
 | ref n=>simp
 | p q =>
  cases q <;> first
   | (simp; done)
   | (rename_i b; cases b <;> simp)
@[simp] theorem Qam {m:M}:(Ox m sl S).sx E R=(m sl S).sx E fun d S1=>match d with
  | .p (.bl b)=>R (.p (.bl !b)) S1
  | _=>False:=by
 unfold Ox; rw[aM]; congr 1; funext d S1
 cases d with
 | ref n=>simp
 | p q =>
  cases q <;> first
   | (simp; done)
   | (rename_i b; cases b <;> simp)
theorem AU {b:Bool} {x y:Rs α} {Q:α→ag→Prop}:(if b=true then x else y).sx E Q=if b=true then x.sx E Q else y.sx E Q:=by cases b <;> simp
@[simp] theorem ZQ {t:MT} {m1 m2:M}:(FD t m1 m2 sl S).sx E R=(t sl S).sx E fun b S1=>if b=true then (m1 sl S1).sx E R else (m2 sl S1).sx E R:=by
 unfold FD; rw[aM]; congr 1; funext b S1; exact AU
@[simp] theorem mv:(aN sl S).sx E A=A [] S:=by unfold aN; simp
@[simp] theorem gy {m:M} {ma:MA}:(aC m ma sl S).sx E A=(m sl S).sx E fun d S1=>(ma sl S1).sx E fun ds S2=>A (d::ds) S2:=by unfold aC; simp only[aM,aG]
@[simp] theorem Oi {f:List P→Option P} {ma:MA}:(eF f ma sl S).sx E R=(ma sl S).sx E fun ds S1=>lH (fV S1 ds) fun ps=>lH (f ps) fun r=>R (.p r) S1:=by
 unfold eF; rw[aM]; congr 1; funext ds S1
 unfold CN
 cases fV S1 ds with
 | none=>simp
 | some ps=>simp only[aq]; cases f ps <;> simp
@[simp] theorem kS {n:Nat} {f:Fn} {ma:MA}:(aw n f ma sl S).sx E R=(ma sl S).sx E fun ds S1=>ds.length=n∧(f ds S1).sx E R:=by
 unfold aw; rw[aM]; congr 1; funext ds S1
 exact jb
@[simp] theorem Oh {n:Nat} {dfl:List P} {f:Fn} {ma:MA}:(AO n dfl f ma sl S).sx E R=(ma sl S).sx E fun ds S1=>ds.length=n∧(f (ds++dfl.map .p) S1).sx E R:=by
 unfold AO; rw[aM]; congr 1; funext ds S1
 exact jb
@[simp] theorem Qa3 {d:D} {Q:Int→ag→Prop}:(zu S d).sx E Q=match view S d with | some (.int i)=>Q i S | _=>False:=by
 unfold zu
 cases view S d with
 | none=>simp
 | some q=>cases q <;> simp
@[simp] theorem QcT {f g:Int→Int→Bool} {m1 m2 m3:M}:(Nb f g m1 m2 m3 sl S).sx E R=(m1 sl S).sx E fun d1 S1=>(m2 sl S1).sx E fun d2 S2=>(zu S2 d1).sx E fun i S2=>(zu S2 d2).sx E fun j S2 =>
  if f i j=true then (m3 sl S2).sx E fun d3 S3=>(zu S3 d3).sx E fun k S3=>R (.p (.bl (g j k))) S3 else R (.p (.bl false)) S2:=by
 unfold Nb; simp only[aM,AU,aG]
@[simp] theorem Qt {ma:MA}:(eL ma sl S).sx E R=(ma sl S).sx E fun ds S1=>lH (cR ds) fun ps=>ps.length≤sizeLine∧R (.p (.lst ps)) S1:=by
 unfold eL; rw[aM]; congr 1; funext ds S1
 cases cR ds with
 | none=>simp
 | some ps =>
  simp only[aq,jb,aG]
@[simp] theorem JU {ma:MA}:(eT ma sl S).sx E R=(ma sl S).sx E fun ds S1=>lH (cR ds) fun ps=>ps.length≤sizeLine∧R (.p (.tup ps)) S1:=by
 unfold eT; rw[aM]; congr 1; funext ds S1
 cases cR ds with
 | none=>simp
 | some ps =>
  simp only[aq,jb,aG]
@[simp] theorem YI {ma:MA}:(Ec ma sl S).sx E R=(ma sl S).sx E fun ds S1=>ds.length≤sizeLine∧R (.ref S1.length) (S1++[.lst ds]):=by
 unfold Ec; rw[aM]; congr 1; funext ds S1
 simp only[jb,aG]
@[simp] theorem QcD {t:Bool}:(W4 t sl S).sx E R=R (.ref S.length) (S++[.dic t [] []]):=by unfold W4; simp
@[simp] theorem Uj {m:M} {lo hi:MO}:(uD m lo hi sl S).sx E R=(m sl S).sx E fun d S1=>(lo sl S1).sx E fun l S2=>(hi sl S2).sx E fun h S3=>(tK (Hy l h) d S3).sx E R:=by unfold uD; simp only[aM]
@[simp] theorem VR:(oN sl S).sx E O=O none S:=by unfold oN; simp
@[simp] theorem Qdy {m:M}:(oS m sl S).sx E O=(m sl S).sx E fun d S1=>(zu S1 d).sx E fun i S1=>O (some i) S1:=by unfold oS; simp only[aM,aG]
@[simp] theorem Cg {m1 m2:M}:(bV m1 m2 sl S).sx E R=(m1 sl S).sx E fun d1 S1=>(m2 sl S1).sx E fun d2 S2=>(D8 d1 d2 S2).sx E R:=by unfold bV; simp only[aM]
@[simp] theorem QcR {neg:Bool} {m1 m2:M}:(Hq neg m1 m2 sl S).sx E R=(m1 sl S).sx E fun d1 S1=>(m2 sl S1).sx E fun d2 S2=>(zZ neg d1 d2 S2).sx E R:=by unfold Hq; simp only[aM]
@[simp] theorem Ya {ms:MI} {eff:oF} {t:MT} {me:M} {own:List Nat}:(wH ms eff t me own sl S).sx E R=(ms sl S).sx E fun its S1=>(ua eff t me own sl its [] S1).sx E fun ps S2=>R (.p (.lst ps)) S2:=by unfold wH; simp only[aM,aG]
@[simp] theorem Wf {f:List D→List D→Option (D×List D)} {mo:M} {ma:MA}:(D9 f mo ma sl S).sx E R=(mo sl S).sx E fun d S1=>match d with
  | .ref n=>(match S1[n]? with
   | some (.lst _)=>(ma sl S1).sx E fun as S2=>match S2[n]? with
    | some (.lst ds)=>lH (f ds as) fun q=>R q.1 (S2.set n (.lst q.2))
    | _=>False
   | _=>False)
  | _=>False:=by
 unfold D9; rw[aM]; congr 1; funext d S1
 cases d with
 | p q=>simp
 | ref n =>
  simp only[]
  cases S1[n]? with
  | none=>simp
  | some c =>
   cases c <;> first
    | (simp; done)
    | skip
   simp only[aM]
   congr 1; funext as S2
   cases S2[n]? with
   | none=>simp
   | some c' =>
    cases c' <;> first
     | (simp; done)
     | skip
    rename_i ds
    simp only[]
    cases f ds as with
    | none=>simp
    | some q=>simp
@[simp] theorem Kj {d:D}:(IX d S).sx E B=match d with | .p (.bl b)=>B b S | _=>False:=by
 unfold IX
 cases d with
 | ref n=>simp
 | p q =>
  cases q <;> first
   | (simp; done)
   | (rename_i b; cases b <;> simp)
@[simp] theorem SQ {f:P→P→Option P} {m1 m2:M}:(tB f m1 m2 sl S).sx E B=(eB f m1 m2 sl S).sx E fun d S1=>(IX d S1).sx E B:=by unfold tB; rw[aM]
@[simp] theorem Qbi {neg:Bool} {m1 m2:M}:(O8 neg m1 m2 sl S).sx E B=(Hq neg m1 m2 sl S).sx E fun d S1=>(IX d S1).sx E B:=by unfold O8; rw[aM]
@[simp] theorem ZR {f g:Int→Int→Bool} {m1 m2 m3:M}:(Um f g m1 m2 m3 sl S).sx E B=(Nb f g m1 m2 m3 sl S).sx E fun d S1=>(IX d S1).sx E B:=by unfold Um; rw[aM]
@[simp] theorem Eg {m:M}:(tV m sl S).sx E B=(m sl S).sx E fun d S1=>(UE S1 d).sx E B:=by unfold tV; rw[aM]
@[simp] theorem Qbj {d:D}:(UE S d).sx E B=lH (view S d) fun p=>lH (md p) fun b=>B b S:=by
 unfold UE
 cases view S d with
 | none=>simp
 | some p=>simp only[aq]; cases md p <;> simp
@[simp] theorem XZ {t:MT}:(tN t sl S).sx E B=(t sl S).sx E fun b S1=>B (!b) S1:=by unfold tN; simp only[aM,aG]
@[simp] theorem Zz {t1 t2:MT}:(vE t1 t2 sl S).sx E B=(t1 sl S).sx E fun b S1=>if b=true then (t2 sl S1).sx E B else B false S1:=by
 unfold vE; simp only[aM,AU,aG]
@[simp] theorem P6 {t1 t2:MT}:(qS t1 t2 sl S).sx E B=(t1 sl S).sx E fun b S1=>if b=true then B true S1 else (t2 sl S1).sx E B:=by
 unfold qS; simp only[aM,AU,aG]
@[simp] theorem Y3:(iY sl S).sx E B=B true S:=by unfold iY; simp
@[simp] theorem XJ {tab:zg} {m:M}:(Gn tab m sl S).sx E B=(m sl S).sx E fun d S1=>match d with | .p (.str z)=>B (!(jm tab z).isSome) S1 | _=>False:=by
 unfold Gn Fj; rw[aM]; congr 1; funext d S1
 cases d with
 | ref n=>simp
 | p q =>
  cases q <;> first
   | (simp; done)
   | (rename_i b; cases b <;> simp)
@[simp] theorem Xy {tab:zg} {m:M}:(AW tab m sl S).sx E R=(m sl S).sx E fun d S1=>match d with | .p (.str z)=>lH (jm tab z) fun e=>R (.p e.p) S1 | _=>False:=by
 unfold AW Ln; rw[aM]; congr 1; funext d S1
 cases d with
 | ref n=>simp
 | p q =>
  cases q <;> first
   | (simp; done)
   | (rename_i z; simp only[]; cases jm tab z <;> simp)
@[simp] theorem Yx {m:M}:(mE m sl S).sx E I=(m sl S).sx E fun d S1=>match d with
  | .p q=>lH (oC q) fun its=>I its S1
  | .ref _=>False:=by
 unfold mE; rw[aM]; congr 1; funext d S1
 cases d with
 | p q=>simp only[]; cases oC q <;> simp
 | ref n=>simp
@[simp] theorem WY {m:M}:(PM m sl S).sx E I=(m sl S).sx E fun d S1=>(zu S1 d).sx E fun n S1=>(-(2 ^ 62)≤n∧n < 2 ^ 62)∧I (Ss 0 n.toNat) S1:=by
 unfold PM; simp only[aM]
 congr 1; funext d S1; congr 1; funext n S1
 by_cases h:-(2 ^ 62)≤n∧n < 2 ^ 62
 · rw[if_pos h,aG]; exact propext ⟨fun q=>⟨h,q⟩,fun q=>q.2⟩
 · rw[if_neg h,UZ]; exact propext ⟨fun q=>q.elim,fun q=>h q.1⟩
@[simp] theorem Qbz {m:M}:(FW m sl S).sx E I=(m sl S).sx E fun d S1=>match d with
  | .p (.lst ps)=>I (ig ps) S1
  | .p (.tup ps)=>I (ig ps) S1
  | .p (.scr ns)=>I (ig (ns.map .int)) S1
  | _=>False:=by
 unfold FW; rw[aM]; congr 1; funext d S1
 cases d with
 | ref n=>simp
 | p q =>
  cases q <;> first
   | (simp; done)
   | (rename_i b; cases b <;> simp)
@[simp] theorem ZT {m1 m2:M}:(XG m1 m2 sl S).sx E I=(m1 sl S).sx E fun d S1=>(m2 sl S1).sx E fun e S2=>match d,e with
  | .p (.lst ps), .p (.lst qs)=>I (rn ps qs) S2
  | .p (.tup ps), .p (.tup qs)=>I (rn ps qs) S2
  | _,_=>False:=by
 unfold XG; simp only[aM]; congr 1; funext d S1; congr 1; funext e S2
 cases d with
 | ref n=>cases e <;> simp
 | p q =>
  cases e with
  | ref n=>cases q <;> simp
  | p r=>cases q <;> cases r <;> simp
theorem AX {eff:oF} {mb:MS} (J:List P→av→ag→Prop) (step:∀ q qs sl S,J (q::qs) sl S→∃ sl1,eff q sl=some sl1∧(mb sl1 S).sx F (J qs) T) (last:∀ sl S,J [] sl S→N sl S):∀ (its:List P) (sl:av) (S:ag),J its sl S→(lr eff mb its sl S).sx F N T
 | [],sl,S,h=>⟨last sl S h⟩
 | q::qs,sl,S,h=>by
  obtain⟨sl1,e,h1⟩:=step q qs sl S h
  simp only[lr,e]
  cases hb:mb sl1 S with
  | nx sl2 S2=>rw[hb] at h1; exact AX J step last qs sl2 S2 h1.out
  | rt d S2=>rw[hb] at h1; exact⟨h1.out⟩
  | ct sl2 S2=>rw[hb] at h1; exact h1.out.elim
  | bk sl2 S2=>rw[hb] at h1; exact h1.out.elim
  | exc x sl2 S2=>rw[hb] at h1; exact⟨h1.out⟩
  | no=>rw[hb] at h1; exact h1.out.elim
theorem Qj {eff:oF} {me:M} {own:List Nat} {Q:List P→ag→Prop} (J:List P→List P→ag→Prop) (step:∀ q qs acc S,J (q::qs) acc S→acc.length < sizeLine∧∃ sl1,eff q (dz sl own)=some sl1∧(me sl1 S).sx IK fun d S1=>∃ z,d=.p z∧J qs (acc++[z]) S1) (last:∀ acc S,J [] acc S→Q acc S) :
  ∀ (its acc:List P) (S:ag),J its acc S→(ua eff iY me own sl its acc S).sx E Q
 | [],acc,S,h=>⟨last acc S h⟩
 | q::qs,acc,S,h=>by
  obtain⟨hl,sl1,e,h1⟩:=step q qs acc S h
  simp only[ua,e,iY]
  cases hb:me sl1 S with
  | ok d S2 =>
   rw[hb] at h1
   obtain⟨z,rfl,h2⟩:=h1.out
   simp only[if_pos hl]
   exact Qj J step last qs (acc++[z]) S2 h2
  | exc _ _=>rw[hb] at h1; exact h1.out.elim
  | no=>rw[hb] at h1; exact h1.out.elim
theorem bp {n:Nat} {b:MS} {ds:List D}:(runB n b ds S).sx E R=(b (yV n ds) S).sx (fun x _ S=>E x S) (fun _ S=>R (.p .non) S) R:=by
 unfold runB
 cases b (yV n ds) S <;> simp
def fq (S:ag):Prop:=∀ c∈S,lq 0 c=true
theorem Hv {n:Nat} {d:D} (h:pk 0 d=true):pk n d=true:=by
 cases d with
 | p _=>rfl
 | ref m=>simp[pk] at h
theorem IL {n:Nat} {c:eQ} (h:lq 0 c=true):lq n c=true:=by
 have key:∀ ds:List D,ds.all (pk 0)=true→ds.all (pk n)=true:=fun ds h=>List.all_eq_true.mpr fun d hd=>Hv (List.all_eq_true.mp h d hd)
 cases c with
 | lst ds=>exact key ds h
 | dic _ _ ds=>exact key ds h
 | ins _ _ ds=>exact key ds h
 | dead=>rfl
 | tab _=>rfl
 | tupf _=>rfl
 | tpl ds=>exact key ds h
theorem fq.cl {S:ag} (h:fq S) (n:Nat):S.all (lq n)=true:=List.all_eq_true.mpr fun c hc=>IL (h c hc)
theorem Be {n:Nat} {b:MS} {ds:List D} (h:∀ (F:Xc→av→ag→Prop) (N:av→ag→Prop) (T:D→ag→Prop),(∀ x sl S1 L,S1.length=S.length→fq S1→E x S1→F x sl (S1++L))→(∀ sl S1 L,S1.length=S.length→fq S1→R (.p .non) S1→N sl (S1++L))→(∀ d S1 L p,S1.length=S.length→fq S1→qK (S1++L) S.length 8 d=some p→R (.p p) S1→T d (S1++L))→(b (yV n ds) S).sx F N T):(runZ n b ds S).sx E R:=by
 have h:=h (fun x _ S'=>∃ S1 L,S'=S1++L∧S1.length=S.length∧fq S1∧E x S1) (fun _ S'=>∃ S1 L,S'=S1++L∧S1.length=S.length∧fq S1∧R (.p .non) S1) (fun d S'=>∃ S1 L,S'=S1++L∧S1.length=S.length∧fq S1∧∃ p,qK S' S.length 8 d=some p∧R (.p p) S1) (fun _ _ S1 L h1 h2 h3=>⟨S1,L,rfl,h1,h2,h3⟩) (fun _ S1 L h1 h2 h3=>⟨S1,L,rfl,h1,h2,h3⟩) (fun _ S1 L p h1 h2 h3 h4=>⟨S1,L,rfl,h1,h2,p,h3,h4⟩)
 unfold runZ runB
 cases hb:b (yV n ds) S with
 | nx sl S' =>
  rw[hb] at h
  obtain⟨S1,L,rfl,hl,hp,hR⟩:=h.out
  have e:(S1++L).take S.length=S1:=by rw[← hl,List.take_left]
  simp only[qU,e,hp.cl,if_true,SL]
  exact⟨hR⟩
 | rt d S' =>
  rw[hb] at h
  obtain⟨S1,L,rfl,hl,hp,p,hf,hR⟩:=h.out
  have e:(S1++L).take S.length=S1:=by rw[← hl,List.take_left]
  simp only[qU,e,hp.cl,if_true]
  cases d with
  | p q=>simp only[SL,e]; simp only[qK,Option.some.injEq] at hf; subst hf; exact⟨hR⟩
  | ref m =>
   have hm:¬ m < S.length:=fun hm=>by
    simp only[qK,if_pos hm] at hf; cases hf
   simp only[SL,if_neg hm,hf,e]
   exact⟨hR⟩
 | bk _ _=>rw[hb] at h; exact h.out.elim
 | ct _ _=>rw[hb] at h; exact h.out.elim
 | exc x sl S' =>
  rw[hb] at h
  obtain⟨S1,L,rfl,hl,hp,hR⟩:=h.out
  have e:(S1++L).take S.length=S1:=by rw[← hl,List.take_left]
  simp only[qU,e,hp.cl,if_true]
  exact⟨hR⟩
 | no=>rw[hb] at h; exact h.out.elim
theorem wm {n:Nat} {b:MS} {ds:List D} (h:∀ (F:Xc→av→ag→Prop) (N:av→ag→Prop),(∀ x sl S',E x S'→F x sl S')→(∀ sl S',R (.p .non) S'→N sl S')→(b (yV n ds) S).sx F N R):(runB n b ds S).sx E R:=by
 rw[bp]; exact h _ _ (fun _ _ _ h=>h) fun _ _ h=>h
variable {m:M} {i n:Nat} {m1 m2 b:MS} {ds:List D}
theorem cY (P:D→ag→Prop) (h:∀ R:D→ag→Prop,(∀ d S1,P d S1→R d S1)→(m sl S).sx (yJ F sl) R) (k:∀ d S1,P d S1→(m2 (sl.set i (some d)) S1).sx F N T):(ao (cV i m) m2 sl S).sx F N T:=by
 rw[dD,AB]
 exact h _ k
theorem bZ (P:av→ag→Prop) (h:∀ R:av→ag→Prop,(∀ sl S1,P sl S1→R sl S1)→(m1 sl S).sx F R T) (k:∀ sl S1,P sl S1→(m2 sl S1).sx F N T):(ao m1 m2 sl S).sx F N T:=by
 rw[dD]
 exact h _ k
end
abbrev Di (g m:Int):eQ:=.lst [.p (.int g), .p (.int m)]
def zU (S:ag) (n:Nat):Prop:=∃ g m:Int,S[n]?=some (Di g m)∧0≤g∧0≤m∧m < 2147483648
def jl (n:Nat) (S S':ag):Prop:=∃ g m:Int,S'=S.set n (Di g m)∧0≤g∧0≤m∧m < 2147483648
theorem zU.lt {S:ag} {n:Nat} (h:zU S n):n < S.length:=by
 obtain⟨g,m,e,_⟩:=h
 exact (List.getElem?_eq_some_iff.mp e).1
theorem jl.bag {S S':ag} {n:Nat} (u:jl n S S') (h:zU S n):zU S' n:=by
 obtain⟨g,m,rfl,h1,h2,h3⟩:=u
 exact⟨g,m,List.getElem?_set_self h.lt,h1,h2,h3⟩
theorem jl.refl {S:ag} {n:Nat} (h:zU S n):jl n S S:=by
 obtain⟨g,m,e,h1⟩:=h
 refine⟨g,m,?_,h1⟩
 obtain⟨hl,e⟩:=List.getElem?_eq_some_iff.mp e
 rw[← e,List.set_getElem_self]
theorem jl.trans {S S' S'':ag} {n:Nat} (u:jl n S S') (v:jl n S' S''):jl n S S'':=by
 obtain⟨g,m,rfl,_⟩:=u
 obtain⟨g',m',rfl,h⟩:=v
 exact⟨g',m',by rw[List.set_set],h⟩
theorem jl.len {S S':ag} {n:Nat} (u:jl n S S'):S'.length=S.length:=by
 obtain⟨g,m,rfl,_⟩:=u
 exact List.length_set
theorem jl.get {S S':ag} {n i:Nat} (u:jl n S S') (h:i≠n):S'[i]?=S[i]?:=by
 obtain⟨g,m,rfl,_⟩:=u
 exact List.getElem?_set_ne (Ne.symm h)
theorem jl.pure {S S':ag} {n:Nat} (u:jl n S S') (h:fq S):fq S':=by
 obtain⟨g,m,rfl,_⟩:=u
 intro c hc
 rcases List.mem_or_eq_of_mem_set hc with hc | rfl
 · exact h c hc
 · rfl
theorem zU.app {S L:ag} {n:Nat} (h:zU S n):zU (S++L) n:=by
 obtain⟨g,m,e,h1⟩:=h
 exact⟨g,m,by rw[List.getElem?_append_left (List.getElem?_eq_some_iff.mp e).1]; exact e,h1⟩
theorem jl.app {S S' L:ag} {n:Nat} (u:jl n (S++L) S') (h:zU S n):∃ S1,S'=S1++L∧jl n S S1:=by
 obtain⟨g,m,rfl,h1⟩:=u
 exact⟨S.set n (Di g m),by rw[List.set_append_left _ _ h.lt],g,m,rfl,h1⟩
@[simp] theorem eA {S:ag} {p:P}:view S (.p p)=some p:=rfl
@[simp] theorem YS {n:Nat} {ds:List D}:yV n ds=ds.map some++List.replicate (n - ds.length) none:=rfl
section
variable {S L:ag} {n:Nat} {E:Xc→ag→Prop} {R:D→ag→Prop} {B:Bool→ag→Prop} {α:Type}
@[simp] theorem Cr {p q:P}:(D8 (.p p) (.p q) S).sx E R=match p with
  | .dic t ks ps=>(jG t q=true∧lH (fX ks (ps.map D.p) q) fun r=>R r S)
  | .dlk ks ps=>(jG false q=true∧lH (fX ks (ps.map D.p) q) fun r=>R r S)
  | p=>lH (ef p q) fun r=>R (.p r) S:=by
 cases p <;> first
  | (simp only[D8,ia,jU,eA,aq]; done)
  | skip
 · rename_i t ks ps
   simp only[D8,ia,eA,jb]
   congr 1
   cases fX ks (ps.map D.p) q <;> simp
 · rename_i ks ps
   simp only[D8,ia,eA,jb]
   congr 1
   cases fX ks (ps.map D.p) q <;> simp
theorem oP {ds:List D} {i:Int} (e:S[n]?=some (.lst ds)):(D8 (.ref n) (.p (.int i)) S).sx E R=lH (atI ds i) fun r=>R r S:=by
 simp only[D8,ia,e,eA]
 cases atI ds i <;> simp
theorem JQ {t:Bool} {ks:List P} {ds:List D} {q:P} (e:S[n]?=some (.dic t ks ds)):(D8 (.ref n) (.p q) S).sx E R=(jG t q=true∧lH (fX ks ds q) fun r=>R r S):=by
 simp only[D8,ia,e,eA,jb]
 congr 1
 cases fX ks ds q <;> simp
theorem Ga {ds:List D} {i:Int} {v:D} (e:S[n]?=some (.lst ds)):qW S n (.p (.int i)) v=(ixN ds.length i).map fun j=>S.set n (.lst (ds.set j v)):=by
 simp only[qW,e,eA]
 cases ixN ds.length i <;> rfl
theorem PH {t:Bool} {ks:List P} {ds:List D} {q:P} {v:D} (e:S[n]?=some (.dic t ks ds)):qW S n (.p q) v=if jG t q=true∧ks.length < sizeLine then some (S.set n (.dic t (yg ks q) (Fv ks ds q v))) else none:=by
 simp only[qW,e,eA]
@[simp] theorem Je {x:α} {l:List α}:atI (x::l) 0=some x:=by simp[atI,ixN]
@[simp] theorem Rc {x y:α} {l:List α}:atI (x::y::l) 1=some y:=by
 have:(1:Int) < ((l.length+1+1:Nat):Int):=by omega
 simp only[atI,ixN,List.length_cons,if_pos this]; rfl
@[simp] theorem Rg {x y z:α} {l:List α}:atI (x::y::z::l) 2=some z:=by
 have:(2:Int) < ((l.length+1+1+1:Nat):Int):=by omega
 simp only[atI,ixN,List.length_cons,if_pos this]; rfl
theorem Qh {neg:Bool} {p q:P} (h:∀ t ks ps,q≠.dic t ks ps) (h2:∀ ks ps,q≠.dlk ks ps:=by intros; exact fun h=>nomatch h):(zZ neg (.p p) (.p q) S).sx E R=lH ((if neg then jA else tc) p q) fun r=>R (.p r) S:=by
 cases q <;> first
  | (exfalso; exact h _ _ _ rfl)
  | (exfalso; exact h2 _ _ rfl)
  | skip
 all_goals
  simp only[zZ,ia,jU,eA,aq]
@[simp] theorem dS {Q:List P→Prop}:lH (fV S []) Q=Q []:=rfl
@[simp] theorem cZ {d:D} {ds:List D} {Q:List P→Prop}:lH (fV S (d::ds)) Q=lH (view S d) fun p=>lH (fV S ds) fun ps=>Q (p::ps):=by
 simp only[fV]
 cases view S d with
 | none=>rfl
 | some p=>cases fV S ds <;> rfl
@[simp] theorem IC:cR []=some []:=rfl
@[simp] theorem EG {p:P} {ds:List D}:cR (.p p::ds)=(cR ds).map (p::·):=rfl
@[simp] theorem VP {m n:Int} (h:-(2 ^ 64) < n∧n < 2 ^ 64):CMul m n:=.inr h
@[simp] theorem W9 {m n:Int}:ck (.int m) (.int n)=some (.int (m+n)):=rfl
@[simp] theorem XQ {m n:Int}:jR (.int m) (.int n)=some (.int (m - n)):=rfl
theorem qc {m n:Int} (h:-(2 ^ 64) < n∧n < 2 ^ 64):lO (.int m) (.int n)=some (.int (m * n)):=by simp only[lO]; rw[if_pos (VP h)]
theorem lI {m n:Int} (h:0 < n):mW (.int m) (.int n)=some (.int (m % n)):=by simp only[mW]; rw[if_pos h]
theorem BG {m n:Int} (h:0 < n∧n < 1073741824):vb (.int m) (.int n)=some (.int (m / n)):=by simp only[vb]; rw[if_pos (show CDiv m n from h)]
theorem wa {m n:Int} (h:0≤n∧n≤1000000∧m.natAbs < 2 ^ 64):sj (.int m) (.int n)=some (.int (m ^ n.toNat)):=by simp only[sj]; rw[if_pos (show CPow m n from h)]
@[simp] theorem QaV {g:Int→Int→Bool} {m n:Int}:EN g (.int m) (.int n)=some (.bl (g m n)):=rfl
@[simp] theorem SV {m n:Int}:bP (.int m) (.int n)=some (.bl (m == n)):=rfl
@[simp] theorem Zr {m n:Int}:lm (.int m) (.int n)=some (.bl (!(m == n))):=rfl
@[simp] theorem X4 {m:Int}:kE [.int m]=some (.int m):=rfl
@[simp] theorem ZM {b:Bool}:kE [.bl b]=some (.int (if b then 1 else 0)):=rfl
@[simp] theorem Yh {m:Int}:Et [.int m]=some (.int (if m < 0 then -m else m)):=rfl
@[simp] theorem Xf {m:Int}:ii (.int m)=some (.int (-m)):=rfl
@[simp] theorem YB {ps:List P}:dh [.lst ps]=some (.int ps.length):=rfl
@[simp] theorem ZC {ps:List P}:dh [.tup ps]=some (.int ps.length):=rfl
@[simp] theorem YL {ns:List Int}:dh [.scr ns]=some (.int ns.length):=rfl
@[simp] theorem Ys {m n:Int}:vC [.int m, .int n]=some (.int (if n < m then n else m)):=rfl
@[simp] theorem X7 {m n:Int}:HH [.int m, .int n]=some (.int (if n > m then n else m)):=rfl
@[simp] theorem wO {ps:List P}:hX [.lst ps]=some (.tup ps):=rfl
@[simp] theorem Vs {ps:List P}:hX [.tup ps]=some (.tup ps):=rfl
@[simp] theorem Xz {ps:List P}:oC (.lst ps)=some ps:=rfl
@[simp] theorem Xg {ps:List P}:oC (.tup ps)=some ps:=rfl
@[simp] theorem W7 {ns:List Int}:oC (.scr ns)=some (ns.map .int):=rfl
@[simp] theorem Zf {j:Nat} {q:P} {sl:av}:bh j q sl=some (sl.set j (some (.p q))):=rfl
@[simp] theorem Sk {sl:av} {ds:List D}:tY sl [] ds=sl:=by cases ds <;> rfl
@[simp] theorem Rb {sl:av} {j:Nat} {js:List Nat} {d:D} {ds:List D}:tY sl (j::js) (d::ds)=tY (sl.set j (some d)) js ds:=rfl
theorem wX {F:Xc→av→ag→Prop} {N:av→ag→Prop} {T:D→ag→Prop} {m:M} {i:Nat} {m2:MS} {sl:av} (P:D→ag→Prop) (h:(m sl S).sx (yJ F sl) P) (k:∀ d S1,P d S1→(m2 (sl.set i (some d)) S1).sx F N T):(ao (cV i m) m2 sl S).sx F N T:=by
 rw[dD,AB]
 exact h.imp k
theorem step {F:Xc→av→ag→Prop} {N:av→ag→Prop} {T:D→ag→Prop} {m1 m2:MS} {sl:av} (P:av→ag→Prop) (h:(m1 sl S).sx F P T) (k:∀ sl S1,P sl S1→(m2 sl S1).sx F N T):(ao m1 m2 sl S).sx F N T:=by
 rw[dD]
 exact h.imp k fun _ _ h=>h
theorem KP {xs:List α} {k:Int} (h0:0≤k) (h:k < (xs.length:Int)):∃ v,atI xs k=some v∧v∈xs:=by
 have hl:k.toNat < xs.length:=by omega
 refine⟨xs[k.toNat],?_,List.getElem_mem hl⟩
 simp only[atI,ixN,if_pos h0,if_pos h,Option.bind_some]
 exact List.getElem?_eq_getElem hl
end
end Z
namespace Kw
open PySem PySem.Spec PyProof.Rows L2 Z
section
variable {S L:ag} {n:Nat} {many:Int} {E:Xc→ag→Prop} {Q:D→ag→Prop}
theorem bA (hb:zU S n) (h0:0 < many) (h1:many < 1073741824) (k:∀ d S',0≤d→d < many→jl n S S'→Q (.p (.int d)) S'):(bH [.ref n, .p (.int many)] S).sx E Q:=by
 obtain⟨g,m,e,hg,hm0,hm1⟩:=hb
 have hl:n < S.length:=(List.getElem?_eq_some_iff.mp e).1
 have e':∀ c,(S.set n c)[n]?=some c:=fun c=>List.getElem?_set_self hl
 unfold bH K5
 rw[bp]
 simp[List.replicate,oP e]
 split
 · rename_i hg'
   simp[lI h0,BG ⟨h0,h1⟩,Ga e,ixN]
   exact k _ _ (Int.emod_nonneg _ (by omega)) (Int.emod_lt_of_pos _ h0) ⟨g / many,m,rfl,Int.ediv_nonneg hg (by omega),hm0,hm1⟩
 · rename_i hg'
   have:m * 48271+12820163 < 2 ^ 64:=by omega
   have hz:(m * 48271+12820163) % 2147483647 < 2147483647:=Int.emod_lt_of_pos _ (by omega)
   have WZ:0≤(m * 48271+12820163) % 2147483647:=Int.emod_nonneg _ (by omega)
   simp[qc,lI,Ga e,ixN,oP (e' _)]
   rw[wa (by omega)]
   simp[lI,lI h0]
   exact k _ _ (Int.emod_nonneg _ (by omega)) (Int.emod_lt_of_pos _ h0) ⟨g,_,rfl,hg,WZ,by omega⟩
theorem wY (hb:zU S n) (h0:0 < many) (h1:many < 1073741824) (k:∀ d S',0≤d→d < many→jl n S S'→Q (.p (.int d)) (S'++L)):(bH [.ref n, .p (.int many)] (S++L)).sx E Q :=
 bA hb.app h0 h1 fun d S' hd0 VO u=>by
  obtain⟨S1,rfl,u1⟩:=u.app hb
  exact k d S1 hd0 VO u1
theorem NK {ns:List Int} {k:Int} (hk:0≤k) (hk':k < 4294967296) (h:∀ g m:Int,0≤g→0≤m→m < 2147483648→Q (.ref S.length) (S++[Di g m])):(ym [.p (.scr ns), .p (.int k)] S).sx E Q:=by
 unfold ym Qk
 rw[bp]
 refine wX (fun d S1=>S=S1∧∃ c:Int,d=.p (.int c)) ?_ ?_
 · simp[List.replicate,ef]
   intro hl
   obtain⟨v,e,_⟩:=KP (xs:=ns) hk hl
   simp[e]
 rintro d _ ⟨rfl,c,rfl⟩
 refine wX (fun d S1=>S=S1∧∃ g:Int,0≤g∧d=.p (.int g)) ?_ ?_
 · simp[List.replicate,wa]
   split <;> omega
 rintro d _ ⟨rfl,g,hg,rfl⟩
 refine wX (fun d S1=>S=S1∧∃ m:Int,d=.p (.int m)) ?_ ?_
 · simp[List.replicate,qc (show -(2 ^ 64) < k∧k < 2 ^ 64 by omega)]
 rintro d _ ⟨rfl,m,rfl⟩
 rw[dD]
 simp only[JK]
 refine Rs.sx.imp (P:=fun its S1=>S=S1∧∃ zs:List Int,its=zs.map .int) ?_ ?_
 · simp[List.replicate,Hy]
   exact⟨_,rfl⟩
 rintro its _ ⟨rfl,zs,rfl⟩
 refine AX (fun its sl S'=>S=S'∧(∃ zs:List Int,its=zs.map .int)∧∃ (m:Int) (x:Option D),sl=[some (.p (.scr ns)),some (.p (.int k)),some (.p (.int c)),some (.p (.int g)),some (.p (.int m)),x]) ?_ ?_ _ _ _ ⟨rfl,⟨_,rfl⟩,m,none,by simp[List.replicate]⟩
 · rintro q qs sl S' ⟨rfl,⟨zs,hz⟩,m,x,rfl⟩
   cases zs with
   | nil=>cases hz
   | cons z zs =>
    cases hz
    refine⟨_,rfl,?_⟩
    simp[qc,lI]
    exact⟨zs,rfl⟩
 · rintro sl S' ⟨rfl,_,m,x,rfl⟩
   have:0≤(m+31 * c) % 2147483563:=Int.emod_nonneg _ (by omega)
   have:(m+31 * c) % 2147483563 < 2147483563:=Int.emod_lt_of_pos _ (by omega)
   have e:lO (.int 31) (.int c)=some (.int (31 * c)):=by simp only[lO]; rw[if_pos (show CMul 31 c from .inl (by decide))]
   simp[e,lI,show 2≤sizeLine by decide]
   exact h _ _ hg (by omega) (by omega)
end
end Kw
namespace Z
open PySem PySem.Spec PyProof.Rows L2
theorem Rs.sx.eq {r:Rs D} {d:D} {S:ag} (h:r.sx IK fun a S'=>a=d∧S'=S):r=.ok d S:=by
 obtain⟨a,S',e,rfl,rfl⟩:=h.ok
 exact e
theorem qb {eff:oF} {t:MT} {me:M} {own:List Nat} {sl:av} {S:ag} (c:P→Bool) (g:P→P):∀ (its acc:List P),(∀ q∈its,∃ sl1,eff q (dz sl own)=some sl1∧t sl1 S=.ok (c q) S∧(c q=true→me sl1 S=.ok (.p (g q)) S))→acc.length+its.length≤sizeLine→ua eff t me own sl its acc S=.ok (acc++(its.filter c).map g) S
 | [],acc,_,_=>by simp[ua]
 | q::qs,acc,h,hl=>by
  obtain⟨sl1,e1,e2,e3⟩:=h q (List.mem_cons_self ..)
  simp only[List.length_cons] at hl
  simp only[ua,e1,e2]
  cases hc:c q with
  | true =>
   simp only[e3 hc,if_pos (show acc.length < sizeLine by omega)]
   rw[qb c g qs (acc++[g q]) (fun q' ul=>h q' (List.mem_cons_of_mem _ ul)) (by simp; omega)]
   simp[hc]
  | false =>
   simp only[]
   rw[qb c g qs acc (fun q' ul=>h q' (List.mem_cons_of_mem _ ul)) (by omega)]
   simp[hc]
theorem E8 {eff:oF} {me:M} {own:List Nat} {sl:av} {S:ag} (g:P→P) (its acc:List P) (h:∀ q∈its,∃ sl1,eff q (dz sl own)=some sl1∧me sl1 S=.ok (.p (g q)) S) (hl:acc.length+its.length≤sizeLine):ua eff iY me own sl its acc S=.ok (acc++its.map g) S:=by
 have:=qb (t:=iY) (fun _=>true) g its acc (fun q hq=>let ⟨sl1,e1,e2⟩:=h q hq; ⟨sl1,e1,rfl,fun _=>e2⟩) hl
 rw[this,List.filter_eq_self.mpr (fun _ _=>rfl)]
theorem rC (z:Str):z.cps.toList.length=z.length:=by rw[Array.length_toList]; rfl
theorem K9 (y:Str) (c:Nat):tc (.str ⟨#[c]⟩) (.str y)=some (.bl (decide (c∈y.cps.toList))):=by
 simp only[tc]
 rw[StrLaws.found_one y c]
theorem NE (y:Str) (c:Nat):jA (.str ⟨#[c]⟩) (.str y)=some (.bl (!decide (c∈y.cps.toList))):=by
 simp only[jA,K9,El]
theorem YT {S:ag} {E:Xc→ag→Prop} {R:D→ag→Prop} {y:Str} {c:Nat}:(zZ false (.p (.str ⟨#[c]⟩)) (.p (.str y)) S).sx E R=R (.p (.bl (decide (c∈y.cps.toList)))) S:=by
 rw[Qh (by intros; exact fun h=>nomatch h)]
 simp[K9]
theorem VF {S:ag} {E:Xc→ag→Prop} {R:D→ag→Prop} {y:Str} {c:Nat}:(zZ true (.p (.str ⟨#[c]⟩)) (.p (.str y)) S).sx E R=R (.p (.bl (!decide (c∈y.cps.toList)))) S:=by
 rw[Qh (by intros; exact fun h=>nomatch h)]
 simp[NE]
theorem LV (z:Str):Gb z=z.cps.toList.map fun c=>.str ⟨#[c]⟩:=by
 rfl
def sm:Nat→P→Bool
 | _, .non=>true
 | _, .bl _=>true
 | _, .int _=>true
 | _, .str z=>di z && decide (z.length≤1000)
 | n+1, .lst xs=>decide (xs.length≤1000) && xs.all (sm n)
 | n+1, .tup xs=>decide (xs.length≤1000) && xs.all (sm n)
 | _,_=>false
theorem B6:∀ (n:Nat) (p:P),sm n p=true→fin n p=true
 | 0,p,h=>by cases p <;> simp_all [sm,fin]
 | n+1,p,h=>by
  cases p <;> simp_all [sm,fin]
  all_goals exact fun x hx=>B6 n x (h.2 x hx)
theorem Du:kitB "NoneType" "str" = some false:=by decide +kernel
@[simp] theorem Qy:br [.non, .ty "str"]=some (.bl false):=by simp only[br,cj,oE,Du,if_true,Option.map_some]
theorem EL:kitB "bool" "str" = some false:=by decide +kernel
@[simp] theorem RQ {b:Bool}:br [.bl b, .ty "str"]=some (.bl false):=by simp only[br,cj,oE,EL,if_true,Option.map_some]
theorem Dx:kitB "int" "str" = some false:=by decide +kernel
@[simp] theorem Qs {i:Int}:br [.int i, .ty "str"]=some (.bl false):=by simp only[br,cj,oE,Dx,if_true,Option.map_some]
theorem Dc:kitB "str" "str" = some true:=by decide +kernel
@[simp] theorem Q3 {z:Str}:br [.str z, .ty "str"]=some (.bl true):=by simp only[br,cj,oE,Dc,if_true,Option.map_some]
theorem DC:kitB "list" "str" = some false:=by decide +kernel
@[simp] theorem QF {ps:List P}:br [.lst ps, .ty "str"]=some (.bl false):=by simp only[br,cj,oE,DC,if_true,Option.map_some]
theorem C0:kitB "tuple" "str" = some false:=by decide +kernel
@[simp] theorem QH {ps:List P}:br [.tup ps, .ty "str"]=some (.bl false):=by simp only[br,cj,oE,C0,if_true,Option.map_some]
theorem CP:kitB "NoneType" "int" = some false:=by decide +kernel
@[simp] theorem QE:br [.non, .ty "int"]=some (.bl false):=by simp only[br,cj,oE,CP,if_true,Option.map_some]
theorem EX:kitB "bool" "int" = some true:=by decide +kernel
@[simp] theorem Su {b:Bool}:br [.bl b, .ty "int"]=some (.bl true):=by simp only[br,cj,oE,EX,if_true,Option.map_some]
theorem Df:kitB "int" "int" = some true:=by decide +kernel
@[simp] theorem QX {i:Int}:br [.int i, .ty "int"]=some (.bl true):=by simp only[br,cj,oE,Df,if_true,Option.map_some]
theorem CT:kitB "str" "int" = some false:=by decide +kernel
@[simp] theorem QT {z:Str}:br [.str z, .ty "int"]=some (.bl false):=by simp only[br,cj,oE,CT,if_true,Option.map_some]
theorem Cp:kitB "list" "int" = some false:=by decide +kernel
@[simp] theorem Q9 {ps:List P}:br [.lst ps, .ty "int"]=some (.bl false):=by simp only[br,cj,oE,Cp,if_true,Option.map_some]
theorem DP:kitB "tuple" "int" = some false:=by decide +kernel
@[simp] theorem QD {ps:List P}:br [.tup ps, .ty "int"]=some (.bl false):=by simp only[br,cj,oE,DP,if_true,Option.map_some]
theorem A2:kitB "NoneType" "bool" = some false:=by decide +kernel
@[simp] theorem NL:br [.non, .ty "bool"]=some (.bl false):=by simp only[br,cj,oE,A2,if_true,Option.map_some]
theorem Dr:kitB "bool" "bool" = some true:=by decide +kernel
@[simp] theorem Q5 {b:Bool}:br [.bl b, .ty "bool"]=some (.bl true):=by simp only[br,cj,oE,Dr,if_true,Option.map_some]
theorem BL:kitB "int" "bool" = some false:=by decide +kernel
@[simp] theorem P2 {i:Int}:br [.int i, .ty "bool"]=some (.bl false):=by simp only[br,cj,oE,BL,if_true,Option.map_some]
theorem B4:kitB "str" "bool" = some false:=by decide +kernel
@[simp] theorem PL {z:Str}:br [.str z, .ty "bool"]=some (.bl false):=by simp only[br,cj,oE,B4,if_true,Option.map_some]
theorem Bq:kitB "list" "bool" = some false:=by decide +kernel
@[simp] theorem Ny {ps:List P}:br [.lst ps, .ty "bool"]=some (.bl false):=by simp only[br,cj,oE,Bq,if_true,Option.map_some]
theorem Ca:kitB "tuple" "bool" = some false:=by decide +kernel
@[simp] theorem OF {ps:List P}:br [.tup ps, .ty "bool"]=some (.bl false):=by simp only[br,cj,oE,Ca,if_true,Option.map_some]
theorem yH:kitB "NoneType" "tuple" = some false:=by decide +kernel
@[simp] theorem Mz:br [.non, .ty "tuple"]=some (.bl false):=by simp only[br,cj,oE,yH,if_true,Option.map_some]
theorem B7:kitB "bool" "tuple" = some false:=by decide +kernel
@[simp] theorem On {b:Bool}:br [.bl b, .ty "tuple"]=some (.bl false):=by simp only[br,cj,oE,B7,if_true,Option.map_some]
theorem yS:kitB "int" "tuple" = some false:=by decide +kernel
@[simp] theorem M8 {i:Int}:br [.int i, .ty "tuple"]=some (.bl false):=by simp only[br,cj,oE,yS,if_true,Option.map_some]
theorem yX:kitB "str" "tuple" = some false:=by decide +kernel
@[simp] theorem M7 {z:Str}:br [.str z, .ty "tuple"]=some (.bl false):=by simp only[br,cj,oE,yX,if_true,Option.map_some]
theorem zk:kitB "list" "tuple" = some false:=by decide +kernel
@[simp] theorem MH {ps:List P}:br [.lst ps, .ty "tuple"]=some (.bl false):=by simp only[br,cj,oE,zk,if_true,Option.map_some]
theorem yI:kitB "tuple" "tuple" = some true:=by decide +kernel
@[simp] theorem MY {ps:List P}:br [.tup ps, .ty "tuple"]=some (.bl true):=by simp only[br,cj,oE,yI,if_true,Option.map_some]
theorem Bk:kitB "NoneType" "list" = some false:=by decide +kernel
@[simp] theorem Ni:br [.non, .ty "list"]=some (.bl false):=by simp only[br,cj,oE,Bk,if_true,Option.map_some]
theorem DW:kitB "bool" "list" = some false:=by decide +kernel
@[simp] theorem Rr {b:Bool}:br [.bl b, .ty "list"]=some (.bl false):=by simp only[br,cj,oE,DW,if_true,Option.map_some]
theorem AK:kitB "int" "list" = some false:=by decide +kernel
@[simp] theorem P4 {i:Int}:br [.int i, .ty "list"]=some (.bl false):=by simp only[br,cj,oE,AK,if_true,Option.map_some]
theorem AQ:kitB "str" "list" = some false:=by decide +kernel
@[simp] theorem PZ {z:Str}:br [.str z, .ty "list"]=some (.bl false):=by simp only[br,cj,oE,AQ,if_true,Option.map_some]
theorem B1:kitB "list" "list" = some true:=by decide +kernel
@[simp] theorem NQ {ps:List P}:br [.lst ps, .ty "list"]=some (.bl true):=by simp only[br,cj,oE,B1,if_true,Option.map_some]
theorem Cd:kitB "tuple" "list" = some false:=by decide +kernel
@[simp] theorem Oa {ps:List P}:br [.tup ps, .ty "list"]=some (.bl false):=by simp only[br,cj,oE,Cd,if_true,Option.map_some]
@[simp] theorem Y4 {b:Bool}:md (.bl b)=some b:=rfl
@[simp] theorem Xh {i:Int}:md (.int i)=some (i != 0):=rfl
@[simp] theorem W8:md .non=some false:=rfl
@[simp] theorem XF {ps:List P}:md (.lst ps)=some (!ps.isEmpty):=rfl
@[simp] theorem Xj {ps:List P}:md (.tup ps)=some (!ps.isEmpty):=rfl
theorem fk (z:Str):(cs z).length=z.length:=rC z
def ch (c:Nat):P:=.str ⟨#[c]⟩
def Vh:P→Nat
 | .str ⟨cs⟩=>cs.toList.headD 0
 | _=>0
@[simp] theorem W0 {c:Nat}:Vh (ch c)=c:=rfl
@[simp] theorem Qbe {S:ag} {E:Xc→ag→Prop} {R:D→ag→Prop} {y:Str} {c:Nat}:(zZ false (.p (ch c)) (.p (.str y)) S).sx E R=R (.p (.bl (mem c y))) S:=YT
@[simp] theorem X9 {S:ag} {E:Xc→ag→Prop} {R:D→ag→Prop} {y:Str} {c:Nat}:(zZ true (.p (ch c)) (.p (.str y)) S).sx E R=R (.p (.bl (!mem c y))) S:=VF
theorem xJ (z:Str):Gb z=(cs z).map ch:=LV z
theorem zX {z:Str} {i:Int} (h:z.length≤sizeLine):ef (.str z) (.int i)=(atI (cs z) i).map ch:=by simp only[ef,if_pos h]; rfl
def tR:Str:="0123456789"
def bG:P→Bool
 | .str z=>ak z
 | _=>false
def gj (z:Str):Nat:=(cs z).getLastD 0
def aH (z:Str):Bool:=(decide (2≤(z.length:Int)) && decide ((z.length:Int)≤6+1)) && (Cy (cutS z none (some (-1))) hV && (mem (gj z) tR && (decide (1≤(gj z:Int) - 48) && decide ((gj z:Int) - 48≤4))))
def fS:P→Bool
 | .str z=>aH z
 | _=>false
theorem pH {α:Type} (xs:List α) (f:α→Bool):fg (xs.map fun c=>.bl (f c))=some (xs.map f):=by
 induction xs with
 | nil=>rfl
 | cons x xs ih=>simp only[List.map_cons,fg,ih,Option.map_some]
theorem Ly {α:Type} (xs:List α) (f:α→Bool):qH [.lst (xs.map fun c=>.bl (f c))]=some (.bl (xs.all f)):=by
 simp only[qH,pH,Option.map_some,List.all_map]
 rfl
theorem wV {α:Type} (xs:List α) (f:α→Bool):A9 [.lst (xs.map fun c=>.bl (f c))]=some (.bl (xs.any f)):=by
 simp only[A9,pH,Option.map_some,List.any_map]
 rfl
theorem Lp {n:Nat} {z:Str} (h:sm n (.str z)=true):di z=true∧z.length≤1000:=by
 cases n <;> simpa [sm] using h
theorem BP {z:Str} (h:z.length≤sizeLine):dh [.str z]=some (.int z.length):=by simp[dh,h]
theorem DF (z:Str) (h:1≤z.length):atI (cs z) (-1)=some (gj z):=by
 have hs:=fk z
 unfold atI ixN gj
 rw[if_neg (by omega),if_pos (by omega),Option.bind_some]
 have:(-1+((cs z).length:Int)).toNat=(cs z).length - 1:=by omega
 rw[this,← List.getLast?_eq_getElem?]
 cases hl:cs z with
 | nil=>rw[hl] at hs; simp at hs; omega
 | cons c r=>simp[List.getLast?_cons]
theorem NO {c:Nat} (h:mem c tR=true):PySem.intText? ⟨#[c]⟩=some ((c:Int) - 48):=by
 have h:=of_decide_eq_true h
 have e:cs tR=[48,49,50,51,52,53,54,55,56,57]:=by decide +kernel
 rw[e] at h
 simp only[List.mem_cons,List.not_mem_nil,or_false] at h
 rcases h with rfl | rfl | rfl | rfl | rfl | rfl | rfl | rfl | rfl | rfl <;> decide +kernel
end Z
namespace Kw
open PySem PySem.Spec PyProof.Rows L2 Z
section
variable {S:ag} {n:Nat} {p:Z.P}
theorem oV {z y:Str} (hz:z.length≤sizeLine):cy [.p (.str z), .p (.str y)] S=.ok (.p (.bl (Cy z y))) S:=by
 apply Rs.sx.eq
 unfold cy qw
 rw[bp]
 simp[List.replicate,oC]
 rw[E8 (fun q=>.bl (mem (Vh q) y))]
 · simp[xJ,Function.comp_def,Cy,Ly]
 · intro q hq
   rw[xJ] at hq
   obtain⟨c,hc,rfl⟩:=List.mem_map.mp hq
   refine⟨_,rfl,?_⟩
   apply Rs.sx.eq
   simp[dz]
 · rw[xJ,List.length_map,fk]; simpa using hz
theorem bc (h:sm n p=true):bD [.p p] S=.ok (.p (.bl (bG p))) S:=by
 apply Rs.sx.eq
 unfold bD Ax
 rw[bp]
 cases p <;> first | (cases n <;> simp[sm] at h; done) | skip
 case str z =>
  obtain⟨h1,h2⟩:=Lp h
  have hz:z.length≤sizeLine:=Nat.le_trans h2 (by decide)
  simp[List.replicate,BP hz,bG,ak,oV hz,zX hz]
  by_cases hl:(1:Int)≤(z.length:Int)
  · by_cases En:(z.length:Int)≤8
    · have hs:=fk z
      cases hc:cs z with
      | nil=>rw[hc] at hs; simp at hs; omega
      | cons c r =>
       simp[hl,En,Fh,hc]
       cases hd:mem c hV <;> simp_all [hV,xu]
    · simp[hl,En]
  · simp[hl]
 all_goals simp[List.replicate,bG]
end
end Kw
namespace Z
open PySem PySem.Spec PyProof.Rows L2
theorem GN {z:Str} {lo hi:Option Int} (h:z.length≤sizeLine):Hy lo hi (.str z)=some (.str (cutS z lo hi)):=by simp only[Hy,if_pos h]
theorem vU (z:Str) (lo hi:Option Int):(cutS z lo hi).length≤z.length:=by
 rw[← rC,← rC]
 unfold cutS
 simp only[List.length_take,List.length_drop]
 omega
theorem G3 {c:Nat} (h:mem c tR=true):kE [ch c]=some (.int ((c:Int) - 48)):=by
 simp only[kE,ch]
 rw[if_pos (by show (1:Nat)≤640; decide),NO h]
 rfl
def wC:P→Bool
 | .int _=>true
 | _=>false
def nW (i:Int):Int:=if i < 0 then -i else i
def wQ:P→Bool
 | .int i=>decide (nW i < 10 ^ 40)
 | _=>false
def eO:P→Bool
 | .int i=>decide (0≤i) && decide (i < 8)
 | _=>false
def iw:P→Bool
 | .int i=>decide (1≤i) && decide (i≤8)
 | _=>false
def la:P→Bool
 | .int i=>decide (nW i < 10 ^ 40)
 | .str z=>ak z
 | _=>false
end Z
namespace Kw
open PySem PySem.Spec PyProof.Rows L2 Z
section
variable {S:ag} {n:Nat} {p:Z.P}
theorem bv (h:sm n p=true):cP [.p p] S=.ok (.p (.bl (fS p))) S:=by
 apply Rs.sx.eq
 unfold cP zK
 rw[bp]
 cases p <;> first | (cases n <;> simp[sm] at h; done) | skip
 case str z =>
  obtain⟨h1,h2⟩:=Lp h
  have hz:z.length≤sizeLine:=Nat.le_trans h2 (by decide)
  have hc:(cutS z none (some (-1))).length≤sizeLine:=Nat.le_trans (vU _ _ _) hz
  simp[List.replicate,BP hz,fS,aH,GN hz,oV hc,zX hz]
  by_cases hl:(2:Int)≤(z.length:Int)
  · by_cases En:(z.length:Int)≤7
    · have e:=DF z (by omega)
      simp[hl,En,e]
      cases hd:Cy (cutS z none (some (-1))) hV with
      | false=>simp_all [hV]
      | true =>
       rw[show Cy (cutS z none (some (-1))) (Str.ofString "abcdefghijklmnopqrstuvwxyz")=true from hd]
       cases hm:mem (gj z) tR with
       | false =>
        rw[show mem (gj z) (Str.ofString "0123456789")=false from hm]
        simp
       | true =>
        rw[show mem (gj z) (Str.ofString "0123456789")=true from hm]
        simp[G3 hm]
        split <;> simp_all <;> omega
    · simp[hl,En]
  · simp[hl]
 all_goals simp[List.replicate,fS]
theorem lV (h:sm n p=true):cI [.p p] S=.ok (.p (.bl (wC p))) S:=by
 apply Rs.sx.eq
 unfold cI td
 rw[bp]
 cases p <;> first | (cases n <;> simp[sm] at h; done) | skip
 all_goals simp[List.replicate,wC]
theorem B2 (h:sm n p=true):eH [.p p] S=.ok (.p (.bl (wQ p))) S:=by
 apply Rs.sx.eq
 unfold eH vn
 rw[bp]
 simp[List.replicate,lV h]
 cases p <;> first | (cases n <;> simp[sm] at h; done) | skip
 all_goals simp[wC,wQ,wa,nW]
 exact decide_eq_decide.mpr Iff.rfl
theorem bo (h:sm n p=true):dq [.p p] S=.ok (.p (.bl (eO p))) S:=by
 apply Rs.sx.eq
 unfold dq uY
 rw[bp]
 simp[List.replicate,lV h]
 cases p <;> first | (cases n <;> simp[sm] at h; done) | skip
 all_goals simp[wC,eO]
 split <;> simp_all <;> omega
theorem bU (h:sm n p=true):fA [.p p] S=.ok (.p (.bl (iw p))) S:=by
 apply Rs.sx.eq
 unfold fA AA
 rw[bp]
 simp[List.replicate,lV h]
 cases p <;> first | (cases n <;> simp[sm] at h; done) | skip
 all_goals simp[wC,iw]
 split <;> simp_all <;> omega
theorem bB (h:sm n p=true):dY [.p p] S=.ok (.p (.bl (la p))) S:=by
 apply Rs.sx.eq
 unfold dY xI
 rw[bp]
 simp[List.replicate,B2 h,bc h]
 cases p <;> first | (cases n <;> simp[sm] at h; done) | skip
 all_goals simp[wQ,la,bG]
 split <;> simp_all
end
end Kw
namespace Z
open PySem PySem.Spec PyProof.Rows L2
@[simp] theorem M9:(Str.ofString "read" == Str.ofString "write")=false:=by decide +kernel
@[simp] theorem My:(Str.ofString "read" = Str.ofString "write")=False:=by simp only[eq_iff_iff,iff_false]; decide +kernel
@[simp] theorem Pn:(Str.ofString "read" == Str.ofString "copy")=false:=by decide +kernel
@[simp] theorem Ol:(Str.ofString "read" = Str.ofString "copy")=False:=by simp only[eq_iff_iff,iff_false]; decide +kernel
@[simp] theorem MZ:(Str.ofString "read" == Str.ofString "blank")=false:=by decide +kernel
@[simp] theorem MN:(Str.ofString "read" = Str.ofString "blank")=False:=by simp only[eq_iff_iff,iff_false]; decide +kernel
@[simp] theorem O1:(Str.ofString "read" == Str.ofString "tell")=false:=by decide +kernel
@[simp] theorem O3:(Str.ofString "read" = Str.ofString "tell")=False:=by simp only[eq_iff_iff,iff_false]; decide +kernel
@[simp] theorem Mx:(Str.ofString "write" == Str.ofString "read")=false:=by decide +kernel
@[simp] theorem MC:(Str.ofString "write" = Str.ofString "read")=False:=by simp only[eq_iff_iff,iff_false]; decide +kernel
@[simp] theorem MU:(Str.ofString "write" == Str.ofString "copy")=false:=by decide +kernel
@[simp] theorem MR:(Str.ofString "write" = Str.ofString "copy")=False:=by simp only[eq_iff_iff,iff_false]; decide +kernel
@[simp] theorem Mf:(Str.ofString "write" == Str.ofString "blank")=false:=by decide +kernel
@[simp] theorem Me:(Str.ofString "write" = Str.ofString "blank")=False:=by simp only[eq_iff_iff,iff_false]; decide +kernel
@[simp] theorem Mw:(Str.ofString "write" == Str.ofString "tell")=false:=by decide +kernel
@[simp] theorem MM:(Str.ofString "write" = Str.ofString "tell")=False:=by simp only[eq_iff_iff,iff_false]; decide +kernel
@[simp] theorem NY:(Str.ofString "copy" == Str.ofString "read")=false:=by decide +kernel
@[simp] theorem NB:(Str.ofString "copy" = Str.ofString "read")=False:=by simp only[eq_iff_iff,iff_false]; decide +kernel
@[simp] theorem MJ:(Str.ofString "copy" == Str.ofString "write")=false:=by decide +kernel
@[simp] theorem MB:(Str.ofString "copy" = Str.ofString "write")=False:=by simp only[eq_iff_iff,iff_false]; decide +kernel
@[simp] theorem MQ:(Str.ofString "copy" == Str.ofString "blank")=false:=by decide +kernel
@[simp] theorem MK:(Str.ofString "copy" = Str.ofString "blank")=False:=by simp only[eq_iff_iff,iff_false]; decide +kernel
@[simp] theorem NN:(Str.ofString "copy" == Str.ofString "tell")=false:=by decide +kernel
@[simp] theorem PQ:(Str.ofString "copy" = Str.ofString "tell")=False:=by simp only[eq_iff_iff,iff_false]; decide +kernel
@[simp] theorem MP:(Str.ofString "blank" == Str.ofString "read")=false:=by decide +kernel
@[simp] theorem MW:(Str.ofString "blank" = Str.ofString "read")=False:=by simp only[eq_iff_iff,iff_false]; decide +kernel
@[simp] theorem JA:(Str.ofString "blank" == Str.ofString "write")=false:=by decide +kernel
@[simp] theorem Le:(Str.ofString "blank" = Str.ofString "write")=False:=by simp only[eq_iff_iff,iff_false]; decide +kernel
@[simp] theorem MF:(Str.ofString "blank" == Str.ofString "copy")=false:=by decide +kernel
@[simp] theorem MD:(Str.ofString "blank" = Str.ofString "copy")=False:=by simp only[eq_iff_iff,iff_false]; decide +kernel
@[simp] theorem M6:(Str.ofString "blank" == Str.ofString "tell")=false:=by decide +kernel
@[simp] theorem M4:(Str.ofString "blank" = Str.ofString "tell")=False:=by simp only[eq_iff_iff,iff_false]; decide +kernel
@[simp] theorem OM:(Str.ofString "tell" == Str.ofString "read")=false:=by decide +kernel
@[simp] theorem Pw:(Str.ofString "tell" = Str.ofString "read")=False:=by simp only[eq_iff_iff,iff_false]; decide +kernel
@[simp] theorem Nc:(Str.ofString "tell" == Str.ofString "write")=false:=by decide +kernel
@[simp] theorem M3:(Str.ofString "tell" = Str.ofString "write")=False:=by simp only[eq_iff_iff,iff_false]; decide +kernel
@[simp] theorem OL:(Str.ofString "tell" == Str.ofString "copy")=false:=by decide +kernel
@[simp] theorem OO:(Str.ofString "tell" = Str.ofString "copy")=False:=by simp only[eq_iff_iff,iff_false]; decide +kernel
@[simp] theorem MG:(Str.ofString "tell" == Str.ofString "blank")=false:=by decide +kernel
@[simp] theorem MV:(Str.ofString "tell" = Str.ofString "blank")=False:=by simp only[eq_iff_iff,iff_false]; decide +kernel
@[simp] theorem QcG:((0:Nat) < sizeLine)=True:=by simp only[eq_iff_iff,iff_true]; decide
@[simp] theorem QdC:((0:Nat)≤sizeLine)=True:=by simp only[eq_iff_iff,iff_true]; decide
@[simp] theorem Qb2:((1:Nat) < sizeLine)=True:=by simp only[eq_iff_iff,iff_true]; decide
@[simp] theorem Qb3:((1:Nat)≤sizeLine)=True:=by simp only[eq_iff_iff,iff_true]; decide
@[simp] theorem QbI:((2:Nat) < sizeLine)=True:=by simp only[eq_iff_iff,iff_true]; decide
@[simp] theorem Qdm:((2:Nat)≤sizeLine)=True:=by simp only[eq_iff_iff,iff_true]; decide
@[simp] theorem Qdb:((3:Nat) < sizeLine)=True:=by simp only[eq_iff_iff,iff_true]; decide
@[simp] theorem Qc1:((3:Nat)≤sizeLine)=True:=by simp only[eq_iff_iff,iff_true]; decide
@[simp] theorem Qdo:((4:Nat) < sizeLine)=True:=by simp only[eq_iff_iff,iff_true]; decide
@[simp] theorem Qdh:((4:Nat)≤sizeLine)=True:=by simp only[eq_iff_iff,iff_true]; decide
@[simp] theorem Qdr:((5:Nat) < sizeLine)=True:=by simp only[eq_iff_iff,iff_true]; decide
@[simp] theorem Qcw:((5:Nat)≤sizeLine)=True:=by simp only[eq_iff_iff,iff_true]; decide
@[simp] theorem QcP:((6:Nat) < sizeLine)=True:=by simp only[eq_iff_iff,iff_true]; decide
@[simp] theorem Qds:((6:Nat)≤sizeLine)=True:=by simp only[eq_iff_iff,iff_true]; decide
@[simp] theorem Qcj:((7:Nat) < sizeLine)=True:=by simp only[eq_iff_iff,iff_true]; decide
@[simp] theorem QcX:((7:Nat)≤sizeLine)=True:=by simp only[eq_iff_iff,iff_true]; decide
@[simp] theorem Qcm:((8:Nat) < sizeLine)=True:=by simp only[eq_iff_iff,iff_true]; decide
@[simp] theorem Qb5:((8:Nat)≤sizeLine)=True:=by simp only[eq_iff_iff,iff_true]; decide
@[simp] theorem QbY:((9:Nat) < sizeLine)=True:=by simp only[eq_iff_iff,iff_true]; decide
@[simp] theorem Qde:((9:Nat)≤sizeLine)=True:=by simp only[eq_iff_iff,iff_true]; decide
@[simp] theorem ZV:((10:Nat) < sizeLine)=True:=by simp only[eq_iff_iff,iff_true]; decide
@[simp] theorem QaQ:((10:Nat)≤sizeLine)=True:=by simp only[eq_iff_iff,iff_true]; decide
@[simp] theorem Z0:((11:Nat) < sizeLine)=True:=by simp only[eq_iff_iff,iff_true]; decide
@[simp] theorem Qak:((11:Nat)≤sizeLine)=True:=by simp only[eq_iff_iff,iff_true]; decide
@[simp] theorem ZU:((12:Nat) < sizeLine)=True:=by simp only[eq_iff_iff,iff_true]; decide
@[simp] theorem QbA:((12:Nat)≤sizeLine)=True:=by simp only[eq_iff_iff,iff_true]; decide
@[simp] theorem QaA:((13:Nat) < sizeLine)=True:=by simp only[eq_iff_iff,iff_true]; decide
@[simp] theorem QaK:((13:Nat)≤sizeLine)=True:=by simp only[eq_iff_iff,iff_true]; decide
@[simp] theorem QaE:((14:Nat) < sizeLine)=True:=by simp only[eq_iff_iff,iff_true]; decide
@[simp] theorem Qbl:((14:Nat)≤sizeLine)=True:=by simp only[eq_iff_iff,iff_true]; decide
@[simp] theorem Z3:((15:Nat) < sizeLine)=True:=by simp only[eq_iff_iff,iff_true]; decide
@[simp] theorem QaD:((15:Nat)≤sizeLine)=True:=by simp only[eq_iff_iff,iff_true]; decide
@[simp] theorem Qbu:((16:Nat) < sizeLine)=True:=by simp only[eq_iff_iff,iff_true]; decide
@[simp] theorem Qaq:((16:Nat)≤sizeLine)=True:=by simp only[eq_iff_iff,iff_true]; decide
@[simp] theorem Qby:((17:Nat) < sizeLine)=True:=by simp only[eq_iff_iff,iff_true]; decide
@[simp] theorem Z6:((17:Nat)≤sizeLine)=True:=by simp only[eq_iff_iff,iff_true]; decide
@[simp] theorem QaL:((18:Nat) < sizeLine)=True:=by simp only[eq_iff_iff,iff_true]; decide
@[simp] theorem QaI:((18:Nat)≤sizeLine)=True:=by simp only[eq_iff_iff,iff_true]; decide
@[simp] theorem Z1:((19:Nat) < sizeLine)=True:=by simp only[eq_iff_iff,iff_true]; decide
@[simp] theorem QbB:((19:Nat)≤sizeLine)=True:=by simp only[eq_iff_iff,iff_true]; decide
@[simp] theorem Qac:((20:Nat) < sizeLine)=True:=by simp only[eq_iff_iff,iff_true]; decide
@[simp] theorem Qa0:((20:Nat)≤sizeLine)=True:=by simp only[eq_iff_iff,iff_true]; decide
@[simp] theorem Z9:((21:Nat) < sizeLine)=True:=by simp only[eq_iff_iff,iff_true]; decide
@[simp] theorem Qbh:((21:Nat)≤sizeLine)=True:=by simp only[eq_iff_iff,iff_true]; decide
@[simp] theorem Qa1:((22:Nat) < sizeLine)=True:=by simp only[eq_iff_iff,iff_true]; decide
@[simp] theorem ZW:((22:Nat)≤sizeLine)=True:=by simp only[eq_iff_iff,iff_true]; decide
@[simp] theorem Qaj:((23:Nat) < sizeLine)=True:=by simp only[eq_iff_iff,iff_true]; decide
@[simp] theorem Qav:((23:Nat)≤sizeLine)=True:=by simp only[eq_iff_iff,iff_true]; decide
@[simp] theorem Qax:((24:Nat) < sizeLine)=True:=by simp only[eq_iff_iff,iff_true]; decide
@[simp] theorem Qar:((24:Nat)≤sizeLine)=True:=by simp only[eq_iff_iff,iff_true]; decide
@[simp] theorem Qba:((25:Nat) < sizeLine)=True:=by simp only[eq_iff_iff,iff_true]; decide
@[simp] theorem QaJ:((25:Nat)≤sizeLine)=True:=by simp only[eq_iff_iff,iff_true]; decide
@[simp] theorem Qag:((26:Nat) < sizeLine)=True:=by simp only[eq_iff_iff,iff_true]; decide
@[simp] theorem Qbq:((26:Nat)≤sizeLine)=True:=by simp only[eq_iff_iff,iff_true]; decide
@[simp] theorem Qbt:((27:Nat) < sizeLine)=True:=by simp only[eq_iff_iff,iff_true]; decide
@[simp] theorem QbC:((27:Nat)≤sizeLine)=True:=by simp only[eq_iff_iff,iff_true]; decide
@[simp] theorem Qbg:((28:Nat) < sizeLine)=True:=by simp only[eq_iff_iff,iff_true]; decide
@[simp] theorem Qas:((28:Nat)≤sizeLine)=True:=by simp only[eq_iff_iff,iff_true]; decide
@[simp] theorem Qbw:((29:Nat) < sizeLine)=True:=by simp only[eq_iff_iff,iff_true]; decide
@[simp] theorem QaX:((29:Nat)≤sizeLine)=True:=by simp only[eq_iff_iff,iff_true]; decide
@[simp] theorem Qan:((30:Nat) < sizeLine)=True:=by simp only[eq_iff_iff,iff_true]; decide
@[simp] theorem Qbp:((30:Nat)≤sizeLine)=True:=by simp only[eq_iff_iff,iff_true]; decide
theorem jC {p q:P} (h1:fin dpt p=true) (h2:fin dpt q=true):bP p q=some (.bl (eqv p q)):=by simp only[bP,h1,h2,and_self,if_true]
theorem B3 {p q:P} (h1:fin dpt p=true) (h2:fin dpt q=true):lm p q=some (.bl (!eqv p q)):=by simp only[lm,h1,h2,and_self,if_true]
theorem jY {α:Type} (x:α) (xs:List α):fN (x::xs) (some 1) none=xs:=by
 simp[fN,HT.sIx]
section
variable {S:ag} {E:Xc→ag→Prop} {R:D→ag→Prop} {sl:av}
@[simp] theorem Xk {tab:AH} {i:Nat} {ma:MA}:(qZ tab i ma sl S).sx E R=match sl[i]? with
  | some (some (.p (.glo g)))=>lH (yK tab g) fun q=>(aw q.1 q.2 ma sl S).sx E R
  | _=>False:=by
 unfold qZ
 cases sl[i]? with
 | none=>simp
 | some o =>
  cases o with
  | none=>simp
  | some d =>
   cases d with
   | ref n=>simp
   | p q =>
    cases q <;> first
     | (simp; done)
     | skip
    rename_i g
    simp only[]
    cases yK tab g <;> simp
end
section
variable {S:ag} {sl:av} {E:Xc→ag→Prop} {Q:List P→ag→Prop} {eff:oF} {me:M} {own:List Nat} {t:MT}
@[simp] theorem QaO {acc:List P}:(ua eff t me own sl [] acc S).sx E Q=Q acc S:=by simp[ua]
@[simp] theorem Qa6 {q:P} {qs acc:List P}:(ua eff iY me own sl (q::qs) acc S).sx E Q=lH (eff q (dz sl own)) fun sl1=>(me sl1 S).sx IK fun d S1=>match d with
  | .p z=>acc.length < sizeLine∧(ua eff iY me own sl qs (acc++[z]) S1).sx E Q
  | .ref _=>False:=by
 simp only[ua]
 cases eff q (dz sl own) with
 | none=>simp
 | some sl1 =>
  simp only[aq,iY]
  cases me sl1 S with
  | ok d S1 =>
   cases d with
   | p z =>
    simp only[aG,jb]
   | ref n=>simp
  | exc _ _=>simp
  | no=>simp
theorem Y8 {α:Type} {l:List α} (h:l.length=1):∃ a,l=[a]:=by
 match l,h with
 | [a],_=>exact⟨a,rfl⟩
theorem XT {α:Type} {l:List α} (h:l.length=3):∃ a b c,l=[a,b,c]:=by
 match l,h with
 | [a,b,c],_=>exact⟨a,b,c,rfl⟩
theorem Vc {α:Type} {l:List α} (h:l.length=4):∃ a b c d,l=[a,b,c,d]:=by
 match l,h with
 | [a,b,c,d],_=>exact⟨a,b,c,d,rfl⟩
theorem Ym {α:Type} {l:List α} (h:l.length=5):∃ a b c d e,l=[a,b,c,d,e]:=by
 match l,h with
 | [a,b,c,d,e],_=>exact⟨a,b,c,d,e,rfl⟩
end
def cM (w:Str) (ps:List P):Bool :=
 if w = "read" then (match ps with | [a,b,c,d]=>bG a && (fS b && (bG c && eO d)) | _=>false)
 else if w = "write" then (match ps with | [a,b,c,d]=>fS a && (bG b && (eO c && la d)) | _=>false)
 else if w = "copy" then (match ps with | [a,b,c,d,e]=>iw a && (bG b && (eO c && (bG d && eO e))) | _=>false)
 else if w = "blank" then (match ps with | [a,b,c]=>iw a && (bG b && eO c) | _=>false)
 else if w = "tell" then (match ps with | [a]=>bG a | _=>false)
 else false
def cC:P→Bool
 | .tup (.str w::ps)=>cM w ps
 | _=>false
theorem sm_tup {n:Nat} {ps:List P} (h:sm n (.tup ps)=true):ps.length≤1000∧∃ m,n=m+1∧∀ p∈ps,sm m p=true:=by
 cases n with
 | zero=>simp[sm] at h
 | succ m=>simp[sm] at h; exact⟨h.1,m,rfl,h.2⟩
end Z
namespace Kw
open PySem PySem.Spec PyProof.Rows L2 Z
section
variable {S:ag} {n:Nat} {p:Z.P}
abbrev CK:AH:=[("is_name",1,bD),("is_kind",1,cP),("is_offset",1,dq),("is_value",1,dY),("is_many",1,fA)]
theorem Wm:yK CK (Str.ofString "is_name")=some (1,bD):=by kernel_rfl
theorem UX:yK CK (Str.ofString "is_kind")=some (1,cP):=by kernel_rfl
theorem WA:yK CK (Str.ofString "is_offset")=some (1,dq):=by kernel_rfl
theorem Ww:yK CK (Str.ofString "is_value")=some (1,dY):=by kernel_rfl
theorem VW:yK CK (Str.ofString "is_many")=some (1,fA):=by kernel_rfl
theorem pt1:jm t_PARTS (Str.ofString "read")=some (.tup ["is_name", "is_kind", "is_name", "is_offset"]):=by kernel_rfl
theorem yD:jm t_PARTS (Str.ofString "write")=some (.tup ["is_kind", "is_name", "is_offset", "is_value"]):=by kernel_rfl
theorem pt3:jm t_PARTS (Str.ofString "copy")=some (.tup ["is_many", "is_name", "is_offset", "is_name", "is_offset"]):=by kernel_rfl
theorem pt4:jm t_PARTS (Str.ofString "blank")=some (.tup ["is_many", "is_name", "is_offset"]):=by kernel_rfl
theorem pt5:jm t_PARTS (Str.ofString "tell")=some (.tup ["is_name"]):=by kernel_rfl
theorem pt0 {w:Str} (h1:w≠"read") (h2:w≠"write") (h3:w≠"copy") (h4:w≠"blank") (h5:w≠"tell"):jm t_PARTS w=none:=by
 simp only[jm,t_PARTS,List.find?,Option.map_eq_none_iff]
 simp[Ne.symm h1,Ne.symm h2,Ne.symm h3,Ne.symm h4,Ne.symm h5]
theorem gB (h:sm n p=true):gh [.p p] S=.ok (.p (.bl (cC p))) S:=by
 apply Rs.sx.eq
 unfold gh zL
 rw[bp]
 cases p <;> first | (cases n <;> simp[sm] at h; done) | skip
 case tup ps =>
  obtain⟨hl,m,rfl,hs⟩:=sm_tup h
  cases ps with
  | nil=>simp[List.replicate,cC]
  | cons q ps =>
   have hq:=hs q (List.mem_cons_self ..)
   have hs:∀ p∈ps,sm m p=true:=fun p hp=>hs p (List.mem_cons_of_mem _ hp)
   cases q <;> first | (cases m <;> simp[sm] at hq; done) | skip
   case str w =>
    simp[List.replicate,ef,cC,show ¬ ((ps.length:Int)+1=0) by omega]
    by_cases h1:w = "read"
    · subst h1
      by_cases hn:ps.length=4
      · obtain⟨a,b,c,d,rfl⟩:=Vc hn
        have ha:=hs a (by simp)
        have hb:=hs b (by simp)
        have hc:=hs c (by simp)
        have hd:=hs d (by simp)
        simp[pt1,Ed.p,Hy,jY,rn,eG,aO,cu,dz,Wm,UX,WA,Ww,VW,bc ha,bv ha,bo ha,bB ha,bU ha,bc hb,bv hb,bo hb,bB hb,bU hb,bc hc,bv hc,bo hc,bB hc,bU hc,bc hd,bv hd,bo hd,bB hd,bU hd,qH,fg,cM]
      · simp[pt1,Ed.p,show ¬ ((ps.length:Int)+1=5) by omega,cM]
        split
        · simp at hn
        · rfl
    by_cases h2:w = "write"
    · subst h2
      by_cases hn:ps.length=4
      · obtain⟨a,b,c,d,rfl⟩:=Vc hn
        have ha:=hs a (by simp)
        have hb:=hs b (by simp)
        have hc:=hs c (by simp)
        have hd:=hs d (by simp)
        simp[yD,Ed.p,Hy,jY,rn,eG,aO,cu,dz,Wm,UX,WA,Ww,VW,bc ha,bv ha,bo ha,bB ha,bU ha,bc hb,bv hb,bo hb,bB hb,bU hb,bc hc,bv hc,bo hc,bB hc,bU hc,bc hd,bv hd,bo hd,bB hd,bU hd,qH,fg,cM]
      · simp[yD,Ed.p,show ¬ ((ps.length:Int)+1=5) by omega,cM]
        split
        · simp at hn
        · rfl
    by_cases h3:w = "copy"
    · subst h3
      by_cases hn:ps.length=5
      · obtain⟨a,b,c,d,e,rfl⟩:=Ym hn
        have ha:=hs a (by simp)
        have hb:=hs b (by simp)
        have hc:=hs c (by simp)
        have hd:=hs d (by simp)
        have he:=hs e (by simp)
        simp[pt3,Ed.p,Hy,jY,rn,eG,aO,cu,dz,Wm,UX,WA,Ww,VW,bc ha,bv ha,bo ha,bB ha,bU ha,bc hb,bv hb,bo hb,bB hb,bU hb,bc hc,bv hc,bo hc,bB hc,bU hc,bc hd,bv hd,bo hd,bB hd,bU hd,bc he,bv he,bo he,bB he,bU he,qH,fg,cM]
      · simp[pt3,Ed.p,show ¬ ((ps.length:Int)+1=6) by omega,cM]
        split
        · simp at hn
        · rfl
    by_cases h4:w = "blank"
    · subst h4
      by_cases hn:ps.length=3
      · obtain⟨a,b,c,rfl⟩:=XT hn
        have ha:=hs a (by simp)
        have hb:=hs b (by simp)
        have hc:=hs c (by simp)
        simp[pt4,Ed.p,Hy,jY,rn,eG,aO,cu,dz,Wm,UX,WA,Ww,VW,bc ha,bv ha,bo ha,bB ha,bU ha,bc hb,bv hb,bo hb,bB hb,bU hb,bc hc,bv hc,bo hc,bB hc,bU hc,qH,fg,cM]
      · simp[pt4,Ed.p,show ¬ ((ps.length:Int)+1=4) by omega,cM]
        split
        · simp at hn
        · rfl
    by_cases h5:w = "tell"
    · subst h5
      by_cases hn:ps.length=1
      · obtain⟨a,rfl⟩:=Y8 hn
        have ha:=hs a (by simp)
        simp[pt5,Ed.p,Hy,jY,rn,eG,aO,cu,dz,Wm,UX,WA,Ww,VW,bc ha,bv ha,bo ha,bB ha,bU ha,qH,fg,cM]
      · simp[pt5,Ed.p,show ¬ ((ps.length:Int)+1=2) by omega,cM]
        split
        · simp at hn
        · rfl
    simp[pt0 h1 h2 h3 h4 h5,cM,h1,h2,h3,h4,h5]
   all_goals simp[List.replicate,cC,ef,show ¬ ((ps.length:Int)+1=0) by omega]
 all_goals simp[List.replicate,cC]
end
end Kw
namespace Z
open PySem PySem.Spec PyProof.Rows L2
theorem jE {z:Str} (h:di z=true):∀ c∈cs z,c < 0x110000:=fun c hc=>by
 unfold di PyData.strOk at h
 unfold cs at hc
 have:=Array.all_eq_true'.mp h c (by simpa using hc)
 simpa using this
theorem lT {z:Str} (h:∀ c∈cs z,c < 0x110000):di z=true:=by
 unfold di PyData.strOk
 refine Array.all_eq_true'.mpr fun c hc=>?_
 simpa using h c (by unfold cs; simpa using hc)
theorem K6 {c:Nat} (h:c < 0x110000):di ⟨#[c]⟩=true:=lT (by intro x hx; simp[cs] at hx; omega)
theorem cE (x y:Str):cs (x++y)=cs x++cs y:=by
 show (x.cps++y.cps).toList=_
 simp[cs]
theorem bL (x y:Str):(x++y).length=x.length+y.length:=by rw[← fk,cE,List.length_append,fk,fk]
theorem vm {x y:Str} (h:di x=true) (h':di y=true):di (x++y)=true:=lT fun c hc=>by
 rw[cE] at hc
 rcases List.mem_append.mp hc with hc | hc
 · exact jE h c hc
 · exact jE h' c hc
theorem AY (z:Str) (lo hi:Option Int):cs (cutS z lo hi)=fN (cs z) lo hi:=by
 unfold cs cutS fN
 rw[rC]
theorem LO {z:Str} (h:di z=true) (lo hi:Option Int):di (cutS z lo hi)=true:=lT fun c hc=>by
 rw[AY] at hc
 unfold fN at hc
 exact jE h c (List.mem_of_mem_drop (List.mem_of_mem_take hc))
theorem Hf {xs:List P}:eqv (.lst xs) (.lst [])=xs.isEmpty:=by cases xs <;> simp[eqv,eqvAll]
theorem YG:Str.ofString "abcdefghijklmnopqrstuvwxyz" = hV:=rfl
theorem Yr:Str.ofString "0123456789" = tR:=rfl
theorem lD:cs xu=cs hV++cs tR:=by decide +kernel
end Z
namespace Kw
open PySem PySem.Spec PyProof.Rows L2 Z
section
variable {S:ag} {n:Nat} {p:Z.P}
theorem Eb:di (Str.ofString "read")=true:=by decide +kernel
theorem JY:di (Str.ofString "write")=true:=by decide +kernel
theorem JZ:di (Str.ofString "copy")=true:=by decide +kernel
theorem Lr:di (Str.ofString "blank")=true:=by decide +kernel
theorem Jl:di (Str.ofString "tell")=true:=by decide +kernel
theorem aJ {t:MT} {s1 rest:MS} {b:Bool} {sl:av} {S':ag} {F:Xc→av→ag→Prop} {N:av→ag→Prop} {T:D→ag→Prop} (h:t sl S=.ok b S') (k1:b=true→(s1 sl S').sx F (fun sl S=>(rest sl S).sx F N T) T) (k0:b=false→(rest sl S').sx F N T):(ao (iq t s1 az) rest sl S).sx F N T:=by
 rw[dD,yP,h,aG]
 cases b with
 | true=>rw[if_pos rfl]; exact k1 rfl
 | false=>rw[if_neg (by decide),gW]; exact k0 rfl
theorem lK {α:Type} {x y z u:α} {l:List α}:atI (x::y::z::u::l) 3=some u:=by
 have:(3:Int) < ((l.length+1+1+1+1:Nat):Int):=by omega
 simp only[atI,ixN,List.length_cons,if_pos this]; rfl
theorem kX {α:Type} {x y z u v:α} {l:List α}:atI (x::y::z::u::v::l) 4=some v:=by
 have:(4:Int) < ((l.length+1+1+1+1+1:Nat):Int):=by omega
 simp only[atI,ixN,List.length_cons,if_pos this]; rfl
end
end Kw
namespace Z
open PySem PySem.Spec PyProof.Rows L2
structure vO (zs:List Str):Prop where
 nm:∀ z∈zs,ak z=true
 nd:zs.Nodup
 fr:∀ z,zs.head?=some z→∀ k < 15,ak (fJ z k)=true∧fJ z k∉zs
 fd:∀ z,zs.head?=some z→∀ j < 15,∀ k < 15,fJ z j=fJ z k→j=k
theorem zA {x y:Str}:Gy x y=true↔x=y:=by
 unfold Gy
 rw[beq_iff_eq]
 constructor
 · intro h
   obtain⟨⟨a⟩⟩:=x
   obtain⟨⟨b⟩⟩:=y
   cases (show a=b from h)
   rfl
 · rintro rfl; rfl
theorem pP:∀ {zs:List Str},mY zs=true→zs.Nodup
 | [],_=>List.nodup_nil
 | z::zs,h=>by
  unfold mY at h
  rw[Bool.and_eq_true] at h
  refine List.nodup_cons.mpr ⟨fun hm=>?_,pP h.2⟩
  have h1:=h.1
  rw[Bool.not_eq_true',List.any_eq_false] at h1
  exact h1 z hm (zA.mpr rfl)
theorem yY {α:Type} {f:Nat→α} {n:Nat} (h:((List.range n).map f).Nodup):∀ j < n,∀ k < n,f j=f k→j=k:=by
 intro j hj k hk e
 have key:=List.pairwise_iff_getElem.mp h
 rcases Nat.lt_trichotomy j k with hl | hl | hl
 · exact absurd (by rw[List.getElem_map,List.getElem_map,List.getElem_range,List.getElem_range]; exact e) (key j k (by simpa using hj) (by simpa using hk) hl)
 · exact hl
 · exact absurd (by rw[List.getElem_map,List.getElem_map,List.getElem_range,List.getElem_range]; exact e.symm) (key k j (by simpa using hk) (by simpa using hj) hl)
theorem uq {α:Type} {zs:List α} (h:zs.Nodup) {j k:Nat} {z:α} (hj:zs[j]?=some z) (hk:zs[k]?=some z):j=k:=by
 obtain⟨h1,e1⟩:=List.getElem?_eq_some_iff.mp hj
 obtain⟨h2,e2⟩:=List.getElem?_eq_some_iff.mp hk
 have key:=List.pairwise_iff_getElem.mp h
 rcases Nat.lt_trichotomy j k with hl | hl | hl
 · exact absurd (e1.trans e2.symm) (key j k h1 h2 hl)
 · exact hl
 · exact absurd (e2.trans e1.symm) (key k j h2 h1 hl)
theorem FL {zs:List Str} (n:Nat) (h:xl zs=true):vO (zs.take n):=by
 unfold xl at h
 rw[Bool.and_eq_true,Bool.and_eq_true] at h
 obtain⟨h1,h2,h3⟩:=h
 have key:∀ z,(zs.take n).head?=some z→(∀ k < 15,ak (fJ z k)=true∧fJ z k∉zs.take n)∧∀ j < 15,∀ k < 15,fJ z j=fJ z k→j=k:=by
  intro z hz
  cases zs with
  | nil=>simp at hz
  | cons y ys =>
   cases n with
   | zero=>simp at hz
   | succ n =>
    rw[List.take_succ_cons,List.head?_cons] at hz
    cases hz
    simp only[Bool.and_eq_true] at h3
    refine⟨fun k hk=>?_,yY (pP h3.2)⟩
    have:=List.all_eq_true.mp h3.1 k (List.mem_range.mpr hk)
    rw[Bool.and_eq_true,Bool.not_eq_true',List.any_eq_false] at this
    exact⟨this.1,fun hm=>this.2 _ (List.mem_of_mem_take hm) (zA.mpr rfl)⟩
 exact⟨fun z hz=>List.all_eq_true.mp h1 z (List.mem_of_mem_take hz),(pP h2).sublist (List.take_sublist _ _),fun z hz=>(key z hz).1,fun z hz=>(key z hz).2⟩
theorem CY {z:Str} {i b m:Nat} (h:m≤6):jg z i b m=(jg z i b 6).take m:=by
 unfold jg
 rw[← List.map_take,List.take_range,Nat.min_eq_left h]
theorem Ie {z:Str} {i b m:Nat} (hz:z∈DA) (hi:i≤z.length) (hb:b < 26) (h:m≤6):vO (jg z i b m):=by
 rw[CY h]
 exact FL m (HI z hz i (List.mem_range.mpr (by omega)) b (List.mem_range.mpr hb))
theorem qY {z:Str} (h:ak z=true):∀ c∈cs z,c∈cs xu:=by
 unfold ak Cy at h
 simp only[Bool.and_eq_true] at h
 intro c hc
 exact of_decide_eq_true (List.all_eq_true.mp h.2.2 _ hc)
theorem ou:∀ c∈cs xu,c < 0x110000:=by decide +kernel
theorem ff {z:Str} (h:ak z=true):di z=true:=lT fun c hc=>ou c (qY h c hc)
theorem dH {z:Str} (h:ak z=true):1≤z.length∧z.length≤8:=by
 unfold ak at h
 simp only[Bool.and_eq_true,decide_eq_true_eq] at h
 omega
theorem HL:∀ z∈DA,z.length≤7:=by decide +kernel
theorem Ir:hV.length=26:=by decide +kernel
theorem Jq {k:Int} (h0:0≤k) (h:k < 26):atI (cs hV) k=some (CZ k.toNat):=by
 have hl:(cs hV).length=26:=by rw[fk]; exact Ir
 have e:(cs hV)[k.toNat]?=some (cs hV)[k.toNat]:=List.getElem?_eq_getElem (by omega)
 simp only[atI,ixN,if_pos h0,hl,if_pos (show k < ((26:Nat):Int) from h),Option.bind_some,CZ,e,Option.getD_some]
theorem nN {x y:Str} (h:x.length+y.length≤sizeLine):ck (.str x) (.str y)=some (.str (x++y)):=by simp only[ck,if_pos h]
theorem aR {n:Nat} (h:n≤1000):n≤sizeLine:=Nat.le_trans h (by decide)
theorem Dl {n:Nat} (h:n≤1000):n < sizeLine:=Nat.lt_of_le_of_lt h (by decide)
theorem wq {c:Nat}:Str.length ⟨#[c]⟩=1:=rfl
theorem KI {F:Xc→av→ag→Prop} {N:av→ag→Prop} {T:D→ag→Prop} {eff:oF} {mb:MS} {its:List P} (J:Nat→av→ag→Prop) (step:∀ i q sl S,its[i]?=some q→J i sl S→∃ sl1,eff q sl=some sl1∧(mb sl1 S).sx F (J (i+1)) T) (last:∀ sl S,J its.length sl S→N sl S) {sl:av} {S:ag} (h0:J 0 sl S):(lr eff mb its sl S).sx F N T:=by
 refine AX (fun qs sl S=>∃ i,qs=its.drop i∧i≤its.length∧J i sl S) ?_ ?_ _ _ _ ⟨0,rfl,Nat.zero_le _,h0⟩
 · rintro q qs sl S ⟨i,e,hi,hJ⟩
   have hq:its[i]?=some q:=by
    have:=congrArg (·[0]?) e
    simpa using this.symm
   obtain⟨kO,_⟩:=List.getElem?_eq_some_iff.mp hq
   obtain⟨sl1,e1,e2⟩:=step i q sl S hq hJ
   refine⟨sl1,e1,e2.imp (fun sl S h=>⟨i+1,?_,kO,h⟩) fun _ _ h=>h⟩
   have:=congrArg List.tail e
   simpa using this
 · rintro sl S ⟨i,e,hi,hJ⟩
   have:i=its.length:=by
    have:=congrArg List.length e
    simp at this
    omega
   subst this
   exact last sl S hJ
theorem NW {lo:Int} {n i:Nat} {q:P} (h:(Ss lo n)[i]?=some q):i < n∧q=.int (lo+(i:Int)):=by
 unfold Ss at h
 rw[List.getElem?_map] at h
 cases hr:(List.range n)[i]? with
 | none=>rw[hr] at h; cases h
 | some a =>
  rw[hr] at h
  obtain⟨h1,h2⟩:=List.getElem?_eq_some_iff.mp hr
  simp at h1 h2
  subst h2
  cases h
  exact⟨h1,rfl⟩
theorem JX {F:Xc→av→ag→Prop} {N:av→ag→Prop} {T:D→ag→Prop} {eff:oF} {mb:MS} {lo:Int} {n:Nat} (J:Nat→av→ag→Prop) (step:∀ i sl S,i < n→J i sl S→∃ sl1,eff (.int (lo+(i:Int))) sl=some sl1∧(mb sl1 S).sx F (J (i+1)) T) (last:∀ sl S,J n sl S→N sl S) {sl:av} {S:ag} (h0:J 0 sl S):(lr eff mb (Ss lo n) sl S).sx F N T:=by
 refine KI J (fun i q sl S hq hJ=>?_) (fun sl S h=>last sl S (by simpa using h)) h0
 obtain⟨hi,rfl⟩:=NW hq
 exact step i sl S hi hJ
theorem xK {α β γ:Type} {f:α→Option β} {g:γ→α} {h:γ→β} (e:∀ x,f (g x)=some (h x)):∀ xs:List γ,nJ f (xs.map g)=some (xs.map h)
 | []=>rfl
 | x::xs=>by simp only[List.map_cons,nJ,e,xK e xs]
theorem jT {F:Xc→av→ag→Prop} {N:av→ag→Prop} {T:D→ag→Prop} {eff:oF} {mb:MS} {its:List P} (J:Nat→av→ag→Prop) (step:∀ i q sl S,its[i]?=some q→J i sl S→∃ sl1,eff q sl=some sl1∧∀ R:av→ag→Prop,(∀ sl S,J (i+1) sl S→R sl S)→(mb sl1 S).sx F R T) (last:∀ sl S,J its.length sl S→N sl S) {sl:av} {S:ag} (h0:J 0 sl S):(lr eff mb its sl S).sx F N T :=
 KI J (fun i q sl S hq hJ=>let ⟨sl1,e,h⟩:=step i q sl S hq hJ; ⟨sl1,e,h _ fun _ _ h=>h⟩) last h0
theorem A5 {F:Xc→av→ag→Prop} {N:av→ag→Prop} {T:D→ag→Prop} {eff:oF} {mb:MS} {lo:Int} {n:Nat} (J:Nat→av→ag→Prop) (step:∀ i sl S,i < n→J i sl S→∃ sl1,eff (.int (lo+(i:Int))) sl=some sl1∧∀ R:av→ag→Prop,(∀ sl S,J (i+1) sl S→R sl S)→(mb sl1 S).sx F R T) (last:∀ sl S,J n sl S→N sl S) {sl:av} {S:ag} (h0:J 0 sl S):(lr eff mb (Ss lo n) sl S).sx F N T :=
 JX J (fun i sl S hi hJ=>let ⟨sl1,e,h⟩:=step i sl S hi hJ; ⟨sl1,e,h _ fun _ _ h=>h⟩) last h0
theorem nI {F:Xc→av→ag→Prop} {N:av→ag→Prop} {T:D→ag→Prop} {sl:av} {S:ag} {i v:Nat} {ds0:List D} {me:M} {m2:MS} (P:D→ag→Prop) (hi:sl[i]?=some (some (.ref v))) (h0:S[v]?=some (.lst ds0)) (h:∀ R:D→ag→Prop,(∀ d S1,P d S1→R d S1)→(me sl S).sx (yJ F sl) R)
  (k:∀ d S1,P d S1→∃ ds,S1[v]?=some (.lst ds)∧ds.length≤1000∧(m2 sl (S1.set v (.lst (ds++[d])))).sx F N T):(ao (ik (D9 nL (eV i) (aC me aN))) m2 sl S).sx F N T:=by
 simp only[dD,Km,Wf,qz,hi,h0,gy,mv]
 refine h _ fun d S1 hP=>?_
 obtain⟨ds,e1,e2,e3⟩:=k d S1 hP
 simp only[e1,nL,if_pos (Dl e2),aq]
 exact e3
def aL (vs:List Str):eQ:=.lst (vs.map fun z=>.p (.str z))
theorem cO {S:ag} {c:eQ}:(S++[c])[S.length]?=some c:=by simp
theorem jI {S:ag} {c c':eQ}:(S++[c]).set S.length c'=S++[c']:=by simp
end Z
namespace Kw
open PySem PySem.Spec PyProof.Rows L2 Z
section
variable {S L:ag} {n:Nat} {many:Int} {E:Xc→ag→Prop} {Q:D→ag→Prop}
theorem Iv {m:Nat} (hb:zU S n) (hp:fq S) (hm:m≤6) (k:∀ zs S',zs.length=m→vO zs→jl n S S'→Q (.p (.lst (zs.map .str))) S'):(nK [.ref n, .p (.int (m:Int))] S).sx E Q:=by
 unfold nK GV
 refine Be fun F N T _ _ hT=>?_
 refine cY (fun d S1=>∃ z∈DA,d=.p (.str z)∧jl n S S1) ?_ ?_
 · intro R hR
   simp[List.replicate]
   refine bA hb (by decide) (by decide) fun d S' h0 h1 u=>?_
   obtain⟨z,e1,e2⟩:=KP (xs:=DA) h0 h1
   obtain rfl | rfl | rfl | rfl:d=0∨d=1∨d=2∨d=3:=by omega
   all_goals (cases e1; simp[ef,lK]; exact hR _ _ ⟨_,e2,rfl,u⟩)
 rintro _ S1 ⟨z,hz,rfl,u1⟩
 have hz7:=HL z hz
 have hzl:z.length≤sizeLine:=aR (by omega)
 refine bZ (fun sl S2=>∃ (i b:Nat) (S1:ag),i≤z.length∧b < 26∧S2=S1++[aL []]∧jl n S S1∧sl=[some (.ref n),some (.p (.int (m:Int))),some (.p (.str z)),some (.p (.int (i:Int))),some (.p (.int (b:Int))),some (.ref S1.length),none,none]) ?_ ?_
 · intro R hR
   simp[List.replicate,BP hzl]
   refine bA (u1.bag hb) (by omega) (by omega) fun i S2 i0 i1 u2=>?_
   try simp
   refine bA (u2.bag (u1.bag hb)) (by omega) (by omega) fun b S3 b0 b1 u3=>?_
   try simp
   obtain⟨i',rfl⟩:=Int.eq_ofNat_of_zero_le i0
   obtain⟨b',rfl⟩:=Int.eq_ofNat_of_zero_le b0
   exact hR _ _ ⟨i',b',S3,by omega,by omega,rfl,u1.trans (u2.trans u3),rfl⟩
 rintro sl S2 ⟨i,b,S2,hi,hb26,rfl,u2,rfl⟩
 rw[dD]
 simp
 refine⟨by omega,?_⟩
 refine JX (fun j sl S'=>∃ (x y:Option D),S'=S2++[aL (jg z i b j)]∧sl=[some (.ref n),some (.p (.int (m:Int))),some (.p (.str z)),some (.p (.int (i:Int))),some (.p (.int (b:Int))),some (.ref S2.length),x,y]) ?_ ?_ ⟨none,none,rfl,rfl⟩
 · rintro j sl S' hj ⟨x,y,rfl,rfl⟩
   refine⟨_,rfl,?_⟩
   have e26:(b+5 * (j:Int)) % 26=((b+5 * j) % 26:Nat):=by omega
   have Mv:=vU z none (some (i:Int))
   have En:=vU z (some (i:Int)) none
   refine cY (fun d S1=>S1=S2++[aL (jg z i b j)]∧d=.p (ch (CZ ((b+5 * j) % 26)))) ?_ ?_
   · intro R hR
     simp[qc (show -(2 ^ 64) < (j:Int)∧(j:Int) < 2 ^ 64 by omega),lI,YG,zX (z:=hV) (by decide)]
     rw[e26,Jq (by omega) (by omega)]
     exact hR _ _ ⟨rfl,rfl⟩
   rintro _ _ ⟨rfl,rfl⟩
   simp[GN hzl,ch,aL]
   rw[nN (aR (by rw[wq]; omega)),aq,nN (aR (by rw[bL,wq]; omega)),aq]
   have e:nL ((jg z i b j).map fun z=>D.p (.str z)) [.p (.str (E6 z i b j))]=some (.p .non,(jg z i b (j+1)).map fun z=>D.p (.str z)):=by
    have:(jg z i b j).length=j:=by simp[jg]
    simp only[nL,List.length_map,this,if_pos (Dl (show j≤1000 by omega))]
    simp[jg,List.range_succ]
   rw[show ((cutS z none (some (i:Int))++⟨#[CZ ((b+5 * j) % 26)]⟩)++cutS z (some (i:Int)) none)=E6 z i b j from rfl,e]
   simp
 · rintro sl S' ⟨x,y,rfl,rfl⟩
   simp
   refine hT _ S2 _ (.lst ((jg z i b m).map .str)) u2.len (u2.pure hp) ?_ (k _ _ (by simp[jg]) (Ie hz hi hb26 hm) u2)
   simp[qK,u2.len,aL]
   rw[xK (h:=P.str) (fun x=>by simp[qK])]
end
end Kw
namespace Z
open PySem PySem.Spec PyProof.Rows L2
def Ja (k:Str):Int:=(gj k:Int) - 48
theorem jk {z:Str} (h:aH z=true):2≤z.length∧z.length≤7:=by
 unfold aH at h
 simp only[Bool.and_eq_true,decide_eq_true_eq] at h
 omega
theorem fM {z:Str} (h:aH z=true):1≤Ja z∧Ja z≤4:=by
 unfold aH at h
 simp only[Bool.and_eq_true,decide_eq_true_eq] at h
 exact h.2.2.2
theorem L4 {z:Str} (h:aH z=true):mem (gj z) tR=true:=by
 unfold aH at h
 simp only[Bool.and_eq_true,decide_eq_true_eq] at h
 exact h.2.2.1
theorem rW {z:Str} (h:aH z=true):ef (.str z) (.int (-1))=some (ch (gj z)):=by
 have:=jk h
 rw[zX (aR (by omega)),DF z (by omega)]; rfl
theorem oW {z:Str} (h:aH z=true):kE [ch (gj z)]=some (.int (Ja z)):=G3 (L4 h)
theorem uc {α β:Type} {f:α→β} {xs:List α} {k:Int} (h0:0≤k) (h:k < (xs.length:Int)):∃ v∈xs,atI (xs.map f) k=some (f v):=by
 have hl:k.toNat < xs.length:=by omega
 refine⟨xs[k.toNat],List.getElem_mem hl,?_⟩
 simp only[atI,ixN,if_pos h0,List.length_map,if_pos h,Option.bind_some]
 rw[List.getElem?_map,List.getElem?_eq_getElem hl]
 rfl
def OD:List Str:=["int", "real", "i", "abcdef"]
theorem Lu:∀ z∈OD,z.length≤6:=by decide +kernel
def Lg (z:Str):List Str:=[z++Str.ofString "4",z++Str.ofString "2",Str.ofString "half2",Str.ofString "byte1",Str.ofString "odd3",Str.ofString "word4",z++Str.ofString "1",Str.ofString "real4"]
theorem IJ:∀ z∈OD,∀ y∈Lg z,aH y=true:=by decide +kernel
inductive aE where
 | read (x k n:Str) (o:Int)
 | write (k n:Str) (o:Int) (v:P)
 | copy (m:Int) (n:Str) (o:Int) (n':Str) (o':Int)
 | blank (m:Int) (n:Str) (o:Int)
 | tell (x:Str)
def aE.p:aE→P
 | .read x k n o=>.tup [.str "read", .str x, .str k, .str n, .int o]
 | .write k n o v=>.tup [.str "write", .str k, .str n, .int o,v]
 | .copy m n o n' o'=>.tup [.str "copy", .int m, .str n, .int o, .str n', .int o']
 | .blank m n o=>.tup [.str "blank", .int m, .str n, .int o]
 | .tell x=>.tup [.str "tell", .str x]
def aE.ok (names vals:List Str):aE→Prop
 | .read x k n o=>ak x=true∧x∉names∧x∉vals∧aH k=true∧n∈names∧0≤o∧o+Ja k≤8
 | .write k n o v=>aH k=true∧n∈names∧0≤o∧o+Ja k≤8∧((∃ i,v=.int i∧nW i < 10 ^ 40)∨∃ x∈vals,v=.str x)
 | .copy m n o n' o'=>1≤m∧n∈names∧0≤o∧o+m≤8∧n'∈names∧0≤o'∧o'+m≤8
 | .blank m n o=>1≤m∧n∈names∧0≤o∧o+m≤8
 | .tell x=>x∈vals
def aE.made:aE→List Str
 | .read x _ _ _=>[x]
 | _=>[]
def eN (names:List Str):List Str→List aE→Prop
 | _,[]=>True
 | vals,s::ss=>s.ok names vals∧eN names (vals++s.made) ss
def aT:List aE→List Str
 | []=>[]
 | s::ss=>s.made++aT ss
theorem rN {names:List Str} {s:aE}:∀ {vals:List Str} {ss:List aE},eN names vals ss→s.ok names (vals++aT ss)→eN names vals (ss++[s])
 | vals,[],_,h=>⟨by simpa [aT] using h,trivial⟩
 | vals,t::ss,h,h'=>⟨h.1,rN h.2 (by simpa [aT,List.append_assoc] using h')⟩
theorem gq {s:aE}:∀ {ss:List aE},aT (ss++[s])=aT ss++s.made
 | []=>by simp[aT]
 | t::ss=>by simp[aT,gq (ss:=ss)]
structure Txt where
 places:List (Str×Str)
 ptrs:List Str
 steps:List aE
def cN (q:Str×Str):P:=.tup [.str q.1, .str q.2]
def Txt.names (t:Txt):List Str:=t.places.map (·.1)++t.ptrs
def Txt.pl (t:Txt):P:=.tup (t.places.map cN)
def Txt.pt (t:Txt):P:=.tup (t.ptrs.map .str)
def Txt.st (t:Txt):P:=.tup (t.steps.map aE.p)
structure Txt.ok (t:Txt):Prop where
 pl:t.places.length≤2
 pt:t.ptrs.length≤3
 nl:t.names.length≤4
 nm:∀ z∈t.names,ak z=true
 nd:t.names.Nodup
 kd:∀ q∈t.places,aH q.2=true
 sl:t.steps.length≤12
 st:eN t.names [] t.steps
def iO (zs:List Str):Int:=if (zs.length:Int) < 3 then 8 else 4
theorem GB (zs:List Str):4≤iO zs∧iO zs≤8:=by unfold iO; split <;> omega
def yT (q:Str×Int):D:=.p (.tup [.str q.1, .int q.2])
def lg (hs:List (Str×Str×Int)):eQ:=.dic false (hs.map fun q=>.str q.1) (hs.map fun q=>yT q.2)
theorem Mj {hs:List (Str×Str×Int)} {z:Str} (h:z∈hs.map (·.1)):∃ q,(∃ z',(z',q)∈hs)∧fX (hs.map fun q=>P.str q.1) (hs.map fun q=>yT q.2) (.str z)=some (yT q):=by
 induction hs with
 | nil=>simp at h
 | cons r hs ih =>
  simp only[List.map_cons,fX]
  by_cases e:r.1=z
  · subst e
    exact⟨r.2,⟨r.1,List.mem_cons_self ..⟩,by rw[if_pos rfl]⟩
  · have:¬ (P.str r.1=P.str z):=fun h=>e (by cases h; rfl)
    rw[if_neg this]
    obtain⟨q,⟨z',h1⟩,h2⟩:=ih (by
     rcases List.mem_cons.mp h with h | h
     · exact absurd h.symm e
     · exact h)
    exact⟨q,⟨z',List.mem_cons_of_mem _ h1⟩,h2⟩
end Z
namespace Kw
open PySem PySem.Spec PyProof.Rows L2 Z
section
variable {S L:ag} {n:Nat} {many:Int} {E:Xc→ag→Prop} {Q:D→ag→Prop}
theorem Eh {m:Nat} {S1 S2:ag} {d:D} {z:Str} {F:Xc→av→ag→Prop} {N:av→ag→Prop} (hb:zU S n) (hm:m≤100) (u1:jl n S S1) (hd:S1=S2∧∃ l8:List Str,(∀ y∈l8,aH y=true)∧l8.length=8∧d=.p (.lst (l8.map .str))) (k:∀ (ks:List Str) S',ks.length=m→(∀ z∈ks,aH z=true)→jl n S S'→Q (.p (.lst (ks.map .str))) S') :
  (ao (be (wH (PM (eV 1)) (bh 4) iY (bV (eV 3) (aw 2 bH (aC (eV 0) (aC (eK (.int 8)) (aN))))) [4])) az [some (.ref n),some (.p (.int (m:Int))),some (.p (.str z)),some d,none] S2).sx F N Q:=by
 obtain⟨h1,l8,h8,Zb,h2⟩:=hd
 subst h1
 subst h2
 simp[List.replicate]
 refine⟨by omega,?_⟩
 refine Qj (fun its acc S'=>∃ ks:List Str,acc=ks.map .str∧ks.length+its.length=m∧(∀ z∈ks,aH z=true)∧jl n S S') ?_ ?_ _ _ _ ⟨[],rfl,by simp,by simp,u1⟩
 · rintro q qs acc S' ⟨ks,rfl,hl,hk,u⟩
   simp at hl
   have hlen:(ks.map P.str).length < sizeLine:=by rw[List.length_map]; exact Dl (by omega)
   refine⟨hlen,_,rfl,?_⟩
   simp only[dz,Cg,qz,kS,gy,Ek,mv,List.set_cons_succ,List.set_cons_zero,List.getElem?_cons_succ,List.getElem?_cons_zero,List.length_cons,List.length_nil,true_and]
   refine bA (u.bag hb) (by decide) (by decide) fun d S' h0 h1 u'=>?_
   obtain⟨v,hv,e⟩:=uc (f:=P.str) (xs:=l8) h0 (by omega)
   rw[Cr]
   simp only[ef,e,aq]
   exact⟨_,rfl,ks++[v],by simp,by simp; omega,by
    intro z hz
    rcases List.mem_append.mp hz with hz | hz
    · exact hk z hz
    · simp at hz; subst hz; exact h8 _ hv,u.trans u'⟩
 · rintro acc S' ⟨ks,rfl,hl,hk,u⟩
   exact k ks S' (by simpa using hl) hk u
theorem Ip {m:Nat} (hb:zU S n) (hm:m≤100) (k:∀ (ks:List Str) S',ks.length=m→(∀ z∈ks,aH z=true)→jl n S S'→Q (.p (.lst (ks.map .str))) S'):(nr [.ref n, .p (.int (m:Int))] S).sx E Q:=by
 unfold nr G5
 refine wm fun F N _ _=>?_
 refine cY (fun d S1=>∃ z∈OD,d=.p (.str z)∧jl n S S1) ?_ ?_
 · intro R hR
   simp[List.replicate]
   refine bA hb (by decide) (by decide) fun d S' h0 h1 u=>?_
   obtain⟨z,e1,e2⟩:=KP (xs:=OD) h0 h1
   obtain rfl | rfl | rfl | rfl:d=0∨d=1∨d=2∨d=3:=by omega
   all_goals (cases e1; simp[ef,lK]; exact hR _ _ ⟨_,e2,rfl,u⟩)
 rintro _ S1 ⟨z,hz,rfl,u1⟩
 have hzl:z.length≤6:=Lu z hz
 have l4:Str.length (Str.ofString "4")=1:=by decide +kernel
 have l2:Str.length (Str.ofString "2")=1:=by decide +kernel
 have l1:Str.length (Str.ofString "1")=1:=by decide +kernel
 have h8:∀ y∈Lg z,aH y=true:=IJ z hz
 refine cY (fun d S2=>S1=S2∧∃ l8:List Str,(∀ y∈l8,aH y=true)∧l8.length=8∧d=.p (.lst (l8.map .str))) ?_ ?_
 · intro R hR
   simp only[Qt,gy,SJ,Ek,qz,jU,mv,eA,aq,List.replicate,YS,List.map_cons,List.map_nil,List.cons_append,List.nil_append,List.length_cons,List.length_nil,Nat.reduceSub,Nat.reduceAdd,List.set_cons_succ,List.set_cons_zero,List.getElem?_cons_succ,List.getElem?_cons_zero]
   rw[nN (aR (by omega)),aq,nN (aR (by omega)),aq,nN (aR (by omega)),aq]
   simp only[EG,IC,Option.map_some,aq]
   exact⟨(show (8:Nat)≤sizeLine by decide),hR _ _ ⟨rfl,Lg z,h8,rfl,rfl⟩⟩
 intro d S2 hd
 exact Eh hb hm u1 hd k
theorem Hg {zs kds:List Str} {hs:List (Str×Str×Int)} {h:Nat} (hb:zU S n) (hh:S[h]?=some (lg hs)) (fe:h≠n) (hzs:zs≠[]) (Y7:zs.length≤100) (BC:∀ z∈zs,z∈hs.map (·.1)) (hok:∀ q∈hs,aH q.2.1=true∧0≤q.2.2)
  (Xi:kds≠[]) (Xu:kds.length≤100) (hkd:∀ z∈kds,aH z=true)
  (k:∀ kd z o S',aH kd=true→z∈zs→0≤o→o+Ja kd≤iO zs→jl n S S'→Q (.p (.tup [.str kd, .str z, .int o])) S') :
  (vh [.ref n, .p (.lst (zs.map .str)), .ref h, .p (.lst (kds.map .str))] S).sx E Q:=by
 unfold vh P9
 refine wm fun F N _ _=>?_
 have hzp:0 < zs.length:=List.length_pos_iff.mpr hzs
 have hkp:0 < kds.length:=List.length_pos_iff.mpr Xi
 have Vj:=GB zs
 refine bZ (fun sl S1=>∃ z∈zs,jl n S S1∧sl=[some (.ref n),some (.p (.lst (zs.map .str))),some (.ref h),some (.p (.lst (kds.map .str))),some (.p (.str z)),some (.p (.int (iO zs))),none,none]) ?_ ?_
 · intro R hR
   simp[List.replicate]
   refine bA hb (by omega) (by omega) fun d S1 h0 h1 u=>?_
   obtain⟨v,hv,e⟩:=uc (f:=P.str) (xs:=zs) h0 h1
   simp[ef,e]
   by_cases hc:(zs.length:Int) < 3
   · simp[hc]; exact hR _ _ ⟨v,hv,u,by unfold iO; rw[if_pos hc]⟩
   · simp[hc]; exact hR _ _ ⟨v,hv,u,by unfold iO; rw[if_neg hc]⟩
 rintro sl S1 ⟨z,hz,u1,rfl⟩
 obtain⟨⟨hk,ho⟩,⟨z',hm⟩,V9⟩:=Mj (BC z hz)
 obtain⟨hki,ho0⟩:=hok _ hm
 refine bZ (fun sl S2=>S1=S2∧sl=[some (.ref n),some (.p (.lst (zs.map .str))),some (.ref h),some (.p (.lst (kds.map .str))),some (.p (.str z)),some (.p (.int (iO zs))),some (.p (.str hk)),some (.p (.int ho))]) ?_ ?_
 · intro R hR
   simp[JQ ((u1.get fe).trans hh),jG,Z.Ac]
   rw[V9]
   simp[yT,eG,aO,cu]
   exact hR _ _ ⟨rfl,rfl⟩
 rintro _ _ ⟨rfl,rfl⟩
 refine bZ (fun sl S2=>∃ (kd:Str) (o:Int),aH kd=true∧0≤o∧jl n S S2∧sl=[some (.ref n),some (.p (.lst (zs.map .str))),some (.ref h),some (.p (.lst (kds.map .str))),some (.p (.str z)),some (.p (.int (iO zs))),some (.p (.str kd)),some (.p (.int o))]) ?_ ?_
 · intro R hR
   simp
   refine bA (u1.bag hb) (by omega) (by omega) fun d S2 h0 h1 u2=>?_
   simp
   split
   · refine bA (u2.bag (u1.bag hb)) (by omega) (by omega) fun d S3 h0 h1 u3=>?_
     obtain⟨v,hv,e⟩:=uc (f:=P.str) (xs:=kds) h0 h1
     have W3:=hkd v hv
     have Ph:=fM W3
     simp[ef,e]
     have e1:=rW W3
     simp only[ef] at e1
     simp[e1,oW W3]
     refine bA (u3.bag (u2.bag (u1.bag hb))) (by omega) (by omega) fun d S4 h0 h1 u4=>?_
     exact hR _ _ ⟨v,d,W3,h0,u1.trans (u2.trans (u3.trans u4)),rfl⟩
   · exact hR _ _ ⟨hk,ho,hki,ho0,u1.trans u2,rfl⟩
 rintro _ S2 ⟨kd,o,hkd',ho',u2,rfl⟩
 have hsz:=fM hkd'
 simp[rW hkd',oW hkd']
 refine k kd z _ S2 hkd' hz ?_ ?_ u2
 · split <;> omega
 · split <;> omega
end
end Kw
namespace Z
open PySem PySem.Spec PyProof.Rows L2
theorem tok {t:MT} {sl:av} {S:ag} {b:Bool} (h:(t sl S).sx IK fun b' S'=>b'=b∧S'=S):t sl S=.ok b S:=by
 obtain⟨a,S',e,rfl,rfl⟩:=h.ok
 exact e
theorem yo:∀ vs:List Str,cR (vs.map fun z=>D.p (.str z))=some (vs.map .str)
 | []=>rfl
 | v::vs=>by simp only[List.map_cons,cR,yo vs,Option.map_some]
theorem mS {S:ag} {v:Nat} {vs:List Str} (h:S[v]?=some (aL vs)):view S (.ref v)=some (.lst (vs.map .str)):=by
 simp only[view,h,aL,lM,yo,Option.map_some]
theorem wW {vs:List Str} (h:∀ z∈vs,ak z=true):fin dpt (.lst (vs.map .str))=true:=by
 show (vs.map P.str).all (fin 23)=true
 refine List.all_eq_true.mpr fun d hd=>?_
 obtain⟨c,hc,rfl⟩:=List.mem_map.mp hd
 exact ff (h c hc)
end Z
namespace Kw
open PySem PySem.Spec PyProof.Rows L2 Z
section
variable {S L:ag} {n:Nat} {many:Int} {E:Xc→ag→Prop} {Q:D→ag→Prop}
theorem Lq {zs kds vs:List Str} {hs:List (Str×Str×Int)} {h v:Nat} {fr:Str} (hb:zU S n) (hh:S[h]?=some (lg hs)) (fe:h≠n) (hzs:zs≠[]) (Y7:zs.length≤100) (BC:∀ z∈zs,z∈hs.map (·.1)) (hok:∀ q∈hs,aH q.2.1=true∧0≤q.2.2)
  (Xi:kds≠[]) (Xu:kds.length≤100) (hkd:∀ z∈kds,aH z=true) (hv:S[v]?=some (aL vs)) (Td:v≠n) (hv1:vs.length≤100) (Ph:∀ z∈vs,ak z=true) (hf:ak fr=true) (hf1:fr∉zs) (hf2:fr∉vs)
  (k:∀ (s:aE) S',s.ok zs vs→(s.made=[]∨s.made=[fr])→jl n S S'→Q (.p s.p) S') :
  (rj [.ref n, .p (.lst (zs.map .str)), .ref h, .p (.lst (kds.map .str)), .ref v, .p (.str fr)] S).sx E Q:=by
 unfold rj JL
 refine wm fun F N _ _=>?_
 have Vj:=GB zs
 refine bZ (fun sl S1=>∃ way:Int,jl n S S1∧sl=[some (.ref n),some (.p (.lst (zs.map .str))),some (.ref h),some (.p (.lst (kds.map .str))),some (.ref v),some (.p (.str fr)),some (.p (.int way)),some (.p (.int (iO zs))),none,none,none,none,none,none,none,none]) ?_ ?_
 · intro R hR
   simp[List.replicate]
   refine bA hb (by omega) (by omega) fun d S1 h0 h1 u=>?_
   by_cases hc:(zs.length:Int) < 3
   · simp[hc]; exact hR _ _ ⟨_,u,by unfold iO; rw[if_pos hc]⟩
   · simp[hc]; exact hR _ _ ⟨_,u,by unfold iO; rw[if_neg hc]⟩
 rintro sl S1 ⟨way,u1,rfl⟩
 refine bZ (fun sl S2=>∃ (kd z:Str) (o:Int),aH kd=true∧z∈zs∧0≤o∧o+Ja kd≤iO zs∧jl n S S2∧sl=[some (.ref n),some (.p (.lst (zs.map .str))),some (.ref h),some (.p (.lst (kds.map .str))),some (.ref v),some (.p (.str fr)),some (.p (.int way)),some (.p (.int (iO zs))),some (.p (.str kd)),some (.p (.str z)),some (.p (.int o)),none,none,none,none,none]) ?_ ?_
 · intro R hR
   simp
   refine Hg (u1.bag hb) ((u1.get fe).trans hh) fe hzs Y7 BC hok Xi Xu hkd fun kd z o S2 a1 a2 a3 a4 u2=>?_
   simp[eG,aO,cu]
   exact hR _ _ ⟨_,_,_,a1,a2,a3,a4,u1.trans u2,rfl⟩
 rintro sl S2 ⟨kd,z,o,hk,hz,ho,hos,u2,rfl⟩
 have hsz:=fM hk
 refine aJ (b:=decide (way < 6)) (S':=S2) (tok (by simp)) (fun hw=>?_) (fun hw=>?_)
 · simp
   exact k (.read fr kd z o) S2 ⟨hf,hf1,hf2,hk,hz,ho,by omega⟩ (.inr rfl) u2
 have hv2:S2[v]?=some (aL vs):=(u2.get Td).trans hv
 refine aJ (b:=decide (way < 11) || (way == 15 && vs.isEmpty)) (S':=S2) (tok (by
  simp[mS hv2,jC (wW Ph) (show fin dpt (.lst [])=true from rfl),Hf]
  by_cases h1:way < 11
  · simp[h1]
  · by_cases h2:way=15
    · simp[h2]
    · simp[h1,h2]; omega)) (fun hw=>?_) (fun hw=>?_)
 · refine bZ (fun sl S3=>∃ (i:Int),nW i < 10 ^ 40∧jl n S S3∧sl=[some (.ref n),some (.p (.lst (zs.map .str))),some (.ref h),some (.p (.lst (kds.map .str))),some (.ref v),some (.p (.str fr)),some (.p (.int way)),some (.p (.int (iO zs))),some (.p (.str kd)),some (.p (.str z)),some (.p (.int o)),some (.p (.int i)),none,none,none,none]) ?_ ?_
   · intro R hR
     simp
     refine bA (u2.bag hb) (by omega) (by omega) fun d1 S3 a0 a1 u3=>?_
     simp[wa]
     refine bA (u3.bag (u2.bag hb)) (by omega) (by omega) fun d2 S4 b0 b1 u4=>?_
     simp
     refine bA (u4.bag (u3.bag (u2.bag hb))) (by omega) (by omega) fun d3 S5 c0 c1 u5=>?_
     simp[BG]
     have:d3 / 7=0∨d3 / 7=1:=by omega
     rcases this with e | e
     · simp[e,ef]
       exact hR _ _ ⟨_,by unfold nW; split <;> omega,u2.trans (u3.trans (u4.trans u5)),rfl⟩
     · simp[e,ef]
       exact hR _ _ ⟨_,by unfold nW; split <;> omega,u2.trans (u3.trans (u4.trans u5)),rfl⟩
   rintro sl S3 ⟨i,hi,u3,rfl⟩
   have hv3:S3[v]?=some (aL vs):=(u3.get Td).trans hv
   refine bZ (fun sl S4=>∃ (w:Z.P),((∃ i,w=.int i∧nW i < 10 ^ 40)∨∃ x∈vs,w=.str x)∧jl n S S4∧sl=[some (.ref n),some (.p (.lst (zs.map .str))),some (.ref h),some (.p (.lst (kds.map .str))),some (.ref v),some (.p (.str fr)),some (.p (.int way)),some (.p (.int (iO zs))),some (.p (.str kd)),some (.p (.str z)),some (.p (.int o)),some (.p w),none,none,none,none]) ?_ ?_
   · intro R hR
     simp[mS hv3,B3 (wW Ph) (show fin dpt (.lst [])=true from rfl),Hf]
     cases vs with
     | nil=>simp; exact hR _ _ ⟨_, .inl ⟨i,rfl,hi⟩,u3,rfl⟩
     | cons y ys =>
      simp
      refine bA (u3.bag hb) (by omega) (by omega) fun d S4 a0 a1 u4=>?_
      simp
      split
      · have hv4:S4[v]?=some (aL (y::ys)):=(u4.get Td).trans hv3
        simp[mS hv4]
        refine bA (u4.bag (u3.bag hb)) (by simp at hv1; omega) (by simp at hv1; omega) fun d S5 a0 a1 u5=>?_
        have hv5:S5[v]?=some (aL (y::ys)):=(u5.get Td).trans hv4
        obtain⟨x,hx,e⟩:=uc (f:=fun z=>D.p (.str z)) (xs:=y::ys) a0 (by simpa using a1)
        rw[oP (show S5[v]?=some (.lst _) from hv5),e]
        exact hR _ _ ⟨.str x, .inr ⟨x,hx,rfl⟩,u3.trans (u4.trans u5),rfl⟩
      · exact hR _ _ ⟨_, .inl ⟨i,rfl,hi⟩,u3.trans u4,rfl⟩
   rintro sl S4 ⟨w,hw,u4,rfl⟩
   simp
   exact k (.write kd z o w) S4 ⟨hk,hz,ho,by omega,hw⟩ (.inl rfl) u4
 refine aJ (b:=way == 15) (S':=S2) (tok (by simp)) (fun U1=>?_) (fun U1=>?_)
 · have fe:vs≠[]:=by
    rintro rfl
    simp[U1] at hw
   have ZK:0 < vs.length:=List.length_pos_iff.mpr fe
   simp[mS hv2]
   refine bA (u2.bag hb) (by omega) (by omega) fun d S3 a0 a1 u3=>?_
   obtain⟨x,hx,e⟩:=uc (f:=fun z=>D.p (.str z)) (xs:=vs) a0 a1
   rw[oP (show S3[v]?=some (.lst _) from (u3.get Td).trans hv2),e]
   simp
   exact k (.tell x) S3 hx (.inl rfl) (u2.trans u3)
 refine bZ (fun sl S3=>∃ (UI z':Str) (o':Int),aH UI=true∧z'∈zs∧0≤o'∧o'+Ja UI≤iO zs∧jl n S S3∧sl=[some (.ref n),some (.p (.lst (zs.map .str))),some (.ref h),some (.p (.lst (kds.map .str))),some (.ref v),some (.p (.str fr)),some (.p (.int way)),some (.p (.int (iO zs))),some (.p (.str kd)),some (.p (.str z)),some (.p (.int o)),none,some (.p (.str UI)),some (.p (.str z')),some (.p (.int o')),none]) ?_ ?_
 · intro R hR
   simp
   refine Hg (u2.bag hb) ((u2.get fe).trans hh) fe hzs Y7 BC hok Xi Xu hkd fun kd z o S2 a1 a2 a3 a4 u3=>?_
   simp[eG,aO,cu]
   exact hR _ _ ⟨_,_,_,a1,a2,a3,a4,u2.trans u3,rfl⟩
 rintro sl S3 ⟨UI,z',o',hk',hz',ho',hos',u3,rfl⟩
 have QbJ:=fM hk'
 refine bZ (fun sl S4=>∃ (m:Int),1≤m∧jl n S S4∧sl=[some (.ref n),some (.p (.lst (zs.map .str))),some (.ref h),some (.p (.lst (kds.map .str))),some (.ref v),some (.p (.str fr)),some (.p (.int way)),some (.p (.int (iO zs))),some (.p (.str kd)),some (.p (.str z)),some (.p (.int o)),none,some (.p (.str UI)),some (.p (.str z')),some (.p (.int o')),some (.p (.int m))]) ?_ ?_
 · intro R hR
   simp[rW hk,oW hk,rW hk',oW hk']
   refine bA (u3.bag hb) (by omega) (by omega) fun d1 S4 a0 a1 u4=>?_
   simp
   refine bA (u4.bag (u3.bag hb)) (by omega) (by omega) fun d2 S5 b0 b1 u5=>?_
   have uu:=u3.trans (u4.trans u5)
   obtain rfl | rfl | rfl | rfl | rfl:d2=0∨d2=1∨d2=2∨d2=3∨d2=4:=by omega
   · simp[ef]; exact hR _ _ ⟨_,by omega,uu,rfl⟩
   · simp[ef]; exact hR _ _ ⟨_,by omega,uu,rfl⟩
   · simp[ef]; exact hR _ _ ⟨_,by omega,uu,rfl⟩
   · simp[ef,lK]; exact hR _ _ ⟨_,by omega,uu,rfl⟩
   · simp[ef,kX]; exact hR _ _ ⟨_,by omega,uu,rfl⟩
 rintro sl S4 ⟨m,hm,u4,rfl⟩
 refine bZ (fun sl S5=>S4=S5∧∃ (m:Int),1≤m∧o+m≤8∧o'+m≤8∧sl=[some (.ref n),some (.p (.lst (zs.map .str))),some (.ref h),some (.p (.lst (kds.map .str))),some (.ref v),some (.p (.str fr)),some (.p (.int way)),some (.p (.int (iO zs))),some (.p (.str kd)),some (.p (.str z)),some (.p (.int o)),none,some (.p (.str UI)),some (.p (.str z')),some (.p (.int o')),some (.p (.int m))]) ?_ ?_
 · intro R hR
   simp
   refine hR _ _ ⟨rfl,_,?_,?_,?_,rfl⟩
   all_goals (split <;> split <;> omega)
 rintro sl _ ⟨rfl,m,hm1,hm2,hm3,rfl⟩
 refine aJ (b:=way == 14) (S':=S4) (tok (by simp)) (fun ZI=>?_) (fun ZI=>?_)
 · simp
   exact k (.blank m z o) S4 ⟨hm1,hz,ho,hm2⟩ (.inl rfl) u4
 · simp
   exact k (.copy m z o z' o') S4 ⟨hm1,hz,ho,hm2,hz',ho',hm3⟩ (.inl rfl) u4
end
end Kw
namespace Z
open PySem PySem.Spec PyProof.Rows L2
section
variable {S:ag} {a b c d x:eQ}
theorem g0:(S++[a,b,c,d])[S.length]?=some a:=by simp
theorem g1:(S++[a,b,c,d])[S.length+1]?=some b:=by simp
theorem g2:(S++[a,b,c,d])[S.length+2]?=some c:=by simp
theorem g3:(S++[a,b,c,d])[S.length+3]?=some d:=by simp
theorem s0:(S++[a,b,c,d]).set S.length x=S++[x,b,c,d]:=by simp
theorem s1:(S++[a,b,c,d]).set (S.length+1) x=S++[a,x,c,d]:=by simp
theorem s2:(S++[a,b,c,d]).set (S.length+2) x=S++[a,b,x,d]:=by simp
theorem s3:(S++[a,b,c,d]).set (S.length+3) x=S++[a,b,c,x]:=by simp
end
theorem jF {ps:List P} {i:Nat} {q:P} (h:(ig ps)[i]?=some q):∃ p,ps[i]?=some p∧q=.tup [.int (i:Int),p]:=by
 simp[ig] at h
 obtain⟨p,h1,rfl⟩:=h
 exact⟨p,h1,rfl⟩
theorem ko {ps:List P}:(ig ps).length=ps.length:=by simp[ig]
theorem RT {k:Nat}:ef (.str "vwxyz") (.int ((k:Int) % 5))=some (.str ⟨#[((cs zq)[k % 5]?).getD 0]⟩):=by
 have hl:(cs zq).length=5:=by decide +kernel
 rw[zX (by decide)]
 have e:(cs zq)[k % 5]?=some (cs zq)[k % 5]:=List.getElem?_eq_getElem (by omega)
 have e2:((k:Int) % 5).toNat=k % 5:=by omega
 show Option.map ch (atI (cs zq) _)=_
 simp only[atI,ixN,if_pos (show (0:Int)≤(k:Int) % 5 by omega),hl,if_pos (show (k:Int) % 5 < ((5:Nat):Int) by omega),Option.bind_some,e2,e,Option.getD_some]
 rfl
theorem IR {hs:List (Str×Str×Int)} {z:Str} {o:Str×Int} (h:¬ (P.str z∈hs.map fun q=>P.str q.1)):fX ((hs++[(z,o)]).map fun q=>P.str q.1) ((hs++[(z,o)]).map fun q=>yT q.2) (.str z)=some (yT o):=by
 induction hs with
 | nil=>simp[fX]
 | cons q hs ih =>
  simp only[List.map_cons,List.mem_cons,not_or] at h
  simp only[List.cons_append,List.map_cons,fX]
  rw[if_neg (fun e=>h.1 e.symm)]
  exact ih h.2
theorem zz:∀ ss:List aE,(aT ss).length≤ss.length
 | []=>by simp[aT]
 | s::ss=>by
  have:=zz ss
  have h1:s.made.length≤1:=by cases s <;> simp[aE.made]
  simp[aT]
  omega
theorem xy {α:Type} {f:α→P}:∀ xs:List α,cR (xs.map fun x=>D.p (f x))=some (xs.map f)
 | []=>rfl
 | x::xs=>by simp only[List.map_cons,cR,xy xs,Option.map_some]
theorem pG {α:Type} {f:α→P} {S:ag} {v:Nat} {xs:List α} (h:S[v]?=some (.lst (xs.map fun x=>D.p (f x)))):view S (.ref v)=some (.lst (xs.map f)):=by
 simp only[view,h,lM,xy,Option.map_some]
theorem N4 {k:Nat} (h:k < 10):(Str.ofString (toString (k:Int))).length≤100:=by
 obtain rfl | rfl | rfl | rfl | rfl | rfl | rfl | rfl | rfl | rfl:k=0∨k=1∨k=2∨k=3∨k=4∨k=5∨k=6∨k=7∨k=8∨k=9:=by omega
 all_goals decide +kernel
theorem SR {k:Nat} (h:k < 10):Ho [.int (k:Int)]=some (.str (Str.ofString (toString (k:Int)))):=by
 simp only[Ho]
 rw[if_pos (by
  obtain rfl | rfl | rfl | rfl | rfl | rfl | rfl | rfl | rfl | rfl:k=0∨k=1∨k=2∨k=3∨k=4∨k=5∨k=6∨k=7∨k=8∨k=9:=by omega
  all_goals decide +kernel)]
def wG (pl:Nat) (hs:List (Str×Str×Int)):eQ:=.lst ((hs.take pl).map fun q=>.p (cN (q.1,q.2.1)))
def mH (ss:List aE):eQ:=.lst (ss.map fun s=>.p s.p)
theorem LM {hs:List (Str×Str×Int)} {q:Str×Str×Int} {pl:Nat} (h:pl≤hs.length):wG pl (hs++[q])=wG pl hs:=by
 unfold wG
 rw[List.take_append_of_le_length h]
end Z
namespace Kw
open PySem PySem.Spec PyProof.Rows L2 Z
section
variable {S L:ag} {n:Nat} {E:Xc→ag→Prop} {Q:D→ag→Prop}
theorem IB {most:Nat} {r:Int} (hb:zU S n) (hp:fq S) (hm0:0 < most) (hm:most≤12) (hr0:2≤r) (hr:r≤4)
  (k:∀ (t:Txt) S',t.ok→(t.names.length:Int)≤r→0 < t.ptrs.length→0 < t.steps.length→t.steps.length≤most→jl n S S'→Q (.p (.tup [t.pl,t.pt,t.st])) S') :
  (lQ [.ref n, .p (.int (most:Int)), .p (.int r)] S).sx E Q:=by
 unfold lQ FZ
 refine Be fun F N T _ _ hT=>?_
 refine cY (fun d S1=>∃ pl:Nat,pl≤2∧(pl:Int)≤r - 1∧d=.p (.int (pl:Int))∧jl n S S1) ?_ ?_
 · intro R hR
   simp[List.replicate]
   refine bA hb (by decide) (by decide) fun d S' h0 h1 u=>?_
   have key:∀ i:Int,0≤i→i≤2→R (.p (.int (if r - 1 < i then r - 1 else i))) S':=fun i i0 i2=>by
    split
    · exact hR _ _ ⟨(r - 1).toNat,by omega,by omega,by congr 2; omega,u⟩
    · exact hR _ _ ⟨i.toNat,by omega,by omega,by congr 2; omega,u⟩
   obtain rfl | rfl | rfl | rfl | rfl | rfl:d=0∨d=1∨d=2∨d=3∨d=4∨d=5:=by omega
   · simp[ef]; exact key 0 (by omega) (by omega)
   · simp[ef]; exact key 0 (by omega) (by omega)
   · simp[ef]; exact key 0 (by omega) (by omega)
   · simp[ef,lK]; exact key 1 (by omega) (by omega)
   · simp[ef,kX]; exact key 1 (by omega) (by omega)
   · have:atI [P.int 0, .int 0, .int 0, .int 1, .int 1, .int 2] 5=some (.int 2):=rfl
     simp[ef,this]; exact key 2 (by omega) (by omega)
 rintro _ S1 ⟨pl,hpl,hplr,rfl,u1⟩
 refine cY (fun d S2=>∃ mn:Nat,1≤mn∧mn≤3∧(mn:Int)+pl≤r∧d=.p (.int (mn:Int))∧jl n S S2) ?_ ?_
 · intro R hR
   simp[List.replicate]
   refine bA (u1.bag hb) (by decide) (by decide) fun d S' h0 h1 u=>?_
   have uu:=u1.trans u
   have key:∀ i:Int,1≤i→i≤3→R (.p (.int (if r - pl < i then r - pl else i))) S':=fun i i0 i2=>by
    split
    · exact hR _ _ ⟨(r - pl).toNat,by omega,by omega,by omega,by congr 2; omega,uu⟩
    · exact hR _ _ ⟨i.toNat,by omega,by omega,by omega,by congr 2; omega,uu⟩
   obtain rfl | rfl | rfl | rfl | rfl:d=0∨d=1∨d=2∨d=3∨d=4:=by omega
   · simp[ef]; exact key 1 (by omega) (by omega)
   · simp[ef]; exact key 2 (by omega) (by omega)
   · simp[ef]; exact key 2 (by omega) (by omega)
   · simp[ef,lK]; exact key 2 (by omega) (by omega)
   · simp[ef,kX]; exact key 3 (by omega) (by omega)
 rintro _ S2 ⟨mn,hmn,hmn3,hmr,rfl,u2⟩
 refine bZ (fun sl S3=>∃ (zs kds:List Str),zs.length=mn+pl∧vO zs∧kds.length=2∧(∀ z∈kds,aH z=true)∧jl n S S3∧sl=[some (.ref n),some (.p (.int (most:Int))),some (.p (.int r)),some (.p (.int (pl:Int))),some (.p (.int (mn:Int))),some (.p (.lst (zs.map .str))),some (.p (.lst (kds.map .str))),none,none,none,none,none,none,none,none]) ?_ ?_
 · intro R hR
   simp[List.replicate]
   refine Iv (m:=mn+pl) (u2.bag hb) (u2.pure hp) (by omega) fun zs S3 hl hz u3=>?_
   try simp
   refine Ip (m:=2) (u3.bag (u2.bag hb)) (by omega) fun ks S4 hkl hks u4=>?_
   exact hR _ _ ⟨zs,ks,hl,hz,hkl,hks,u2.trans (u3.trans u4),rfl⟩
 rintro _ S3 ⟨zs,kds,hzl,hzs,hkl,hks,u3,rfl⟩
 refine bZ (fun sl S4=>S4=S3++[lg [],mH [],aL [],wG pl []]∧sl=[some (.ref n),some (.p (.int (most:Int))),some (.p (.int r)),some (.p (.int (pl:Int))),some (.p (.int (mn:Int))),some (.p (.lst (zs.map .str))),some (.p (.lst (kds.map .str))),some (.ref S3.length),some (.ref (S3.length+1)),some (.ref (S3.length+2)),some (.ref (S3.length+3)),none,none,none,none]) ?_ ?_
 · intro R hR
   simp
   exact hR _ _ ⟨by simp[lg,mH,aL,wG],rfl⟩
 rintro _ _ ⟨rfl,rfl⟩
 refine bZ (fun sl S5=>∃ (hs:List (Str×Str×Int)) (S4:ag) (x y:Option D),hs.map (·.1)=zs∧(∀ q∈hs,aH q.2.1=true∧0≤q.2.2)∧jl n S S4∧S5=S4++[lg hs,mH [],aL [],wG pl hs]∧sl=[some (.ref n),some (.p (.int (most:Int))),some (.p (.int r)),some (.p (.int (pl:Int))),some (.p (.int (mn:Int))),some (.p (.lst (zs.map .str))),some (.p (.lst (kds.map .str))),some (.ref S3.length),some (.ref (S3.length+1)),some (.ref (S3.length+2)),some (.ref (S3.length+3)),x,y,none,none]) ?_ ?_
 · intro R hR
   simp
   refine jT (fun i sl S5=>∃ (hs:List (Str×Str×Int)) (S4:ag) (x y:Option D),hs.map (·.1)=zs.take i∧(∀ q∈hs,aH q.2.1=true∧0≤q.2.2)∧jl n S S4∧S5=S4++[lg hs,mH [],aL [],wG pl hs]∧sl=[some (.ref n),some (.p (.int (most:Int))),some (.p (.int r)),some (.p (.int (pl:Int))),some (.p (.int (mn:Int))),some (.p (.lst (zs.map .str))),some (.p (.lst (kds.map .str))),some (.ref S3.length),some (.ref (S3.length+1)),some (.ref (S3.length+2)),some (.ref (S3.length+3)),x,y,none,none]) ?_ ?_ ⟨[],S3,none,none,by simp,by simp,u3,by simp,rfl⟩
   · rintro i q sl S5 hq ⟨hs,S4,x,y,hh,hok,u4,rfl,rfl⟩
     obtain⟨p,jH,rfl⟩:=jF hq
     obtain⟨z,hz,rfl⟩:∃ z,zs[i]?=some z∧p=.str z:=by
      rw[List.getElem?_map] at jH
      cases hz:zs[i]? with
      | none=>rw[hz] at jH; cases jH
      | some z=>rw[hz] at jH; cases jH; exact⟨z,rfl,rfl⟩
     obtain⟨hi,hze⟩:=List.getElem?_eq_some_iff.mp hz
     have Xv:S4.length=S3.length:=u4.len.trans u3.len.symm
     have hhl:hs.length=i:=by
      have:=congrArg List.length hh
      simp at this
      omega
     have Mh:z∉hs.map (·.1):=by
      rw[hh]
      intro hc
      obtain⟨j,hj,e⟩:=List.mem_iff_getElem.mp hc
      simp at hj e
      have:=uq hzs.nd (j:=j) (k:=i) (z:=z) (by rw[List.getElem?_eq_getElem (by omega),e]) hz
      omega
     have hk:¬ (P.str z∈hs.map fun q=>P.str q.1):=by
      intro hc
      obtain⟨q',ul,e⟩:=List.mem_map.mp hc
      cases e
      exact Mh (List.mem_map.mpr ⟨q',ul,rfl⟩)
     have ZG:∀ o,fX ((hs++[(z,o)]).map fun q=>P.str q.1) ((hs++[(z,o)]).map fun q=>yT q.2) (.str z)=some (yT o):=fun o=>IR hk
     refine⟨_,rfl,fun R' yB=>?_⟩
     refine bZ (fun sl S6=>∃ (kd:Str) (o:Int) (S5:ag),aH kd=true∧0≤o∧jl n S S5∧S6=S5++[lg (hs++[(z,kd,o)]),mH [],aL [],wG pl hs]∧sl=[some (.ref n),some (.p (.int (most:Int))),some (.p (.int r)),some (.p (.int (pl:Int))),some (.p (.int (mn:Int))),some (.p (.lst (zs.map .str))),some (.p (.lst (kds.map .str))),some (.ref S3.length),some (.ref (S3.length+1)),some (.ref (S3.length+2)),some (.ref (S3.length+3)),some (.p (.int (i:Int))),some (.p (.str z)),none,none]) ?_ ?_
     · intro R hR
       simp
       refine wY (u4.bag hb) (by decide) (by decide) fun d S5 h0 h1 u5=>?_
       obtain⟨v,hv,e⟩:=uc (f:=P.str) (xs:=kds) (k:=d) h0 (by omega)
       simp[ef,e]
       refine wY (u5.bag (u4.bag hb)) (by decide) (by decide) fun d2 S6 h20 h21 u6=>?_
       have LJ:S6.length=S3.length:=(u6.len.trans u5.len).trans Xv
       have key:∀ b:Int,0≤b→lH (qW (S6++[lg hs,mH [],aL [],wG pl hs]) S3.length (.p (.str z)) (.p (.tup [.str v, .int b]))) (fun S7=>R [some (.ref n),some (.p (.int (most:Int))),some (.p (.int r)),some (.p (.int (pl:Int))),some (.p (.int (mn:Int))),some (.p (.lst (zs.map .str))),some (.p (.lst (kds.map .str))),some (.ref S3.length),some (.ref (S3.length+1)),some (.ref (S3.length+2)),some (.ref (S3.length+3)),some (.p (.int (i:Int))),some (.p (.str z)),none,none] S7):=by
        intro b hb0
        rw[PH (show (S6++[lg hs,mH [],aL [],wG pl hs])[S3.length]?=some (eQ.dic _ _ _) from by rw[← LJ]; exact g0),  if_pos ⟨rfl,Dl (by simp; omega)⟩,aq,← LJ,s0]
        unfold yg Fv
        rw[if_neg hk,if_neg hk]
        refine hR _ _ ⟨v,b,S6,hks v hv,hb0,u4.trans (u5.trans u6),?_,by rw[LJ]⟩
        simp[lg,yT]
       simp
       by_cases hc:pl≤i
       · simp[hc,qc]
         exact key d2 h20
       · simp[hc,qc]
         exact key 0 (by omega)
     rintro sl _ ⟨kd,o,S5,hkd,ho,u5,rfl,rfl⟩
     have Ou:S5.length=S3.length:=u5.len.trans u3.len.symm
     have Nh:∀ q∈hs++[(z,kd,o)],aH q.2.1=true∧0≤q.2.2:=by
      intro q hq
      rcases List.mem_append.mp hq with hq | hq
      · exact hok q hq
      · simp at hq; subst hq; exact⟨hkd,ho⟩
     have hh':(hs++[(z,kd,o)]).map (·.1)=zs.take (i+1):=by
      rw[List.map_append,hh,List.take_succ,hz]
      rfl
     refine aJ (b:=decide (i < pl)) (S':=_) (tok (by simp)) (fun hc=>?_) (fun hc=>?_)
     · have hc:i < pl:=of_decide_eq_true hc
       have e0:(S5++[lg (hs++[(z,kd,o)]),mH [],aL [],wG pl hs])[S3.length]?=some (lg (hs++[(z,kd,o)])):=by rw[← Ou]; exact g0
       have e3:(S5++[lg (hs++[(z,kd,o)]),mH [],aL [],wG pl hs])[S3.length+3]?=some (wG pl hs):=by rw[← Ou]; exact g3
       refine nI (fun d S6=>S6=S5++[lg (hs++[(z,kd,o)]),mH [],aL [],wG pl hs]∧d=.p (cN (z,kd))) rfl e3 ?_ ?_
       · intro R hR
         simp
         rw[JQ (show _=some (eQ.dic _ _ _) from e0)]
         refine⟨rfl,?_⟩
         rw[ZG]
         simp[yT,ef]
         exact hR _ _ ⟨rfl,rfl⟩
       · rintro _ _ ⟨rfl,rfl⟩
         refine⟨_,e3,by simp; omega,?_⟩
         simp
         refine yB _ _ ⟨hs++[(z,kd,o)],S5,_,_,hh',Nh,u5,?_,rfl⟩
         rw[← Ou,s3,List.take_of_length_le (by simp; omega)]
         unfold wG
         rw[List.take_of_length_le (by simp; omega)]
         simp
     · have hc:¬ i < pl:=of_decide_eq_false hc
       simp
       refine yB _ _ ⟨hs++[(z,kd,o)],S5,_,_,hh',Nh,u5,?_,rfl⟩
       rw[LM (by omega)]
   · rintro sl S5 ⟨hs,S4,x,y,hh,hok,u4,rfl,rfl⟩
     refine hR _ _ ⟨hs,S4,x,y,?_,hok,u4,rfl,rfl⟩
     rw[hh,ko,List.length_map,List.take_length]
 rintro sl _ ⟨hs,S4,x,y,hh,hok,u4,rfl,rfl⟩
 obtain⟨z0,zr,Xt⟩:∃ z0 zr,zs=z0::zr:=by
  cases zs with
  | nil=>simp at hzl; omega
  | cons a b=>exact⟨a,b,rfl⟩
 have WZ:zs.head?=some z0:=by rw[Xt]; rfl
 have hn0:=dH (hzs.nm z0 (by rw[Xt]; exact List.mem_cons_self ..))
 rw[dD]
 simp
 refine wY (u4.bag hb) (by omega) (by omega) fun d S5 d0 d1 u5=>?_
 simp
 refine⟨by omega,?_⟩
 refine A5 (fun j sl S6=>∃ (ss:List aE) (S5:ag) (x y z w:Option D),ss.length=j∧eN zs [] ss∧(∀ x∈aT ss,∃ i < j,x=fJ z0 i)∧jl n S S5∧S6=S5++[lg hs,mH ss,aL (aT ss),wG pl hs]∧sl=[some (.ref n),some (.p (.int (most:Int))),some (.p (.int r)),some (.p (.int (pl:Int))),some (.p (.int (mn:Int))),some (.p (.lst (zs.map .str))),some (.p (.lst (kds.map .str))),some (.ref S3.length),some (.ref (S3.length+1)),some (.ref (S3.length+2)),some (.ref (S3.length+3)),x,y,z,w]) ?_ ?_ ⟨[],S5,_,_,_,_,rfl,trivial,by simp[aT],u4.trans u5,by simp[aT],rfl⟩
 · rintro j sl S6 hj ⟨ss,S5,x,y,z,w,hl,hok2,hfr,u5,rfl,rfl⟩
   have Ou:S5.length=S3.length:=u5.len.trans u3.len.symm
   have Vy:j < 15:=by omega
   obtain⟨XB,hfz⟩:=hzs.fr z0 WZ j Vy
   have hfv:fJ z0 j∉aT ss:=fun hc=>by
    obtain⟨i,hi,e⟩:=hfr _ hc
    have:=hzs.fd z0 WZ j Vy i (by omega) e
    omega
   have Td:∀ z∈aT ss,ak z=true:=fun z hz=>by
    obtain⟨i,hi,rfl⟩:=hfr _ hz
    exact (hzs.fr z0 WZ i (by omega)).1
   have hvl:(aT ss).length≤ss.length:=zz ss
   refine⟨_,rfl,fun R' yB=>?_⟩
   refine cY (fun d S6=>S6=S5++[lg hs,mH ss,aL (aT ss),wG pl hs]∧d=.p (.str (fJ z0 j))) ?_ ?_
   · intro R hR
     have hc:=vU z0 none (some 6)
     have hjj:(j:Int) / 5=((j / 5:Nat):Int):=by omega
     have ZJ:z0.length≤sizeLine:=aR (by omega)
     have hts:(Str.ofString (toString ((j / 5:Nat):Int))).length≤100:=N4 (by omega)
     have ez:ef (.lst (zs.map .str)) (.int 0)=some (.str z0):=by rw[Xt]; simp[ef]
     simp[ez,GN ZJ,lI,BG]
     rw[show ef (.str (Str.ofString "vwxyz")) (.int ((j:Int) % 5))=_ from RT]
     simp
     rw[nN (aR (by rw[wq]; omega)),aq,hjj,SR (by omega),aq,nN (aR (by rw[bL,wq]; omega)),aq]
     exact hR _ _ ⟨rfl,rfl⟩
   rintro _ _ ⟨rfl,rfl⟩
   refine bZ (fun sl S6=>∃ (s:aE) (S5:ag),s.ok zs (aT ss)∧(s.made=[]∨s.made=[fJ z0 j])∧jl n S S5∧S6=S5++[lg hs,mH ss,aL (aT ss),wG pl hs]∧sl=[some (.ref n),some (.p (.int (most:Int))),some (.p (.int r)),some (.p (.int (pl:Int))),some (.p (.int (mn:Int))),some (.p (.lst (zs.map .str))),some (.p (.lst (kds.map .str))),some (.ref S3.length),some (.ref (S3.length+1)),some (.ref (S3.length+2)),some (.ref (S3.length+3)),some (.p (.int (j:Int))),y,some (.p (.str (fJ z0 j))),some (.p s.p)]) ?_ ?_
   · intro R hR
     simp
     refine Lq (zs:=zs) (kds:=kds) (vs:=aT ss) (hs:=hs) (u5.bag hb).app (by rw[← Ou]; exact g0) (by have:=hb.lt; have:=u3.len; omega) (by rw[Xt]; simp) (by omega) (by rw[hh]; exact fun z hz=>hz) hok (by intro e; rw[e] at hkl; simp at hkl) (by omega) hks (by rw[← Ou]; exact g2) (by have:=hb.lt; have:=u3.len; omega) (by omega) Td XB hfz hfv fun s S6 mx hs2 u6=>?_
     obtain⟨S7,rfl,u7⟩:=u6.app (u5.bag hb)
     exact hR _ _ ⟨s,S7,mx,hs2,u5.trans u7,rfl,rfl⟩
   rintro _ _ ⟨s,S6,mx,hs2,u6,rfl,rfl⟩
   have LJ:S6.length=S3.length:=u6.len.trans u3.len.symm
   refine bZ (fun sl S7=>S7=S6++[lg hs,mH ss,aL (aT (ss++[s])),wG pl hs]∧sl=[some (.ref n),some (.p (.int (most:Int))),some (.p (.int r)),some (.p (.int (pl:Int))),some (.p (.int (mn:Int))),some (.p (.lst (zs.map .str))),some (.p (.lst (kds.map .str))),some (.ref S3.length),some (.ref (S3.length+1)),some (.ref (S3.length+2)),some (.ref (S3.length+3)),some (.p (.int (j:Int))),y,some (.p (.str (fJ z0 j))),some (.p s.p)]) ?_ ?_
   · intro R hR
     have e2:∀ a b c,(S6++[a,b,aL (aT ss),c])[S3.length+2]?=some (aL (aT ss)):=fun a b c=>by rw[← LJ]; exact g2
     cases s with
     | read x' k' n' o' =>
      have hx:x'=fJ z0 j:=by
       rcases hs2 with h | h
       · cases h
       · cases h; rfl
      subst hx
      rw[yP]
      simp only[aE.p,SQ,SJ,Cg,qz,Ek,List.getElem?_cons_succ,List.getElem?_cons_zero,Cr,ef,Je,aq,jU,eA,jC (show fin dpt (.str (Str.ofString "read"))=true from Eb) (show fin dpt (.str (Str.ofString "read"))=true from Eb),eqv,beq_self_eq_true,Kj,if_true]
      refine nI (fun d S7=>S7=S6++[lg hs,mH ss,aL (aT ss),wG pl hs]∧d=.p (.str (fJ z0 j))) rfl (e2 _ _ _) ?_ ?_
      · intro R hR
        simp
        exact hR _ _ ⟨rfl,rfl⟩
      · rintro _ _ ⟨rfl,rfl⟩
        refine⟨_,e2 _ _ _,by simp; omega,?_⟩
        simp
        refine hR _ _ ⟨?_,rfl⟩
        rw[← LJ,s2]
        simp[gq,aE.made,aL]
     | write k' n' o' v' =>
      simp[aE.p,ef,jC (show fin dpt (.str (Str.ofString "write"))=true from JY) (show fin dpt (.str (Str.ofString "read"))=true from Eb),eqv]
      exact hR _ _ ⟨by simp[gq,aE.made],rfl⟩
     | copy m' n' o' n2 o2 =>
      simp[aE.p,ef,jC (show fin dpt (.str (Str.ofString "copy"))=true from JZ) (show fin dpt (.str (Str.ofString "read"))=true from Eb),eqv]
      exact hR _ _ ⟨by simp[gq,aE.made],rfl⟩
     | blank m' n' o' =>
      simp[aE.p,ef,jC (show fin dpt (.str (Str.ofString "blank"))=true from Lr) (show fin dpt (.str (Str.ofString "read"))=true from Eb),eqv]
      exact hR _ _ ⟨by simp[gq,aE.made],rfl⟩
     | tell x' =>
      simp[aE.p,ef,jC (show fin dpt (.str (Str.ofString "tell"))=true from Jl) (show fin dpt (.str (Str.ofString "read"))=true from Eb),eqv]
      exact hR _ _ ⟨by simp[gq,aE.made],rfl⟩
   rintro _ _ ⟨rfl,rfl⟩
   have e1:∀ a b c,(S6++[a,mH ss,b,c])[S3.length+1]?=some (.lst (ss.map fun s=>D.p s.p)):=fun a b c=>by rw[← LJ]; exact g1
   refine nI (fun d S7=>S7=S6++[lg hs,mH ss,aL (aT (ss++[s])),wG pl hs]∧d=.p s.p) rfl (e1 _ _ _) ?_ ?_
   · intro R hR
     simp
     exact hR _ _ ⟨rfl,rfl⟩
   rintro _ _ ⟨rfl,rfl⟩
   refine⟨_,e1 _ _ _,by simp; omega,?_⟩
   simp
   refine yB _ _ ⟨ss++[s],S6,_,_,_,_,by simp[hl],rN hok2 (by simpa using mx),?_,u6,?_,rfl⟩
   · intro x hx
     rw[gq] at hx
     rcases List.mem_append.mp hx with hx | hx
     · obtain⟨i,hi,e⟩:=hfr x hx
       exact⟨i,by omega,e⟩
     · rcases hs2 with h | h
       · rw[h] at hx; cases hx
       · rw[h] at hx
         simp at hx
         exact⟨j,by omega,hx⟩
   · rw[← LJ,s1]
     simp[mH]
 · rintro sl S6 ⟨ss,S5,x,y,z,w,hl,hok2,hfr,u5,rfl,rfl⟩
   have Ou:S5.length=S3.length:=u5.len.trans u3.len.symm
   let t:Txt:=⟨(hs.take pl).map fun q=>(q.1,q.2.1),zs.drop pl,ss⟩
   have ht:t.names=zs:=by
    show ((hs.take pl).map fun q=>(q.1,q.2.1)).map (·.1)++zs.drop pl=zs
    rw[List.map_map,show ((fun x:Str×Str=>x.1) ∘ fun q:Str×Str×Int=>(q.1,q.2.1))=(fun q=>q.1) from rfl,List.map_take,hh,List.take_append_drop]
   have Yf:t.ok:=⟨by simp[t]; omega,by simp[t]; omega,by rw[ht]; omega,by rw[ht]; exact hzs.nm,by rw[ht]; exact hzs.nd,by
    intro q hq
    obtain⟨q',ul,rfl⟩:=List.mem_map.mp hq
    exact (hok q' (List.mem_of_mem_take ul)).1,by show ss.length≤12; omega,by rw[ht]; exact hok2⟩
   have w1:view (S5++[lg hs,mH ss,aL (aT ss),wG pl hs]) (.ref (S3.length+3))=some (.lst ((hs.take pl).map fun q=>cN (q.1,q.2.1))):=by rw[← Ou]; exact pG g3
   have w2:view (S5++[lg hs,mH ss,aL (aT ss),wG pl hs]) (.ref (S3.length+1))=some (.lst (ss.map fun s=>s.p)):=by rw[← Ou]; exact pG g1
   have e1:Z.fN (zs.map P.str) (some (pl:Int)) none=(zs.drop pl).map P.str:=by
    unfold Z.fN
    simp[HT.sIx]
    rw[if_neg (by omega),Nat.min_eq_left (by omega),List.take_of_length_le (by simp)]
   simp[w1,w2,Hy,e1]
   refine hT _ S5 _ (.tup [t.pl,t.pt,t.st]) u5.len (u5.pure hp) ?_ ?_
   · simp[qK,Txt.pl,Txt.pt,Txt.st,t]
     rfl
   · exact k t S5 Yf (by rw[ht]; omega) (by simp[t]; omega) (by show 0 < ss.length; omega) (by show ss.length≤most; omega) u5
end
end Kw
namespace Z
open PySem PySem.Spec PyProof.Rows L2
def sq:Nat→P→Bool
 | _, .non=>true
 | _, .bl _=>true
 | _, .int i=>decide (i.natAbs < 10 ^ 45)
 | _, .str z=>di z && decide (z.length≤1000)
 | n+1, .lst xs=>decide (xs.length≤1000) && xs.all (sq n)
 | n+1, .tup xs=>decide (xs.length≤1000) && xs.all (sq n)
 | _,_=>false
theorem vy:∀ (n:Nat) (p:P),sq n p=true→sm n p=true
 | 0,p,h=>by cases p <;> simp_all [sq,sm]
 | n+1,p,h=>by
  cases p <;> simp_all [sq,sm]
  all_goals exact fun x hx=>vy n x (h.2 x hx)
theorem G4:∀ {n:Nat} {p:P},sq n p=true→sq (n+1) p=true
 | 0,p,h=>by cases p <;> simp_all [sq]
 | n+1,p,h=>by
  cases p <;> simp_all [sq]
  all_goals exact fun x hx=>G4 (h.2 x hx)
theorem Gf {n m:Nat} {p:P} (h:sq n p=true) (hm:n≤m):sq m p=true:=by
 induction m with
 | zero =>
  have:n=0:=by omega
  subst this; exact h
 | succ m ih =>
  by_cases e:n=m+1
  · subst e; exact h
  · exact G4 (ih (by omega))
mutual
def tl:P→Nat
 | .int _=>50
 | .str z=>10 * z.length+2
 | .lst ps=>K3 ps+3
 | .tup ps=>K3 ps+3
 | _=>5
def K3:List P→Nat
 | []=>0
 | p::ps=>tl p+2+K3 ps
end
theorem Tt {k:Nat} (h:k < 10 ^ 45):k.log2 < 1920:=by
 by_cases h0:k=0
 · subst h0; decide
 · rw[Nat.log2_lt h0]
   exact Nat.lt_trans h (by decide)
theorem xC {n:Nat} {xs:List P} (h:∀ x∈xs,sq n x=true) (hl:xs.length≤1000):sq (n+1) (.tup xs)=true:=by
 simp only[sq,Bool.and_eq_true,List.all_eq_true,decide_eq_true_eq]
 exact⟨hl,h⟩
theorem iV {n:Nat} {z:Str} (h:ak z=true):sq n (.str z)=true:=by
 have:=dH h
 have h2:=ff h
 cases n <;> simp[sq,h2] <;> omega
theorem vW {z:Str} (h:aH z=true):di z=true:=lT fun c hc=>by
 have hl:=jk h
 unfold aH at h
 simp only[Bool.and_eq_true,decide_eq_true_eq] at h
 obtain⟨⟨h1,h2⟩,h3,h4,h5⟩:=h
 have CS:(cs z).getLast?=some (gj z):=by
  unfold gj
  cases hz:cs z with
  | nil=>have:=fk z; rw[hz] at this; simp at this; omega
  | cons a b=>simp[List.getLast?_cons]
 rcases List.mem_iff_getElem.mp hc with ⟨i,hi,e⟩
 have yM:=fk z
 by_cases X0:i=(cs z).length - 1
 · have:c=gj z:=by
    rw[List.getLast?_eq_getElem?,← X0,List.getElem?_eq_getElem hi,e] at CS
    cases CS; rfl
   subst this
   have:=of_decide_eq_true h4
   exact ou _ (by rw[lD]; exact List.mem_append_right _ this)
 · have:c∈cs (cutS z none (some (-1))):=by
    rw[AY]
    unfold Z.fN
    refine List.mem_iff_getElem.mpr ⟨i,?_,?_⟩
    · simp[HT.sIx]; omega
    · simp[HT.sIx]; exact e
   have:=of_decide_eq_true (List.all_eq_true.mp h3 c this)
   exact ou _ (by rw[lD]; exact List.mem_append_left _ this)
theorem vM {n:Nat} {z:Str} (h:aH z=true):sq n (.str z)=true:=by
 have:=jk h
 have h2:=vW h
 cases n <;> simp[sq,h2] <;> omega
theorem pK {n:Nat} {i:Int} (h:i.natAbs < 10 ^ 45):sq n (.int i)=true:=by
 cases n <;> simpa [sq] using h
theorem tq {names:List Str} {vals:List Str} {s:aE} (h:s.ok names vals) (hn:∀ z∈names,ak z=true) (hv:∀ z∈vals,ak z=true):∃ w ps,s.p=.tup (.str w::ps)∧(∀ q∈P.str w::ps,sq 0 q=true)∧ps.length≤5∧(∀ q∈P.str w::ps,tl q≤90):=by
 have tn:∀ z,ak z=true→tl (.str z)≤90:=fun z hz=>by have:=dH hz; simp[tl]; omega
 have tk:∀ z,aH z=true→tl (.str z)≤90:=fun z hz=>by have:=jk hz; simp[tl]; omega
 cases s with
 | read x k n o =>
  obtain⟨h1,h2,h3,h4,h5,h6,h7⟩:=h
  have hsz:=fM h4
  refine⟨_,_,rfl,?_,by simp,?_⟩
  · intro q hq
    simp only[List.mem_cons,List.not_mem_nil,or_false] at hq
    rcases hq with rfl | rfl | rfl | rfl | rfl
    · decide +kernel
    · exact iV h1
    · exact vM h4
    · exact iV (hn _ h5)
    · exact pK (by omega)
  · intro q hq
    simp only[List.mem_cons,List.not_mem_nil,or_false] at hq
    rcases hq with rfl | rfl | rfl | rfl | rfl
    · decide +kernel
    · exact tn _ h1
    · exact tk _ h4
    · exact tn _ (hn _ h5)
    · simp[tl]
 | write k n o v =>
  obtain⟨h4,h5,h6,h7,h8⟩:=h
  have hsz:=fM h4
  refine⟨_,_,rfl,?_,by simp,?_⟩
  · intro q hq
    simp only[List.mem_cons,List.not_mem_nil,or_false] at hq
    rcases hq with rfl | rfl | rfl | rfl | rfl
    · decide +kernel
    · exact vM h4
    · exact iV (hn _ h5)
    · exact pK (by omega)
    · rcases h8 with ⟨i,rfl,hi⟩ | ⟨x,hx,rfl⟩
      · exact pK (by unfold nW at hi; split at hi <;> omega)
      · exact iV (hv _ hx)
  · intro q hq
    simp only[List.mem_cons,List.not_mem_nil,or_false] at hq
    rcases hq with rfl | rfl | rfl | rfl | rfl
    · decide +kernel
    · exact tk _ h4
    · exact tn _ (hn _ h5)
    · simp[tl]
    · rcases h8 with ⟨i,rfl,hi⟩ | ⟨x,hx,rfl⟩
      · simp[tl]
      · exact tn _ (hv _ hx)
 | copy m n o n' o' =>
  obtain⟨h1,h2,h3,h4,h5,h6,h7⟩:=h
  refine⟨_,_,rfl,?_,by simp,?_⟩
  · intro q hq
    simp only[List.mem_cons,List.not_mem_nil,or_false] at hq
    rcases hq with rfl | rfl | rfl | rfl | rfl | rfl
    · decide +kernel
    · exact pK (by omega)
    · exact iV (hn _ h2)
    · exact pK (by omega)
    · exact iV (hn _ h5)
    · exact pK (by omega)
  · intro q hq
    simp only[List.mem_cons,List.not_mem_nil,or_false] at hq
    rcases hq with rfl | rfl | rfl | rfl | rfl | rfl
    · decide +kernel
    · simp[tl]
    · exact tn _ (hn _ h2)
    · simp[tl]
    · exact tn _ (hn _ h5)
    · simp[tl]
 | blank m n o =>
  obtain⟨h1,h2,h3,h4⟩:=h
  refine⟨_,_,rfl,?_,by simp,?_⟩
  · intro q hq
    simp only[List.mem_cons,List.not_mem_nil,or_false] at hq
    rcases hq with rfl | rfl | rfl | rfl
    · decide +kernel
    · exact pK (by omega)
    · exact iV (hn _ h2)
    · exact pK (by omega)
  · intro q hq
    simp only[List.mem_cons,List.not_mem_nil,or_false] at hq
    rcases hq with rfl | rfl | rfl | rfl
    · decide +kernel
    · simp[tl]
    · exact tn _ (hn _ h2)
    · simp[tl]
 | tell x =>
  refine⟨_,_,rfl,?_,by simp,?_⟩
  · intro q hq
    simp only[List.mem_cons,List.not_mem_nil,or_false] at hq
    rcases hq with rfl | rfl
    · decide +kernel
    · exact iV (hv _ h)
  · intro q hq
    simp only[List.mem_cons,List.not_mem_nil,or_false] at hq
    rcases hq with rfl | rfl
    · decide +kernel
    · exact tn _ (hv _ h)
theorem zN {names vals:List Str} {s:aE} (h:s.ok names vals):∀ z∈s.made,ak z=true:=by
 cases s with
 | read x k n o=>intro z hz; simp[aE.made] at hz; subst hz; exact h.1
 | _=>intro z hz; simp[aE.made] at hz
theorem gS {names:List Str}:∀ {vals:List Str} {ss:List aE},eN names vals ss→(∀ z∈vals,ak z=true)→∀ s∈ss,∃ vs,s.ok names vs∧∀ z∈vs,ak z=true
 | vals,[],_,_,s,hs=>by cases hs
 | vals,t::ss,h,hv,s,hs=>by
  rcases List.mem_cons.mp hs with rfl | hs
  · exact⟨vals,h.1,hv⟩
  · exact gS h.2 (fun z hz=>by
     rcases List.mem_append.mp hz with hz | hz
     · exact hv z hz
     · exact zN h.1 z hz) s hs
theorem Txt.ok.each {t:Txt} (h:t.ok):∀ s∈t.steps,∃ w ps,s.p=.tup (.str w::ps)∧(∀ q∈P.str w::ps,sq 0 q=true)∧ps.length≤5∧(∀ q∈P.str w::ps,tl q≤90):=fun s hs=>by
 obtain⟨vs,h1,h2⟩:=gS h.st (by simp) s hs
 exact tq h1 h.nm h2
section
variable {S:ag} {sl:av} {E:Xc→ag→Prop} {R:D→ag→Prop} {F:Xc→av→ag→Prop} {N:av→ag→Prop} {T:D→ag→Prop}
@[simp] theorem V5 {f:Str→List P→Option P} {mo:M} {ma:MA}:(vt f mo ma sl S).sx E R=(mo sl S).sx E fun d S1=>match d with
  | .p (.str z)=>(ma sl S1).sx E fun ds S2=>lH (fV S2 ds) fun ps=>lH (f z ps) fun q=>R (.p q) S2
  | _=>False:=by
 unfold vt; rw[aM]; congr 1; funext d S1
 cases d with
 | ref n=>simp
 | p q =>
  cases q <;> first
   | (simp; done)
   | skip
  simp only[aM]
  congr 1; funext ds S2
  cases fV S2 ds with
  | none=>simp
  | some ps =>
   simp only[aq]
   rename_i z
   cases f z ps <;> simp
def QM:List M→Str→av→ag→(Xc→ag→Prop)→(Str→ag→Prop)→Prop
 | [],acc,_,S,_,Q=>Q acc S
 | m::ms,acc,sl,S,E,Q=>(m sl S).sx E fun d S1=>match d with
  | .p (.str y)=>(acc++y).length≤sizeLine∧QM ms (acc++y) sl S1 E Q
  | _=>False
theorem JH:∀ (ms:List M) (acc:Str) (sl:av) (S:ag) (E:Xc→ag→Prop) (Q:Str→ag→Prop),(SS ms acc sl S).sx E Q=QM ms acc sl S E Q
 | [],acc,sl,S,E,Q=>by simp[SS,QM]
 | m::ms,acc,sl,S,E,Q=>by
  unfold SS QM
  rw[aM]
  congr 1; funext d S1
  cases d with
  | ref n=>simp
  | p q =>
   cases q <;> first
    | (simp; done)
    | skip
   rename_i y
   show (if (acc++y).length≤sizeLine then SS ms (acc++y) sl S1 else .no).sx E Q=_
   rw[jb,JH ms]
@[simp] theorem QbR {ms:List M}:(Gz ms sl S).sx E R=QM ms Str.empty sl S E fun z S1=>R (.p (.str z)) S1:=by
 unfold Gz; rw[aM,JH]; simp only[aG]
@[simp] theorem Xq {acc:Str} {Q:Str→ag→Prop}:QM [] acc sl S E Q=Q acc S:=rfl
@[simp] theorem WN {acc:Str} {m:M} {ms:List M} {Q:Str→ag→Prop}:QM (m::ms) acc sl S E Q=(m sl S).sx E fun d S1=>match d with
  | .p (.str y)=>(acc++y).length≤sizeLine∧QM ms (acc++y) sl S1 E Q
  | _=>False:=rfl
@[simp] theorem Qah:(HQ sl S).sx F N T=False:=by unfold HQ; simp
@[simp] theorem Xr {m:M} {cs:List (List qQ×MS)}:(B5 m cs sl S).sx F N T=(m sl S).sx (yJ F sl) fun d S1=>match view S1 d with
  | some (.lst ps)=>(gk cs ps sl S1).sx F N T
  | _=>False:=by
 unfold B5; rw[kK]; congr 1; funext d S1
 cases view S1 d with
 | none=>simp
 | some q=>cases q <;> simp
@[simp] theorem Qbr {cs:List Str} {f:Str} {m:M}:(mw cs f m sl S).sx E R=(m sl S).sx E fun d S1=>(yk cs f S1 d).sx E R:=by unfold mw; rw[aM]
theorem Ag {cs:List Str} {f c:Str} {ks:List Str} {ps:List P} {p:P} (hc:c∈cs) (h:sM ks (ps.map D.p) f=some (.p p)):(yk cs f S (.p (.ins c ks ps))).sx E R=R (.p p) S:=by
 unfold yk
 simp only[lE,if_pos hc,h,aG]
@[simp] theorem VL {cn:Str} {f:Fn} {neg:Bool} {m1 m2:M}:(Cq cn f neg m1 m2 sl S).sx E R=(m1 sl S).sx E fun d1 S1=>(m2 sl S1).sx E fun d2 S2=>(UH cn f neg d1 d2 S2).sx E R:=by
 unfold Cq; simp only[aM]
@[simp] theorem XN {cn:Str} {n:Nat} {dfl:List P} {f:Fn} {mo:M} {ma:MA}:(Bu cn n dfl f mo ma sl S).sx E R=(mo sl S).sx E fun d S1=>match d with
  | .p (.glo c)=>c=cn∧(ma sl S1).sx E fun ds S2=>ds.length=n∧(f (.p (.glo cn)::(ds++dfl.map .p)) S2).sx E R
  | _=>False:=by
 unfold Bu; rw[aM]; congr 1; funext d S1
 cases d with
 | ref n=>simp
 | p q =>
  cases q <;> first
   | (simp; done)
   | skip
  simp only[jb,aM]
theorem GD {cn:Str} {n i:Nat} {dfl:List P} {f:Fn} {ma:MA} (h:sl[i]?=some (some (.p (.glo cn)))):oZ cn n dfl f i ma sl S=iU cn n dfl f ma sl S:=by
 unfold oZ; rw[h]; simp only[if_true]
theorem Jy {cn:Str} {n:Nat} {dfl:List P} {f:Fn} {ma:MA}:(iU cn n dfl f ma sl S).sx E R=(ma sl S).sx E fun ds S1=>ds.length=n∧(f (.ref S1.length::(ds++dfl.map .p)) (S1++[.ins cn [] []])).sx E fun d S2=>d=.p .non∧R (.ref S1.length) S2:=by
 unfold iU; rw[aM]; congr 1; funext ds S1
 rw[jb]; congr 1
 cases f (.ref S1.length::(ds++dfl.map .p)) (S1++[.ins cn [] []]) with
 | ok d S2 =>
  cases d with
  | ref _=>simp
  | p q=>cases q <;> simp
 | exc x S2=>simp
 | no=>simp
@[simp] theorem QbF {ms:MI} {eff:oF} {t:MT} {me:M} {own:List Nat}:(LQ ms eff t me own sl S).sx E R=(ms sl S).sx E fun its S1=>(ua eff t me own sl its [] S1).sx E fun ps S2=>R (.ref S2.length) (S2++[.lst (ps.map .p)]):=by unfold LQ; simp only[aM,aG]
@[simp] theorem XD {ma:MA}:(og ma sl S).sx E R=(ma sl S).sx E fun ds S1=>lH (fV S1 ds) fun qs=>lH (xT qs) fun q=>match q with
  | .lst ps=>R (.ref S1.length) (S1++[.lst (ps.map .p)])
  | _=>False:=by
 unfold og; rw[aM]; congr 1; funext ds S1
 cases fV S1 ds with
 | none=>simp
 | some qs =>
  simp only[aq]
  cases xT qs with
  | none=>simp
  | some q=>cases q <;> simp
@[simp] theorem Qbk {mo me:M}:(J2 mo me sl S).sx E R=(mo sl S).sx E fun d S1=>match d with
  | .ref n=>(match S1[n]? with
   | some (.lst _)=>(me sl S1).sx E fun a S2=>match S2[n]?,view S2 a with
    | some (.lst ds),some (.lst ps)=>ds.length+ps.length≤sizeLine∧R (.p .non) (S2.set n (.lst (ds++ps.map .p)))
    | _,_=>False
   | _=>False)
  | _=>False:=by
 unfold J2; rw[aM]; congr 1; funext d S1
 cases d with
 | p q=>simp
 | ref n =>
  simp only[]
  cases S1[n]? with
  | none=>simp
  | some c =>
   cases c <;> first
    | (simp; done)
    | skip
   simp only[aM]
   congr 1; funext a S2
   cases S2[n]? with
   | none=>simp
   | some c' =>
    cases c' <;> first
     | (simp; done)
     | skip
    cases view S2 a with
    | none=>simp
    | some q =>
     cases q <;> first
      | (simp; done)
      | skip
     simp only[jb,aG]
@[simp] theorem Zv {cs:List Str} {f:Str} {mo me:M}:(sr cs f mo me sl S).sx F N T=(me sl S).sx (yJ F sl) fun v S1=>(mo sl S1).sx (yJ F sl) fun d S2=>match d with
  | .ref n=>(match S2[n]? with
   | some (.ins c ks ds)=>(c∈cs∧ks.length < 1000)∧N sl (S2.set n (.ins c (yr f ks) (yz f v ks ds)))
   | _=>False)
  | _=>False:=by
 unfold sr; rw[kK]; congr 1; funext v S1; rw[kK]; congr 1; funext d S2
 cases d with
 | p q=>simp
 | ref n =>
  simp only[]
  cases S2[n]? with
  | none=>simp
  | some c=>cases c <;> simp[GJ]
def clSt (S:ag):Prop:=S.all (lq S.length)=true
theorem fq.clSt {S:ag} (h:fq S):clSt S:=h.cl _
theorem OC {n m:Nat} {c:eQ} (h:lq n c=true) (hm:n≤m):lq m c=true:=by
 have kd:∀ d:D,pk n d=true→pk m d=true:=fun d h=>by
  cases d with
  | p _=>rfl
  | ref k=>simp[pk] at h ⊢; omega
 have key:∀ ds:List D,ds.all (pk n)=true→ds.all (pk m)=true:=fun ds h=>List.all_eq_true.mpr fun d hd=>kd d (List.all_eq_true.mp h d hd)
 cases c with
 | lst ds=>exact key ds h
 | dic _ _ ds=>exact key ds h
 | ins _ _ ds=>exact key ds h
 | dead=>rfl
 | tab _=>rfl
 | tupf _=>rfl
 | tpl ds=>exact key ds h
theorem clSt.app {S L:ag} (h:clSt S) (hL:∀ c∈L,lq (S++L).length c=true):clSt (S++L):=List.all_eq_true.mpr fun c hc=>by
 rcases List.mem_append.mp hc with hc | hc
 · exact OC (List.all_eq_true.mp h c hc) (by simp)
 · exact hL c hc
theorem Gx {r:Rs D} (hS:clSt S) (h:∀ (E':Xc→ag→Prop) (R':D→ag→Prop),(∀ x L,E x S→E' x (S++L))→(∀ d L p,qK (S++L) S.length 8 d=some p→R (.p p) S→R' d (S++L))→r.sx E' R'):(qU S.length r).sx E R:=by
 have h:=h (fun x S'=>∃ L,S'=S++L∧E x S) (fun d S'=>∃ L p,S'=S++L∧qK S' S.length 8 d=some p∧R (.p p) S) (fun _ L h=>⟨L,rfl,h⟩) (fun _ L p h1 h2=>⟨L,p,rfl,h1,h2⟩)
 cases r with
 | no=>exact h.out.elim
 | exc x S' =>
  obtain⟨L,rfl,hE⟩:=h.out
  have e:(S++L).take S.length=S:=List.take_left
  have T1:S.all (lq S.length)=true:=hS
  simp only[qU,e,T1,if_true,SO]
  exact hE
 | ok d S' =>
  obtain⟨L,p,rfl,hf,hR⟩:=h.out
  have e:(S++L).take S.length=S:=List.take_left
  have T1:S.all (lq S.length)=true:=hS
  simp only[qU,e,T1,if_true]
  cases d with
  | p q=>simp only[qK,Option.some.injEq] at hf; subst hf; simp only[SL,e,aG]; exact hR
  | ref m =>
   have hm:¬ m < S.length:=fun hm=>by simp only[qK,if_pos hm] at hf; cases hf
   simp only[SL,if_neg hm,hf,e,aG]
   exact hR
theorem lN {n:Nat} {b:MS} {ds:List D} (hS:clSt S) (h:∀ (F:Xc→av→ag→Prop) (N:av→ag→Prop) (T:D→ag→Prop),(∀ x sl L,E x S→F x sl (S++L))→(∀ sl L,R (.p .non) S→N sl (S++L))→(∀ d L p,qK (S++L) S.length 8 d=some p→R (.p p) S→T d (S++L))→(b (yV n ds) S).sx F N T):(runZ n b ds S).sx E R:=by
 unfold runZ
 refine Gx hS fun E' R' h1 h2=>?_
 rw[bp]
 exact h _ _ _ (fun x _ L=>h1 x L) (fun _ L h=>h2 _ L _ rfl h) h2
theorem Ra {m:M} (hS:clSt S) (h:∀ (E':Xc→ag→Prop) (R':D→ag→Prop),(∀ x L,E x S→E' x (S++L))→(∀ d L p,qK (S++L) S.length 8 d=some p→R (.p p) S→R' d (S++L))→(m sl S).sx E' R'):(A6 m sl S).sx E R:=Gx hS h
end
section
variable {S:ag} {sl:av} {E:Xc→ag→Prop} {R:D→ag→Prop}
theorem sN {z:Str}:∀ zs:List Str,((zs.map P.str).any fun x=>eqv x (.str z))=decide (z∈zs)
 | []=>by simp
 | y::ys=>by
  simp only[List.map_cons,List.any_cons,sN ys,eqv]
  by_cases h:y=z
  · subst h; simp
  · have h':¬ z=y:=fun e=>h e.symm
    simp[h,h']
theorem uE {zs:List Str} {z:Str} (h:∀ y∈zs,ak y=true) (hz:ak z=true):tc (.str z) (.lst (zs.map .str))=some (.bl (decide (z∈zs))):=by
 have h1:fin dpt (.str z)=true:=ff hz
 have h2:fin dpt (.lst (zs.map .str))=true:=wW h
 simp only[tc,h1,h2,true_and,if_true,sN]
theorem GL {zs:List Str} {z:Str} (h:∀ y∈zs,ak y=true) (hz:ak z=true) {neg:Bool}:(zZ neg (.p (.str z)) (.p (.lst (zs.map .str))) S).sx E R=R (.p (.bl (xor neg (decide (z∈zs))))) S:=by
 cases neg <;> simp[zZ,ia,view,jA,uE h hz,El]
theorem qA {zs:List Str} {z:Str} {v:Nat} (hv:S[v]?=some (aL zs)) (h:∀ y∈zs,ak y=true) (hz:ak z=true) {neg:Bool}:(zZ neg (.p (.str z)) (.ref v) S).sx E R=R (.p (.bl (xor neg (decide (z∈zs))))) S:=by
 have hd:ia S (.ref v)=none:=by simp[ia,hv,aL]
 cases neg <;> simp[zZ,hd,mS hv,jA,uE h hz,El] <;> simp[view,uE h hz,El]
theorem jx {vs:List Str} {z:Str}:eQ.lst ((vs.map fun z=>D.p (.str z))++[.p (.str z)])=aL (vs++[z]):=by simp[aL]
theorem rK {vs:List Str} {L:ag}:qK (S++[aL vs]) S.length 8 (.ref S.length)=some (.lst (vs.map .str)):=by
 simp only[qK,Nat.lt_irrefl,if_false,cO,aL]
 rw[xK (g:=fun z=>D.p (.str z)) (h:=P.str) (fun x=>by simp only[qK])]
 rfl
theorem Pm {n:Nat} {z:Str} (h:ak z=true):sm n (.str z)=true:=vy n _ (iV h)
theorem OV {n:Nat} {z:Str} (h:aH z=true):sm n (.str z)=true:=vy n _ (vM h)
end
end Z
namespace Kw
open PySem PySem.Spec PyProof.Rows L2 Z
section
variable {S:ag} {n:Nat} {p:Z.P}
theorem tP {z:Str} (h:ak z=true):bD [.p (.str z)] S=.ok (.p (.bl true)) S:=by rw[bc (n:=0) (Pm h)]; simp[bG,h]
theorem IE {z:Str} (h:aH z=true):cP [.p (.str z)] S=.ok (.p (.bl true)) S:=by rw[bv (n:=0) (OV h)]; simp[fS,h]
theorem vI {ps:List (Str×Str)} (hS:clSt S) (hl:ps.length≤2) (hn:∀ q∈ps,ak q.1=true∧aH q.2=true) (hd:(ps.map (·.1)).Nodup):bJ [.p (.tup (ps.map cN))] S=.ok (.p (.lst ((ps.map (·.1)).map .str))) S:=by
 apply Rs.sx.eq
 unfold bJ kz
 refine lN hS fun F N T _ _ hT=>?_
 refine aJ (b:=false) (S':=S) (tok ?_) (fun h=>nomatch h) fun _=>?_
 · simp[List.replicate]; omega
 refine cY (fun d S1=>d=.ref S.length∧S1=S++[aL []]) (fun R hR=>?_) ?_
 · simp; exact hR _ _ ⟨rfl,by simp[aL]⟩
 rintro _ _ ⟨rfl,rfl⟩
 refine bZ (fun sl S1=>S1=S++[aL (ps.map (·.1))]∧∃ x y,sl=[some (.p (.tup (ps.map cN))),some (.ref S.length),x,y]) (fun R hR=>?_) ?_
 · simp[List.replicate]
   refine jT (fun i sl S1=>S1=S++[aL ((ps.map (·.1)).take i)]∧∃ x y,sl=[some (.p (.tup (ps.map cN))),some (.ref S.length),x,y]) ?_ ?_ ⟨by simp,none,none,rfl⟩
   · rintro i q sl S1 hq ⟨rfl,x,y,rfl⟩
     obtain⟨p,jH,rfl⟩:=jF hq
     obtain⟨z,hz,rfl⟩:∃ z,ps[i]?=some z∧p=cN z:=by
      rw[List.getElem?_map] at jH
      cases hz:ps[i]? with
      | none=>rw[hz] at jH; cases jH
      | some z=>rw[hz] at jH; cases jH; exact⟨z,rfl,rfl⟩
     obtain⟨hi,hze⟩:=List.getElem?_eq_some_iff.mp hz
     have W5:z∈ps:=List.mem_of_getElem? hz
     obtain⟨IY,Cj⟩:=hn z W5
     refine⟨_,rfl,fun R' yB=>?_⟩
     refine aJ (b:=false) (tok ?_) (fun h=>nomatch h) fun _=>?_
     · simp[cN,ef,tP IY,IE Cj]
     have kQ:∀ y∈(ps.map (·.1)).take i,ak y=true:=fun y hy=>by
      obtain⟨q,hq,rfl⟩:=List.mem_map.mp (List.mem_of_mem_take hy)
      exact (hn q hq).1
     have Mh:z.1∉(ps.map (·.1)).take i:=by
      intro hc
      obtain⟨j,hj,e⟩:=List.mem_iff_getElem.mp hc
      simp at hj e
      have:=uq hd (j:=j) (k:=i) (z:=z.1) (by rw[List.getElem?_map,List.getElem?_eq_getElem (by omega)]; simp[e]) (by rw[List.getElem?_map,hz]; rfl)
      omega
     refine aJ (b:=false) (S':=S++[aL ((ps.map (·.1)).take i)]) (tok ?_) (fun h=>nomatch h) fun _=>?_
     · simp[cN,ef]
       rw[qA cO kQ IY]
       simp
       simpa using Mh
     refine nI (fun d S1=>d=.p (.str z.1)∧S1=S++[aL ((ps.map (·.1)).take i)]) rfl cO (fun R hR=>?_) ?_
     · simp[cN,ef]
       exact hR _ _ ⟨rfl,by simp⟩
     rintro _ _ ⟨rfl,rfl⟩
     refine⟨_,cO,by simp; omega,?_⟩
     rw[jx,jI,gW]
     refine yB _ _ ⟨?_,_,_,rfl⟩
     rw[List.take_succ,List.getElem?_map,hz]
     rfl
   · rintro sl S1 ⟨rfl,x,y,rfl⟩
     refine hR _ _ ⟨?_,x,y,rfl⟩
     rw[ko,List.length_map,List.take_of_length_le (by simp)]
 rintro _ _ ⟨rfl,x,y,rfl⟩
 simp
 exact hT _ _ _ (rK (L:=[])) ⟨by simp,rfl⟩
end
end Kw
namespace Z
open PySem PySem.Spec PyProof.Rows L2
theorem cg {a b:Str} (ha:di a=true) (hb:di b=true):bP (.str a) (.str b)=some (.bl (decide (a=b))):=by
 rw[jC (show fin dpt (.str a)=true from ha) (show fin dpt (.str b)=true from hb)]
 simp only[eqv]
 by_cases h:a=b <;> simp[h]
@[simp] theorem Rh:bP (.str (Str.ofString "read")) (.str (Str.ofString "read"))=some (.bl true):=by rw[cg Kw.Eb Kw.Eb]; rfl
@[simp] theorem Pj:bP (.str (Str.ofString "read")) (.str (Str.ofString "write"))=some (.bl false):=by rw[cg Kw.Eb Kw.JY]; rfl
@[simp] theorem Qd:bP (.str (Str.ofString "read")) (.str (Str.ofString "copy"))=some (.bl false):=by rw[cg Kw.Eb Kw.JZ]; rfl
@[simp] theorem NG:bP (.str (Str.ofString "read")) (.str (Str.ofString "blank"))=some (.bl false):=by rw[cg Kw.Eb Kw.Lr]; rfl
@[simp] theorem QI:bP (.str (Str.ofString "read")) (.str (Str.ofString "tell"))=some (.bl false):=by rw[cg Kw.Eb Kw.Jl]; rfl
@[simp] theorem Oc:bP (.str (Str.ofString "write")) (.str (Str.ofString "read"))=some (.bl false):=by rw[cg Kw.JY Kw.Eb]; rfl
@[simp] theorem M0:bP (.str (Str.ofString "write")) (.str (Str.ofString "write"))=some (.bl true):=by rw[cg Kw.JY Kw.JY]; rfl
@[simp] theorem O7:bP (.str (Str.ofString "write")) (.str (Str.ofString "copy"))=some (.bl false):=by rw[cg Kw.JY Kw.JZ]; rfl
@[simp] theorem M5:bP (.str (Str.ofString "write")) (.str (Str.ofString "blank"))=some (.bl false):=by rw[cg Kw.JY Kw.Lr]; rfl
@[simp] theorem OW:bP (.str (Str.ofString "write")) (.str (Str.ofString "tell"))=some (.bl false):=by rw[cg Kw.JY Kw.Jl]; rfl
@[simp] theorem Qr:bP (.str (Str.ofString "copy")) (.str (Str.ofString "read"))=some (.bl false):=by rw[cg Kw.JZ Kw.Eb]; rfl
@[simp] theorem Np:bP (.str (Str.ofString "copy")) (.str (Str.ofString "write"))=some (.bl false):=by rw[cg Kw.JZ Kw.JY]; rfl
@[simp] theorem Ql:bP (.str (Str.ofString "copy")) (.str (Str.ofString "copy"))=some (.bl true):=by rw[cg Kw.JZ Kw.JZ]; rfl
@[simp] theorem O0:bP (.str (Str.ofString "copy")) (.str (Str.ofString "blank"))=some (.bl false):=by rw[cg Kw.JZ Kw.Lr]; rfl
@[simp] theorem Qm:bP (.str (Str.ofString "copy")) (.str (Str.ofString "tell"))=some (.bl false):=by rw[cg Kw.JZ Kw.Jl]; rfl
@[simp] theorem N9:bP (.str (Str.ofString "blank")) (.str (Str.ofString "read"))=some (.bl false):=by rw[cg Kw.Lr Kw.Eb]; rfl
@[simp] theorem ME:bP (.str (Str.ofString "blank")) (.str (Str.ofString "write"))=some (.bl false):=by rw[cg Kw.Lr Kw.JY]; rfl
@[simp] theorem Ow:bP (.str (Str.ofString "blank")) (.str (Str.ofString "copy"))=some (.bl false):=by rw[cg Kw.Lr Kw.JZ]; rfl
@[simp] theorem MX:bP (.str (Str.ofString "blank")) (.str (Str.ofString "blank"))=some (.bl true):=by rw[cg Kw.Lr Kw.Lr]; rfl
@[simp] theorem N8:bP (.str (Str.ofString "blank")) (.str (Str.ofString "tell"))=some (.bl false):=by rw[cg Kw.Lr Kw.Jl]; rfl
@[simp] theorem Qu:bP (.str (Str.ofString "tell")) (.str (Str.ofString "read"))=some (.bl false):=by rw[cg Kw.Jl Kw.Eb]; rfl
@[simp] theorem OE:bP (.str (Str.ofString "tell")) (.str (Str.ofString "write"))=some (.bl false):=by rw[cg Kw.Jl Kw.JY]; rfl
@[simp] theorem QC:bP (.str (Str.ofString "tell")) (.str (Str.ofString "copy"))=some (.bl false):=by rw[cg Kw.Jl Kw.JZ]; rfl
@[simp] theorem Nq:bP (.str (Str.ofString "tell")) (.str (Str.ofString "blank"))=some (.bl false):=by rw[cg Kw.Jl Kw.Lr]; rfl
@[simp] theorem QN:bP (.str (Str.ofString "tell")) (.str (Str.ofString "tell"))=some (.bl true):=by rw[cg Kw.Jl Kw.Jl]; rfl
theorem GZ {α:Type} {x y z u v t:α} {l:List α}:atI (x::y::z::u::v::t::l) 5=some t:=by
 have:(5:Int) < ((l.length+1+1+1+1+1+1:Nat):Int):=by omega
 simp only[atI,ixN,List.length_cons,if_pos this]; rfl
def EK (q:Str×Int×Int):P:=.tup [.str q.1, .int q.2.1, .int q.2.2]
def aE.rd:aE→Option (Str×Int×Int)
 | .read _ k n o=>some (n,o,Ja k)
 | .copy m _ _ n' o'=>some (n',o',m)
 | _=>none
def aE.wr:aE→Option (Str×Int×Int)
 | .write k n o _=>some (n,o,Ja k)
 | .copy m n o _ _=>some (n,o,m)
 | .blank m n o=>some (n,o,m)
 | _=>none
def aE.sts (s:aE):List (Str×Int×Int):=s.rd.toList++s.wr.toList
def Co (o:Option (Str×Int×Int)):P:=match o with
 | some q=>EK q
 | none=>.non
def aE.kok:aE→Prop
 | .read _ k _ _=>aH k=true
 | .write k _ _ _=>aH k=true
 | _=>True
theorem aE.ok.kok {names vals:List Str} {s:aE} (h:s.ok names vals):s.kok:=by
 cases s with
 | read _ _ _ _=>exact h.2.2.2.1
 | write _ _ _ _=>exact h.1
 | copy _ _ _ _ _=>trivial
 | blank _ _ _=>trivial
 | tell _=>trivial
def gY:aE→P
 | .read x _ _ _=>.str x
 | _=>.non
def eD:aE→P
 | .tell x=>.str x
 | .write _ _ _ (.str x)=>.str x
 | _=>.non
end Z
namespace Kw
open PySem PySem.Spec PyProof.Rows L2 Z
section
variable {S:ag} {s:aE}
theorem xY {k:Str} (h:aH k=true):gb [.p (.str k)] S=.ok (.p (.int (Ja k))) S:=by
 apply Rs.sx.eq
 unfold gb zo
 rw[bp]
 simp[rW h,oW h,ii]
theorem JT (h:s.kok):fR [.p s.p] S=.ok (.p (Co s.rd)) S:=by
 apply Rs.sx.eq
 unfold fR wJ
 rw[bp]
 cases s with
 | read x k n o=>simp[aE.p,ef,lK,kX,xY (show aH k=true from h),aE.rd,Co,EK,aR]
 | write k n o v=>simp[aE.p,ef,aE.rd,Co]
 | copy m n o n' o'=>simp[aE.p,ef,lK,kX,GZ,aE.rd,Co,EK]
 | blank m n o=>simp[aE.p,ef,aE.rd,Co]
 | tell x=>simp[aE.p,ef,aE.rd,Co]
theorem Iw (h:s.kok):eM [.p s.p] S=.ok (.p (Co s.wr)) S:=by
 apply Rs.sx.eq
 unfold eM uL
 rw[bp]
 cases s with
 | read x k n o=>simp[aE.p,ef,aE.wr,Co]
 | write k n o v=>simp[aE.p,ef,lK,kX,xY (show aH k=true from h),aE.wr,Co,EK]
 | copy m n o n' o'=>simp[aE.p,ef,lK,kX,GZ,aE.wr,Co,EK]
 | blank m n o=>simp[aE.p,ef,lK,aE.wr,Co,EK]
 | tell x=>simp[aE.p,ef,aE.wr,Co]
theorem jh:bE [.p s.p] S=.ok (.p (gY s)) S:=by
 apply Rs.sx.eq
 unfold bE tG
 rw[bp]
 cases s <;> simp[aE.p,ef,gY]
theorem Nl {names vals:List Str} (h:s.ok names vals):cK [.p s.p] S=.ok (.p (eD s)) S:=by
 apply Rs.sx.eq
 unfold cK nf
 rw[bp]
 cases s with
 | read x k n o=>simp[aE.p,ef,eD]
 | write k n o v =>
  obtain⟨_,_,_,_,h5⟩:=h
  rcases h5 with ⟨i,rfl,_⟩ | ⟨x,_,rfl⟩
  · simp[aE.p,ef,kX,eD]
  · simp[aE.p,ef,kX,eD]
 | copy m n o n' o'=>simp[aE.p,ef,eD]
 | blank m n o=>simp[aE.p,ef,eD]
 | tell x=>simp[aE.p,ef,eD]
end
end Kw
namespace Z
open PySem PySem.Spec PyProof.Rows L2
def Sr:P→P
 | .tup [_, .int a, .int b]=>.bl (decide (a+b≤8))
 | _=>.non
def LR:P→P
 | .tup [a,_,_]=>a
 | _=>.non
theorem rL (s:aE):s.sts.length≤2:=by unfold aE.sts; cases s.rd <;> cases s.wr <;> simp
theorem FN (s:aE):([Co s.rd,Co s.wr].filter fun p=>!kr p)=s.sts.map EK:=by
 unfold aE.sts
 cases s.rd <;> cases s.wr <;> simp[Co,kr,EK]
theorem zF {names vals:List Str} {s:aE} (h:s.ok names vals) (hn:∀ z∈names,ak z=true) (hv:∀ z∈vals,ak z=true):cC s.p=true:=by
 have UT:∀ {o:Int} {k:Str},aH k=true→0≤o→o+Ja k≤8→eO (.int o)=true:=fun hk h0 h1=>by
  have:=fM hk
  simp[eO]; omega
 cases s with
 | read x k n o =>
  obtain⟨h1,h2,h3,h4,h5,h6,h7⟩:=h
  simp[aE.p,cC,cM,bG,fS,h1,h4,hn n h5,UT h4 h6 h7]
 | write k n o v =>
  obtain⟨h1,h2,h3,h4,h5⟩:=h
  have hval:la v=true:=by
   rcases h5 with ⟨i,rfl,hi⟩ | ⟨x,hx,rfl⟩
   · simpa [la,wQ,bG] using hi
   · simp[la,wQ,bG,hv x hx]
  have e:¬ (Str.ofString "write" = Str.ofString "read"):=by decide +kernel
  simp[aE.p,cC,cM,bG,fS,h1,hn n h2,UT h1 h3 h4,hval,e]
 | copy m n o n' o' =>
  obtain⟨h1,h2,h3,h4,h5,h6,h7⟩:=h
  have e:¬ (Str.ofString "copy" = Str.ofString "read"):=by decide +kernel
  have e2:¬ (Str.ofString "copy" = Str.ofString "write"):=by decide +kernel
  have hm:iw (.int m)=true:=by simp[iw]; omega
  have ho:eO (.int o)=true:=by simp[eO]; omega
  have ho':eO (.int o')=true:=by simp[eO]; omega
  simp[aE.p,cC,cM,bG,e,e2,hn n h2,hn n' h5,hm,ho,ho']
 | blank m n o =>
  obtain⟨h1,h2,h3,h4⟩:=h
  have e:¬ (Str.ofString "blank" = Str.ofString "read"):=by decide +kernel
  have e2:¬ (Str.ofString "blank" = Str.ofString "write"):=by decide +kernel
  have e3:¬ (Str.ofString "blank" = Str.ofString "copy"):=by decide +kernel
  have hm:iw (.int m)=true:=by simp[iw]; omega
  have ho:eO (.int o)=true:=by simp[eO]; omega
  simp[aE.p,cC,cM,bG,e,e2,e3,hn n h2,hm,ho]
 | tell x =>
  have e:¬ (Str.ofString "tell" = Str.ofString "read"):=by decide +kernel
  have e2:¬ (Str.ofString "tell" = Str.ofString "write"):=by decide +kernel
  have e3:¬ (Str.ofString "tell" = Str.ofString "copy"):=by decide +kernel
  have e4:¬ (Str.ofString "tell" = Str.ofString "blank"):=by decide +kernel
  simp[aE.p,cC,cM,bG,e,e2,e3,e4,hv x h]
theorem Lz {names vals:List Str} {s:aE} (h:s.ok names vals):∀ q∈s.sts,q.1∈names∧q.2.1+q.2.2≤8:=by
 intro q hq
 unfold aE.sts at hq
 cases s with
 | read x k n o =>
  obtain⟨h1,h2,h3,h4,h5,h6,h7⟩:=h
  simp[aE.rd,aE.wr] at hq; subst hq; exact⟨h5,h7⟩
 | write k n o v =>
  obtain⟨h1,h2,h3,h4,h5⟩:=h
  simp[aE.rd,aE.wr] at hq; subst hq; exact⟨h2,h4⟩
 | copy m n o n' o' =>
  obtain⟨h1,h2,h3,h4,h5,h6,h7⟩:=h
  simp[aE.rd,aE.wr] at hq
  rcases hq with rfl | rfl
  · exact⟨h5,h7⟩
  · exact⟨h2,h4⟩
 | blank m n o =>
  obtain⟨h1,h2,h3,h4⟩:=h
  simp[aE.rd,aE.wr] at hq; subst hq; exact⟨h2,h4⟩
 | tell x=>simp[aE.rd,aE.wr] at hq
theorem Pe {names vals:List Str} {s:aE} (h:s.ok names vals) (hn:∀ z∈names,ak z=true) (hv:∀ z∈vals,ak z=true):sm 1 s.p=true:=by
 obtain⟨w,ps,e,h1,h2,_⟩:=tq h hn hv
 rw[e]
 exact vy 1 _ (xC h1 (by simp; omega))
end Z
namespace Kw
open PySem PySem.Spec PyProof.Rows L2 Z
section
variable {S:ag} {s:aE}
theorem rR (h:s.kok):dR [.p s.p] S=.ok (.p (.lst (s.sts.map EK))) S:=by
 apply Rs.sx.eq
 unfold dR vk
 rw[bp]
 simp[JT h,Iw h]
 rw[qb (eff:=bh 1) (t:=tB eW (eV 1) (eK .non)) (me:=eV 1) (own:=[1]) (fun p=>!kr p) id [Co s.rd,Co s.wr] [] (fun q _=>⟨_,rfl,tok (by simp[dz,List.replicate,eW]),fun _=>Rs.sx.eq (by simp[dz,List.replicate])⟩) (aR (by simp))]
 rw[aG,List.map_id,FN]
 simp
theorem rE (h:s.kok):dj [.p s.p] S=.ok (.p (.bl (s.sts.all fun q=>decide (q.2.1+q.2.2≤8)))) S:=by
 apply Rs.sx.eq
 unfold dj qB
 rw[bp]
 simp[rR h]
 have hl:=rL s
 rw[E8 (eff:=eG 3 (aO (bh 1) (aO (bh 2) (aO (bh 3) cu)))) Sr (s.sts.map EK) [] (fun q hq=>by
  obtain⟨x,hx,rfl⟩:=List.mem_map.mp hq
  exact⟨_,rfl,Rs.sx.eq (by simp[dz,List.replicate,EK,Sr])⟩) (aR (by simp; omega))]
 rw[aG]
 have e:([]++(s.sts.map EK).map Sr:List Z.P)=s.sts.map fun q=>.bl (decide (q.2.1+q.2.2≤8)):=by
  rw[List.nil_append,List.map_map]
  exact List.map_congr_left fun q _=>rfl
 rw[e]
 simp[qH,pH]
theorem rq (h:s.kok):cH [.p s.p] S=.ok (.p (.lst ((s.sts.map (·.1)).map .str))) S:=by
 apply Rs.sx.eq
 unfold cH rM
 rw[bp]
 simp[rR h]
 have hl:=rL s
 rw[E8 (eff:=eG 3 (aO (bh 1) (aO (bh 2) (aO (bh 3) cu)))) LR (s.sts.map EK) [] (fun q hq=>by
  obtain⟨x,hx,rfl⟩:=List.mem_map.mp hq
  exact⟨_,rfl,Rs.sx.eq (by simp[dz,List.replicate,EK,LR])⟩) (aR (by simp; omega))]
 rw[aG]
 have e:([]++(s.sts.map EK).map LR:List Z.P)=s.sts.map fun q=>.str q.1:=by
  rw[List.nil_append,List.map_map]
  exact List.map_congr_left fun q _=>rfl
 rw[e]
 simp
end
end Kw
namespace Z
open PySem PySem.Spec PyProof.Rows L2
@[simp] theorem Uv {z:Str}:Z.kr (.str z)=false:=rfl
@[simp] theorem UG {i:Int}:Z.kr (.int i)=false:=rfl
@[simp] theorem UJ {ps:List P}:Z.kr (.tup ps)=false:=rfl
@[simp] theorem Uz {ps:List P}:Z.kr (.lst ps)=false:=rfl
@[simp] theorem WB {b:Bool}:Z.kr (.bl b)=false:=rfl
@[simp] theorem Uq:Z.kr .non=true:=rfl
theorem lJ {α:Type} {eff:oF} {me:M} {own:List Nat} {sl:av} {S:ag} (enc g:α→P) (xs:List α) (acc:List P) (h:∀ x∈xs,∃ sl1,eff (enc x) (dz sl own)=some sl1∧me sl1 S=.ok (.p (g x)) S) (hl:acc.length+xs.length≤sizeLine):ua eff iY me own sl (xs.map enc) acc S=.ok (acc++xs.map g) S:=by
 induction xs generalizing acc with
 | nil=>simp[ua]
 | cons x xs ih =>
  obtain⟨sl1,e1,e2⟩:=h x (List.mem_cons_self ..)
  simp only[List.length_cons] at hl
  simp only[List.map_cons,ua,e1,iY,e2,if_pos (show acc.length < sizeLine by omega)]
  rw[ih (acc++[g x]) (fun y hy=>h y (List.mem_cons_of_mem _ hy)) (by simp; omega)]
  simp
theorem E9 {α:Type} {eff:oF} {t:MT} {me:M} {own:List Nat} {sl:av} {S:ag} (enc g:α→P) (c:α→Bool) (xs:List α) (acc:List P) (h:∀ x∈xs,∃ sl1,eff (enc x) (dz sl own)=some sl1∧t sl1 S=.ok (c x) S∧(c x=true→me sl1 S=.ok (.p (g x)) S)) (hl:acc.length+xs.length≤sizeLine):ua eff t me own sl (xs.map enc) acc S=.ok (acc++(xs.filter c).map g) S:=by
 induction xs generalizing acc with
 | nil=>simp[ua]
 | cons x xs ih =>
  obtain⟨sl1,e1,e2,e3⟩:=h x (List.mem_cons_self ..)
  simp only[List.length_cons] at hl
  simp only[List.map_cons,ua,e1,e2]
  cases hc:c x with
  | true =>
   simp only[e3 hc,if_pos (show acc.length < sizeLine by omega)]
   rw[ih (acc++[g x]) (fun y hy=>h y (List.mem_cons_of_mem _ hy)) (by simp; omega)]
   simp[hc]
  | false =>
   simp only[]
   rw[ih acc (fun y hy=>h y (List.mem_cons_of_mem _ hy)) (by omega)]
   simp[hc]
theorem pV {names:List Str} {s:aE} {vals:List Str} (h:s.ok names vals) (hv:∀ z∈vals,ak z=true):∀ z∈vals++s.made,ak z=true:=by
 intro z hz
 rcases List.mem_append.mp hz with hz | hz
 · exact hv z hz
 · exact zN h z hz
end Z
namespace Kw
open PySem PySem.Spec PyProof.Rows L2 Z
section
variable {S:ag} {n:Nat} {p:Z.P}
theorem si {kn ps:List Str} (hS:clSt S) (hk2:kn.length≤2) (hl:ps.length≤3) (Xv:kn.length+ps.length≤4) (hn:∀ q∈kn++ps,ak q=true) (hd:(kn++ps).Nodup):bg [.p (.tup (ps.map .str)), .p (.lst (kn.map .str))] S=.ok (.p (.lst ((kn++ps).map .str))) S:=by
 apply Rs.sx.eq
 unfold bg jz
 refine lN hS fun F N T _ _ hT=>?_
 refine aJ (b:=false) (S':=S) (tok ?_) (fun h=>nomatch h) fun _=>?_
 · simp[List.replicate]
   split <;> omega
 refine cY (fun d S1=>d=.ref S.length∧S1=S++[aL kn]) (fun R hR=>?_) ?_
 · simp[List.replicate,xT,oC]
   exact hR _ _ ⟨rfl,by simp[aL]⟩
 rintro _ _ ⟨rfl,rfl⟩
 refine bZ (fun sl S1=>S1=S++[aL (kn++ps)]∧∃ x y,sl=[some (.p (.tup (ps.map .str))),some (.p (.lst (kn.map .str))),some (.ref S.length),x,y]) (fun R hR=>?_) ?_
 · simp[List.replicate]
   refine jT (fun i sl S1=>S1=S++[aL (kn++ps.take i)]∧∃ x y,sl=[some (.p (.tup (ps.map .str))),some (.p (.lst (kn.map .str))),some (.ref S.length),x,y]) ?_ ?_ ⟨by simp,none,none,rfl⟩
   · rintro i q sl S1 hq ⟨rfl,x,y,rfl⟩
     obtain⟨p,jH,rfl⟩:=jF hq
     obtain⟨z,hz,rfl⟩:∃ z,ps[i]?=some z∧p=.str z:=by
      rw[List.getElem?_map] at jH
      cases hz:ps[i]? with
      | none=>rw[hz] at jH; cases jH
      | some z=>rw[hz] at jH; cases jH; exact⟨z,rfl,rfl⟩
     obtain⟨hi,hze⟩:=List.getElem?_eq_some_iff.mp hz
     have W5:z∈ps:=List.mem_of_getElem? hz
     have IY:=hn z (List.mem_append_right _ W5)
     have kQ:∀ y∈kn++ps.take i,ak y=true:=fun y hy=>by
      rcases List.mem_append.mp hy with hy | hy
      · exact hn y (List.mem_append_left _ hy)
      · exact hn y (List.mem_append_right _ (List.mem_of_mem_take hy))
     have Mh:z∉kn++ps.take i:=by
      intro hc
      obtain⟨h1,h2,h3⟩:=List.nodup_append.mp hd
      rcases List.mem_append.mp hc with hc | hc
      · exact h3 z hc z W5 rfl
      · obtain⟨j,hj,e⟩:=List.mem_iff_getElem.mp hc
        simp at hj e
        have:=uq h2 (j:=j) (k:=i) (z:=z) (by rw[List.getElem?_eq_getElem (by omega)]; simp[e]) hz
        omega
     refine⟨_,rfl,fun R' yB=>?_⟩
     refine aJ (b:=false) (S':=S++[aL (kn++ps.take i)]) (tok ?_) (fun h=>nomatch h) fun _=>?_
     · simp[tP IY]
       rw[qA cO kQ IY]
       simp
       simpa using Mh
     refine nI (fun d S1=>d=.p (.str z)∧S1=S++[aL (kn++ps.take i)]) rfl cO (fun R hR=>?_) ?_
     · simp
       exact hR _ _ ⟨rfl,by simp⟩
     rintro _ _ ⟨rfl,rfl⟩
     refine⟨_,cO,by simp; omega,?_⟩
     rw[jx,jI,gW]
     refine yB _ _ ⟨?_,_,_,rfl⟩
     rw[List.take_succ,hz,List.append_assoc]
     rfl
   · rintro sl S1 ⟨rfl,x,y,rfl⟩
     refine hR _ _ ⟨?_,x,y,rfl⟩
     rw[ko,List.length_map,List.take_of_length_le (by simp)]
 rintro _ _ ⟨rfl,x,y,rfl⟩
 simp
 exact hT _ _ _ (rK (L:=[])) ⟨by simp,rfl⟩
theorem BN {s:aE} {names vals:List Str} {v:Nat} (h:s.ok names vals) (hn:∀ z∈names,ak z=true) (hv:∀ z∈vals,ak z=true) (hl:S[v]?=some (aL vals)):bC [.p s.p, .p (.lst (names.map .str)), .ref v] S=.ok (.p (.bl true)) S:=by
 apply Rs.sx.eq
 unfold bC lB
 rw[bp]
 have hsm:=Pe h hn hv
 have XX:=Lz h
 have Fw:(s.sts.all fun q=>decide (q.2.1+q.2.2≤8))=true:=List.all_eq_true.mpr fun q hq=>decide_eq_true (XX q hq).2
 refine aJ (b:=false) (S':=S) (tok ?_) (fun h=>nomatch h) fun _=>?_
 · simp[gB hsm,zF h hn hv,rE h.kok,Fw]
 refine aJ (b:=false) (S':=S) (tok ?_) (fun h=>nomatch h) fun _=>?_
 · simp[rq h.kok]
   have hl:=rL s
   rw[lJ (eff:=bh 5) (P.str ∘ fun x=>x.fst) (fun q=>.bl (!decide (q.1∈names))) s.sts [] (fun y hy=>by
    refine⟨_,rfl,Rs.sx.eq ?_⟩
    simp[dz,List.replicate]
    rw[GL hn (hn _ (XX y hy).1)]
    simp) (aR (by simp; omega))]
   rw[aG,List.nil_append]
   simp only[wV,aq]
   simp
   intro a b c hm
   exact (XX _ hm).1
 refine bZ (fun sl S1=>S=S1∧sl=[some (.p s.p),some (.p (.lst (names.map .str))),some (.ref v),some (.p (gY s)),some (.p (eD s)),none]) (fun R hR=>?_) ?_
 · simp[jh,Nl h,List.replicate]
   exact hR _ _ ⟨rfl,rfl⟩
 rintro _ _ ⟨rfl,rfl⟩
 refine aJ (b:=false) (S':=S) (tok ?_) (fun h=>nomatch h) fun _=>?_
 · cases s with
   | read x k n o =>
    obtain⟨h1,h2,h3,_⟩:=h
    simp[gY,eW]
    rw[GL hn h1]
    simp[h2]
    rw[qA hl hv h1]
    simp[h3]
   | _=>simp[gY,eW]
 cases s with
 | tell x =>
  simp[eD,eZ]
  rw[qA hl hv (hv x h)]
  simp
  exact h
 | write k n o w =>
  obtain⟨_,_,_,_,h5⟩:=h
  rcases h5 with ⟨i,rfl,_⟩ | ⟨x,hx,rfl⟩
  · simp[eD,eZ]
  · simp[eD,eZ]
    rw[qA hl hv (hv x hx)]
    simp[hx]
 | _=>simp[eD,eZ]
theorem xg {names:List Str} {ss:List aE} (hS:clSt S) (hl:ss.length≤12) (hn:∀ z∈names,ak z=true) (h:eN names [] ss):bW [.p (.tup (ss.map aE.p)), .p (.lst (names.map .str))] S=.ok (.p .non) S:=by
 apply Rs.sx.eq
 unfold bW lU
 refine lN hS fun F N T _ hN _=>?_
 refine aJ (b:=false) (S':=S) (tok ?_) (fun h=>nomatch h) fun _=>?_
 · simp[List.replicate]; omega
 refine cY (fun d S1=>d=.ref S.length∧S1=S++[aL []]) (fun R hR=>?_) ?_
 · simp; exact hR _ _ ⟨rfl,by simp[aL]⟩
 rintro _ _ ⟨rfl,rfl⟩
 simp[List.replicate]
 refine jT (fun i sl S1=>∃ vals,S1=S++[aL vals]∧vals.length≤i∧(∀ z∈vals,ak z=true)∧eN names vals (ss.drop i)∧∃ x y,sl=[some (.p (.tup (ss.map aE.p))),some (.p (.lst (names.map .str))),some (.ref S.length),x,y]) ?_ ?_ ⟨[],by simp,by simp,by simp,by simpa using h,none,none,rfl⟩
 · rintro i q sl S1 hq ⟨vals,rfl,hvl,hv,hok,x,y,rfl⟩
   obtain⟨p,jH,rfl⟩:=jF hq
   obtain⟨s,hs,rfl⟩:∃ s,ss[i]?=some s∧p=s.p:=by
    rw[List.getElem?_map] at jH
    cases hz:ss[i]? with
    | none=>rw[hz] at jH; cases jH
    | some z=>rw[hz] at jH; cases jH; exact⟨z,rfl,rfl⟩
   obtain⟨hi,XA⟩:=List.getElem?_eq_some_iff.mp hs
   have hdr:ss.drop i=s::ss.drop (i+1):=by rw[List.drop_eq_getElem_cons hi,XA]
   rw[hdr] at hok
   obtain⟨WM,hok2⟩:=hok
   refine⟨_,rfl,fun R' yB=>?_⟩
   refine aJ (b:=false) (S':=S++[aL vals]) (tok ?_) (fun h=>nomatch h) fun _=>?_
   · simp[BN WM hn hv cO]
   cases s with
   | read x k n o =>
    refine aJ (b:=true) (S':=S++[aL vals]) (tok ?_) (fun _=>?_) (fun h=>nomatch h)
    · simp[jh,gY,eW]
    refine nI (fun d S1=>d=.p (.str x)∧S1=S++[aL vals]) rfl cO (fun R hR=>?_) ?_
    · simp[jh,gY]
      exact hR _ _ ⟨rfl,by simp⟩
    rintro _ _ ⟨rfl,rfl⟩
    refine⟨_,cO,by simp; omega,?_⟩
    rw[jx,jI,gW,gW]
    exact yB _ _ ⟨vals++[x],rfl,by simp; omega,pV WM hv,hok2,_,_,rfl⟩
   | _ =>
    refine aJ (b:=false) (S':=S++[aL vals]) (tok ?_) (fun h=>nomatch h) fun _=>?_
    · simp[jh,gY,eW]
    rw[gW]
    exact yB _ _ ⟨vals,rfl,by omega,hv,by simpa [aE.made] using hok2,_,_,rfl⟩
 · rintro sl S1 ⟨vals,rfl,_,_,_,x,y,rfl⟩
   exact hN _ _ ⟨rfl,rfl⟩
theorem QY:¬ (Str.ofString "places" = Str.ofString "pointers"):=by decide +kernel
theorem QZ:¬ (Str.ofString "places" = Str.ofString "steps"):=by decide +kernel
theorem Qg:¬ (Str.ofString "pointers" = Str.ofString "steps"):=by decide +kernel
def FT:List Str:=["places", "pointers", "steps"]
theorem B9 {t:Txt} {v:Nat} (hS:clSt S) (h:t.ok) (hv:S[v]?=some (.ins "Text" [] [])):aW [.ref v, .p t.pl, .p t.pt, .p t.st] S=.ok (.p .non) (S.set v (.ins "Text" FT [.p t.pl, .p t.pt, .p t.st])):=by
 have key:(aW [.ref v, .p t.pl, .p t.pt, .p t.st] S).sx IK fun a S'=>a=.p .non∧S'=S.set v (.ins "Text" FT [.p t.pl, .p t.pt, .p t.st]):=by
  unfold aW pM
  rw[bp]
  have h1:=vI (S:=S) (ps:=t.places) hS h.pl (fun q hq=>⟨h.nm q.1 (List.mem_append_left _ (List.mem_map_of_mem hq)),h.kd q hq⟩) ((List.nodup_append.mp h.nd).1)
  have hnl:t.places.length+t.ptrs.length≤4:=by have:=h.nl; simpa [Txt.names] using this
  have h2:=si (S:=S) (kn:=t.places.map (fun x:Str×Str=>x.1)) (ps:=t.ptrs) hS (by simpa using h.pl) h.pt (by simpa using hnl) h.nm h.nd
  have h3:=xg (S:=S) (names:=t.names) (ss:=t.steps) hS h.sl h.nm h.st
  have kO:=(List.getElem?_eq_some_iff.mp hv).1
  have e:∀ c,(S.set v c)[v]?=some c:=fun c=>List.getElem?_set_self kO
  have zm:bJ [.p t.pl] S=_:=h1
  have IU:bg [.p t.pt, .p (.lst ((t.places.map (·.1)).map .str))] S=_:=h2
  have Z8:bW [.p t.st, .p (.lst ((t.places.map (·.1)++t.ptrs).map .str))] S=_:=h3
  simp[zm,List.replicate]
  rw[show (t.places.map fun x=>x.1)=t.places.map (·.1) from rfl] at *
  simp only[List.map_map,List.map_append] at zm IU Z8
  simp[IU,Z8,hv,e,yr,yz,QY,QZ,Qg]
  rfl
 obtain⟨a,S',e,rfl,rfl⟩:=key.ok
 exact e
end
end Kw
namespace Z
open PySem PySem.Spec PyProof.Rows L2
section
variable {S:ag} {sl:av} {E:Xc→ag→Prop} {R:D→ag→Prop} {F:Xc→av→ag→Prop} {N:av→ag→Prop} {T:D→ag→Prop}
@[simp] theorem FJ {cn m:Str} {n:Nat} {dfl:List P} {f:Fn} {mo:M} {ma:MA}:(jQ cn m n dfl f mo ma sl S).sx E R=(mo sl S).sx E fun d S1=>match lE S1 d with
  | some (c,ks,vs)=>(c=cn∧sM ks vs m=(none:Option D))∧(ma sl S1).sx E fun ds S2=>ds.length=n∧(f (d::(ds++dfl.map .p)) S2).sx E R
  | none=>False:=by
 unfold jQ; rw[aM]; congr 1; funext d S1
 cases lE S1 d with
 | none=>simp
 | some q =>
  obtain⟨c,ks,vs⟩:=q
  simp only[jb,aM]
end
mutual
def wg:P→Bool
 | .non=>true
 | .int _=>true
 | .str _=>true
 | .tup ps=>pI ps
 | .lst ps=>pI ps
 | _=>false
def pI:List P→Bool
 | []=>true
 | p::ps=>wg p && pI ps
end
mutual
theorem vX:∀ (p q:P),wg p=true→wg q=true→(eqv p q=true↔p=q)
 | .non,q,_,h=>by cases q <;> simp[eqv,wg] at h ⊢
 | .int i,q,_,h=>by cases q <;> simp[eqv,wg] at h ⊢
 | .str z,q,_,h=>by cases q <;> simp[eqv,wg] at h ⊢
 | .tup ps,q,hp,h=>by
  cases q <;> simp[eqv,wg] at hp h ⊢
  exact qP ps _ hp h
 | .lst ps,q,hp,h=>by
  cases q <;> simp[eqv,wg] at hp h ⊢
  exact qP ps _ hp h
 | .bl _,_,hp,_=>by simp[wg] at hp
 | .dic _ _ _,_,hp,_=>by simp[wg] at hp
 | .ins _ _ _,_,hp,_=>by simp[wg] at hp
 | .glo _,_,hp,_=>by simp[wg] at hp
 | .ty _,_,hp,_=>by simp[wg] at hp
 | .scr _,_,hp,_=>by simp[wg] at hp
 | .exv _ _ _,_,hp,_=>by simp[wg] at hp
 | .dlk _ _,_,hp,_=>by simp[wg] at hp
theorem qP:∀ (ps qs:List P),pI ps=true→pI qs=true→(eqvAll ps qs=true↔ps=qs)
 | [],[],_,_=>by simp[eqvAll]
 | [],_::_,_,_=>by simp[eqvAll]
 | _::_,[],_,_=>by simp[eqvAll]
 | p::ps,q::qs,hp,hq=>by
  simp only[pI,Bool.and_eq_true] at hp hq
  simp only[eqvAll,Bool.and_eq_true,vX p q hp.1 hq.1,qP ps qs hp.2 hq.2,List.cons.injEq]
end
theorem nu {α:Type} {f:α→P} {xs:List α} (h:∀ x∈xs,wg (f x)=true):pI (xs.map f)=true:=by
 induction xs with
 | nil=>rfl
 | cons x xs ih =>
  simp only[List.map_cons,pI,Bool.and_eq_true]
  exact⟨h x (List.mem_cons_self ..),ih fun y hy=>h y (List.mem_cons_of_mem _ hy)⟩
structure ML (p:P):Prop where
 pl:wg p=true
 fi:fin 20 p=true
theorem ML.fin {p:P} (h:ML p):fin dpt p=true:=ji h.fi (by decide)
theorem ML.int {i:Int}:ML (.int i):=⟨rfl,rfl⟩
theorem ML.non:ML .non:=⟨rfl,rfl⟩
theorem ML.str {z:Str} (h:di z=true):ML (.str z):=⟨rfl,h⟩
abbrev By:=Str×Int
def byP (b:By):P:=.tup [.str b.1, .int b.2]
inductive Bn where
 | fst (b:By)
 | wr (i p:Nat)
deriving DecidableEq
def Bn.p:Bn→P
 | .fst b=>.tup [.str (Str.ofString "first"),byP b]
 | .wr i p=>.tup [.str (Str.ofString "write"), .int i, .int p]
theorem ML.lst {α:Type} {f:α→P} {xs:List α} (h:∀ x∈xs,wg (f x)=true∧Z.fin 10 (f x)=true):ML (.lst (xs.map f)):=⟨by
  simp only[wg]
  exact nu fun x hx=>(h x hx).1,by
  show (xs.map f).all (Z.fin 19)=true
  rw[List.all_eq_true]
  intro p hp
  obtain⟨y,hy,rfl⟩:=List.mem_map.mp hp
  exact ji (h y hy).2 (by decide)⟩
section
variable {S:ag} {sl:av} {E:Xc→ag→Prop} {R:D→ag→Prop} {F:Xc→av→ag→Prop} {N:av→ag→Prop} {T:D→ag→Prop}
@[simp] theorem OG {c:Str} {fs:List Str} {m:M} {ma:MA}:(hU c fs m ma sl S).sx F N T=(ma sl S).sx (yJ F sl) fun ds S1=>lH (cR ds) fun ps=>ps.length=fs.length∧(m (none::(ps.map fun p=>some (Z.D.p p))++[none]) S1).sx IK fun d S2=>match d with
  | .p (.str _)=>F ⟨c,fs.reverse,ps.reverse⟩ sl S2
  | _=>False:=by
 unfold hU; rw[kK]; congr 1; funext ds S1
 cases cR ds with
 | none=>simp
 | some ps =>
  simp only[aq]
  by_cases h:ps.length=fs.length
  · simp only[h,if_true,true_and]
    cases m (none::(ps.map fun p=>some (Z.D.p p))++[none]) S1 with
    | ok d S2 =>
     cases d with
     | ref _=>simp
     | p q=>cases q <;> simp
    | exc _ _=>simp
    | no=>simp
  · simp[h]
theorem WC {i:Nat} {r:Fl}:(Yc i r).sx F N T=r.sx WV (fun sl S=>N (sl.set i none) S) T:=by
 cases r <;> simp[Yc]
theorem U0 {r:Fl}:(X5 r).sx F N T=r.sx WV N T:=by
 cases r <;> simp[X5]
@[simp] theorem Xe {tab:Iz} {i:Nat} {mb:MS} {su:Xc→Nat→MS}:(qO tab i mb su sl S).sx F N T=(mb sl S).sx (fun x sl1 S1=>match J0 tab x.c with
  | some true=>(su x S1.length (sl1.set i (some (.ref S1.length))) (S1++[eQ.dead])).sx WV (fun sl S=>N (sl.set i none) S) T
  | some false=>F x sl1 S1
  | none=>False) N T:=by
 unfold qO
 cases mb sl S with
 | exc x sl1 S1 =>
  simp only[GA]
  cases J0 tab x.c with
  | none=>simp
  | some b=>cases b <;> simp[WC]
 | _=>simp
@[simp] theorem Pz {tab:Iz} {mb su:MS}:(yl tab mb su sl S).sx F N T=(mb sl S).sx (fun x sl1 S1=>match J0 tab x.c with
  | some true=>(su sl1 S1).sx WV N T
  | some false=>F x sl1 S1
  | none=>False) N T:=by
 unfold yl
 cases mb sl S with
 | exc x sl1 S1 =>
  simp only[GA]
  cases J0 tab x.c with
  | none=>simp
  | some b=>cases b <;> simp[U0]
 | _=>simp
end
def aE.frm:aE→Prop
 | .read x k n o=>ak x=true∧aH k=true∧ak n=true∧0≤o∧o < 8
 | .write k n o v=>aH k=true∧ak n=true∧0≤o∧o < 8∧((∃ i,v=.int i∧nW i < 10 ^ 40)∨∃ x,ak x=true∧v=.str x)
 | .copy m n o n' o'=>1≤m∧m≤8∧ak n=true∧0≤o∧o < 8∧ak n'=true∧0≤o'∧o' < 8
 | .blank m n o=>1≤m∧m≤8∧ak n=true∧0≤o∧o < 8
 | .tell x=>ak x=true
theorem iF {p:P} (h:bG p=true):∃ z,p=.str z∧ak z=true:=by
 cases p <;> simp[bG] at h
 exact⟨_,rfl,h⟩
theorem wL {p:P} (h:fS p=true):∃ z,p=.str z∧aH z=true:=by
 cases p <;> simp[fS] at h
 exact⟨_,rfl,h⟩
theorem mR {p:P} (h:eO p=true):∃ o,p=.int o∧0≤o∧o < 8:=by
 cases p <;> simp[eO] at h
 exact⟨_,rfl,h⟩
theorem xx {p:P} (h:iw p=true):∃ o,p=.int o∧1≤o∧o≤8:=by
 cases p <;> simp[iw] at h
 exact⟨_,rfl,h⟩
theorem HR {p:P} (h:la p=true):(∃ i,p=.int i∧nW i < 10 ^ 40)∨∃ x,ak x=true∧p=.str x:=by
 cases p <;> simp[la] at h
 · exact .inl ⟨_,rfl,by simpa using h⟩
 · exact .inr ⟨_,h,rfl⟩
theorem Ii {p:P} (h:cC p=true):∃ s:aE,p=s.p∧s.frm:=by
 unfold cC at h
 split at h
 · rename_i w ps
   unfold cM at h
   split at h
   · rename_i e; subst e
     split at h
     · simp only[Bool.and_eq_true] at h
       obtain⟨h1,h2,h3,h4⟩:=h
       obtain⟨x,rfl,g1⟩:=iF h1
       obtain⟨k,rfl,g2⟩:=wL h2
       obtain⟨n,rfl,g3⟩:=iF h3
       obtain⟨o,rfl,g4⟩:=mR h4
       exact⟨.read x k n o,rfl,g1,g2,g3,g4⟩
     · cases h
   split at h
   · rename_i e; subst e
     split at h
     · simp only[Bool.and_eq_true] at h
       obtain⟨h1,h2,h3,h4⟩:=h
       obtain⟨k,rfl,g1⟩:=wL h1
       obtain⟨n,rfl,g2⟩:=iF h2
       obtain⟨o,rfl,g3⟩:=mR h3
       exact⟨.write k n o _,rfl,g1,g2,g3.1,g3.2,HR h4⟩
     · cases h
   split at h
   · rename_i e; subst e
     split at h
     · simp only[Bool.and_eq_true] at h
       obtain⟨h1,h2,h3,h4,h5⟩:=h
       obtain⟨m,rfl,g1⟩:=xx h1
       obtain⟨n,rfl,g2⟩:=iF h2
       obtain⟨o,rfl,g3⟩:=mR h3
       obtain⟨n',rfl,g4⟩:=iF h4
       obtain⟨o',rfl,g5⟩:=mR h5
       exact⟨.copy m n o n' o',rfl,g1.1,g1.2,g2,g3.1,g3.2,g4,g5⟩
     · cases h
   split at h
   · rename_i e; subst e
     split at h
     · simp only[Bool.and_eq_true] at h
       obtain⟨h1,h2,h3⟩:=h
       obtain⟨m,rfl,g1⟩:=xx h1
       obtain⟨n,rfl,g2⟩:=iF h2
       obtain⟨o,rfl,g3⟩:=mR h3
       exact⟨.blank m n o,rfl,g1.1,g1.2,g2,g3⟩
     · cases h
   split at h
   · rename_i e; subst e
     split at h
     · obtain⟨x,rfl,g1⟩:=iF h
       exact⟨.tell x,rfl,g1⟩
     · cases h
   · cases h
 · cases h
theorem aE.frm.kok {s:aE} (h:s.frm):s.kok:=by
 cases s with
 | read _ _ _ _=>exact h.2.1
 | write _ _ _ _=>exact h.1
 | copy _ _ _ _ _=>trivial
 | blank _ _ _=>trivial
 | tell _=>trivial
theorem ra {s:aE} (h:s.frm):cC s.p=true:=by
 have e1:¬ (Str.ofString "write" = Str.ofString "read"):=by decide +kernel
 have e2:¬ (Str.ofString "copy" = Str.ofString "read"):=by decide +kernel
 have e3:¬ (Str.ofString "copy" = Str.ofString "write"):=by decide +kernel
 have e4:¬ (Str.ofString "blank" = Str.ofString "read"):=by decide +kernel
 have e5:¬ (Str.ofString "blank" = Str.ofString "write"):=by decide +kernel
 have e6:¬ (Str.ofString "blank" = Str.ofString "copy"):=by decide +kernel
 have e7:¬ (Str.ofString "tell" = Str.ofString "read"):=by decide +kernel
 have e8:¬ (Str.ofString "tell" = Str.ofString "write"):=by decide +kernel
 have e9:¬ (Str.ofString "tell" = Str.ofString "copy"):=by decide +kernel
 have e10:¬ (Str.ofString "tell" = Str.ofString "blank"):=by decide +kernel
 cases s with
 | read x k n o =>
  obtain⟨h1,h2,h3,h4,h5⟩:=h
  simp[aE.p,cC,cM,bG,fS,eO,h1,h2,h3,h4,h5]
 | write k n o v =>
  obtain⟨h1,h2,h3,h4,h5⟩:=h
  have hval:la v=true:=by
   rcases h5 with ⟨i,rfl,hi⟩ | ⟨x,hx,rfl⟩
   · simpa [la] using hi
   · simp[la,hx]
  simp[aE.p,cC,cM,bG,fS,eO,h1,h2,h3,h4,hval,e1]
 | copy m n o n' o' =>
  obtain⟨h1,h2,h3,h4,h5,h6,h7,h8⟩:=h
  simp[aE.p,cC,cM,bG,iw,eO,h1,h2,h3,h4,h5,h6,h7,h8,e2,e3]
 | blank m n o =>
  obtain⟨h1,h2,h3,h4,h5⟩:=h
  simp[aE.p,cC,cM,bG,iw,eO,h1,h2,h3,h4,h5,e4,e5,e6]
 | tell x =>
  have h:ak x=true:=h
  simp[aE.p,cC,cM,bG,h,e7,e8,e9,e10]
def aE.mk:aE→Option Str
 | .read x _ _ _=>some x
 | _=>none
def aE.us:aE→Option Str
 | .tell x=>some x
 | .write _ _ _ (.str x)=>some x
 | _=>none
def aE.mkB (s:aE) (names vals:List Str):Bool:=match s.mk with
 | some x=>!decide (x∈names) && !decide (x∈vals)
 | none=>true
def aE.usB (s:aE) (vals:List Str):Bool:=match s.us with
 | some x=>decide (x∈vals)
 | none=>true
def aE.fitB (s:aE) (names vals:List Str):Bool :=
 (s.sts.all fun q=>decide (q.2.1+q.2.2≤8)) && ((s.sts.all fun q=>decide (q.1∈names)) && (s.mkB names vals && s.usB vals))
open Classical in
noncomputable def lG (p:P):Option aE:=if h:∃ s:aE,p=s.p∧s.frm then some (choose h) else none
theorem kP {p:P} {s:aE} (h:lG p=some s):p=s.p∧s.frm:=by
 unfold lG at h
 split at h
 · rename_i hh
   cases h
   exact Classical.choose_spec hh
 · cases h
theorem rh {p:P} (h:lG p=none):cC p=false:=by
 unfold lG at h
 split at h
 · cases h
 · rename_i hh
   cases hp:cC p with
   | false=>rfl
   | true=>exact absurd (Ii hp) hh
def tF:P→Option (Str×Str)
 | .tup [.str z, .str k]=>if ak z=true∧aH k=true then some (z,k) else none
 | _=>none
def Ce:P→Option Str
 | .str z=>if ak z=true then some z else none
 | _=>none
theorem Af {p:P} {q:Str×Str} (h:tF p=some q):p=cN q∧ak q.1=true∧aH q.2=true:=by
 unfold tF at h
 split at h
 · split at h
   · rename_i hh; cases h; exact⟨rfl,hh⟩
   · cases h
 · cases h
theorem Ao {p:P} {z:Str} (h:Ce p=some z):p=.str z∧ak z=true:=by
 unfold Ce at h
 split at h
 · split at h
   · rename_i hh; cases h; exact⟨rfl,hh⟩
   · cases h
 · cases h
theorem Hx {p:P} (h:Ce p=none):bG p=false:=by
 cases p <;> simp[Ce,bG] at h ⊢
 exact h
def lw:List Str→Nat→List P→Except Nat (List Str)
 | kn,_,[]=>.ok kn
 | kn,i,p::ps=>match tF p with
  | some q=>if q.1∈kn then .error i else lw (kn++[q.1]) (i+1) ps
  | none=>.error i
def lP:List Str→Nat→List P→Except Nat (List Str)
 | kn,_,[]=>.ok kn
 | kn,i,p::ps=>match Ce p with
  | some z=>if z∈kn then .error i else lP (kn++[z]) (i+1) ps
  | none=>.error i
noncomputable def kT (names:List Str):List Str→Nat→List P→Option Nat
 | _,_,[]=>none
 | vs,i,p::ps=>match lG p with
  | some s=>if s.fitB names vs=true then kT names (vs++s.mk.toList) (i+1) ps else some i
  | none=>some i
def FF:Option Nat→P
 | none=>.non
 | some i=>.int (i:Int)
def D3 (pl:P):Except (Option Nat) (List Str):=match pl with
 | .tup ps=>if 2 < ps.length then .error none else match lw [] 0 ps with
  | .ok kn=>.ok kn
  | .error i=>.error (some i)
 | _=>.error none
def D1 (kn:List Str) (pt:P):Except (Option Nat) (List Str):=match pt with
 | .tup ps=>if 3 < ps.length∨4 < kn.length+ps.length then .error none else match lP kn 0 ps with
  | .ok ns=>.ok ns
  | .error i=>.error (some i)
 | _=>.error none
noncomputable def D7 (names:List Str) (st:P):Option (Option Nat):=match st with
 | .tup ps=>if 12 < ps.length then some none else match kT names [] 0 ps with
  | some i=>some (some i)
  | none=>none
 | _=>some none
noncomputable def iZ (pl pt st:P):Option (Str×Option Nat):=match D3 pl with
 | .error ix=>some ("places",ix)
 | .ok kn=>match D1 kn pt with
  | .error ix=>some ("pointers",ix)
  | .ok ns=>match D7 ns st with
   | some ix=>some ("steps",ix)
   | none=>none
theorem uM:∀ {ps:List P} {kn ns:List Str} {i:Nat},lw kn i ps=.ok ns→(∀ z∈kn,ak z=true)→(∀ z∈ns,ak z=true)∧ns.length=kn.length+ps.length
 | [],kn,ns,i,h,hk=>by simp only[lw] at h; cases h; exact⟨hk,by simp⟩
 | p::ps,kn,ns,i,h,hk=>by
  simp only[lw] at h
  cases hp:tF p with
  | none=>rw[hp] at h; cases h
  | some q =>
   rw[hp] at h
   simp only at h
   split at h
   · cases h
   · obtain⟨h1,h2⟩:=uM h (by
      intro z hz
      rcases List.mem_append.mp hz with hz | hz
      · exact hk z hz
      · simp at hz; subst hz; exact (Af hp).2.1)
     refine⟨h1,?_⟩
     simp at h2 ⊢; omega
theorem uW:∀ {ps:List P} {kn ns:List Str} {i:Nat},lP kn i ps=.ok ns→(∀ z∈kn,ak z=true)→(∀ z∈ns,ak z=true)∧ns.length=kn.length+ps.length
 | [],kn,ns,i,h,hk=>by simp only[lP] at h; cases h; exact⟨hk,by simp⟩
 | p::ps,kn,ns,i,h,hk=>by
  simp only[lP] at h
  cases hp:Ce p with
  | none=>rw[hp] at h; cases h
  | some q =>
   rw[hp] at h
   simp only at h
   split at h
   · cases h
   · obtain⟨h1,h2⟩:=uW h (by
      intro z hz
      rcases List.mem_append.mp hz with hz | hz
      · exact hk z hz
      · simp at hz; subst hz; exact (Ao hp).2)
     refine⟨h1,?_⟩
     simp at h2 ⊢; omega
theorem FX {s:aE} (h:s.frm):∀ q∈s.sts,ak q.1=true:=by
 intro q hq
 unfold aE.sts at hq
 cases s with
 | read x k n o=>simp[aE.rd,aE.wr] at hq; subst hq; exact h.2.2.1
 | write k n o v=>simp[aE.rd,aE.wr] at hq; subst hq; exact h.2.1
 | copy m n o n' o' =>
  obtain⟨h1,h2,h3,h4,h5,h6,h7,h8⟩:=h
  simp[aE.rd,aE.wr] at hq
  rcases hq with rfl | rfl
  · exact h6
  · exact h3
 | blank m n o=>simp[aE.rd,aE.wr] at hq; subst hq; exact h.2.2.1
 | tell x=>simp[aE.rd,aE.wr] at hq
theorem UP:∀ i∈List.range 13,(Str.ofString (toString ((i:Nat):Int))).length≤100∧((i:Nat):Int).natAbs.log2 < 1920:=by decide +kernel
def WT:Option Nat→Prop
 | none=>True
 | some i=>i < 13
theorem Tq {ix:Option Nat} (h:WT ix):∃ y:Str,ie (FF ix)=some (.str y)∧y.length≤100:=by
 cases ix with
 | none=>exact⟨_,rfl,by decide +kernel⟩
 | some i =>
  obtain⟨h1,h2⟩:=UP i (List.mem_range.mpr h)
  refine⟨Str.ofString (toString (i:Int)),?_,h1⟩
  simp only[FF,ie,if_pos h2]
theorem Nk {z:Str} (h:z.length≤1000):ie (.str z)=some (.str z):=by simp only[ie,if_pos (aR h)]
def Bc (w:Str) (ix:Option Nat):Xc:=⟨"BadText",["index", "part"],[FF ix, .str w]⟩
end Z
namespace Kw
open PySem PySem.Spec PyProof.Rows L2 Z
section
variable {S:ag} {n:Nat} {p:Z.P} {sl:av} {E:Xc→ag→Prop} {Q:D→ag→Prop} {F:Xc→av→ag→Prop} {N:av→ag→Prop} {T:D→ag→Prop}
theorem jM {w:Str} {ix:Option Nat} {ma:MA} {rest:MS} (hw:w.length≤100) (hi:WT ix) (ha:ma sl S=.ok [.p (.str w), .p (FF ix)] S) (h:F (Bc w ix) sl S):(ao (hU "BadText" ["part", "index"] ft ma) rest sl S).sx F N T:=by
 obtain⟨y,hy,Ut⟩:=Tq hi
 have l1:(Str.ofString "not valid: ").length=11:=by decide +kernel
 have l2:(Str.ofString ", entry ").length=8:=by decide +kernel
 have l0:Str.empty.length=0:=rfl
 rw[dD,OG,ha,aG]
 unfold ft
 simp[Nk (show w.length≤1000 by omega),hy,bL,l1,l2,l0]
 exact⟨aR (by omega),aR (by omega),aR (by omega),h⟩
theorem CG {s:aE} (h:s.frm):cK [.p s.p] S=.ok (.p (eD s)) S:=by
 apply Rs.sx.eq
 unfold cK nf
 rw[bp]
 cases s with
 | read x k n o=>simp[aE.p,ef,eD]
 | write k n o v =>
  obtain⟨_,_,_,_,h5⟩:=h
  rcases h5 with ⟨i,rfl,_⟩ | ⟨x,_,rfl⟩
  · simp[aE.p,ef,kX,eD]
  · simp[aE.p,ef,kX,eD]
 | copy m n o n' o'=>simp[aE.p,ef,eD]
 | blank m n o=>simp[aE.p,ef,eD]
 | tell x=>simp[aE.p,ef,eD]
noncomputable def gZ (names vals:List Str) (p:Z.P):Bool:=match lG p with
 | some s=>s.fitB names vals
 | none=>false
theorem ze {names vals:List Str} {v:Nat} (h:sm n p=true) (hn:∀ z∈names,ak z=true) (hv:∀ z∈vals,ak z=true) (hl:S[v]?=some (aL vals)):bC [.p p, .p (.lst (names.map .str)), .ref v] S=.ok (.p (.bl (gZ names vals p))) S:=by
 apply Rs.sx.eq
 unfold bC lB gZ
 rw[bp]
 cases hs:lG p with
 | none =>
  have Nj:=rh hs
  refine aJ (b:=true) (S':=S) (tok ?_) (fun _=>?_) (fun h=>nomatch h)
  · simp[gB h,Nj]
  · simp
 | some s =>
  obtain⟨rfl,hf⟩:=kP hs
  have Vt:=ra hf
  simp only[aE.fitB]
  cases Fw:(s.sts.all fun q=>decide (q.2.1+q.2.2≤8)) with
  | false =>
   refine aJ (b:=true) (S':=S) (tok ?_) (fun _=>?_) (fun h=>nomatch h)
   · simp[gB h,Vt,rE hf.kok,Fw]
   · simp
  | true =>
   refine aJ (b:=false) (S':=S) (tok ?_) (fun h=>nomatch h) fun _=>?_
   · simp[gB h,Vt,rE hf.kok,Fw]
   have jy:(eF A9 (aC (wH (mE (aw 1 cH (aC (eV 0) (aN)))) (bh 5) iY (Hq true (eV 5) (eV 1)) [5]) (aN)) (yV 6 [.p s.p, .p (.lst (names.map .str)), .ref v]) S).sx IK fun d S'=>d=.p (.bl (!(s.sts.all fun q=>decide (q.1∈names))))∧S'=S:=by
    simp[rq hf.kok]
    have hl:=rL s
    rw[lJ (eff:=bh 5) (P.str ∘ fun x=>x.fst) (fun q=>.bl (!decide (q.1∈names))) s.sts [] (fun y hy=>by
     refine⟨_,rfl,Rs.sx.eq ?_⟩
     simp[dz,List.replicate]
     rw[GL hn (FX hf _ hy)]
     simp) (aR (by simp; omega))]
    rw[aG,List.nil_append]
    simp only[wV,aq]
    simp[List.any_eq_not_all_not]
   have jy:=Rs.sx.eq jy
   cases kQ:(s.sts.all fun q=>decide (q.1∈names)) with
   | false =>
    rw[kQ] at jy
    refine aJ (b:=true) (S':=S) (tok ?_) (fun _=>?_) (fun h=>nomatch h)
    · rw[Eg,jy,aG]; simp[md]
    · simp
   | true =>
    rw[kQ] at jy
    refine aJ (b:=false) (S':=S) (tok ?_) (fun h=>nomatch h) fun _=>?_
    · rw[Eg,jy,aG]; simp[md]
    refine bZ (fun sl S1=>S=S1∧sl=[some (.p s.p),some (.p (.lst (names.map .str))),some (.ref v),some (.p (gY s)),some (.p (eD s)),none]) (fun R hR=>?_) ?_
    · simp[jh,CG hf,List.replicate]
      exact hR _ _ ⟨rfl,rfl⟩
    rintro _ _ ⟨rfl,rfl⟩
    refine aJ (b:=!s.mkB names vals) (S':=S) (tok ?_) (fun hb=>?_) fun hb=>?_
    · cases s with
      | read x k n o =>
       have h1:=hf.1
       simp[gY,eW]
       rw[GL hn h1]
       by_cases h2:x∈names
       · simp[h2,aE.mkB,aE.mk]
       · simp[h2,aE.mkB,aE.mk]
         rw[qA hl hv h1]
         simp[h2,aE.mkB,aE.mk]
      | _=>simp[gY,eW,aE.mkB,aE.mk]
    · simp at hb
      simp[hb]
    · simp at hb
      simp[hb]
      cases s with
      | tell x =>
       simp[eD,eZ]
       rw[qA hl hv (show ak x=true from hf)]
       simp[aE.usB,aE.us]
      | write k n o w =>
       obtain⟨_,_,_,_,h5⟩:=hf
       rcases h5 with ⟨i,rfl,_⟩ | ⟨x,hx,rfl⟩
       · simp[eD,eZ,aE.usB,aE.us]
       · simp[eD,eZ,aE.usB,aE.us]
         rw[qA hl hv hx]
         simp[aE.usB,aE.us]
      | _=>simp[eD,eZ,aE.usB,aE.us]
end
end Kw
namespace Z
open PySem PySem.Spec PyProof.Rows L2
theorem E3 {ma:MA} {sl:av} {S:ag} {as:List D} (h:(ma sl S).sx IK fun ds S'=>ds=as∧S'=S):ma sl S=.ok as S:=by
 obtain⟨a,S',e,rfl,rfl⟩:=h.ok
 exact e
theorem Jc {a b:P}:(tF (.tup [a,b])).isNone=!(bG a && fS b):=by
 cases a <;> cases b <;> simp[tF,bG,fS]
 rename_i z k
 cases h1:ak z <;> cases h2:aH k <;> simp
theorem Lm {qs:List P} (h:qs.length≠2):tF (.tup qs)=none:=by
 unfold tF
 split
 · rename_i e; cases e; simp at h
 · rfl
theorem Li {p:P} (h:∀ qs,p≠.tup qs):tF p=none:=by
 unfold tF
 split
 · rename_i e; exact absurd rfl (h _)
 · rfl
theorem BU {n:Nat} {p:P} (h:sm n p=true):(br [p, .ty "tuple"]=some (.bl false)∧∀ qs,p≠.tup qs)∨∃ qs,p=.tup qs∧∃ m,n=m+1∧∀ q∈qs,sm m q=true:=by
 cases p <;> first | (cases n <;> simp[sm] at h; done) | exact .inr ⟨_,rfl,(sm_tup h).2⟩ | (left; simp)
theorem Bj {α:Type} {xs:List α} {i:Nat} {x:α} (h:xs[i]?=some x):xs.drop i=x::xs.drop (i+1):=by
 obtain⟨hi,he⟩:=List.getElem?_eq_some_iff.mp h
 rw[List.drop_eq_getElem_cons hi,he]
end Z
namespace Kw
open PySem PySem.Spec PyProof.Rows L2 Z
section
variable {S:ag} {n:Nat} {p:Z.P} {sl:av} {E:Xc→ag→Prop} {Q:D→ag→Prop} {F:Xc→av→ag→Prop} {N:av→ag→Prop} {T:D→ag→Prop}
theorem W1:Str.length "places"≤100:=by decide +kernel
theorem Xa:Str.length "pointers"≤100:=by decide +kernel
theorem YR:Str.length "steps"≤100:=by decide +kernel
theorem EW (hS:clSt S) (h:sm n p=true) (k:∀ kn,D3 p=.ok kn→Q (.p (.lst (kn.map .str))) S) (e:∀ ix,D3 p=.error ix→E (Bc "places" ix) S):(bJ [.p p] S).sx E Q:=by
 unfold bJ kz
 refine lN hS fun F N T hF _ hT=>?_
 rcases BU h with ⟨h1,h2⟩ | ⟨ps,rfl,m,rfl,hs⟩
 · have hw:D3 p=.error none:=by cases p <;> first | rfl | exact absurd rfl (h2 _)
   refine aJ (b:=true) (S':=S) (tok ?_) (fun _=>?_) (fun h=>nomatch h)
   · simp[h1]
   · exact jM (ix:=none) W1 trivial (E3 (by simp[FF])) (by simpa using hF _ _ [] (e none hw))
 by_cases hl:2 < ps.length
 · have hw:D3 (.tup ps)=.error none:=by simp only[D3,if_pos hl]
   refine aJ (b:=true) (S':=S) (tok ?_) (fun _=>?_) (fun h=>nomatch h)
   · simp; omega
   · exact jM (ix:=none) W1 trivial (E3 (by simp[FF])) (by simpa using hF _ _ [] (e none hw))
 refine aJ (b:=false) (S':=S) (tok ?_) (fun h=>nomatch h) fun _=>?_
 · simp; omega
 refine cY (fun d S1=>d=.ref S.length∧S1=S++[aL []]) (fun R hR=>?_) ?_
 · simp; exact hR _ _ ⟨rfl,by simp[aL]⟩
 rintro _ _ ⟨rfl,rfl⟩
 refine bZ (fun sl S1=>∃ kn x y,S1=S++[aL kn]∧lw [] 0 ps=.ok kn∧sl=[some (.p (.tup ps)),some (.ref S.length),x,y]) (fun R hR=>?_) ?_
 · simp[List.replicate]
   refine jT (fun i sl S1=>∃ kn x y,S1=S++[aL kn]∧kn.length=i∧(∀ z∈kn,ak z=true)∧lw [] 0 ps=lw kn i (ps.drop i)∧sl=[some (.p (.tup ps)),some (.ref S.length),x,y]) ?_ ?_ ⟨[],none,none,rfl,rfl,by simp,by simp,rfl⟩
   · rintro i q sl S1 hq ⟨kn,x,y,rfl,hkl,hkn,hc,rfl⟩
     obtain⟨p,jH,rfl⟩:=jF hq
     have Vq:=List.mem_of_getElem? jH
     have hi:i < ps.length:=(List.getElem?_eq_some_iff.mp jH).1
     have vT:=hs p Vq
     rw[Bj jH] at hc
     simp only[lw] at hc
     refine⟨_,rfl,fun R' yB=>?_⟩
     refine aJ (b:=(tF p).isNone) (S':=S++[aL kn]) (tok ?_) (fun hb=>?_) fun hb=>?_
     · rcases BU vT with ⟨h1,h2⟩ | ⟨qs,rfl,m',rfl,hqs⟩
       · rw[Li h2]; simp[h1]
       · by_cases h2:qs.length=2
         · obtain⟨a,b,rfl⟩:∃ a b,qs=[a,b]:=by
            match qs,h2 with
            | [a,b],_=>exact⟨a,b,rfl⟩
           rw[Jc]
           simp[ef,bc (hqs a (by simp)),bv (hqs b (by simp))]
           cases bG a <;> cases fS b <;> simp
         · rw[Lm h2]; simp; omega
     · rw[Option.isNone_iff_eq_none.mp hb] at hc
       have hw:D3 (.tup ps)=.error (some i):=by simp only[D3,if_neg hl,hc]
       exact jM (ix:=some i) W1 (show i < 13 by omega) (E3 (by simp[FF])) (hF _ _ _ (e _ hw))
     obtain⟨z,hz⟩:=Option.isSome_iff_exists.mp (by simpa using hb:(tF p).isSome=true)
     rw[hz] at hc
     obtain⟨rfl,IY,Cj⟩:=Af hz
     simp only at hc
     refine aJ (b:=decide (z.1∈kn)) (S':=S++[aL kn]) (tok ?_) (fun hb=>?_) fun hb=>?_
     · simp[cN,ef]
       rw[qA cO hkn IY]
       simp
     · rw[if_pos (by simpa using hb)] at hc
       have hw:D3 (.tup ps)=.error (some i):=by simp only[D3,if_neg hl,hc]
       exact jM (ix:=some i) W1 (show i < 13 by omega) (E3 (by simp[FF])) (hF _ _ _ (e _ hw))
     rw[if_neg (by simpa using hb)] at hc
     refine nI (fun d S1=>d=.p (.str z.1)∧S1=S++[aL kn]) rfl cO (fun R hR=>?_) ?_
     · simp[cN,ef]
       exact hR _ _ ⟨rfl,by simp⟩
     rintro _ _ ⟨rfl,rfl⟩
     refine⟨_,cO,by simp; omega,?_⟩
     rw[jx,jI,gW]
     refine yB _ _ ⟨kn++[z.1],_,_,rfl,by simp[hkl],?_,hc,rfl⟩
     intro y hy
     rcases List.mem_append.mp hy with hy | hy
     · exact hkn y hy
     · simp at hy; subst hy; exact IY
   · rintro sl S1 ⟨kn,x,y,rfl,hkl,hkn,hc,rfl⟩
     refine hR _ _ ⟨kn,x,y,rfl,?_,rfl⟩
     rw[ko,List.drop_length] at hc
     simpa [lw] using hc
 rintro _ _ ⟨kn,x,y,rfl,hc,rfl⟩
 simp
 exact hT _ _ _ (rK (L:=[])) (k kn (by simp only[D3,if_neg hl,hc]))
theorem AS {kn:List Str} (hS:clSt S) (hk2:kn.length≤2) (hkn:∀ z∈kn,ak z=true) (h:sm n p=true) (k:∀ ns,D1 kn p=.ok ns→Q (.p (.lst (ns.map .str))) S) (e:∀ ix,D1 kn p=.error ix→E (Bc "pointers" ix) S):(bg [.p p, .p (.lst (kn.map .str))] S).sx E Q:=by
 unfold bg jz
 refine lN hS fun F N T hF _ hT=>?_
 rcases BU h with ⟨h1,h2⟩ | ⟨ps,rfl,m,rfl,hs⟩
 · have hw:D1 kn p=.error none:=by cases p <;> first | rfl | exact absurd rfl (h2 _)
   refine aJ (b:=true) (S':=S) (tok ?_) (fun _=>?_) (fun h=>nomatch h)
   · simp[h1]
   · exact jM (ix:=none) Xa trivial (E3 (by simp[FF])) (by simpa using hF _ _ [] (e none hw))
 by_cases hl:3 < ps.length∨4 < kn.length+ps.length
 · have hw:D1 kn (.tup ps)=.error none:=by simp only[D1,if_pos hl]
   refine aJ (b:=true) (S':=S) (tok ?_) (fun _=>?_) (fun h=>nomatch h)
   · simp; split <;> omega
   · exact jM (ix:=none) Xa trivial (E3 (by simp[FF])) (by simpa using hF _ _ [] (e none hw))
 refine aJ (b:=false) (S':=S) (tok ?_) (fun h=>nomatch h) fun _=>?_
 · simp; split <;> omega
 refine cY (fun d S1=>d=.ref S.length∧S1=S++[aL kn]) (fun R hR=>?_) ?_
 · simp[List.replicate,xT,oC]
   exact hR _ _ ⟨rfl,by simp[aL]⟩
 rintro _ _ ⟨rfl,rfl⟩
 refine bZ (fun sl S1=>∃ ns x y,S1=S++[aL ns]∧lP kn 0 ps=.ok ns∧sl=[some (.p (.tup ps)),some (.p (.lst (kn.map .str))),some (.ref S.length),x,y]) (fun R hR=>?_) ?_
 · simp[List.replicate]
   refine jT (fun i sl S1=>∃ ns x y,S1=S++[aL ns]∧ns.length=kn.length+i∧(∀ z∈ns,ak z=true)∧lP kn 0 ps=lP ns i (ps.drop i)∧sl=[some (.p (.tup ps)),some (.p (.lst (kn.map .str))),some (.ref S.length),x,y]) ?_ ?_ ⟨kn,none,none,rfl,rfl,hkn,by simp,rfl⟩
   · rintro i q sl S1 hq ⟨ns,x,y,rfl,hkl,hns,hc,rfl⟩
     obtain⟨p,jH,rfl⟩:=jF hq
     have Vq:=List.mem_of_getElem? jH
     have hi:i < ps.length:=(List.getElem?_eq_some_iff.mp jH).1
     have vT:=hs p Vq
     rw[Bj jH] at hc
     simp only[lP] at hc
     refine⟨_,rfl,fun R' yB=>?_⟩
     cases hz:Ce p with
     | none =>
      rw[hz] at hc
      refine aJ (b:=true) (S':=S++[aL ns]) (tok ?_) (fun hb=>?_) (fun h=>nomatch h)
      · simp[bc vT,Hx hz]
      have hw:D1 kn (.tup ps)=.error (some i):=by simp only[D1,if_neg hl,hc]
      exact jM (ix:=some i) Xa (show i < 13 by omega) (E3 (by simp[FF])) (hF _ _ _ (e _ hw))
     | some z =>
      rw[hz] at hc
      obtain⟨rfl,IY⟩:=Ao hz
      simp only at hc
      refine aJ (b:=decide (z∈ns)) (S':=S++[aL ns]) (tok ?_) (fun hb=>?_) fun hb=>?_
      · simp[tP IY]
        rw[qA cO hns IY]
        simp
      · rw[if_pos (by simpa using hb)] at hc
        have hw:D1 kn (.tup ps)=.error (some i):=by simp only[D1,if_neg hl,hc]
        exact jM (ix:=some i) Xa (show i < 13 by omega) (E3 (by simp[FF])) (hF _ _ _ (e _ hw))
      rw[if_neg (by simpa using hb)] at hc
      refine nI (fun d S1=>d=.p (.str z)∧S1=S++[aL ns]) rfl cO (fun R hR=>?_) ?_
      · simp
        exact hR _ _ ⟨rfl,by simp⟩
      rintro _ _ ⟨rfl,rfl⟩
      refine⟨_,cO,by simp; omega,?_⟩
      rw[jx,jI,gW]
      refine yB _ _ ⟨ns++[z],_,_,rfl,by simp[hkl]; omega,?_,hc,rfl⟩
      intro y hy
      rcases List.mem_append.mp hy with hy | hy
      · exact hns y hy
      · simp at hy; subst hy; exact IY
   · rintro sl S1 ⟨ns,x,y,rfl,hkl,hns,hc,rfl⟩
     refine hR _ _ ⟨ns,x,y,rfl,?_,rfl⟩
     rw[ko,List.drop_length] at hc
     simpa [lP] using hc
 rintro _ _ ⟨ns,x,y,rfl,hc,rfl⟩
 simp
 exact hT _ _ _ (rK (L:=[])) (k ns (by simp only[D1,if_neg hl,hc]))
theorem Im {names:List Str} (hS:clSt S) (hn:∀ z∈names,ak z=true) (h:sm n p=true) (k:D7 names p=none→Q (.p .non) S) (e:∀ ix,D7 names p=some ix→E (Bc "steps" ix) S):(bW [.p p, .p (.lst (names.map .str))] S).sx E Q:=by
 unfold bW lU
 refine lN hS fun F N T hF hN _=>?_
 rcases BU h with ⟨h1,h2⟩ | ⟨ps,rfl,m,rfl,hs⟩
 · have hw:D7 names p=some none:=by cases p <;> first | rfl | exact absurd rfl (h2 _)
   refine aJ (b:=true) (S':=S) (tok ?_) (fun _=>?_) (fun h=>nomatch h)
   · simp[h1]
   · exact jM (ix:=none) YR trivial (E3 (by simp[FF])) (by simpa using hF _ _ [] (e none hw))
 by_cases hl:12 < ps.length
 · have hw:D7 names (.tup ps)=some none:=by simp only[D7,if_pos hl]
   refine aJ (b:=true) (S':=S) (tok ?_) (fun _=>?_) (fun h=>nomatch h)
   · simp; omega
   · exact jM (ix:=none) YR trivial (E3 (by simp[FF])) (by simpa using hF _ _ [] (e none hw))
 refine aJ (b:=false) (S':=S) (tok ?_) (fun h=>nomatch h) fun _=>?_
 · simp; omega
 refine cY (fun d S1=>d=.ref S.length∧S1=S++[aL []]) (fun R hR=>?_) ?_
 · simp; exact hR _ _ ⟨rfl,by simp[aL]⟩
 rintro _ _ ⟨rfl,rfl⟩
 simp[List.replicate]
 refine jT (fun i sl S1=>∃ vals,S1=S++[aL vals]∧vals.length≤i∧(∀ z∈vals,ak z=true)∧kT names [] 0 ps=kT names vals i (ps.drop i)∧∃ x y,sl=[some (.p (.tup ps)),some (.p (.lst (names.map .str))),some (.ref S.length),x,y]) ?_ ?_ ⟨[],by simp,by simp,by simp,by simp,none,none,rfl⟩
 · rintro i q sl S1 hq ⟨vals,rfl,hvl,hv,hc,x,y,rfl⟩
   obtain⟨p,jH,rfl⟩:=jF hq
   have Vq:=List.mem_of_getElem? jH
   have hi:i < ps.length:=(List.getElem?_eq_some_iff.mp jH).1
   have vT:=hs p Vq
   rw[Bj jH] at hc
   simp only[kT] at hc
   refine⟨_,rfl,fun R' yB=>?_⟩
   refine aJ (b:=!gZ names vals p) (S':=S++[aL vals]) (tok ?_) (fun hb=>?_) fun hb=>?_
   · simp[ze vT hn hv cO]
   · have hw:D7 names (.tup ps)=some (some i):=by
      have Tv:kT names [] 0 ps=some i:=by
       rw[hc]
       unfold gZ at hb
       cases hz:lG p with
       | none=>rfl
       | some s=>rw[hz] at hb; simp at hb; simp[hb]
      simp only[D7,if_neg hl,Tv]
     exact jM (ix:=some i) YR (show i < 13 by omega) (E3 (by simp[FF])) (hF _ _ _ (e _ hw))
   unfold gZ at hb
   cases hz:lG p with
   | none=>rw[hz] at hb; simp at hb
   | some s =>
    rw[hz] at hb hc
    obtain⟨rfl,hf⟩:=kP hz
    simp at hb
    simp only[hb,if_true] at hc
    cases s with
    | read x k n o =>
     refine aJ (b:=true) (S':=S++[aL vals]) (tok ?_) (fun _=>?_) (fun h=>nomatch h)
     · simp[jh,gY,eW]
     refine nI (fun d S1=>d=.p (.str x)∧S1=S++[aL vals]) rfl cO (fun R hR=>?_) ?_
     · simp[jh,gY]
       exact hR _ _ ⟨rfl,by simp⟩
     rintro _ _ ⟨rfl,rfl⟩
     refine⟨_,cO,by simp; omega,?_⟩
     rw[jx,jI,gW,gW]
     refine yB _ _ ⟨vals++[x],rfl,by simp; omega,?_,hc,_,_,rfl⟩
     intro y hy
     rcases List.mem_append.mp hy with hy | hy
     · exact hv y hy
     · simp at hy; subst hy; exact hf.1
    | _ =>
     refine aJ (b:=false) (S':=S++[aL vals]) (tok ?_) (fun h=>nomatch h) fun _=>?_
     · simp[jh,gY,eW]
     rw[gW]
     exact yB _ _ ⟨vals,rfl,by omega,hv,by simpa [aE.mk] using hc,_,_,rfl⟩
 · rintro sl S1 ⟨vals,rfl,_,_,hc,x,y,rfl⟩
   refine hN _ _ (k ?_)
   rw[ko,List.drop_length] at hc
   simp only[kT] at hc
   simp only[D7,if_neg hl,hc]
end
end Kw
namespace Z
open PySem PySem.Spec PyProof.Rows L2
theorem zY {p:P} {kn:List Str} (h:D3 p=.ok kn):(∀ z∈kn,ak z=true)∧kn.length≤2∧∃ ps,p=.tup ps∧ps.length=kn.length:=by
 unfold D3 at h
 split at h
 · split at h
   · cases h
   · rename_i ps hl
     cases hc:lw [] 0 ps with
     | error i=>rw[hc] at h; cases h
     | ok ns =>
      rw[hc] at h; cases h
      obtain⟨h1,h2⟩:=uM hc (by simp)
      simp at h2
      exact⟨h1,by omega,ps,rfl,h2.symm⟩
 · cases h
theorem HB {p:P} {kn ns:List Str} (h:D1 kn p=.ok ns) (hk:∀ z∈kn,ak z=true):(∀ z∈ns,ak z=true)∧ns.length≤4∧∃ ps,p=.tup ps∧ns.length=kn.length+ps.length:=by
 unfold D1 at h
 split at h
 · split at h
   · cases h
   · rename_i ps hl
     cases hc:lP kn 0 ps with
     | error i=>rw[hc] at h; cases h
     | ok ns' =>
      rw[hc] at h; cases h
      obtain⟨h1,h2⟩:=uW hc hk
      exact⟨h1,by omega,ps,rfl,h2⟩
 · cases h
theorem rF {xs ys:List P} (h:xs.length+ys.length≤1000):ck (.tup xs) (.tup ys)=some (.tup (xs++ys)):=by simp only[ck,if_pos (aR h)]
end Z
namespace Kw
open PySem PySem.Spec PyProof.Rows L2 Z
section
variable {S:ag} {n:Nat} {p pl pt st:Z.P} {sl:av} {E:Xc→ag→Prop} {Q:D→ag→Prop} {F:Xc→av→ag→Prop} {N:av→ag→Prop} {T:D→ag→Prop}
theorem zd {v:Nat} (hS:clSt S) (h1:sm n pl=true) (h2:sm n pt=true) (h3:sm n st=true) (hv:S[v]?=some (.ins "Text" [] []))
  (k:iZ pl pt st=none→Q (.p .non) (S.set v (.ins "Text" FT [.p pl, .p pt, .p st]))) (e:∀ w ix,iZ pl pt st=some (w,ix)→E (Bc w ix) S) :
  (aW [.ref v, .p pl, .p pt, .p st] S).sx E Q:=by
 unfold aW pM
 rw[bp]
 have kO:=(List.getElem?_eq_some_iff.mp hv).1
 have ee:∀ c,(S.set v c)[v]?=some c:=fun c=>List.getElem?_set_self kO
 refine cY (fun d S1=>S=S1∧∃ kn ns,D3 pl=.ok kn∧D1 kn pt=.ok ns∧d=.p (.lst (ns.map .str))) (fun R hR=>?_) ?_
 · simp[List.replicate]
   refine EW hS h1 (fun kn hk=>?_) (fun ix hx=>e _ ix (by simp only[iZ,hx]))
   obtain⟨k1,k2,_⟩:=zY hk
   try simp
   refine AS hS k2 k1 h2 (fun ns hn=>hR _ _ ⟨rfl,kn,ns,hk,hn,rfl⟩) (fun ix hx=>e _ ix (by simp only[iZ,hk,hx]))
 rintro _ _ ⟨rfl,kn,ns,hk,hn,rfl⟩
 obtain⟨k1,k2,_⟩:=zY hk
 obtain⟨n1,n2,_⟩:=HB hn k1
 refine bZ (fun sl S1=>S=S1∧D7 ns st=none∧sl=[some (.ref v),some (.p pl),some (.p pt),some (.p st),some (.p (.lst (ns.map .str)))]) (fun R hR=>?_) ?_
 · simp[List.replicate]
   refine Im hS n1 h3 (fun hw=>hR _ _ ⟨rfl,hw,rfl⟩) (fun ix hx=>e _ ix (by simp only[iZ,hk,hn,hx]))
 rintro _ _ ⟨rfl,hw,rfl⟩
 simp[hv,ee,yr,yz,QY,QZ,Qg]
 exact k (by simp only[iZ,hk,hn,hw])
def ng (pl pt st:Z.P):Z.P:=.ins (Str.ofString "Text") FT [pl,pt,st]
theorem mf {ma:MA} (hS:clSt S) (h1:sm n pl=true) (h2:sm n pt=true) (h3:sm n st=true) (ha:ma sl S=.ok [.p pl, .p pt, .p st] S)
  (k:iZ pl pt st=none→Q (.p (ng pl pt st)) S) (e:∀ w ix,iZ pl pt st=some (w,ix)→E (Bc w ix) S) :
  (A6 (iU "Text" 3 [] aW ma) sl S).sx E Q:=by
 refine Ra hS fun E' R' he hk=>?_
 rw[Jy,ha,aG]
 refine⟨rfl,?_⟩
 have T1:clSt (S++[.ins "Text" [] []]):=hS.app (by intro c hc; simp at hc; subst hc; simp[lq])
 rw[show ([D.p pl, .p pt, .p st]++([]:List Z.P).map D.p)=[.p pl, .p pt, .p st] from rfl]
 refine zd T1 h1 h2 h3 (by simp) (fun hw=>⟨rfl,?_⟩) (fun w ix hw=>he _ _ (e w ix hw))
 rw[jI]
 refine hk _ _ (ng pl pt st) ?_ (k hw)
 simp[qK,nJ,ng]
end
end Kw
namespace Z
open PySem PySem.Spec PyProof.Rows L2
theorem G7 {s t:aE} (h:s.p=t.p):s=t:=by
 cases s <;> cases t <;> simp_all [aE.p]
theorem F8 {s:aE} (h:s.frm):lG s.p=some s:=by
 cases hs:lG s.p with
 | none =>
  have:=rh hs
  rw[ra h] at this; cases this
 | some t =>
  obtain⟨e,_⟩:=kP hs
  rw[G7 e]
theorem Jf {names vals:List Str} {s:aE} (h:s.ok names vals) (hn:∀ z∈names,ak z=true) (hv:∀ z∈vals,ak z=true):s.frm:=by
 cases s with
 | read x k n o =>
  obtain⟨h1,h2,h3,h4,h5,h6,h7⟩:=h
  have:=fM h4
  exact⟨h1,h4,hn n h5,h6,by omega⟩
 | write k n o v =>
  obtain⟨h1,h2,h3,h4,h5⟩:=h
  have:=fM h1
  refine⟨h1,hn n h2,h3,by omega,?_⟩
  rcases h5 with h5 | ⟨x,hx,e⟩
  · exact .inl h5
  · exact .inr ⟨x,hv x hx,e⟩
 | copy m n o n' o' =>
  obtain⟨h1,h2,h3,h4,h5,h6,h7⟩:=h
  exact⟨h1,by omega,hn n h2,h3,by omega,hn n' h5,h6,by omega⟩
 | blank m n o =>
  obtain⟨h1,h2,h3,h4⟩:=h
  exact⟨h1,by omega,hn n h2,h3,by omega⟩
 | tell x=>exact hv x h
theorem Kq {names vals:List Str} {s:aE} (h:s.ok names vals):s.fitB names vals=true:=by
 unfold aE.fitB
 have hs:=Lz h
 have h1:(s.sts.all fun q=>decide (q.2.1+q.2.2≤8))=true:=List.all_eq_true.mpr fun q hq=>decide_eq_true (hs q hq).2
 have h2:(s.sts.all fun q=>decide (q.1∈names))=true:=List.all_eq_true.mpr fun q hq=>decide_eq_true (hs q hq).1
 rw[h1,h2]
 simp only[Bool.true_and,Bool.and_eq_true]
 cases s with
 | read x k n o =>
  obtain⟨g1,g2,g3,_⟩:=h
  simp[aE.mkB,aE.mk,aE.usB,aE.us,g2,g3]
 | write k n o v =>
  obtain⟨_,_,_,_,h5⟩:=h
  rcases h5 with ⟨i,rfl,_⟩ | ⟨x,hx,rfl⟩
  · simp[aE.mkB,aE.mk,aE.usB,aE.us]
  · simp[aE.mkB,aE.mk,aE.usB,aE.us,hx]
 | copy m n o n' o'=>simp[aE.mkB,aE.mk,aE.usB,aE.us]
 | blank m n o=>simp[aE.mkB,aE.mk,aE.usB,aE.us]
 | tell x =>
  have h:x∈vals:=h
  simp[aE.mkB,aE.mk,aE.usB,aE.us,h]
theorem BE {s:aE}:s.mk.toList=s.made:=by cases s <;> rfl
theorem DL {names:List Str} (hn:∀ z∈names,ak z=true):∀ {ss:List aE} {vs:List Str} {i:Nat},eN names vs ss→(∀ z∈vs,ak z=true)→kT names vs i (ss.map aE.p)=none
 | [],_,_,_,_=>rfl
 | s::ss,vs,i,h,hv=>by
  obtain⟨h1,h2⟩:=h
  simp only[List.map_cons,kT,F8 (Jf h1 hn hv),Kq h1,if_true,BE]
  exact DL hn h2 (pV h1 hv)
theorem Hn {z:Str} (h:ak z=true):Ce (.str z)=some z:=by simp[Ce,h]
theorem CJ:∀ {zs kn:List Str} {i:Nat},(∀ z∈zs,ak z=true)→(kn++zs).Nodup→lP kn i (zs.map .str)=.ok (kn++zs)
 | [],kn,i,_,_=>by simp[lP]
 | z::zs,kn,i,h,hd=>by
  have hn:z∉kn:=fun hm=>by
   obtain⟨_,_,h3⟩:=List.nodup_append.mp hd
   exact h3 z hm z (List.mem_cons_self ..) rfl
  simp only[List.map_cons,lP,Hn (h z (List.mem_cons_self ..)),if_neg hn]
  rw[CJ (fun y hy=>h y (List.mem_cons_of_mem _ hy)) (by simpa using hd)]
  simp
theorem Ez {q:Str×Str} (h1:ak q.1=true) (h2:aH q.2=true):tF (cN q)=some q:=by
 obtain⟨z,k⟩:=q
 simp only at h1 h2
 simp[cN,tF,h1,h2]
theorem CQ:∀ {qs:List (Str×Str)} {kn:List Str} {i:Nat},(∀ q∈qs,ak q.1=true∧aH q.2=true)→(kn++qs.map (·.1)).Nodup→lw kn i (qs.map cN)=.ok (kn++qs.map (·.1))
 | [],kn,i,_,_=>by simp[lw]
 | q::qs,kn,i,h,hd=>by
  have hn:q.1∉kn:=fun hm=>by
   obtain⟨_,_,h3⟩:=List.nodup_append.mp hd
   exact h3 q.1 hm q.1 (List.mem_cons_self ..) rfl
  obtain⟨h1,h2⟩:=h q (List.mem_cons_self ..)
  simp only[List.map_cons,lw,Ez h1 h2,if_neg hn]
  rw[CQ (fun y hy=>h y (List.mem_cons_of_mem _ hy)) (by simpa using hd)]
  simp
theorem xw {names:List Str} (hn:∀ z∈names,ak z=true) (q:P):∀ {ss:List aE} {vs:List Str} {i:Nat},eN names vs ss→(∀ z∈vs,ak z=true)→kT names vs i (ss.map aE.p++[q])=if Kw.gZ names (vs++aT ss) q=true then none else some (i+ss.length)
 | [],vs,i,_,_=>by
  simp only[List.map_nil,List.nil_append,kT,aT,List.append_nil,List.length_nil,Nat.add_zero,Kw.gZ]
  cases lG q with
  | none=>simp
  | some s=>by_cases hf:s.fitB names vs=true <;> simp[hf]
 | s::ss,vs,i,h,hv=>by
  obtain⟨h1,h2⟩:=h
  simp only[List.map_cons,List.cons_append,kT,F8 (Jf h1 hn hv),Kq h1,if_true,BE,aT,List.length_cons]
  rw[xw hn q h2 (pV h1 hv)]
  rw[show i+1+ss.length=i+(ss.length+1) by omega,List.append_assoc]
  rfl
section
variable {t:Txt}
theorem Txt.ok.wpl (h:t.ok):D3 t.pl=.ok (t.places.map (·.1)):=by
 have hl:=h.pl
 have hnm:∀ q∈t.places,ak q.1=true∧aH q.2=true:=fun q hq=>⟨h.nm _ (List.mem_append_left _ (List.mem_map_of_mem hq)),h.kd q hq⟩
 show D3 (.tup (t.places.map cN))=_
 simp only[D3]
 rw[if_neg (by simp; omega),CQ hnm (by simpa using (List.nodup_append.mp h.nd).1)]
 rfl
theorem Txt.ok.wpt (h:t.ok):D1 (t.places.map (·.1)) t.pt=.ok t.names:=by
 have hl:=h.pt
 have h4:=h.nl
 show D1 _ (.tup (t.ptrs.map .str))=_
 simp only[D1]
 rw[if_neg (by simp[Txt.names] at h4 ⊢; omega),CJ (fun z hz=>h.nm z (List.mem_append_right _ hz)) h.nd]
 rfl
theorem Txt.ok.wr (h:t.ok):iZ t.pl t.pt t.st=none:=by
 have hl:=h.sl
 have h3:D7 t.names t.st=none:=by
  show D7 t.names (.tup (t.steps.map aE.p))=_
  simp only[D7]
  rw[if_neg (by simp; omega),DL h.nm h.st (by simp)]
 simp only[iZ,h.wpl,h.wpt,h3]
theorem Txt.ok.wr1 (h:t.ok) (hl:t.steps.length < 12) (q:P):iZ t.pl t.pt (.tup (t.steps.map aE.p++[q]))=if Kw.gZ t.names (aT t.steps) q=true then none else some (Str.ofString "steps",some t.steps.length):=by
 have h3:D7 t.names (.tup (t.steps.map aE.p++[q]))=if Kw.gZ t.names (aT t.steps) q=true then none else some (some t.steps.length):=by
  simp only[D7]
  rw[if_neg (by simp; omega),xw h.nm q h.st (by simp)]
  by_cases hf:Kw.gZ t.names (aT t.steps) q=true <;> simp[hf]
 simp only[iZ,h.wpl,h.wpt,h3]
 by_cases hf:Kw.gZ t.names (aT t.steps) q=true <;> simp[hf]
theorem AG {names:List Str} (hn:∀ z∈names,ak z=true):∀ {ss:List aE} {vs:List Str},eN names vs ss→(∀ z∈vs,ak z=true)→∀ z∈vs++aT ss,ak z=true
 | [],vs,_,hv,z,hz=>by simp[aT] at hz; exact hv z hz
 | s::ss,vs,h,hv,z,hz=>AG hn h.2 (pV h.1 hv) z (by simpa [aT] using hz)
end
section
variable {S:ag} {E:Xc→ag→Prop} {R:D→ag→Prop}
theorem VQ {zs:List Str} {z:Str} (h:∀ y∈zs,di y=true) (hz:di z=true):tc (.str z) (.lst (zs.map .str))=some (.bl (decide (z∈zs))):=by
 have h1:fin dpt (.str z)=true:=hz
 have h2:fin dpt (.lst (zs.map .str))=true:=by
  show (zs.map P.str).all (fin 23)=true
  rw[List.all_eq_true]
  intro p hp
  obtain⟨y,hy,rfl⟩:=List.mem_map.mp hp
  exact h y hy
 simp only[tc,h1,h2,true_and,if_true,sN]
theorem WG {zs:List Str} {z:Str} (h:∀ y∈zs,di y=true) (hz:di z=true):tc (.str z) (.tup (zs.map .str))=some (.bl (decide (z∈zs))):=by
 have h1:fin dpt (.str z)=true:=hz
 have h2:fin dpt (.tup (zs.map .str))=true:=by
  show (zs.map P.str).all (fin 23)=true
  rw[List.all_eq_true]
  intro p hp
  obtain⟨y,hy,rfl⟩:=List.mem_map.mp hp
  exact h y hy
 simp only[tc,h1,h2,true_and,if_true,sN]
theorem Tn {zs:List Str} {z:Str} (h:∀ y∈zs,di y=true) (hz:di z=true) {neg:Bool}:(zZ neg (.p (.str z)) (.p (.lst (zs.map .str))) S).sx E R=R (.p (.bl (xor neg (decide (z∈zs))))) S:=by
 cases neg <;> simp[zZ,ia,view,jA,VQ h hz,El]
theorem Wv {zs:List Str} {z:Str} (h:∀ y∈zs,di y=true) (hz:di z=true) {neg:Bool}:(zZ neg (.p (.str z)) (.p (.tup (zs.map .str))) S).sx E R=R (.p (.bl (xor neg (decide (z∈zs))))) S:=by
 cases neg <;> simp[zZ,ia,view,jA,WG h hz,El]
end
theorem xP {zs:List Str} (h:∀ y∈zs,ak y=true):∀ y∈zs,di y=true:=fun y hy=>ff (h y hy)
theorem Dd:∀ ss:List aE,(ss.filter fun s=>!kr (gY s)).map gY=(aT ss).map P.str
 | []=>rfl
 | s::ss=>by
  have ih:=Dd ss
  rw[List.filter_cons]
  cases s with
  | read x k n o =>
   rw[if_pos (show (!kr (gY (aE.read x k n o)))=true from rfl),List.map_cons,ih]; rfl
  | _ =>
   rw[if_neg]
   · rw[ih]; rfl
   · exact fun h=>nomatch h
theorem ZN {d1 d2:D}:yV 2 [d1,d2]=[some d1,some d2]:=rfl
end Z
namespace Kw
open PySem PySem.Spec PyProof.Rows L2 Z
section
variable {S:ag} {t:Txt} {n:Nat} {p q a b c:Z.P} {sl:av} {E:Xc→ag→Prop} {Q:D→ag→Prop}
theorem TZ:(yk [Str.ofString "Text"] (Str.ofString "places") S (.p (ng a b c))).sx E Q=Q (.p a) S:=Ag (List.mem_cons_self ..) (by kernel_rfl)
theorem NH:(yk [Str.ofString "Text"] (Str.ofString "pointers") S (.p (ng a b c))).sx E Q=Q (.p b) S:=Ag (List.mem_cons_self ..) (by kernel_rfl)
theorem Kg:(yk [Str.ofString "Text"] (Str.ofString "steps") S (.p (ng a b c))).sx E Q=Q (.p c) S:=Ag (List.mem_cons_self ..) (by kernel_rfl)
abbrev TX (t:Txt):Z.P:=ng t.pl t.pt t.st
theorem EQ (h:t.ok):cB [.p (TX t)] S=.ok (.p (.tup (t.names.map .str))) S:=by
 apply Rs.sx.eq
 unfold cB sf
 rw[bp]
 have hl:=h.pl
 have hn:=h.nl
 simp[TZ,NH]
 rw[show t.pl=.tup (t.places.map cN) from rfl]
 simp only[oC,aq]
 rw[lJ (eff:=eG 2 (aO (bh 1) (aO (bh 2) cu))) cN (fun q=>.str q.1) t.places [] (fun q hq=>⟨_,rfl,by rfl⟩) (aR (by simp; omega)),aG,List.nil_append]
 simp
 rw[show t.pt=.tup (t.ptrs.map .str) from rfl,rF (by simp[Txt.names] at hn ⊢; omega),aq]
 simp[Txt.names]
theorem Ia (h:t.ok):aV [.p (TX t)] S=.ok (.p (.lst ((aT t.steps).map .str))) S:=by
 apply Rs.sx.eq
 unfold aV kU
 rw[bp]
 have hl:=h.sl
 simp[Kg]
 rw[show t.st=.tup (t.steps.map aE.p) from rfl]
 simp only[oC,aq]
 rw[E9 (eff:=bh 1) aE.p gY (fun s=>!kr (gY s)) t.steps [] (fun s hs=>⟨_,rfl,tok (by simp[dz,List.replicate,jh,eW]),fun _=>Rs.sx.eq (by simp[dz,List.replicate,jh])⟩) (aR (by simp; omega)),aG,List.nil_append,Dd]
 exact⟨rfl,rfl⟩
theorem Mn {α:Type} {xs:List α} {i:Nat} (h:i < xs.length):atI xs (i:Int)=some xs[i]:=by
 have h2:ixN xs.length (i:Int)=some i:=by simp[ixN,h]
 simp only[atI,h2,Option.bind_some]
 exact List.getElem?_eq_getElem h
end
end Kw
namespace Z
open PySem PySem.Spec PyProof.Rows L2
theorem Txt.ok.sms {t:Txt} (h:t.ok):sm 3 t.pl=true∧sm 3 t.pt=true∧sm 3 t.st=true∧∀ s∈t.steps,sq 1 s.p=true:=by
 have h1:=h.pl
 have h2:=h.pt
 have h3:=h.sl
 have hst:∀ s∈t.steps,sq 1 s.p=true:=fun s hs=>by
  obtain⟨w,ps,e,g1,g2,g3⟩:=h.each s hs
  rw[e]
  exact xC g1 (by simp; omega)
 refine⟨?_,?_,?_,hst⟩
 · refine vy 3 _ (Gf (xC (n:=1) (fun q hq=>?_) (by simp; omega)) (by omega))
   obtain⟨z,hz,rfl⟩:=List.mem_map.mp hq
   refine xC (n:=0) (fun q hq=>?_) (by simp)
   simp only[List.mem_cons,List.not_mem_nil,or_false] at hq
   rcases hq with rfl | rfl
   · exact iV (h.nm _ (List.mem_append_left _ (List.mem_map_of_mem hz)))
   · exact vM (h.kd z hz)
 · refine vy 3 _ (Gf (xC (n:=0) (fun q hq=>?_) (by simp; omega)) (by omega))
   obtain⟨z,hz,rfl⟩:=List.mem_map.mp hq
   exact iV (h.nm z (List.mem_append_right _ hz))
 · show (decide ((t.steps.map aE.p).length≤1000) && (t.steps.map aE.p).all (sm 2))=true
   simp
   refine⟨by omega,fun s hs=>?_⟩
   exact vy 2 _ (Gf (hst s hs) (by omega))
end Z
namespace Kw
open PySem PySem.Spec PyProof.Rows L2 Z
section
variable {S:ag} {t:Txt} {n:Nat} {p q a b c:Z.P} {sl:av} {E:Xc→ag→Prop} {Q:D→ag→Prop}
theorem wA {names vals:List Str} (h:sm n p=true) (hn:∀ z∈names,ak z=true) (hv:∀ z∈vals,ak z=true):bC [.p p, .p (.tup (names.map .str)), .p (.lst (vals.map .str))] S=.ok (.p (.bl (gZ names vals p))) S:=by
 apply Rs.sx.eq
 unfold bC lB gZ
 rw[bp]
 cases hs:lG p with
 | none =>
  have Nj:=rh hs
  refine aJ (b:=true) (S':=S) (tok ?_) (fun _=>?_) (fun h=>nomatch h)
  · simp[gB h,Nj]
  · simp
 | some s =>
  obtain⟨rfl,hf⟩:=kP hs
  have Vt:=ra hf
  simp only[aE.fitB]
  cases Fw:(s.sts.all fun q=>decide (q.2.1+q.2.2≤8)) with
  | false =>
   refine aJ (b:=true) (S':=S) (tok ?_) (fun _=>?_) (fun h=>nomatch h)
   · simp[gB h,Vt,rE hf.kok,Fw]
   · simp
  | true =>
   refine aJ (b:=false) (S':=S) (tok ?_) (fun h=>nomatch h) fun _=>?_
   · simp[gB h,Vt,rE hf.kok,Fw]
   have jy:(eF A9 (aC (wH (mE (aw 1 cH (aC (eV 0) (aN)))) (bh 5) iY (Hq true (eV 5) (eV 1)) [5]) (aN)) (yV 6 [.p s.p, .p (.tup (names.map .str)), .p (.lst (vals.map .str))]) S).sx IK fun d S'=>d=.p (.bl (!(s.sts.all fun q=>decide (q.1∈names))))∧S'=S:=by
    simp[rq hf.kok]
    have hl:=rL s
    rw[lJ (eff:=bh 5) (P.str ∘ fun x=>x.fst) (fun q=>.bl (!decide (q.1∈names))) s.sts [] (fun y hy=>by
     refine⟨_,rfl,Rs.sx.eq ?_⟩
     simp[dz,List.replicate]
     rw[Wv (xP hn) (ff (FX hf _ hy))]
     simp) (aR (by simp; omega))]
    rw[aG,List.nil_append]
    simp only[wV,aq]
    simp[List.any_eq_not_all_not]
   have jy:=Rs.sx.eq jy
   cases kQ:(s.sts.all fun q=>decide (q.1∈names)) with
   | false =>
    rw[kQ] at jy
    refine aJ (b:=true) (S':=S) (tok ?_) (fun _=>?_) (fun h=>nomatch h)
    · rw[Eg,jy,aG]; simp[md]
    · simp
   | true =>
    rw[kQ] at jy
    refine aJ (b:=false) (S':=S) (tok ?_) (fun h=>nomatch h) fun _=>?_
    · rw[Eg,jy,aG]; simp[md]
    refine bZ (fun sl S1=>S=S1∧sl=[some (.p s.p),some (.p (.tup (names.map .str))),some (.p (.lst (vals.map .str))),some (.p (gY s)),some (.p (eD s)),none]) (fun R hR=>?_) ?_
    · simp[jh,CG hf,List.replicate]
      exact hR _ _ ⟨rfl,rfl⟩
    rintro _ _ ⟨rfl,rfl⟩
    refine aJ (b:=!s.mkB names vals) (S':=S) (tok ?_) (fun hb=>?_) fun hb=>?_
    · cases s with
      | read x k n o =>
       have h1:=hf.1
       simp[gY,eW]
       rw[Wv (xP hn) (ff h1)]
       by_cases h2:x∈names
       · simp[h2,aE.mkB,aE.mk]
       · simp[h2,aE.mkB,aE.mk]
         rw[Tn (xP hv) (ff h1)]
         simp[h2,aE.mkB,aE.mk]
      | _=>simp[gY,eW,aE.mkB,aE.mk]
    · simp at hb
      simp[hb]
    · simp at hb
      simp[hb]
      cases s with
      | tell x =>
       simp[eD,eZ]
       rw[Tn (xP hv) (ff (show ak x=true from hf))]
       simp[aE.usB,aE.us]
      | write k n o w =>
       obtain⟨_,_,_,_,h5⟩:=hf
       rcases h5 with ⟨i,rfl,_⟩ | ⟨x,hx,rfl⟩
       · simp[eD,eZ,aE.usB,aE.us]
       · simp[eD,eZ,aE.usB,aE.us]
         rw[Tn (xP hv) (ff hx)]
         simp[aE.usB,aE.us]
      | _=>simp[eD,eZ,aE.usB,aE.us]
theorem yW (hS:clSt S) (h:t.ok) (hq:sm 2 q=true)
  (k:t.steps.length < 12→gZ t.names (aT t.steps) q=true→Q (.p (ng t.pl t.pt (.tup (t.steps.map aE.p++[q])))) S)
  (e:(t.steps.length=12∨gZ t.names (aT t.steps) q=false)→E (Bc "steps" (some t.steps.length)) S):(bK [.p (TX t), .p q] S).sx E Q:=by
 unfold bK mL
 rw[bp,ZN]
 have Wq:=h.sl
 obtain⟨s1,s2,s3,s4⟩:=h.sms
 have hm:∀ z∈aT t.steps,ak z=true:=by simpa using AG h.nm h.st (by simp)
 have n1:jQ "Text" "names" 0 [] cB (eV 0) (aN) [some (.p (TX t)),some (.p q)] S=.ok (.p (.tup (t.names.map .str))) S:=Rs.sx.eq (by
  rw[FJ,qz]
  simp only[List.getElem?_cons_zero]
  refine⟨⟨by trivial,by kernel_rfl⟩,?_⟩
  rw[mv]
  refine⟨rfl,?_⟩
  show (cB [.p (TX t)] S).sx _ _
  rw[EQ h,aG]
  exact⟨rfl,rfl⟩)
 have n2:jQ "Text" "made_values" 0 [] aV (eV 0) (aN) [some (.p (TX t)),some (.p q)] S=.ok (.p (.lst ((aT t.steps).map .str))) S:=Rs.sx.eq (by
  rw[FJ,qz]
  simp only[List.getElem?_cons_zero]
  refine⟨⟨by trivial,by kernel_rfl⟩,?_⟩
  rw[mv]
  refine⟨rfl,?_⟩
  show (aV [.p (TX t)] S).sx _ _
  rw[Ia h,aG]
  exact⟨rfl,rfl⟩)
 have n3:eF dh (aC (mw ["Text"] "steps" (eV 0)) (aN)) [some (.p (TX t)),some (.p q)] S=.ok (.p (.int (t.steps.length:Int))) S:=Rs.sx.eq (by
  simp[Kg,Txt.st])
 have n4:aw 3 bC (aC (eV 1) (aC (jQ "Text" "names" 0 [] cB (eV 0) (aN)) (aC (jQ "Text" "made_values" 0 [] aV (eV 0) (aN)) (aN)))) [some (.p (TX t)),some (.p q)] S=.ok (.p (.bl (gZ t.names (aT t.steps) q))) S:=Rs.sx.eq (by
  rw[kS,gy,qz]
  simp only[List.getElem?_cons_succ,List.getElem?_cons_zero]
  rw[gy,n1,aG,gy,n2,aG,mv]
  refine⟨rfl,?_⟩
  rw[wA hq h.nm hm,aG]
  exact⟨rfl,rfl⟩)
 refine aJ (b:=decide (t.steps.length=12) || !gZ t.names (aT t.steps) q) (S':=S) (tok ?_) (fun hb=>?_) (fun hb=>?_)
 · have n5:tN (tV (aw 3 bC (aC (eV 1) (aC (jQ "Text" "names" 0 [] cB (eV 0) (aN)) (aC (jQ "Text" "made_values" 0 [] aV (eV 0) (aN)) (aN)))))) [some (.p (TX t)),some (.p q)] S=.ok (!gZ t.names (aT t.steps) q) S:=tok (by
    rw[XZ,Eg,n4,aG]
    simp[md])
   rw[P6,SQ,SJ,n3,aG,Ek,jU,eA,aq,eA,aq,SV,aq]
   by_cases T6:t.steps.length=12
   · simp[T6]
   · have:¬ ((t.steps.length:Int)=12):=by omega
     simp only[beq_eq_false_iff_ne.mpr this,Kj,T6,decide_false,Bool.false_or,Bool.false_eq_true,if_false]
     rw[n5,aG]
     exact⟨rfl,rfl⟩
 · have hx:t.steps.length=12∨gZ t.names (aT t.steps) q=false:=by simpa using hb
   refine jM (w:="steps") (ix:=some t.steps.length) (by decide +kernel) (show t.steps.length < 13 by omega) ?_ (e hx)
   refine E3 ?_
   rw[gy,Ek,gy,n3,aG,mv]
   exact⟨rfl,rfl⟩
 · obtain⟨T6,hf⟩:¬ t.steps.length=12∧gZ t.names (aT t.steps) q=true:=by simpa using hb
   have hw:=h.wr1 (show t.steps.length < 12 by omega) q
   rw[if_pos hf] at hw
   rw[dD,CU]
   refine mf (n:=3) (pl:=t.pl) (pt:=t.pt) (st:=.tup (t.steps.map aE.p++[q])) hS s1 s2 ?_ (E3 ?_) (fun _=>k (by omega) hf) (fun w ix hw'=>by rw[hw] at hw'; cases hw')
   · simp[sm]
     exact⟨by omega,fun s hs=>vy 2 _ (Gf (s4 s hs) (by omega)),hq⟩
   · simp[TZ,NH,Kg]
     rw[show t.st=.tup (t.steps.map aE.p) from rfl,rF (by simp; omega),aq]
     try exact⟨rfl,rfl⟩
end
end Kw
namespace Z
open PySem PySem.Spec PyProof.Rows L2
theorem Txt.ok.fins {t:Txt} (h:t.ok):fin dpt t.pl=true∧fin dpt t.pt=true∧fin dpt t.st=true:=by
 obtain⟨s1,s2,s3,_⟩:=h.sms
 exact⟨ji (B6 3 _ s1) (by decide),ji (B6 3 _ s2) (by decide),ji (B6 3 _ s3) (by decide)⟩
end Z
namespace Kw
open PySem PySem.Spec PyProof.Rows L2 Z
section
variable {S:ag} {t:Txt} {n:Nat} {p q a b c a' b' c':Z.P} {sl:av} {E:Xc→ag→Prop} {Q:D→ag→Prop}
theorem C5 (h1:fin dpt a=true) (h2:fin dpt b=true) (h3:fin dpt c=true) (k1:fin dpt a'=true) (k2:fin dpt b'=true) (k3:fin dpt c'=true):dU [.p (ng a b c), .p (ng a' b' c')] S=.ok (.p (.bl (eqv a a' && (eqv b b' && eqv c c')))) S:=by
 apply Rs.sx.eq
 unfold dU zD
 rw[bp]
 have hi:JD W6 YA [ng a' b' c', .glo "Text"]=some (.bl true):=by kernel_rfl
 have q1:=jC h1 k1
 have q2:=jC h2 k2
 have q3:=jC h3 k3
 simp[TZ,NH,Kg,hi]
 rw[q1,aq]
 cases e1:eqv a a' with
 | false=>simp[md]
 | true =>
  simp[md,NH]
  rw[q2,aq]
  cases e2:eqv b b' with
  | false=>simp[md]
  | true =>
   simp[md,Kg]
   rw[q3,aq]
theorem FR (h1:fin dpt a=true) (h2:fin dpt b=true) (h3:fin dpt c=true) (k1:fin dpt a'=true) (k2:fin dpt b'=true) (k3:fin dpt c'=true) {neg:Bool}:UH "Text" dU neg (.p (ng a b c)) (.p (ng a' b' c')) S=.ok (.p (.bl (xor neg (eqv a a' && (eqv b b' && eqv c c'))))) S:=by
 unfold UH
 have e:=C5 (S:=S) h1 h2 h3 k1 k2 k3
 simp only[ng] at e
 simp only[ng,lE,and_self,if_true,e]
 cases neg <;> simp
theorem HJ {i j:Nat} (hi:sl[i]?=some (some (.p (TX t)))) (hj:sl[j]?=some (some (.p q))) (hS:clSt S) (h:t.ok) (hq:sm 2 q=true)
  (k:t.steps.length < 12→gZ t.names (aT t.steps) q=true→Q (.p (ng t.pl t.pt (.tup (t.steps.map aE.p++[q])))) S)
  (e:(t.steps.length=12∨gZ t.names (aT t.steps) q=false)→E (Bc "steps" (some t.steps.length)) S):(jQ "Text" "with_step" 1 [] bK (eV i) (aC (eV j) (aN)) sl S).sx E Q:=by
 rw[FJ,qz,hi]
 refine⟨⟨by trivial,by kernel_rfl⟩,?_⟩
 rw[gy,qz,hj]
 simp only[]
 rw[mv]
 exact⟨rfl,yW hS h hq k e⟩
end
end Kw
namespace Z
open PySem PySem.Spec PyProof.Rows L2
def lh (i:Int):Str:=Str.ofString (toString i)
theorem xt {i:Int} (h:0≤i):cs (lh i)=TL.numL i.toNat:=by
 obtain⟨n,rfl⟩:=Int.eq_ofNat_of_zero_le h
 exact TL.tl_num n
theorem Ei {i:Int} (h:i < 0):cs (lh i)=45::TL.numL (-i).toNat:=by
 obtain⟨n,hn⟩:=Int.eq_ofNat_of_zero_le (show 0≤-i by omega)
 have e:toString i = "-"++toString ((n:Nat):Int):=by
  rw[toString_neg h,show (0:Int) - i=((n:Nat):Int) by omega]
 have e2:lh i=Str.ofString "-"++Str.ofString (toString ((n:Nat):Int)):=by
  apply TL.ext_tl
  unfold lh
  rw[e,TL.tl_append,TL.tl_ofString,TL.tl_ofString,TL.tl_ofString,String.toList_append,List.map_append]
 have e3:(-i).toNat=n:=by omega
 rw[e2,cE,e3]
 show cs (Str.ofString "-")++TL.tl _=_
 rw[TL.tl_num,show cs (Str.ofString "-")=[45] by decide +kernel]
 rfl
theorem Az {i:Int}:∀ c∈cs (lh i),c=45∨(48≤c∧c≤57):=by
 intro c hc
 by_cases h:0≤i
 · rw[xt h] at hc; exact .inr (TL.numL_digits _ c hc)
 · rw[Ei (by omega)] at hc
   rcases List.mem_cons.mp hc with hc | hc
   · exact .inl hc
   · exact .inr (TL.numL_digits _ c hc)
theorem wo {i:Int} (h:i.natAbs < 10 ^ 45):(lh i).length≤46:=by
 rw[← fk]
 by_cases h0:0≤i
 · rw[xt h0]
   have:=TL.numL_len (n:=i.toNat) (k:=45) (by decide) (by omega)
   omega
 · rw[Ei (by omega)]
   have:=TL.numL_len (n:=(-i).toNat) (k:=45) (by decide) (by omega)
   simp; omega
theorem GP {i:Int} (h:i.natAbs < 10 ^ 45):ie (.int i)=some (.str (lh i)):=by
 simp only[ie,if_pos (Tt h)]; rfl
theorem lF {z:Str} (h:z.length≤1000):ie (.str z)=some (.str z):=by
 simp only[ie,if_pos (aR h)]
def vD:Str:="+"
def tL:Str:=" "
def lf:Str:="\n"
def gJ (n:Str) (o:Int):Str:=(n++vD)++lh o
def Hu:P→Str
 | .int i=>lh i
 | .str x=>x
 | _=>Str.empty
def aE.words:aE→List Str
 | .read x k n o=>["read",x,k,gJ n o]
 | .write k n o v=>["write",k,gJ n o,Hu v]
 | .copy m n o n' o'=>["copy",lh m,gJ n o,gJ n' o']
 | .blank m n o=>["blank",lh m,gJ n o]
 | .tell x=>["tell",x]
def aE.line (s:aE):Str:=PySem.Txt.join tL s.words
def qM (q:Str×Str):List Str:=["place",q.1,q.2]
def qX (z:Str):List Str:=["pointer",z]
def UA (q:Str×Str):Str:=PySem.Txt.join tL (qM q)
def WH (z:Str):Str:=PySem.Txt.join tL (qX z)
def Txt.lines (t:Txt):List Str:=t.places.map UA++t.ptrs.map WH++t.steps.map aE.line
def Txt.note (t:Txt):Str:=PySem.Txt.join lf t.lines
structure Wd (z:Str):Prop where
 s:32∉cs z
 l:10∉cs z
 n:z.length≤60
theorem tX:∀ c∈cs xu,(48≤c∧c≤57)∨(97≤c∧c≤122):=by decide +kernel
theorem lR {z:Str} (h:ak z=true):Wd z:=by
 have:=dH h
 refine⟨fun hc=>?_,fun hc=>?_,by omega⟩ <;> (have:=tX _ (qY h _ hc); omega)
theorem Em {z:Str} (h:aH z=true):∀ c∈cs z,c∈cs xu:=fun c hc=>by
 have hl:=jk h
 unfold aH at h
 simp only[Bool.and_eq_true,decide_eq_true_eq] at h
 obtain⟨⟨h1,h2⟩,h3,h4,h5⟩:=h
 have CS:(cs z).getLast?=some (gj z):=by
  unfold gj
  cases hz:cs z with
  | nil=>have:=fk z; rw[hz] at this; simp at this; omega
  | cons a b=>simp[List.getLast?_cons]
 rcases List.mem_iff_getElem.mp hc with ⟨i,hi,e⟩
 by_cases X0:i=(cs z).length - 1
 · have:c=gj z:=by
    rw[List.getLast?_eq_getElem?,← X0,List.getElem?_eq_getElem hi,e] at CS
    cases CS; rfl
   subst this
   have:=of_decide_eq_true h4
   rw[lD]; exact List.mem_append_right _ this
 · have:c∈cs (cutS z none (some (-1))):=by
    rw[AY]
    unfold Z.fN
    refine List.mem_iff_getElem.mpr ⟨i,?_,?_⟩
    · simp[HT.sIx]; omega
    · simp[HT.sIx]; exact e
   have:=of_decide_eq_true (List.all_eq_true.mp h3 c this)
   rw[lD]; exact List.mem_append_left _ this
theorem we {z:Str} (h:aH z=true):Wd z:=by
 have:=jk h
 refine⟨fun hc=>?_,fun hc=>?_,by omega⟩ <;> (have:=tX _ (Em h _ hc); omega)
theorem Bl {i:Int} (h:i.natAbs < 10 ^ 45):Wd (lh i):=by
 have:=wo h
 refine⟨fun hc=>?_,fun hc=>?_,by omega⟩ <;> (have:=Az _ hc; omega)
theorem BW:cs vD=[43]:=by decide +kernel
theorem DY:vD.length=1:=by decide +kernel
theorem Hs {o:Int} (h0:0≤o) (h:o≤9):(lh o).length=1:=by
 rw[← fk,xt h0,TL.numL_lt (by omega)]; rfl
theorem rQ {n:Str} {o:Int} (h:ak n=true) (h0:0≤o) (h1:o≤9):Wd (gJ n o):=by
 have hn:=lR h
 have ho:=Bl (i:=o) (by omega)
 have:=dH h
 unfold gJ
 refine⟨fun hc=>?_,fun hc=>?_,by rw[bL,bL,DY,Hs h0 h1]; omega⟩
 · rw[cE,cE,BW] at hc
   simp only[List.mem_append,List.mem_singleton] at hc
   rcases hc with (hc | hc) | hc
   · exact hn.s hc
   · omega
   · exact ho.s hc
 · rw[cE,cE,BW] at hc
   simp only[List.mem_append,List.mem_singleton] at hc
   rcases hc with (hc | hc) | hc
   · exact hn.l hc
   · omega
   · exact ho.l hc
theorem nP {z:Str} (h:(!(cs z).contains 32 && (!(cs z).contains 10 && decide (z.length≤60)))=true):Wd z:=by
 simp at h
 exact⟨h.1,h.2.1,h.2.2⟩
theorem sO {names vals:List Str} {s:aE} (h:s.ok names vals) (hn:∀ z∈names,ak z=true) (hv:∀ z∈vals,ak z=true):∀ w∈s.words,Wd w:=by
 cases s with
 | read x k n o =>
  obtain⟨h1,h2,h3,h4,h5,h6,h7⟩:=h
  have:=fM h4
  intro w hw
  simp only[aE.words,List.mem_cons,List.not_mem_nil,or_false] at hw
  rcases hw with rfl | rfl | rfl | rfl
  · exact nP (by decide +kernel)
  · exact lR h1
  · exact we h4
  · exact rQ (hn _ h5) h6 (by omega)
 | write k n o v =>
  obtain⟨h4,h5,h6,h7,h8⟩:=h
  have:=fM h4
  intro w hw
  simp only[aE.words,List.mem_cons,List.not_mem_nil,or_false] at hw
  rcases hw with rfl | rfl | rfl | rfl
  · exact nP (by decide +kernel)
  · exact we h4
  · exact rQ (hn _ h5) h6 (by omega)
  · rcases h8 with ⟨i,rfl,hi⟩ | ⟨x,hx,rfl⟩
    · exact Bl (by unfold nW at hi; split at hi <;> omega)
    · exact lR (hv _ hx)
 | copy m n o n' o' =>
  obtain⟨h1,h2,h3,h4,h5,h6,h7⟩:=h
  intro w hw
  simp only[aE.words,List.mem_cons,List.not_mem_nil,or_false] at hw
  rcases hw with rfl | rfl | rfl | rfl
  · exact nP (by decide +kernel)
  · exact Bl (by omega)
  · exact rQ (hn _ h2) h3 (by omega)
  · exact rQ (hn _ h5) h6 (by omega)
 | blank m n o =>
  obtain⟨h1,h2,h3,h4⟩:=h
  intro w hw
  simp only[aE.words,List.mem_cons,List.not_mem_nil,or_false] at hw
  rcases hw with rfl | rfl | rfl
  · exact nP (by decide +kernel)
  · exact Bl (by omega)
  · exact rQ (hn _ h2) h3 (by omega)
 | tell x =>
  intro w hw
  simp only[aE.words,List.mem_cons,List.not_mem_nil,or_false] at hw
  rcases hw with rfl | rfl
  · exact nP (by decide +kernel)
  · exact lR (hv _ h)
theorem yw:∀ ys:List Str,oA (ys.map P.str)=some ys
 | []=>rfl
 | y::ys=>by simp only[List.map_cons,oA,yw ys,Option.map_some]
theorem EH {ys:List Str} {b:Nat} (h:∀ y∈ys,y.length≤b):(ys.map (·.length)).sum≤ys.length * b:=by
 induction ys with
 | nil=>simp
 | cons y ys ih =>
  have h1:=h y (List.mem_cons_self ..)
  have h2:=ih fun z hz=>h z (List.mem_cons_of_mem _ hz)
  simp only[List.map_cons,List.sum_cons,List.length_cons,Nat.succ_mul]
  omega
theorem R9 {y:Str} {ys:List Str} (hy:y.length≤1) (h:∀ z∈ys,z.length≤500) (hl:ys.length≤1000):lS y [.lst (ys.map .str)]=some (.str (PySem.Txt.join y ys)):=by
 have:=EH h
 simp only[lS,yw]
 rw[if_pos]
 have h2:ys.length * 500≤1000 * 500:=Nat.mul_le_mul_right _ hl
 have h3:ys.length * y.length≤1000 * 1:=Nat.mul_le_mul hl hy
 omega
theorem Cs (y:Str) (hy:y.length≤1):∀ ys:List Str,(PySem.Txt.join y ys).length≤(ys.map (·.length)).sum+ys.length:=by
 intro ys
 rw[TL.join_eq,← fk]
 show (TL.tl _).length≤_
 rw[TL.tl_join]
 have hy':(TL.tl y).length≤1:=by rw[← TL.len_tl]; exact hy
 induction ys with
 | nil=>simp[TL.joinL]
 | cons z zs ih =>
  cases zs with
  | nil =>
   have e:(TL.tl z).length=z.length:=(TL.len_tl z).symm
   simp only[List.map_cons,List.map_nil,TL.joinL,List.sum_cons,List.sum_nil,List.length_cons,List.length_nil]
   omega
  | cons u us =>
   simp only[List.map_cons,TL.joinL,List.length_append,List.sum_cons,List.length_cons] at ih ⊢
   have e:(TL.tl z).length=z.length:=(TL.len_tl z).symm
   omega
theorem F6 {ws:List Str} (h:∀ w∈ws,Wd w) (hl:ws.length≤4):(PySem.Txt.join tL ws).length≤250:=by
 have h1:=Cs tL (by decide +kernel) ws
 have h2:=EH (b:=60) fun w hw=>(h w hw).n
 omega
theorem HM (s:aE):s.words.length≤4:=by cases s <;> simp[aE.words]
theorem mO {t:Txt} (h:t.ok):∀ l∈t.lines,∃ ws,l=PySem.Txt.join tL ws∧(∀ w∈ws,Wd w)∧ws.length≤4∧ws≠[]:=by
 intro l hl
 unfold Txt.lines at hl
 simp only[List.mem_append,List.mem_map] at hl
 rcases hl with (⟨q,hq,rfl⟩ | ⟨z,hz,rfl⟩) | ⟨s,hs,rfl⟩
 · have h1:ak q.1=true:=h.nm _ (List.mem_append_left _ (List.mem_map_of_mem hq))
   have h2:=h.kd q hq
   refine⟨qM q,rfl,fun w hw=>?_,by simp[qM],by simp[qM]⟩
   simp only[qM,List.mem_cons,List.not_mem_nil,or_false] at hw
   rcases hw with rfl | rfl | rfl
   · exact nP (by decide +kernel)
   · exact lR h1
   · exact we h2
 · have h1:ak z=true:=h.nm _ (List.mem_append_right _ hz)
   refine⟨qX z,rfl,fun w hw=>?_,by simp[qX],by simp[qX]⟩
   simp only[qX,List.mem_cons,List.not_mem_nil,or_false] at hw
   rcases hw with rfl | rfl
   · exact nP (by decide +kernel)
   · exact lR h1
 · obtain⟨vs,h1,h2⟩:=gS h.st (by simp) s hs
   exact⟨s.words,rfl,sO h1 h.nm h2,HM s,by cases s <;> simp[aE.words]⟩
theorem vc {t:Txt} (h:t.ok):∀ l∈t.lines,l.length≤250:=fun l hl=>by
 obtain⟨ws,rfl,h1,h2,_⟩:=mO h l hl
 exact F6 h1 h2
theorem nB {t:Txt} (h:t.ok):t.lines.length≤17:=by
 have h1:=h.pl
 have h2:=h.pt
 have h3:=h.sl
 simp[Txt.lines]; omega
structure aE.fine (s:aE):Prop where
 wd:∀ w∈s.words,Wd w
 nb:match s with
  | .read x k n o=>o.natAbs < 10 ^ 45∧x.length≤60∧k.length≤60∧n.length≤8
  | .write k n o v=>o.natAbs < 10 ^ 45∧k.length≤60∧n.length≤8∧((∃ i,v=.int i∧i.natAbs < 10 ^ 45)∨∃ x:Str,v=.str x∧x.length≤60)
  | .copy m n o n' o'=>m.natAbs < 10 ^ 45∧o.natAbs < 10 ^ 45∧o'.natAbs < 10 ^ 45∧n.length≤8∧n'.length≤8
  | .blank m n o=>m.natAbs < 10 ^ 45∧o.natAbs < 10 ^ 45∧n.length≤8
  | .tell x=>x.length≤60
theorem Nm {names vals:List Str} {s:aE} (h:s.ok names vals) (hn:∀ z∈names,ak z=true) (hv:∀ z∈vals,ak z=true):s.fine:=by
 refine⟨sO h hn hv,?_⟩
 cases s with
 | read x k n o =>
  obtain⟨h1,h2,h3,h4,h5,h6,h7⟩:=h
  have:=fM h4
  have:=dH h1
  have:=jk h4
  have:=dH (hn _ h5)
  exact⟨by omega,by omega,by omega,by omega⟩
 | write k n o v =>
  obtain⟨h4,h5,h6,h7,h8⟩:=h
  have:=fM h4
  have:=jk h4
  have:=dH (hn _ h5)
  refine⟨by omega,by omega,by omega,?_⟩
  rcases h8 with ⟨i,rfl,hi⟩ | ⟨x,hx,rfl⟩
  · exact .inl ⟨i,rfl,by unfold nW at hi; split at hi <;> omega⟩
  · exact .inr ⟨x,rfl,by have:=dH (hv _ hx); omega⟩
 | copy m n o n' o' =>
  obtain⟨h1,h2,h3,h4,h5,h6,h7⟩:=h
  have:=dH (hn _ h2)
  have:=dH (hn _ h5)
  exact⟨by omega,by omega,by omega,by omega,by omega⟩
 | blank m n o =>
  obtain⟨h1,h2,h3,h4⟩:=h
  have:=dH (hn _ h2)
  exact⟨by omega,by omega,by omega⟩
 | tell x=>have:=dH (hv _ h); show x.length≤60; omega
theorem jW (y:Str) (ys:List Str):cs (PySem.Txt.join y ys)=TL.joinL (cs y) (ys.map cs):=by
 rw[TL.join_eq]; exact TL.tl_join y ys
theorem gu {x y:Str} (h:cs x=cs y):x=y:=TL.ext_tl h
@[simp] theorem VD:cs Str.empty=[]:=rfl
theorem TJ:Str.ofString "+" = vD:=rfl
theorem As:Str.ofString " " = tL:=rfl
theorem Wp:Str.ofString "\n" = lf:=rfl
end Z
namespace Kw
open PySem PySem.Spec PyProof.Rows L2 Z
section
variable {S:ag} {s:aE}
theorem iX {n:Str} {o:Int} (h0:o.natAbs < 10 ^ 45) (h:n.length≤8):dB [.p (.str n), .p (.int o)] S=.ok (.p (.str (gJ n o))) S:=by
 apply Rs.sx.eq
 unfold dB uK
 rw[bp]
 have:=wo h0
 have:=DY
 simp[lF (z:=n) (by omega),GP h0,TJ]
 refine⟨aR ?_,aR ?_,aR ?_,?_⟩
 · rw[bL]; show 0+_≤_; omega
 · rw[bL,bL]; show 0+_+_≤_; omega
 · rw[bL,bL,bL]; show 0+_+_+_≤_; omega
 · congr 2
   apply gu
   simp[cE,gJ]
end
end Kw
namespace Z
open PySem PySem.Spec PyProof.Rows L2
theorem Yw {s:aE} (h:s.fine) {w:Str} (hw:w∈s.words):w.length≤60:=(h.wd w hw).n
theorem zE:Str.empty.length=0:=rfl
theorem Va:(Str.ofString "read ").length=5:=by decide +kernel
theorem Tg:(Str.ofString "write ").length=6:=by decide +kernel
theorem V1:(Str.ofString "copy ").length=5:=by decide +kernel
theorem RH:(Str.ofString "blank ").length=6:=by decide +kernel
theorem Ws:(Str.ofString "tell ").length=5:=by decide +kernel
theorem SK:(Str.ofString "place ").length=6:=by decide +kernel
theorem KJ:(Str.ofString "pointer ").length=8:=by decide +kernel
theorem U3:tL.length=1:=by decide +kernel
theorem VM:cs (Str.ofString "read ")=cs (Str.ofString "read")++cs tL:=by decide +kernel
theorem RF:cs (Str.ofString "write ")=cs (Str.ofString "write")++cs tL:=by decide +kernel
theorem VZ:cs (Str.ofString "copy ")=cs (Str.ofString "copy")++cs tL:=by decide +kernel
theorem Sb:cs (Str.ofString "blank ")=cs (Str.ofString "blank")++cs tL:=by decide +kernel
theorem Wx:cs (Str.ofString "tell ")=cs (Str.ofString "tell")++cs tL:=by decide +kernel
theorem R7:cs (Str.ofString "place ")=cs (Str.ofString "place")++cs tL:=by decide +kernel
theorem LY:cs (Str.ofString "pointer ")=cs (Str.ofString "pointer")++cs tL:=by decide +kernel
theorem UO {v:P} (h:(∃ i,v=.int i∧i.natAbs < 10 ^ 45)∨∃ x:Str,v=.str x∧x.length≤60):ie v=some (.str (Hu v)):=by
 rcases h with ⟨i,rfl,hi⟩ | ⟨x,rfl,hx⟩
 · exact GP hi
 · exact lF (by omega)
end Z
namespace Kw
open PySem PySem.Spec PyProof.Rows L2 Z
section
variable {S:ag} {s:aE}
theorem Bb (h:s.fine):gD [.p s.p] S=.ok (.p (.str s.line)) S:=by
 apply Rs.sx.eq
 unfold gD uZ
 rw[bp]
 have Uo:=fun w (hw:w∈s.words)=>Yw h hw
 obtain⟨hw,hb⟩:=h
 have e0:=zE
 have e1:=Va
 have e2:=Tg
 have e3:=V1
 have e4:=RH
 have e5:=Ws
 have e6:=U3
 cases s with
 | read x k n o =>
  obtain⟨h1,h2,h3,h4⟩:=hb
  have h5:=Uo (gJ n o) (by simp[aE.words])
  simp[aE.p,ef,lK,kX,lF (z:=x) (by omega),lF (z:=k) (by omega),iX h1 h4,lF (z:=gJ n o) (by omega),As]
  refine⟨aR ?_,aR ?_,aR ?_,aR ?_,aR ?_,aR ?_,?_⟩
  iterate 6 (· simp only[bL]; omega)
  first | refine congrArg P.str (gu ?_) | refine gu ?_
  simp[aE.line,aE.words,jW,TL.joinL,cE,VM]
 | write k n o v =>
  obtain⟨h1,h3,h4,hv⟩:=hb
  have h5:=Uo (gJ n o) (by simp[aE.words])
  have h6:=Uo (Hu v) (by simp[aE.words])
  simp[aE.p,ef,lK,kX,lF (z:=k) (by omega),iX h1 h4,lF (z:=gJ n o) (by omega),As,UO hv]
  refine⟨aR ?_,aR ?_,aR ?_,aR ?_,aR ?_,aR ?_,?_⟩
  iterate 6 (· simp only[bL]; omega)
  first | refine congrArg P.str (gu ?_) | refine gu ?_
  simp[aE.line,aE.words,jW,TL.joinL,cE,RF]
 | copy m n o n' o' =>
  obtain⟨h0,h1,zm,h4,h4'⟩:=hb
  have h5:=Uo (gJ n o) (by simp[aE.words])
  have h6:=Uo (gJ n' o') (by simp[aE.words])
  have h7:=wo h0
  simp[aE.p,ef,lK,kX,GZ,GP h0,iX h1 h4,iX zm h4',lF (z:=gJ n o) (by omega),lF (z:=gJ n' o') (by omega),As]
  refine⟨aR ?_,aR ?_,aR ?_,aR ?_,aR ?_,aR ?_,?_⟩
  iterate 6 (· simp only[bL]; omega)
  first | refine congrArg P.str (gu ?_) | refine gu ?_
  simp[aE.line,aE.words,jW,TL.joinL,cE,VZ]
 | blank m n o =>
  obtain⟨h0,h1,h4⟩:=hb
  have h5:=Uo (gJ n o) (by simp[aE.words])
  have h7:=wo h0
  simp[aE.p,ef,lK,kX,GZ,GP h0,iX h1 h4,lF (z:=gJ n o) (by omega),As]
  refine⟨aR ?_,aR ?_,aR ?_,aR ?_,?_⟩
  iterate 4 (· simp only[bL]; omega)
  first | refine congrArg P.str (gu ?_) | refine gu ?_
  simp[aE.line,aE.words,jW,TL.joinL,cE,Sb]
 | tell x =>
  have hb:x.length≤60:=hb
  simp[aE.p,ef,lF (z:=x) (by omega)]
  refine⟨aR ?_,aR ?_,?_⟩
  iterate 2 (· simp only[bL]; omega)
  first | refine congrArg P.str (gu ?_) | refine gu ?_
  simp[aE.line,aE.words,jW,TL.joinL,cE,Wx]
theorem C6 {t:Txt} (hS:clSt S) (h:t.ok):iA [.p t.pl, .p t.pt, .p t.st] S=.ok (.p (.lst (t.lines.map .str))) S:=by
 apply Rs.sx.eq
 unfold iA wN
 have hnl:=nB h
 have l1:=SK
 have l2:=KJ
 have l3:=U3
 have l0:=zE
 have hk:∀ q∈t.places,ak q.1=true∧aH q.2=true:=fun q hq=>⟨h.nm _ (List.mem_append_left _ (List.mem_map_of_mem hq)),h.kd q hq⟩
 have hp:∀ z∈t.ptrs,ak z=true:=fun z hz=>h.nm _ (List.mem_append_right _ hz)
 have hs:∀ s∈t.steps,s.fine:=fun s hs=>by
  obtain⟨vs,h1,h2⟩:=gS h.st (by simp) s hs
  exact Nm h1 h.nm h2
 have ll:t.lines.length=t.places.length+t.ptrs.length+t.steps.length:=by simp[Z.Txt.lines]; omega
 refine lN hS fun F N T _ _ hT=>?_
 refine cY (fun d S1=>d=.ref S.length∧S1=S++[aL (t.places.map UA)]) (fun R hR=>?_) ?_
 · simp[List.replicate,Txt.pl]
   rw[lJ cN (fun q=>.str (UA q)) t.places [] (fun q hq=>by
    obtain⟨h1,h2⟩:=hk q hq
    have n1:=dH h1
    have n2:=jk h2
    refine⟨_,rfl,Rs.sx.eq ?_⟩
    simp[dz,lF (z:=q.1) (by omega),lF (z:=q.2) (by omega),As]
    refine⟨aR ?_,aR ?_,aR ?_,aR ?_,?_⟩
    iterate 4 (· simp only[bL]; omega)
    first | refine congrArg P.str (gu ?_) | refine gu ?_
    simp[UA,qM,jW,TL.joinL,cE,R7]) (aR (by simp; omega))]
   simp
   exact hR _ _ ⟨rfl,by simp[aL]⟩
 rintro _ _ ⟨rfl,rfl⟩
 refine bZ (fun sl S1=>S1=S++[aL (t.places.map UA++t.ptrs.map WH)]∧sl=[some (.p t.pl),some (.p t.pt),some (.p t.st),some (.ref S.length),none,none,none]) (fun R hR=>?_) ?_
 · simp[List.replicate,Txt.pt,aL]
   rw[lJ P.str (fun q=>.str (WH q)) t.ptrs [] (fun q hq=>by
    have n1:=dH (hp q hq)
    refine⟨_,rfl,Rs.sx.eq ?_⟩
    simp[dz,lF (z:=q) (by omega)]
    refine⟨aR ?_,aR ?_,?_⟩
    iterate 2 (· simp only[bL]; omega)
    first | refine congrArg P.str (gu ?_) | refine gu ?_
    simp[WH,qX,jW,TL.joinL,cE,LY]) (aR (by simp; omega))]
   simp
   refine⟨aR (by omega),hR _ _ ⟨?_,rfl⟩⟩
   simp[aL,Function.comp_def]
 rintro _ _ ⟨rfl,rfl⟩
 refine bZ (fun sl S1=>S1=S++[aL t.lines]∧sl=[some (.p t.pl),some (.p t.pt),some (.p t.st),some (.ref S.length),none,none,none]) (fun R hR=>?_) ?_
 · simp[Txt.st,aL]
   rw[lJ aE.p (fun q=>.str q.line) t.steps [] (fun q hq=>by
    refine⟨_,rfl,Rs.sx.eq ?_⟩
    simp[dz,Bb (hs q hq)]) (aR (by simp; omega))]
   simp
   refine⟨aR (by omega),hR _ _ ⟨?_,rfl⟩⟩
   simp[aL,Z.Txt.lines,Function.comp_def]
 rintro _ _ ⟨rfl,rfl⟩
 simp
 exact hT _ _ _ (rK (L:=[])) ⟨by simp,rfl⟩
theorem AI {t:Txt} (h:t.ok):lS lf [.lst (t.lines.map .str)]=some (.str t.note) :=
 R9 (by decide +kernel) (fun z hz=>Nat.le_trans (vc h z hz) (by omega)) (by have:=nB h; omega)
def rg (t:Txt):Z.P:=.ins "Text" FT [t.pl,t.pt,t.st]
theorem Uc {t:Txt} {E:Xc→ag→Prop} {R:D→ag→Prop}:(yk ["Text"] "places" S (.p (rg t))).sx E R=R (.p t.pl) S:=Ag (by simp) (by rfl)
theorem TH {t:Txt} {E:Xc→ag→Prop} {R:D→ag→Prop}:(yk ["Text"] "pointers" S (.p (rg t))).sx E R=R (.p t.pt) S:=Ag (by simp) (by kernel_rfl)
theorem Si {t:Txt} {E:Xc→ag→Prop} {R:D→ag→Prop}:(yk ["Text"] "steps" S (.p (rg t))).sx E R=R (.p t.st) S:=Ag (by simp) (by kernel_rfl)
theorem yZ {t:Txt} (hS:clSt S) (h:t.ok):aU [.p (rg t)] S=.ok (.p (.str t.note)) S:=by
 apply Rs.sx.eq
 unfold aU rY
 rw[bp]
 simp[Uc,TH,Si,C6 hS h]
 rw[show Str.ofString "\n" = lf from rfl,AI h]
 simp
end
end Kw
namespace Z
open PySem PySem.Spec PyProof.Rows L2
theorem wF (z:Str) (c:Nat):PySem.Txt.startswith z ⟨#[c]⟩=(cs z).head?.any (· == c):=by
 unfold PySem.Txt.startswith
 rw[StrLaws.subAt_eq]
 have hl:(⟨#[c]⟩:Str).length=1:=rfl
 have hz:=fk z
 show (decide (0+1≤z.length) && (((cs z).drop 0).take 1 == [c]))=_
 rw[← hz]
 cases cs z with
 | nil=>rfl
 | cons a l=>simp
def Wr:Str:="-"
theorem Dt:Wr=⟨#[45]⟩:=by decide +kernel
def dX (l:List Nat):List Nat:=if l.head?.any (· == 45) then l.tail else l
def Hr (l:List Nat):Bool:=l.all fun c=>mem c tR
def gE (l:List Nat):Bool:=!(dX l).isEmpty && (decide ((dX l).length≤40) && (Hr (dX l) && (!((dX l).head?.any (· == 48)) || l == [48])))
def HF (l:List Nat):Int:=if l.head?.any (· == 45) then -((NumText.digitsVal l.tail:Nat):Int) else ((NumText.digitsVal l:Nat):Int)
def ue (z:Str):P:=if gE (cs z)=true then .int (HF (cs z)) else .non
def sY (z:Str):P:=if (cs z).head?.any (· == 45) then .non else ue z
theorem NX:cs tR=[48,49,50,51,52,53,54,55,56,57]:=by decide +kernel
theorem wM (c:Nat):mem c tR=(decide (48≤c) && decide (c≤57)):=by
 unfold mem
 rw[NX,Bool.eq_iff_iff]
 simp
 omega
theorem Ew {l:List Nat} (h:Hr l=true):NumText.AllDigits l:=fun c hc=>by
 have:=List.all_eq_true.mp h c hc
 rw[wM] at this
 simpa using this
theorem Y1 (z:Str):cs (cutS z (some 1) none)=(cs z).tail:=by
 rw[AY]
 cases h:cs z with
 | nil=>rfl
 | cons c r=>rw[jY]; rfl
theorem DE {x:Str}:(x=Str.ofString "")↔(cs x)=[]:=by
 constructor
 · rintro rfl; decide +kernel
 · intro h; exact gu (by rw[h]; decide +kernel)
theorem Hc {x:Str}:(x=Str.ofString "0")↔(cs x)=[48]:=by
 constructor
 · rintro rfl; decide +kernel
 · intro h; exact gu (by rw[h]; decide +kernel)
theorem Ld {a b:Str} (ha:di a=true) (hb:di b=true):lm (.str a) (.str b)=some (.bl (!decide (a=b))):=by
 rw[B3 (show fin dpt (.str a)=true from ha) (show fin dpt (.str b)=true from hb)]
 simp only[eqv]
 by_cases h:a=b <;> simp[h]
theorem Xb:di (Str.ofString "")=true:=by decide +kernel
theorem ok0:di (Str.ofString "0")=true:=by decide +kernel
end Z
namespace Kw
open PySem PySem.Spec PyProof.Rows L2 Z
section
variable {S:ag}
theorem Uh {z:Str} (hn:gE (cs z)=true):kE [.str z]=some (.int (HF (cs z))):=by
 unfold gE at hn
 simp only[Bool.and_eq_true,Bool.not_eq_true',List.isEmpty_eq_false_iff,decide_eq_true_eq] at hn
 obtain⟨h1,h2,h3,_⟩:=hn
 have hd:=Ew h3
 have hl:=fk z
 unfold dX at h1 h2 hd
 unfold HF
 simp only[kE]
 by_cases hm:(cs z).head?.any (· == 45)=true
 · rw[if_pos hm] at h1 h2 hd ⊢
   obtain⟨r,hr⟩:∃ r,cs z=45::r:=by
    cases hc:cs z with
    | nil=>rw[hc] at hm; simp at hm
    | cons a r=>rw[hc] at hm; simp at hm; exact⟨r,by rw[hm]⟩
   rw[hr] at h1 h2 hd hl ⊢
   simp only[List.tail_cons,List.length_cons] at h1 h2 hd hl ⊢
   rw[if_pos (by omega),PySem.intText_neg (x:=z) hr hd h1 (by omega)]
   rfl
 · rw[if_neg hm] at h1 h2 hd ⊢
   rw[if_pos (by omega),PySem.intText_digits (x:=z) hd h1 (by omega)]
   rfl
theorem rS {z:Str} (hz:z.length≤1000) (hc:di z=true):fH [.p (.str z)] S=.ok (.p (ue z)) S:=by
 apply Rs.sx.eq
 unfold fH uS
 rw[bp]
 have hl:=fk z
 refine cY (fun d S1=>S=S1∧∃ y:Str,d=.p (.str y)∧cs y=dX (cs z)∧di y=true) (fun R hR=>?_) ?_
 · simp[List.replicate,nD]
   rw[show Str.ofString "-" = ⟨#[45]⟩ from Dt,wF]
   by_cases hm:(cs z).head?.any (· == 45)=true
   · simp[hm,GN (aR hz)]
     exact hR _ _ ⟨rfl,_,rfl,by rw[Y1,dX,if_pos hm],LO hc _ _⟩
   · simp only[hm]
     simp
     exact hR _ _ ⟨rfl,_,rfl,by rw[dX,if_neg hm],hc⟩
 rintro _ _ ⟨rfl,y,rfl,hy,hcy⟩
 have Ut:=fk y
 have hpl:(dX (cs z)).length≤(cs z).length:=by unfold dX; split <;> simp
 have Y2:y.length≤1000:=by rw[← Ut,hy]; omega
 refine aJ (b:=(dX (cs z)).isEmpty || (!decide ((dX (cs z)).length≤40) || !Hr (dX (cs z)))) (S':=S) (tok ?_) (fun hb=>?_) fun hb=>?_
 · simp[cg hcy Xb,BP (aR Y2),oV (aR Y2),Yr]
   rw[show Cy y tR=Hr (dX (cs z)) by rw[← hy]; rfl]
   by_cases h1:y=Str.ofString ""
   · have zm:=DE.mp h1
     rw[hy] at zm
     simp[h1,zm]
   · have zm:¬ dX (cs z)=[]:=by rw[← hy]; exact fun h=>h1 (DE.mpr h)
     simp[h1,zm]
     rw[← hy]
     by_cases h2:(40:Int) < (y.length:Int)
     · have:¬ (cs y).length≤40:=by omega
       simp[h2]
       exact .inl (by omega)
     · have:(cs y).length≤40:=by omega
       simp[h2,this]
       intro _
       rw[hy]; exact zm
 · simp
   have:gE (cs z)=false:=by
    unfold gE
    cases h1:(dX (cs z)).isEmpty
    · rw[h1] at hb
      cases h2:decide ((dX (cs z)).length≤40)
      · simp
      · rw[h2] at hb
        simp at hb
        simp[hb]
    · simp
   simp[ue,this]
 simp only[Bool.or_eq_false_iff,Bool.not_eq_false',decide_eq_true_eq] at hb
 obtain⟨b1,b2,b3⟩:=hb
 obtain⟨a,r,RR⟩:∃ a r,dX (cs z)=a::r:=by
  cases h:dX (cs z) with
  | nil=>rw[h] at b1; cases b1
  | cons a r=>exact⟨a,r,rfl⟩
 have ZA:ef (.str y) (.int 0)=some (ch a):=by
  rw[zX (aR Y2),hy,RR]
  simp
 have ha:di ⟨#[a]⟩=true:=K6 (jE hcy a (by rw[hy,RR]; simp))
 have ea:(⟨#[a]⟩:Str)=Str.ofString "0"↔a=48:=by
  rw[Hc]
  show [a]=[48]↔_
  simp
 refine aJ (b:=(a == 48) && !decide (z=Str.ofString "0")) (S':=S) (tok ?_) (fun hb=>?_) fun hb=>?_
 · simp[List.replicate,ZA,ch,cg ha ok0,Ld hc ok0]
   by_cases h:a=48
   · subst h
     have e48:(⟨#[48]⟩:Str)=Str.ofString "0":=ea.mpr rfl
     simp[e48]
   · have:¬ (⟨#[a]⟩:Str)=Str.ofString "0":=fun e=>h (ea.mp e)
     simp[this,h]
 · simp
   simp only[Bool.and_eq_true,beq_iff_eq,Bool.not_eq_true',decide_eq_false_iff_not] at hb
   obtain⟨rfl,hb⟩:=hb
   have:gE (cs z)=false:=by
    unfold gE
    have:¬ cs z=[48]:=fun e=>hb (Hc.mpr e)
    simp[RR,this]
   simp[ue,this]
 · have:gE (cs z)=true:=by
    unfold gE
    rw[b1,b3,decide_eq_true b2,RR]
    simp only[Bool.not_false,Bool.true_and,List.head?_cons,Option.any_some]
    by_cases h:a=48
    · subst h
      simp at hb
      rw[hb]
      decide +kernel
    · simp[h]
   simp[List.replicate,Uh this,ue,this]
theorem lu {z:Str} (hz:z.length≤1000) (hc:di z=true):fP [.p (.str z)] S=.ok (.p (sY z)) S:=by
 apply Rs.sx.eq
 unfold fP xm
 rw[bp]
 simp[nD]
 rw[show Str.ofString "-" = ⟨#[45]⟩ from Dt,wF]
 unfold sY
 by_cases hm:(cs z).head?.any (· == 45)=true
 · simp[hm]
 · simp only[hm]
   simp[rS hz hc]
end
end Kw
namespace Z
open PySem PySem.Spec PyProof.Rows L2
theorem Ar:∀ {n:Nat},0 < n→(TL.numL n).head?.any (· == 48)=false:=by
 intro n
 induction n using Nat.strongRecOn with
 | _ n ih =>
  intro hn
  by_cases h:n < 10
  · rw[TL.numL_lt h]; simp; omega
  · rw[TL.numL_step (by omega)]
    have:=ih (n / 10) (by omega) (by omega)
    have fe:=TL.numL_ne (n / 10)
    cases hl:TL.numL (n / 10) with
    | nil=>exact absurd hl fe
    | cons a r=>rw[hl] at this; simpa using this
theorem Dm (n:Nat):Hr (TL.numL n)=true:=List.all_eq_true.mpr fun c hc=>by
 have:=TL.numL_digits n c hc
 rw[wM]; simp; omega
theorem oX (n:Nat):(TL.numL n).head?.any (· == 45)=false:=by
 cases h:TL.numL n with
 | nil=>rfl
 | cons a r =>
  have:=TL.numL_digits n a (by rw[h]; simp)
  simp; omega
theorem DJ (n:Nat):∃ a r,TL.numL n=a::r:=by
 cases h:TL.numL n with
 | nil=>exact absurd h (TL.numL_ne n)
 | cons a r=>exact⟨a,r,rfl⟩
theorem HX {n:Nat} (h:n < 10 ^ 40):gE (TL.numL n)=true:=by
 by_cases hz:n=0
 · subst hz; decide +kernel
 · have hn:=oX n
   have hl:=TL.numL_len (n:=n) (k:=40) (by decide) h
   unfold gE dX
   rw[hn]
   simp only[Bool.false_eq_true,if_false]
   rw[Dm,decide_eq_true hl,Ar (by omega)]
   obtain⟨a,r,e⟩:=DJ n
   rw[e]; simp
theorem Sx {i:Int} (h:nW i < 10 ^ 40):gE (cs (lh i))=true∧HF (cs (lh i))=i:=by
 unfold nW at h
 by_cases h0:0≤i
 · rw[if_neg (by omega)] at h
   rw[xt h0]
   have hn:=oX i.toNat
   have hl:=TL.numL_len (n:=i.toNat) (k:=40) (by decide) (by omega)
   have hv:=TL.numL_val i.toNat
   constructor
   · exact HX (by omega)
   · unfold HF
     rw[hn]
     simp only[Bool.false_eq_true,if_false,hv]
     omega
 · rw[if_pos (by omega)] at h
   rw[Ei (by omega)]
   have hl:=TL.numL_len (n:=(-i).toNat) (k:=40) (by decide) (by omega)
   have hv:=TL.numL_val (-i).toNat
   obtain⟨a,r,e⟩:=DJ (-i).toNat
   have hh:=Ar (n:=(-i).toNat) (by omega)
   have hf:=Dm (-i).toNat
   constructor
   · unfold gE dX
     simp only[List.head?_cons,Option.any_some,beq_self_eq_true,if_true,List.tail_cons]
     rw[hf,decide_eq_true hl,hh,e]
     simp
   · unfold HF
     simp only[List.head?_cons,Option.any_some,beq_self_eq_true,if_true,List.tail_cons,hv]
     omega
theorem C7 {i:Int} (h:nW i < 10 ^ 40):ue (lh i)=.int i:=by
 obtain⟨h1,h2⟩:=Sx h
 unfold ue
 rw[if_pos h1,h2]
theorem xQ {i:Int} (h0:0≤i) (h:i < 10 ^ 40):sY (lh i)=.int i:=by
 unfold sY
 rw[xt h0,oX]
 simp only[Bool.false_eq_true,if_false]
 exact C7 (by unfold nW; split <;> omega)
theorem IP:∀ c∈cs hV,97≤c∧c≤122:=by decide +kernel
theorem IA {z:Str} (h:ak z=true):∃ c r,cs z=c::r∧97≤c∧c≤122:=by
 unfold ak Fh at h
 simp only[Bool.and_eq_true] at h
 obtain⟨_,h1,_⟩:=h
 cases hc:cs z with
 | nil=>rw[hc] at h1; simp at h1
 | cons c r =>
  rw[hc] at h1
  simp only at h1
  exact⟨c,r,rfl,IP c (of_decide_eq_true h1)⟩
theorem Ig {z:Str} (h:ak z=true):ue z=.non:=by
 obtain⟨c,r,e,h1,h2⟩:=IA h
 have:gE (cs z)=false:=by
  have hp:dX (c::r)=c::r:=by
   unfold dX
   rw[if_neg (by simp; omega)]
  have:mem c tR=false:=by rw[wM]; simp; omega
  unfold gE Hr
  rw[e,hp]
  simp[this]
 simp[ue,this]
def St (z:Str):Prop:=z.length≤1000∧di z=true
theorem St.sm {z:Str} {n:Nat} (h:St z):sm n (.str z)=true:=by cases n <;> simp[Z.sm,h.1,h.2]
theorem E7 {x:Str} {l:List Nat} (h:St x) (hl:l.length≤(cs x).length) (hm:∀ c∈l,c∈cs x):St ⟨l.toArray⟩:=by
 refine⟨?_,lT fun c hc=>jE h.2 c (hm c hc)⟩
 have:=fk x
 have:=fk ⟨l.toArray⟩
 have e:cs ⟨l.toArray⟩=l:=rfl
 rw[e] at this
 have:=h.1
 omega
def Iq (z:Str):Option (List Nat×List Nat):=TL.par [43] [] (cs z)
def dQ (z:Str):P×P:=match Iq z with
 | some (a,b)=>(match sY ⟨b.toArray⟩ with
  | .int i=>(.str ⟨a.toArray⟩, .int i)
  | _=>(.non, .non))
 | none=>(.non, .non)
theorem AZ:∀ (l acc a b:List Nat),TL.par [43] acc l=some (a,b)→(∀ c∈a,c∈acc++l)∧(∀ c∈b,c∈l)∧a.length+b.length < acc.length+l.length
 | [],_,_,_,h=>nomatch h
 | c::r,acc,a,b,h=>by
  by_cases hp:TL.pre [43] (c::r)=true
  · rw[TL.par_hit hp] at h
    cases h
    refine⟨fun x hx=>List.mem_append_left _ hx,fun x hx=>List.mem_cons_of_mem _ (by simpa using hx),by simp⟩
  · rw[TL.par_miss (by simpa using hp)] at h
    obtain⟨h1,h2,h3⟩:=AZ r (acc++[c]) a b h
    refine⟨fun x hx=>by have:=h1 x hx; simpa using this,fun x hx=>List.mem_cons_of_mem _ (h2 x hx),by simp at h3 ⊢; omega⟩
theorem qD (z:Str):sY z=.non∨∃ i,sY z=.int i:=by
 unfold sY ue
 split
 · exact .inl rfl
 · split
   · exact .inr ⟨_,rfl⟩
   · exact .inl rfl
theorem C3 {z:Str} (h:St z):dQ z=(.non, .non)∨∃ (x:Str) (i:Int),dQ z=(.str x, .int i)∧St x:=by
 unfold dQ Iq
 cases hp:TL.par [43] [] (cs z) with
 | none=>exact .inl rfl
 | some q =>
  obtain⟨a,b⟩:=q
  simp only[]
  rcases qD ⟨b.toArray⟩ with e | ⟨i,e⟩
  · rw[e]; exact .inl rfl
  · rw[e]
    obtain⟨h1,h2,h3⟩:=AZ _ _ _ _ hp
    exact .inr ⟨_,i,rfl,E7 h (by simp at h3; omega) (by simpa using h1)⟩
def rH (z:Str):P:=match ue z with
 | .int i=>.int i
 | _=>if ak z=true then .str z else .non
def Ef (ps:List P):P:=if cC (.tup ps)=true then .tup ps else .non
def eh:List Str→P
 | [w,a,b,c]=>if w = "read" then Ef [.str "read", .str a, .str b,(dQ c).1,(dQ c).2]
  else if w = "write" then Ef [.str "write", .str a,(dQ b).1,(dQ b).2,rH c]
  else if w = "copy" then Ef [.str "copy",sY a,(dQ b).1,(dQ b).2,(dQ c).1,(dQ c).2]
  else .non
 | [w,a,b]=>if w = "blank" then Ef [.str "blank",sY a,(dQ b).1,(dQ b).2] else .non
 | [w,a]=>if w = "tell" then Ef [.str "tell", .str a] else .non
 | _=>.non
def qC (ws:List Str):P :=
 if ws.headD Str.empty = "place" then (match ws with
  | [_,a,b]=>if ak a=true∧aH b=true then .tup [.int 0, .tup [.str a, .str b]] else .non
  | _=>.non)
 else if ws.headD Str.empty = "pointer" then (match ws with
  | [_,a]=>if ak a=true then .tup [.int 1, .str a] else .non
  | _=>.non)
 else match eh ws with
  | .tup ps=>.tup [.int 2, .tup ps]
  | _=>.non
def IM (z:Str):P:=qC (PySem.Txt.split z tL)
theorem A1 (s:Nat):∀ (l acc:List Nat),(∀ w∈TL.spl [s] 0 acc l,w.length≤acc.length+l.length∧∀ c∈w,c∈acc++l)∧(TL.spl [s] 0 acc l).length≤l.length+1∧TL.spl [s] 0 acc l≠[]
 | [],acc=>by rw[TL.spl_nil]; simp
 | c::r,acc=>by
  by_cases hp:TL.pre [s] (c::r)=true
  · rw[TL.spl_hit hp]
    obtain⟨h1,h2,h3⟩:=A1 s r []
    refine⟨fun w hw=>?_,Nat.succ_le_succ h2,by simp⟩
    rcases List.mem_cons.mp hw with rfl | hw
    · exact⟨by omega,fun x hx=>List.mem_append_left _ hx⟩
    · obtain⟨a1,a2⟩:=h1 w hw
      refine⟨by simp at a1 ⊢; omega,fun x hx=>?_⟩
      have:=a2 x hx
      simp at this
      exact List.mem_append_right _ (List.mem_cons_of_mem _ this)
  · rw[TL.spl_miss (by simpa using hp)]
    obtain⟨h1,h2,h3⟩:=A1 s r (acc++[c])
    refine⟨fun w hw=>?_,by simp; omega,h3⟩
    obtain⟨a1,a2⟩:=h1 w hw
    refine⟨by simp at a1 ⊢; omega,fun x hx=>by have:=a2 x hx; simpa using this⟩
theorem IQ {z:Str} {s:Nat} (hs:s < 256):(PySem.Txt.split z ⟨#[s]⟩).map cs=TL.spl [s] 0 [] (cs z) :=
 TL.split_spl z ⟨#[s]⟩ (by simp) (TL.kind_ok (by simp[hs]))
theorem Lk {z:Str} {s:Nat} (hs:s < 256) (h:St z):(∀ w∈PySem.Txt.split z ⟨#[s]⟩,St w)∧(PySem.Txt.split z ⟨#[s]⟩).length≤1001∧PySem.Txt.split z ⟨#[s]⟩≠[]:=by
 obtain⟨h1,h2,h3⟩:=A1 s (cs z) []
 rw[← IQ hs] at h1 h2 h3
 have hz:=fk z
 have:=h.1
 refine⟨fun w hw=>?_,by simp at h2; omega,fun e=>h3 (by rw[e]; rfl)⟩
 obtain⟨a1,a2⟩:=h1 (cs w) (List.mem_map_of_mem hw)
 have:=E7 h (l:=cs w) (by simpa using a1) (by simpa using a2)
 rwa [show (⟨(cs w).toArray⟩:Str)=w from TL.mk_tl w] at this
theorem BO:tL=⟨#[32]⟩:=by decide +kernel
theorem Qv:lf=⟨#[10]⟩:=by decide +kernel
theorem G6:vD=⟨#[43]⟩:=by decide +kernel
end Z
namespace Kw
open PySem PySem.Spec PyProof.Rows L2 Z
section
variable {S:ag}
theorem FO {z:Str} (h:St z):ei [.p (.str z)] S=.ok (.p (.tup [(dQ z).1,(dQ z).2])) S:=by
 apply Rs.sx.eq
 unfold ei zV
 rw[bp]
 have JN:=TL.partition_par z vD (by rw[G6]; simp)
 rw[show TL.par (TL.tl vD) [] (TL.tl z)=Iq z by rw[G6]; rfl] at JN
 have QK:(vD.length == 0)=false∧z.length≤sizeLine:=⟨by decide +kernel,aR h.1⟩
 unfold dQ
 cases hp:Iq z with
 | none =>
  rw[hp] at JN
  have e:gH z [.str vD]=some (.tup [.str z, .str Str.empty, .str Str.empty]):=by
   simp only[gH]
   rw[if_pos QK,JN]
  have c0:=lu (S:=S) (z:=Str.empty) (by decide) (by decide +kernel)
  have c1:sY Str.empty=.non:=by decide +kernel
  simp[List.replicate,TJ,e,eG,aO,cu,c0,c1]
  rw[show bP (.str Str.empty) (.str (Str.ofString ""))=some (.bl true) by rw[cg (by decide +kernel) Xb]; decide +kernel]
  simp
 | some q =>
  obtain⟨a,b⟩:=q
  rw[hp] at JN
  obtain⟨h1,h2,h3⟩:=AZ _ _ _ _ hp
  have sb:St ⟨b.toArray⟩:=E7 h (by simp at h3; omega) (by simpa using h2)
  have e:gH z [.str vD]=some (.tup [.str ⟨a.toArray⟩, .str vD, .str ⟨b.toArray⟩]):=by
   simp only[gH]
   rw[if_pos QK,JN]
  have c0:=lu (S:=S) sb.1 sb.2
  have e2:bP (.str vD) (.str (Str.ofString ""))=some (.bl false):=by rw[cg (by decide +kernel) Xb]; decide +kernel
  simp[List.replicate,TJ,e,eG,aO,cu,c0,e2]
  rcases qD ⟨b.toArray⟩ with e3 | ⟨i,e3⟩
  · rw[e3]; simp[eZ]
  · rw[e3]; simp[eZ]
theorem DO {z:Str} (h:St z):iG [.p (.str z)] S=.ok (.p (rH z)) S:=by
 apply Rs.sx.eq
 unfold iG yq
 rw[bp]
 have hn:∀ S,bD [.p (.str z)] S=.ok (.p (.bl (ak z))) S:=fun S=>bc (n:=0) h.sm
 simp[List.replicate,rS h.1 h.2,hn]
 unfold rH ue
 by_cases h1:gE (cs z)=true
 · simp[h1,eZ]
 · simp only[h1]
   simp[eZ]
theorem kN {n:Nat} {ps:List Z.P} (h:sm n (.tup ps)=true):fC [.p (.tup ps)] S=.ok (.p (Ef ps)) S:=by
 apply Rs.sx.eq
 unfold fC zR
 rw[bp]
 simp[gB h]
 unfold Ef
 by_cases h1:cC (.tup ps)=true
 · simp[h1]
 · simp[h1]
theorem De {ps:List Z.P} (h:∀ p∈ps,sm 0 p=true) (hl:ps.length≤1000):sm 1 (.tup ps)=true:=by
 simp only[sm,Bool.and_eq_true,decide_eq_true_eq,List.all_eq_true]
 exact⟨hl,h⟩
theorem sG {z:Str} (h:St z):sm 0 (dQ z).1=true∧sm 0 (dQ z).2=true:=by
 rcases C3 h with e | ⟨x,i,e,hx⟩
 · rw[e]; exact⟨rfl,rfl⟩
 · rw[e]; exact⟨hx.sm,rfl⟩
theorem Jo (z:Str):sm 0 (sY z)=true:=by
 rcases qD z with e | ⟨i,e⟩ <;> rw[e] <;> rfl
theorem RB {z:Str} (h:St z):sm 0 (rH z)=true:=by
 unfold rH ue
 by_cases h1:gE (cs z)=true
 · rw[if_pos h1]; rfl
 · rw[if_neg h1]; simp only[]
   by_cases h2:ak z=true
   · rw[if_pos h2]; exact h.sm
   · rw[if_neg h2]; rfl
theorem yy (z:Str) (h:St z) {E:Xc→ag→Prop} {R:D→ag→Prop}:(ei [.p (.str z)] S).sx E R=R (.p (.tup [(dQ z).1,(dQ z).2])) S:=by rw[FO h,aG]
theorem E1 {ws:List Str} (h:∀ w∈ws,St w):jr [.p (.lst (ws.map .str))] S=.ok (.p (eh ws)) S:=by
 apply Rs.sx.eq
 unfold jr zH
 rw[bp]
 match ws,h with
 | [],_=>simp[List.replicate,gk,eh]
 | [w],_=>simp[List.replicate,gk,eh]
 | [w,a],h =>
  have ha:=h a (by simp)
  by_cases hw:w = "tell"
  · subst hw
    have hc:=kN (S:=S) (De (ps:=[.str "tell", .str a]) (by simp[ha.sm]; decide +kernel) (by simp))
    simp[List.replicate,gk,gI,BY,eh,hc]
  · simp[List.replicate,gk,gI,eh,hw]
 | [w,a,b],h =>
  have ha:=h a (by simp)
  have hb:=h b (by simp)
  by_cases hw:w = "blank"
  · subst hw
    have hc:=kN (S:=S) (De (ps:=[.str "blank",sY a,(dQ b).1,(dQ b).2]) (by simp[Jo,sG hb]; decide +kernel) (by simp))
    simp[List.replicate,gk,gI,BY,eh,hc,yy _ hb,eG,aO,cu,lu ha.1 ha.2]
  · simp[List.replicate,gk,gI,eh,hw]
 | [w,a,b,c],h =>
  have ha:=h a (by simp)
  have hb:=h b (by simp)
  have Uy:=h c (by simp)
  by_cases h1:w = "read"
  · subst h1
    have hc:=kN (S:=S) (De (ps:=[.str "read", .str a, .str b,(dQ c).1,(dQ c).2]) (by simp[ha.sm,hb.sm,sG Uy]; decide +kernel) (by simp))
    simp[List.replicate,gk,gI,BY,eh,hc,yy _ Uy,eG,aO,cu]
  by_cases h2:w = "write"
  · subst h2
    have hc:=kN (S:=S) (De (ps:=[.str "write", .str a,(dQ b).1,(dQ b).2,rH c]) (by simp[ha.sm,RB Uy,sG hb]; decide +kernel) (by simp))
    simp[List.replicate,gk,gI,BY,eh,hc,yy _ hb,eG,aO,cu,DO Uy]
  by_cases h3:w = "copy"
  · subst h3
    have hc:=kN (S:=S) (De (ps:=[.str "copy",sY a,(dQ b).1,(dQ b).2,(dQ c).1,(dQ c).2]) (by simp[Jo,sG Uy,sG hb]; decide +kernel) (by simp))
    simp[List.replicate,gk,gI,BY,eh,hc,yy _ hb,yy _ Uy,eG,aO,cu,lu ha.1 ha.2]
  simp[List.replicate,gk,gI,eh,h1,h2,h3]
 | w::a::b::c::d::r,_ =>
  have e1:¬ (r.length+1+1+1+1+1=4):=by omega
  have e2:¬ (r.length+1+1+1+1+1=3):=by omega
  have e3:¬ (r.length+1+1+1+1+1=2):=by omega
  simp[List.replicate,gk,eh,e1,e2,e3]
end
end Kw
namespace Z
open PySem PySem.Spec PyProof.Rows L2
theorem OB {z:Str} {s:Nat} (hs:s < 256) (h:St z):gm z [.str ⟨#[s]⟩]=some (.lst ((PySem.Txt.split z ⟨#[s]⟩).map .str)):=by
 simp only[gm]
 rw[if_pos ⟨rfl,sl_le_two h.1⟩]
where sl_le_two:z.length≤1000→z.length+2≤sizeLine:=fun h=>Nat.le_trans (show z.length+2≤1002 by omega) (by decide)
theorem AM:di (Str.ofString "place")=true:=by decide +kernel
theorem tQ:di (Str.ofString "pointer")=true:=by decide +kernel
theorem Bx (ws:List Str):eh ws=.non∨∃ ps,eh ws=.tup ps∧cC (.tup ps)=true:=by
 have hk:∀ ps,Ef ps=.non∨∃ qs,Ef ps=.tup qs∧cC (.tup qs)=true:=fun ps=>by
  unfold Ef
  split
  · rename_i h; exact .inr ⟨_,rfl,h⟩
  · exact .inl rfl
 unfold eh
 split
 · split
   · exact hk _
   · split
     · exact hk _
     · split
       · exact hk _
       · exact .inl rfl
 · split
   · exact hk _
   · exact .inl rfl
 · split
   · exact hk _
   · exact .inl rfl
 · exact .inl rfl
theorem ju {ws:List Str} (h:∀ w∈ws,Wd w) (fe:ws≠[]):PySem.Txt.split (PySem.Txt.join tL ws) tL=ws :=
 TL.split_join (s:=32) (S:=[]) (by rw[BO]) (by rw[BO]; decide +kernel) fe fun p hp=>(h p hp).s
theorem xV {ls:List Str} (h:∀ l∈ls,10∉cs l) (fe:ls≠[]):PySem.Txt.split (PySem.Txt.join lf ls) lf=ls :=
 TL.split_join (s:=10) (S:=[]) (by rw[Qv]) (by rw[Qv]; decide +kernel) fe h
theorem zP {ws:List Str} (h:∀ w∈ws,Wd w):10∉cs (PySem.Txt.join tL ws):=by
 rw[jW]
 intro hm
 induction ws with
 | nil=>simp[TL.joinL] at hm
 | cons w ws ih =>
  cases ws with
  | nil=>simp only[List.map_cons,List.map_nil,TL.joinL] at hm; exact (h w (by simp)).l hm
  | cons u us =>
   simp only[List.map_cons,TL.joinL,List.mem_append] at hm
   rcases hm with hm | hm | hm
   · exact (h w (by simp)).l hm
   · rw[BO] at hm; simp[cs] at hm
   · exact ih (fun z hz=>h z (List.mem_cons_of_mem _ hz)) hm
theorem GM {y:Str} (hy:di y=true):∀ {ws:List Str},(∀ w∈ws,di w=true)→di (PySem.Txt.join y ws)=true:=by
 intro ws h
 refine lT fun c hc=>?_
 rw[jW] at hc
 induction ws with
 | nil=>simp[TL.joinL] at hc
 | cons w ws ih =>
  cases ws with
  | nil=>simp only[List.map_cons,List.map_nil,TL.joinL] at hc; exact jE (h w (by simp)) c hc
  | cons u us =>
   simp only[List.map_cons,TL.joinL,List.mem_append] at hc
   rcases hc with hm | hm | hm
   · exact jE (h w (by simp)) c hm
   · exact jE hy c hm
   · exact ih (fun z hz=>h z (List.mem_cons_of_mem _ hz)) hm
theorem lc {n:Str} {o:Int} (hn:ak n=true) (h0:0≤o) (h1:o≤9):dQ (gJ n o)=(.str n, .int o):=by
 have hpl:43∉cs n:=fun hc=>by have:=tX _ (qY hn _ hc); omega
 have hp:Iq (gJ n o)=some (cs n,cs (lh o)):=by
  unfold Iq gJ
  rw[cE,cE,BW,List.append_assoc]
  have:=TL.par_part1 (s:=43) (S:=[]) (p:=cs n) (rest:=cs (lh o)) (acc:=[]) hpl
  simpa using this
 unfold dQ
 rw[hp]
 simp only[]
 rw[show (⟨(cs (lh o)).toArray⟩:Str)=lh o from TL.mk_tl _,show (⟨(cs n).toArray⟩:Str)=n from TL.mk_tl _,xQ h0 (by omega)]
theorem IT {v:P} (h:(∃ i,v=.int i∧nW i < 10 ^ 40)∨∃ x:Str,v=.str x∧ak x=true):rH (Hu v)=v:=by
 rcases h with ⟨i,rfl,hi⟩ | ⟨x,rfl,hx⟩
 · simp[rH,Hu,C7 hi]
 · simp[rH,Hu,Ig hx,hx]
theorem BZ {names vals:List Str} {s:aE} (h:s.ok names vals) (hn:∀ z∈names,ak z=true) (hv:∀ z∈vals,ak z=true):eh s.words=s.p:=by
 have hst:=zF h hn hv
 cases s with
 | read x k n o =>
  obtain⟨h1,h2,h3,h4,h5,h6,h7⟩:=h
  have:=fM h4
  simp[eh,aE.words,lc (hn _ h5) h6 (by omega),Ef]
  exact if_pos hst
 | write k n o v =>
  obtain⟨h4,h5,h6,h7,h8⟩:=h
  have:=fM h4
  have hval:=IT (v:=v) (by
   rcases h8 with ⟨i,rfl,hi⟩ | ⟨x,hx,rfl⟩
   · exact .inl ⟨i,rfl,hi⟩
   · exact .inr ⟨x,rfl,hv _ hx⟩)
  simp[eh,aE.words,lc (hn _ h5) h6 (by omega),Ef,hval]
  exact if_pos hst
 | copy m n o n' o' =>
  obtain⟨h1,h2,h3,h4,h5,h6,h7⟩:=h
  simp[eh,aE.words,lc (hn _ h2) h3 (by omega),lc (hn _ h5) h6 (by omega),Ef,xQ (i:=m) (by omega) (by omega)]
  exact if_pos hst
 | blank m n o =>
  obtain⟨h1,h2,h3,h4⟩:=h
  simp[eh,aE.words,lc (hn _ h2) h3 (by omega),Ef,xQ (i:=m) (by omega) (by omega)]
  exact if_pos hst
 | tell x =>
  simp[eh,aE.words,Ef]
  exact if_pos hst
theorem zG:¬ (Str.ofString "pointer" = Str.ofString "place")∧¬ (Str.ofString "read" = Str.ofString "place")∧¬ (Str.ofString "write" = Str.ofString "place")∧¬ (Str.ofString "copy" = Str.ofString "place")∧¬ (Str.ofString "blank" = Str.ofString "place")∧¬ (Str.ofString "tell" = Str.ofString "place"):=by decide +kernel
theorem CM:¬ (Str.ofString "read" = Str.ofString "pointer")∧¬ (Str.ofString "write" = Str.ofString "pointer")∧¬ (Str.ofString "copy" = Str.ofString "pointer")∧¬ (Str.ofString "blank" = Str.ofString "pointer")∧¬ (Str.ofString "tell" = Str.ofString "pointer"):=by decide +kernel
theorem RX {q:Str×Str} (h1:ak q.1=true) (h2:aH q.2=true):qC (qM q)=.tup [.int 0,cN q]:=by
 simp[qC,qM,h1,h2,cN]
theorem Sq {z:Str} (h1:ak z=true):qC (qX z)=.tup [.int 1, .str z]:=by
 simp[qC,qX,h1,zG]
theorem SM {names vals:List Str} {s:aE} (h:s.ok names vals) (hn:∀ z∈names,ak z=true) (hv:∀ z∈vals,ak z=true):qC s.words=.tup [.int 2,s.p]:=by
 have e:=BZ h hn hv
 have hq:=zG
 have hq2:=CM
 have e2:∃ ps,s.p=.tup ps:=by cases s <;> exact⟨_,rfl⟩
 obtain⟨ps,e2⟩:=e2
 have h1:¬ s.words.headD Str.empty = "place":=by cases s <;> simp[aE.words,hq]
 have h2:¬ s.words.headD Str.empty = "pointer":=by cases s <;> simp[aE.words,hq2]
 unfold qC
 rw[if_neg h1,if_neg h2,e,e2]
end Z
namespace Kw
open PySem PySem.Spec PyProof.Rows L2 Z
section
variable {S:ag}
theorem D2 {z:Str} (h:St z):iD [.p (.str z)] S=.ok (.p (IM z)) S:=by
 apply Rs.sx.eq
 unfold iD xp
 rw[bp]
 obtain⟨hw,hl,fe⟩:=Lk (s:=32) (by decide) h
 have vT:=OB (s:=32) (by decide) h
 rw[← BO] at hw hl fe vT
 unfold IM
 generalize PySem.Txt.split z tL=ws at *
 refine cY (fun d S1=>S=S1∧d=.p (.lst (ws.map .str))) (fun R hR=>?_) ?_
 · simp[List.replicate,As,vT]; exact hR _ _ ⟨rfl,rfl⟩
 rintro _ _ ⟨rfl,rfl⟩
 obtain⟨w,r,rfl⟩:∃ w r,ws=w::r:=by
  cases ws with
  | nil=>exact absurd rfl fe
  | cons w r=>exact⟨w,r,rfl⟩
 have sw:=hw w (by simp)
 have ZX:=E1 (S:=S) hw
 have nm:∀ y:Str,St y→∀ S,bD [.p (.str y)] S=.ok (.p (.bl (ak y))) S:=fun y hy S=>bc (n:=0) hy.sm
 have kd:∀ y:Str,St y→∀ S,cP [.p (.str y)] S=.ok (.p (.bl (aH y))) S:=fun y hy S=>bv (n:=0) hy.sm
 by_cases h1:w = "place"
 · subst h1
   refine aJ (b:=true) (S':=S) (tok (by simp[List.replicate,ef,cg AM AM])) (fun _=>?_) (fun h=>nomatch h)
   match r,hw with
   | [],_=>simp[List.replicate,qC]
   | [a],_=>simp[List.replicate,qC]
   | [a,b],hw =>
    have ha:=hw a (by simp)
    have hb:=hw b (by simp)
    simp[List.replicate,qC,ef,nm a ha,kd b hb]
    cases ak a <;> cases aH b <;> simp
   | a::b::c::t,_ =>
    have:¬ ((t.length:Int)+1+1+1+1=3):=by omega
    simp[List.replicate,qC,this]
 refine aJ (b:=false) (S':=S) (tok (by simp[List.replicate,ef,cg sw.2 AM,h1])) (fun h=>nomatch h) fun _=>?_
 by_cases h2:w = "pointer"
 · subst h2
   refine aJ (b:=true) (S':=S) (tok (by simp[List.replicate,ef,cg tQ tQ])) (fun _=>?_) (fun h=>nomatch h)
   match r,hw with
   | [],_=>simp[List.replicate,qC,h1]
   | [a],hw =>
    have ha:=hw a (by simp)
    simp[List.replicate,qC,h1,ef,nm a ha]
   | a::b::t,_ =>
    have:¬ ((t.length:Int)+1+1+1=2):=by omega
    simp[List.replicate,qC,h1,this]
 refine aJ (b:=false) (S':=S) (tok (by simp[List.replicate,ef,cg sw.2 tQ,h2])) (fun h=>nomatch h) fun _=>?_
 simp at ZX
 simp[List.replicate,ZX,qC,h1,h2]
 rcases Bx (w::r) with e | ⟨ps,e,_⟩
 · rw[e]; simp[eZ]
 · rw[e]; simp[eZ]
end
end Kw
namespace Z
open PySem PySem.Spec PyProof.Rows L2
def uw:Txt:=⟨[],[],[]⟩
theorem Py:uw.ok:=⟨by decide,by decide,by decide,by simp[Txt.names,uw],by simp[Txt.names,uw],by simp[uw],by decide,trivial⟩
def Txt.pre (t:Txt) (i:Nat):Txt:=⟨t.places.take i,t.ptrs.take (i - t.places.length),t.steps.take (i - t.places.length - t.ptrs.length)⟩
theorem nE {names:List Str}:∀ {vals:List Str} {ss:List aE} (n:Nat),eN names vals ss→eN names vals (ss.take n)
 | _,_,0,_=>by simp[eN]
 | _,[],_+1,_=>trivial
 | _,_::_,n+1,h=>⟨h.1,nE n h.2⟩
theorem ET {t:Txt} (h:t.ok) (i:Nat):(t.pre i).ok:=by
 have BC:(t.pre i).names.Sublist t.names:=by
  unfold Txt.names Txt.pre
  exact (List.take_sublist _ _).map _ |>.append (List.take_sublist _ _)
 refine⟨?_,?_,?_,?_,?_,?_,?_,?_⟩
 · have:=h.pl; simp[Txt.pre]; omega
 · have:=h.pt; simp[Txt.pre]; omega
 · exact Nat.le_trans BC.length_le h.nl
 · exact fun z hz=>h.nm z (BC.subset hz)
 · exact h.nd.sublist BC
 · exact fun q hq=>h.kd q (List.mem_of_mem_take hq)
 · have:=h.sl; simp[Txt.pre]; omega
 · by_cases hi:i≤t.places.length+t.ptrs.length
   · have:i - t.places.length - t.ptrs.length=0:=by omega
     simp[Txt.pre,this,eN]
   · have e:(t.pre i).names=t.names:=by
      unfold Txt.names Txt.pre
      rw[List.take_of_length_le (by omega),List.take_of_length_le (by omega)]
     rw[e]
     exact nE _ h.st
theorem P3 {t:Txt} {i:Nat} (h:t.places.length+t.ptrs.length+t.steps.length≤i):t.pre i=t:=by
 unfold Txt.pre
 rw[List.take_of_length_le (by omega),List.take_of_length_le (by omega),List.take_of_length_le (by omega)]
theorem Ru {t:Txt}:t.pre 0=uw:=by simp[Txt.pre,uw]
def Txt.part (t:Txt):Nat→List P
 | 0=>t.places.map cN
 | 1=>t.ptrs.map .str
 | _=>t.steps.map aE.p
def bj (t:Txt) (i:Nat):Nat:=if i < t.places.length then 0 else if i < t.places.length+t.ptrs.length then 1 else 2
theorem wc {t:Txt} (h:t.ok) {i:Nat} {l:Str} (hl:t.lines[i]?=some l):St l∧∃ p,IM l=.tup [.int (bj t i:Nat),p]∧∀ k < 3,(t.pre (i+1)).part k=if k=bj t i then (t.pre i).part k++[p] else (t.pre i).part k:=by
 have hm:=List.mem_of_getElem? hl
 obtain⟨ws,rfl,hw,hwl,fe⟩:=mO h l hm
 have hst:St (PySem.Txt.join tL ws):=⟨Nat.le_trans (F6 hw hwl) (by omega),by
  refine GM (by decide +kernel) fun w hx=>?_
  have hlm:10∉cs w:=(hw w hx).l
  exact txt_ch h hm ws rfl hw fe w hx⟩
 refine⟨hst,?_⟩
 unfold IM
 unfold Txt.lines at hl
 by_cases h1:i < t.places.length
 · rw[List.append_assoc,List.getElem?_append_left (by simpa using h1),List.getElem?_map] at hl
   cases hq:t.places[i]? with
   | none=>rw[hq] at hl; cases hl
   | some q =>
    rw[hq] at hl
    simp only[Option.map_some,Option.some.injEq] at hl
    have Od:=List.mem_of_getElem? hq
    have n1:ak q.1=true:=h.nm _ (List.mem_append_left _ (List.mem_map_of_mem Od))
    have n2:=h.kd q Od
    have vT:=ju (ws:=qM q) (plW_ok n1 n2) (by simp[qM])
    rw[← hl,show UA q=PySem.Txt.join tL (qM q) from rfl,vT,RX n1 n2]
    have hp:bj t i=0:=by unfold bj; rw[if_pos h1]
    refine⟨_,by rw[hp]; rfl,fun k hk=>?_⟩
    rw[hp]
    have e1:i+1 - t.places.length=0:=by omega
    have e2:i - t.places.length=0:=by omega
    obtain rfl | rfl | rfl:k=0∨k=1∨k=2:=by omega
    · simp[Txt.part,Txt.pre,List.take_succ,hq]
    · simp[Txt.part,Txt.pre,e1,e2]
    · simp[Txt.part,Txt.pre,e1,e2]
 by_cases h2:i < t.places.length+t.ptrs.length
 · rw[List.append_assoc,List.getElem?_append_right (by simp; omega),List.getElem?_append_left (by simp; omega),List.getElem?_map,List.length_map] at hl
   cases hq:t.ptrs[i - t.places.length]? with
   | none=>rw[hq] at hl; cases hl
   | some q =>
    rw[hq] at hl
    simp only[Option.map_some,Option.some.injEq] at hl
    have Od:=List.mem_of_getElem? hq
    have n1:ak q=true:=h.nm _ (List.mem_append_right _ Od)
    have vT:=ju (ws:=qX q) (ptW_ok n1) (by simp[qX])
    rw[← hl,show WH q=PySem.Txt.join tL (qX q) from rfl,vT,Sq n1]
    have hp:bj t i=1:=by unfold bj; rw[if_neg h1,if_pos h2]
    refine⟨_,by rw[hp]; rfl,fun k hk=>?_⟩
    rw[hp]
    have e1:i+1 - t.places.length=(i - t.places.length)+1:=by omega
    have e2:(i - t.places.length)+1 - t.ptrs.length=0:=by omega
    have e3:i - t.places.length - t.ptrs.length=0:=by omega
    obtain rfl | rfl | rfl:k=0∨k=1∨k=2:=by omega
    · simp[Txt.part,Txt.pre]
      omega
    · simp[Txt.part,Txt.pre,e1,List.take_succ,hq]
    · simp[Txt.part,Txt.pre,e1,e2,e3]
 · rw[List.getElem?_append_right (by simp; omega),List.getElem?_map,List.length_append,List.length_map,List.length_map] at hl
   cases hq:t.steps[i - (t.places.length+t.ptrs.length)]? with
   | none=>rw[hq] at hl; cases hl
   | some s =>
    rw[hq] at hl
    simp only[Option.map_some,Option.some.injEq] at hl
    have Od:=List.mem_of_getElem? hq
    obtain⟨vs,a1,a2⟩:=gS h.st (by simp) s Od
    have vT:=ju (ws:=s.words) (sO a1 h.nm a2) (by cases s <;> simp[aE.words])
    rw[← hl,show s.line=PySem.Txt.join tL s.words from rfl,vT,SM a1 h.nm a2]
    have hp:bj t i=2:=by unfold bj; rw[if_neg h1,if_neg h2]
    refine⟨_,by rw[hp]; rfl,fun k hk=>?_⟩
    rw[hp]
    have e1:i+1 - t.places.length - t.ptrs.length=(i - t.places.length - t.ptrs.length)+1:=by omega
    have e2:i - (t.places.length+t.ptrs.length)=i - t.places.length - t.ptrs.length:=by omega
    rw[e2] at hq
    obtain rfl | rfl | rfl:k=0∨k=1∨k=2:=by omega
    · simp[Txt.part,Txt.pre]
      omega
    · simp[Txt.part,Txt.pre]
      omega
    · simp[Txt.part,Txt.pre,e1,List.take_succ,hq]
where
 plW_ok {q:Str×Str} (h1:ak q.1=true) (h2:aH q.2=true):∀ w∈qM q,Wd w:=fun w hw=>by
  simp only[qM,List.mem_cons,List.not_mem_nil,or_false] at hw
  rcases hw with rfl | rfl | rfl
  · exact nP (by decide +kernel)
  · exact lR h1
  · exact we h2
 ptW_ok {z:Str} (h1:ak z=true):∀ w∈qX z,Wd w:=fun w hw=>by
  simp only[qX,List.mem_cons,List.not_mem_nil,or_false] at hw
  rcases hw with rfl | rfl
  · exact nP (by decide +kernel)
  · exact lR h1
 txt_ch {t:Txt} (h:t.ok) {l:Str} (hm:l∈t.lines) (ws:List Str) (e:l=PySem.Txt.join tL ws) (hw:∀ w∈ws,Wd w) (fe:ws≠[]):∀ w∈ws,di w=true:=by
  have hb:=ju hw fe
  rw[← e] at hb
  unfold Txt.lines at hm
  simp only[List.mem_append,List.mem_map] at hm
  have fin:∀ vs:List Str,l=PySem.Txt.join tL vs→(∀ w∈vs,Wd w)→vs≠[]→vs=ws:=fun vs e2 a b=>by
   have:=ju a b
   rw[← e2,hb] at this
   exact this.symm
  rcases hm with (⟨q,hq,hl⟩ | ⟨z,hz,hl⟩) | ⟨s,hs,hl⟩
  · have n1:ak q.1=true:=h.nm _ (List.mem_append_left _ (List.mem_map_of_mem hq))
    have n2:=h.kd q hq
    rw[← fin _ hl.symm (plW_ok n1 n2) (by simp[qM])]
    intro w hw
    simp only[qM,List.mem_cons,List.not_mem_nil,or_false] at hw
    rcases hw with rfl | rfl | rfl
    · decide +kernel
    · exact ff n1
    · exact vW n2
  · have n1:ak z=true:=h.nm _ (List.mem_append_right _ hz)
    rw[← fin _ hl.symm (ptW_ok n1) (by simp[qX])]
    intro w hw
    simp only[qX,List.mem_cons,List.not_mem_nil,or_false] at hw
    rcases hw with rfl | rfl
    · decide +kernel
    · exact ff n1
  · obtain⟨vs,a1,a2⟩:=gS h.st (by simp) s hs
    rw[← fin _ hl.symm (sO a1 h.nm a2) (by cases s <;> simp[aE.words])]
    exact words_ch a1 h.nm a2
 words_ch {names vals:List Str} {s:aE} (h:s.ok names vals) (hn:∀ z∈names,ak z=true) (hv:∀ z∈vals,ak z=true):∀ w∈s.words,di w=true:=by
  have N6:∀ i:Int,di (lh i)=true:=fun i=>lT fun c hc=>by have:=Az c hc; omega
  have vT:∀ n o,ak n=true→di (gJ n o)=true:=fun n o hn=>vm (vm (ff hn) (by decide +kernel)) (N6 o)
  intro w hw
  cases s with
  | read x k n o =>
   obtain⟨h1,h2,h3,h4,h5,h6,h7⟩:=h
   simp only[aE.words,List.mem_cons,List.not_mem_nil,or_false] at hw
   rcases hw with rfl | rfl | rfl | rfl
   · decide +kernel
   · exact ff h1
   · exact vW h4
   · exact vT _ _ (hn _ h5)
  | write k n o v =>
   obtain⟨h4,h5,h6,h7,h8⟩:=h
   simp only[aE.words,List.mem_cons,List.not_mem_nil,or_false] at hw
   rcases hw with rfl | rfl | rfl | rfl
   · decide +kernel
   · exact vW h4
   · exact vT _ _ (hn _ h5)
   · rcases h8 with ⟨i,rfl,hi⟩ | ⟨x,hx,rfl⟩
     · exact N6 i
     · exact ff (hv _ hx)
  | copy m n o n' o' =>
   obtain⟨h1,h2,h3,h4,h5,h6,h7⟩:=h
   simp only[aE.words,List.mem_cons,List.not_mem_nil,or_false] at hw
   rcases hw with rfl | rfl | rfl | rfl
   · decide +kernel
   · exact N6 m
   · exact vT _ _ (hn _ h2)
   · exact vT _ _ (hn _ h5)
  | blank m n o =>
   obtain⟨h1,h2,h3,h4⟩:=h
   simp only[aE.words,List.mem_cons,List.not_mem_nil,or_false] at hw
   rcases hw with rfl | rfl | rfl
   · decide +kernel
   · exact N6 m
   · exact vT _ _ (hn _ h2)
  | tell x =>
   simp only[aE.words,List.mem_cons,List.not_mem_nil,or_false] at hw
   rcases hw with rfl | rfl
   · decide +kernel
   · exact ff (hv _ h)
theorem EU (t:Txt) (i:Nat):bj t i≤bj t (i+1)∧bj t i < 3:=by
 unfold bj
 split <;> split <;> (try split) <;> (try split) <;> omega
theorem nc (t:Txt):t.lines.length=t.places.length+t.ptrs.length+t.steps.length:=by simp[Txt.lines]; omega
end Z
namespace Kw
open PySem PySem.Spec PyProof.Rows L2 Z
section
variable {S:ag} {sl:av}
theorem rok {r:Rs D} {d:D} {S:ag} (h:r.sx IK fun a S'=>a=d∧S'=S):r=.ok d S:=h.eq
theorem DT {t:Txt} {n:Nat} {dfl:List Z.P} {ma:MA} {ds:List D} (hS:clSt S) (h:t.ok) (hn:ds.length=n) (hd:ds++dfl.map .p=[.p t.pl, .p t.pt, .p t.st]) (ha:ma sl S=.ok ds S):A6 (iU "Text" n dfl aW ma) sl S=.ok (.p (rg t)) S:=by
 refine rok (Ra hS fun E' R' h1 h2=>?_)
 rw[Jy,ha,aG]
 refine⟨hn,?_⟩
 rw[hd]
 have T1:clSt (S++[.ins "Text" [] []]):=hS.app (by intro c hc; simp at hc; subst hc; simp[lq])
 rw[B9 T1 h (by simp),aG]
 refine⟨rfl,?_⟩
 rw[jI]
 refine h2 _ _ (rg t) ?_ ⟨rfl,rfl⟩
 simp[qK,nJ,rg]
def lA (ps:List Z.P):eQ:=.lst (ps.map .p)
def dc (n:Nat) (t:Txt):ag:=[lA (t.part 0),lA (t.part 1),lA (t.part 2), .lst [.ref n, .ref (n+1), .ref (n+2)]]
theorem D4 (hS:clSt S) (t:Txt):clSt (S++dc S.length t):=hS.app (by
 have key:∀ n (ps:List Z.P),lq n (lA ps)=true:=fun n ps=>by simp[lq,lA,pk]
 intro c hc
 simp only[dc,List.mem_cons,List.not_mem_nil,or_false] at hc
 rcases hc with rfl | rfl | rfl | rfl
 · exact key _ _
 · exact key _ _
 · exact key _ _
 · simp[lq,pk,dc])
theorem tO {ps:List Z.P} {v:Nat} (h:S[v]?=some (lA ps)):view S (.ref v)=some (.lst ps):=by
 have:=pG (f:=fun p:Z.P=>p) h
 simpa using this
theorem pg0 {t:Txt} {n:Nat} (hn:n=S.length):(S++dc n t)[n]?=some (lA (t.part 0)):=by subst hn; simp[dc]
theorem pg1 {t:Txt} {n:Nat} (hn:n=S.length):(S++dc n t)[n+1]?=some (lA (t.part 1)):=by subst hn; simp[dc]
theorem pg2 {t:Txt} {n:Nat} (hn:n=S.length):(S++dc n t)[n+2]?=some (lA (t.part 2)):=by subst hn; simp[dc]
theorem pg3 {t:Txt} {n:Nat} (hn:n=S.length):(S++dc n t)[n+3]?=some (.lst [.ref n, .ref (n+1), .ref (n+2)]):=by subst hn; simp[dc]
theorem Lc {t:Txt} (h:t.ok) (k:Nat):(t.part k).length≤12:=by
 have h1:=h.pl
 have h2:=h.pt
 have h3:=h.sl
 unfold Txt.part
 split <;> simp <;> omega
theorem tu {t:Txt} (h:t.ok):di t.note=true∧t.note.length≤10000:=by
 constructor
 · exact GM (by decide +kernel) fun l hl=>by
    obtain⟨i,hi,e⟩:=List.mem_iff_getElem.mp hl
    exact (wc h (i:=i) (l:=l) (by rw[List.getElem?_eq_getElem hi,e])).1.2
 · have h1:=Cs lf (by decide +kernel) t.lines
   have h2:=EH (vc h)
   have h3:=nB h
   have h4:t.lines.length * 250≤17 * 250:=Nat.mul_le_mul_right _ h3
   unfold Txt.note
   omega
theorem Lf {tab:Iz} {i:Nat} {mb:MS} {su:Xc→Nat→MS} {sl:av} {S:ag} {F:Xc→av→ag→Prop} {N:av→ag→Prop} {T:D→ag→Prop} (h:(mb sl S).sx WV N T):(qO tab i mb su sl S).sx F N T:=by
 unfold qO
 cases hm:mb sl S <;> rw[hm] at h <;> first | exact h.out.elim | exact⟨h.out⟩
theorem yF {t:Txt} (h:t.ok):(if t.note=Str.ofString "" then ([]:List Str) else PySem.Txt.split t.note lf)=t.lines:=by
 by_cases hn:t.lines=[]
 · have:t.note=Str.ofString "":=by
    unfold Txt.note
    rw[hn]
    decide +kernel
   rw[if_pos this,hn]
 · have hb:=xV (ls:=t.lines) (fun l hl=>by
    obtain⟨ws,rfl,hw,_,_⟩:=mO h l hl
    exact zP hw) hn
   rw[show PySem.Txt.join lf t.lines=t.note from rfl] at hb
   have:¬ t.note=Str.ofString "":=by
    intro e
    have e2:PySem.Txt.split t.note lf=[Str.ofString ""]:=by rw[e]; decide +kernel
    rw[e2] at hb
    have hl:Str.ofString ""∈t.lines:=by rw[← hb]; simp
    obtain⟨ws,e3,hw,_,fe⟩:=mO h _ hl
    have:=ju hw fe
    rw[← e3] at this
    have e4:PySem.Txt.split (Str.ofString "") tL=[Str.ofString ""]:=by decide +kernel
    rw[e4] at this
    have hi:∃ i:Nat,t.lines[i]?=some (Str.ofString ""):=by
     obtain⟨i,hi,e⟩:=List.mem_iff_getElem.mp hl
     exact⟨i,by rw[List.getElem?_eq_getElem hi,e]⟩
    obtain⟨i,hi⟩:=hi
    obtain⟨_,p,hp,_⟩:=wc h hi
    have:IM (Str.ofString "")=.non:=by unfold IM; rw[e4]; decide +kernel
    rw[this] at hp
    cases hp
   rw[if_neg this,hb]
theorem nh {t:Txt} (hS:clSt S) (h:t.ok):fF [.p (.glo "Text"), .p (.str t.note)] S=.ok (.p (rg t)) S:=by
 apply Rs.sx.eq
 unfold fF vq
 obtain⟨hc,hl⟩:=tu h
 refine lN hS fun F N T _ _ hT=>?_
 refine aJ (b:=false) (S':=S) (tok (by simp[List.replicate])) (fun h=>nomatch h) fun _=>?_
 refine bZ (fun sl S1=>S1=S++dc S.length uw∧sl=[some (.p (.glo "Text")),some (.p (.str t.note)),some (.ref (S.length+3)),some (.p (.int 0)),none,none,none,none,none,none]) (fun R hR=>?_) ?_
 · simp[List.replicate]
   exact hR _ _ ⟨by simp[dc,lA,Txt.part,uw],rfl⟩
 rintro _ _ ⟨rfl,rfl⟩
 refine cY (fun d S1=>S++dc S.length uw=S1∧d=.p (.lst (t.lines.map .str))) (fun R hR=>?_) ?_
 · have e:=yF h
   simp[Ld hc Xb]
   by_cases hn:t.note=Str.ofString ""
   · rw[if_pos hn] at e
     simp[hn]
     exact hR _ _ ⟨rfl,by rw[← e]; rfl⟩
   · rw[if_neg hn] at e
     have hs:gm t.note [.str lf]=some (.lst ((PySem.Txt.split t.note lf).map .str)):=by
      simp only[gm]
      rw[if_pos ⟨by decide +kernel,Nat.le_trans (show t.note.length+2≤10002 by omega) (by decide)⟩]
     simp[hn,Wp,hs,e]
     exact hR _ _ ⟨rfl,rfl⟩
 rintro _ _ ⟨rfl,rfl⟩
 refine cY (fun d S1=>S++dc S.length uw=S1∧d=.p (rg uw)) (fun R hR=>?_) ?_
 · have:=DT (sl:=[some (.p (.glo "Text")),some (.p (.str t.note)),some (.ref (S.length+3)),some (.p (.int 0)),some (.p (.lst (t.lines.map .str))),none,none,none,none,none]) (t:=uw) (n:=0) (dfl:=[.tup [], .tup [], .tup []]) (ma:=aN) (ds:=[]) (D4 hS uw) Py rfl rfl rfl
   unfold A6 at this ⊢
   rw[GD (by rfl)]
   rw[List.set_cons_succ] at *
   simp only[List.set_cons_succ,List.set_cons_zero] at *
   rw[this,aG]
   exact hR _ _ ⟨rfl,rfl⟩
 rintro _ _ ⟨rfl,rfl⟩
 refine bZ (fun sl S1=>∃ (ph:Z.P) (x y z:Option D),S1=S++dc S.length t∧sl=[some (.p (.glo "Text")),some (.p (.str t.note)),some (.ref (S.length+3)),some (.p ph),some (.p (.lst (t.lines.map .str))),some (.p (rg t)),x,y,z,none]) (fun R hR=>?_) ?_
 · simp
   refine jT (fun i sl S1=>∃ (ph:Nat) (x y z:Option D),ph≤bj t i∧S1=S++dc S.length (t.pre i)∧sl=[some (.p (.glo "Text")),some (.p (.str t.note)),some (.ref (S.length+3)),some (.p (.int (ph:Int))),some (.p (.lst (t.lines.map .str))),some (.p (rg (t.pre i))),x,y,z,none]) ?_ ?_ ⟨0,none,none,none,Nat.zero_le _,by rw[Ru],by rw[Ru]; rfl⟩
   · rintro i q sl S1 hq ⟨ph,x,y,z,hph,rfl,rfl⟩
     obtain⟨p,jH,rfl⟩:=jF hq
     obtain⟨l,hl,rfl⟩:∃ l,t.lines[i]?=some l∧p=.str l:=by
      rw[List.getElem?_map] at jH
      cases hz:t.lines[i]? with
      | none=>rw[hz] at jH; cases jH
      | some z=>rw[hz] at jH; cases jH; exact⟨z,rfl,rfl⟩
     obtain⟨hst,p,he,Jw⟩:=wc h hl
     obtain⟨hm1,hm2⟩:=EU t i
     have hpk:=ET h i
     have Yu:=ET h (i+1)
     refine⟨_,rfl,fun R' yB=>?_⟩
     refine cY (fun d S1=>S++dc S.length (t.pre i)=S1∧d=.p (.tup [.int (bj t i:Nat),p])) (fun R hR=>?_) ?_
     · simp[D2 hst,he]
       exact hR _ _ ⟨rfl,rfl⟩
     rintro _ _ ⟨rfl,rfl⟩
     refine aJ (b:=false) (S':=S++dc S.length (t.pre i)) (tok ?_) (fun h=>nomatch h) fun _=>?_
     · simp[eZ,ef,yu]; omega
     refine cY (fun d S1=>S++dc S.length (t.pre i)=S1∧d=.p (.int (bj t i:Nat))) (fun R hR=>?_) ?_
     · simp[ef]
       exact hR _ _ ⟨rfl,rfl⟩
     rintro _ _ ⟨rfl,rfl⟩
     have WR:S++dc S.length (t.pre (i+1))=(S++dc S.length (t.pre i)).set (S.length+bj t i) (lA ((t.pre i).part (bj t i)++[p])):=by
      have p0:=Jw 0 (by omega)
      have p1:=Jw 1 (by omega)
      have p2:=Jw 2 (by omega)
      obtain hz | hz | hz:bj t i=0∨bj t i=1∨bj t i=2:=by omega
      all_goals
       rw[hz] at p0 p1 p2 ⊢
       simp at p0 p1 p2
       simp[dc,p0,p1,p2]
     refine bZ (fun sl S1=>S++dc S.length (t.pre (i+1))=S1∧∃ x y z,sl=[some (.p (.glo "Text")),some (.p (.str t.note)),some (.ref (S.length+3)),some (.p (.int (bj t i:Nat))),some (.p (.lst (t.lines.map .str))),some (.p (rg (t.pre i))),x,y,z,none]) (fun R hR=>?_) ?_
     · have VB:=pg3 (S:=S) (t:=t.pre i) (n:=S.length) rfl
       have hgk:(S++dc S.length (t.pre i))[S.length+bj t i]?=some (lA ((t.pre i).part (bj t i))):=by
        obtain hz | hz | hz:bj t i=0∨bj t i=1∨bj t i=2:=by omega
        · rw[hz]; exact pg0 rfl
        · rw[hz]; exact pg1 rfl
        · rw[hz]; exact pg2 rfl
       have Yg:atI [D.ref S.length, .ref (S.length+1), .ref (S.length+2)] ((bj t i:Nat):Int)=some (.ref (S.length+bj t i)):=by
        obtain hz | hz | hz:bj t i=0∨bj t i=1∨bj t i=2:=by omega
        · rw[hz]; exact Je
        · rw[hz]; exact Rc
        · rw[hz]; exact Rg
       have ZY:=Lc hpk (bj t i)
       simp only[Km,Wf,Cg,qz,List.set_cons_succ,List.set_cons_zero,List.getElem?_cons_succ,List.getElem?_cons_zero]
       rw[oP VB,Yg,aq]
       simp[hgk,lA,ef,nL,Dl (show ((t.pre i).part (bj t i)).length≤1000 by omega)]
       refine hR _ _ ⟨?_,_,_,_,rfl⟩
       rw[WR]
       simp[lA]
     rintro _ _ ⟨rfl,x,y,z,rfl⟩
     rw[dD]
     refine Lf ?_
     refine cY (fun d S1=>S++dc S.length (t.pre (i+1))=S1∧d=.p (rg (t.pre (i+1)))) (fun R hR=>?_) ?_
     · have VB:=pg3 (S:=S) (t:=t.pre (i+1)) (n:=S.length) rfl
       have v0:=tO (pg0 (S:=S) (t:=t.pre (i+1)) (n:=S.length) rfl)
       have v1:=tO (pg1 (S:=S) (t:=t.pre (i+1)) (n:=S.length) rfl)
       have v2:=tO (pg2 (S:=S) (t:=t.pre (i+1)) (n:=S.length) rfl)
       unfold A6
       rw[GD (by rfl)]
       have:=fun ma ha=>DT (S:=S++dc S.length (t.pre (i+1))) (sl:=[some (.p (.glo "Text")),some (.p (.str t.note)),some (.ref (S.length+3)),some (.p (.int (bj t i:Nat))),some (.p (.lst (t.lines.map .str))),some (.p (rg (t.pre i))),x,y,z,none]) (t:=t.pre (i+1)) (n:=3) (dfl:=[]) (ma:=ma) (ds:=[.p (t.pre (i+1)).pl, .p (t.pre (i+1)).pt, .p (t.pre (i+1)).st]) (D4 hS _) Yu rfl rfl ha
       unfold A6 at this
       rw[this]
       · rw[aG]; exact hR _ _ ⟨rfl,rfl⟩
       · have key:∀ r:Rs (List D),∀ ds S,(r.sx IK fun a S'=>a=ds∧S'=S)→r=.ok ds S:=fun r ds S h=>by
          obtain⟨a,S',e,rfl,rfl⟩:=h.ok
          exact e
         refine key _ _ _ ?_
         simp only[gy,mv,Oi,Cg,qz,Ek,List.set_cons_succ,List.set_cons_zero,List.getElem?_cons_succ,List.getElem?_cons_zero]
         rw[oP VB,Je,aq,cZ,v0,aq,dS,wO,aq]
         rw[oP VB,Rc,aq,cZ,v1,aq,dS,wO,aq]
         rw[oP VB,Rg,aq,cZ,v2,aq,dS,wO,aq]
         exact⟨rfl,rfl⟩
     rintro _ _ ⟨rfl,rfl⟩
     rw[gW,gW]
     exact yB _ _ ⟨bj t i,_,_,_,hm1,rfl,rfl⟩
   · rintro sl S1 ⟨ph,x,y,z,_,rfl,rfl⟩
     have e:(ig (t.lines.map P.str)).length=t.places.length+t.ptrs.length+t.steps.length:=by rw[ko,List.length_map,nc]
     rw[e,P3 (Nat.le_refl _)]
     exact hR _ _ ⟨_,_,_,_,rfl,rfl⟩
 rintro _ _ ⟨ph,x,y,z,rfl,rfl⟩
 simp
 exact hT _ _ _ rfl ⟨rfl,rfl⟩
theorem AN {t:Txt} (hS:clSt S) (h:t.ok):dO [.p (.str t.note)] S=.ok (.p (rg t)) S:=by
 apply Rs.sx.eq
 unfold dO vf
 rw[bp]
 simp[List.replicate,nh hS h]
end
def Vn (r q:Fl):Prop:=(∃ x sl S,r=.exc x sl S)∨r=.no∨q=r
def AV {α:Type} (r q:Rs α):Prop:=(∃ x S,r=.exc x S)∨r=.no∨q=r
abbrev SE (b c:MS):Prop:=∀ sl S,Vn (b sl S) (c sl S)
abbrev EE (m n:M):Prop:=∀ sl S,AV (m sl S) (n sl S)
abbrev AE (m n:MA):Prop:=∀ sl S,AV (m sl S) (n sl S)
abbrev FE (f g:Fn):Prop:=∀ ds S,AV (f ds S) (g ds S)
section
variable {α β:Type} {r q:Rs α}
theorem Vn.rf {r:Fl}:Vn r r:=.inr (.inr rfl)
theorem AV.rf:AV r r:=.inr (.inr rfl)
theorem AV.bind {f g:α→ag→Rs β} (h:AV r q) (k:∀ a S,AV (f a S) (g a S)):AV (r.bind f) (q.bind g):=by
 rcases h with ⟨x,S,rfl⟩ | rfl | e
 · exact .inl ⟨x,S,rfl⟩
 · exact .inr (.inl rfl)
 · subst e
   cases q with
   | ok a S=>exact k a S
   | exc x S=>exact .inl ⟨x,S,rfl⟩
   | no=>exact .inr (.inr rfl)
theorem AV.st {sl:av} {f g:α→ag→Fl} (h:AV r q) (k:∀ a S,Vn (f a S) (g a S)):Vn (r.st sl f) (q.st sl g):=by
 rcases h with ⟨x,S,rfl⟩ | rfl | e
 · exact .inl ⟨x,sl,S,rfl⟩
 · exact .inr (.inl rfl)
 · subst e
   cases q with
   | ok a S=>exact k a S
   | exc x S=>exact .inl ⟨x,sl,S,rfl⟩
   | no=>exact .inr (.inr rfl)
end
section
variable {m1 m2 n1 n2 b c:MS} {m n:M} {ma na:MA} {f g:Fn} {t:MT} {k:Nat}
theorem SE.rf:SE b b:=fun _ _=>.inr (.inr rfl)
theorem EE.rf:EE m m:=fun _ _=>.inr (.inr rfl)
theorem AE.rf:AE ma ma:=fun _ _=>.inr (.inr rfl)
theorem SE.seq (h1:SE m1 n1) (h2:SE m2 n2):SE (ao m1 m2) (ao n1 n2):=fun sl S=>by
 unfold ao
 rcases h1 sl S with ⟨x,sl',S',e⟩ | e | e
 · rw[e]; exact .inl ⟨x,sl',S',rfl⟩
 · rw[e]; exact .inr (.inl rfl)
 · rw[e]
   cases m1 sl S with
   | nx sl' S'=>exact h2 sl' S'
   | _=>exact .inr (.inr rfl)
theorem SE.iff (h1:SE m1 n1) (h2:SE m2 n2):SE (iq t m1 m2) (iq t n1 n2):=fun sl S=>AV.st .rf fun b S1=>by
 cases b
 · exact h2 sl S1
 · exact h1 sl S1
theorem SE.set {i:Nat} (h:EE m n):SE (cV i m) (cV i n):=fun sl S=>AV.st (h sl S) fun _ _=>.rf
theorem SE.expr (h:EE m n):SE (ik m) (ik n):=fun sl S=>AV.st (h sl S) fun _ _=>.rf
theorem SE.raise {cn:Str} {fs:List Str}:SE (hU cn fs m ma) HQ:=fun sl S=>by
 unfold hU HQ
 cases ma sl S with
 | exc x S1=>exact .inl ⟨x,sl,S1,rfl⟩
 | no=>exact .inr (.inr rfl)
 | ok ds S1 =>
  simp only[Rs.st]
  cases cR ds with
  | none=>exact .inr (.inr rfl)
  | some ps =>
   simp only[]
   split
   · split
     · exact .inl ⟨_,_,_,rfl⟩
     · exact .inr (.inr rfl)
   · exact .inr (.inr rfl)
theorem Fs {eff:oF} (h:SE b c):∀ its:List P,SE (lr eff b its) (lr eff c its)
 | []=>fun _ _=>.inr (.inr rfl)
 | q::its=>fun sl S=>by
  simp only[lr]
  cases eff q sl with
  | none=>exact .inr (.inr rfl)
  | some sl1 =>
   simp only[]
   rcases h sl1 S with ⟨x,sl',S',e⟩ | e | e
   · rw[e]; exact .inl ⟨x,sl',S',rfl⟩
   · rw[e]; exact .inr (.inl rfl)
   · rw[e]
     cases b sl1 S with
     | nx sl' S'=>exact Fs h its sl' S'
     | ct sl' S'=>exact Fs h its sl' S'
     | _=>exact .inr (.inr rfl)
theorem SE.for {ms:MI} {eff:oF} (h:SE b c):SE (lZ ms eff b) (lZ ms eff c):=fun sl S=>AV.st .rf fun its S1=>Fs h its sl S1
theorem AE.cons (h1:EE m n) (h2:AE ma na):AE (aC m ma) (aC n na):=fun sl S=>AV.bind (h1 sl S) fun d S1=>AV.bind (h2 sl S1) fun ds S2=>.rf
theorem EE.call (hf:FE f g) (ha:AE ma na):EE (aw k f ma) (aw k g na):=fun sl S=>AV.bind (ha sl S) fun ds S1=>by
 split
 · exact hf ds S1
 · exact .inr (.inr rfl)
theorem FE.runB (h:SE b c):FE (runB k b) (runB k c):=fun ds S=>by
 unfold Z.runB
 rcases h (yV k ds) S with ⟨x,sl',S',e⟩ | e | e
 · rw[e]; exact .inl ⟨x,S',rfl⟩
 · rw[e]; exact .inr (.inl rfl)
 · rw[e]
   cases b (yV k ds) S with
   | exc x sl' S'=>exact .inl ⟨x,S',rfl⟩
   | _=>exact .inr (.inr rfl)
theorem FE.runZ (h:SE b c):FE (runZ k b) (runZ k c):=fun ds S=>by
 unfold Z.runZ
 rcases FE.runB (k:=k) h ds S with ⟨x,S',e⟩ | e | e
 · rw[e]
   generalize Z.runB k c ds S=z
   by_cases hc:(S'.take S.length).all (lq S.length)=true
   · exact .inl ⟨x,S'.take S.length,by simp only[qU,if_pos hc]⟩
   · exact .inr (.inl (by simp only[qU,if_neg hc]))
 · rw[e]; exact .inr (.inl rfl)
 · rw[e]; exact .inr (.inr rfl)
theorem FE.ok (h:FE f g) {ds:List D} {S S':ag} {d:D} (e:f ds S=.ok d S'):g ds S=.ok d S':=by
 rcases h ds S with ⟨x,S1,e1⟩ | e1 | e1
 · rw[e] at e1; cases e1
 · rw[e] at e1; cases e1
 · rw[e1,e]
end
theorem RE {names vals:List Str} {s:aE} (h:s.frm) (hb:s.fitB names vals=true):s.ok names vals:=by
 cases s with
 | read x k n o =>
  obtain⟨h1,h2,h3,h4,h5⟩:=h
  simp[aE.fitB,aE.sts,aE.rd,aE.wr,aE.mkB,aE.mk,aE.usB,aE.us] at hb
  exact⟨h1,hb.2.2.1,hb.2.2.2,h2,hb.2.1,h4,hb.1⟩
 | write k n o v =>
  obtain⟨h1,h2,h3,h4,h5⟩:=h
  rcases h5 with ⟨i,rfl,hi⟩ | ⟨x,hx,rfl⟩
  · simp[aE.fitB,aE.sts,aE.rd,aE.wr,aE.mkB,aE.mk,aE.usB,aE.us] at hb
    exact⟨h1,hb.2,h3,hb.1, .inl ⟨i,rfl,hi⟩⟩
  · simp[aE.fitB,aE.sts,aE.rd,aE.wr,aE.mkB,aE.mk,aE.usB,aE.us] at hb
    exact⟨h1,hb.2.1,h3,hb.1, .inr ⟨x,hb.2.2,rfl⟩⟩
 | copy m n o n' o' =>
  obtain⟨h1,h2,h3,h4,h5,h6,h7,h8⟩:=h
  simp[aE.fitB,aE.sts,aE.rd,aE.wr,aE.mkB,aE.mk,aE.usB,aE.us] at hb
  refine⟨h1,?_,h4,?_,?_,h7,?_⟩ <;> first | exact hb.2.1 | exact hb.2.2 | exact hb.1.1 | exact hb.1.2
 | blank m n o =>
  obtain⟨h1,h2,h3,h4,h5⟩:=h
  simp[aE.fitB,aE.sts,aE.rd,aE.wr,aE.mkB,aE.mk,aE.usB,aE.us] at hb
  exact⟨h1,hb.2,h4,hb.1⟩
 | tell x =>
  simp[aE.fitB,aE.sts,aE.rd,aE.wr,aE.mkB,aE.mk,aE.usB,aE.us] at hb
  exact hb
theorem GW {names:List Str}:∀ {ps:List Z.P} {vs:List Str} {i:Nat},kT names vs i ps=none→∃ ss:List aE,ps=ss.map aE.p∧eN names vs ss
 | [],vs,i,_=>⟨[],rfl,trivial⟩
 | p::ps,vs,i,h=>by
  simp only[kT] at h
  cases hs:lG p with
  | none=>rw[hs] at h; cases h
  | some s =>
   rw[hs] at h
   simp only[] at h
   obtain⟨rfl,hf⟩:=kP hs
   by_cases hb:s.fitB names vs=true
   · rw[if_pos hb] at h
     obtain⟨ss,rfl,hk⟩:=GW h
     rw[BE] at hk
     exact⟨s::ss,rfl,RE hf hb,hk⟩
   · rw[if_neg hb] at h; cases h
theorem OX {t:Txt} (h:t.ok) {ps:List Z.P} (hw:iZ t.pl t.pt (.tup ps)=none):∃ t':Txt,t'.ok∧t'.pl=t.pl∧t'.pt=t.pt∧t'.st=.tup ps∧t'.places=t.places∧t'.ptrs=t.ptrs:=by
 unfold iZ at hw
 rw[h.wpl] at hw
 simp only[] at hw
 rw[h.wpt] at hw
 simp only[D7] at hw
 by_cases hl:12 < ps.length
 · simp only[if_pos hl] at hw; cases hw
 · simp only[if_neg hl] at hw
   cases hc:kT t.names [] 0 ps with
   | some i=>simp only[hc] at hw; cases hw
   | none =>
    obtain⟨ss,rfl,hk⟩:=GW hc
    refine⟨⟨t.places,t.ptrs,ss⟩,⟨h.pl,h.pt,h.nl,h.nm,h.nd,h.kd,?_,hk⟩,rfl,rfl,rfl,rfl,rfl⟩
    rw[List.length_map] at hl
    exact Nat.le_of_not_lt hl
theorem U7:FE bJ jN:=.runZ (.seq (.iff (.seq .raise .rf) .rf) (.seq .rf (.seq (.for (.seq (.iff (.seq .raise .rf) .rf) (.seq (.iff (.seq .raise .rf) .rf) .rf))) .rf)))
theorem Vr:FE bg jf:=.runZ (.seq (.iff (.seq .raise .rf) .rf) (.seq .rf (.seq (.for (.seq (.iff (.seq .raise .rf) .rf) .rf)) .rf)))
theorem Wg:FE bW kL:=.runZ (.seq (.iff (.seq .raise .rf) .rf) (.seq .rf (.seq (.for (.seq (.iff (.seq .raise .rf) .rf) .rf)) .rf)))
theorem Wt:FE aW iW:=.runB (.seq (.set (.call Vr (.cons .rf (.cons (.call U7 .rf) .rf)))) (.seq (.expr (.call Wg .rf)) .rf))
theorem EE.make {cn:Str} {n:Nat} {dfl:List Z.P} {f g:Fn} {ma:MA} (h:FE f g):EE (iU cn n dfl f ma) (iU cn n dfl g ma):=fun sl S=>AV.bind .rf fun ds S1=>by
 split
 · rcases h (.ref S1.length::(ds++dfl.map .p)) (S1++[.ins cn [] []]) with ⟨x,S',e⟩ | e | e
   · rw[e]; exact .inl ⟨x,S',rfl⟩
   · rw[e]; exact .inr (.inl rfl)
   · rw[e]; exact .inr (.inr rfl)
 · exact .inr (.inr rfl)
theorem EE.fz {m n:M} (h:EE m n) {sl:av} {S S':ag} {d:D} (e:A6 m sl S=.ok d S'):A6 n sl S=.ok d S':=by
 unfold A6 at e ⊢
 rcases h sl S with ⟨x,S1,e1⟩ | e1 | e1
 · rw[e1] at e
   simp only[qU] at e
   split at e <;> cases e
 · rw[e1] at e; cases e
 · rw[e1]; exact e
section
variable {S:ag} {n:Nat} {sl:av} {t:Txt} {E:Xc→ag→Prop} {Q:D→ag→Prop}
theorem EY {ma:MA} (hS:clSt S) (h:t.ok) (ha:ma sl S=.ok [.p t.pl, .p t.pt, .p t.st] S):A6 (iU "Text" 3 [] aW ma) sl S=.ok (.p (TX t)) S:=Rs.sx.eq (by
 obtain⟨s1,s2,s3,_⟩:=h.sms
 exact mf hS s1 s2 s3 ha (fun _=>⟨rfl,rfl⟩) (fun w ix hw=>by rw[h.wr] at hw; cases hw))
theorem Sf {ma:MA} (hS:clSt S) (h:t.ok) (ha:ma sl S=.ok [.p t.pl, .p t.pt, .p t.st] S):A6 (iU "Text" 3 [] iW ma) sl S=.ok (.p (TX t)) S:=EE.fz (EE.make Wt) (EY hS h ha)
theorem Yz {a b c:Z.P} {i:Nat} (h:sl[i]?=some (some (.p (.tup [a,b,c])))):aC (bV (eV i) (eK (.int 0))) (aC (bV (eV i) (eK (.int 1))) (aC (bV (eV i) (eK (.int 2))) (aN))) sl S=.ok [.p a, .p b, .p c] S:=E3 (by
 rw[gy,Cg,qz,h]
 show (match (.p (.tup [a,b,c]):D) with | _=>(eK (.int 0) sl S).sx _ _)
 simp[Ek,ef,atI,h]
 exact⟨rfl,rfl,rfl⟩)
theorem L7 {ps:List Z.P} (hS:clSt S) (h:t.ok) (hp:∀ p∈ps,sm 2 p=true) (hl:ps.length≤1000) (k:∀ t':Txt,t'.ok→t'.places=t.places→t'.ptrs=t.ptrs→Q (.p (TX t')) S) :
  (mq [.p (.tup [t.pl,t.pt, .tup ps]), .p (.tup [t.pl,t.pt,t.st])] S).sx E Q:=by
 obtain⟨s1,s2,s3,_⟩:=h.sms
 have s4:sm 3 (.tup ps)=true:=by
  show (decide (ps.length≤1000) && ps.all (sm 2))=true
  rw[decide_eq_true hl,Bool.true_and]
  exact List.all_eq_true.mpr hp
 unfold mq Ku
 rw[bp]
 show ((ao _ _) [some (.p (.tup [t.pl,t.pt, .tup ps])),some (.p (.tup [t.pl,t.pt,t.st]))] S).sx _ _ _
 rw[dD,Pz,dD,CU]
 refine mf hS s1 s2 s4 (Yz rfl) (fun hw=>?_) (fun w ix hw=>?_)
 · obtain⟨t',h',e1,e2,e3,e4,e5⟩:=OX h hw
   have:ng t.pl t.pt (.tup ps)=TX t':=by unfold TX; rw[e1,e2,e3]
   rw[this]
   exact k t' h' e4 e5
 · have e:J0 gQ (Bc w ix).c=some true:=by kernel_rfl
   simp only[Z.yJ,e]
   rw[dD,CU,Sf hS h (Yz rfl),aG]
   exact k t h rfl rfl
end
theorem nY {names:List Str}:∀ {vals:List Str} {ss:List aE},eN names vals ss→∀ s∈ss,∃ vs,s.ok names vs
 | vals,s::ss,h,x,hx=>by
  rcases List.mem_cons.mp hx with rfl | hx
  · exact⟨vals,h.1⟩
  · exact nY h.2 x hx
theorem BK {α:Type} {xs:List α} {i:Nat} {x:α} (h:xs[i]?=some x):atI xs (i:Int)=some x:=by
 obtain⟨hl,rfl⟩:=List.getElem?_eq_some_iff.mp h
 exact Mn hl
theorem R6 {α:Type} {xs:List α} (h:0 < xs.length):atI xs (-1)=some xs[xs.length - 1]:=by
 have e:ixN xs.length (-1)=some (xs.length - 1):=by
  unfold ixN
  rw[if_neg (by omega),if_pos (by omega)]
  congr 1
  omega
 unfold atI
 rw[e]
 simp[h]
theorem xH {α:Type} {xs:List α} {lo hi:Option Int} {x:α} (h:x∈Z.fN xs lo hi):x∈xs:=List.mem_of_mem_drop (List.mem_of_mem_take h)
theorem oB {α:Type} {xs:List α} {lo hi:Option Int}:(Z.fN xs lo hi).length≤xs.length:=by
 unfold Z.fN
 rw[List.length_take,List.length_drop]
 omega
theorem PU {s:aE} {names vals:List Str} (h:s.ok names vals):∃ xs:List Z.P,s.p=.tup xs∧2≤xs.length∧xs.length≤6∧∀ x∈xs,(∃ i,x=.int i)∨∃ z,x=.str z:=by
 cases s with
 | write k n o v =>
  refine⟨_,rfl,by simp,by simp,fun x hx=>?_⟩
  simp only[List.mem_cons,List.not_mem_nil,or_false] at hx
  rcases hx with rfl | rfl | rfl | rfl | rfl
  · exact .inr ⟨_,rfl⟩
  · exact .inr ⟨_,rfl⟩
  · exact .inr ⟨_,rfl⟩
  · exact .inl ⟨_,rfl⟩
  · obtain⟨_,_,_,_,⟨i,e,_⟩ | ⟨y,_,e⟩⟩:=h
    · exact .inl ⟨i,e⟩
    · exact .inr ⟨y,e⟩
 | _ =>
  refine⟨_,rfl,by simp,by simp,fun x hx=>?_⟩
  simp only[List.mem_cons,List.not_mem_nil,or_false] at hx
  rcases hx with rfl | rfl | rfl | rfl | rfl | rfl <;> first | exact .inr ⟨_,rfl⟩ | exact .inl ⟨_,rfl⟩
theorem sm_tup {n:Nat} {xs:List Z.P} (h:sm (n+1) (.tup xs)=true):∀ x∈xs,sm n x=true:=by
 have h:(decide (xs.length≤1000) && xs.all (sm n))=true:=h
 rw[Bool.and_eq_true] at h
 exact List.all_eq_true.mp h.2
theorem Ta {n:Nat} {xs:List Z.P} (hl:xs.length≤1000) (h:∀ x∈xs,sm n x=true):sm (n+1) (.tup xs)=true:=by
 show (decide (xs.length≤1000) && xs.all (sm n))=true
 rw[decide_eq_true hl,Bool.true_and]
 exact List.all_eq_true.mpr h
section
variable {S S1 S2:ag} {n i:Nat} {sl:av} {t:Txt} {d d':D} {F:Xc→av→ag→Prop} {N:av→ag→Prop} {T:D→ag→Prop} {E:Xc→ag→Prop} {Q:D→ag→Prop}
theorem Es {m:M} {lo hi:MO} {ds:List Z.P} {l h:Option Int} (hm:m sl S=.ok (.p (.tup ds)) S) (hl:lo sl S=.ok l S) (hh:hi sl S=.ok h S):uD m lo hi sl S=.ok (.p (.tup (Z.fN ds l h))) S:=Rs.sx.eq (by
 rw[Uj,hm,aG,hl,aG,hh,aG,A8]
 simp only[eA,aq]
 show lH (some (P.tup (Z.fN ds l h))) _
 rw[aq]
 refine⟨?_,?_⟩ <;> first | rfl | trivial)
theorem gC {m:M} {ma:MA} {ds:List D} (h1:m sl S=.ok d S1) (h2:ma sl S1=.ok ds S2):aC m ma sl S=.ok (d::ds) S2:=by
 unfold aC
 rw[h1]
 simp only[Rs.bind]
 rw[h2]
theorem La {m1 m2 m3:M} {a b c:Z.P} (h1:m1 sl S=.ok (.p a) S) (h2:m2 sl S=.ok (.p b) S) (h3:m3 sl S=.ok (.p c) S):eT (aC m1 (aC m2 (aC m3 aN))) sl S=.ok (.p (.tup [a,b,c])) S:=Rs.sx.eq (by
 rw[JU,gy,h1,aG,gy,h2,aG,gy,h3,aG,mv]
 simp[cR])
theorem IS {f:Z.P→Z.P→Option Z.P} {m1 m2:M} {p q r:Z.P} (h1:m1 sl S=.ok (.p p) S) (h2:m2 sl S=.ok (.p q) S) (hf:f p q=some r):eB f m1 m2 sl S=.ok (.p r) S:=Rs.sx.eq (by
 rw[SJ,h1,aG,h2,aG,jU]
 simp only[eA,aq]
 rw[hf,aq]
 refine⟨?_,?_⟩ <;> first | rfl | trivial)
theorem Cm {f:Z.P→Z.P→Option Z.P} {m1 m2:M} {p q:Z.P} {b:Bool} (h1:m1 sl S=.ok (.p p) S) (h2:m2 sl S=.ok (.p q) S) (hf:f p q=some (.bl b)):tB f m1 m2 sl S=.ok b S:=tok (by
 rw[SQ,IS h1 h2 hf,aG,Kj]
 simp only[eA,aq]
 refine⟨?_,?_⟩ <;> first | rfl | trivial)
theorem uv {m1 m2:M} {ps:List Z.P} {k:Int} {q:Z.P} (h1:m1 sl S=.ok (.p (.tup ps)) S) (h2:m2 sl S=.ok (.p (.int k)) S) (ha:atI ps k=some q):bV m1 m2 sl S=.ok (.p q) S:=Rs.sx.eq (by
 rw[Cg,h1,aG,h2,aG]
 show (D8 (.p (.tup ps)) (.p (.int k)) S).sx _ _
 rw[Cr]
 simp only[ef,ha,aq]
 refine⟨?_,?_⟩ <;> first | rfl | trivial)
abbrev n9 (n:Nat) (t:Txt) (x5 x6 x7 x8:Option D):av:=[some (.ref n),some (.p (.tup [t.pl,t.pt,t.st])),some (.p t.pl),some (.p t.pt),some (.p t.st),x5,x6,x7,x8]
theorem uo {m1:M} {ps:List Z.P} (hS:clSt S) (h:t.ok) (h1:m1 sl S=.ok (.p (.tup [t.pl,t.pt, .tup ps])) S) (h2:sl[1]?=some (some (.p (.tup [t.pl,t.pt,t.st])))) (hp:∀ p∈ps,sm 2 p=true) (hl:ps.length≤1000) (k:∀ t':Txt,t'.ok→T (.p (TX t')) S) :
  (be (aw 2 mq (aC m1 (aC (eV 1) (aN)))) sl S).sx F N T:=by
 rw[CU,kS,gy,h1,aG,gy,qz,h2]
 show ((aN) _ _).sx _ _
 rw[mv]
 refine⟨rfl,?_⟩
 exact L7 hS h hp hl fun t' h' _ _=>k t' h'
theorem KR (hb:zU S n) (hp:fq S) (h:t.ok) (hs:0 < t.steps.length) (hpt:0 < t.ptrs.length) (k:∀ (t':Txt) S',t'.ok→jl n S S'→Q (.p (TX t')) S') :
  (qV [.ref n, .p (.tup [t.pl,t.pt,t.st])] S).sx E Q:=by
 obtain⟨s1,s2,s3,_⟩:=h.sms
 have Wq:=h.sl
 have Io:∀ p∈t.steps.map aE.p,sm 2 p=true:=sm_tup s3
 have hlen:(t.steps.map aE.p).length=t.steps.length:=List.length_map ..
 unfold qV Ml
 refine Be fun F N T hE hN hT=>?_
 have e1:uF (eG 3 (aO (bh 2) (aO (bh 3) (aO (bh 4) cu)))) (eV 1) [some (.ref n),some (.p (.tup [t.pl,t.pt,t.st])),none,none,none,none,none,none,none] S=.nx (n9 n t none none none none) S:=rfl
 show ((ao _ _) [some (.ref n),some (.p (.tup [t.pl,t.pt,t.st])),none,none,none,none,none,none,none] S).sx _ _ _
 rw[dD,e1,LN]
 have eln:∀ {x5 x6 x7 x8:Option D} {S:ag},eF dh (aC (eV 4) (aN)) (n9 n t x5 x6 x7 x8) S=.ok (.p (.int (t.steps.length:Int))) S:=fun {x5 x6 x7 x8 S}=>Rs.sx.eq (by
  rw[Oi,gC (d:=.p t.st) rfl rfl,aG]
  simp only[cZ,dS,eA,aq]
  show lH (dh [.tup (t.steps.map aE.p)]) _
  simp only[dh,hlen,if_pos (aR (show t.steps.length≤1000 by omega)),aq]
  refine⟨?_,?_⟩ <;> first | rfl | trivial)
 refine cY (fun d S1=>∃ i:Nat,i < t.steps.length∧d=.p (.int (i:Int))∧jl n S S1) (fun R hR=>?_) ?_
 · rw[kS,gy,qz]
   show ((aC _ _) _ _).sx _ _
   rw[gy,eln,aG,mv]
   refine⟨rfl,?_⟩
   refine bA (many:=(t.steps.length:Int)) hb (by omega) (by omega) fun d S1 h0 h1 u=>?_
   exact hR _ _ ⟨d.toNat,by omega,by rw[show ((d.toNat:Nat):Int)=d by omega],u⟩
 rintro _ S1 ⟨i,hi,rfl,u1⟩
 have Xx:=u1.pure hp
 have WJ:=u1.bag hb
 simp only[List.set]
 obtain⟨vs,Ph⟩:=nY h.st t.steps[i] (List.getElem_mem hi)
 obtain⟨xs,hx,hx2,hx6,Wn⟩:=PU Ph
 have Yg:atI (t.steps.map aE.p) ((i:Nat):Int)=some (.tup xs):=BK (by rw[List.getElem?_map,List.getElem?_eq_getElem hi,Option.map_some,hx])
 have UN:Z.P.tup xs∈t.steps.map aE.p:=by rw[← hx]; exact List.mem_map_of_mem (List.getElem_mem hi)
 have Vg:∀ x∈xs,sm 1 x=true:=sm_tup (Io _ UN)
 have eix:∀ {x6 x7 x8:Option D} {S:ag},bV (eV 4) (eV 5) (n9 n t (some (.p (.int (i:Int)))) x6 x7 x8) S=.ok (.p (.tup xs)) S:=fun {x6 x7 x8 S}=>uv (ps:=t.steps.map aE.p) rfl rfl Yg
 refine bZ (fun sl S2=>∃ (d:Int) (S3:ag),jl n S1 S3∧S2=S3++[.lst (xs.map .p)]∧sl=n9 n t (some (.p (.int (i:Int)))) (some (.ref S3.length)) (some (.p (.int d))) none) (fun R hR=>?_) ?_
 · have el:og (aC (bV (eV 4) (eV 5)) (aN)) (n9 n t (some (.p (.int (i:Int)))) none none none) S1=.ok (.ref S1.length) (S1++[.lst (xs.map .p)]):=by
    unfold og
    rw[gC eix rfl]
    rfl
   rw[QG,gy,el,aG,gy,kS,gy,qz]
   show ((aC _ _) _ _).sx _ _
   rw[gy,Ek,mv]
   refine⟨rfl,?_⟩
   refine bA (many:=4) WJ.app (by decide) (by decide) fun d S2 _ _ u=>?_
   obtain⟨S3,rfl,u3⟩:=u.app WJ
   rw[mv]
   refine⟨rfl,?_⟩
   have e3:=u3.len
   exact hR _ _ ⟨d,S3,u3,rfl,by rw[e3]; rfl⟩
 rintro _ _ ⟨d,S3,u3,rfl,rfl⟩
 have Qa:=u3.pure Xx
 have Uu:=u3.bag WJ
 have hl3:S3.length=S.length:=u3.len.trans u1.len
 have YE:=u1.trans u3
 have fin:∀ (t':Txt) (S4:ag) (c:eQ),t'.ok→jl n S S4→T (.p (TX t')) (S4++[c]):=fun t' S4 c h' u=>hT _ S4 [c] _ u.len (u.pure hp) rfl (k t' S4 h' u)
 have yM:∀ {S4:ag} {ds:List Z.P},fq S4→clSt (S4++[.lst (ds.map .p)]):=fun {S4 ds} hq=>hq.clSt.app fun c hc=>by
  rw[List.mem_singleton.mp hc]
  exact List.all_eq_true.mpr fun q hq=>by obtain⟨y,_,rfl⟩:=List.mem_map.mp hq; rfl
 have c7:∀ w:Int,tB bP (eV 7) (eK (.int w)) (n9 n t (some (.p (.int (i:Int)))) (some (.ref S3.length)) (some (.p (.int d))) none) (S3++[.lst (xs.map .p)])=.ok (d == w) (S3++[.lst (xs.map .p)]):=fun w=>Cm (p:=.int d) (q:=.int w) rfl rfl rfl
 have Qcv:(t.steps.map aE.p).length≤12:=by rw[hlen]; omega
 rw[dD,yP,c7,aG]
 by_cases h0:(d == 0)=true
 · rw[if_pos h0,dD]
   refine uo (ps:=Z.fN (t.steps.map aE.p) none (some (i:Int))) (yM Qa) h (La rfl rfl (Es (ds:=t.steps.map aE.p) rfl rfl rfl)) rfl (fun p hq=>Io p (xH hq)) (Nat.le_trans oB (by omega)) fun t' h'=>fin t' S3 _ h' YE
 rw[if_neg h0,gW,dD,yP,c7,aG]
 by_cases h1:(d == 1)=true
 · rw[if_pos h1,dD]
   have e1:eB ck (eV 4) (eT (aC (bV (eV 4) (eV 5)) (aN))) (n9 n t (some (.p (.int (i:Int)))) (some (.ref S3.length)) (some (.p (.int d))) none) (S3++[.lst (xs.map .p)])=.ok (.p (.tup (t.steps.map aE.p++[.tup xs]))) (S3++[.lst (xs.map .p)]):=IS (p:=.tup (t.steps.map aE.p)) (q:=.tup [.tup xs]) rfl (Rs.sx.eq (by
    rw[JU,gC eix rfl,aG]
    simp only[cR,aq,Option.map_some]
    refine⟨aR (by simp),?_⟩
    refine⟨?_,?_⟩ <;> first | rfl | trivial)) (rF (by simp; omega))
   refine uo (ps:=t.steps.map aE.p++[.tup xs]) (yM Qa) h (La rfl rfl e1) rfl (fun p hq=>?_) (by rw[List.length_append,List.length_singleton]; omega) fun t' h'=>fin t' S3 _ h' YE
   rcases List.mem_append.mp hq with hq | hq
   · exact Io p hq
   · rw[List.mem_singleton.mp hq]; exact Io _ UN
 rw[if_neg h1,gW]
 have Yy:∀ {x7 x8:Option D} {S:ag} {ds:List Z.P},ds.length≤6→eF dh (aC (eV 6) (aN)) (n9 n t (some (.p (.int (i:Int)))) (some (.ref S.length)) x7 x8) (S++[.lst (ds.map .p)])=.ok (.p (.int (ds.length:Int))) (S++[.lst (ds.map .p)]):=fun {x7 x8 S ds} hd=>Rs.sx.eq (by
  have hv:view (S++[.lst (ds.map .p)]) (.ref S.length)=some (.lst (ds.map id)):=pG (f:=id) (S:=S++[.lst (ds.map fun x=>D.p (id x))]) (by simp)
  rw[Oi,gC (d:=.ref S.length) rfl rfl,aG]
  simp only[cZ,dS,hv,aq,List.map_id]
  simp only[dh,if_pos (aR (show ds.length≤1000 by omega)),aq]
  refine⟨?_,?_⟩ <;> first | rfl | trivial)
 refine cY (fun d S2=>∃ (j:Nat) (S4:ag),j < xs.length∧d=.p (.int (j:Int))∧jl n S3 S4∧S2=S4++[.lst (xs.map .p)]) (fun R hR=>?_) ?_
 · rw[SJ,Ek,kS,gy,qz]
   show ((aC _ _) _ _).sx _ _
   have es:eB jR (eF dh (aC (eV 6) (aN))) (eK (.int 1)) (n9 n t (some (.p (.int (i:Int)))) (some (.ref S3.length)) (some (.p (.int d))) none) (S3++[.lst (xs.map .p)])=.ok (.p (.int ((xs.length:Int) - 1))) (S3++[.lst (xs.map .p)]):=IS (p:=.int (xs.length:Int)) (q:=.int 1) (Yy hx6) rfl rfl
   rw[gy,es,aG,mv]
   refine⟨rfl,?_⟩
   refine bA (many:=(xs.length:Int) - 1) Uu.app (by omega) (by omega) fun e S2 e0 e1 u=>?_
   obtain⟨S4,rfl,u4⟩:=u.app Uu
   rw[jU]
   simp only[eA,aq]
   rw[show ck (.int 1) (.int e)=some (.int ((e.toNat+1:Nat):Int)) by
    show some (Z.P.int (1+e))=some (Z.P.int ((e.toNat+1:Nat):Int))
    congr 2
    omega,aq]
   exact hR _ _ ⟨e.toNat+1,S4,by omega,rfl,u4,rfl⟩
 rintro _ _ ⟨j,S4,hj,rfl,u4,rfl⟩
 have Xl:=u4.pure Qa
 have Wl:=u4.bag Uu
 have u14:=YE.trans u4
 have Xv:S4.length=S3.length:=u4.len
 simp only[List.set]
 rw[← Xv]
 refine bZ (fun sl S5=>∃ (S6:ag) (q:Z.P),jl n S4 S6∧sm 1 q=true∧S5=S6++[.lst ((xs.set j q).map .p)]∧sl=n9 n t (some (.p (.int (i:Int)))) (some (.ref S6.length)) (some (.p (.int d))) (some (.p (.int (j:Int))))) (fun R hR=>?_) ?_
 · have g6:∀ {S:ag},(S++[eQ.lst (xs.map .p)])[S.length]?=some (.lst (xs.map .p)):=fun {S}=>by simp
   have Rm:atI xs ((j:Nat):Int)=some xs[j]:=BK (List.getElem?_eq_getElem hj)
   have Rw:bV (eV 6) (eV 8) (n9 n t (some (.p (.int (i:Int)))) (some (.ref S4.length)) (some (.p (.int d))) (some (.p (.int (j:Int))))) (S4++[.lst (xs.map .p)])=.ok (.p xs[j]) (S4++[.lst (xs.map .p)]):=Rs.sx.eq (by
    have Zy:atI (xs.map D.p) ((j:Nat):Int)=some (.p xs[j]):=BK (by rw[List.getElem?_map,List.getElem?_eq_getElem hj]; rfl)
    rw[Cg,qz]
    show (eV 8 _ _).sx _ _
    rw[qz]
    show (D8 (.ref S4.length) (.p (.int (j:Int))) (S4++[.lst (xs.map .p)])).sx _ _
    simp[D8,ia,Zy])
   have cont:∀ {q:Z.P} {S6:ag},jl n S4 S6→sm 1 q=true→(eV 6 (n9 n t (some (.p (.int (i:Int)))) (some (.ref S4.length)) (some (.p (.int d))) (some (.p (.int (j:Int))))) (S6++[.lst (xs.map .p)])).sx (yJ F (n9 n t (some (.p (.int (i:Int)))) (some (.ref S4.length)) (some (.p (.int d))) (some (.p (.int (j:Int)))))) (fun d' S2=>(eV 8 (n9 n t (some (.p (.int (i:Int)))) (some (.ref S4.length)) (some (.p (.int d))) (some (.p (.int (j:Int))))) S2).sx (yJ F (n9 n t (some (.p (.int (i:Int)))) (some (.ref S4.length)) (some (.p (.int d))) (some (.p (.int (j:Int)))))) fun k S3=>match d' with
     | .ref m=>lH (qW S3 m k (.p q)) fun S4'=>(az (n9 n t (some (.p (.int (i:Int)))) (some (.ref S4.length)) (some (.p (.int d))) (some (.p (.int (j:Int))))) S4').sx F R T
     | _=>False):=fun {q S6} u6 hq=>by
    have LJ:=u6.len
    rw[qz]
    show (eV 8 _ _).sx _ _
    rw[qz]
    show lH (qW (S6++[.lst (xs.map .p)]) S4.length (.p (.int (j:Int))) (.p q)) _
    have ZP:qW (S6++[eQ.lst (xs.map .p)]) S4.length (.p (.int (j:Int))) (.p q)=some (S6++[.lst ((xs.set j q).map .p)]):=by
     unfold qW
     rw[← LJ,g6]
     simp only[eA,List.length_map]
     have ZA:ixN xs.length ((j:Nat):Int)=some j:=by
      unfold ixN
      simp[hj]
     rw[ZA]
     simp
    rw[ZP,aq,gW]
    refine hR _ _ ⟨S6,q,u6,hq,rfl,?_⟩
    rw[LJ]
   have tk:∀ {w:Int} {Q:D→ag→Prop} {E:Xc→ag→Prop},0 < w→w < 100→(∀ (e:Int) S6,0≤e→e < w→jl n S4 S6→Q (.p (.int e)) (S6++[.lst (xs.map .p)]))→(aw 2 bH (aC (eV 0) (aC (eK (.int w)) (aN))) (n9 n t (some (.p (.int (i:Int)))) (some (.ref S4.length)) (some (.p (.int d))) (some (.p (.int (j:Int))))) (S4++[.lst (xs.map .p)])).sx E Q:=fun {w Q E} w0 w1 kk=>by
    rw[kS,gy,qz]
    show ((aC _ _) _ _).sx _ _
    rw[gy,Ek,mv]
    refine⟨rfl,?_⟩
    refine bA (many:=w) Wl.app w0 (by omega) fun e S2 e0 e1 u=>?_
    obtain⟨S6,rfl,u6⟩:=u.app Wl
    exact kk e S6 e0 e1 u6
   have U6:∀ {L:List Z.P} {e:Int},0≤e→e < (L.length:Int)→∃ q∈L,atI L e=some q:=fun {L e} e0 e1=>by
    obtain⟨w,rfl⟩:∃ w:Nat,e=(w:Int):=⟨e.toNat,by omega⟩
    have hw:w < L.length:=by omega
    exact⟨L[w],List.getElem_mem hw,BK (List.getElem?_eq_getElem hw)⟩
   rcases Wn xs[j] (List.getElem_mem hj) with ⟨z,hz⟩ | ⟨z,hz⟩
   · have ci:tV (eF br (aC (bV (eV 6) (eV 8)) (aC (eK (.ty "int")) (aN)))) (n9 n t (some (.p (.int (i:Int)))) (some (.ref S4.length)) (some (.p (.int d))) (some (.p (.int (j:Int))))) (S4++[.lst (xs.map .p)])=.ok true (S4++[.lst (xs.map .p)]):=tok (by
      rw[Eg,Oi,gC Rw (gC (d:=.p (.ty "int")) rfl rfl),aG]
      simp only[cZ,dS,eA,aq,hz]
      rw[show br [.int z, .ty "int"]=some (.bl true) by kernel_rfl,aq]
      simp[md])
     rw[yP,ci,aG,if_pos rfl,dD,QU,SJ,Rw,aG,hz,Cg]
     have el:eL (aC (eK (.int 1)) (aC (eU ii (eK (.int 1))) (aN))) (n9 n t (some (.p (.int (i:Int)))) (some (.ref S4.length)) (some (.p (.int d))) (some (.p (.int (j:Int))))) (S4++[.lst (xs.map .p)])=.ok (.p (.lst [.int 1, .int (-1)])) (S4++[.lst (xs.map .p)]):=rfl
     rw[el,aG]
     refine tk (w:=2) (by decide) (by decide) fun e S6 e0 e1 u6=>?_
     obtain⟨q,hq,ha⟩:=U6 (L:=[.int 1, .int (-1)]) e0 (by simpa using e1)
     show (D8 (.p (.lst [.int 1, .int (-1)])) (.p (.int e)) _).sx _ _
     rw[Cr]
     simp only[ef,ha,aq]
     rw[jU]
     simp only[eA,aq]
     simp only[List.mem_cons,List.not_mem_nil,or_false] at hq
     rcases hq with rfl | rfl
     · exact cont (q:=.int (z+1)) u6 rfl
     · exact cont (q:=.int (z+-1)) u6 rfl
   · have ci:tV (eF br (aC (bV (eV 6) (eV 8)) (aC (eK (.ty "int")) (aN)))) (n9 n t (some (.p (.int (i:Int)))) (some (.ref S4.length)) (some (.p (.int d))) (some (.p (.int (j:Int))))) (S4++[.lst (xs.map .p)])=.ok false (S4++[.lst (xs.map .p)]):=tok (by
      rw[Eg,Oi,gC Rw (gC (d:=.p (.ty "int")) rfl rfl),aG]
      simp only[cZ,dS,eA,aq,hz]
      rw[show br [.str z, .ty "int"]=some (.bl false) by kernel_rfl,aq]
      simp[md])
     obtain⟨y,hy,Ut⟩:∃ y,atI (t.ptrs.map Z.P.str) (-1)=some (.str y)∧y∈t.ptrs:=by
      have hpl:0 < (t.ptrs.map Z.P.str).length:=by rw[List.length_map]; exact hpt
      refine⟨t.ptrs[t.ptrs.length - 1],?_,List.getElem_mem _⟩
      rw[R6 hpl]
      simp
     have Z2:ak y=true:=h.nm y (List.mem_append_right _ Ut)
     rw[yP,ci,aG,if_neg Bool.false_ne_true,dD,QU,Cg]
     have el:eL (aC (bV (eV 3) (eU ii (eK (.int 1)))) (aC (eK (.str "i1")) (aC (eK (.str "int4")) (aC (eK (.str "zz9")) (aN))))) (n9 n t (some (.p (.int (i:Int)))) (some (.ref S4.length)) (some (.p (.int d))) (some (.p (.int (j:Int))))) (S4++[.lst (xs.map .p)])=.ok (.p (.lst [.str y, .str "i1", .str "int4", .str "zz9"])) (S4++[.lst (xs.map .p)]):=Rs.sx.eq (by
      rw[Qt,gC (uv (ps:=t.ptrs.map .str) (k:=-1) rfl rfl hy) (gC (d:=.p (.str "i1")) rfl (gC (d:=.p (.str "int4")) rfl (gC (d:=.p (.str "zz9")) rfl rfl))),aG]
      simp only[cR,aq,Option.map_some]
      refine⟨aR (by simp),?_⟩
      refine⟨?_,?_⟩ <;> first | rfl | trivial)
     rw[el,aG]
     refine tk (w:=4) (by decide) (by decide) fun e S6 e0 e1 u6=>?_
     obtain⟨q,hq,ha⟩:=U6 (L:=[.str y, .str "i1", .str "int4", .str "zz9"]) e0 (by simpa using e1)
     show (D8 (.p (.lst [.str y, .str "i1", .str "int4", .str "zz9"])) (.p (.int e)) _).sx _ _
     rw[Cr]
     simp only[ef,ha,aq]
     refine cont (q:=q) u6 ?_
     simp only[List.mem_cons,List.not_mem_nil,or_false] at hq
     rcases hq with rfl | rfl | rfl | rfl
     · have Zb:=dH Z2
       show (di y && decide (y.length≤1000))=true
       rw[ff Z2,Bool.true_and]
       exact decide_eq_true (by omega)
     · decide +kernel
     · decide +kernel
     · decide +kernel
 rintro _ _ ⟨S6,q,u6,hq,rfl,rfl⟩
 have hp6:=u6.pure Xl
 have u16:=u14.trans u6
 have hxl:(xs.set j q).length≤6:=by rw[List.length_set]; exact hx6
 have hxm:∀ x∈xs.set j q,sm 1 x=true:=fun x hx=>by
  rcases List.mem_or_eq_of_mem_set hx with hx | rfl
  · exact Vg x hx
  · exact hq
 generalize xs.set j q=ys at hxl hxm
 have et:eF hX (aC (eV 6) (aN)) (n9 n t (some (.p (.int (i:Int)))) (some (.ref S6.length)) (some (.p (.int d))) (some (.p (.int (j:Int))))) (S6++[.lst (ys.map .p)])=.ok (.p (.tup ys)) (S6++[.lst (ys.map .p)]):=Rs.sx.eq (by
  have hv:view (S6++[.lst (ys.map .p)]) (.ref S6.length)=some (.lst (ys.map id)):=pG (f:=id) (S:=S6++[.lst (ys.map fun x=>D.p (id x))]) (by simp)
  rw[Oi,gC (d:=.ref S6.length) rfl rfl,aG]
  simp only[cZ,dS,hv,aq,List.map_id,hX]
  refine⟨?_,?_⟩ <;> first | rfl | trivial)
 have ea:eB ck (eB ck (uD (eV 4) (oN) (Z.oS (eV 5))) (eT (aC (eF hX (aC (eV 6) (aN))) (aN)))) (uD (eV 4) (Z.oS (eB ck (eV 5) (eK (.int 1)))) (oN)) (n9 n t (some (.p (.int (i:Int)))) (some (.ref S6.length)) (some (.p (.int d))) (some (.p (.int (j:Int))))) (S6++[.lst (ys.map .p)])=.ok (.p (.tup ((Z.fN (t.steps.map aE.p) none (some (i:Int))++[.tup ys])++Z.fN (t.steps.map aE.p) (some ((i:Int)+1)) none))) (S6++[.lst (ys.map .p)]):=by
  have k1:=oB (xs:=t.steps.map aE.p) (lo:=none) (hi:=some (i:Int))
  have k2:=oB (xs:=t.steps.map aE.p) (lo:=some ((i:Int)+1)) (hi:=none)
  refine IS (IS (Es (ds:=t.steps.map aE.p) rfl rfl rfl) (Rs.sx.eq (by
   rw[JU,gC et rfl,aG]
   simp only[cR,aq,Option.map_some]
   refine⟨aR (by simp),?_⟩
   refine⟨?_,?_⟩ <;> first | rfl | trivial)) (rF (by rw[List.length_singleton]; omega))) (Es (ds:=t.steps.map aE.p) rfl rfl rfl) (rF (by rw[List.length_append,List.length_singleton]; omega))
 have k1:=oB (xs:=t.steps.map aE.p) (lo:=none) (hi:=some (i:Int))
 have k2:=oB (xs:=t.steps.map aE.p) (lo:=some ((i:Int)+1)) (hi:=none)
 rw[dD]
 refine uo (ps:=(Z.fN (t.steps.map aE.p) none (some (i:Int))++[.tup ys])++Z.fN (t.steps.map aE.p) (some ((i:Int)+1)) none) (yM hp6) h (La rfl rfl ea) rfl (fun p hq=>?_) (by rw[List.length_append,List.length_append,List.length_singleton]; omega) fun t' h'=>fin t' S6 _ h' u16
 rcases List.mem_append.mp hq with hq | hq
 · rcases List.mem_append.mp hq with hq | hq
   · exact Io p (xH hq)
   · rw[List.mem_singleton.mp hq]; exact Ta (by omega) hxm
 · exact Io p (xH hq)
end
end Kw
namespace Z
open PySem PySem.Spec PyProof.Rows L2
mutual
theorem oz:∀ (n:Nat) (p:P),fin n p=true→eqv p p=true
 | n, .non,_=>by simp[eqv]
 | n, .bl b,_=>by simp[eqv]
 | n, .int i,_=>by simp[eqv]
 | n, .str z,_=>by simp[eqv]
 | n+1, .lst ps,h=>by
  simp only[fin,List.all_eq_true] at h
  simp only[eqv]
  exact pB n ps h
 | n+1, .tup ps,h=>by
  simp only[fin,List.all_eq_true] at h
  simp only[eqv]
  exact pB n ps h
 | 0, .lst _,h=>by simp[fin] at h
 | 0, .tup _,h=>by simp[fin] at h
 | n, .dic _ _ _,h=>by cases n <;> simp[fin] at h
 | n, .ins _ _ _,h=>by cases n <;> simp[fin] at h
 | n, .glo _,h=>by cases n <;> simp[fin] at h
 | n, .ty _,h=>by cases n <;> simp[fin] at h
 | n, .scr _,h=>by cases n <;> simp[fin] at h
 | n, .exv _ _ _,h=>by cases n <;> simp[fin] at h
 | n, .dlk _ _,h=>by cases n <;> simp[fin] at h
theorem pB:∀ (n:Nat) (ps:List P),(∀ p∈ps,fin n p=true)→eqvAll ps ps=true
 | n,[],_=>by simp[eqvAll]
 | n,p::ps,h=>by
  simp only[eqvAll,Bool.and_eq_true]
  exact⟨oz n p (h p (by simp)),pB n ps fun q hq=>h q (List.mem_cons_of_mem _ hq)⟩
end
end Z
namespace Kw
open PySem PySem.Spec PyProof.Rows L2 Z
theorem uk {p:Z.P} (h:Z.fin dpt p=true):lm p p=some (.bl false):=by rw[B3 h h,oz dpt p h]; rfl
theorem Cb {t:Txt}:wg t.pl=true∧wg t.pt=true:=⟨nu fun q _=>rfl,nu fun q _=>rfl⟩
theorem OQ {s:aE} {names vals:List Str} (h:s.ok names vals):wg s.p=true:=by
 cases s with
 | write k n o v =>
  obtain⟨_,_,_,_,⟨i,rfl,_⟩ | ⟨y,_,rfl⟩⟩:=h <;> rfl
 | _=>rfl
theorem Mi {t:Txt} (h:t.ok):wg t.st=true:=nu fun s hs=>by
 obtain⟨vs,hv⟩:=nY h.st s hs
 exact OQ hv
theorem rT {α β:Type} {f:α→β} (hf:∀ a b,f a=f b→a=b):∀ {xs ys:List α},xs.map f=ys.map f→xs=ys
 | [],[],_=>rfl
 | [],_::_,h=>by cases h
 | _::_,[],h=>by cases h
 | x::xs,y::ys,h=>by
  rw[List.map_cons,List.map_cons] at h
  injection h with h1 h2
  rw[hf x y h1,rT hf h2]
theorem G9 {t t':Txt} (h1:t.pl=t'.pl) (h2:t.pt=t'.pt) (h3:t.st=t'.st):t=t':=by
 obtain⟨a,b,c⟩:=t
 obtain⟨a',b',c'⟩:=t'
 have h1:Z.P.tup (a.map cN)=.tup (a'.map cN):=h1
 have h2:Z.P.tup (b.map .str)=.tup (b'.map .str):=h2
 have h3:Z.P.tup (c.map aE.p)=.tup (c'.map aE.p):=h3
 injection h1 with h1
 injection h2 with h2
 injection h3 with h3
 have e1:a=a':=rT (fun p q e=>by
  obtain⟨p1,p2⟩:=p
  obtain⟨q1,q2⟩:=q
  simp only[cN,Z.P.tup.injEq,List.cons.injEq,Z.P.str.injEq,and_true] at e
  rw[e.1,e.2]) h1
 have e2:b=b':=rT (fun p q e=>by injection e) h2
 have e3:c=c':=rT (fun p q e=>G7 e) h3
 rw[e1,e2,e3]
theorem Jm {t t':Txt} (h:t.ok) (h':t'.ok) (e:t.note=t'.note):t=t':=by
 have a:=nh (S:=[]) (show clSt [] from rfl) h
 rw[e,nh (S:=[]) (show clSt [] from rfl) h'] at a
 injection a with a _
 injection a with a
 have a:Z.P.ins "Text" FT [t'.pl,t'.pt,t'.st]=.ins "Text" FT [t.pl,t.pt,t.st]:=a
 injection a with _ _ a
 injection a with a1 a
 injection a with a2 a
 injection a with a3 _
 exact G9 a1.symm a2.symm a3.symm
theorem Ep (t:Txt) (c:Nat):t.lines.take c=(t.pre c).lines:=by
 simp only[Z.Txt.lines,Txt.pre,List.take_append,List.map_take,List.length_append,List.length_map,Nat.sub_sub]
theorem sA {t:Txt} (hpt:0 < t.ptrs.length):t.lines≠[]:=fun e=>by
 have:=nc t
 rw[e] at this
 simp at this
 omega
section
variable {S S1 S2:ag} {n i:Nat} {sl:av} {t t':Txt} {d d':D} {F:Xc→av→ag→Prop} {N:av→ag→Prop} {T:D→ag→Prop} {E:Xc→ag→Prop} {Q:D→ag→Prop}
theorem Am {m:M} (hS:clSt S) (h:t.ok) (hm:m sl S=.ok (.p (TX t)) S):aw 1 aU (aC m (aN)) sl S=.ok (.p (.str t.note)) S:=Rs.sx.eq (by
 rw[kS,gC hm rfl,aG]
 refine⟨rfl,?_⟩
 have e:=yZ hS h
 have e:aU [.p (TX t)] S=.ok (.p (.str t.note)) S:=e
 rw[e,aG]
 exact⟨rfl,rfl⟩)
theorem wu {m:M} (h:t.ok) (fe:t.lines≠[]) (hm:m sl S=.ok (.p (.str t.note)) S):vt gm m (aC (eK (.str "\n")) aN) sl S=.ok (.p (.lst (t.lines.map .str))) S:=Rs.sx.eq (by
 have hb:=xV (ls:=t.lines) (fun l hl=>by
  obtain⟨ws,rfl,hw,_⟩:=mO h l hl
  exact zP hw) fe
 have hl:=(tu h).2
 rw[V5,hm,aG]
 show (match (.p (.str t.note):D) with | _=>_)
 simp only[]
 rw[gC (d:=.p (.str lf)) rfl rfl,aG]
 simp only[cZ,dS,eA,aq]
 have hz:t.note.length+2≤sizeLine:=Nat.le_trans (show t.note.length+2≤10002 by omega) (by decide)
 have:gm t.note [.str lf]=some (.lst ((PySem.Txt.split t.note lf).map .str)):=by
  simp only[gm]
  rw[if_pos ⟨by decide +kernel,hz⟩]
 rw[this,aq]
 unfold Txt.note
 rw[hb]
 refine⟨?_,?_⟩ <;> first | rfl | trivial)
abbrev HD (ns:List Int) (j n m:Nat) (t:Txt) (x5 x6 x7 x8 x9 Om Na x12 x13:Option D):av:=[some (.p (.scr ns)),some (.p (.int (j:Int))),some (.ref n),some (.p (.int (m:Int))),some (.p (.tup [t.pl,t.pt,t.st])),x5,x6,x7,x8,x9,Om,Na,x12,x13]
theorem NR {m1 m2:M} (hS:clSt S) (h:t.ok) (h':t'.ok) (e1:m1 sl S=.ok (.p (TX t)) S) (e2:m2 sl S=.ok (.p (TX t')) S) :
  tB lm (eB bP (aw 1 aU (aC m1 (aN))) (aw 1 aU (aC m2 (aN)))) (Cq "Text" dU false m1 m2) sl S=.ok false S:=by
 obtain⟨f1,f2,f3⟩:=h.fins
 obtain⟨g1,g2,g3⟩:=h'.fins
 have hn:=(tu h).1
 have Wa:=(tu h').1
 have k1:bP (.str t.note) (.str t'.note)=some (.bl (decide (t.note=t'.note))):=cg hn Wa
 have a1:=IS (Am hS h e1) (Am hS h' e2) k1
 have a2:Cq "Text" dU false m1 m2 sl S=.ok (.p (.bl (eqv t.pl t'.pl && (eqv t.pt t'.pt && eqv t.st t'.st)))) S:=Rs.sx.eq (by
  rw[VL,e1,aG,e2,aG,FR f1 f2 f3 g1 g2 g3,aG,Bool.false_xor]
  exact⟨rfl,rfl⟩)
 have hb:decide (t.note=t'.note)=(eqv t.pl t'.pl && (eqv t.pt t'.pt && eqv t.st t'.st)):=by
  rw[Bool.eq_iff_iff,decide_eq_true_iff,Bool.and_eq_true,Bool.and_eq_true,vX _ _ Cb.1 Cb.1,vX _ _ Cb.2 Cb.2,vX _ _ (Mi h) (Mi h')]
  constructor
  · intro e
    rw[Jm h h' e]
    exact⟨rfl,rfl,rfl⟩
  · rintro⟨h1,h2,h3⟩
    rw[G9 h1 h2 h3]
 rw[← hb] at a2
 refine Cm a1 a2 ?_
 cases decide (t.note=t'.note) <;> kernel_rfl
def tk (t:Txt) (c:Nat):Txt:=⟨t.places,t.ptrs,t.steps.take c⟩
theorem AC (h:t.ok) (c:Nat):(tk t c).ok:=⟨h.pl,h.pt,h.nl,h.nm,h.nd,h.kd,by show (t.steps.take c).length≤12; rw[List.length_take]; have:=h.sl; omega,nE c h.st⟩
theorem TR (t:Txt):tk t t.steps.length=t:=by unfold tk; rw[List.take_length]
theorem L0 {c:Nat} {s:aE} (hs:t.steps[c]?=some s):(tk t (c+1)).lines=(tk t c).lines++[s.line]:=by
 unfold Z.Txt.lines tk
 rw[List.take_add_one,hs]
 simp
theorem J1 {α:Type} (xs:List α) (x:α):Z.fN (xs++[x]) none (some (-1))=xs:=by
 unfold Z.fN HT.sIx
 simp
 rw[show (-1+((xs.length:Int)+1)).toNat=xs.length by omega]
 simp
theorem OT {c i j:Nat} {s:aE} (hS:clSt S) (h:t.ok) (hs:t.steps[c]?=some s) (hi:sl[i]?=some (some (.p (TX (tk t c))))) (hj:sl[j]?=some (some (.p s.p))):jQ "Text" "with_step" 1 [] bK (eV i) (aC (eV j) (aN)) sl S=.ok (.p (TX (tk t (c+1)))) S:=Rs.sx.eq (by
 have hk:=AC h c
 have Xu:=AC h (c+1)
 have yM:c < t.steps.length:=(List.getElem?_eq_some_iff.mp hs).1
 have Wq:=h.sl
 have hlen:(tk t c).steps.length=c:=by show (t.steps.take c).length=c; rw[List.length_take]; omega
 obtain⟨_,_,s3,_⟩:=h.sms
 have hq:sm 2 s.p=true:=sm_tup s3 _ (List.mem_map_of_mem (List.mem_of_getElem? hs))
 have hst:(tk t (c+1)).st=.tup ((tk t c).steps.map aE.p++[s.p]):=by
  show Z.P.tup ((t.steps.take (c+1)).map aE.p)=.tup ((t.steps.take c).map aE.p++[s.p])
  rw[List.take_add_one,hs]
  simp
 have hw:=(AC h (c+1)).wr
 have hw1:=hk.wr1 (by rw[hlen]; omega) s.p
 have hpl:(tk t (c+1)).pl=(tk t c).pl:=rfl
 have hpt:(tk t (c+1)).pt=(tk t c).pt:=rfl
 rw[hst,hpl,hpt,hw1] at hw
 refine HJ hi hj hS hk hq (fun _ _=>⟨?_,rfl⟩) (fun e=>?_)
 · show D.p (ng (tk t c).pl (tk t c).pt (.tup ((tk t c).steps.map aE.p++[s.p])))=.p (ng (tk t (c+1)).pl (tk t (c+1)).pt (tk t (c+1)).st)
   rw[hst]
   rfl
 · rcases e with e | e
   · rw[hlen] at e; omega
   · rw[e] at hw
     simp at hw)
theorem O4 {c i j:Nat} {s:aE} (hS:clSt S) (h:t.ok) (hpt:0 < t.ptrs.length) (hs:t.steps[c]?=some s) (hi:eV i sl S=.ok (.p (TX (tk t (c+1)))) S) (hj:eV j sl S=.ok (.p (TX (tk t c))) S) :
  tB lm (uD (vt gm (aw 1 aU (aC (eV i) (aN))) (aC (eK (.str "\n")) aN)) (oN) (Z.oS (eU ii (eK (.int 1))))) (vt gm (aw 1 aU (aC (eV j) (aN))) (aC (eK (.str "\n")) aN)) sl S=.ok false S:=by
 have k1:=AC h c
 have k2:=AC h (c+1)
 have a1:=wu k2 (sA hpt) (Am hS k2 hi)
 have a2:=wu k1 (sA hpt) (Am hS k1 hj)
 have a3:uD (vt gm (aw 1 aU (aC (eV i) (aN))) (aC (eK (.str "\n")) aN)) (oN) (Z.oS (eU ii (eK (.int 1)))) sl S=.ok (.p (.lst ((tk t c).lines.map .str))) S:=Rs.sx.eq (by
  rw[Uj,a1,aG,VR]
  show ((Z.oS (eU ii (eK (.int 1))) sl S).sx _ _)
  rw[show Z.oS (eU ii (eK (.int 1))) sl S=.ok (some (-1)) S from rfl,aG,A8]
  simp only[eA,aq]
  show lH (some (P.lst (Z.fN ((tk t (c+1)).lines.map P.str) none (some (-1))))) _
  rw[aq,L0 hs,List.map_append,List.map_cons,List.map_nil,J1]
  refine⟨?_,?_⟩ <;> first | rfl | trivial)
 have Y6:fin dpt (.lst ((tk t c).lines.map P.str))=true:=by
  show ((tk t c).lines.map P.str).all (fin 23)=true
  rw[List.all_map]
  refine List.all_eq_true.mpr fun l hl=>?_
  obtain⟨i,hi,e⟩:=List.mem_iff_getElem.mp hl
  exact (wc k1 (i:=i) (l:=l) (by rw[List.getElem?_eq_getElem hi,e])).1.2
 exact Cm a3 a2 (uk Y6)
theorem RM {c:Nat} (hS:clSt S) (h:t.ok) (hpt:0 < t.ptrs.length) (hc:1≤c) (h7:sl[7]?=some (some (.p (.lst (t.lines.map .str))))) (T6:sl[12]?=some (some (.p (.int (c:Int))))) :
  tB lm (aw 1 aU (aC (aw 1 dO (aC (vt lS (eK (.str "\n")) (aC (uD (eV 7) (oN) (Z.oS (eV 12))) aN)) (aN))) (aN))) (vt lS (eK (.str "\n")) (aC (uD (eV 7) (oN) (Z.oS (eV 12))) aN)) sl S=.ok false S:=by
 have hk:=ET h c
 have hn:=(tu hk).1
 have j1:vt lS (eK (.str "\n")) (aC (uD (eV 7) (oN) (Z.oS (eV 12))) aN) sl S=.ok (.p (.str (t.pre c).note)) S:=Rs.sx.eq (by
  have a1:uD (eV 7) (oN) (Z.oS (eV 12)) sl S=.ok (.p (.lst ((t.pre c).lines.map .str))) S:=Rs.sx.eq (by
   rw[Uj,qz,h7]
   show ((oN sl S).sx _ _)
   rw[VR]
   show ((Z.oS (eV 12) sl S).sx _ _)
   have e12:Z.oS (eV 12) sl S=.ok (some (c:Int)) S:=by
    have:eV 12 sl S=.ok (.p (.int (c:Int))) S:=Rs.sx.eq (by rw[qz,T6]; exact⟨rfl,rfl⟩)
    unfold Z.oS
    rw[this]
    rfl
   rw[e12,aG,A8]
   simp only[eA,aq]
   show lH (some (P.lst (Z.fN (t.lines.map P.str) none (some (c:Int))))) _
   have hct:Z.fN (t.lines.map P.str) none (some (c:Int))=(t.pre c).lines.map P.str:=by
    rw[← Ep,List.map_take]
    unfold Z.fN HT.sIx
    simp
    rw[if_neg (by omega)]
    omega
   rw[aq,hct]
   refine⟨?_,?_⟩ <;> first | rfl | trivial)
  rw[V5,Ek]
  show (aC _ _ _ _).sx _ _
  rw[gC a1 rfl,aG]
  simp only[cZ,dS,eA,aq]
  rw[show lS (Str.ofString "\n") [.lst ((t.pre c).lines.map .str)]=some (.str (t.pre c).note) from AI hk,aq]
  refine⟨?_,?_⟩ <;> first | rfl | trivial)
 have r1:aw 1 dO (aC (vt lS (eK (.str "\n")) (aC (uD (eV 7) (oN) (Z.oS (eV 12))) aN)) (aN)) sl S=.ok (.p (TX (t.pre c))) S:=Rs.sx.eq (by
  rw[kS,gC j1 rfl,aG]
  refine⟨rfl,?_⟩
  have e:dO [.p (.str (t.pre c).note)] S=.ok (.p (TX (t.pre c))) S:=AN hS hk
  rw[e,aG]
  exact⟨rfl,rfl⟩)
 exact Cm (Am hS hk r1) j1 (uk (show fin dpt (.str (t.pre c).note)=true from hn))
theorem ix2 {a b c:Z.P} {i:Nat} (h:sl[i]?=some (some (.p (.tup [a,b,c])))):aC (bV (eV i) (eK (.int 0))) (aC (bV (eV i) (eK (.int 1))) (aC (eT (aN)) (aN))) sl S=.ok [.p a, .p b, .p (.tup [])] S:=E3 (by
 have g:eV i sl S=.ok (.p (.tup [a,b,c])) S:=Rs.sx.eq (by rw[qz,h]; exact⟨rfl,rfl⟩)
 rw[gC (uv g rfl (k:=0) (q:=a) rfl) (gC (uv g rfl (k:=1) (q:=b) rfl) (gC (d:=.p (.tup [])) rfl rfl)),aG]
 exact⟨rfl,rfl⟩)
theorem OZ {a b c:List Z.P} {i:Nat} (ha:a.length≤100) (hb:b.length≤100) (hc:c.length≤100) (h4:sl[4]?=some (some (.p (.tup [.tup a, .tup b, .tup c])))) (YD:sl.length=14) :
  eF ES (aC (wH (mE (eV 4)) (bh 13) iY (eF dh (aC (eV 13) (aN))) [13]) (aN)) sl S=.ok (.p (.int ((a.length+b.length+c.length:Nat):Int))) S:=Rs.sx.eq (by
 have g:mE (eV 4) sl S=.ok ([a,b,c].map Z.P.tup) S:=by
  have g:eV 4 sl S=.ok (.p (.tup [.tup a, .tup b, .tup c])) S:=Rs.sx.eq (by rw[qz,h4]; exact⟨rfl,rfl⟩)
  unfold mE
  rw[g]
  rfl
 have hm:=lJ (eff:=bh 13) (me:=eF dh (aC (eV 13) (aN))) (own:=[13]) (sl:=sl) (S:=S) Z.P.tup (fun xs=>.int (xs.length:Int)) [a,b,c] [] (fun xs hx=>⟨(dz sl [13]).set 13 (some (.p (.tup xs))),rfl,Rs.sx.eq (by
  have hl:xs.length≤1000:=by
   simp only[List.mem_cons,List.not_mem_nil,or_false] at hx
   rcases hx with rfl | rfl | rfl <;> omega
  have hw:(dz sl [13]).length=14:=by rw[← YD]; simp[dz]
  have g13:eV 13 ((dz sl [13]).set 13 (some (.p (.tup xs)))) S=.ok (.p (.tup xs)) S:=Rs.sx.eq (by rw[qz,List.getElem?_set_self (by omega)]; exact⟨rfl,rfl⟩)
  rw[Oi,gC g13 rfl,aG]
  simp only[cZ,dS,eA,aq,dh,if_pos (aR hl)]
  refine⟨?_,?_⟩ <;> first | rfl | trivial)⟩) (aR (by simp))
 rw[Oi,gy,Ya,g,aG,hm,aG,mv,List.nil_append]
 simp only[cZ,dS,eA,aq]
 rw[show ES [.lst ([a,b,c].map fun xs=>Z.P.int (xs.length:Int))]=some (.int ((a.length:Int)+b.length+c.length)) by
  simp[ES,jK]
  omega,aq]
 exact⟨rfl,trivial⟩)
theorem Og {zs:List Str} {i:Nat} (hz:zs.length≤1000) (hi:sl[i]?=some (some (.p (.lst (zs.map .str))))):eF dh (aC (eV i) (aN)) sl S=.ok (.p (.int (zs.length:Int))) S:=Rs.sx.eq (by
 have g:eV i sl S=.ok (.p (.lst (zs.map .str))) S:=Rs.sx.eq (by rw[qz,hi]; exact⟨rfl,rfl⟩)
 rw[Oi,gC g rfl,aG]
 simp only[cZ,dS,eA,aq,dh,List.length_map,if_pos (aR hz)]
 refine⟨?_,?_⟩ <;> first | rfl | trivial)
theorem SC {m1 m2:M} (h:t.ok) (e1:m1 sl S=.ok (.p (TX t)) S) (e2:m2 sl S=.ok (.p (TX t)) S):PX "Text" dU true m1 m2 sl S=.ok false S:=tok (by
 obtain⟨f1,f2,f3⟩:=h.fins
 unfold PX Cq
 rw[aM,aM,e1,aG,aM,e2,aG,FR f1 f2 f3 f1 f2 f3,oz _ _ f1,oz _ _ f2,oz _ _ f3,aG]
 simp)
end
theorem law_true (ns:List Int) (hn:ns.length≤63):∃ S,pF [.p (.scr ns)] []=.ok (.p (.bl true)) S:=by
 have main:(pF [.p (.scr ns)] []).sx IK fun d _=>d=.p (.bl true):=by
  unfold pF Q7
  refine wm fun F N _ _=>?_
  refine bZ (fun sl S1=>fq S1∧∃ b,b.length=13∧sl=some (.p (.scr ns))::b) ?_ ?_
  · intro R hR
    simp[List.replicate]
    refine⟨by split <;> split <;> omega,?_⟩
    refine A5 (fun j sl S1=>fq S1∧∃ b,b.length=13∧sl=some (.p (.scr ns))::b) ?_ (fun sl S1 h=>hR _ _ h) ⟨(fun c hc=>by simp at hc),_,rfl,rfl⟩
    rintro j sl S hj ⟨hp,b,hb,rfl⟩
    have hj6:j < 64:=by
     revert hj
     split <;> split <;> omega
    obtain⟨a1,a2,a3,a4,a5,a6,a7,a8,a9,Ea,D6,yA,xf,rfl⟩:∃ a1 a2 a3 a4 a5 a6 a7 a8 a9 Ea D6 yA xf,b=[a1,a2,a3,a4,a5,a6,a7,a8,a9,Ea,D6,yA,xf]:=by
     match b,hb with
     | [a1,a2,a3,a4,a5,a6,a7,a8,a9,Ea,D6,yA,xf],_=>exact⟨_,_,_,_,_,_,_,_,_,_,_,_,_,rfl⟩
    refine⟨_,rfl,fun R hR=>?_⟩
    refine cY (fun d S1=>∃ g m:Int,0≤g∧0≤m∧m < 2147483648∧d=.ref S.length∧S1=S++[Di g m]) ?_ ?_
    · intro R hR
      simp
      exact NK (by omega) (by omega) fun g m h1 h2 h3=>hR _ _ ⟨g,m,h1,h2,h3,rfl,rfl⟩
    rintro _ _ ⟨g,m,hg,hm,hm',rfl,rfl⟩
    have hb:zU (S++[Di g m]) S.length:=⟨g,m,by simp,hg,hm,hm'⟩
    have Xx:fq (S++[Di g m]):=fun d hd=>by
     rcases List.mem_append.mp hd with hd | hd
     · exact hp d hd
     · rw[List.mem_singleton.mp hd]; rfl
    generalize S++[Di g m]=S0 at hb Xx
    generalize S.length=n at hb
    simp only[List.set,Int.zero_add]
    show ((ao (lZ _ _ _) _) [some (.p (.scr ns)),some (.p (.int (j:Int))),some (.ref n),a3,a4,a5,a6,a7,a8,a9,Ea,D6,yA,xf] S0).sx _ _ _
    have ea:∀ {S:ag} {E:Xc→ag→Prop} {B:Int→ag→Prop},(zu S (.p (.int 5))).sx E B=B 5 S:=by intros; simp
    rw[dD,JK,WY,Ek,ea]
    refine⟨by decide,?_⟩
    refine A5 (lo:=0) (fun _ sl S'=>fq S'∧zU S' n∧∃ b,b.length=11∧sl=some (.p (.scr ns))::some (.p (.int (j:Int)))::some (.ref n)::b) ?_ ?_ ⟨Xx,hb,[a3,a4,a5,a6,a7,a8,a9,Ea,D6,yA,xf],rfl,rfl⟩
    · rintro q sl S1 hq ⟨Xd,hb2,b,hbl,rfl⟩
      obtain⟨a3,a4,a5,a6,a7,a8,a9,Ea,D6,yA,xf,rfl⟩:∃ a3 a4 a5 a6 a7 a8 a9 Ea D6 yA xf,b=[a3,a4,a5,a6,a7,a8,a9,Ea,D6,yA,xf]:=by
       match b,hbl with
       | [a3,a4,a5,a6,a7,a8,a9,Ea,D6,yA,xf],_=>exact⟨_,_,_,_,_,_,_,_,_,_,_,rfl⟩
      refine⟨[some (.p (.scr ns)),some (.p (.int (j:Int))),some (.ref n),some (.p (.int (q:Int))),a4,a5,a6,a7,a8,a9,Ea,D6,yA,xf],by rw[Int.zero_add]; rfl,fun R' yB=>?_⟩
      refine cY (fun d S2=>∃ t:Txt,t.ok∧0 < t.ptrs.length∧0 < t.steps.length∧jl n S1 S2∧d=.p (.tup [t.pl,t.pt,t.st])) (fun R hR=>?_) ?_
      · rw[Oh,gy,qz]
        show ((aC _ _) _ _).sx _ _
        rw[gy,Ek,mv]
        refine⟨rfl,?_⟩
        exact IB (most:=7) (r:=4) hb2 Xd (by omega) (by omega) (by omega) (by omega) fun t S2 ht _ h2 h3 _ u=>hR _ _ ⟨t,ht,h2,h3,u,rfl⟩
      rintro _ S2 ⟨t,ht,hpt,hst,u1,rfl⟩
      have Qa:=u1.pure Xd
      have Uu:=u1.bag hb2
      have Wq:=ht.sl
      simp only[List.set]
      show ((ao _ _) (HD ns j n q t a5 a6 a7 a8 a9 Ea D6 yA xf) S2).sx _ _ _
      refine bZ (fun sl S3=>∃ t':Txt,t'.ok∧jl n S2 S3∧sl=HD ns j n q t (some (.p (TX t))) (some (.p (TX t'))) a7 a8 a9 Ea D6 yA xf) (fun R hR=>?_) ?_
      · rw[QG,gy,EY Qa.clSt ht (Yz rfl),aG,gy,kS,gy,qz]
        show ((aC _ _) _ _).sx _ _
        rw[gy,qz]
        show ((aN) _ _).sx _ _
        rw[mv]
        refine⟨rfl,?_⟩
        refine KR Uu Qa ht hst hpt fun t' S3 h' u=>?_
        rw[mv]
        exact⟨rfl,hR _ _ ⟨t',h',u,rfl⟩⟩
      rintro _ S3 ⟨t',ht',u2,rfl⟩
      have Xl:=u2.pure Qa
      have Wl:=u2.bag Uu
      have hS:=Xl.clSt
      have hll:t.lines.length≤17:=nB ht
      rw[dD,yP,NR hS ht ht' rfl rfl,aG]
      simp only[Bool.false_eq_true,if_false,gW]
      rw[dD,AB,wu ht (sA hpt) (Am hS ht rfl),aG]
      simp only[List.set]
      show ((ao _ _) (HD ns j n q t (some (.p (TX t))) (some (.p (TX t'))) (some (.p (.lst (t.lines.map .str)))) a8 a9 Ea D6 yA xf) S3).sx _ _ _
      have e8:=EY (sl:=HD ns j n q t (some (.p (TX t))) (some (.p (TX t'))) (some (.p (.lst (t.lines.map .str)))) a8 a9 Ea D6 yA xf) (ma:=aC (bV (eV 4) (eK (.int 0))) (aC (bV (eV 4) (eK (.int 1))) (aC (eT (aN)) (aN)))) hS (AC ht 0) (ix2 (a:=t.pl) (b:=t.pt) (c:=t.st) rfl)
      rw[dD,AB,e8,aG]
      simp only[List.set]
      show ((ao _ _) (HD ns j n q t (some (.p (TX t))) (some (.p (TX t'))) (some (.p (.lst (t.lines.map .str)))) (some (.p (TX (tk t 0)))) a9 Ea D6 yA xf) S3).sx _ _ _
      have eI:FW (bV (eV 4) (eK (.int 2))) (HD ns j n q t (some (.p (TX t))) (some (.p (TX t'))) (some (.p (.lst (t.lines.map .str)))) (some (.p (TX (tk t 0)))) a9 Ea D6 yA xf) S3=.ok (ig (t.steps.map aE.p)) S3:=by
       unfold FW
       rw[uv (ps:=[t.pl,t.pt,t.st]) (k:=2) (q:=t.st) rfl rfl rfl]
       rfl
      rw[dD,JK,eI,aG]
      refine jT (fun k sl S'=>S'=S3∧∃ x9 Om Na,sl=HD ns j n q t (some (.p (TX t))) (some (.p (TX t'))) (some (.p (.lst (t.lines.map .str)))) (some (.p (TX (tk t k)))) x9 Om Na yA xf) ?_ ?_ ⟨rfl,_,_,_,rfl⟩
      · rintro k p sl S' jH ⟨rfl,x9,Om,Na,rfl⟩
        unfold ig at jH
        rw[List.getElem?_mapIdx,List.getElem?_map] at jH
        cases hs:t.steps[k]? with
        | none=>rw[hs] at jH; cases jH
        | some s =>
         rw[hs] at jH
         cases jH
         refine⟨HD ns j n q t (some (.p (TX t))) (some (.p (TX t'))) (some (.p (.lst (t.lines.map .str)))) (some (.p (TX (tk t k)))) (some (.p (.int (k:Int)))) (some (.p s.p)) Na yA xf,rfl,fun R3 hR3=>?_⟩
         rw[dD,AB,OT hS ht hs (i:=8) (j:=10) rfl rfl,aG]
         simp only[List.set]
         show ((ao _ _) (HD ns j n q t (some (.p (TX t))) (some (.p (TX t'))) (some (.p (.lst (t.lines.map .str)))) (some (.p (TX (tk t k)))) (some (.p (.int (k:Int)))) (some (.p s.p)) (some (.p (TX (tk t (k+1))))) yA xf) S').sx _ _ _
         rw[dD,yP,O4 hS ht hpt hs (i:=11) (j:=8) rfl rfl,aG]
         simp only[Bool.false_eq_true,if_false,gW]
         rw[dD,AB,qz]
         show (az _ S').sx _ _ _
         rw[gW]
         exact hR3 _ _ ⟨rfl,_,_,_,rfl⟩
      · rintro sl S' ⟨rfl,x9,Om,Na,rfl⟩
        have So:(ig (t.steps.map aE.p)).length=t.steps.length:=by simp[ig]
        rw[So,TR]
        have cs:=OZ (sl:=HD ns j n q t (some (.p (TX t))) (some (.p (TX t'))) (some (.p (.lst (t.lines.map .str)))) (some (.p (TX t))) x9 Om Na yA xf) (S:=S') (a:=t.places.map cN) (b:=t.ptrs.map .str) (c:=t.steps.map aE.p) (i:=0) (by have:=ht.pl; rw[List.length_map]; omega) (by have:=ht.pt; rw[List.length_map]; omega) (by rw[List.length_map]; omega) rfl rfl
        have cl:=Og (sl:=HD ns j n q t (some (.p (TX t))) (some (.p (TX t'))) (some (.p (.lst (t.lines.map .str)))) (some (.p (TX t))) x9 Om Na yA xf) (S:=S') (zs:=t.lines) (i:=7) (by omega) rfl
        have YQ:(((t.places.map cN).length+(t.ptrs.map Z.P.str).length+(t.steps.map aE.p).length:Nat):Int)=(t.lines.length:Int):=by
         rw[nc,List.length_map,List.length_map,List.length_map]
        rw[YQ] at cs
        have c2:=Cm cl cs (f:=lm) (b:=false) (uk rfl)
        have c1:=SC (S:=S') (sl:=HD ns j n q t (some (.p (TX t))) (some (.p (TX t'))) (some (.p (.lst (t.lines.map .str)))) (some (.p (TX t))) x9 Om Na yA xf) (m1:=eV 8) (m2:=eV 5) ht rfl rfl
        rw[dD,yP,P6,c1,aG,if_neg Bool.false_ne_true,c2,aG]
        simp only[Bool.false_eq_true,if_false,gW]
        refine cY (fun d S5=>∃ c:Nat,1≤c∧d=.p (.int (c:Int))∧jl n S' S5) (fun R hR=>?_) ?_
        · rw[SJ,Ek,kS,gy,qz]
          show ((aC _ _) _ _).sx _ _
          rw[gy,cl,aG,mv]
          refine⟨rfl,?_⟩
          have ZK:0 < t.lines.length:=List.length_pos_iff.mpr (sA hpt)
          refine bA (many:=(t.lines.length:Int)) Wl (by omega) (by omega) fun e S5 e0 e1 u=>?_
          rw[jU]
          simp only[eA,aq]
          rw[show ck (.int 1) (.int e)=some (.int ((e.toNat+1:Nat):Int)) by
           show some (Z.P.int (1+e))=some (Z.P.int ((e.toNat+1:Nat):Int))
           congr 2
           omega,aq]
          exact hR _ _ ⟨e.toNat+1,by omega,rfl,u⟩
        rintro _ S5 ⟨c,hc,rfl,u5⟩
        have hp5:=u5.pure Xl
        have hb5:=u5.bag Wl
        simp only[List.set]
        show ((ao _ _) (HD ns j n q t (some (.p (TX t))) (some (.p (TX t'))) (some (.p (.lst (t.lines.map .str)))) (some (.p (TX t))) x9 Om Na (some (.p (.int (c:Int)))) xf) S5).sx _ _ _
        rw[dD,yP,RM hp5.clSt ht hpt hc rfl rfl,aG]
        simp only[Bool.false_eq_true,if_false,gW]
        exact yB _ _ ⟨hp5,hb5,_,rfl,rfl⟩
    · rintro sl S' ⟨jH,hb',b,hbl,rfl⟩
      rw[gW]
      exact hR _ _ ⟨jH,_,by simp[hbl],rfl⟩
  · rintro sl S1 ⟨hp,b,hb,rfl⟩
    rw[dD,CU,Ek]
 obtain⟨dd,S,e,rfl⟩:=main.ok
 exact⟨S,e⟩
end Kw
theorem PySem.Challenge.cw_lastkind_k07_whole_notes_one_to_one_holds : PySem.Challenge.rw_lastkind_k07_whole_notes_one_to_one.Holds :=
 Kw.fHn Kw.law_true
